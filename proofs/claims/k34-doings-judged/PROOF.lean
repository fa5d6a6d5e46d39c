import PyProof.Rows.All
import Wide.All
import OpenK.AllK
import Wide.FinOn
import HandS.ForMost
import HandS.ForExc
import HandS.TupMul
import HandS.TupAny
import HandS.Iter
import KE.GoesMore
import HandS.Flow
import HandS.IsInst
import HandS.Wide
import HandS.TupLe
import HandS.CallSlots
import PyProof.Rows.IntBool
import HandS.SortInts
import HandS.Sort
import HandS.Deep
import HandS.More
import HandS.Zip
import HandS.Conv
import HandS.Ends
import HandS.EndBits
import HandS.Style
import HandS.SortOrd
import KE.KRevSl
import HandS.OwnEq
import HandS.DictComp
import HandS.TryOnly
import PyProof.InstEq
import PySem.Challenge.RW_takenover_k34_doings_for_finds_judged
set_option Elab.async false
set_option linter.all false
set_option maxRecDepth 100000
set_option maxHeartbeats 4000000
namespace L2
open PySem PySem.Spec PyProof.Rows
theorem tk_mulSame (l : Addr) (items : Array Value) (n : Nat) (dd : Option Addr) (sl : Array (Option Value)) (x : Int) (u : Tok) (c0 : (decide (x < -(2 ^ 63)) || decide (x ≥ 2 ^ 63)) = false) (c1 : (items.isEmpty || x == 1) = true) :
    Meets (Builtin.«tuple.__mul__» ⟨[.ref l, .int x u], []⟩) (fun _ R s => s.heap.get? l = some { cls := .type "tuple", dict := dd, data := .seq items n, slots := sl } ∧ R (.ok (.ret (Value.ref l))) s) :=
  .of_wp fun prog w A R s h => by
    obtain ⟨hp, g, d, tk, os⟩ := s
    obtain ⟨hl, h⟩ := h
    have f1 := AutoSeq1.idx_int
    wp_walk using wpAny_loadPart' hl
    repeat (first
      | (refine wpAny_ite_false (decide_eq_false (by rw [c0]; exact Bool.false_ne_true)) ?_; wp_walk using wpAny_loadPart' hl)
      | (refine wpAny_ite_true (decide_eq_true (by rw [c1])) ?_; wp_walk using wpAny_loadPart' hl))
    exact ⟨_, rfl, h⟩
theorem tk_mulNone (l : Addr) (items : Array Value) (n : Nat) (dd : Option Addr) (sl : Array (Option Value)) (x : Int) (u : Tok) (c0 : (decide (x < -(2 ^ 63)) || decide (x ≥ 2 ^ 63)) = false) (c1 : (items.isEmpty || x == 1) = false) (c2 : (decide (x ≤ 0) || items.isEmpty) = true) :
    Meets (Builtin.«tuple.__mul__» ⟨[.ref l, .int x u], []⟩) (fun _ R s => s.heap.get? l = some { cls := .type "tuple", dict := dd, data := .seq items n, slots := sl } ∧
      R (.ok (.ret (Value.ref s.heap.objs.size))) { s with heap := s.heap.push { cls := Value.type "tuple", data := Data.seq #[] }, toks := s.toks }) :=
  .of_wp fun prog w A R s h => by
    obtain ⟨hp, g, d, tk, os⟩ := s
    obtain ⟨hl, h⟩ := h
    have f1 := AutoSeq1.idx_int
    wp_walk using wpAny_loadPart' hl
    repeat (first
      | (refine wpAny_ite_false (decide_eq_false (by rw [c0]; exact Bool.false_ne_true)) ?_; wp_walk using wpAny_loadPart' hl)
      | (refine wpAny_ite_false (decide_eq_false (by rw [c1]; exact Bool.false_ne_true)) ?_; wp_walk using wpAny_loadPart' hl)
      | (refine wpAny_ite_true (decide_eq_true (by rw [c2])) ?_; wp_walk using wpAny_loadPart' hl))
    exact ⟨_, rfl, h⟩
/-- t * k, any k up to 1000 -/
def rRepA (K : PySem.W.Frag) : R2 := fun x y H Q => ∃ l k xs, x = .ref l ∧ y = .int k ∧ SqT K H l xs ∧ -1000000 ≤ k ∧ k ≤ 1000 ∧ xs.length ≤ 1000 ∧
  (xs = [] ∨ k = 1 → Q (.ref l) H) ∧ (xs ≠ [] → k ≠ 1 → ∀ p, H p = none → Q (.ref p) (upd H p (.tup (List.replicate k.toNat xs).flatten)))
theorem op_repA {X : Cx} : OpR X (binaryOp .Mult) (rRepA X.K) := by
  intro pins s σ H x y v u Q I rx ry h
  obtain ⟨l, k, xs, rfl, rfl, hT, h1, h2, hz, q1, q2⟩ := h
  by_cases hbig : xs ≠ [] ∧ 2 ≤ k
  · exact op_repT pins s σ H _ _ v u Q I rx ry ⟨l, k, xs, rfl, rfl, hT, hbig.1, hbig.2, h2, hz, q2 hbig.1 (by omega)⟩
  cases rx
  obtain ⟨t, rfl⟩ := ry
  obtain ⟨its, r, ⟨⟨cls, dd, data, sl⟩, ho, hc, n, hd⟩, hs⟩ := I.tuple hT
  simp only at hc hd
  subst hc hd
  have hle : its.length = xs.length := r.length.symm
  have c0 : (decide (k < -(2 ^ 63)) || decide (k ≥ 2 ^ 63)) = false := by
    rw [decide_eq_false (by omega), decide_eq_false (by omega)] <;> rfl
  have emp : its.toArray.isEmpty = decide (xs = []) := by
    cases its with
    | nil => cases r; rfl
    | cons a b => cases r; rfl
  by_cases hsame : xs = [] ∨ k = 1
  · have c1 : (its.toArray.isEmpty || k == 1) = true := by
      rw [emp]
      rcases hsame with h | h
      · simp [h]
      · simp [h]
    exact wpAny_binaryOp_repeat_ref (T := "tuple") (U := "int") (by decide) ⟨_, ho, rfl⟩ (fun s' => typeIs_int s' k t) noFill_tuple_mul F.fills_int_mul F.slot_int_rmul repeat_tuple F.slot_int_index.lookup
      (call_meets F.slot_int_rmul (typeIs_int s k t) F.entry_int_rmul (F.args_int_rmul_2 _ _) (int_rmul_tuple k t l its.toArray n dd sl)
        ⟨ho, rfl, ⟨_, ho, rfl⟩, call_meets F.slot_tuple_mul ⟨_, ho, rfl⟩ F.entry_tuple_mul (F.args_tuple_mul_2 _ _) (tk_mulSame l its.toArray n dd sl k t c0 c1) ⟨ho, ⟨.ref l, H, I, rfl, q1 hsame⟩⟩⟩)
  · have hne : xs ≠ [] := fun e => hsame (.inl e)
    have hk1 : k ≠ 1 := fun e => hsame (.inr e)
    have hk0 : k ≤ 0 := by
      have : ¬ 2 ≤ k := fun e => hbig ⟨hne, e⟩
      omega
    have c1 : (its.toArray.isEmpty || k == 1) = false := by
      rw [emp, decide_eq_false hne, Bool.false_or]
      exact beq_eq_false_iff_ne.mpr hk1
    have c2 : (decide (k ≤ 0) || its.toArray.isEmpty) = true := by rw [decide_eq_true hk0]; rfl
    refine wpAny_binaryOp_repeat_ref (T := "tuple") (U := "int") (by decide) ⟨_, ho, rfl⟩ (fun s' => typeIs_int s' k t) noFill_tuple_mul F.fills_int_mul F.slot_int_rmul repeat_tuple F.slot_int_index.lookup
      (call_meets F.slot_int_rmul (typeIs_int s k t) F.entry_int_rmul (F.args_int_rmul_2 _ _) (int_rmul_tuple k t l its.toArray n dd sl)
        ⟨ho, rfl, ⟨_, ho, rfl⟩, call_meets F.slot_tuple_mul ⟨_, ho, rfl⟩ F.entry_tuple_mul (F.args_tuple_mul_2 _ _) (tk_mulNone l its.toArray n dd sl k t c0 c1 c2) ⟨ho, ?_⟩⟩)
    have hk : k.toNat = 0 := by omega
    have q := q2 hne hk1 s.heap.objs.size (I.hok.fresh (Nat.le_refl _))
    rw [hk] at q
    refine ⟨.ref s.heap.objs.size, _, I.laid (t' := s.toks) (o := .tup []) (fun b ob q => Heap.get?_push_of_some _ q) (Nat.le_refl _) ?_, rfl, q⟩
    exact ⟨Nat.zero_le _, [], .nil, IsTup.new _ _⟩

/-- X(), X an own exception class without own __init__ -/
theorem pmk_ownN {X : Cx} {pos : Pos} {C : Addr} {bmB : List Value} {B newId initId : String} {x : Str} {p : Pos} (F : ExcBaseFacts B newId initId bmB) (q : PySem.W.excIn X.K C bmB newId = true) (gC : X.mg x = some (.ref C))
    (kC : PySem.W.keepIn X.K (.ref C) = true) (r : Raises X (.ref C)) (hg : Gl X x) (hdb : (x == ("__debug__" : Str)) = false := by decide) :
    PMk X (.Call (.Name x p) [] [] pos) (fun σ H Q => Q (.ref C) none H) := by
  intro pins s σ H Q I h
  refine wpAny_Call_Name_kw (ld_glob I hg gC ?_ hdb)
  refine PySem.W.callWith_K0 I.kIn kC ?_
  show wpAny _ _ (call (.ref C) []) _ _ _
  obtain ⟨bm, N, nm, qn, bs, hdct, sn, sub, ab, col, dd, k0, k1, k2, k3, k5, mN, hC, hN, hni, T⟩ := exc_obj I.kIn q
  refine wpAny_call_exc_subT F T hC hN hni (fun h' e hm => ?_) (by show 0 ≤ sizeLine; exact Nat.zero_le _)
  exact mk_of I hm r h (I.hok.gone hm.new)
end L2

set_option Elab.async false
set_option linter.all false
set_option maxRecDepth 100000
set_option maxHeartbeats 4000000
namespace PySem
open Sem (wp)
open AutoSeq1 (wpAny_loadPart')
theorem tk_enum_newT (l : Addr) (items : Array Value) (n : Nat) (dct : Option Addr) (sl : Array (Option Value)) :
    Meets (Builtin.«enumerate.__new__» ⟨[.type "enumerate", .ref l], []⟩) (fun _ R s => s.heap.get? l = some { cls := .type "tuple", dict := dct, data := .seq items n, slots := sl } ∧
      R (.ok (.ret (.ref (s.heap.push { cls := .type "tuple_iterator", data := .fields #[.ref l, .int 0 0] }).objs.size)))
        { s with heap := (s.heap.push { cls := .type "tuple_iterator", data := .fields #[.ref l, .int 0 0] }).push { cls := .type "enumerate", data := .fields #[.none, .bool false, .ref s.heap.objs.size, rawInt 0, .none, .none] } }) :=
  .of_wp fun prog w A R s h => by
    obtain ⟨hp, g, d, tk, os⟩ := s; obtain ⟨hl, h⟩ := h
    have hsub := sub_enumerate
    have hL : Heap.IsTuple (Shared.heap ⟨hp, g, d, tk, os⟩) l items := ⟨_, hl, rfl, n, rfl⟩
    wp_walk using wpAny_loadPart' hl
    refine wpAny_stack_any fun st => wpAny_pure ?_
    split
    · rename_i c _ _ _ _ _
      cases (c == Value.type "enumerate")
      · wp_walk using wpAny_loadPart' hl, wpAny_pyIter_tuple hL
        exact ⟨_, rfl, h⟩
      · wp_walk using wpAny_loadPart' hl, wpAny_pyIter_tuple hL
        exact ⟨_, rfl, h⟩
    · wp_walk using wpAny_loadPart' hl, wpAny_pyIter_tuple hL
      exact ⟨_, rfl, h⟩
section
variable {prog : Program} {w : World} {A : Around} {E : Value → Shared → Prop} {s : Shared}
theorem tk_call_enumT {l : Addr} {items : Array Value} {Q : Value → Shared → Prop} (hL : s.heap.IsTuple l items)
    (h : ∀ h', IsEnum h' (s.heap.objs.size + 1) s.heap.objs.size 0 .none → h'.IsTupleIter s.heap.objs.size l 0 → h'.objs.size = s.heap.objs.size + 2 →
      (∀ b o, s.heap.get? b = some o → h'.get? b = some o) → Q (.ref (s.heap.objs.size + 1)) { s with heap := h' }) :
    wpAny (model prog w) A (call (.type "enumerate") [.ref l]) Q E s := by
  obtain ⟨⟨c, dct, dt, sl⟩, hl, hc, n, hd⟩ := hL
  replace hc : c = .type "tuple" := hc
  replace hd : dt = .seq items n := hd
  subst hc hd
  refine callType_new F.called_enumerate (by decide) (F.typeCall_enumerate_1 _) (F.newCall_enumerate_1 _) (fun obj => F.args_object_init_2 obj _) F.entry_enumerate_new
    (tk_enum_newT l items n dct sl) ⟨hl, ?_⟩
  have hz : (s.heap.push { cls := .type "tuple_iterator", data := .fields #[.ref l, .int 0 0] }).objs.size = s.heap.objs.size + 1 := Heap.size_push ..
  show _ ∧ _
  rw [hz]
  have he : IsEnum ((s.heap.push { cls := .type "tuple_iterator", data := .fields #[.ref l, .int 0 0] }).push
      { cls := .type "enumerate", data := .fields #[.none, .bool false, .ref s.heap.objs.size, rawInt 0, .none, .none] }) (s.heap.objs.size + 1) s.heap.objs.size 0 .none := by
    have := Heap.get?_push_size (s.heap.push { cls := .type "tuple_iterator", data := .fields #[.ref l, .int 0 0] })
      (o := { cls := .type "enumerate", data := .fields #[.none, .bool false, .ref s.heap.objs.size, rawInt 0, .none, .none] }) rfl
    rw [hz] at this; exact this
  refine ⟨⟨_, he, rfl⟩, h _ he ⟨_, Heap.get?_push_of_some _ (Heap.get?_push_size _ rfl), rfl, rfl⟩ (by rw [Heap.size_push, hz]) fun b o x => Heap.get?_push_of_some _ (Heap.get?_push_of_some _ x)⟩
end
end PySem
namespace L2
open PySem PySem.Spec PyProof.Rows
def IteT (K : PySem.W.Frag) (a : Addr) : It :=
  ⟨fun i H => ∃ (xs : List V) (x : V), SqT K H a xs ∧ xs[i]? = some x, fun i H v H' => ∃ T x, v = .ref T ∧ H T = none ∧ H' = upd H T (.tup [.int (i : Nat), x]) ∧ ∀ xs, SqT K H a xs → xs[i]? = some x, fun i H => ∃ xs : List V, SqT K H a xs ∧ xs.length ≤ i⟩
theorem turn_enumT {P : Program} {w : World} {K : PySem.W.Frag} {elts : List Expr} {kk : Nat} {tpos : Pos} (a e it : Addr) :
    Turn P w K (.Tuple elts kk tpos) (IteT K a) [e, it] e (fun i h => (∃ old, IsEnum h e it ((i : Nat) : Int) old) ∧ h.IsTupleIter it a i ∧ e ≠ it) where
  mem := by simp
  obj := fun i h st b hb => by
    obtain ⟨⟨old, he⟩, ⟨o, ho, hc, hd⟩, _⟩ := st
    have e' : b = e ∨ b = it := by simpa using hb
    rcases e' with z | z
    · rw [z]; exact ⟨_, he, fun v q => nomatch q⟩
    · rw [z]; exact ⟨o, ho, fun v q => by rw [hd] at q; cases q⟩
  keep := fun i h h' st k => let ⟨⟨old, he⟩, hi, hne⟩ := st; ⟨⟨old, k e (by simp) _ he⟩, hi.at fun o q => k it (by simp) o q, hne⟩
  item := by
    intro X hP hw hK hc i pins s σ H E I hf st hg
    subst hP hw hK
    obtain ⟨⟨old, he⟩, hit, hne⟩ := st
    obtain ⟨xs, x, hq, hx⟩ := hg
    obtain ⟨its, rv, p, hz⟩ := I.tuple hq
    obtain ⟨u, hu, ru⟩ := rv.get hx
    have hel : e < s.heap.objs.size := Heap.lt_size he
    have hil : it < s.heap.objs.size := by obtain ⟨_, q, _⟩ := hit; exact Heap.lt_size q
    have hil' : i < its.toArray.size := by simpa using (List.getElem?_eq_some_iff.mp hu).1
    have pT : s.heap.IsTuple a its.toArray := p
    have hait : a ≠ it := fun z => by
      obtain ⟨o, q, c, d⟩ := hit
      obtain ⟨o2, q2, c2, _⟩ := p
      rw [z, q] at q2; cases q2
      rw [c] at c2; simp at c2
    have hae : a ≠ e := fun z => by
      obtain ⟨o2, q2, c2, _⟩ := p
      have q := he
      unfold IsEnum at q
      rw [z, q] at q2; cases q2
      simp at c2
    refine wpAny_pyNext_enum_itemD (Draws.tuple (A := X.A.in1) (I.ok.hd hc) it a hait its.toArray) he ⟨hit, pT⟩ hil' hne (by simp [hne, Ne.symm hae]) fun y h' tk hy ho hst' hT hsz hk => ?_
    have ey : y = u := by
      have : its.toArray[i]? = some u := by simpa using hu
      rw [this] at hy; exact (Option.some.inj hy).symm
    subst ey
    refine ⟨_, rfl, wpAny_letOwnedTupleGo_enum (s := { s with heap := h', toks := tk + 1 }) ho fun h'' he' sb => ?_⟩
    have hT2 : h''.get? s.heap.objs.size = some { cls := .type "tuple", data := .seq #[.int i tk, y] } := (sb.2 _ (Nat.ne_of_gt hel)).trans hT
    have new : ObjOk X.prog X.w (upd H s.heap.objs.size (.tup [.int (i : Nat), x])) h'' s.heap.objs.size (.tup [.int (i : Nat), x]) :=
      ⟨by show 2 ≤ sizeLine; decide, [.int i tk, y], .cons ⟨_, rfl⟩ (.cons ru .nil), ⟨_, hT2, rfl, _, rfl⟩⟩
    have I1 : Inv X pins σ (upd H s.heap.objs.size (.tup [.int (i : Nat), x])) { s with heap := h'', toks := tk + 1 } :=
      I.turnedNew (ch := [e, it]) (fun b ob hb q => (sb.2 b (fun z => hb (by simp [z]))).trans (hk b ob (fun z => hb (by simp [z])) (fun z => hb (by simp [z])) q)) hf (Nat.le_refl _) new
    refine ⟨.ref s.heap.objs.size, _, I1, rfl, ⟨_, x, rfl, I.hok.fresh (Nat.le_refl _), rfl, fun ys hy => by rw [I.tuple_inj hy hq]; exact hx⟩, ⟨⟨y, ?_⟩, hst'.1.at fun o q => (sb.2 it (Ne.symm hne)).trans q, hne⟩, fun b hb => ?_⟩
    · have e1 : ((i + 1 : Nat) : Int) = (i : Int) + 1 := by omega
      rw [e1]; exact he'
    · have hb' : b < s.heap.objs.size := by
        have e' : b = e ∨ b = it := by simpa using hb
        rcases e' with z | z
        · rw [z]; exact hel
        · rw [z]; exact hil
      rw [upd_ne (Nat.ne_of_lt hb')]
      exact (hf b hb).1
  done := by
    intro X hP hw hK hc i pins s σ H E I hf st hg
    subst hP hw hK
    obtain ⟨⟨old, he⟩, hit, hne⟩ := st
    obtain ⟨xs, hq, hx⟩ := hg
    obtain ⟨its, rv, p, hz⟩ := I.tuple hq
    obtain ⟨f0, f1, f2, f3, f4, f5⟩ := hf it (by simp)
    have hl := rv.length
    have pT : s.heap.IsTuple a its.toArray := p
    have hT : s.TypeIs (.ref e) "enumerate" := ⟨_, he, rfl⟩
    unfold pyNext
    refine wpAny_bind (wpAny_attempt (wpAny_callSpecial?_slot (name := Str.ofString "__next__") hT F.slot_enumerate_next
      (wpAny_call_entry F.slot_enumerate_next hT F.entry_enumerate_next ?_ (F.args_enumerate_next_1 _))))
    show wpAny _ _ (field (.ref e) 2 >>= _) _ _ _
    refine wpAny_bind (wpAny_field he rfl (x := .ref it) rfl ?_)
    refine wpAny_bind (wpAny_nextOf_tuple_end (I.ok.hd hc) hit pT (by simp; omega) fun h' x he' hx' => ?_)
    obtain ⟨o, ho, hcl⟩ := hx'
    refine wpAny_bind (wpAny_isInstance (T := "StopIteration") (b := true) ⟨o, ho, hcl⟩ isSubtype_stop ?_)
    exact wpAny_pure ⟨rfl, I.turned (t' := s.toks) (fun b o hb q => he' b o hb q) f0 f1 f3 f4 f5⟩
  self := fun A i s Q E st h => let ⟨⟨_, he⟩, _⟩ := st; wpAny_pyIter_enum he h
def iEnumA (K : PySem.W.Frag) (ta : TA) : TI := fun σ H R => ta σ H fun vs H1 => ∃ a xs, vs = [.ref a] ∧ ((SqL K H1 a xs ∧ R (Ite K a) H1) ∨ (SqT K H1 a xs ∧ R (IteT K a) H1))
theorem pi_enumA {X : Cx} {e : Expr} {ta : TA} {p pos tpos : Pos} {elts : List Expr} {kk : Nat} (hg : Gl X "enumerate") (hm : X.mg "enumerate" = none) (ha : PA X [e] ta) (hs : starEach [e] X.env = [(false, eval e X.env)] := by rfl) :
    PI X (.Tuple elts kk tpos) (.Call (.Name "enumerate" p) [e] [] pos) (iEnumA X.K ta) := by
  refine ⟨fun pins s σ H R I h => ?_⟩
  refine Call_ (ld_blt I hg hm boot_enumerate (PyProof.Rows.callWith_type1 (thn (ha.run pos pins s σ H _ I h) fun us s1 ⟨vs, H1, I1, r1, q1⟩ => ?_) hs rfl))
  obtain ⟨a, xs, ex, q⟩ := q1
  subst ex
  cases r1 with
  | cons r rr =>
    cases rr
    cases r
    have foot : ∀ {h' : Heap} (I2 : Inv X pins σ H1 { s1 with heap := h' }) (b : Addr), b ∈ [s1.heap.objs.size + 1, s1.heap.objs.size] → FpOk X pins H1 b := fun I2 b hb => by
      have hle : s1.heap.objs.size ≤ b := by
        have e' : b = s1.heap.objs.size + 1 ∨ b = s1.heap.objs.size := by simpa using hb
        rcases e' with z | z
        · rw [z]; exact Nat.le_succ _
        · rw [z]; exact Nat.le_refl _
      exact I1.fpOk hle (I1.hok.fresh hle)
    rcases q with ⟨hq, q⟩ | ⟨hq, q⟩
    · obtain ⟨its, rv, p', hz⟩ := I1.list hq
      refine call_enumerate_list p'.isList fun h' he hit hsz hk => wpAny_pyIter_enum he ?_
      have I2 : Inv X pins σ H1 { s1 with heap := h' } := I1.kept (t' := s1.toks) hk
      exact ⟨s1.heap.objs.size + 1, [s1.heap.objs.size + 1, s1.heap.objs.size], _, _, H1, rfl, I2, turn_enum a (s1.heap.objs.size + 1) s1.heap.objs.size, ⟨⟨.none, he⟩, hit, Nat.succ_ne_self _⟩, foot I2, q⟩
    · obtain ⟨its, rv, p', hz⟩ := I1.tuple hq
      refine tk_call_enumT (show s1.heap.IsTuple a its.toArray from p') fun h' he hit hsz hk => wpAny_pyIter_enum he ?_
      have I2 : Inv X pins σ H1 { s1 with heap := h' } := I1.kept (t' := s1.toks) hk
      exact ⟨s1.heap.objs.size + 1, [s1.heap.objs.size + 1, s1.heap.objs.size], _, _, H1, rfl, I2, turn_enumT a (s1.heap.objs.size + 1) s1.heap.objs.size, ⟨⟨.none, he⟩, hit, Nat.succ_ne_self _⟩, foot I2, q⟩
end L2

set_option Elab.async false
set_option linter.all false
set_option maxRecDepth 100000
set_option maxHeartbeats 4000000
namespace TK
open PySem PySem.Spec
open PyProof.Rows hiding St
open L2

/-! ## plain data, a plain store -/
theorem hideE {α : Type} (x : α) : ∃ y, y = x := ⟨x, rfl⟩
/-- a term that no check by computing looks into -/
noncomputable def hid {α : Type} (x : α) : α := Classical.choose (hideE x)
theorem hid_eq {α : Type} (x : α) : hid x = x := Classical.choose_spec (hideE x)
inductive D where
  | non | bl (b : Bool) | int (i : Int) | str (x : Str) | tup (xs : List D) | ref (n : Nat) | cls (x : Str)
inductive AO where
  | lst (xs : List D) | rol (xs : List D) | ins (c : Str) (fs : List (Str × D)) | dct (kvs : List (D × D)) | dcT (kvs : List (D × D))
abbrev Store := List AO
abbrev AEnv := List (Option D)
structure EX where
  cls : Str
  fs : List (Str × D)
inductive R (α : Type) where
  | ok (a : α) (st : Store) | exc (x : EX) (st : Store) | bad
namespace R
def bind {α β : Type} (r : R α) (g : α → Store → R β) : R β := match r with
  | .ok a st => g a st
  | .exc x st => .exc x st
  | .bad => .bad
@[simp] theorem bind_ok {α β : Type} (a : α) (st : Store) (g : α → Store → R β) : (R.ok a st).bind g = g a st := rfl
@[simp] theorem bind_exc {α β : Type} (x : EX) (st : Store) (g : α → Store → R β) : (R.exc x st : R α).bind g = .exc x st := rfl
@[simp] theorem bind_bad {α β : Type} (g : α → Store → R β) : (R.bad : R α).bind g = .bad := rfl
end R
inductive RS where
  | next (env : AEnv) (st : Store) | ret (d : D) (st : Store) | brk (env : AEnv) (st : Store) | cont (env : AEnv) (st : Store) | exc (env : AEnv) (x : EX) (st : Store) | bad

/-- what a text's names stand for -/
structure GX where
  K : PySem.W.Frag
  mg : Str → Option Value
abbrev gx (X : Cx) : GX := ⟨X.K, X.mg⟩

/-! ## how plain data stand in the heap -/
section
variable (G : GX) (μ : List Addr) (H : Hp)
mutual
def RelD : D → V → Prop
  | .non, v => v = .non
  | .bl b, v => v = .bl b
  | .int i, v => v = .int i
  | .str x, v => v = .str x
  | .tup ds, v => ∃ a vs, v = .ref a ∧ H a = some (.tup vs) ∧ RelDs ds vs
  | .ref n, v => ∃ a, μ[n]? = some a ∧ v = .ref a
  | .cls x, v => ∃ a, G.mg x = some (.ref a) ∧ v = .ref a
def RelDs : List D → List V → Prop
  | [], vs => vs = []
  | d :: ds, vs => ∃ v r, vs = v :: r ∧ RelD d v ∧ RelDs ds r
end
def RelF : List (Str × D) → List (Str × V) → Prop
  | [], vs => vs = []
  | (x, d) :: fs, vs => ∃ v r, vs = (x, v) :: r ∧ RelD G μ H d v ∧ RelF fs r
/-- keys: ints and texts -/
def keyS : D → Option Key
  | .int i => some (.inl i)
  | .str x => some (.inr x)
  | _ => none
def keySs : List D → Option (List Key)
  | [] => some []
  | d :: ds => match keyS d, keySs ds with
    | some k, some ks => some (k :: ks)
    | _, _ => none
def keyT : D → Option (List Key)
  | .tup ds => keySs ds
  | _ => none
def RelK {κ : Type} (f : D → Option κ) : List (D × D) → List (κ × V) → Prop
  | [], vs => vs = []
  | (k, d) :: kvs, vs => ∃ c v r, vs = (c, v) :: r ∧ f k = some c ∧ RelD G μ H d v ∧ RelK f kvs r
def HObj : AO → HO → Prop
  | .lst ds, o => ∃ vs, o = .lst vs ∧ RelDs G μ H ds vs
  | .rol ds, o => ∃ ob vs, o = .frz ob (.lst vs) ∧ RelDs G μ H ds vs
  | .ins c fs, o => ∃ C dx vs, o = .ins C dx vs ∧ G.mg c = some (.ref C) ∧ RelF G μ H fs vs
  | .dct kvs, o => ∃ ks, o = .dK ks ∧ RelK G μ H keyS kvs ks
  | .dcT kvs, o => ∃ ks, o = .dT ks ∧ RelK G μ H keyT kvs ks
end
structure HS (G : GX) (μ : List Addr) (H : Hp) (st : Store) : Prop where
  nd : μ.Nodup
  len : μ.length = st.length
  obj : ∀ (i : Nat) (a : Addr) (o : AO), μ[i]? = some a → st[i]? = some o → ∃ ho, H a = some ho ∧ HObj G μ H o ho
/-- later: more objects; what is not in the store stands as it stood -/
def Ext (μ : List Addr) (H : Hp) (μ' : List Addr) (H' : Hp) : Prop :=
  ∃ ν, μ' = μ ++ ν ∧ (∀ a ∈ ν, H a = none ∧ a ∉ μ) ∧ ∀ a o, H a = some o → a ∉ μ → H' a = some o
def EnvR (G : GX) (μ : List Addr) (H : Hp) (env : AEnv) (σ : St) : Prop :=
  env.length = σ.length ∧ ∀ (i : Nat) (d : D), env[i]? = some (some d) → ∃ v, σ[i]? = some (some v) ∧ RelD G μ H d v

section
variable {G : GX} {μ μ' μ1 μ2 : List Addr} {H H' H1 H2 : Hp} {st st' : Store} {env : AEnv} {σ : St}
theorem Ext.refl : Ext μ H μ H := ⟨[], by simp, by simp, fun _ _ h _ => h⟩
theorem Ext.trans (a : Ext μ H μ1 H1) (b : Ext μ1 H1 μ2 H2) : Ext μ H μ2 H2 := by
  obtain ⟨ν, rfl, f1, k1⟩ := a
  obtain ⟨ν', rfl, f2, k2⟩ := b
  refine ⟨ν ++ ν', by simp, fun c hc => ?_, fun c o hc hn => ?_⟩
  · rcases List.mem_append.mp hc with h | h
    · exact f1 c h
    · have hm : c ∉ μ := fun z => (f2 c h).2 (List.mem_append_left _ z)
      refine ⟨?_, hm⟩
      cases q : H c with
      | none => rfl
      | some o =>
        have := k1 c o q hm
        rw [(f2 c h).1] at this; cases this
  · refine k2 c o (k1 c o hc hn) fun hm => ?_
    rcases List.mem_append.mp hm with h | h
    · exact hn h
    · rw [(f1 c h).1] at hc; cases hc
theorem HObj.noTup {o : AO} {ho : HO} (h : HObj G μ H o ho) : ∀ xs, ho ≠ .tup xs ∧ ∀ ob, ho ≠ .frz ob (.tup xs) := by
  intro xs
  cases o with
  | lst ds => obtain ⟨vs, rfl, _⟩ := h; exact ⟨by simp, by simp⟩
  | rol ds => obtain ⟨ob, vs, rfl, _⟩ := h; exact ⟨by simp, by simp⟩
  | ins c fs => obtain ⟨C, dx, vs, rfl, _⟩ := h; exact ⟨by simp, by simp⟩
  | dct kvs => obtain ⟨ks, rfl, _⟩ := h; exact ⟨by simp, by simp⟩
  | dcT kvs => obtain ⟨ks, rfl, _⟩ := h; exact ⟨by simp, by simp⟩
theorem HS.at (h : HS G μ H st) {i : Nat} {a : Addr} (e : μ[i]? = some a) : ∃ o ho, st[i]? = some o ∧ H a = some ho ∧ HObj G μ H o ho := by
  have hi : i < st.length := by rw [← h.len]; exact (List.getElem?_eq_some_iff.mp e).1
  obtain ⟨ho, e1, e2⟩ := h.obj i a st[i] e (by simp)
  exact ⟨st[i], ho, by simp, e1, e2⟩
theorem HS.noTup (h : HS G μ H st) {a : Addr} {xs : List V} (r : Rd H a (.tup xs)) : a ∉ μ := fun hm => by
  obtain ⟨i, hi, e⟩ := List.getElem_of_mem hm
  obtain ⟨o, ho, _, e1, e2⟩ := h.at (i := i) (a := a) (by rw [List.getElem?_eq_getElem hi, e])
  have := e2.noTup xs
  rcases r with r | ⟨ob, r⟩
  · rw [e1] at r; exact this.1 (Option.some.inj r)
  · rw [e1] at r; exact this.2 ob (Option.some.inj r)
theorem SqT_ext (h : HS G μ H st) (e : Ext μ H μ' H') {a : Addr} {vs : List V} (q : SqT G.K H a vs) : SqT G.K H' a vs := by
  obtain ⟨ν, _, _, k⟩ := e
  rcases q with q | q
  · have hn := h.noTup q
    rcases q with q | ⟨ob, q⟩
    · exact .inl (.inl (k a _ q hn))
    · exact .inl (.inr ⟨ob, k a _ q hn⟩)
  · exact .inr q
theorem Tup_ext (h : HS G μ H st) (e : Ext μ H μ' H') {a : Addr} {vs : List V} (q : H a = some (.tup vs)) : H' a = some (.tup vs) := by
  obtain ⟨ν, _, _, k⟩ := e
  exact k a _ q (h.noTup (.inl q))
mutual
theorem RelD.ext (h : HS G μ H st) (e : Ext μ H μ' H') : ∀ (d : D) (v : V), RelD G μ H d v → RelD G μ' H' d v
  | .non, _, r => r
  | .bl _, _, r => r
  | .int _, _, r => r
  | .str _, _, r => r
  | .tup ds, _, r => by
    obtain ⟨a, vs, e1, q, rs⟩ := r
    exact ⟨a, vs, e1, Tup_ext h e q, RelDs.ext h e ds vs rs⟩
  | .ref n, _, r => by
    obtain ⟨a, e1, e2⟩ := r
    obtain ⟨ν, rfl, _⟩ := e
    exact ⟨a, by rw [List.getElem?_append_left (List.getElem?_eq_some_iff.mp e1).1]; exact e1, e2⟩
  | .cls _, _, r => r
theorem RelDs.ext (h : HS G μ H st) (e : Ext μ H μ' H') : ∀ (ds : List D) (vs : List V), RelDs G μ H ds vs → RelDs G μ' H' ds vs
  | [], _, r => r
  | d :: ds, _, r => by
    obtain ⟨v, rest, e1, rd, rs⟩ := r
    exact ⟨v, rest, e1, RelD.ext h e d v rd, RelDs.ext h e ds rest rs⟩
end
theorem RelF.ext (h : HS G μ H st) (e : Ext μ H μ' H') : ∀ (fs : List (Str × D)) (vs : List (Str × V)), RelF G μ H fs vs → RelF G μ' H' fs vs
  | [], _, r => r
  | (x, d) :: fs, _, r => by
    obtain ⟨v, rest, e1, rd, rs⟩ := r
    exact ⟨v, rest, e1, RelD.ext h e d v rd, RelF.ext h e fs rest rs⟩
theorem RelK.ext {κ : Type} {f : D → Option κ} (h : HS G μ H st) (e : Ext μ H μ' H') : ∀ (kvs : List (D × D)) (vs : List (κ × V)), RelK G μ H f kvs vs → RelK G μ' H' f kvs vs
  | [], _, r => r
  | (k, d) :: kvs, _, r => by
    obtain ⟨c, v, rest, e1, ek, rd, rs⟩ := r
    exact ⟨c, v, rest, e1, ek, RelD.ext h e d v rd, RelK.ext h e kvs rest rs⟩
theorem HObj.ext (h : HS G μ H st) (e : Ext μ H μ' H') {o : AO} {ho : HO} (r : HObj G μ H o ho) : HObj G μ' H' o ho := by
  cases o with
  | lst ds => obtain ⟨vs, e1, rs⟩ := r; exact ⟨vs, e1, RelDs.ext h e ds vs rs⟩
  | rol ds => obtain ⟨ob, vs, e1, rs⟩ := r; exact ⟨ob, vs, e1, RelDs.ext h e ds vs rs⟩
  | ins c fs => obtain ⟨C, dx, vs, e1, m, rs⟩ := r; exact ⟨C, dx, vs, e1, m, RelF.ext h e fs vs rs⟩
  | dct kvs => obtain ⟨ks, e1, rs⟩ := r; exact ⟨ks, e1, RelK.ext h e kvs ks rs⟩
  | dcT kvs => obtain ⟨ks, e1, rs⟩ := r; exact ⟨ks, e1, RelK.ext h e kvs ks rs⟩
theorem EnvR.ext (h : HS G μ H st) (e : Ext μ H μ' H') (r : EnvR G μ H env σ) : EnvR G μ' H' env σ :=
  ⟨r.1, fun i d q => let ⟨v, e1, rd⟩ := r.2 i d q; ⟨v, e1, RelD.ext h e d v rd⟩⟩
theorem EnvR.set (r : EnvR G μ H env σ) {d : D} {v : V} (rd : RelD G μ H d v) (i : Nat) : EnvR G μ H (env.set i (some d)) (σ.set i (some v)) := by
  refine ⟨by simp [r.1], fun j d' q => ?_⟩
  by_cases hj : i = j
  · subst hj
    have hi : i < env.length := by
      by_cases hi : i < env.length
      · exact hi
      · rw [List.getElem?_eq_none (by simp; omega)] at q; cases q
    rw [List.getElem?_set_self hi] at q
    cases q
    exact ⟨v, by rw [List.getElem?_set_self (by rw [← r.1]; exact hi)], rd⟩
  · rw [List.getElem?_set_ne hj] at q
    obtain ⟨v', e1, rd'⟩ := r.2 j d' q
    exact ⟨v', by rw [List.getElem?_set_ne hj]; exact e1, rd'⟩
end

/-! ## ends -/
def RelX (G : GX) (μ : List Addr) (H : Hp) (x : EX) (C : Value) (od : Option Addr) : Prop :=
  ∃ a, G.mg x.cls = some (.ref a) ∧ C = .ref a ∧ match od with
    | none => x.fs = []
    | some dx => x.fs ≠ [] ∧ dx ∉ μ ∧ ∃ vs, H dx = some (.xd vs) ∧ RelF G μ H x.fs vs
/-- a result's relation: seen from an earlier heap too -/
structure RelT (α β : Type) where
  r : Hp → List Addr → Hp → α → β → Prop
  back : ∀ {μ H μ1 H1 μ2 H2 a y}, Ext μ H μ1 H1 → Ext μ1 H1 μ2 H2 → r H1 μ2 H2 a y → r H μ2 H2 a y
def Post {α β : Type} (G : GX) (W : WX) (rel : RelT α β) (σ : St) (μ : List Addr) (H : Hp) (r : R α) (Q : β → Hp → Prop) : Prop :=
  match r with
  | .ok a st' => ∀ μ' H' y, Ext μ H μ' H' → HS G μ' H' st' → rel.r H μ' H' a y → Q y H'
  | .exc x st' => ∀ μ' H' C od, Ext μ H μ' H' → HS G μ' H' st' → RelX G μ' H' x C od → W C od σ H'
  | .bad => False
def PostS (G : GX) (W : WX) (μ : List Addr) (H : Hp) (r : RS) (Dn : Ends) : Prop :=
  match r with
  | .next env' st' => ∀ μ' H' σ', Ext μ H μ' H' → HS G μ' H' st' → EnvR G μ' H' env' σ' → Dn.nx σ' H'
  | .brk env' st' => ∀ μ' H' σ', Ext μ H μ' H' → HS G μ' H' st' → EnvR G μ' H' env' σ' → Dn.bk σ' H'
  | .cont env' st' => ∀ μ' H' σ', Ext μ H μ' H' → HS G μ' H' st' → EnvR G μ' H' env' σ' → Dn.ct σ' H'
  | .ret d st' => ∀ μ' H' v, Ext μ H μ' H' → HS G μ' H' st' → RelD G μ' H' d v → Dn.rt v H'
  | .exc env' x st' => ∀ μ' H' σ' C od, Ext μ H μ' H' → HS G μ' H' st' → EnvR G μ' H' env' σ' → RelX G μ' H' x C od → W C od σ' H'
  | .bad => False
section
variable {α β γ δ : Type} {G : GX} {W : WX} {rel : RelT α β} {rel2 : RelT γ δ} {μ μ' : List Addr} {H H' : Hp} {σ : St}
theorem Post.later {r : R α} {Q : β → Hp → Prop} (h : Post G W rel σ μ H r Q) (e : Ext μ H μ' H') : Post G W rel σ μ' H' r Q := by
  cases r with
  | ok a st => exact fun μ2 H2 y e2 hs rl => h μ2 H2 y (e.trans e2) hs (rel.back e e2 rl)
  | exc x st => exact fun μ2 H2 C od e2 hs rl => h μ2 H2 C od (e.trans e2) hs rl
  | bad => exact h
theorem Post.mono {r : R α} {Q Q' : β → Hp → Prop} (h : Post G W rel σ μ H r Q) (k : ∀ y H', Q y H' → Q' y H') : Post G W rel σ μ H r Q' := by
  cases r with
  | ok a st => exact fun μ2 H2 y e2 hs rl => k _ _ (h μ2 H2 y e2 hs rl)
  | exc x st => exact h
  | bad => exact h
theorem Post.bind {r : R α} {g : α → Store → R γ} {Q : δ → Hp → Prop} {Q1 : β → Hp → Prop} (h : Post G W rel2 σ μ H (r.bind g) Q)
    (k : ∀ x st1 μ1 H1 y, r = .ok x st1 → Ext μ H μ1 H1 → HS G μ1 H1 st1 → rel.r H μ1 H1 x y → Post G W rel2 σ μ1 H1 (g x st1) Q → Q1 y H1) : Post G W rel σ μ H r Q1 := by
  cases r with
  | ok a st => exact fun μ2 H2 y e2 hs rl => k a st μ2 H2 y rfl e2 hs rl (Post.later h e2)
  | exc x st => exact h
  | bad => exact h
theorem Post.bind0 {r : R α} {g : α → Store → R γ} {Q : δ → Hp → Prop} {Q1 : β → Hp → Prop} (h : Post G W rel2 σ μ H (r.bind g) Q)
    (k : ∀ x st1 μ1 H1 y, r = .ok x st1 → Ext μ H μ1 H1 → HS G μ1 H1 st1 → rel.r H μ1 H1 x y → Post G W rel2 σ μ H (g x st1) Q → Q1 y H1) : Post G W rel σ μ H r Q1 := by
  cases r with
  | ok a st => exact fun μ2 H2 y e2 hs rl => k a st μ2 H2 y rfl e2 hs rl h
  | exc x st => exact h
  | bad => exact h
theorem PostS.later {r : RS} {Dn : Ends} (h : PostS G W μ H r Dn) (e : Ext μ H μ' H') : PostS G W μ' H' r Dn := by
  cases r with
  | next env st => exact fun μ2 H2 y e2 hs rl => h μ2 H2 y (e.trans e2) hs rl
  | brk env st => exact fun μ2 H2 y e2 hs rl => h μ2 H2 y (e.trans e2) hs rl
  | cont env st => exact fun μ2 H2 y e2 hs rl => h μ2 H2 y (e.trans e2) hs rl
  | ret d st => exact fun μ2 H2 y e2 hs rl => h μ2 H2 y (e.trans e2) hs rl
  | exc env x st => exact fun μ2 H2 σ' C od e2 hs er rl => h μ2 H2 σ' C od (e.trans e2) hs er rl
  | bad => exact h
end

/-! ## the judgements -/
def tG {α β : Type} (G : GX) (W : WX) (rel : RelT α β) (f : AEnv → Store → R α) : St → Hp → (β → Hp → Prop) → Prop :=
  fun σ H Q => ∃ μ env st, HS G μ H st ∧ EnvR G μ H env σ ∧ Post G W rel σ μ H (f env st) Q
def tSt (G : GX) (W : WX) (f : AEnv → Store → RS) : TS := fun Dn σ H => ∃ μ env st, HS G μ H st ∧ EnvR G μ H env σ ∧ PostS G W μ H (f env st) Dn
abbrev relB : RelT Bool Bool := ⟨fun _ _ _ a b => b = a, fun _ _ r => r⟩
abbrev relD (G : GX) : RelT D V := ⟨fun _ => RelD G, fun _ _ r => r⟩
abbrev relDs (G : GX) : RelT (List D) (List V) := ⟨fun _ => RelDs G, fun _ _ r => r⟩
theorem Ext.back {μ μ1 μ2 : List Addr} {H H1 H2 : Hp} (x1 : Ext μ H μ1 H1) (x2 : Ext μ1 H1 μ2 H2) {a : Addr} (hn : a ∉ μ2) (h : H1 a = none) : H a = none := by
  obtain ⟨ν, rfl, _, k⟩ := x1
  obtain ⟨ν', rfl, _, _⟩ := x2
  cases q : H a with
  | none => rfl
  | some o =>
    have := k a o q fun z => hn (List.mem_append_left _ (List.mem_append_left _ z))
    rw [h] at this; cases this
/-- a new list that nobody else knows -/
abbrev relL (G : GX) : RelT (List D) V := ⟨fun H0 μ H ds v => ∃ a vs, v = .ref a ∧ H0 a = none ∧ a ∉ μ ∧ H a = some (.lst vs) ∧ RelDs G μ H ds vs, fun x1 x2 ⟨a, vs, e1, e2, e3, e4⟩ => ⟨a, vs, e1, x1.back x2 e3 e2, e3, e4⟩⟩
/-- a list or tuple, read -/
abbrev relQ (G : GX) : RelT (List D) V := ⟨fun _ μ H ds v => ∃ a vs, v = .ref a ∧ (SqL G.K H a vs ∨ H a = some (.tup vs)) ∧ RelDs G μ H ds vs, fun _ _ r => r⟩
abbrev EF := AEnv → Store → R D
abbrev LF := AEnv → Store → R (List D)
abbrev BF := AEnv → Store → R Bool
abbrev SF := AEnv → Store → RS
abbrev AE (X : Cx) (W : WX) (e : Expr) (f : EF) : Prop := PE X e (tG (gx X) W (relD (gx X)) f)
abbrev AL (X : Cx) (W : WX) (e : Expr) (f : LF) : Prop := PE X e (tG (gx X) W (relL (gx X)) f)
abbrev AQ (X : Cx) (W : WX) (e : Expr) (f : LF) : Prop := PE X e (tG (gx X) W (relQ (gx X)) f)
abbrev AT (X : Cx) (W : WX) (e : Expr) (f : BF) : Prop := PT X e (tG (gx X) W relB f)
abbrev AA (X : Cx) (W : WX) (es : List Expr) (f : LF) : Prop := PA X es (tG (gx X) W (relDs (gx X)) f)
abbrev AS (X : Cx) (W : WX) (st : Stmt) (f : SF) : Prop := PS X st (tSt (gx X) W f)
abbrev ASs (X : Cx) (W : WX) (sts : List Stmt) (f : SF) : Prop := PSs X sts (tSt (gx X) W f)
section
variable {X : Cx} {e : Expr} {es : List Expr} {s : Stmt} {ss : List Stmt}
theorem _root_.L2.PE.weak {t t' : TE} (h : PE X e t) (k : ∀ σ H Q, t' σ H Q → t σ H Q) : PE X e t' := ⟨fun pins s σ H Q I q => h.run pins s σ H Q I (k _ _ _ q)⟩
theorem _root_.L2.PT.weak {t t' : TT} (h : PT X e t) (k : ∀ σ H Q, t' σ H Q → t σ H Q) : PT X e t' := ⟨fun pins s σ H Q I q => h.run pins s σ H Q I (k _ _ _ q)⟩
theorem _root_.L2.PW.weak {t t' : TT} (h : PW X e t) (k : ∀ σ H Q, t' σ H Q → t σ H Q) : PW X e t' := ⟨fun wh pins s σ H Q I q => h.run wh pins s σ H Q I (k _ _ _ q)⟩
theorem _root_.L2.PA.weak {t t' : TA} (h : PA X es t) (k : ∀ σ H Q, t' σ H Q → t σ H Q) : PA X es t' := ⟨fun pos pins s σ H Q I q => h.run pos pins s σ H Q I (k _ _ _ q)⟩
theorem _root_.L2.PS.weak {t t' : TS} (h : PS X s t) (k : ∀ Dn σ H, t' Dn σ H → t Dn σ H) : PS X s t' := ⟨fun pins s σ H Dn I q => h.run pins s σ H Dn I (k _ _ _ q)⟩
theorem _root_.L2.PSs.weak {t t' : TS} (h : PSs X ss t) (k : ∀ Dn σ H, t' Dn σ H → t Dn σ H) : PSs X ss t' := ⟨fun pins s σ H Dn I q => h.run pins s σ H Dn I (k _ _ _ q)⟩
end

/-! ## names, constants -/
def eVar (i : Nat) : EF := fun env st => match env[i]? with
  | some (some d) => .ok d st
  | _ => .bad
def eC (d : D) : EF := fun _ st => .ok d st
section
variable {X : Cx} {W : WX} {a b c : Expr} {fa fb fc : EF} {pos : Pos}
theorem ae_var (i : Nat) {x : Str} (hN : X.N[i]? = some x := by rfl) (hv : Vis X.env.scope x := by first | exact Or.inl rfl | exact Or.inr (Or.inl rfl) | exact Or.inr (Or.inr rfl)) (hd : (x == ("__debug__" : Str)) = false := by decide)
    (hcd : (x == ("__classdict__" : Str)) = false := by decide) : AE X W (.Name x pos) (eVar i) := (pe_var hN hv hd hcd).weak fun σ H Q ⟨μ, env, st, hs, er, p⟩ => by
  unfold eVar at p
  split at p
  · rename_i d q
    obtain ⟨v, e1, rd⟩ := er.2 i d q
    exact ⟨v, e1, p μ H v .refl hs rd⟩
  · exact p.elim
theorem ae_const {e : Expr} {v : V} (h : PE X e (tC v)) (d : D) (hd : ∀ μ H, RelD (gx X) μ H d v) : AE X W e (eC d) := h.weak fun σ H Q ⟨μ, env, st, hs, er, p⟩ => p μ H v .refl hs (hd μ H)
theorem ae_int {i j} : AE X W (.Constant (.int i) j pos) (eC (.int i)) := ae_const pe_int _ fun _ _ => rfl
theorem ae_bl {i j} : AE X W (.Constant (.bool i) j pos) (eC (.bl i)) := ae_const pe_bl _ fun _ _ => rfl
theorem ae_non {j} : AE X W (.Constant .none j pos) (eC .non) := ae_const pe_non _ fun _ _ => rfl
theorem ae_str {x j} : AE X W (.Constant (.str x) j pos) (eC (.str x)) := ae_const pe_str _ fun _ _ => rfl
/-- a constant of the module -/
theorem ae_globI {x : Str} {i : Int} {t : Tok} (hg : Gl X x) (hm : X.mg x = some (.int i t)) (hd : (x == ("__debug__" : Str)) = false := by decide) : AE X W (.Name x pos) (eC (.int i)) := ae_const (v := .int i) (pe_glob hg hm (by exact ⟨_, rfl⟩) hd) _ fun _ _ => rfl
theorem ae_globS {x : Str} {z : Str} {t : Tok} (hg : Gl X x) (hm : X.mg x = some (.str z t)) (hd : (x == ("__debug__" : Str)) = false := by decide) : AE X W (.Name x pos) (eC (.str z)) := ae_const (v := .str z) (pe_glob hg hm (by exact ⟨_, rfl⟩) hd) _ fun _ _ => rfl
theorem ae_globC {x : Str} {a : Addr} (hg : Gl X x) (hm : X.mg x = some (.ref a)) (hd : (x == ("__debug__" : Str)) = false := by decide) : AE X W (.Name x pos) (eC (.cls x)) := ae_const (v := .ref a) (pe_glob hg hm (by rfl) hd) _ fun _ _ => ⟨a, hm, rfl⟩

/-! ## two operands -/
def e2 (g : D → D → Store → R D) (fa fb : EF) : EF := fun env st => (fa env st).bind fun x st1 => (fb env st1).bind fun y st2 => g x y st2
def e1 (g : D → Store → R D) (fa : EF) : EF := fun env st => (fa env st).bind fun x st1 => g x st1
/-- an operation on plain data, held by an operation's rule -/
def OpA (G : GX) (g : D → D → Store → R D) (r : R2) : Prop := ∀ W σ μ H st x y v u Q, HS G μ H st → RelD G μ H x v → RelD G μ H y u → Post G W (relD G) σ μ H (g x y st) Q → r v u H Q
def UnA (G : GX) (g : D → Store → R D) (r : V → Hp → VK → Prop) : Prop := ∀ W σ μ H st x v Q, HS G μ H st → RelD G μ H x v → Post G W (relD G) σ μ H (g x st) Q → r v H Q
theorem t2_of {G : GX} {g : D → D → Store → R D} {r : R2} (hg : OpA G g r) {σ : St} {H : Hp} {Q : VK} (h : tG G W (relD G) (e2 g fa fb) σ H Q) :
    tOp r (tG G W (relD G) fa) (tG G W (relD G) fb) σ H Q := by
  obtain ⟨μ, env, st, hs, er, p⟩ := h
  refine ⟨μ, env, st, hs, er, Post.bind p fun x st1 μ1 H1 v _ x1 hs1 r1 p1 => ⟨μ1, env, st1, hs1, er.ext hs x1, Post.bind p1 fun y st2 μ2 H2 u _ x2 hs2 r2 p2 => ?_⟩⟩
  exact hg W σ μ2 H2 st2 x y v u Q hs2 (RelD.ext hs1 x2 x v r1) r2 p2
theorem ae_op {op : Operator} {r : R2} {g : D → D → Store → R D} (ho : OpR X (binaryOp op) r) (hg : OpA (gx X) g r) (ha : AE X W a fa) (hb : AE X W b fb) : AE X W (.BinOp a op b pos) (e2 g fa fb) :=
  (pe_op ho ha hb).weak fun _ _ _ h => t2_of hg h
theorem ae_cmp {op : CmpOp} {r : R2} {g : D → D → Store → R D} (ho : OpR X (compareOp op) r) (hg : OpA (gx X) g r) (ha : AE X W a fa) (hb : AE X W b fb) (hm : behindInMarks op b = false) : AE X W (.Compare a [op] [b] pos) (e2 g fa fb) :=
  (pe_cmpR ho ha hb hm).weak fun _ _ _ h => t2_of hg h
theorem ae_un {op : UnaryOp} {r : V → Hp → VK → Prop} {g : D → Store → R D} (ho : UnR X (unaryOp op) r) (hg : UnA (gx X) g r) (ha : AE X W a fa) : AE X W (.UnaryOp op a pos) (e1 g fa) :=
  (pe_un ho ha).weak fun σ H Q h => by
    obtain ⟨μ, env, st, hs, er, p⟩ := h
    exact ⟨μ, env, st, hs, er, Post.bind p fun x st1 μ1 H1 v _ x1 hs1 r1 p1 => hg W σ μ1 H1 st1 x v Q hs1 r1 p1⟩
end
end TK

set_option Elab.async false
set_option linter.all false
set_option maxRecDepth 100000
set_option maxHeartbeats 4000000
namespace TK
open PySem PySem.Spec
open PyProof.Rows hiding St
open L2

/-! ## lists of related things -/
section
variable {G : GX} {μ : List Addr} {H : Hp}
theorem RelDs.length : ∀ {ds : List D} {vs : List V}, RelDs G μ H ds vs → vs.length = ds.length
  | [], _, r => by cases r; rfl
  | d :: ds, _, r => by obtain ⟨v, rest, rfl, _, rs⟩ := r; simp [RelDs.length rs]
theorem RelDs.get : ∀ {ds : List D} {vs : List V} {i : Nat} {d : D}, RelDs G μ H ds vs → ds[i]? = some d → ∃ v, vs[i]? = some v ∧ RelD G μ H d v
  | [], _, _, _, r, e => by simp at e
  | d :: ds, _, 0, _, r, e => by obtain ⟨v, rest, rfl, rd, rs⟩ := r; simp at e; subst e; exact ⟨v, by simp, rd⟩
  | d :: ds, _, i + 1, x, r, e => by obtain ⟨v, rest, rfl, rd, rs⟩ := r; simpa using RelDs.get rs (by simpa using e)
theorem RelDs.get' : ∀ {ds : List D} {vs : List V} {i : Nat} {v : V}, RelDs G μ H ds vs → vs[i]? = some v → ∃ d, ds[i]? = some d ∧ RelD G μ H d v := fun {ds vs i v} r e => by
  have hl := r.length
  have hi : i < ds.length := by rw [← hl]; exact (List.getElem?_eq_some_iff.mp e).1
  obtain ⟨v', e1, rd⟩ := r.get (i := i) (d := ds[i]) (by simp [hi])
  rw [e] at e1; cases e1
  exact ⟨ds[i], by simp [hi], rd⟩
theorem RelDs.append : ∀ {ds ds' : List D} {vs vs' : List V}, RelDs G μ H ds vs → RelDs G μ H ds' vs' → RelDs G μ H (ds ++ ds') (vs ++ vs')
  | [], _, _, _, r, r' => by cases r; exact r'
  | d :: ds, _, _, _, r, r' => by obtain ⟨v, rest, rfl, rd, rs⟩ := r; exact ⟨v, rest ++ _, rfl, rd, RelDs.append rs r'⟩
theorem RelDs.one {d : D} {v : V} (r : RelD G μ H d v) : RelDs G μ H [d] [v] := ⟨v, [], rfl, r, rfl⟩
theorem RelDs.cons {d : D} {v : V} {ds : List D} {vs : List V} (r : RelD G μ H d v) (rs : RelDs G μ H ds vs) : RelDs G μ H (d :: ds) (v :: vs) := ⟨v, vs, rfl, r, rs⟩
theorem RelDs.set : ∀ {ds : List D} {vs : List V} {d : D} {v : V} (i : Nat), RelDs G μ H ds vs → RelD G μ H d v → RelDs G μ H (ds.set i d) (vs.set i v)
  | [], _, _, _, _, r, _ => by cases r; rfl
  | d :: ds, _, _, _, 0, r, q => by obtain ⟨v, rest, rfl, rd, rs⟩ := r; exact ⟨_, rest, rfl, q, rs⟩
  | d :: ds, _, _, _, i + 1, r, q => by obtain ⟨v, rest, rfl, rd, rs⟩ := r; exact ⟨v, _, rfl, rd, RelDs.set i rs q⟩
theorem RelDs.take : ∀ {ds : List D} {vs : List V} (n : Nat), RelDs G μ H ds vs → RelDs G μ H (ds.take n) (vs.take n)
  | _, _, 0, _ => by simp; rfl
  | [], _, n + 1, r => by cases r; rfl
  | d :: ds, _, n + 1, r => by obtain ⟨v, rest, rfl, rd, rs⟩ := r; exact ⟨v, _, rfl, rd, RelDs.take n rs⟩
theorem RelDs.drop : ∀ {ds : List D} {vs : List V} (n : Nat), RelDs G μ H ds vs → RelDs G μ H (ds.drop n) (vs.drop n)
  | _, _, 0, r => r
  | [], _, n + 1, r => by cases r; rfl
  | d :: ds, _, n + 1, r => by obtain ⟨v, rest, rfl, rd, rs⟩ := r; exact RelDs.drop n rs
theorem RelDs.ints : ∀ {ns : List Int} {vs : List V}, RelDs G μ H (ns.map D.int) vs → vs = ns.map V.int
  | [], _, r => by cases r; rfl
  | n :: ns, _, r => by obtain ⟨v, rest, rfl, rd, rs⟩ := r; cases rd; simp [RelDs.ints rs]
theorem RelDs.bls : ∀ {ns : List Bool} {vs : List V}, RelDs G μ H (ns.map D.bl) vs → vs = ns.map V.bl
  | [], _, r => by cases r; rfl
  | n :: ns, _, r => by obtain ⟨v, rest, rfl, rd, rs⟩ := r; cases rd; simp [RelDs.bls rs]
theorem RelDs.of_all : ∀ {ds : List D} {vs : List V}, vs.length = ds.length → (∀ (i : Nat) d v, ds[i]? = some d → vs[i]? = some v → RelD G μ H d v) → RelDs G μ H ds vs
  | [], [], _, _ => rfl
  | [], _ :: _, h, _ => by simp at h
  | _ :: _, [], h, _ => by simp at h
  | d :: ds, v :: vs, h, k => ⟨v, vs, rfl, k 0 d v rfl rfl, RelDs.of_all (by simpa using h) fun i d' v' e1 e2 => k (i + 1) d' v' (by simpa using e1) (by simpa using e2)⟩
end

mutual
theorem RelD.pre {G : GX} {μ ν : List Addr} {H : Hp} : ∀ (d : D) (v : V), RelD G μ H d v → RelD G (μ ++ ν) H d v
  | .non, _, r => r
  | .bl _, _, r => r
  | .int _, _, r => r
  | .str _, _, r => r
  | .tup ds, _, r => by
    obtain ⟨a, vs, e1, q, rs⟩ := r
    exact ⟨a, vs, e1, q, RelDs.pre ds vs rs⟩
  | .ref n, _, r => by
    obtain ⟨a, e1, e2⟩ := r
    exact ⟨a, by rw [List.getElem?_append_left (List.getElem?_eq_some_iff.mp e1).1]; exact e1, e2⟩
  | .cls _, _, r => r
theorem RelDs.pre {G : GX} {μ ν : List Addr} {H : Hp} : ∀ (ds : List D) (vs : List V), RelDs G μ H ds vs → RelDs G (μ ++ ν) H ds vs
  | [], _, r => r
  | d :: ds, _, r => by
    obtain ⟨v, rest, e1, rd, rs⟩ := r
    exact ⟨v, rest, e1, RelD.pre d v rd, RelDs.pre ds rest rs⟩
end

/-! ## a new object -/
section
variable {G : GX} {μ μ' : List Addr} {H H' : Hp} {st : Store}
theorem Ext.new {p : Addr} {o : HO} (hp : H p = none) : Ext μ H μ (upd H p o) := ⟨[], by simp, by simp, fun a u e _ => by rw [upd_ne (ne_of_none e hp)]; exact e⟩
theorem HS.keep (h : HS G μ H st) (e : Ext μ H μ H') (k : ∀ a ∈ μ, H' a = H a) : HS G μ H' st :=
  ⟨h.nd, h.len, fun i a o e1 e2 => by
    obtain ⟨ho, e3, r⟩ := h.obj i a o e1 e2
    exact ⟨ho, by rw [k a (List.mem_of_getElem? e1)]; exact e3, r.ext h e⟩⟩
theorem HS.fresh (h : HS G μ H st) {p : Addr} (hp : H p = none) : p ∉ μ := fun hm => by
  obtain ⟨i, hi, e⟩ := List.getElem_of_mem hm
  obtain ⟨o, ho, _, e1, _⟩ := h.at (i := i) (a := p) (by rw [List.getElem?_eq_getElem hi, e])
  rw [hp] at e1; cases e1
/-- a new object that is not in the store -/
theorem HS.new (h : HS G μ H st) {p : Addr} {o : HO} (hp : H p = none) : HS G μ (upd H p o) st :=
  h.keep (.new hp) fun a ha => upd_ne fun e => h.fresh hp (e ▸ ha)
/-- a new object, put into the store -/
theorem HS.push (h : HS G μ H st) {p : Addr} {o : HO} {ao : AO} (hp : H p = none) (r : HObj G μ H ao o) : HS G (μ ++ [p]) (upd H p o) (st ++ [ao]) ∧ Ext μ H (μ ++ [p]) (upd H p o) := by
  have ex : Ext μ H (μ ++ [p]) (upd H p o) := ⟨[p], rfl, fun a ha => by simp at ha; subst ha; exact ⟨hp, h.fresh hp⟩, fun a u e _ => by rw [upd_ne (ne_of_none e hp)]; exact e⟩
  refine ⟨⟨?_, by simp [h.len], fun i a o' e1 e2 => ?_⟩, ex⟩
  · rw [List.nodup_append]
    refine ⟨h.nd, by simp, fun a ha b hb => ?_⟩
    simp at hb; subst hb
    exact fun e => h.fresh hp (e ▸ ha)
  · by_cases hi : i < μ.length
    · rw [List.getElem?_append_left hi] at e1
      rw [List.getElem?_append_left (by rw [← h.len]; exact hi)] at e2
      obtain ⟨ho, e3, r'⟩ := h.obj i a o' e1 e2
      exact ⟨ho, by rw [upd_ne (ne_of_none e3 hp)]; exact e3, r'.ext h ex⟩
    · have e0 : i = μ.length := by
        have := (List.getElem?_eq_some_iff.mp e1).1
        simp at this; omega
      subst e0
      rw [List.getElem?_append_right (Nat.le_refl _)] at e1
      rw [h.len, List.getElem?_append_right (Nat.le_refl _)] at e2
      simp at e1 e2
      subst e1; subst e2
      exact ⟨o, upd_same, r.ext h ex⟩
/-- a list that nobody knows is put into the store -/
theorem HS.adopt (h : HS G μ H st) {p : Addr} {o : HO} {ao : AO} (hp : H p = some o) (hn : p ∉ μ) (r : HObj G μ H ao o) : HS G (μ ++ [p]) H (st ++ [ao]) := by
  have noT := r.noTup
  have relk : ∀ (d : D) (v : V), RelD G μ H d v → RelD G (μ ++ [p]) H d v := fun d v r => RelD.pre d v r
  have rels : ∀ (ds : List D) (vs : List V), RelDs G μ H ds vs → RelDs G (μ ++ [p]) H ds vs := fun d v r => RelDs.pre d v r
  have relf : ∀ (fs : List (Str × D)) (vs : List (Str × V)), RelF G μ H fs vs → RelF G (μ ++ [p]) H fs vs := by
    intro fs
    induction fs with
    | nil => exact fun vs r => r
    | cons d ds ih => obtain ⟨x, d⟩ := d; intro vs r; obtain ⟨v, rest, e1, rd, rs⟩ := r; exact ⟨v, rest, e1, relk d v rd, ih rest rs⟩
  have relK : ∀ {κ : Type} (f : D → Option κ) (fs : List (D × D)) (vs : List (κ × V)), RelK G μ H f fs vs → RelK G (μ ++ [p]) H f fs vs := by
    intro κ f fs
    induction fs with
    | nil => exact fun vs r => r
    | cons d ds ih => obtain ⟨x, d⟩ := d; intro vs r; obtain ⟨c, v, rest, e1, ek, rd, rs⟩ := r; exact ⟨c, v, rest, e1, ek, relk d v rd, ih rest rs⟩
  have relo : ∀ ao ho, HObj G μ H ao ho → HObj G (μ ++ [p]) H ao ho := by
    intro ao ho r
    cases ao with
    | lst ds => obtain ⟨vs, e1, rs⟩ := r; exact ⟨vs, e1, rels _ _ rs⟩
    | rol ds => obtain ⟨ob, vs, e1, rs⟩ := r; exact ⟨ob, vs, e1, rels _ _ rs⟩
    | ins c fs => obtain ⟨C, dx, vs, e1, m, rs⟩ := r; exact ⟨C, dx, vs, e1, m, relf _ _ rs⟩
    | dct kvs => obtain ⟨ks, e1, rs⟩ := r; exact ⟨ks, e1, relK _ _ _ rs⟩
    | dcT kvs => obtain ⟨ks, e1, rs⟩ := r; exact ⟨ks, e1, relK _ _ _ rs⟩
  refine ⟨?_, by simp [h.len], fun i a o' e1 e2 => ?_⟩
  · rw [List.nodup_append]
    refine ⟨h.nd, by simp, fun a ha b hb => ?_⟩
    simp at hb; subst hb
    exact fun e => hn (e ▸ ha)
  · by_cases hi : i < μ.length
    · rw [List.getElem?_append_left hi] at e1
      rw [List.getElem?_append_left (by rw [← h.len]; exact hi)] at e2
      obtain ⟨ho, e3, r'⟩ := h.obj i a o' e1 e2
      exact ⟨ho, e3, relo _ _ r'⟩
    · have e0 : i = μ.length := by
        have := (List.getElem?_eq_some_iff.mp e1).1
        simp at this; omega
      subst e0
      rw [List.getElem?_append_right (Nat.le_refl _)] at e1
      rw [h.len, List.getElem?_append_right (Nat.le_refl _)] at e2
      simp at e1 e2
      subst e1; subst e2
      exact ⟨o, hp, relo _ _ r⟩
end
end TK

set_option Elab.async false
set_option linter.all false
set_option maxRecDepth 100000
set_option maxHeartbeats 4000000
namespace TK
open PySem PySem.Spec
open PyProof.Rows hiding St
open L2

/-! ## what a call leaves of the store -/
mutual
def closed (n : Nat) : D → Bool
  | .tup ds => closeds n ds
  | .ref k => decide (k < n)
  | _ => true
def closeds (n : Nat) : List D → Bool
  | [] => true
  | d :: ds => closed n d && closeds n ds
end
def closedF (n : Nat) (fs : List (Str × D)) : Bool := fs.all fun p => closed n p.2
def closedK (n : Nat) (fs : List (D × D)) : Bool := fs.all fun p => closed n p.2
def closedO (n : Nat) : AO → Bool
  | .lst ds => closeds n ds
  | .rol ds => closeds n ds
  | .ins _ fs => closedF n fs
  | .dct kvs => closedK n kvs
  | .dcT kvs => closedK n kvs
def Trim (st st' : Store) : Prop := ∀ i, i < st.length → st'[i]? = st[i]? ∨ ∃ o, st'[i]? = some o ∧ closedO st.length o = true
open Classical in
noncomputable def gcR (st : Store) : R D → R D
  | .ok d st' => if Trim st st' then
      (if closed st.length d then .ok d (st'.take st.length)
      else match d with
        | .ref k => match st'[k]? with
          | some o => if closedO st.length o then .ok (.ref st.length) (st'.take st.length ++ [o]) else .ok d st'
          | none => .ok d st'
        | _ => .ok d st')
      else .ok d st'
  | .exc x st' => if Trim st st' ∧ closedF st.length x.fs = true then .exc x (st'.take st.length) else .exc x st'
  | .bad => .bad
section
variable {G : GX} {μ μ' ν : List Addr} {H H' : Hp} {st st' : Store}
mutual
theorem RelD.closed : ∀ (d : D) (v : V), RelD G μ H d v → closed μ.length d = true
  | .non, _, _ => rfl
  | .bl _, _, _ => rfl
  | .int _, _, _ => rfl
  | .str _, _, _ => rfl
  | .cls _, _, _ => rfl
  | .tup ds, _, r => by obtain ⟨a, vs, _, _, rs⟩ := r; exact RelDs.closed ds vs rs
  | .ref n, _, r => by obtain ⟨a, e1, _⟩ := r; simpa [TK.closed] using (List.getElem?_eq_some_iff.mp e1).1
theorem RelDs.closed : ∀ (ds : List D) (vs : List V), RelDs G μ H ds vs → closeds μ.length ds = true
  | [], _, _ => rfl
  | d :: ds, _, r => by
    obtain ⟨v, rest, _, rd, rs⟩ := r
    have h1 := RelD.closed d v rd
    have h2 := RelDs.closed ds rest rs
    simp [TK.closeds, h1, h2]
end
theorem RelF.closed : ∀ {fs : List (Str × D)} {vs : List (Str × V)}, RelF G μ H fs vs → closedF μ.length fs = true
  | [], _, _ => rfl
  | (x, d) :: fs, _, r => by
    obtain ⟨v, rest, _, rd, rs⟩ := r
    have h1 := RelD.closed d v rd
    have h2 := RelF.closed rs
    simp only [closedF] at h2 ⊢
    simp [h1, h2]
theorem RelK.closed {κ : Type} {f : D → Option κ} : ∀ {fs : List (D × D)} {vs : List (κ × V)}, RelK G μ H f fs vs → closedK μ.length fs = true
  | [], _, _ => rfl
  | (x, d) :: fs, _, r => by
    obtain ⟨c, v, rest, _, _, rd, rs⟩ := r
    have h1 := RelD.closed d v rd
    have h2 := RelK.closed rs
    simp only [closedK] at h2 ⊢
    simp [h1, h2]
theorem HObj.closed {o : AO} {ho : HO} (r : HObj G μ H o ho) : closedO μ.length o = true := by
  cases o with
  | lst ds => obtain ⟨vs, _, rs⟩ := r; exact RelDs.closed ds vs rs
  | rol ds => obtain ⟨ob, vs, _, rs⟩ := r; exact RelDs.closed ds vs rs
  | ins c fs => obtain ⟨C, dx, vs, _, _, rs⟩ := r; exact rs.closed
  | dct kvs => obtain ⟨ks, _, rs⟩ := r; exact rs.closed
  | dcT kvs => obtain ⟨ks, _, rs⟩ := r; exact rs.closed
mutual
theorem RelD.cut : ∀ (d : D) (v : V), TK.closed μ.length d = true → RelD G (μ ++ ν) H d v → RelD G μ H d v
  | .non, _, _, r => r
  | .bl _, _, _, r => r
  | .int _, _, _, r => r
  | .str _, _, _, r => r
  | .cls _, _, _, r => r
  | .tup ds, _, c, r => by
    obtain ⟨a, vs, e1, q, rs⟩ := r
    exact ⟨a, vs, e1, q, RelDs.cut ds vs (by simpa [TK.closed] using c) rs⟩
  | .ref n, _, c, r => by
    obtain ⟨a, e1, e2⟩ := r
    have hn : n < μ.length := by simpa [TK.closed] using c
    exact ⟨a, by rw [List.getElem?_append_left hn] at e1; exact e1, e2⟩
theorem RelDs.cut : ∀ (ds : List D) (vs : List V), TK.closeds μ.length ds = true → RelDs G (μ ++ ν) H ds vs → RelDs G μ H ds vs
  | [], _, _, r => r
  | d :: ds, _, c, r => by
    obtain ⟨v, rest, e1, rd, rs⟩ := r
    simp only [TK.closeds, Bool.and_eq_true] at c
    exact ⟨v, rest, e1, RelD.cut d v c.1 rd, RelDs.cut ds rest c.2 rs⟩
end
theorem RelF.cut : ∀ {fs : List (Str × D)} {vs : List (Str × V)}, closedF μ.length fs = true → RelF G (μ ++ ν) H fs vs → RelF G μ H fs vs
  | [], _, _, r => r
  | (x, d) :: fs, _, c, r => by
    obtain ⟨v, rest, e1, rd, rs⟩ := r
    simp only [closedF, List.all_cons, Bool.and_eq_true] at c
    exact ⟨v, rest, e1, RelD.cut d v c.1 rd, RelF.cut c.2 rs⟩
theorem RelK.cut {κ : Type} {f : D → Option κ} : ∀ {fs : List (D × D)} {vs : List (κ × V)}, closedK μ.length fs = true → RelK G (μ ++ ν) H f fs vs → RelK G μ H f fs vs
  | [], _, _, r => r
  | (x, d) :: fs, _, c, r => by
    obtain ⟨k, v, rest, e1, ek, rd, rs⟩ := r
    simp only [closedK, List.all_cons, Bool.and_eq_true] at c
    exact ⟨k, v, rest, e1, ek, RelD.cut d v c.1 rd, RelK.cut c.2 rs⟩
theorem HObj.cut {o : AO} {ho : HO} (c : closedO μ.length o = true) (r : HObj G (μ ++ ν) H o ho) : HObj G μ H o ho := by
  cases o with
  | lst ds => obtain ⟨vs, e1, rs⟩ := r; exact ⟨vs, e1, RelDs.cut ds vs c rs⟩
  | rol ds => obtain ⟨ob, vs, e1, rs⟩ := r; exact ⟨ob, vs, e1, RelDs.cut ds vs c rs⟩
  | ins c' fs => obtain ⟨C, dx, vs, e1, m, rs⟩ := r; exact ⟨C, dx, vs, e1, m, rs.cut c⟩
  | dct kvs => obtain ⟨ks, e1, rs⟩ := r; exact ⟨ks, e1, rs.cut c⟩
  | dcT kvs => obtain ⟨ks, e1, rs⟩ := r; exact ⟨ks, e1, rs.cut c⟩
theorem RelF.pre : ∀ {fs : List (Str × D)} {vs : List (Str × V)}, RelF G μ H fs vs → RelF G (μ ++ ν) H fs vs
  | [], _, r => r
  | (x, d) :: fs, _, r => by obtain ⟨v, rest, e1, rd, rs⟩ := r; exact ⟨v, rest, e1, RelD.pre d v rd, RelF.pre rs⟩
theorem RelK.pre {κ : Type} {f : D → Option κ} : ∀ {fs : List (D × D)} {vs : List (κ × V)}, RelK G μ H f fs vs → RelK G (μ ++ ν) H f fs vs
  | [], _, r => r
  | (x, d) :: fs, _, r => by obtain ⟨k, v, rest, e1, ek, rd, rs⟩ := r; exact ⟨k, v, rest, e1, ek, RelD.pre d v rd, RelK.pre rs⟩
theorem HObj.pre {o : AO} {ho : HO} (r : HObj G μ H o ho) : HObj G (μ ++ ν) H o ho := by
  cases o with
  | lst ds => obtain ⟨vs, e1, rs⟩ := r; exact ⟨vs, e1, RelDs.pre ds vs rs⟩
  | rol ds => obtain ⟨ob, vs, e1, rs⟩ := r; exact ⟨ob, vs, e1, RelDs.pre ds vs rs⟩
  | ins c' fs => obtain ⟨C, dx, vs, e1, m, rs⟩ := r; exact ⟨C, dx, vs, e1, m, rs.pre⟩
  | dct kvs => obtain ⟨ks, e1, rs⟩ := r; exact ⟨ks, e1, rs.pre⟩
  | dcT kvs => obtain ⟨ks, e1, rs⟩ := r; exact ⟨ks, e1, rs.pre⟩
theorem HS.closedAt (h : HS G μ H st) {i : Nat} {o : AO} (e : st[i]? = some o) : closedO st.length o = true := by
  have hi : i < μ.length := by rw [h.len]; exact (List.getElem?_eq_some_iff.mp e).1
  obtain ⟨ho, _, r⟩ := h.obj i μ[i] o (by simp [hi]) e
  rw [← h.len]; exact r.closed
/-- the store cut back to what stood ahead -/
theorem HS.cut (h0 : HS G μ H st) (e : Ext μ H μ' H') (h1 : HS G μ' H' st') (t : Trim st st') : HS G μ H' (st'.take st.length) := by
  obtain ⟨ν, rfl, f, k⟩ := e
  have hl := h1.len
  simp at hl
  refine ⟨h0.nd, by rw [List.length_take, ← h0.len]; omega, fun i a o e1 e2 => ?_⟩
  have hi : i < μ.length := (List.getElem?_eq_some_iff.mp e1).1
  rw [List.getElem?_take_of_lt (by rw [← h0.len]; exact hi)] at e2
  obtain ⟨ho, e3, r⟩ := h1.obj i a o (by rw [List.getElem?_append_left hi]; exact e1) e2
  refine ⟨ho, e3, r.cut ?_⟩
  rw [h0.len]
  rcases t i (by rw [← h0.len]; exact hi) with q | ⟨o', q, c⟩
  · rw [e2] at q; exact h0.closedAt q.symm
  · rw [e2] at q; cases q; exact c
theorem Ext.cut (e : Ext μ H μ' H') : Ext μ H μ H' := by
  obtain ⟨ν, rfl, f, k⟩ := e
  exact ⟨[], by simp, by simp, k⟩
theorem Post.gc {W : WX} {σ : St} {r : R D} {Q : VK} (h0 : HS G μ H st) (h : Post G W (relD G) σ μ H (gcR st r) Q) : Post G W (relD G) σ μ H r Q := by
  cases r with
  | bad => exact h
  | exc x st' =>
    intro μ' H' C od e hs rx
    simp only [gcR] at h
    split at h
    · rename_i t
      refine h μ H' C od e.cut (h0.cut e hs t.1) ?_
      obtain ⟨ν, rfl, f, k⟩ := e
      obtain ⟨a, m, e1, q⟩ := rx
      refine ⟨a, m, e1, ?_⟩
      cases od with
      | none => exact q
      | some dx =>
        obtain ⟨q1, q2, vs, q3, q4⟩ := q
        exact ⟨q1, fun z => q2 (List.mem_append_left _ z), vs, q3, q4.cut (by rw [h0.len]; exact t.2)⟩
    · exact h μ' H' C od e hs rx
  | ok d st' =>
    intro μ' H' v e hs rd
    simp only [gcR] at h
    split at h
    · rename_i t
      split at h
      · rename_i c
        refine h μ H' v e.cut (h0.cut e hs t) ?_
        obtain ⟨ν, rfl, f, k⟩ := e
        exact RelD.cut d v (by rw [h0.len]; exact c) rd
      · rename_i c
        split at h
        · rename_i k
          split at h
          · rename_i o eo
            split at h
            · rename_i co
              have hc := h0.cut e hs t
              obtain ⟨a, ea, ev⟩ := (show ∃ a, μ'[k]? = some a ∧ v = .ref a from rd)
              have hk : ¬ k < st.length := by simpa [TK.closed] using c
              obtain ⟨ν, rfl, f, kk⟩ := e
              have hkm : μ.length ≤ k := by rw [h0.len]; omega
              have ea' := ea
              rw [List.getElem?_append_right hkm] at ea'
              have hav : a ∈ ν := List.mem_of_getElem? ea'
              obtain ⟨ho, e3, r⟩ := hs.obj k a o ea eo
              have hc2 := hc.adopt e3 (f a hav).2 (HObj.cut (by rw [h0.len]; exact co) r)
              refine h (μ ++ [a]) H' v ⟨[a], rfl, fun b hb => by simp at hb; subst hb; exact f _ hav, kk⟩ hc2 ⟨a, ?_, ev⟩
              rw [← h0.len, List.getElem?_append_right (Nat.le_refl _)]; simp
            · exact h μ' H' v e hs rd
          · exact h μ' H' v e hs rd
        · exact h μ' H' v e hs rd
    · exact h μ' H' v e hs rd
end

/-! ## functions of the text -/
/-- what a def promises: its plain function -/
def spA (G : GX) (m : List D → Store → R D) (n : Nat) : Sp := fun vs H Q E => ∃ μ st ds, HS G μ H st ∧ RelDs G μ H ds vs ∧ Post G (fun C od _ H' => E C od H') (relD G) [] μ H (m ds st) Q ∧ ds.length = n
noncomputable def eCall (m : List D → Store → R D) (fa : LF) : EF := fun env st => (fa env st).bind fun ds st1 => gcR st1 (m ds st1)
def lNil : LF := fun _ st => .ok [] st
def lCons (fa : EF) (fr : LF) : LF := fun env st => (fa env st).bind fun d st1 => (fr env st1).bind fun ds st2 => .ok (d :: ds) st2
theorem Post.slots {α β : Type} {G : GX} {W W' : WX} {rel : RelT α β} {σ σ' : St} {μ : List Addr} {H : Hp} {r : R α} {Q : β → Hp → Prop} (h : Post G W rel σ μ H r Q) (k : ∀ C od H', W C od σ H' → W' C od σ' H') : Post G W' rel σ' μ H r Q := by
  cases r with
  | ok a st => exact h
  | exc x st => exact fun μ' H' C od e hs rx => k _ _ _ (h μ' H' C od e hs rx)
  | bad => exact h
/-- what a body's context gives: no name twice, room for calls, how exceptions go -/
structure Ctx (X : Cx) (W : WX) (lv : Nat) : Prop where
  nd : X.N.Nodup
  calm : X.calm = true
  room : Room lv X.A
  own : PassesOwn (model X.prog X.w) X.A X.env X.xe
  tk : Takes X W
theorem Ctx.at {X : Cx} {W : WX} {lv : Nat} (c : Ctx X W lv) (σ : St) : PassesAt (CX X.prog X.w) X σ (WE W σ) := passAt c.tk σ
theorem Ctx.mono {X : Cx} {W : WX} {j k : Nat} (c : Ctx X W k) (h : j ≤ k) : Ctx X W j := ⟨c.nd, c.calm, c.room.mono h, c.own, c.tk⟩
section
variable {X : Cx} {W : WX} {e : Expr} {es : List Expr} {fa : EF} {fr : LF}
theorem aa_nil : AA X W [] lNil := pa_nil.weak fun σ H Q ⟨μ, env, st, hs, er, p⟩ => p μ H [] .refl hs rfl
theorem aa_cons (ha : AE X W e fa) (hr : AA X W es fr) (hs : starEach (e :: es) X.env = (false, eval e X.env) :: starEach es X.env := by rfl) : AA X W (e :: es) (lCons fa fr) :=
  (pa_cons ha hr hs).weak fun σ H Q ⟨μ, env, st, hs, er, p⟩ =>
    ⟨μ, env, st, hs, er, Post.bind p fun x st1 μ1 H1 v _ x1 hs1 r1 p1 => ⟨μ1, env, st1, hs1, er.ext hs x1, Post.bind p1 fun ds st2 μ2 H2 vs _ x2 hs2 r2 p2 => p2 μ2 H2 (v :: vs) .refl hs2 (.cons (RelD.ext hs1 x2 x v r1) r2)⟩⟩
variable {lv k : Nat} {f : Addr} {fd : FuncData} {ps : List Str} {m : List D → Store → R D} {x : Str} {p pos : Pos}
theorem call_sp {σ : St} {H : Hp} {Q : VK} {n : Nat} (h : tG (gx X) W (relD (gx X)) (eCall m fr) σ H Q) (hn : ∀ env st ds st', fr env st = .ok ds st' → ds.length = n) :
    tCallSD (spA (gx X) m n) [] (WE W) (tG (gx X) W (relDs (gx X)) fr) σ H Q := by
  obtain ⟨μ, env, st, hs, er, q⟩ := h
  refine ⟨μ, env, st, hs, er, Post.bind q fun ds st1 μ1 H1 vs e1 x1 hs1 r1 p1 => ?_⟩
  rw [List.append_nil]
  exact ⟨μ1, st1, ds, hs1, r1, (Post.gc hs1 p1).slots fun _ _ _ w => w, hn env st ds st1 e1⟩
/-- a def of the text, called -/
structure FnA (G : GX) (P : Program) (w : World) (base : Heap) (k : Nat) (x : Str) (n : Nat) (m : List D → Store → R D) : Prop where
  ex : ∃ f fd ps, FnOk P w G.K G.mg base (CX P w) k f fd ps (spA G m n) ∧ G.mg x = some (.ref f) ∧ PySem.W.keepIn G.K (.ref f) = true ∧ Binds G.K fd ps []
theorem ae_call {n : Nat} (F : FnA (gx X) X.prog X.w X.base k x n m) (c : Ctx X W lv) (ha : AA X W (e :: es) fr) (hn : ∀ env st ds st', fr env st = .ok ds st' → ds.length = n) (hk : k ≤ lv := by decide) (hg : Gl X x := by rfl)
    (hdb : (x == ("__debug__" : Str)) = false := by decide) (he : starEach (e :: es) X.env = (false, eval e X.env) :: starEach es X.env := by rfl) (hpl : (backTo pos (starEach es X.env)).any (·.1) = false := by rfl) :
    AE X W (.Call (.Name x p) (e :: es) [] pos) (eCall m fr) := by
  obtain ⟨f, fd, ps, F, hm, hkp, hb⟩ := F.ex
  exact (pe_callSD F (c.room.mono hk) hg hm hkp hb .nil c.at ha hdb he hpl).weak fun σ H Q h => call_sp h hn
theorem lNil_len (env : AEnv) (st : Store) (ds : List D) (st' : Store) (h : lNil env st = .ok ds st') : ds.length = 0 := by cases h; rfl
theorem lCons_len {n : Nat} (hr : ∀ env st ds st', fr env st = .ok ds st' → ds.length = n) (env : AEnv) (st : Store) (ds : List D) (st' : Store) (h : lCons fa fr env st = .ok ds st') : ds.length = n + 1 := by
  unfold lCons at h
  cases e1 : fa env st with
  | ok d st1 =>
    rw [e1] at h
    cases e2 : fr env st1 with
    | ok ds' st2 =>
      rw [R.bind_ok, e2] at h
      cases h
      simp [hr env st1 ds' _ e2]
    | exc _ _ => rw [R.bind_ok, e2] at h; cases h
    | bad => rw [R.bind_ok, e2] at h; cases h
  | exc _ _ => rw [e1] at h; cases h
  | bad => rw [e1] at h; cases h
end
end TK

set_option Elab.async false
set_option linter.all false
set_option maxRecDepth 100000
set_option maxHeartbeats 4000000
namespace TK
open PySem PySem.Spec
open PyProof.Rows hiding St
open L2

/-! ## statements -/
def sOf {α : Type} (r : R α) (env : AEnv) (k : α → Store → RS) : RS := match r with
  | .ok a st => k a st
  | .exc x st => .exc env x st
  | .bad => .bad
@[simp] theorem sOf_ok {α : Type} (a : α) (st : Store) (env : AEnv) (k : α → Store → RS) : sOf (.ok a st) env k = k a st := rfl
@[simp] theorem sOf_exc {α : Type} (x : EX) (st : Store) (env : AEnv) (k : α → Store → RS) : sOf (.exc x st) env k = .exc env x st := rfl
@[simp] theorem sOf_bad {α : Type} (env : AEnv) (k : α → Store → RS) : sOf .bad env k = .bad := rfl
def sThen (r : RS) (g : SF) : RS := match r with
  | .next env st => g env st
  | r => r
@[simp] theorem sThen_next (env : AEnv) (st : Store) (g : SF) : sThen (.next env st) g = g env st := rfl
@[simp] theorem sThen_ret (d : D) (st : Store) (g : SF) : sThen (.ret d st) g = .ret d st := rfl
@[simp] theorem sThen_brk (env : AEnv) (st : Store) (g : SF) : sThen (.brk env st) g = .brk env st := rfl
@[simp] theorem sThen_cont (env : AEnv) (st : Store) (g : SF) : sThen (.cont env st) g = .cont env st := rfl
@[simp] theorem sThen_exc (env : AEnv) (x : EX) (st : Store) (g : SF) : sThen (.exc env x st) g = .exc env x st := rfl
@[simp] theorem sThen_bad (g : SF) : sThen .bad g = .bad := rfl
def sSeq (f g : SF) : SF := fun env st => sThen (f env st) g
def sNil : SF := fun env st => .next env st
def sSet (i : Nat) (fe : EF) : SF := fun env st => sOf (fe env st) env fun d st1 => .next (env.set i (some d)) st1
def sDrop (fe : EF) : SF := fun env st => sOf (fe env st) env fun _ st1 => .next env st1
def sRet (fe : EF) : SF := fun env st => sOf (fe env st) env fun d st1 => .ret d st1
def sRetN : SF := fun _ st => .ret .non st
def sIf (fc : BF) (f g : SF) : SF := fun env st => sOf (fc env st) env fun b st1 => if b then f env st1 else g env st1
def sBrk : SF := fun env st => .brk env st
def sCont : SF := fun env st => .cont env st
section
variable {α β : Type} {G : GX} {W : WX} {rel : RelT α β} {μ : List Addr} {H : Hp} {σ : St} {st : Store} {env : AEnv} {Dn : Ends}
theorem PostS.bind {r : R α} {k : α → Store → RS} {Q : β → Hp → Prop} (h : PostS G W μ H (sOf r env k) Dn) (hs : HS G μ H st) (er : EnvR G μ H env σ)
    (kk : ∀ x st1 μ1 H1 y, r = .ok x st1 → Ext μ H μ1 H1 → HS G μ1 H1 st1 → rel.r H μ1 H1 x y → PostS G W μ1 H1 (k x st1) Dn → Q y H1) : Post G W rel σ μ H r Q := by
  cases r with
  | ok a st => exact fun μ2 H2 y e2 hs rl => kk a st μ2 H2 y rfl e2 hs rl (PostS.later h e2)
  | exc x st => exact fun μ2 H2 C od e2 hs2 rx => h μ2 H2 σ C od e2 hs2 (er.ext hs e2) rx
  | bad => exact h
end
section
variable {X : Cx} {W : WX} {s : Stmt} {ss : List Stmt} {f g : SF} {e : Expr} {fe : EF} {fc : BF} {pos : Pos} {lv : Nat}
theorem ass_nil : ASs X W [] sNil := pss_nil.weak fun Dn σ H ⟨μ, env, st, hs, er, p⟩ => p μ H σ .refl hs er
theorem ass_cons (h1 : AS X W s f) (h2 : ASs X W ss g) : ASs X W (s :: ss) (sSeq f g) := (pss_cons h1 h2).weak fun Dn σ H ⟨μ, env, st, hs, er, p⟩ => by
  refine ⟨μ, env, st, hs, er, ?_⟩
  unfold sSeq at p
  cases q : f env st with
  | next env1 st1 => rw [q] at p; exact fun μ' H' σ' e hs' er' => ⟨μ', env1, st1, hs', er', PostS.later p e⟩
  | ret d st1 => rw [q] at p; exact p
  | brk env1 st1 => rw [q] at p; exact p
  | cont env1 st1 => rw [q] at p; exact p
  | exc env1 x st1 => rw [q] at p; exact p
  | bad => rw [q] at p; exact p
theorem ass_one (h1 : AS X W s f) : ASs X W [s] f := (pss_one h1).weak fun Dn σ H h => h
theorem as_set (c : Ctx X W lv) (i : Nat) {x : Str} {pos' : Pos} (he : AE X W e fe) (hi : X.N[i]? = some x := by rfl) (hx : Loc X.env.scope x := by first | exact Or.inl rfl | exact Or.inr rfl)
    (hs : swapsWith e (some (.Name x pos')) pos.line X.env = pure false := by rfl) (hf : X.fn x = true ∨ X.env.scope.names.lookup x = some .local := by first | exact .inl rfl | exact .inr rfl) :
    AS X W (.Assign [.Name x pos'] e pos) (sSet i fe) := (ps_set c.nd hi hx he hs hf).weak fun Dn σ H ⟨μ, env, st, hs, er, p⟩ =>
  ⟨μ, env, st, hs, er, PostS.bind p hs er fun d st1 μ1 H1 v _ x1 hs1 r1 p1 => p1 μ1 H1 _ .refl hs1 ((er.ext hs x1).set r1 i)⟩
theorem as_expr (he : AE X W e fe) (hs : swapsWith e none pos.line X.env = pure false := by rfl) : AS X W (.Expr e pos) (sDrop fe) := (ps_expr he hs).weak fun Dn σ H ⟨μ, env, st, hs, er, p⟩ =>
  ⟨μ, env, st, hs, er, PostS.bind p hs er fun d st1 μ1 H1 v _ x1 hs1 r1 p1 => p1 μ1 H1 _ .refl hs1 (er.ext hs x1)⟩
theorem as_ret (he : AE X W e fe) : AS X W (.Return (some e) pos) (sRet fe) := (ps_ret he).weak fun Dn σ H ⟨μ, env, st, hs, er, p⟩ =>
  ⟨μ, env, st, hs, er, PostS.bind p hs er fun d st1 μ1 H1 v _ x1 hs1 r1 p1 => p1 μ1 H1 v .refl hs1 r1⟩
theorem as_retN : AS X W (.Return none pos) sRetN := ps_retN.weak fun Dn σ H ⟨μ, env, st, hs, er, p⟩ => p μ H .non .refl hs rfl
theorem as_if {c : Expr} {a b : List Stmt} (hc : AT X W c fc) (ha : ASs X W a f) (hb : ASs X W b g) : AS X W (.If c a b pos) (sIf fc f g) := (ps_if hc ha hb).weak fun Dn σ H ⟨μ, env, st, hs, er, p⟩ =>
  ⟨μ, env, st, hs, er, PostS.bind p hs er fun d st1 μ1 H1 v _ x1 hs1 r1 p1 => by
    have r1 : v = d := r1
    subst r1
    cases v with
    | true => exact ⟨μ1, env, st1, hs1, er.ext hs x1, p1⟩
    | false => exact ⟨μ1, env, st1, hs1, er.ext hs x1, p1⟩⟩
theorem as_brk : AS X W (.Break pos) sBrk := ps_break.weak fun Dn σ H ⟨μ, env, st, hs, er, p⟩ => p μ H σ .refl hs er
theorem as_cont : AS X W (.Continue pos) sCont := ps_continue.weak fun Dn σ H ⟨μ, env, st, hs, er, p⟩ => p μ H σ .refl hs er
theorem as_pass : AS X W (.Pass pos) sNil := ps_pass.weak fun Dn σ H ⟨μ, env, st, hs, er, p⟩ => p μ H σ .refl hs er
end

/-! ## a def -/
def runDef (n : Nat) (body : SF) : List D → Store → R D := fun ds st => match body (ds.map some ++ List.replicate (n - ds.length) none) st with
  | .next _ st' => .ok .non st'
  | .ret d st' => .ok d st'
  | .exc _ x st' => .exc x st'
  | _ => .bad
section
variable {P : Program} {w : World} {G : GX} {base : Heap}
theorem EnvR.start {μ : List Addr} {H : Hp} {ds : List D} {vs : List V} {n : Nat} (r : RelDs G μ H ds vs) : EnvR G μ H (ds.map some ++ List.replicate (n - ds.length) none) (vs.map some ++ List.replicate (n - vs.length) none) := by
  have hl := r.length
  refine ⟨by simp [hl], fun i d q => ?_⟩
  by_cases hi : i < ds.length
  · rw [List.getElem?_append_left (by simpa using hi), List.getElem?_map] at q
    cases e : ds[i]? with
    | none => rw [e] at q; cases q
    | some d' =>
      rw [e] at q
      simp at q
      subst q
      obtain ⟨v, e1, rd⟩ := r.get e
      exact ⟨v, by rw [List.getElem?_append_left (by simpa [hl] using hi), List.getElem?_map, e1]; rfl, rd⟩
  · rw [List.getElem?_append_right (by simpa using hi), List.getElem?_replicate] at q
    split at q <;> cases q
/-- THE RULE of a def: its body as plain function -/
theorem FnA.of {x qual : Str} {st : Stmt} {f : Addr} {fd : FuncData} {N ps : List Str} {k : Nat} {body : SF} (F : Fun G.K x qual st f fd) (S : FnScope N ps (defScope st)) (hm : G.mg x = some (.ref f))
    (hb : Binds G.K fd ps [])
    (h : ∀ (cdv : Value) (A : Around) (outer : List Env) (s : Shared) (H : Hp) (E : XK),
      Ctx (cxOf (L2.CX P w) P w G.K G.mg base N qual (defScope st) f cdv A outer s H E) (fun C od _ H' => E C od H') k → ASs (cxOf (L2.CX P w) P w G.K G.mg base N qual (defScope st) f cdv A outer s H E) (fun C od _ H' => E C od H') (defBody st) body) :
    FnA G P w base (k + 1) x ps.length (runDef N.length body) := by
  refine ⟨f, fd, ps, ?_, hm, F.kp, hb⟩
  refine F.okX S (fun vs H Q E q => ?_) fun cdv A outer s H vs Q E hr hsp => ?_
  · obtain ⟨μ, st, ds, _, r, _, hl⟩ := q
    rw [r.length, hl]
  · obtain ⟨μ, sto, ds, hs, r, p, hl⟩ := hsp
    have c : Ctx (cxOf (L2.CX P w) P w G.K G.mg base N qual (defScope st) f cdv A outer s H E) (fun C od _ H' => E C od H') k :=
      ⟨S.nd, rfl, hr, passes_of rfl, takes_of rfl rfl rfl rfl⟩
    refine ⟨_, h cdv A outer s H E c, ?_⟩
    refine ⟨μ, ds.map some ++ List.replicate (N.length - ds.length) none, sto, hs, EnvR.start (n := N.length) r, ?_⟩
    · unfold runDef at p
      cases q : body (ds.map some ++ List.replicate (N.length - ds.length) none) sto with
      | next env' st' => rw [q] at p; exact fun μ' H' σ' e hs' er' => p μ' H' .non e hs' rfl
      | ret d st' => rw [q] at p; exact p
      | brk env' st' => rw [q] at p; exact p.elim
      | cont env' st' => rw [q] at p; exact p.elim
      | exc env' x st' => rw [q] at p; exact fun μ' H' σ' C od e hs' er' rx => p μ' H' C od e hs' rx
      | bad => rw [q] at p; exact p.elim
end

/-! ## targets -/
inductive Tgt where
  | name (i : Nat) | tup (ts : List Tgt)
mutual
def asgT : Tgt → D → AEnv → Option AEnv
  | .name i, d, env => some (env.set i (some d))
  | .tup ts, .tup ds, env => asgTs ts ds env
  | .tup _, _, _ => none
def asgTs : List Tgt → List D → AEnv → Option AEnv
  | [], [], env => some env
  | t :: ts, d :: ds, env => match asgT t d env with
    | some env' => asgTs ts ds env'
    | none => none
  | _, _, _ => none
end
mutual
def gT (K : PySem.W.Frag) : Tgt → TG
  | .name i => gName i
  | .tup ts => gTup K ts.length (gTs K ts)
def gTs (K : PySem.W.Frag) : List Tgt → TGs
  | [] => gNil
  | t :: ts => gCons (gT K t) (gTs K ts)
end
mutual
def slotsT : Tgt → List Nat
  | .name i => [i]
  | .tup ts => slotsTs ts
def slotsTs : List Tgt → List Nat
  | [] => []
  | t :: ts => slotsT t ++ slotsTs ts
end
theorem wipe_set (σ : St) {i : Nat} {x : Option V} : ∀ {vs : List Nat}, i ∈ vs → wipe (σ.set i x) vs = wipe σ vs
  | [], h => by simp at h
  | v :: vs, h => by
    unfold wipe
    by_cases hv : i ∈ vs
    · rw [wipe_set σ hv]
    · have e : i = v := by rcases List.mem_cons.mp h with h | h; exact h; exact absurd h hv
      subst e
      have com : ∀ (us : List Nat), i ∉ us → wipe (σ.set i x) us = (wipe σ us).set i x := by
        intro us
        induction us with
        | nil => intro _; rfl
        | cons u us ih =>
          intro hu
          simp only [List.mem_cons, not_or] at hu
          unfold wipe
          rw [ih hu.2, List.set_comm _ _ hu.1]
      rw [com vs hv, List.set_set]
theorem wipe_wipe (σ : St) (vs : List Nat) : wipe (wipe σ vs) vs = wipe σ vs := by
  have h : ∀ us : List Nat, (∀ u ∈ us, u ∈ vs) → wipe (wipe σ us) vs = wipe σ vs := by
    intro us
    induction us with
    | nil => intro _; rfl
    | cons u us ih =>
      intro hu
      show wipe ((wipe σ us).set u none) vs = _
      rw [wipe_set _ (hu u (by simp)), ih fun w hw => hu w (by simp [hw])]
  exact h vs fun _ z => z
section
variable {G : GX} {μ : List Addr} {H : Hp} {st : Store}
mutual
theorem gT_ok : ∀ (t : Tgt) {env env' : AEnv} {σ : St} {d : D} {v : V} {Q : St → Hp → Prop}, EnvR G μ H env σ → RelD G μ H d v → asgT t d env = some env' →
    (∀ σ', EnvR G μ H env' σ' → (∀ vs, (∀ i ∈ slotsT t, i ∈ vs) → wipe σ' vs = wipe σ vs) → Q σ' H) → gT G.K t v σ H Q
  | .name i, env, env', σ, d, v, Q, er, rd, e, q => by
    simp only [asgT, Option.some.injEq] at e
    subst e
    unfold gT
    exact q _ (er.set rd i) fun vs hv => wipe_set σ (hv i (by simp [slotsT]))
  | .tup ts, env, env', σ, d, v, Q, er, rd, e, q => by
    cases d with
    | tup ds =>
      obtain ⟨a, vs, e1, hq, rs⟩ := rd
      simp only [asgT] at e
      unfold gT
      have hl : ds.length = ts.length := asgTs_len ts e
      refine ⟨a, vs, e1, .of hq, by rw [rs.length, hl], ?_⟩
      exact gTs_ok ts er rs e fun σ' er' hw => q σ' er' fun us hu => hw us (by simpa [slotsT] using hu)
    | _ => simp [asgT] at e
theorem gTs_ok : ∀ (ts : List Tgt) {env env' : AEnv} {σ : St} {ds : List D} {vs : List V} {Q : St → Hp → Prop}, EnvR G μ H env σ → RelDs G μ H ds vs → asgTs ts ds env = some env' →
    (∀ σ', EnvR G μ H env' σ' → (∀ us, (∀ i ∈ slotsTs ts, i ∈ us) → wipe σ' us = wipe σ us) → Q σ' H) → gTs G.K ts vs σ H Q
  | [], env, env', σ, ds, vs, Q, er, rs, e, q => by
    cases ds with
    | nil => cases rs; simp [asgTs] at e; subst e; unfold gTs; exact ⟨rfl, q σ er fun _ _ => rfl⟩
    | cons _ _ => simp [asgTs] at e
  | t :: ts, env, env', σ, ds, vs, Q, er, rs, e, q => by
    cases ds with
    | nil => simp [asgTs] at e
    | cons d ds =>
      obtain ⟨v, rest, e1, rd, rs⟩ := rs
      simp only [asgTs] at e
      split at e
      · rename_i env1 e2
        unfold gTs
        refine ⟨v, rest, e1, gT_ok t er rd e2 fun σ1 er1 hw1 => ?_⟩
        refine gTs_ok ts er1 rs e fun σ2 er2 hw2 => q σ2 er2 fun us hu => ?_
        rw [hw2 us fun i hi => hu i (by simp [slotsTs, hi]), hw1 us fun i hi => hu i (by simp [slotsTs, hi])]
      · cases e
theorem asgTs_len : ∀ (ts : List Tgt) {env env' : AEnv} {ds : List D}, asgTs ts ds env = some env' → ds.length = ts.length
  | [], env, env', [], e => rfl
  | [], env, env', _ :: _, e => by simp [asgTs] at e
  | t :: ts, env, env', [], e => by simp [asgTs] at e
  | t :: ts, env, env', d :: ds, e => by
    simp only [asgTs] at e
    split at e
    · simp [asgTs_len ts e]
    · cases e
end
end
abbrev AG (X : Cx) (tg : Expr) (t : Tgt) : Prop := PG X tg (gT X.K t)
abbrev AGs (X : Cx) (tgs : List Expr) (ts : List Tgt) : Prop := PGs X tgs (gTs X.K ts)
section
variable {X : Cx} {W : WX} {e tg : Expr} {tgs : List Expr} {fe : EF} {pos : Pos} {lv : Nat} {t : Tgt} {ts : List Tgt}
theorem ag_name (hN : X.N.Nodup) (i : Nat) {x : Str} (hi : X.N[i]? = some x := by rfl) (hx : Loc X.env.scope x := by first | exact Or.inl rfl | exact Or.inr rfl) (hf : X.fn x = true ∨ X.env.scope.names.lookup x = some .local := by first | exact .inl rfl | exact .inr rfl) :
    AG X (.Name x pos) (.name i) := by
  have h := pg_name (pos := pos) hN hi hx hf
  unfold AG gT
  exact h
theorem ags_nil : AGs X [] [] := by unfold AGs gTs; exact pgs_nil
theorem ags_cons (h1 : AG X tg t) (h2 : AGs X tgs ts) (hs : (assignEach (tg :: tgs) X.env).map (·.2) = assign tg X.env :: (assignEach tgs X.env).map (·.2) := by rfl) : AGs X (tg :: tgs) (t :: ts) := by unfold AGs gTs; exact pgs_cons h1 h2 hs
theorem ag_tup {k : Nat} (hc : X.calm = true) (h : AGs X tgs ts) (hn : (assignEach tgs X.env).length = ts.length := by rfl) (hst : (assignEach tgs X.env).findIdx? (·.1) = none := by rfl) : AG X (.Tuple tgs k pos) (.tup ts) := by
  unfold AG gT
  exact pg_tup hc h hn hst
def sAsg (t : Tgt) (fe : EF) : SF := fun env st => sOf (fe env st) env fun d st1 => match asgT t d env with
  | some env' => .next env' st1
  | none => .bad
/-- a, b = e -/
theorem as_asg (he : AE X W e fe) (hg : AG X tg t) (hs : swapsWithSole [tg] e pos.line X.env = pure false := by rfl) (hw : swappedStores [tg] e X.env = pure none := by rfl)
    (h1 : (assignEach [tg] X.env).map (·.2) = [assign tg X.env] := by rfl) : AS X W (.Assign [tg] e pos) (sAsg t fe) := (ps_asg he hg hs hw h1).weak fun Dn σ H ⟨μ, env, st, hs, er, p⟩ =>
  ⟨μ, env, st, hs, er, PostS.bind p hs er fun d st1 μ1 H1 v _ x1 hs1 r1 p1 => by
    split at p1
    · rename_i env' e1
      exact gT_ok (G := gx X) t (er.ext hs x1) r1 e1 fun σ' er' _ => p1 μ1 H1 σ' .refl hs1 er'
    · exact p1.elim⟩
end
end TK

set_option Elab.async false
set_option linter.all false
set_option maxRecDepth 100000
set_option maxHeartbeats 4000000
namespace TK
open PySem PySem.Spec
open PyProof.Rows hiding St
open L2

/-! ## what is walked -/
def seqOf (d : D) (st : Store) : Option (List D) := match d with
  | .tup ds => some ds
  | .ref n => match st[n]? with
    | some (.lst ds) => some ds
    | some (.rol ds) => some ds
    | _ => none
  | _ => none
/-- the items, and the object of the store that must stay as it is meanwhile -/
abbrev Its := List D × List (Nat × List D)
def gOK (g : Its) (st : Store) : Prop := ∀ p ∈ g.2, seqOf (.ref p.1) st = some p.2
@[simp] theorem gOK_nil (ds : List D) (st : Store) : gOK (ds, []) st = True := by simp [gOK]
@[simp] theorem gOK_cons (ds ys : List D) (n : Nat) (l : List (Nat × List D)) (st : Store) : gOK (ds, (n, ys) :: l) st = (seqOf (.ref n) st = some ys ∧ gOK (ds, l) st) := by simp [gOK]
structure IterR (G : GX) (μ : List Addr) (H : Hp) (g : Its) (J : It) : Prop where
  go : ∀ μ1 H1 st1, Ext μ H μ1 H1 → HS G μ1 H1 st1 → gOK g st1 → ∀ i, i < g.1.length → J.go i H1
  yld : ∀ μ1 H1 st1, Ext μ H μ1 H1 → HS G μ1 H1 st1 → gOK g st1 → ∀ i x H2, i < g.1.length → J.yld i H1 x H2 → ∃ d, g.1[i]? = some d ∧ Ext μ1 H1 μ1 H2 ∧ HS G μ1 H2 st1 ∧ RelD G μ1 H2 d x
  stop : ∀ μ1 H1 st1, Ext μ H μ1 H1 → HS G μ1 H1 st1 → gOK g st1 → J.stop g.1.length H1
abbrev relI (G : GX) : RelT Its It := ⟨fun _ μ H g J => IterR G μ H g J, fun _ _ r => r⟩
abbrev IF := AEnv → Store → R Its
abbrev AI (X : Cx) (W : WX) (tg e : Expr) (f : IF) : Prop := PI X tg e (tG (gx X) W (relI (gx X)) f)
theorem _root_.L2.PI.weak {X : Cx} {tg e : Expr} {t t' : TI} (h : PI X tg e t) (k : ∀ σ H Q, t' σ H Q → t σ H Q) : PI X tg e t' := ⟨fun pins s σ H Q I q => h.run pins s σ H Q I (k _ _ _ q)⟩

section
variable {G : GX} {μ μ' : List Addr} {H H' : Hp} {st : Store}
/-- a tuple that stands -/
theorem IterR.tup {a : Addr} {vs : List V} {ds : List D} (hs : HS G μ H st) (q : SqT G.K H a vs) (r : RelDs G μ H ds vs) : IterR G μ H (ds, []) (Itt G.K a) where
  go := fun μ1 H1 st1 e hs1 _ i hi => ⟨vs, vs[i]'(by rw [r.length]; exact hi), SqT_ext hs e q, by simp [r.length, hi]⟩
  yld := fun μ1 H1 st1 e hs1 _ i x H2 hi y => by
    obtain ⟨e1, y⟩ := y
    subst e1
    have hx := y vs (SqT_ext hs e q)
    obtain ⟨d, e2, rd⟩ := r.get' hx
    exact ⟨d, e2, .refl, hs1, RelD.ext hs e d x rd⟩
  stop := fun μ1 H1 st1 e hs1 _ => ⟨vs, SqT_ext hs e q, by rw [r.length]; exact Nat.le_refl _⟩
theorem Ext.lst (e : Ext μ H μ' H') {a : Addr} (hn : a ∉ μ) {o : HO} (h : H a = some o) : H' a = some o := by
  obtain ⟨_, _, _, k⟩ := e
  exact k a o h hn
/-- a list that is not in the store -/
theorem IterR.lst {a : Addr} {vs : List V} {ds : List D} (hs : HS G μ H st) (hn : a ∉ μ) (q : H a = some (.lst vs)) (r : RelDs G μ H ds vs) : IterR G μ H (ds, []) (Itl G.K a) where
  go := fun μ1 H1 st1 e hs1 _ i hi => ⟨vs, vs[i]'(by rw [r.length]; exact hi), .of (e.lst hn q), by simp [r.length, hi]⟩
  yld := fun μ1 H1 st1 e hs1 _ i x H2 hi y => by
    obtain ⟨e1, y⟩ := y
    subst e1
    have hx := y vs (.of (e.lst hn q))
    obtain ⟨d, e2, rd⟩ := r.get' hx
    exact ⟨d, e2, .refl, hs1, RelD.ext hs e d x rd⟩
  stop := fun μ1 H1 st1 e hs1 _ => ⟨vs, .of (e.lst hn q), by rw [r.length]; exact Nat.le_refl _⟩
theorem HS.seq (hs : HS G μ H st) {n : Nat} {a : Addr} {ds : List D} (e : μ[n]? = some a) (q : seqOf (.ref n) st = some ds) : ∃ vs, SqL G.K H a vs ∧ RelDs G μ H ds vs := by
  obtain ⟨o, ho, e1, e2, r⟩ := hs.at e
  unfold seqOf at q
  simp only [e1] at q
  cases o with
  | lst ds' => simp at q; subst q; obtain ⟨vs, rfl, rs⟩ := r; exact ⟨vs, .of e2, rs⟩
  | rol ds' => simp at q; subst q; obtain ⟨ob, vs, rfl, rs⟩ := r; exact ⟨vs, .inl (.inr ⟨ob, e2⟩), rs⟩
  | ins c fs => simp at q
  | dct kvs => simp at q
  | dcT kvs => simp at q
/-- a list of the store -/
theorem IterR.ref {n : Nat} {a : Addr} {ds : List D} (e0 : μ[n]? = some a) : IterR G μ H (ds, [(n, ds)]) (Itl G.K a) where
  go := fun μ1 H1 st1 e hs1 g i hi => by
    obtain ⟨ν, rfl, _, _⟩ := e
    obtain ⟨vs, q, r⟩ := hs1.seq (by rw [List.getElem?_append_left (List.getElem?_eq_some_iff.mp e0).1]; exact e0) (g (n, ds) (by simp))
    exact ⟨vs, vs[i]'(by rw [r.length]; exact hi), q, by simp [r.length, hi]⟩
  yld := fun μ1 H1 st1 e hs1 g i x H2 hi y => by
    obtain ⟨ν, rfl, _, _⟩ := e
    obtain ⟨vs, q, r⟩ := hs1.seq (by rw [List.getElem?_append_left (List.getElem?_eq_some_iff.mp e0).1]; exact e0) (g (n, ds) (by simp))
    obtain ⟨e1, y⟩ := y
    subst e1
    obtain ⟨d, e2, rd⟩ := r.get' (y vs q)
    exact ⟨d, e2, .refl, hs1, rd⟩
  stop := fun μ1 H1 st1 e hs1 g => by
    obtain ⟨ν, rfl, _, _⟩ := e
    obtain ⟨vs, q, r⟩ := hs1.seq (by rw [List.getElem?_append_left (List.getElem?_eq_some_iff.mp e0).1]; exact e0) (g (n, ds) (by simp))
    exact ⟨vs, q, by rw [r.length]; exact Nat.le_refl _⟩
/-- a range -/
def rangeD (lo : Int) (n : Nat) : List D := (List.range n).map fun (i : Nat) => D.int (lo + (i : Int))
theorem rangeD_get (lo : Int) (n i : Nat) : (rangeD lo n)[i]? = if i < n then some (.int (lo + i)) else none := by
  unfold rangeD
  rw [List.getElem?_map]
  by_cases h : i < n
  · rw [if_pos h, List.getElem?_range h]; rfl
  · rw [if_neg h, List.getElem?_eq_none (by simpa using h)]; rfl
theorem rangeD_len (lo : Int) (n : Nat) : (rangeD lo n).length = n := by simp [rangeD]
theorem IterR.rng {lo : Int} {n : Nat} : IterR G μ H (rangeD lo n, []) (Itr lo n) where
  go := fun μ1 H1 st1 e hs1 _ i hi => by
    have h : i < n := by simpa [rangeD_len] using hi
    exact h
  yld := fun μ1 H1 st1 e hs1 _ i x H2 hi y => by
    obtain ⟨rfl, rfl⟩ := y
    have hi : i < n := by simpa [rangeD_len] using hi
    exact ⟨.int (lo + i), by rw [rangeD_get, if_pos hi], .refl, hs1, rfl⟩
  stop := fun μ1 H1 st1 e hs1 _ => by show n ≤ _; simp [rangeD_len]
end

section
variable {X : Cx} {W : WX} {e e2 tg : Expr} {es : List Expr} {fe : EF} {fq : LF} {fa : LF} {pos : Pos} {lv : Nat}
/-- a tuple or a list of the store, walked (which of both must be known) -/
def iTupF (fe : EF) : IF := fun env st => (fe env st).bind fun d st1 => match d with
  | .tup ds => .ok (ds, []) st1
  | _ => .bad
def iRefF (fe : EF) : IF := fun env st => (fe env st).bind fun d st1 => match d with
  | .ref n => (match seqOf (.ref n) st1 with
    | some ds => .ok (ds, [(n, ds)]) st1
    | none => .bad)
  | _ => .bad
def iLstF (fl : LF) : IF := fun env st => (fl env st).bind fun ds st1 => .ok (ds, []) st1
theorem ai_tup (he : AE X W e fe) : AI X W tg e (iTupF fe) := (pi_tup he).weak fun σ H Q ⟨μ, env, st, hs, er, p⟩ =>
  ⟨μ, env, st, hs, er, Post.bind p fun d st1 μ1 H1 v _ x1 hs1 r1 p1 => by
    cases d with
    | tup ds => obtain ⟨a, vs, e1, q, rs⟩ := r1; exact ⟨a, e1, ⟨vs, .of q⟩, p1 μ1 H1 _ .refl hs1 (.tup hs1 (.of q) rs)⟩
    | _ => exact p1.elim⟩
theorem ai_ref (he : AE X W e fe) : AI X W tg e (iRefF fe) := (pi_list he).weak fun σ H Q ⟨μ, env, st, hs, er, p⟩ =>
  ⟨μ, env, st, hs, er, Post.bind p fun d st1 μ1 H1 v _ x1 hs1 r1 p1 => by
    cases d with
    | ref n =>
      obtain ⟨a, e1, ev⟩ := r1
      simp only at p1
      split at p1
      · rename_i ds q
        obtain ⟨vs, q1, rs⟩ := hs1.seq e1 q
        exact ⟨a, ev, ⟨vs, q1⟩, p1 μ1 H1 _ .refl hs1 (.ref e1)⟩
      · exact p1.elim
    | _ => exact p1.elim⟩
theorem ai_lst (he : AL X W e fq) : AI X W tg e (iLstF fq) := (pi_list he).weak fun σ H Q ⟨μ, env, st, hs, er, p⟩ =>
  ⟨μ, env, st, hs, er, Post.bind p fun d st1 μ1 H1 v _ x1 hs1 r1 p1 => by
    obtain ⟨a, vs, e1, _, hn, q, rs⟩ := r1
    exact ⟨a, e1, ⟨vs, .of q⟩, p1 μ1 H1 _ .refl hs1 (.lst hs1 hn q rs)⟩⟩
noncomputable def rngR1 (j : Int) (st : Store) : R Its := hid (if -(2 ^ 62) ≤ j ∧ j < 2 ^ 62 then .ok (rangeD 0 j.toNat, []) st else .bad)
noncomputable def rngR (i j : Int) (st : Store) : R Its := hid (if -(2 ^ 62) ≤ i ∧ i < 2 ^ 62 ∧ -(2 ^ 62) ≤ j ∧ j < 2 ^ 62 then .ok (rangeD i (j - i).toNat, []) st else .bad)
noncomputable def iRng1F (fa : LF) : IF := fun env st => (fa env st).bind fun ds st1 => match ds with
  | [.int j] => rngR1 j st1
  | _ => .bad
noncomputable def iRng2F (fa : LF) : IF := fun env st => (fa env st).bind fun ds st1 => match ds with
  | [.int i, .int j] => rngR i j st1
  | _ => .bad
variable {a b : Expr} {p : Pos}
theorem ai_range1 (hm : X.mg "range" = none) (ha : AA X W [a] fa) (hg : Gl X "range" := by rfl) (hs1 : starEach [a] X.env = [(false, eval a X.env)] := by rfl) : AI X W tg (.Call (.Name "range" p) [a] [] pos) (iRng1F fa) :=
  (pi_range1 hg hm ha hs1).weak fun σ H Q ⟨μ, env, st, hs, er, q⟩ => ⟨μ, env, st, hs, er, Post.bind q fun ds st1 μ1 H1 vs eq x1 hs' rs p1 => by
    split at p1
    · rename_i j
      obtain ⟨v, rest, rfl, rd, e0⟩ := rs
      cases e0; cases rd
      unfold rngR1 at p1
      rw [hid_eq] at p1
      split at p1
      · rename_i h; exact ⟨j, rfl, h.1, h.2, p1 μ1 H1 _ .refl hs' .rng⟩
      · exact p1.elim
    · exact p1.elim⟩
theorem ai_range2 (hm : X.mg "range" = none) (ha : AA X W [a, b] fa) (hg : Gl X "range" := by rfl) (hs1 : starEach [a, b] X.env = [(false, eval a X.env), (false, eval b X.env)] := by rfl) (hs2 : starEach [b] X.env = [(false, eval b X.env)] := by rfl) :
    AI X W tg (.Call (.Name "range" p) [a, b] [] pos) (iRng2F fa) :=
  (pi_range2 hg hm ha hs1 hs2).weak fun σ H Q ⟨μ, env, st, hs, er, q⟩ => ⟨μ, env, st, hs, er, Post.bind q fun ds st1 μ1 H1 vs eq x1 hs' rs p1 => by
    split at p1
    · rename_i i j
      obtain ⟨v, rest, rfl, rd, v2, rest2, rfl, rd2, e0⟩ := rs
      cases e0; cases rd; cases rd2
      unfold rngR at p1
      rw [hid_eq] at p1
      split at p1
      · rename_i h; exact ⟨i, j, rfl, ⟨h.1, h.2.1, h.2.2.1, h.2.2.2⟩, p1 μ1 H1 _ .refl hs' .rng⟩
      · exact p1.elim
    · exact p1.elim⟩
end

/-! ## for -/
open Classical in
noncomputable def loopF (t : Tgt) (body : SF) (g : Its) : List D → AEnv → Store → RS
  | [], env, st => .next env st
  | d :: ds, env, st => match asgT t d env with
    | none => .bad
    | some env1 => match body env1 st with
      | .next e s => if gOK g s then loopF t body g ds e s else .bad
      | .cont e s => if gOK g s then loopF t body g ds e s else .bad
      | .brk e s => .next e s
      | r => r
open Classical in
noncomputable def sFor (t : Tgt) (fi : IF) (body : SF) : SF := fun env st => sOf (fi env st) env fun g st1 => if gOK g st1 then loopF t body g g.1 env st1 else .bad
section
variable {X : Cx} {W : WX} {tg iter : Expr} {body : List Stmt} {fi : IF} {fb : SF} {pos : Pos} {lv : Nat} {t : Tgt}
open Classical in
theorem as_for (c : Ctx X W lv) (hi : AI X W tg iter fi) (hg : AG X tg t) (hb : ASs X W body fb) (hs : ∀ x, foldedSetIterable iter X.env x = pure x := by intro _; rfl) : AS X W (.For tg iter body [] pos) (sFor t fi fb) :=
  (ps_for c.own c.calm hi hg hb hs).weak fun Dn σ H ⟨μ, env, st, hs, er, p⟩ => by
    refine ⟨μ, env, st, hs, er, PostS.bind p hs er fun g st1 μ1 H1 J _ x1 hs1 ir p1 => ?_⟩
    split at p1
    · rename_i g1
      refine ⟨fun i m σ2 H2 => i + m = g.1.length ∧ ∃ μ2 env2 st2, Ext μ1 H1 μ2 H2 ∧ HS (gx X) μ2 H2 st2 ∧ EnvR (gx X) μ2 H2 env2 σ2 ∧ gOK g st2 ∧ PostS (gx X) W μ2 H2 (loopF t fb g (g.1.drop i) env2 st2) Dn,
        ⟨g.1.length, by omega, μ1, env, st1, .refl, hs1, er.ext hs x1, g1, p1⟩, fun i m σ2 H2 w => ?_⟩
      obtain ⟨em, μ2, env2, st2, x2, hs2, er2, g2, p2⟩ := w
      by_cases hi : i < g.1.length
      · refine .inr ⟨ir.go μ2 H2 st2 x2 hs2 g2 i hi, fun σ' H' => ∃ m', m' < m ∧ i + 1 + m' = g.1.length ∧ ∃ μ2 env2 st2, Ext μ1 H1 μ2 H' ∧ HS (gx X) μ2 H' st2 ∧ EnvR (gx X) μ2 H' env2 σ' ∧ gOK g st2 ∧ PostS (gx X) W μ2 H' (loopF t fb g (g.1.drop (i + 1)) env2 st2) Dn,
          fun σ' H' n => by obtain ⟨m', h1, h2, h3⟩ := n; exact ⟨m', h1, h2, h3⟩, fun x H3 y => ?_⟩
        obtain ⟨d, ed, x3, hs3, rd⟩ := ir.yld μ2 H2 st2 x2 hs2 g2 i x H3 hi y
        have edrop : g.1.drop i = d :: g.1.drop (i + 1) := by
          rw [List.drop_eq_getElem_cons hi]
          rw [List.getElem?_eq_getElem hi] at ed
          cases ed; rfl
        rw [edrop] at p2
        unfold loopF at p2
        split at p2
        · exact p2.elim
        · rename_i env3 e3
          refine gT_ok (G := gx X) t (er2.ext hs2 x3) rd e3 fun σ3 er3 _ => ⟨μ2, env3, st2, hs3, er3, ?_⟩
          have p2 := PostS.later p2 x3
          have again : ∀ {e s} {μ' H' σ'}, PostS (gx X) W μ2 H3 (if gOK g s then loopF t fb g (List.drop (i + 1) g.fst) e s else RS.bad) Dn → Ext μ2 H3 μ' H' → HS (gx X) μ' H' s → EnvR (gx X) μ' H' e σ' →
              ∃ m', m' < m ∧ i + 1 + m' = g.1.length ∧ ∃ μ2 env2 st2, Ext μ1 H1 μ2 H' ∧ HS (gx X) μ2 H' st2 ∧ EnvR (gx X) μ2 H' env2 σ' ∧ gOK g st2 ∧ PostS (gx X) W μ2 H' (loopF t fb g (g.1.drop (i + 1)) env2 st2) Dn := by
            intro e s μ' H' σ' q xe hse ere
            split at q
            · rename_i gs
              exact ⟨m - 1, by omega, by omega, μ', e, s, (x2.trans x3).trans xe, hse, ere, gs, PostS.later q xe⟩
            · exact q.elim
          cases q : fb env3 st2 with
          | next e s => rw [q] at p2; exact fun μ' H' σ' xe hse ere => again p2 xe hse ere
          | cont e s => rw [q] at p2; exact fun μ' H' σ' xe hse ere => again p2 xe hse ere
          | brk e s => rw [q] at p2; exact fun μ' H' σ' xe hse ere => p2 μ' H' σ' xe hse ere
          | ret d s => rw [q] at p2; exact p2
          | exc e x s => rw [q] at p2; exact p2
          | bad => rw [q] at p2; exact p2
      · have e0 : i = g.1.length := by omega
        subst e0
        rw [List.drop_length] at p2
        exact .inl ⟨ir.stop μ2 H2 st2 x2 hs2 g2, p2 μ2 H2 σ2 .refl hs2 er2⟩
    · exact p1.elim
end

/-! ## while -/
def loopW (c : BF) (body : SF) : Nat → AEnv → Store → RS
  | 0, _, _ => .bad
  | n + 1, env, st => sOf (c env st) env fun b st1 => if b then (match body env st1 with
      | .next e s => loopW c body n e s
      | .cont e s => loopW c body n e s
      | .brk e s => .next e s
      | r => r) else .next env st1
section
variable {X : Cx} {W : WX} {c : Expr} {body : List Stmt} {fc : BF} {fb : SF} {pos : Pos} {lv : Nat}
theorem as_while (cx : Ctx X W lv) (n : Nat) (hc : AT X W c fc) (hb : ASs X W body fb) : AS X W (.While c body [] pos) (loopW fc fb n) := (ps_while cx.own hc hb).weak fun Dn σ H ⟨μ, env, st, hs, er, p⟩ => by
  refine ⟨fun m σ2 H2 => ∃ μ2 env2 st2, HS (gx X) μ2 H2 st2 ∧ EnvR (gx X) μ2 H2 env2 σ2 ∧ PostS (gx X) W μ2 H2 (loopW fc fb m env2 st2) Dn, ⟨n, μ, env, st, hs, er, p⟩, fun m σ2 H2 w => ?_⟩
  obtain ⟨μ2, env2, st2, hs2, er2, p2⟩ := w
  refine ⟨μ2, env2, st2, hs2, er2, ?_⟩
  cases m with
  | zero => exact p2.elim
  | succ m =>
    unfold loopW at p2
    refine PostS.bind p2 hs2 er2 fun b st3 μ3 H3 v _ x3 hs3 r3 p3 => ?_
    have r3 : v = b := r3
    subst r3
    cases v with
    | false => rw [if_neg (by decide)]; exact p3 μ3 H3 σ2 .refl hs3 (er2.ext hs2 x3)
    | true =>
      rw [if_pos rfl]
      rw [if_pos rfl] at p3
      refine ⟨fun σ' H' => ∃ μ2 env2 st2, HS (gx X) μ2 H' st2 ∧ EnvR (gx X) μ2 H' env2 σ' ∧ PostS (gx X) W μ2 H' (loopW fc fb m env2 st2) Dn, fun σ' H' h => ⟨m, Nat.lt_succ_self m, h⟩, μ3, env2, st3, hs3, er2.ext hs2 x3, ?_⟩
      cases q : fb env2 st3 with
      | next e s => rw [q] at p3; exact fun μ' H' σ' xe hse ere => ⟨μ', e, s, hse, ere, PostS.later p3 xe⟩
      | cont e s => rw [q] at p3; exact fun μ' H' σ' xe hse ere => ⟨μ', e, s, hse, ere, PostS.later p3 xe⟩
      | brk e s => rw [q] at p3; exact fun μ' H' σ' xe hse ere => p3 μ' H' σ' xe hse ere
      | ret d s => rw [q] at p3; exact p3
      | exc e x s => rw [q] at p3; exact p3
      | bad => rw [q] at p3; exact p3
end

/-! ## list comprehensions -/
/-- at such an address stands no tuple -/
def NoTup (H : Hp) (a : Addr) : Prop := ∀ zs, ¬ Rd H a (.tup zs)
theorem NoTup.of {H : Hp} {a : Addr} {o : HO} (h : H a = some o) (h1 : ∀ zs, o ≠ .tup zs) (h2 : ∀ ob zs, o ≠ .frz ob (.tup zs)) : NoTup H a := fun zs r => by
  rcases r with r | ⟨ob, r⟩
  · rw [h] at r; exact h1 zs (Option.some.inj r)
  · rw [h] at r; exact h2 ob zs (Option.some.inj r)
theorem NoTup.lst {H : Hp} {a : Addr} {xs : List V} (h : H a = some (.lst xs)) : NoTup H a := .of h (fun _ z => by cases z) (fun _ _ z => by cases z)
section
variable {G : GX} {μ : List Addr} {H : Hp} {st : Store} {D0 : Addr} {o' : HO}
theorem SqT_upd (e : NoTup H D0) {a : Addr} {vs : List V} (q : SqT G.K H a vs) : SqT G.K (upd H D0 o') a vs := by
  rcases q with q | q
  · have hn : a ≠ D0 := fun z => e vs (z ▸ q)
    rcases q with q | ⟨ob, q⟩
    · exact .inl (.inl (by rw [upd_ne hn]; exact q))
    · exact .inl (.inr ⟨ob, by rw [upd_ne hn]; exact q⟩)
  · exact .inr q
theorem Tup_upd (e : NoTup H D0) {a : Addr} {vs : List V} (q : H a = some (.tup vs)) : upd H D0 o' a = some (.tup vs) := by
  have q' : Rd H a (.tup vs) := .inl q
  have hn : a ≠ D0 := fun z => e vs (z ▸ q')
  rw [upd_ne hn]; exact q
mutual
theorem RelD.wr (e : NoTup H D0) : ∀ (d : D) (v : V), RelD G μ H d v → RelD G μ (upd H D0 o') d v
  | .non, _, r => r
  | .bl _, _, r => r
  | .int _, _, r => r
  | .str _, _, r => r
  | .cls _, _, r => r
  | .ref n, _, r => r
  | .tup ds, _, r => by obtain ⟨a, vs, e1, q, rs⟩ := r; exact ⟨a, vs, e1, Tup_upd e q, RelDs.wr e ds vs rs⟩
theorem RelDs.wr (e : NoTup H D0) : ∀ (ds : List D) (vs : List V), RelDs G μ H ds vs → RelDs G μ (upd H D0 o') ds vs
  | [], _, r => r
  | d :: ds, _, r => by obtain ⟨v, rest, e1, rd, rs⟩ := r; exact ⟨v, rest, e1, RelD.wr e d v rd, RelDs.wr e ds rest rs⟩
end
theorem RelF.wr (e : NoTup H D0) : ∀ {fs : List (Str × D)} {vs : List (Str × V)}, RelF G μ H fs vs → RelF G μ (upd H D0 o') fs vs
  | [], _, r => r
  | (x, d) :: fs, _, r => by obtain ⟨v, rest, e1, rd, rs⟩ := r; exact ⟨v, rest, e1, RelD.wr e d v rd, RelF.wr e rs⟩
theorem RelK.wr {κ : Type} {f : D → Option κ} (e : NoTup H D0) : ∀ {fs : List (D × D)} {vs : List (κ × V)}, RelK G μ H f fs vs → RelK G μ (upd H D0 o') f fs vs
  | [], _, r => r
  | (x, d) :: fs, _, r => by obtain ⟨k, v, rest, e1, ek, rd, rs⟩ := r; exact ⟨k, v, rest, e1, ek, RelD.wr e d v rd, RelK.wr e rs⟩
theorem HObj.wr (e : NoTup H D0) {o : AO} {ho : HO} (r : HObj G μ H o ho) : HObj G μ (upd H D0 o') o ho := by
  cases o with
  | lst ds => obtain ⟨vs, e1, rs⟩ := r; exact ⟨vs, e1, RelDs.wr e _ _ rs⟩
  | rol ds => obtain ⟨ob, vs, e1, rs⟩ := r; exact ⟨ob, vs, e1, RelDs.wr e _ _ rs⟩
  | ins c' fs => obtain ⟨C, dx, vs, e1, m, rs⟩ := r; exact ⟨C, dx, vs, e1, m, rs.wr e⟩
  | dct kvs => obtain ⟨ks, e1, rs⟩ := r; exact ⟨ks, e1, rs.wr e⟩
  | dcT kvs => obtain ⟨ks, e1, rs⟩ := r; exact ⟨ks, e1, rs.wr e⟩
/-- a list that is not in the store is written -/
theorem HS.wr (hs : HS G μ H st) (hn : D0 ∉ μ) (e : NoTup H D0) : HS G μ (upd H D0 o') st :=
  ⟨hs.nd, hs.len, fun i a o e1 e2 => by
    obtain ⟨ho, e3, r⟩ := hs.obj i a o e1 e2
    exact ⟨ho, by rw [upd_ne fun z => hn (by rw [← z]; exact List.mem_of_getElem? e1)]; exact e3, r.wr e⟩⟩
/-- an object of the store is written -/
theorem HS.put (hs : HS G μ H st) {n : Nat} (hn : μ[n]? = some D0) {ao : AO} (r : HObj G μ H ao o') : HS G μ (upd H D0 o') (st.set n ao) := by
  obtain ⟨o0, h0, e0, e1, r0⟩ := hs.at hn
  have nt : NoTup H D0 := .of e1 (fun zs => (r0.noTup zs).1) fun ob zs => (r0.noTup zs).2 ob
  refine ⟨hs.nd, by simp [hs.len], fun i a o q1 q2 => ?_⟩
  by_cases hi : n = i
  · subst hi
    rw [hn] at q1; cases q1
    rw [List.getElem?_set_self (List.getElem?_eq_some_iff.mp e0).1] at q2
    cases q2
    exact ⟨o', upd_same, r.wr nt⟩
  · rw [List.getElem?_set_ne hi] at q2
    obtain ⟨ho, q3, r3⟩ := hs.obj i a o q1 q2
    refine ⟨ho, ?_, r3.wr nt⟩
    rw [upd_ne]
    · exact q3
    · intro z
      subst z
      obtain ⟨h1, e2⟩ := List.getElem?_eq_some_iff.mp hn
      obtain ⟨h2, e3⟩ := List.getElem?_eq_some_iff.mp q1
      exact hi ((List.getElem_inj hs.nd).mp (e2.trans e3.symm))
theorem HS.noTupAt (hs : HS G μ H st) {n : Nat} (hn : μ[n]? = some D0) : NoTup H D0 := by
  obtain ⟨o0, h0, e0, e1, r0⟩ := hs.at hn
  exact .of e1 (fun zs => (r0.noTup zs).1) fun ob zs => (r0.noTup zs).2 ob
theorem Ext.put {n : Nat} (hn : μ[n]? = some D0) : Ext μ H μ (upd H D0 o') := ⟨[], by simp, by simp, fun a o e h => by
  rw [upd_ne fun z => h (by rw [z]; exact List.mem_of_getElem? hn)]; exact e⟩
theorem EnvR.wr {env : AEnv} {σ : St} (r : EnvR G μ H env σ) (e : NoTup H D0) : EnvR G μ (upd H D0 o') env σ :=
  ⟨r.1, fun i d q => by obtain ⟨v, e1, rd⟩ := r.2 i d q; exact ⟨v, e1, RelD.wr e d v rd⟩⟩
theorem Ext.wr {μ' : List Addr} {H' : Hp} (x : Ext μ H μ' H') (h0 : H D0 = none) : Ext μ H μ' (upd H' D0 o') := by
  obtain ⟨ν, rfl, f, k⟩ := x
  exact ⟨ν, rfl, f, fun a o e hn => by rw [upd_ne (ne_of_none e h0)]; exact k a o e hn⟩
end
def wipeE (env : AEnv) : List Nat → AEnv
  | [] => env
  | v :: vs => (wipeE env vs).set v none
theorem EnvR.wipe {G : GX} {μ : List Addr} {H : Hp} {env : AEnv} {σ : St} (r : EnvR G μ H env σ) : ∀ vs : List Nat, EnvR G μ H (wipeE env vs) (wipe σ vs)
  | [] => r
  | v :: vs => by
    have r := EnvR.wipe r vs
    unfold wipeE L2.wipe
    refine ⟨by simp [r.1], fun j d q => ?_⟩
    by_cases hj : v = j
    · subst hj
      by_cases hv : v < (wipeE env vs).length
      · rw [List.getElem?_set_self hv] at q; cases q
      · rw [List.getElem?_eq_none (by simp; omega)] at q; cases q
    · rw [List.getElem?_set_ne hj] at q
      obtain ⟨v', e1, rd'⟩ := r.2 j d q
      exact ⟨v', by rw [List.getElem?_set_ne hj]; exact e1, rd'⟩
open Classical in
noncomputable def compL (t : Tgt) (c : BF) (elt : EF) (g : Its) : List D → AEnv → Store → R (List D)
  | [], _, st => .ok [] st
  | d :: ds, env, st => match asgT t d env with
    | none => .bad
    | some env1 => (c env1 st).bind fun b st1 => if b then (elt env1 st1).bind fun y st2 => (if gOK g st2 then (compL t c elt g ds env st2).bind fun ys st3 => .ok (y :: ys) st3 else .bad)
      else (if gOK g st1 then compL t c elt g ds env st1 else .bad)
def noX {α : Type} : R α → R α
  | .ok a st => .ok a st
  | _ => .bad
@[simp] theorem noX_ok {α : Type} (a : α) (st : Store) : noX (.ok a st) = .ok a st := rfl
open Classical in
noncomputable def compF (vs : List Nat) (fi : IF) (t : Tgt) (c : BF) (elt : EF) : LF := fun env st => (fi env st).bind fun g st1 => if gOK g st1 ∧ g.1.length ≤ sizeLine then noX (compL t c elt g g.1 (wipeE env vs) st1) else .bad
/-- no test -/
def bYes : BF := fun _ st => .ok true st
abbrev W0 : WX := fun _ _ _ _ => False
abbrev ATs (X : Cx) (W : WX) (es : List Expr) (f : BF) : Prop := PTs X es (tG (gx X) W relB f)
theorem _root_.L2.PTs.weak {X : Cx} {es : List Expr} {t t' : TT} (h : PTs X es t) (k : ∀ σ H Q, t' σ H Q → t σ H Q) : PTs X es t' := ⟨fun pins s σ H Q I q => h.run pins s σ H Q I (k _ _ _ q)⟩
section
variable {X : Cx} {W : WX} {e : Expr} {f : BF}
theorem ats_nil : ATs X W [] bYes := pts_nil.weak fun σ H Q ⟨μ, env, st, hs, er, p⟩ => p μ H true .refl hs rfl
theorem ats_one (h : AT X W e f) : ATs X W [e] f := pts_one h
end
section
variable {X : Cx} {W : WX} {elt tg iter : Expr} {ifs : List Expr} {scope : Scope} {own : List (Str × Nat)} {pos : Pos} {fi : IF} {t : Tgt} {fc : BF} {fe : EF} {lv : Nat}
theorem comp_t {vs : List Nat} (hv : ∀ i ∈ slotsT t, i ∈ vs) {σ : St} {H : Hp} {Q : VK} (h : tG (gx X) W (relL (gx X)) (compF vs fi t fc fe) σ H Q) :
    tLc (tG (gx X) W (relI (gx X)) fi) (gT X.K t) (tG (gx X) W0 relB fc) (tG (gx X) W0 (relD (gx X)) fe) vs σ H Q := by
  obtain ⟨μ, env, st, hs, er, p⟩ := h
  refine ⟨μ, env, st, hs, er, Post.bind0 p fun g st1 μ1 H1 J _ x1 hs1 ir p1 D hD => ?_⟩
  split at p1
  · rename_i gg
    have hDμ : D ∉ μ1 := hs1.fresh hD
    have hD0 : H D = none := Ext.back x1 .refl hDμ hD
    have whole : ∃ ys stN, compL t fc fe g g.1 (wipeE env vs) st1 = .ok ys stN ∧ Post (gx X) W (relL (gx X)) σ μ H (.ok ys stN) Q := by
      cases q : compL t fc fe g g.1 (wipeE env vs) st1 with
      | ok ys stN => rw [q] at p1; exact ⟨ys, stN, rfl, p1⟩
      | exc x s => rw [q] at p1; exact p1.elim
      | bad => rw [q] at p1; exact p1.elim
    obtain ⟨ys, stN, eN, pN⟩ := whole
    refine ⟨fun i m H2 => i + m = g.1.length ∧ ∃ μ2 st2 acc accV rest, Ext μ1 H1 μ2 H2 ∧ HS (gx X) μ2 H2 st2 ∧ D ∉ μ2 ∧ H2 D = some (.lst accV) ∧ RelDs (gx X) μ2 H2 acc accV ∧ acc.length ≤ i ∧ gOK g st2 ∧
        compL t fc fe g (g.1.drop i) (wipeE env vs) st2 = .ok rest stN ∧ ys = acc ++ rest,
      ⟨g.1.length, by omega, μ1, st1, [], [], ys, Ext.new hD, hs1.new hD, hDμ, upd_same, rfl, by simp, gg.1, eN, by simp⟩, fun i m H2 w => ?_⟩
    obtain ⟨em, μ2, st2, acc, accV, rest, x2, hs2, hn2, hD2, ra, hl, g2, e2, ey⟩ := w
    by_cases hi : i < g.1.length
    · refine .inr ⟨ir.go μ2 H2 st2 x2 hs2 g2 i hi, fun H' => ∃ m', m' < m ∧ i + 1 + m' = g.1.length ∧ ∃ μ2 st2 acc accV rest, Ext μ1 H1 μ2 H' ∧ HS (gx X) μ2 H' st2 ∧ D ∉ μ2 ∧ H' D = some (.lst accV) ∧ RelDs (gx X) μ2 H' acc accV ∧ acc.length ≤ i + 1 ∧ gOK g st2 ∧
        compL t fc fe g (g.1.drop (i + 1)) (wipeE env vs) st2 = .ok rest stN ∧ ys = acc ++ rest,
        fun H' n => by obtain ⟨m', h1, h2, h3⟩ := n; exact ⟨m', h1, h2, h3⟩, fun x H3 y => ?_⟩
      obtain ⟨d, ed, x3, hs3, rd⟩ := ir.yld μ2 H2 st2 x2 hs2 g2 i x H3 hi y
      have edrop : g.1.drop i = d :: g.1.drop (i + 1) := by
        rw [List.drop_eq_getElem_cons hi]
        rw [List.getElem?_eq_getElem hi] at ed
        cases ed; rfl
      rw [edrop] at e2
      unfold compL at e2
      split at e2
      · cases e2
      · rename_i env3 e3
        refine gT_ok (G := gx X) t (((er.ext hs x1).wipe vs).ext hs1 (x2.trans x3)) rd e3 fun σ3 er3 hw => ⟨by rw [hw vs hv, wipe_wipe], μ2, env3, st2, hs3, er3, ?_⟩
        cases qc : fc env3 st2 with
        | exc x s => rw [qc] at e2; cases e2
        | bad => rw [qc] at e2; cases e2
        | ok b st4 =>
          rw [qc, R.bind_ok] at e2
          intro μ4 H4 v4 x4 hs4 r4
          have r4 : v4 = b := r4
          subst r4
          have nD : ∀ {μ' : List Addr} {H' : Hp}, Ext μ2 H3 μ' H' → D ∉ μ' ∧ H' D = some (.lst accV) := fun {μ' H'} xe => by
            have h3 := x3.lst hn2 hD2
            refine ⟨?_, xe.lst hn2 h3⟩
            obtain ⟨ν, rfl, f, _⟩ := xe
            intro hm
            rcases List.mem_append.mp hm with z | z
            · exact hn2 z
            · rw [(f D z).1] at h3; cases h3
          cases v4 with
          | false =>
            rw [if_neg (by decide)] at e2 ⊢
            split at e2
            · rename_i g4
              exact ⟨m - 1, by omega, by omega, μ4, st4, acc, accV, rest, (x2.trans x3).trans x4, hs4, (nD x4).1, (nD x4).2, RelDs.ext hs2 (x3.trans x4) _ _ ra, by omega, g4, e2, ey⟩
            · cases e2
          | true =>
            rw [if_pos rfl] at e2 ⊢
            refine ⟨μ4, env3, st4, hs4, er3.ext hs3 x4, ?_⟩
            cases qe : fe env3 st4 with
            | exc x s => rw [qe] at e2; cases e2
            | bad => rw [qe] at e2; cases e2
            | ok yd st5 =>
              rw [qe, R.bind_ok] at e2
              split at e2
              · rename_i g5
                intro μ5 H5 v5 x5 hs5 r5
                obtain ⟨nD5, eD5⟩ := nD (x4.trans x5)
                refine ⟨accV, eD5, ?_, m - 1, by omega, by omega, μ5, st5, acc ++ [yd], accV ++ [v5], ?_⟩
                · rw [ra.length]; exact Nat.lt_of_le_of_lt hl (Nat.lt_of_lt_of_le hi gg.2)
                · cases qr : compL t fc fe g (List.drop (i + 1) g.fst) (wipeE env vs) st5 with
                  | exc x s => rw [qr] at e2; cases e2
                  | bad => rw [qr] at e2; cases e2
                  | ok rs st6 =>
                    rw [qr, R.bind_ok] at e2
                    cases e2
                    refine ⟨rs, (((x2.trans x3).trans x4).trans x5).wr hD, hs5.wr nD5 (.lst eD5), nD5, upd_same, ?_, by simp; omega, g5, rfl, by rw [ey]; simp⟩
                    exact (RelDs.wr (.lst eD5) _ _ (RelDs.ext hs2 ((x3.trans x4).trans x5) _ _ ra)).append (.one (RelD.wr (.lst eD5) _ _ r5))
              · cases e2
    · have e0 : i = g.1.length := by omega
      subst e0
      rw [List.drop_length] at e2
      cases e2
      rw [List.append_nil] at ey
      subst ey
      exact .inl ⟨ir.stop μ2 H2 _ x2 hs2 g2, pN μ2 H2 _ (x1.trans x2) hs2 ⟨D, accV, rfl, hD0, hn2, hD2, ra⟩⟩
  · exact p1.elim
abbrev bX (X : Cx) (scope : Scope) (s : Shared) (H : Hp) (C : Addr) (cl : List (Str × Addr)) (fp : List Addr) : Cx := X.blk s H scope (compEnvC scope cl C X.env) fp
theorem Ctx.blk (c : Ctx X W lv) (s : Shared) (H : Hp) (C : Addr) (cl : List (Str × Addr)) (fp : List Addr) : Ctx (bX X scope s H C cl fp) W0 lv := ⟨c.nd, c.calm, c.room, PassesOwn.never, takes0⟩
theorem al_comp (c : Ctx X W lv) (hi : AI X W tg iter fi) (own : List (Str × Nat)) (ok : BlkOk X.N X.env.scope scope own)
    (hg : ∀ s H C cl fp, AG (bX X scope s H C cl fp) tg t) (hc : ∀ s H C cl fp, ATs (bX X scope s H C cl fp) W0 ifs fc) (he : ∀ s H C cl fp, AE (bX X scope s H C cl fp) W0 elt fe)
    (hv : ∀ i ∈ slotsT t, i ∈ own.map (·.2) := by decide) (hs : ∀ x, foldedSetIterable iter X.env x = pure x := by intro _; rfl) : AL X W (.ListComp elt [⟨tg, iter, ifs, 0⟩] scope pos) (compF (own.map (·.2)) fi t fc fe) :=
  (pe_lc (g := gT X.K t) (tt := tG (gx X) W0 relB fc) (te := tG (gx X) W0 (relD (gx X)) fe) c.calm c.nd hi ok hg hc he hs).weak fun σ H Q h => comp_t hv h
end
end TK

set_option Elab.async false
set_option linter.all false
set_option maxRecDepth 100000
set_option maxHeartbeats 4000000
namespace TK
open PySem PySem.Spec
open PyProof.Rows hiding St
open L2

/-! ## operators -/
section
variable {X : Cx} {f : Value → Value → Sem Value} {r r' : R2}
theorem OpR_or (a : OpR X f r) (b : OpR X f r') : OpR X f (fun x y H Q => r x y H Q ∨ r' x y H Q) := fun pins s σ H x y v u Q I rx ry h => h.elim (a pins s σ H x y v u Q I rx ry) (b pins s σ H x y v u Q I rx ry)
theorem CallR_or {f : Value} {r r' : List V → Hp → VK → Prop} (a : CallR X f r) (b : CallR X f r') : CallR X f (fun x H Q => r x H Q ∨ r' x H Q) := fun pins s σ H xs us Q I rx h => h.elim (a pins s σ H xs us Q I rx) (b pins s σ H xs us Q I rx)
end
def addD0 (x y : D) (st : Store) : R D := match x, y with
  | .int i, .int j => .ok (.int (i + j)) st
  | .int i, .bl k => .ok (.int (i + b2i k)) st
  | .str a, .str b => if a.length + b.length ≤ sizeLine then .ok (.str (a ++ b)) st else .bad
  | .tup xs, .tup ys => if xs.length + ys.length ≤ sizeLine then .ok (.tup (xs ++ ys)) st else .bad
  | .ref n, .ref m => match st[n]?, st[m]? with
    | some (.lst xs), some (.lst ys) => if xs.length + ys.length ≤ sizeLine then .ok (.ref st.length) (st ++ [.lst (xs ++ ys)]) else .bad
    | _, _ => .bad
  | _, _ => .bad
abbrev rAdds (K : PySem.W.Frag) : R2 := fun x y H Q => (rI0 (fun i j => .int (i + j))) x y H Q ∨ ((fun x y H Q => ∃ i k, x = .int i ∧ y = .bl k ∧ Q (.int (i + b2i k)) H : R2) x y H Q) ∨
  ((fun x y H Q => ∃ i j, x = .str i ∧ y = .str j ∧ i.length + j.length ≤ sizeLine ∧ Q (.str (i ++ j)) H : R2) x y H Q) ∨ rCatA K x y H Q ∨ rCat x y H Q
theorem op_adds {X : Cx} : OpR X (binaryOp .Add) (rAdds X.K) := OpR_or op_add (OpR_or op_add_ib (OpR_or op_add_str (OpR_or op_catA op_cat)))
theorem addA0 {G : GX} : OpA G addD0 (rAdds G.K) := by
  intro W σ μ H st x y v u Q hs rx ry p
  unfold addD0 at p
  split at p
  · cases rx; cases ry; exact .inl ⟨_, _, rfl, rfl, p μ H _ .refl hs rfl⟩
  · cases rx; cases ry; exact .inr (.inl ⟨_, _, rfl, rfl, p μ H _ .refl hs rfl⟩)
  · cases rx; cases ry
    split at p
    · rename_i hz; exact .inr (.inr (.inl ⟨_, _, rfl, rfl, hz, p μ H _ .refl hs rfl⟩))
    · exact p.elim
  · split at p
    · rename_i hz
      obtain ⟨a, vs, rfl, ha, ra⟩ := rx
      obtain ⟨b, us, rfl, hb, rb⟩ := ry
      refine .inr (.inr (.inr (.inl ⟨a, b, vs, us, rfl, rfl, .of ha, .of hb, by rw [ra.length, rb.length]; exact hz, fun e => ?_, fun _ e => ?_, fun _ _ q hq => ?_⟩)))
      · subst e
        refine p μ H _ .refl hs ⟨b, us, rfl, hb, ?_⟩
        have := ra.append rb
        simpa using this
      · subst e
        refine p μ H _ .refl hs ⟨a, vs, rfl, ha, ?_⟩
        have := ra.append rb
        simpa using this
      · exact p μ _ _ (.new hq) (hs.new hq) ⟨q, vs ++ us, rfl, upd_same, RelDs.ext hs (.new hq) _ _ (ra.append rb)⟩
    · exact p.elim
  · rename_i n m
    obtain ⟨a, ea, rfl⟩ := rx
    obtain ⟨b, eb, rfl⟩ := ry
    split at p
    · rename_i xs ys e1 e2
      obtain ⟨_, h1, vs, rfl, r1⟩ := hs.obj n a _ ea e1
      obtain ⟨_, h2, us, rfl, r2⟩ := hs.obj m b _ eb e2
      split at p
      · rename_i hz
        refine .inr (.inr (.inr (.inr ⟨a, b, vs, us, rfl, rfl, h1, h2, by rw [r1.length, r2.length]; exact hz, fun q hq => ?_⟩)))
        have hp := hs.push (ao := .lst (xs ++ ys)) (o := .lst (vs ++ us)) hq ⟨_, rfl, r1.append r2⟩
        refine p _ _ _ hp.2 hp.1 ⟨q, ?_, rfl⟩
        rw [← hs.len, List.getElem?_append_right (Nat.le_refl _)]; simp
      · exact p.elim
    · exact p.elim
  · exact p.elim
/-- a flag and a number -/
abbrev rAddB : R2 := fun x y H Q => ∃ k j, x = .bl k ∧ y = .int j ∧ Q (.int (b2i k + j)) H
theorem op_add_bi {X : Cx} : OpR X (binaryOp .Add) rAddB := by
  intro pins s σ H x y v u Q I rx ry h
  obtain ⟨k, j, rfl, rfl, q⟩ := h
  cases rx
  obtain ⟨t, rfl⟩ := ry
  exact PySem.IntBool.add_bool_int ⟨.int (b2i k + j), H, I.tok _, ⟨_, rfl⟩, q⟩
def addD (x y : D) (st : Store) : R D := match x, y with
  | .bl k, .int j => .ok (.int (b2i k + j)) st
  | x, y => addD0 x y st
theorem addA {G : GX} : OpA G addD (fun x y H Q => rAddB x y H Q ∨ rAdds G.K x y H Q) := by
  intro W σ μ H st x y v u Q hs rx ry p
  unfold addD at p
  split at p
  · cases rx; cases ry; exact .inl ⟨_, _, rfl, rfl, p μ H _ .refl hs rfl⟩
  · exact .inr (addA0 W σ μ H st _ _ v u Q hs rx ry p)
def subD (x y : D) (st : Store) : R D := match x, y with
  | .int i, .int j => .ok (.int (i - j)) st
  | _, _ => .bad
theorem subA {G : GX} : OpA G subD (rI0 fun i j => .int (i - j)) := by
  intro W σ μ H st x y v u Q hs rx ry p
  unfold subD at p
  split at p
  · cases rx; cases ry; exact ⟨_, _, rfl, rfl, p μ H _ .refl hs rfl⟩
  · exact p.elim
def mulOk (i j : Int) : Prop := i.natAbs.log2 + j.natAbs.log2 < 1000000
instance (i j : Int) : Decidable (mulOk i j) := by unfold mulOk; infer_instance
theorem mulOk_lt {i j : Int} (h : i.natAbs < 2 ^ 64) (h' : j.natAbs < 2 ^ 1000) : mulOk i j := wide_mul h h' (by decide) (by decide) (by decide)
def mulD (x y : D) (st : Store) : R D := match x, y with
  | .int i, .int j => if mulOk i j then .ok (.int (i * j)) st else .bad
  | .tup xs, .int k => if -1000000 ≤ k ∧ k ≤ 1000 ∧ xs.length ≤ 1000 then .ok (.tup (List.replicate k.toNat xs).flatten) st else .bad
  | _, _ => .bad
theorem RelDs.rep {G : GX} {μ : List Addr} {H : Hp} {ds : List D} {vs : List V} (r : RelDs G μ H ds vs) : ∀ k : Nat, RelDs G μ H (List.replicate k ds).flatten (List.replicate k vs).flatten
  | 0 => rfl
  | k + 1 => by rw [List.replicate_succ, List.replicate_succ, List.flatten_cons, List.flatten_cons]; exact r.append (RelDs.rep r k)
theorem mulA {G : GX} : OpA G mulD (fun x y H Q => rI CMulW (fun i j => .int (i * j)) x y H Q ∨ rRepA G.K x y H Q) := by
  intro W σ μ H st x y v u Q hs rx ry p
  unfold mulD at p
  split at p
  · cases rx; cases ry
    split at p
    · rename_i hz; exact .inl ⟨_, _, rfl, rfl, hz, p μ H _ .refl hs rfl⟩
    · exact p.elim
  · cases ry
    obtain ⟨a, vs, rfl, ha, ra⟩ := rx
    split at p
    · rename_i hz
      refine .inr ⟨a, _, vs, rfl, rfl, .of ha, hz.1, hz.2.1, by rw [ra.length]; exact hz.2.2, fun e => ?_, fun _ _ q hq => ?_⟩
      · refine p μ H _ .refl hs ⟨a, vs, rfl, ha, ?_⟩
        rcases e with e | e
        · subst e
          have hx := List.eq_nil_of_length_eq_zero (ra.length).symm
          subst hx
          have : ∀ k : Nat, (List.replicate k ([] : List D)).flatten = [] := fun k => by induction k <;> simp_all [List.replicate_succ]
          rw [this]; exact ra
        · subst e; simpa using ra
      exact p μ _ _ (.new hq) (hs.new hq) ⟨q, _, rfl, upd_same, RelDs.ext hs (.new hq) _ _ (ra.rep _)⟩
    · exact p.elim
  · exact p.elim
theorem op_muls {X : Cx} : OpR X (binaryOp .Mult) (fun x y H Q => rI CMulW (fun i j => .int (i * j)) x y H Q ∨ rRepA X.K x y H Q) := OpR_or op_mulW op_repA
def divOk (j : Int) : Prop := 0 < j ∧ j.natAbs.log2 < 9000
instance (j : Int) : Decidable (divOk j) := by unfold divOk; infer_instance
theorem divOk_lt {j : Int} (h : 0 < j) (h' : j.natAbs < 2 ^ 1000) : divOk j := wide_div (i := 0) h h' (by decide) (by decide)
def divD (x y : D) (st : Store) : R D := match x, y with
  | .int i, .int j => if divOk j then .ok (.int (i / j)) st else .bad
  | _, _ => .bad
theorem divA {G : GX} : OpA G divD (rI CDivW fun i j => .int (i / j)) := by
  intro W σ μ H st x y v u Q hs rx ry p
  unfold divD at p
  split at p
  · cases rx; cases ry
    split at p
    · rename_i hz; exact ⟨_, _, rfl, rfl, hz, p μ H _ .refl hs rfl⟩
    · exact p.elim
  · exact p.elim
def modD (x y : D) (st : Store) : R D := match x, y with
  | .int i, .int j => if 0 < j then .ok (.int (i % j)) st else .bad
  | _, _ => .bad
theorem modA {G : GX} : OpA G modD (rI (fun _ j => 0 < j) fun i j => .int (i % j)) := by
  intro W σ μ H st x y v u Q hs rx ry p
  unfold modD at p
  split at p
  · cases rx; cases ry
    split at p
    · rename_i hz; exact ⟨_, _, rfl, rfl, hz, p μ H _ .refl hs rfl⟩
    · exact p.elim
  · exact p.elim
def powD (x y : D) (st : Store) : R D := match x, y with
  | .int i, .int j => if 0 ≤ j ∧ j ≤ 1000000 ∧ i.natAbs < 2 ^ 64 then .ok (.int (i ^ j.toNat)) st else .bad
  | _, _ => .bad
theorem powA {G : GX} : OpA G powD (rI CPow fun i j => .int (i ^ j.toNat)) := by
  intro W σ μ H st x y v u Q hs rx ry p
  unfold powD at p
  split at p
  · cases rx; cases ry
    split at p
    · rename_i hz; exact ⟨_, _, rfl, rfl, hz, p μ H _ .refl hs rfl⟩
    · exact p.elim
  · exact p.elim
def negD (x : D) (st : Store) : R D := match x with
  | .int i => .ok (.int (-i)) st
  | _ => .bad
theorem negA {G : GX} : UnA G negD (rU fun i => .int (-i)) := by
  intro W σ μ H st x v Q hs rx p
  unfold negD at p
  split at p
  · cases rx; exact ⟨_, rfl, p μ H _ .refl hs rfl⟩
  · exact p.elim
def intCmp (g : Int → Int → Bool) (x y : D) (st : Store) : R D := match x, y with
  | .int i, .int j => .ok (.bl (g i j)) st
  | _, _ => .bad
theorem intCmpA {G : GX} {g : Int → Int → Bool} : OpA G (intCmp g) (rI0 fun i j => .bl (g i j)) := by
  intro W σ μ H st x y v u Q hs rx ry p
  unfold intCmp at p
  split at p
  · cases rx; cases ry; exact ⟨_, _, rfl, rfl, p μ H _ .refl hs rfl⟩
  · exact p.elim
abbrev ltD : D → D → Store → R D := intCmp fun i j => decide (i < j)
abbrev leD : D → D → Store → R D := intCmp fun i j => decide (i ≤ j)
abbrev gtD : D → D → Store → R D := intCmp fun i j => decide (j < i)
abbrev geD : D → D → Store → R D := intCmp fun i j => decide (j ≤ i)

/-! ## equality of data -/
mutual
def toPw (f : Nat → Option PyData) : D → Option PyData
  | .non => some .none
  | .bl b => some (.bool b)
  | .int i => some (.int i)
  | .str x => some (.str x)
  | .tup ds => (toPws f ds).map .tuple
  | .ref n => f n
  | .cls _ => none
def toPws (f : Nat → Option PyData) : List D → Option (List PyData)
  | [] => some []
  | d :: ds => match toPw f d, toPws f ds with
    | some p, some ps => some (p :: ps)
    | _, _ => none
end
def toP (st : Store) : Nat → D → Option PyData
  | 0 => toPw fun _ => none
  | n + 1 => toPw fun k => match seqOf (.ref k) st with
    | some ds => (ds.mapM (toP st n)).map .list
    | none => none
def eqP (x y : D) (st : Store) : Option Bool := match toP st 50 x, toP st 50 y with
  | some p, some q => if SeqAt.shaped p = true ∧ SeqAt.shaped q = true then some (PyData.eqv p q) else none
  | _, _ => none
def eqD (x y : D) (st : Store) : R D := match eqP x y st with
  | some b => .ok (.bl b) st
  | none => .bad
def neD (x y : D) (st : Store) : R D := match eqP x y st with
  | some b => .ok (.bl (!b)) st
  | none => .bad
section
variable {G : GX} {μ : List Addr} {H : Hp} {st : Store}
mutual
theorem toPw_ok {f : Nat → Option PyData} (hf : ∀ n a p, μ[n]? = some a → f n = some p → Dp G.K H (.ref a) p) : ∀ (d : D) (v : V) (p : PyData), RelD G μ H d v → toPw f d = some p → Dp G.K H v p
  | .non, _, _, r, e => by cases r; simp [toPw] at e; subst e; exact .non
  | .bl _, _, _, r, e => by cases r; simp [toPw] at e; subst e; exact .bl _
  | .int _, _, _, r, e => by cases r; simp [toPw] at e; subst e; exact .int _
  | .str _, _, _, r, e => by cases r; simp [toPw] at e; subst e; exact .str _
  | .cls _, _, _, r, e => by simp [toPw] at e
  | .ref n, _, p, r, e => by obtain ⟨a, e1, rfl⟩ := r; exact hf n a p e1 e
  | .tup ds, _, p, r, e => by
    obtain ⟨a, vs, rfl, q, rs⟩ := r
    simp only [toPw, Option.map_eq_some_iff] at e
    obtain ⟨ps, e1, rfl⟩ := e
    exact .tup (.of q) (toPws_ok hf ds vs ps rs e1)
theorem toPws_ok {f : Nat → Option PyData} (hf : ∀ n a p, μ[n]? = some a → f n = some p → Dp G.K H (.ref a) p) : ∀ (ds : List D) (vs : List V) (ps : List PyData), RelDs G μ H ds vs → toPws f ds = some ps → DpAll G.K H vs ps
  | [], _, _, r, e => by cases r; simp [toPws] at e; subst e; exact .nil
  | d :: ds, _, ps, r, e => by
    obtain ⟨v, rest, rfl, rd, rs⟩ := r
    simp only [toPws] at e
    split at e
    · rename_i p ps' e1 e2
      cases e
      exact .cons (toPw_ok hf d v p rd e1) (toPws_ok hf ds rest ps' rs e2)
    · cases e
end
theorem toP_ok (hs : HS G μ H st) : ∀ (n : Nat) (d : D) (v : V) (p : PyData), RelD G μ H d v → toP st n d = some p → Dp G.K H v p
  | 0, d, v, p, r, e => toPw_ok (fun _ _ _ _ z => by cases z) d v p r e
  | n + 1, d, v, p, r, e => by
    refine toPw_ok (fun k a q e1 e2 => ?_) d v p r e
    split at e2
    · rename_i ds e3
      obtain ⟨vs, hq, rs⟩ := hs.seq e1 e3
      simp only [Option.map_eq_some_iff] at e2
      obtain ⟨ps, e4, rfl⟩ := e2
      refine .lst hq ?_
      clear e3 hq
      induction ds generalizing vs ps with
      | nil => cases rs; simp at e4; subst e4; exact .nil
      | cons d ds ih =>
        obtain ⟨v, rest, rfl, rd, rs⟩ := rs
        rw [List.mapM_cons] at e4
        cases q1 : toP st n d with
        | none => rw [q1] at e4; cases e4
        | some p1 =>
          cases q2 : ds.mapM (toP st n) with
          | none => rw [q1, q2] at e4; cases e4
          | some ps1 =>
            rw [q1, q2] at e4
            cases e4
            exact .cons (toP_ok hs n d v p1 rd q1) (ih _ rs _ q2)
    · cases e2
theorem eqP_ok (hs : HS G μ H st) {x y : D} {v u : V} {b : Bool} (rx : RelD G μ H x v) (ry : RelD G μ H y u) (e : eqP x y st = some b) : ∃ d e, Dp G.K H v d ∧ Dp G.K H u e ∧ SeqAt.shaped d = true ∧ SeqAt.shaped e = true ∧ PyData.eqv d e = b := by
  unfold eqP at e
  split at e
  · rename_i p q e1 e2
    split at e
    · rename_i h
      cases e
      exact ⟨p, q, toP_ok hs 50 x v p rx e1, toP_ok hs 50 y u q ry e2, h.1, h.2, rfl⟩
    · cases e
  · cases e
theorem eqA : OpA G eqD (rEqD G.K) := by
  intro W σ μ H st x y v u Q hs rx ry p
  unfold eqD at p
  split at p
  · rename_i b e
    obtain ⟨d, e, h1, h2, h3, h4, h5⟩ := eqP_ok hs rx ry e
    exact ⟨d, e, h1, h2, h3, h4, by rw [h5]; exact p μ H _ .refl hs rfl⟩
  · exact p.elim
theorem neA : OpA G neD (rNeD G.K) := by
  intro W σ μ H st x y v u Q hs rx ry p
  unfold neD at p
  split at p
  · rename_i b e
    obtain ⟨d, e, h1, h2, h3, h4, h5⟩ := eqP_ok hs rx ry e
    exact ⟨d, e, h1, h2, h3, h4, by rw [h5]; exact p μ H _ .refl hs rfl⟩
  · exact p.elim
def isNonD (x : D) : Bool := match x with | .non => true | _ => false
theorem RelD.isNon {x : D} {v : V} (r : RelD G μ H x v) : decide (v = .non) = isNonD x := by
  cases x with
  | non => cases r; rfl
  | bl _ => cases r; rfl
  | int _ => cases r; rfl
  | str _ => cases r; rfl
  | tup ds => obtain ⟨a, vs, rfl, _⟩ := r; rfl
  | ref n => obtain ⟨a, _, rfl⟩ := r; rfl
  | cls x => obtain ⟨a, _, rfl⟩ := r; rfl
end
def isND (x y : D) (st : Store) : R D := match y with
  | .non => .ok (.bl (isNonD x)) st
  | _ => .bad
def notND (x y : D) (st : Store) : R D := match y with
  | .non => .ok (.bl (!isNonD x)) st
  | _ => .bad
theorem isNA {G : GX} : OpA G isND (fun x y H Q => y = .non ∧ Q (.bl (decide (x = .non))) H) := by
  intro W σ μ H st x y v u Q hs rx ry p
  unfold isND at p
  split at p
  · cases ry; exact ⟨rfl, by rw [rx.isNon]; exact p μ H _ .refl hs rfl⟩
  · exact p.elim
theorem notNA {G : GX} : OpA G notND (fun x y H Q => y = .non ∧ Q (.bl (!decide (x = .non))) H) := by
  intro W σ μ H st x y v u Q hs rx ry p
  unfold notND at p
  split at p
  · cases ry; exact ⟨rfl, by rw [rx.isNon]; exact p μ H _ .refl hs rfl⟩
  · exact p.elim
section
variable {X : Cx} {W : WX} {a b c : Expr} {fa fb fc : EF} {pos : Pos} {lv : Nat}
theorem ae_add (ha : AE X W a fa) (hb : AE X W b fb) : AE X W (.BinOp a .Add b pos) (e2 addD fa fb) := ae_op (OpR_or op_add_bi op_adds) addA ha hb
theorem ae_sub (ha : AE X W a fa) (hb : AE X W b fb) : AE X W (.BinOp a .Sub b pos) (e2 subD fa fb) := ae_op op_sub subA ha hb
theorem ae_mul (ha : AE X W a fa) (hb : AE X W b fb) : AE X W (.BinOp a .Mult b pos) (e2 mulD fa fb) := ae_op op_muls mulA ha hb
theorem ae_fdiv (ha : AE X W a fa) (hb : AE X W b fb) : AE X W (.BinOp a .FloorDiv b pos) (e2 divD fa fb) := ae_op op_fdivW divA ha hb
theorem ae_mod (ha : AE X W a fa) (hb : AE X W b fb) : AE X W (.BinOp a .Mod b pos) (e2 modD fa fb) := ae_op op_mod modA ha hb
theorem ae_pow (ha : AE X W a fa) (hb : AE X W b fb) : AE X W (.BinOp a .Pow b pos) (e2 powD fa fb) := ae_op op_pow powA ha hb
theorem ae_neg (ha : AE X W a fa) : AE X W (.UnaryOp .USub a pos) (e1 negD fa) := ae_un un_neg negA ha
theorem ae_lt (ha : AE X W a fa) (hb : AE X W b fb) : AE X W (.Compare a [.Lt] [b] pos) (e2 ltD fa fb) := ae_cmp op_lt intCmpA ha hb (nomark _)
theorem ae_le (ha : AE X W a fa) (hb : AE X W b fb) : AE X W (.Compare a [.LtE] [b] pos) (e2 leD fa fb) := ae_cmp op_le intCmpA ha hb (nomark _)
theorem ae_gt (ha : AE X W a fa) (hb : AE X W b fb) : AE X W (.Compare a [.Gt] [b] pos) (e2 gtD fa fb) := ae_cmp op_gt intCmpA ha hb (nomark _)
theorem ae_ge (ha : AE X W a fa) (hb : AE X W b fb) : AE X W (.Compare a [.GtE] [b] pos) (e2 geD fa fb) := ae_cmp op_ge intCmpA ha hb (nomark _)
theorem ae_eq (cx : Ctx X W lv) (ha : AE X W a fa) (hb : AE X W b fb) : AE X W (.Compare a [.Eq] [b] pos) (e2 eqD fa fb) := ae_cmp (op_eqD cx.room.units) eqA ha hb (nomark _)
theorem ae_ne (cx : Ctx X W lv) (ha : AE X W a fa) (hb : AE X W b fb) : AE X W (.Compare a [.NotEq] [b] pos) (e2 neD fa fb) := ae_cmp (op_neD cx.room.units) neA ha hb (nomark _)
theorem ae_isN {j pos'} (ha : AE X W a fa) : AE X W (.Compare a [.Is] [.Constant .none j pos'] pos) (e2 isND fa (eC .non)) := ae_cmp op_isN isNA ha ae_non (nomark _)
theorem ae_notN {j pos'} (ha : AE X W a fa) : AE X W (.Compare a [.IsNot] [.Constant .none j pos'] pos) (e2 notND fa (eC .non)) := ae_cmp op_notN notNA ha ae_non (nomark _)
/-- a <= b < c -/
def eChain (g g' : D → D → Store → R D) (fa fb fc : EF) : EF := fun env st => (fa env st).bind fun x st1 => (fb env st1).bind fun y st2 => (g x y st2).bind fun z st3 => match z with
  | .bl true => (fc env st3).bind fun w st4 => g' y w st4
  | .bl false => .ok (.bl false) st3
  | _ => .bad
theorem chain_t {G : GX} {σ : St} {H : Hp} {Q : VK} {r r' : R2} {g g' : D → D → Store → R D} (hg : OpA G g r) (hg' : OpA G g' r') (h : tG G W (relD G) (eChain g g' fa fb fc) σ H Q) :
    tChain r r' (tG G W (relD G) fa) (tG G W (relD G) fb) (tG G W (relD G) fc) σ H Q := by
  obtain ⟨μ, env, st, hs, er, p⟩ := h
  refine ⟨μ, env, st, hs, er, Post.bind p fun x st1 μ1 H1 v _ x1 hs1 r1 p1 => ⟨μ1, env, st1, hs1, er.ext hs x1, Post.bind p1 fun y st2 μ2 H2 u _ x2 hs2 r2 p2 => ?_⟩⟩
  refine hg W σ μ2 H2 st2 x y v u _ hs2 (RelD.ext hs1 x2 x v r1) r2 ?_
  refine Post.bind p2 fun z st3 μ3 H3 w _ x3 hs3 r3 p3 => ?_
  cases z with
  | bl k =>
    cases r3
    refine ⟨k, rfl, ?_⟩
    cases k with
    | true =>
      rw [if_pos rfl]
      refine ⟨μ3, env, st3, hs3, ((er.ext hs x1).ext hs1 x2).ext hs2 x3, Post.bind p3 fun w' st4 μ4 H4 v4 _ x4 hs4 r4 p4 => ?_⟩
      exact hg' W σ μ4 H4 st4 y w' u v4 Q hs4 (RelD.ext hs2 (x3.trans x4) y u r2) r4 p4
    | false => rw [if_neg (by decide)]; exact p3 μ3 H3 _ .refl hs3 rfl
  | _ => exact p3.elim
theorem ae_chain {op op' : CmpOp} {r r' : R2} {g g' : D → D → Store → R D} (ho : OpR X (compareOp op) r) (hg : OpA (gx X) g r) (ho' : OpR X (compareOp op') r') (hg' : OpA (gx X) g' r') (ha : AE X W a fa) (hb : AE X W b fb) (hc : AE X W c fc)
    (h1 : lastMarks [op, op'] [b, c] = false := by rfl) : AE X W (.Compare a [op, op'] [b, c] pos) (eChain g g' fa fb fc) := (pe_chain ho ho' ha hb hc h1).weak fun σ H Q h => chain_t hg hg' h
/-- a value that must be a bool -/
def bB (fe : EF) : BF := fun env st => (fe env st).bind fun d st1 => match d with
  | .bl b => .ok b st1
  | _ => .bad
theorem tB_of {G : GX} {fe : EF} {σ : St} {H : Hp} {Q : Bool → Hp → Prop} (h : tG G W relB (bB fe) σ H Q) : tG G W (relD G) fe σ H (fun x H' => ∃ k, x = .bl k ∧ Q k H') := by
  obtain ⟨μ, env, st, hs, er, p⟩ := h
  refine ⟨μ, env, st, hs, er, Post.bind p fun d st1 μ1 H1 v _ x1 hs1 r1 p1 => ?_⟩
  cases d with
  | bl b => cases r1; exact ⟨b, rfl, p1 μ1 H1 b .refl hs1 rfl⟩
  | _ => exact p1.elim
theorem at_cmp {op : CmpOp} {r : R2} {g : D → D → Store → R D} (ho : OpR X (compareOp op) r) (hg : OpA (gx X) g r) (ha : AE X W a fa) (hb : AE X W b fb) (hm : behindInMarks op b = false) : AT X W (.Compare a [op] [b] pos) (bB (e2 g fa fb)) :=
  (pt_cmpR ho ha hb hm).weak fun σ H Q h => t2_of hg (tB_of h)
theorem at_chain {op op' : CmpOp} {r r' : R2} {g g' : D → D → Store → R D} (ho : OpR X (compareOp op) r) (hg : OpA (gx X) g r) (ho' : OpR X (compareOp op') r') (hg' : OpA (gx X) g' r') (ha : AE X W a fa) (hb : AE X W b fb) (hc : AE X W c fc)
    (h1 : lastMarks [op, op'] [b, c] = false := by rfl) : AT X W (.Compare a [op, op'] [b, c] pos) (bB (eChain g g' fa fb fc)) := (pt_chain ho ho' ha hb hc h1).weak fun σ H Q h => chain_t hg hg' (tB_of h)
theorem at_lt (ha : AE X W a fa) (hb : AE X W b fb) : AT X W (.Compare a [.Lt] [b] pos) (bB (e2 ltD fa fb)) := at_cmp op_lt intCmpA ha hb (nomark _)
theorem at_le (ha : AE X W a fa) (hb : AE X W b fb) : AT X W (.Compare a [.LtE] [b] pos) (bB (e2 leD fa fb)) := at_cmp op_le intCmpA ha hb (nomark _)
theorem at_gt (ha : AE X W a fa) (hb : AE X W b fb) : AT X W (.Compare a [.Gt] [b] pos) (bB (e2 gtD fa fb)) := at_cmp op_gt intCmpA ha hb (nomark _)
theorem at_ge (ha : AE X W a fa) (hb : AE X W b fb) : AT X W (.Compare a [.GtE] [b] pos) (bB (e2 geD fa fb)) := at_cmp op_ge intCmpA ha hb (nomark _)
theorem at_eq (cx : Ctx X W lv) (ha : AE X W a fa) (hb : AE X W b fb) : AT X W (.Compare a [.Eq] [b] pos) (bB (e2 eqD fa fb)) := at_cmp (op_eqD cx.room.units) eqA ha hb (nomark _)
theorem at_ne (cx : Ctx X W lv) (ha : AE X W a fa) (hb : AE X W b fb) : AT X W (.Compare a [.NotEq] [b] pos) (bB (e2 neD fa fb)) := at_cmp (op_neD cx.room.units) neA ha hb (nomark _)
theorem at_isN {j pos'} (ha : AE X W a fa) : AT X W (.Compare a [.Is] [.Constant .none j pos'] pos) (bB (e2 isND fa (eC .non))) := at_cmp op_isN isNA ha ae_non (nomark _)
theorem at_notN {j pos'} (ha : AE X W a fa) : AT X W (.Compare a [.IsNot] [.Constant .none j pos'] pos) (bB (e2 notND fa (eC .non))) := at_cmp op_notN notNA ha ae_non (nomark _)
/-- chains of ints -/
theorem ae_leLe (ha : AE X W a fa) (hb : AE X W b fb) (hc : AE X W c fc) (h1 : lastMarks [.LtE, .LtE] [b, c] = false := by rfl) : AE X W (.Compare a [.LtE, .LtE] [b, c] pos) (eChain leD leD fa fb fc) := ae_chain op_le intCmpA op_le intCmpA ha hb hc h1
theorem ae_leLt (ha : AE X W a fa) (hb : AE X W b fb) (hc : AE X W c fc) (h1 : lastMarks [.LtE, .Lt] [b, c] = false := by rfl) : AE X W (.Compare a [.LtE, .Lt] [b, c] pos) (eChain leD ltD fa fb fc) := ae_chain op_le intCmpA op_lt intCmpA ha hb hc h1
theorem ae_ltLt (ha : AE X W a fa) (hb : AE X W b fb) (hc : AE X W c fc) (h1 : lastMarks [.Lt, .Lt] [b, c] = false := by rfl) : AE X W (.Compare a [.Lt, .Lt] [b, c] pos) (eChain ltD ltD fa fb fc) := ae_chain op_lt intCmpA op_lt intCmpA ha hb hc h1
theorem at_leLe (ha : AE X W a fa) (hb : AE X W b fb) (hc : AE X W c fc) (h1 : lastMarks [.LtE, .LtE] [b, c] = false := by rfl) : AT X W (.Compare a [.LtE, .LtE] [b, c] pos) (bB (eChain leD leD fa fb fc)) := at_chain op_le intCmpA op_le intCmpA ha hb hc h1
theorem at_leLt (ha : AE X W a fa) (hb : AE X W b fb) (hc : AE X W c fc) (h1 : lastMarks [.LtE, .Lt] [b, c] = false := by rfl) : AT X W (.Compare a [.LtE, .Lt] [b, c] pos) (bB (eChain leD ltD fa fb fc)) := at_chain op_le intCmpA op_lt intCmpA ha hb hc h1
theorem at_ltLt (ha : AE X W a fa) (hb : AE X W b fb) (hc : AE X W c fc) (h1 : lastMarks [.Lt, .Lt] [b, c] = false := by rfl) : AT X W (.Compare a [.Lt, .Lt] [b, c] pos) (bB (eChain ltD ltD fa fb fc)) := at_chain op_lt intCmpA op_lt intCmpA ha hb hc h1
end
end TK

set_option Elab.async false
set_option linter.all false
set_option maxRecDepth 100000
set_option maxHeartbeats 4000000
namespace TK
open PySem PySem.Spec
open PyProof.Rows hiding St
open L2

/-! ## truth, and, or, not -/
def truD (d : D) (st : Store) : Option Bool := match d with
  | .non => some false
  | .bl b => some b
  | .int i => some (i != 0)
  | .tup ds => some (!ds.isEmpty)
  | .ref n => (seqOf (.ref n) st).map fun ds => !ds.isEmpty
  | _ => none
theorem truD_ok {G : GX} {μ : List Addr} {H : Hp} {st : Store} (hs : HS G μ H st) {d : D} {v : V} {b : Bool} (r : RelD G μ H d v) (e : truD d st = some b) : TruV G.K v H b := by
  have emp : ∀ {ds : List D} {vs : List V}, RelDs G μ H ds vs → (!ds.isEmpty) = !vs.isEmpty := fun {ds vs} rs => by
    cases ds with
    | nil => cases rs; rfl
    | cons d ds => obtain ⟨v, rest, rfl, _⟩ := rs; rfl
  cases d with
  | non => cases r; simp [truD] at e; show b = false; first | exact e | exact e.symm
  | bl k => cases r; simp [truD] at e; show b = k; first | exact e | exact e.symm
  | int i => cases r; simp only [truD, Option.some.injEq] at e; show b = (i != 0); first | exact e | exact e.symm
  | str _ => simp [truD] at e
  | cls _ => simp [truD] at e
  | tup ds => obtain ⟨a, vs, rfl, q, rs⟩ := r; simp only [truD, Option.some.injEq] at e; exact .inr (.inl ⟨vs, .of q, by rw [← e, emp rs]⟩)
  | ref n =>
    obtain ⟨a, e1, rfl⟩ := r
    simp only [truD, Option.map_eq_some_iff] at e
    obtain ⟨ds, e2, e3⟩ := e
    obtain ⟨vs, q, rs⟩ := hs.seq e1 e2
    exact .inl ⟨vs, q, by rw [← e3, emp rs]⟩
def bTru (fe : EF) : BF := fun env st => (fe env st).bind fun d st1 => match truD d st1 with
  | some b => .ok b st1
  | none => .bad
def bNot (fa : BF) : BF := fun env st => (fa env st).bind fun b st1 => .ok (!b) st1
def bAnd (fa fb : BF) : BF := fun env st => (fa env st).bind fun b st1 => if b then fb env st1 else .ok false st1
def bOr (fa fb : BF) : BF := fun env st => (fa env st).bind fun b st1 => if b then .ok true st1 else fb env st1
def eAnd (fa fb : EF) : EF := fun env st => (fa env st).bind fun d st1 => match truD d st1 with
  | some true => fb env st1
  | some false => .ok d st1
  | none => .bad
def eOr (fa fb : EF) : EF := fun env st => (fa env st).bind fun d st1 => match truD d st1 with
  | some false => fb env st1
  | some true => .ok d st1
  | none => .bad
def eNot (fa : EF) : EF := fun env st => (fa env st).bind fun d st1 => match truD d st1 with
  | some b => .ok (.bl (!b)) st1
  | none => .bad
def eIf (fc : BF) (fa fb : EF) : EF := fun env st => (fc env st).bind fun b st1 => if b then fa env st1 else fb env st1
section
variable {X : Cx} {W : WX} {a b c : Expr} {rest : List Expr} {fa fb fe : EF} {ga gb gc : BF} {pos : Pos} {lv : Nat}
/-- a comparison, a call .. as a test: its value's truth -/
theorem at_val (h : AE X W a fe) (he : ∀ whole, isTrue a X.env whole = (do let v ← whole; standAt a.pos; holding [v] (truthy v)) := by intro _; rfl) : AT X W a (bTru fe) :=
  (pt_truth h he).weak fun σ H Q ⟨μ, env, st, hs, er, p⟩ => ⟨μ, env, st, hs, er, Post.bind p fun d st1 μ1 H1 v _ x1 hs1 r1 p1 => by
    split at p1
    · rename_i k e; exact ⟨k, truD_ok hs1 r1 e, p1 μ1 H1 _ .refl hs1 rfl⟩
    · exact p1.elim⟩
theorem at_not (ha : AT X W a ga) : AT X W (.UnaryOp .Not a pos) (bNot ga) := (pt_not ha).weak fun σ H Q ⟨μ, env, st, hs, er, p⟩ => ⟨μ, env, st, hs, er, Post.bind p fun d st1 μ1 H1 v _ x1 hs1 r1 p1 => by
  have r1 : v = d := r1
  subst r1
  exact p1 μ1 H1 _ .refl hs1 rfl⟩
abbrev AW (X : Cx) (W : WX) (e : Expr) (f : BF) : Prop := PW X e (tG (gx X) W relB f)
theorem aw_and1 (ha : AT X W a ga) : AW X W (.BoolOp .And [a] pos) ga := pw_and1 ha
theorem aw_or1 (ha : AT X W a ga) : AW X W (.BoolOp .Or [a] pos) ga := pw_or1 ha
theorem aw_and (ha : AT X W a ga) (hb : AW X W (.BoolOp .And (b :: rest) pos) gb) : AW X W (.BoolOp .And (a :: b :: rest) pos) (bAnd ga gb) := (pw_and ha hb).weak fun σ H Q ⟨μ, env, st, hs, er, p⟩ => ⟨μ, env, st, hs, er, Post.bind p fun d st1 μ1 H1 v _ x1 hs1 r1 p1 => by
  have r1 : v = d := r1
  subst r1
  cases v with
  | true => rw [if_pos rfl]; exact ⟨μ1, env, st1, hs1, er.ext hs x1, p1⟩
  | false => rw [if_neg (by decide)]; exact p1 μ1 H1 _ .refl hs1 rfl⟩
theorem aw_or (ha : AT X W a ga) (hb : AW X W (.BoolOp .Or (b :: rest) pos) gb) : AW X W (.BoolOp .Or (a :: b :: rest) pos) (bOr ga gb) := (pw_or ha hb).weak fun σ H Q ⟨μ, env, st, hs, er, p⟩ => ⟨μ, env, st, hs, er, Post.bind p fun d st1 μ1 H1 v _ x1 hs1 r1 p1 => by
  have r1 : v = d := r1
  subst r1
  cases v with
  | true => rw [if_pos rfl]; exact p1 μ1 H1 _ .refl hs1 rfl
  | false => rw [if_neg (by decide)]; exact ⟨μ1, env, st1, hs1, er.ext hs x1, p1⟩⟩
theorem at_w (h : AW X W a ga) : AT X W a ga := h.pt
/-- as values -/
theorem ae_one {op} (h : AE X W a fa) : AE X W (.BoolOp op [a] pos) fa := pe_one h
theorem ae_and (ha : AE X W a fa) (hb : AE X W (.BoolOp .And (b :: rest) pos) fb) : AE X W (.BoolOp .And (a :: b :: rest) pos) (eAnd fa fb) := (pe_andT ha hb).weak fun σ H Q ⟨μ, env, st, hs, er, p⟩ => ⟨μ, env, st, hs, er, Post.bind p fun d st1 μ1 H1 v _ x1 hs1 r1 p1 => by
  split at p1
  · rename_i e; exact ⟨true, truD_ok hs1 r1 e, by rw [if_pos rfl]; exact ⟨μ1, env, st1, hs1, er.ext hs x1, p1⟩⟩
  · rename_i e; exact ⟨false, truD_ok hs1 r1 e, by rw [if_neg (by decide)]; exact p1 μ1 H1 _ .refl hs1 r1⟩
  · exact p1.elim⟩
theorem ae_or (ha : AE X W a fa) (hb : AE X W (.BoolOp .Or (b :: rest) pos) fb) : AE X W (.BoolOp .Or (a :: b :: rest) pos) (eOr fa fb) := (pe_orT ha hb).weak fun σ H Q ⟨μ, env, st, hs, er, p⟩ => ⟨μ, env, st, hs, er, Post.bind p fun d st1 μ1 H1 v _ x1 hs1 r1 p1 => by
  split at p1
  · rename_i e; exact ⟨false, truD_ok hs1 r1 e, by rw [if_neg (by decide)]; exact ⟨μ1, env, st1, hs1, er.ext hs x1, p1⟩⟩
  · rename_i e; exact ⟨true, truD_ok hs1 r1 e, by rw [if_pos rfl]; exact p1 μ1 H1 _ .refl hs1 r1⟩
  · exact p1.elim⟩
theorem ae_not (ha : AE X W a fa) : AE X W (.UnaryOp .Not a pos) (eNot fa) := (pe_notT ha).weak fun σ H Q ⟨μ, env, st, hs, er, p⟩ => ⟨μ, env, st, hs, er, Post.bind p fun d st1 μ1 H1 v _ x1 hs1 r1 p1 => by
  split at p1
  · rename_i b e; exact ⟨b, truD_ok hs1 r1 e, p1 μ1 H1 _ .refl hs1 rfl⟩
  · exact p1.elim⟩
theorem ae_if (hc : AT X W c gc) (ha : AE X W a fa) (hb : AE X W b fb) : AE X W (.IfExp c a b pos) (eIf gc fa fb) := (pe_ifExp hc ha hb).weak fun σ H Q ⟨μ, env, st, hs, er, p⟩ => ⟨μ, env, st, hs, er, Post.bind p fun d st1 μ1 H1 v _ x1 hs1 r1 p1 => by
  have r1 : v = d := r1
  subst r1
  cases v with
  | true => rw [if_pos rfl]; exact ⟨μ1, env, st1, hs1, er.ext hs x1, p1⟩
  | false => rw [if_neg (by decide)]; exact ⟨μ1, env, st1, hs1, er.ext hs x1, p1⟩⟩
end

/-! ## displays -/
def eTup (fr : LF) : EF := fun env st => (fr env st).bind fun ds st1 => if ds.length ≤ sizeLine then .ok (.tup ds) st1 else .bad
def lLst (fr : LF) : LF := fun env st => (fr env st).bind fun ds st1 => if ds.length ≤ sizeLine then .ok ds st1 else .bad
/-- a list as a value: an object of the store -/
def eLst (fl : LF) : EF := fun env st => (fl env st).bind fun ds st1 => .ok (.ref st1.length) (st1 ++ [.lst ds])
/-- a list or tuple read -/
def lRd (fe : EF) : LF := fun env st => (fe env st).bind fun d st1 => match seqOf d st1 with
  | some ds => .ok ds st1
  | none => .bad
/-- a list of the store alone -/
def lRef (fe : EF) : LF := fun env st => (fe env st).bind fun d st1 => match d with
  | .ref n => (match st1[n]? with
    | some (.lst ds) => .ok ds st1
    | _ => .bad)
  | _ => .bad
/-- a list, tracked -/
abbrev relM (G : GX) : RelT (List D) V := ⟨fun _ μ H ds v => ∃ a vs, v = .ref a ∧ H a = some (.lst vs) ∧ RelDs G μ H ds vs, fun _ _ r => r⟩
abbrev AM (X : Cx) (W : WX) (e : Expr) (f : LF) : Prop := PE X e (tG (gx X) W (relM (gx X)) f)
section
variable {X : Cx} {W : WX} {a b c e : Expr} {es : List Expr} {fa fb fe : EF} {fl fl' fr : LF} {pos : Pos} {lv : Nat}
theorem ae_tup {k} (h : AA X W es fr) : AE X W (.Tuple es k pos) (eTup fr) := (pe_tup h).weak fun σ H Q ⟨μ, env, st, hs, er, p⟩ => ⟨μ, env, st, hs, er, Post.bind p fun ds st1 μ1 H1 vs _ x1 hs1 r1 p1 => by
  split at p1
  · rename_i hz
    exact ⟨by rw [RelDs.length r1]; exact hz, fun q hq => p1 μ1 _ _ (.new hq) (hs1.new hq) ⟨q, vs, rfl, upd_same, RelDs.ext hs1 (.new hq) _ _ r1⟩⟩
  · exact p1.elim⟩
theorem al_lst (h : AA X W es fr) : AL X W (.List es pos) (lLst fr) := (pe_lst h).weak fun σ H Q ⟨μ, env, st, hs, er, p⟩ => ⟨μ, env, st, hs, er, Post.bind0 p fun ds st1 μ1 H1 vs _ x1 hs1 r1 p1 => by
  split at p1
  · rename_i hz
    refine ⟨by rw [RelDs.length r1]; exact hz, fun q hq => p1 μ1 _ _ (x1.trans (.new hq)) (hs1.new hq) ⟨q, vs, rfl, Ext.back x1 .refl (hs1.fresh hq) hq, hs1.fresh hq, upd_same, RelDs.ext hs1 (.new hq) _ _ r1⟩⟩
  · exact p1.elim⟩
theorem Ext.adopt {μ μ1 : List Addr} {H H1 : Hp} {a : Addr} (x : Ext μ H μ1 H1) (h0 : H a = none) (hn : a ∉ μ1) : Ext μ H (μ1 ++ [a]) H1 := by
  obtain ⟨ν, rfl, f, k⟩ := x
  refine ⟨ν ++ [a], by simp, fun c hc => ?_, k⟩
  rcases List.mem_append.mp hc with h | h
  · exact f c h
  · simp at h; subst h; exact ⟨h0, fun z => hn (List.mem_append_left _ z)⟩
theorem ae_ofL (h : AL X W e fl) : AE X W e (eLst fl) := h.weak fun σ H Q ⟨μ, env, st, hs, er, p⟩ => ⟨μ, env, st, hs, er, Post.bind0 p fun ds st1 μ1 H1 v _ x1 hs1 r1 p1 => by
  obtain ⟨a, vs, rfl, h0, hn, hv, rs⟩ := r1
  refine p1 (μ1 ++ [a]) H1 _ (x1.adopt h0 hn) (hs1.adopt hv hn ⟨vs, rfl, rs⟩) ⟨a, ?_, rfl⟩
  rw [← hs1.len, List.getElem?_append_right (Nat.le_refl _)]; simp⟩
theorem aq_ofE (h : AE X W e fe) : AQ X W e (lRd fe) := h.weak fun σ H Q ⟨μ, env, st, hs, er, p⟩ => ⟨μ, env, st, hs, er, Post.bind p fun d st1 μ1 H1 v _ x1 hs1 r1 p1 => by
  split at p1
  · rename_i ds e1
    refine p1 μ1 H1 v .refl hs1 ?_
    cases d with
    | tup ds' => obtain ⟨a, vs, rfl, q, rs⟩ := r1; simp [seqOf] at e1; subst e1; exact ⟨a, vs, rfl, .inr q, rs⟩
    | ref n => obtain ⟨a, e2, rfl⟩ := r1; obtain ⟨vs, q, rs⟩ := hs1.seq e2 e1; exact ⟨a, vs, rfl, .inl q, rs⟩
    | _ => simp [seqOf] at e1
  · exact p1.elim⟩
theorem aq_ofL (h : AL X W e fl) : AQ X W e fl := h.weak fun σ H Q ⟨μ, env, st, hs, er, p⟩ => ⟨μ, env, st, hs, er, by
  cases q : fl env st with
  | ok ds st1 => rw [q] at p; intro μ1 H1 v x1 hs1 r1; obtain ⟨a, vs, rfl, h0, hn, hv, rs⟩ := r1; exact p μ1 H1 _ x1 hs1 ⟨a, vs, rfl, .inl (.of hv), rs⟩
  | exc x s => rw [q] at p; exact p
  | bad => rw [q] at p; exact p⟩
theorem am_ofL (h : AL X W e fl) : AM X W e fl := h.weak fun σ H Q ⟨μ, env, st, hs, er, p⟩ => ⟨μ, env, st, hs, er, by
  cases q : fl env st with
  | ok ds st1 => rw [q] at p; intro μ1 H1 v x1 hs1 r1; obtain ⟨a, vs, rfl, h0, hn, hv, rs⟩ := r1; exact p μ1 H1 _ x1 hs1 ⟨a, vs, rfl, hv, rs⟩
  | exc x s => rw [q] at p; exact p
  | bad => rw [q] at p; exact p⟩
theorem am_ofE (h : AE X W e fe) : AM X W e (lRef fe) := h.weak fun σ H Q ⟨μ, env, st, hs, er, p⟩ => ⟨μ, env, st, hs, er, Post.bind p fun d st1 μ1 H1 v _ x1 hs1 r1 p1 => by
  cases d with
  | ref n =>
    simp only at p1
    obtain ⟨a, e1, rfl⟩ := r1
    split at p1
    · rename_i ds e2
      obtain ⟨_, hv, vs, rfl, rs⟩ := hs1.obj n a _ e1 e2
      exact p1 μ1 H1 _ .refl hs1 ⟨a, vs, rfl, hv, rs⟩
    · exact p1.elim
  | _ => exact p1.elim⟩
/-- [..] + [..] -/
def lCat (fl fl' : LF) : LF := fun env st => (fl env st).bind fun xs st1 => (fl' env st1).bind fun ys st2 => if xs.length + ys.length ≤ sizeLine then .ok (xs ++ ys) st2 else .bad

/-! ## subscripts -/
def getD (x y : D) (st : Store) : R D := match y with
  | .int i => (match x with
    | .str z => if z.length ≤ sizeLine then (match atI z.cps.toList i with
      | some c => .ok (.str ⟨#[c]⟩) st
      | none => .bad) else .bad
    | x => match seqOf x st with
      | some ds => (match atI ds i with
        | some d => .ok d st
        | none => .bad)
      | none => .bad)
  | _ => .bad
theorem RelDs.at {G : GX} {μ : List Addr} {H : Hp} {ds : List D} {vs : List V} {i : Int} {d : D} (r : RelDs G μ H ds vs) (e : atI ds i = some d) : ∃ v, atI vs i = some v ∧ RelD G μ H d v := by
  unfold atI at e ⊢
  rw [r.length]
  cases q : ixN ds.length i with
  | none => rw [q] at e; cases e
  | some j => rw [q] at e; exact r.get e
theorem getA {G : GX} : OpA G getD (rIx G.K) := by
  intro W σ μ H st x y v u Q hs rx ry p
  unfold getD at p
  split at p
  · cases ry
    split at p
    · cases rx
      split at p
      · rename_i hz
        split at p
        · rename_i c ec; exact .inr (.inr ⟨_, _, c, rfl, rfl, hz, ec, p μ H _ .refl hs rfl⟩)
        · exact p.elim
      · exact p.elim
    · split at p
      · rename_i ds eq
        split at p
        · rename_i d ed
          cases x with
          | tup ds' =>
            obtain ⟨a, vs, rfl, q, rs⟩ := rx
            simp [seqOf] at eq; subst eq
            obtain ⟨v, ev, rd⟩ := rs.at ed
            exact .inr (.inl ⟨a, vs, _, v, rfl, rfl, .of q, ev, p μ H v .refl hs rd⟩)
          | ref n =>
            obtain ⟨a, ea, rfl⟩ := rx
            obtain ⟨vs, q, rs⟩ := hs.seq ea eq
            obtain ⟨v, ev, rd⟩ := rs.at ed
            exact .inl ⟨a, vs, _, v, rfl, rfl, q, ev, p μ H v .refl hs rd⟩
          | _ => simp [seqOf] at eq
        · exact p.elim
      · exact p.elim
  · exact p.elim
theorem ae_get (ha : AE X W a fa) (hb : AE X W b fb) (hp : PlainIx b := by exact fun _ _ => rfl) : AE X W (.Subscript a b pos) (e2 getD fa fb) := (pe_ix ix_seq ha hb hp).weak fun _ _ _ h => t2_of getA h
end
end TK

set_option Elab.async false
set_option linter.all false
set_option maxRecDepth 100000
set_option maxHeartbeats 4000000
namespace TK
open PySem PySem.Spec
open PyProof.Rows hiding St
open L2

/-! ## fields -/
def eFld (cs : List Str) (f : Str) (fe : EF) : EF := fun env st => (fe env st).bind fun d st1 => match d with
  | .ref n => (match st1[n]? with
    | some (.ins c fs) => if c ∈ cs then (match fs.lookup f with
      | some d => .ok d st1
      | none => .bad) else .bad
    | _ => .bad)
  | _ => .bad
/-- what is known of a class -/
structure ClsA (G : GX) (c : Str) (fs : List Str) : Prop where
  ok : ∀ C, G.mg c = some (.ref C) → Cls G.K C ∧ ∀ f ∈ fs, NoAttr G.K C f
theorem RelF.look {G : GX} {μ : List Addr} {H : Hp} : ∀ {fs : List (Str × D)} {vs : List (Str × V)} {f : Str} {d : D}, RelF G μ H fs vs → fs.lookup f = some d → ∃ v, vs.lookup f = some v ∧ RelD G μ H d v
  | [], _, _, _, _, e => by simp at e
  | (x, d) :: fs, _, f, d', r, e => by
    obtain ⟨v, rest, rfl, rd, rs⟩ := r
    rw [List.lookup_cons] at e ⊢
    split at e
    · cases e; exact ⟨v, rfl, rd⟩
    · exact RelF.look rs e
def putFD (f : Str) (y : D) : List (Str × D) → List (Str × D)
  | [] => [(f, y)]
  | (x, d) :: fs => if x = f then (x, y) :: fs else (x, d) :: putFD f y fs
section
variable {X : Cx} {W : WX} {a b c e o : Expr} {es : List Expr} {fa fb fe fo : EF} {fl fl' fr : LF} {pos pos' : Pos} {lv : Nat}
theorem ae_fld (cs : List Str) {f : Str} (he : AE X W e fe) (hc : ∀ c ∈ cs, ∃ l, ClsA (gx X) c l ∧ f ∈ l) (hb : attributeBase e f X.env (eval e X.env) = eval e X.env := by rfl) : AE X W (.Attribute e f pos) (eFld cs f fe) :=
  (pe_fld he hb).weak fun σ H Q ⟨μ, env, st, hs, er, p⟩ => ⟨μ, env, st, hs, er, Post.bind p fun d st1 μ1 H1 v _ x1 hs1 r1 p1 => by
    cases d with
    | ref n =>
      simp only at p1
      obtain ⟨a, e1, rfl⟩ := r1
      split at p1
      · rename_i c fs e2
        split at p1
        · rename_i hcs
          split at p1
          · rename_i d e3
            obtain ⟨_, h1, C, dx, vs, rfl, hm, rf⟩ := hs1.obj n a _ e1 e2
            obtain ⟨l, k, hf⟩ := hc c hcs
            obtain ⟨k1, k2⟩ := k.ok C hm
            obtain ⟨v, e4, rd⟩ := rf.look e3
            exact ⟨a, C, dx, vs, v, rfl, h1, k1, k2 f hf, e4, p1 μ1 H1 v .refl hs1 rd⟩
          · exact p1.elim
        · exact p1.elim
      · exact p1.elim
    | _ => exact p1.elim⟩

/-! ## calls of what Python brings -/
def eB (g : List D → Store → R D) (fr : LF) : EF := fun env st => (fr env st).bind g
/-- by plain arguments -/
def CalA (G : GX) (g : List D → Store → R D) (r : List V → Hp → VK → Prop) : Prop := ∀ W σ μ H st ds vs Q, HS G μ H st → RelDs G μ H ds vs → Post G W (relD G) σ μ H (g ds st) Q → r vs H Q
theorem ae_callB {id : String} {r : List V → Hp → VK → Prop} {g : List D → Store → R D} {x : Str} {p : Pos} (hc : CallR X (.builtin id) r) (hg' : CalA (gx X) g r) (hm : X.mg x = none) (hv : bootBuiltins x = some (.builtin id)) (ha : AA X W (e :: es) fr)
    (hg : Gl X x := by rfl) (hn : x ≠ "__name__" := by decide) (hdb : (x == ("__debug__" : Str)) = false := by decide) (he : starEach (e :: es) X.env = (false, eval e X.env) :: starEach es X.env := by rfl) (hpl : (backTo pos (starEach es X.env)).any (·.1) = false := by rfl) :
    AE X W (.Call (.Name x p) (e :: es) [] pos) (eB g fr) := (pe_callB hc hg hm hv ha hn hdb he hpl).weak fun σ H Q ⟨μ, env, st, hs, er, q⟩ => ⟨μ, env, st, hs, er, Post.bind q fun ds st1 μ1 H1 vs _ x1 hs1 r1 p1 => hg' W σ μ1 H1 st1 ds vs Q hs1 r1 p1⟩
theorem ae_callTy {T : String} {r : List V → Hp → VK → Prop} {g : List D → Store → R D} {x : Str} {p : Pos} (hc : CallR X (.type T) r) (hg' : CalA (gx X) g r) (hm : X.mg x = none) (hv : bootBuiltins x = some (.type T)) (ha : AA X W (e :: es) fr)
    (hg : Gl X x := by rfl) (hn : x ≠ "__name__" := by decide) (hdb : (x == ("__debug__" : Str)) = false := by decide) (he : starEach (e :: es) X.env = (false, eval e X.env) :: starEach es X.env := by rfl) (hpl : (backTo pos (starEach es X.env)).any (·.1) = false := by rfl) :
    AE X W (.Call (.Name x p) (e :: es) [] pos) (eB g fr) := (pe_callTy hc hg hm hv ha hn hdb he hpl).weak fun σ H Q ⟨μ, env, st, hs, er, q⟩ => ⟨μ, env, st, hs, er, Post.bind q fun ds st1 μ1 H1 vs _ x1 hs1 r1 p1 => hg' W σ μ1 H1 st1 ds vs Q hs1 r1 p1⟩
/-- by one list or tuple that is read -/
def CalQ {α : Type} (G : GX) (rel' : RelT (List D) V) (rel : RelT α V) (g : List D → Store → R α) (r : List V → Hp → VK → Prop) : Prop :=
  ∀ W σ μ0 H0 μ H st ds v Q, Ext μ0 H0 μ H → HS G μ H st → rel'.r H0 μ H ds v → Post G W rel σ μ0 H0 (g ds st) Q → r [v] H Q
theorem p_callB {α : Type} {rel : RelT α V} {rel' : RelT (List D) V} {id : String} {r : List V → Hp → VK → Prop} {g : List D → Store → R α} {x : Str} {p : Pos} (hc : CallR X (.builtin id) r) (hg' : CalQ (gx X) rel' rel g r) (hm : X.mg x = none) (hv : bootBuiltins x = some (.builtin id))
    (ha : PE X e (tG (gx X) W rel' fl)) (hg : Gl X x := by rfl) (hn : x ≠ "__name__" := by decide) (hdb : (x == ("__debug__" : Str)) = false := by decide) (he : starEach [e] X.env = (false, eval e X.env) :: starEach [] X.env := by rfl) :
    PE X (.Call (.Name x p) [e] [] pos) (tG (gx X) W rel fun env st => (fl env st).bind g) := (pe_callB hc hg hm hv (pa_cons ha pa_nil he) hn hdb he rfl).weak fun σ H Q ⟨μ, env, st, hs, er, q⟩ =>
      ⟨μ, env, st, hs, er, Post.bind0 q fun ds st1 μ1 H1 v _ x1 hs1 r1 p1 => hg' W σ μ H μ1 H1 st1 ds v Q x1 hs1 r1 p1⟩
theorem p_callTy {α : Type} {rel : RelT α V} {rel' : RelT (List D) V} {T : String} {r : List V → Hp → VK → Prop} {g : List D → Store → R α} {x : Str} {p : Pos} (hc : CallR X (.type T) r) (hg' : CalQ (gx X) rel' rel g r) (hm : X.mg x = none) (hv : bootBuiltins x = some (.type T))
    (ha : PE X e (tG (gx X) W rel' fl)) (hg : Gl X x := by rfl) (hn : x ≠ "__name__" := by decide) (hdb : (x == ("__debug__" : Str)) = false := by decide) (he : starEach [e] X.env = (false, eval e X.env) :: starEach [] X.env := by rfl) :
    PE X (.Call (.Name x p) [e] [] pos) (tG (gx X) W rel fun env st => (fl env st).bind g) := (pe_callTy hc hg hm hv (pa_cons ha pa_nil he) hn hdb he rfl).weak fun σ H Q ⟨μ, env, st, hs, er, q⟩ =>
      ⟨μ, env, st, hs, er, Post.bind0 q fun ds st1 μ1 H1 v _ x1 hs1 r1 p1 => hg' W σ μ H μ1 H1 st1 ds v Q x1 hs1 r1 p1⟩
def eQ (g : List D → Store → R D) (fl : LF) : EF := fun env st => (fl env st).bind g
def lQ (g : List D → Store → R (List D)) (fl : LF) : LF := fun env st => (fl env st).bind g

/- len -/
def lenG (ds : List D) (st : Store) : R D := .ok (.int ds.length) st
theorem lenQ {G : GX} : CalQ G (relQ G) (relD G) lenG (fun xs H Q => ∃ p ys, xs = [.ref p] ∧ (SqL G.K H p ys ∨ SqT G.K H p ys) ∧ Q (.int ys.length) H) := by
  intro W σ μ0 H0 μ H st ds v Q x hs r p
  obtain ⟨a, vs, rfl, q, rs⟩ := r
  exact ⟨a, vs, rfl, q.imp id .of, by rw [rs.length]; exact p μ H _ x hs rfl⟩
theorem ae_len {p : Pos} (hm : X.mg "len" = none) (ha : AQ X W e fl) (hg : Gl X "len" := by rfl) (he : starEach [e] X.env = (false, eval e X.env) :: starEach [] X.env := by rfl) : AE X W (.Call (.Name "len" p) [e] [] pos) (eQ lenG fl) :=
  p_callB call_len_seq lenQ hm PySem.boot_len ha hg (he := he)
/- tuple(..) of a list -/
def tupG (ds : List D) (st : Store) : R D := .ok (.tup ds) st
theorem tupQ {G : GX} : CalQ G (relQ G) (relD G) tupG (fun xs H Q => ∃ p ys, xs = [.ref p] ∧ ((SqL G.K H p ys ∧ ∀ l, H l = none → Q (.ref l) (upd H l (.tup ys))) ∨ (SqT G.K H p ys ∧ Q (.ref p) H))) := by
  intro W σ μ0 H0 μ H st ds v Q x hs r p
  obtain ⟨a, vs, rfl, q, rs⟩ := r
  refine ⟨a, vs, rfl, ?_⟩
  rcases q with q | q
  · exact .inl ⟨q, fun l hl => p μ _ _ (x.trans (.new hl)) (hs.new hl) ⟨l, vs, rfl, upd_same, RelDs.ext hs (.new hl) _ _ rs⟩⟩
  · exact .inr ⟨.of q, p μ H _ x hs ⟨a, vs, rfl, q, rs⟩⟩
theorem ae_tuple {p : Pos} (hm : X.mg "tuple" = none) (ha : AQ X W e fl) (hg : Gl X "tuple" := by rfl) (he : starEach [e] X.env = (false, eval e X.env) :: starEach [] X.env := by rfl) : AE X W (.Call (.Name "tuple" p) [e] [] pos) (eQ tupG fl) :=
  p_callTy call_tuple_of tupQ hm (by decide +kernel) ha hg (he := he)
/- list(..) -/
def lstG (ds : List D) (st : Store) : R (List D) := .ok ds st
theorem lstQ {G : GX} : CalQ G (relQ G) (relL G) lstG (fun xs H Q => ∃ p ys, xs = [.ref p] ∧ (SqL G.K H p ys ∨ SqT G.K H p ys) ∧ ∀ l, H l = none → Q (.ref l) (upd H l (.lst ys))) := by
  intro W σ μ0 H0 μ H st ds v Q x hs r p
  obtain ⟨a, vs, rfl, q, rs⟩ := r
  refine ⟨a, vs, rfl, q.imp id .of, fun l hl => p μ _ _ (x.trans (.new hl)) (hs.new hl) ⟨l, vs, rfl, Ext.back x .refl (hs.fresh hl) hl, hs.fresh hl, upd_same, RelDs.ext hs (.new hl) _ _ rs⟩⟩
theorem al_list {p : Pos} (hm : X.mg "list" = none) (ha : AQ X W e fl) (hg : Gl X "list" := by rfl) (he : starEach [e] X.env = (false, eval e X.env) :: starEach [] X.env := by rfl) : AL X W (.Call (.Name "list" p) [e] [] pos) (lQ lstG fl) :=
  p_callTy call_list_of lstQ hm (by decide +kernel) ha hg (he := he)
/- all, any -/
def boolsOf : List D → Option (List Bool)
  | [] => some []
  | .bl b :: ds => (boolsOf ds).map (b :: ·)
  | _ :: _ => none
theorem boolsOf_ok {G : GX} {μ : List Addr} {H : Hp} : ∀ {ds : List D} {vs : List V} {bs : List Bool}, RelDs G μ H ds vs → boolsOf ds = some bs → vs = bs.map V.bl
  | [], _, bs, r, e => by cases r; simp [boolsOf] at e; subst e; rfl
  | d :: ds, _, bs, r, e => by
    obtain ⟨v, rest, rfl, rd, rs⟩ := r
    cases d with
    | bl b =>
      cases rd
      simp only [boolsOf, Option.map_eq_some_iff] at e
      obtain ⟨bs', e1, rfl⟩ := e
      rw [boolsOf_ok rs e1]; rfl
    | _ => simp [boolsOf] at e
@[simp] theorem boolsOf_map {α : Type} (f : α → Bool) : ∀ xs : List α, boolsOf (xs.map fun x => .bl (f x)) = some (xs.map f)
  | [] => rfl
  | x :: xs => by simp [boolsOf, boolsOf_map f xs]
def allG (ds : List D) (st : Store) : R D := match boolsOf ds with
  | some bs => .ok (.bl (bs.all id)) st
  | none => .bad
def anyG (ds : List D) (st : Store) : R D := match boolsOf ds with
  | some bs => .ok (.bl (bs.any id)) st
  | none => .bad
theorem allQ {G : GX} : CalQ G (relM G) (relD G) allG (rAll G.K) := by
  intro W σ μ0 H0 μ H st ds v Q x hs r p
  obtain ⟨a, vs, rfl, q, rs⟩ := r
  unfold allG at p
  split at p
  · rename_i bs e; exact ⟨a, bs, rfl, .of (by rw [q, boolsOf_ok rs e]), p μ H _ x hs rfl⟩
  · exact p.elim
theorem anyQ {G : GX} : CalQ G (relM G) (relD G) anyG (rAny G.K) := by
  intro W σ μ0 H0 μ H st ds v Q x hs r p
  obtain ⟨a, vs, rfl, q, rs⟩ := r
  unfold anyG at p
  split at p
  · rename_i bs e; exact ⟨a, bs, rfl, .of (by rw [q, boolsOf_ok rs e]), p μ H _ x hs rfl⟩
  · exact p.elim
theorem ae_all {p : Pos} (cx : Ctx X W lv) (hm : X.mg "all" = none) (ha : AM X W e fl) (hg : Gl X "all" := by rfl) (he : starEach [e] X.env = (false, eval e X.env) :: starEach [] X.env := by rfl) : AE X W (.Call (.Name "all" p) [e] [] pos) (eQ allG fl) :=
  p_callB (cr_all cx.calm) allQ hm (by decide +kernel) ha hg (he := he)
theorem ae_any {p : Pos} (cx : Ctx X W lv) (hm : X.mg "any" = none) (ha : AM X W e fl) (hg : Gl X "any" := by rfl) (he : starEach [e] X.env = (false, eval e X.env) :: starEach [] X.env := by rfl) : AE X W (.Call (.Name "any" p) [e] [] pos) (eQ anyG fl) :=
  p_callB (cr_any cx.calm) anyQ hm (by decide +kernel) ha hg (he := he)
/- sum, min, max, sorted: ints -/
def intsOf : List D → Option (List Int)
  | [] => some []
  | .int i :: ds => (intsOf ds).map (i :: ·)
  | _ :: _ => none
theorem intsOf_ok {G : GX} {μ : List Addr} {H : Hp} : ∀ {ds : List D} {vs : List V} {bs : List Int}, RelDs G μ H ds vs → intsOf ds = some bs → vs = bs.map V.int
  | [], _, bs, r, e => by cases r; simp [intsOf] at e; subst e; rfl
  | d :: ds, _, bs, r, e => by
    obtain ⟨v, rest, rfl, rd, rs⟩ := r
    cases d with
    | int b =>
      cases rd
      simp only [intsOf, Option.map_eq_some_iff] at e
      obtain ⟨bs', e1, rfl⟩ := e
      rw [intsOf_ok rs e1]; rfl
    | _ => simp [intsOf] at e
@[simp] theorem intsOf_map {α : Type} (f : α → Int) : ∀ xs : List α, intsOf (xs.map fun x => .int (f x)) = some (xs.map f)
  | [] => rfl
  | x :: xs => by simp [intsOf, intsOf_map f xs]
theorem intsRel {G : GX} {μ : List Addr} {H : Hp} : ∀ ns : List Int, RelDs G μ H (ns.map D.int) (ns.map V.int)
  | [] => rfl
  | n :: ns => ⟨_, _, rfl, rfl, intsRel ns⟩
def sumG (ds : List D) (st : Store) : R D := match intsOf ds with
  | some bs => .ok (.int bs.sum) st
  | none => .bad
theorem sumQ {G : GX} : CalQ G (relM G) (relD G) sumG (rSum G.K) := by
  intro W σ μ0 H0 μ H st ds v Q x hs r p
  obtain ⟨a, vs, rfl, q, rs⟩ := r
  unfold sumG at p
  split at p
  · rename_i bs e; exact ⟨a, bs, rfl, .of (by rw [q, intsOf_ok rs e]), p μ H _ x hs rfl⟩
  · exact p.elim
theorem ae_sum {p : Pos} (cx : Ctx X W lv) (hm : X.mg "sum" = none) (ha : AM X W e fl) (hg : Gl X "sum" := by rfl) (he : starEach [e] X.env = (false, eval e X.env) :: starEach [] X.env := by rfl) : AE X W (.Call (.Name "sum" p) [e] [] pos) (eQ sumG fl) :=
  p_callB (cr_sum cx.calm) sumQ hm (by decide +kernel) ha hg (he := he)
def maxI : List Int → Int
  | [] => 0
  | [x] => x
  | x :: xs => max x (maxI xs)
def minI : List Int → Int
  | [] => 0
  | [x] => x
  | x :: xs => min x (minI xs)
theorem maxI_le : ∀ (xs : List Int) (y : Int), y ∈ xs → y ≤ maxI xs
  | [], _, h => by simp at h
  | [x], y, h => by simp at h; subst h; exact Int.le_refl _
  | x :: z :: xs, y, h => by
    show y ≤ max x (maxI (z :: xs))
    rcases List.mem_cons.mp h with h | h
    · omega
    · have := maxI_le (z :: xs) y h; omega
theorem maxI_mem : ∀ (xs : List Int), xs ≠ [] → maxI xs ∈ xs
  | [], h => absurd rfl h
  | [x], _ => by simp [maxI]
  | x :: z :: xs, _ => by
    have := maxI_mem (z :: xs) (by simp)
    show max x (maxI (z :: xs)) ∈ _
    by_cases h : x ≤ maxI (z :: xs)
    · rw [Int.max_eq_right h]; exact List.mem_cons_of_mem _ this
    · rw [Int.max_eq_left (by omega)]; exact List.mem_cons_self
theorem minI_le : ∀ (xs : List Int) (y : Int), y ∈ xs → minI xs ≤ y
  | [], _, h => by simp at h
  | [x], y, h => by simp at h; subst h; exact Int.le_refl _
  | x :: z :: xs, y, h => by
    show min x (minI (z :: xs)) ≤ y
    rcases List.mem_cons.mp h with h | h
    · omega
    · have := minI_le (z :: xs) y h; omega
theorem minI_mem : ∀ (xs : List Int), xs ≠ [] → minI xs ∈ xs
  | [], h => absurd rfl h
  | [x], _ => by simp [minI]
  | x :: z :: xs, _ => by
    have := minI_mem (z :: xs) (by simp)
    show min x (minI (z :: xs)) ∈ _
    by_cases h : x ≤ minI (z :: xs)
    · rw [Int.min_eq_left h]; exact List.mem_cons_self
    · rw [Int.min_eq_right (by omega)]; exact List.mem_cons_of_mem _ this
def maxG (ds : List D) (st : Store) : R D := match intsOf ds with
  | some bs => if bs.isEmpty then .bad else .ok (.int (maxI bs)) st
  | none => .bad
def minG (ds : List D) (st : Store) : R D := match intsOf ds with
  | some bs => if bs.isEmpty then .bad else .ok (.int (minI bs)) st
  | none => .bad
theorem maxQ {G : GX} : CalQ G (relM G) (relD G) maxG (rMax G.K) := by
  intro W σ μ0 H0 μ H st ds v Q x hs r p
  obtain ⟨a, vs, rfl, q, rs⟩ := r
  unfold maxG at p
  split at p
  · rename_i bs e
    split at p
    · exact p.elim
    · rename_i hne
      have hne : bs ≠ [] := by simpa using hne
      refine ⟨a, bs, rfl, .of (by rw [q, intsOf_ok rs e]), List.length_pos_iff.mpr hne, fun m h1 h2 => ?_⟩
      have : m = maxI bs := Int.le_antisymm (maxI_le bs m h1) (h2 _ (maxI_mem bs hne))
      subst this
      exact p μ H _ x hs rfl
  · exact p.elim
theorem minQ {G : GX} : CalQ G (relM G) (relD G) minG (rMin G.K) := by
  intro W σ μ0 H0 μ H st ds v Q x hs r p
  obtain ⟨a, vs, rfl, q, rs⟩ := r
  unfold minG at p
  split at p
  · rename_i bs e
    split at p
    · exact p.elim
    · rename_i hne
      have hne : bs ≠ [] := by simpa using hne
      refine ⟨a, bs, rfl, .of (by rw [q, intsOf_ok rs e]), List.length_pos_iff.mpr hne, fun m h1 h2 => ?_⟩
      have : m = minI bs := Int.le_antisymm (h2 _ (minI_mem bs hne)) (minI_le bs m h1)
      subst this
      exact p μ H _ x hs rfl
  · exact p.elim
theorem ae_max {p : Pos} (cx : Ctx X W lv) (hm : X.mg "max" = none) (ha : AM X W e fl) (hg : Gl X "max" := by rfl) (he : starEach [e] X.env = (false, eval e X.env) :: starEach [] X.env := by rfl) : AE X W (.Call (.Name "max" p) [e] [] pos) (eQ maxG fl) :=
  p_callB (cr_max cx.calm) maxQ hm (by decide +kernel) ha hg (he := he)
theorem ae_min {p : Pos} (cx : Ctx X W lv) (hm : X.mg "min" = none) (ha : AM X W e fl) (hg : Gl X "min" := by rfl) (he : starEach [e] X.env = (false, eval e X.env) :: starEach [] X.env := by rfl) : AE X W (.Call (.Name "min" p) [e] [] pos) (eQ minG fl) :=
  p_callB (cr_min cx.calm) minQ hm (by decide +kernel) ha hg (he := he)
/- abs, max, min of two, int(..) -/
def absG (ds : List D) (st : Store) : R D := match ds with
  | [.int i] => .ok (.int (if i < 0 then -i else i)) st
  | _ => .bad
theorem absA {G : GX} : CalA G absG (fun xs H Q => ∃ i, xs = [.int i] ∧ Q (.int (if i < 0 then -i else i)) H) := by
  intro W σ μ H st ds vs Q hs rs p
  unfold absG at p
  split at p
  · obtain ⟨v, rest, rfl, rd, e0⟩ := rs; cases e0; cases rd; exact ⟨_, rfl, p μ H _ .refl hs rfl⟩
  · exact p.elim
theorem ae_abs {p : Pos} (hm : X.mg "abs" = none) (ha : AA X W [e] fr) (hg : Gl X "abs" := by rfl) (he : starEach [e] X.env = (false, eval e X.env) :: starEach [] X.env := by rfl) : AE X W (.Call (.Name "abs" p) [e] [] pos) (eB absG fr) :=
  ae_callB call_abs absA hm (by decide +kernel) ha hg (he := he) (hpl := rfl)
def max2G (ds : List D) (st : Store) : R D := match ds with
  | [.int i, .int j] => .ok (.int (if j > i then j else i)) st
  | _ => .bad
def min2G (ds : List D) (st : Store) : R D := match ds with
  | [.int i, .int j] => .ok (.int (if j < i then j else i)) st
  | _ => .bad
theorem max2A {G : GX} : CalA G max2G (fun xs H Q => ∃ i j, xs = [.int i, .int j] ∧ Q (.int (if j > i then j else i)) H) := by
  intro W σ μ H st ds vs Q hs rs p
  unfold max2G at p
  split at p
  · obtain ⟨v, rest, rfl, rd, v', rest', rfl, rd', e0⟩ := rs; cases e0; cases rd; cases rd'; exact ⟨_, _, rfl, p μ H _ .refl hs rfl⟩
  · exact p.elim
theorem min2A {G : GX} : CalA G min2G (fun xs H Q => ∃ i j, xs = [.int i, .int j] ∧ Q (.int (if j < i then j else i)) H) := by
  intro W σ μ H st ds vs Q hs rs p
  unfold min2G at p
  split at p
  · obtain ⟨v, rest, rfl, rd, v', rest', rfl, rd', e0⟩ := rs; cases e0; cases rd; cases rd'; exact ⟨_, _, rfl, p μ H _ .refl hs rfl⟩
  · exact p.elim
theorem ae_max2 {p : Pos} (cx : Ctx X W lv) (hm : X.mg "max" = none) (ha : AA X W [a, b] fr) (hg : Gl X "max" := by rfl) (he : starEach [a, b] X.env = (false, eval a X.env) :: starEach [b] X.env := by rfl) (hpl : (backTo pos (starEach [b] X.env)).any (·.1) = false := by rfl) : AE X W (.Call (.Name "max" p) [a, b] [] pos) (eB max2G fr) :=
  ae_callB (call_max2 cx.calm) max2A hm (by decide +kernel) ha hg (he := he) (hpl := hpl)
theorem ae_min2 {p : Pos} (cx : Ctx X W lv) (hm : X.mg "min" = none) (ha : AA X W [a, b] fr) (hg : Gl X "min" := by rfl) (he : starEach [a, b] X.env = (false, eval a X.env) :: starEach [b] X.env := by rfl) (hpl : (backTo pos (starEach [b] X.env)).any (·.1) = false := by rfl) : AE X W (.Call (.Name "min" p) [a, b] [] pos) (eB min2G fr) :=
  ae_callB (call_min2 cx.calm) min2A hm (by decide +kernel) ha hg (he := he) (hpl := hpl)
def intG (ds : List D) (st : Store) : R D := match ds with
  | [.int i] => .ok (.int i) st
  | [.bl k] => .ok (.int (if k then 1 else 0)) st
  | _ => .bad
theorem intA {G : GX} : CalA G intG (fun xs H Q => (∃ i, xs = [.int i] ∧ Q (.int i) H) ∨ ∃ k, xs = [.bl k] ∧ Q (.int (if k then 1 else 0)) H) := by
  intro W σ μ H st ds vs Q hs rs p
  unfold intG at p
  split at p
  · obtain ⟨v, rest, rfl, rd, e0⟩ := rs; cases e0; cases rd; exact .inl ⟨_, rfl, p μ H _ .refl hs rfl⟩
  · obtain ⟨v, rest, rfl, rd, e0⟩ := rs; cases e0; cases rd; exact .inr ⟨_, rfl, p μ H _ .refl hs rfl⟩
  · exact p.elim
theorem ae_int1 {p : Pos} (hm : X.mg "int" = none) (ha : AA X W [e] fr) (hg : Gl X "int" := by rfl) (he : starEach [e] X.env = (false, eval e X.env) :: starEach [] X.env := by rfl) : AE X W (.Call (.Name "int" p) [e] [] pos) (eB intG fr) :=
  ae_callTy call_int1 intA hm (by decide +kernel) ha hg (he := he) (hpl := rfl)

/-! ## methods -/
def isLst (d : D) (st : Store) : Bool := match d with
  | .ref n => (match st[n]? with | some (.lst _) => true | _ => false)
  | _ => false
def eM (ok : D → Store → Bool) (g : D → List D → Store → R D) (fo : EF) (fr : LF) : EF := fun env st => (fo env st).bind fun x st1 => if ok x st1 then (fr env st1).bind fun ds st2 => g x ds st2 else .bad
def MetA (G : GX) (g : D → List D → Store → R D) (r : V → List V → Hp → VK → Prop) : Prop := ∀ W σ μ H st x ds v vs Q, HS G μ H st → RelD G μ H x v → RelDs G μ H ds vs → Post G W (relD G) σ μ H (g x ds st) Q → r v vs H Q
def TyA (G : GX) (ok : D → Store → Bool) (T : String) : Prop := ∀ μ H st x v, HS G μ H st → RelD G μ H x v → ok x st = true → tyV G.K T v H
theorem tyLst {G : GX} : TyA G isLst "list" := by
  intro μ H st x v hs r e
  cases x with
  | ref n =>
    obtain ⟨a, e1, rfl⟩ := r
    simp only [isLst] at e
    split at e
    · rename_i ds e2
      obtain ⟨_, h1, vs, rfl, _⟩ := hs.obj n a _ e1 e2
      exact .inl ⟨rfl, _, .of h1⟩
    · cases e
  | _ => simp [isLst] at e
theorem ae_bm {T id : String} {name : Str} {r : V → List V → Hp → VK → Prop} {ok : D → Store → Bool} {g : D → List D → Store → R D} {apos cpos : Pos} (pa : PlainAttrs T) (slot : Slot T name id) (hty : typeOf (.builtin id) = pure (.type "method_descriptor")) (hm : MtR X id r)
    (ht : TyA (gx X) ok T) (hg : MetA (gx X) g r) (ho : AE X W o fo) (ha : AA X W (e :: es) fr)
    (hbase : attributeBase o name X.env (eval o X.env) = eval o X.env := by rfl)
    (hfew : ((backTo cpos (starEach (e :: es) X.env)).all (fun x => !x.1) && (backToKw cpos (keywordEach [] X.env)).all (fun x => x.1.isSome)
      && decide ((e :: es).length + ([] : List Keyword).length + (if ([] : List Keyword).isEmpty then 0 else 1) < 30)) = true := by rfl)
    (hline : (apos.endLine == cpos.line) = true := by rfl) (hs : starEach (e :: es) X.env = (false, eval e X.env) :: starEach es X.env := by rfl) (hplain : (backTo cpos (starEach es X.env)).any (·.1) = false := by rfl) :
    AE X W (.Call (.Attribute o name apos) (e :: es) [] cpos) (eM ok g fo fr) := (pe_bm pa slot hty hm ho ha hbase hfew hline hs hplain).weak fun σ H Q ⟨μ, env, st, hs, er, q⟩ =>
      ⟨μ, env, st, hs, er, Post.bind q fun x st1 μ1 H1 v _ x1 hs1 r1 p1 => by
        split at p1
        · rename_i hok
          exact ⟨ht μ1 H1 st1 x v hs1 r1 hok, μ1, env, st1, hs1, er.ext hs x1, Post.bind p1 fun ds st2 μ2 H2 vs _ x2 hs2 r2 p2 => hg W σ μ2 H2 st2 x ds v vs Q hs2 (RelD.ext hs1 x2 x v r1) r2 p2⟩
        · exact p1.elim⟩
theorem ae_bm0 {T id : String} {name : Str} {r : V → List V → Hp → VK → Prop} {ok : D → Store → Bool} {g : D → List D → Store → R D} {apos cpos : Pos} (pa : PlainAttrs T) (slot : Slot T name id) (hty : typeOf (.builtin id) = pure (.type "method_descriptor")) (hm : MtR X id r)
    (ht : TyA (gx X) ok T) (hg : MetA (gx X) g r) (ho : AE X W o fo)
    (hbase : attributeBase o name X.env (eval o X.env) = eval o X.env := by rfl) (hline : (apos.endLine == cpos.line) = true := by rfl) :
    AE X W (.Call (.Attribute o name apos) [] [] cpos) (eM ok g fo lNil) := (pe_bm0 pa slot hty hm ho hbase hline).weak fun σ H Q ⟨μ, env, st, hs, er, q⟩ =>
      ⟨μ, env, st, hs, er, Post.bind q fun x st1 μ1 H1 v _ x1 hs1 r1 p1 => by
        split at p1
        · rename_i hok
          exact ⟨ht μ1 H1 st1 x v hs1 r1 hok, hg W σ μ1 H1 st1 x [] v [] Q hs1 r1 rfl p1⟩
        · exact p1.elim⟩
def appendG (x : D) (ds : List D) (st : Store) : R D := match x, ds with
  | .ref n, [d] => (match st[n]? with
    | some (.lst xs) => if xs.length < sizeLine then .ok .non (st.set n (.lst (xs ++ [d]))) else .bad
    | _ => .bad)
  | _, _ => .bad
theorem appendA {G : GX} : MetA G appendG rAppend := by
  intro W σ μ H st x ds v vs Q hs rx rs p
  unfold appendG at p
  split at p
  · obtain ⟨y, rest, rfl, rd, e0⟩ := rs; cases e0
    obtain ⟨a, e1, rfl⟩ := rx
    split at p
    · rename_i xs e2
      obtain ⟨_, h1, us, rfl, ru⟩ := hs.obj _ a _ e1 e2
      split at p
      · rename_i hz
        exact ⟨a, us, y, rfl, rfl, h1, by rw [ru.length]; exact hz, p μ _ _ (.put e1) (hs.put e1 ⟨_, rfl, ru.append (.one rd)⟩) rfl⟩
      · exact p.elim
    · exact p.elim
  · exact p.elim
theorem ae_append {apos cpos : Pos} (ho : AE X W o fo) (ha : AA X W [e] fr) (hbase : attributeBase o "append" X.env (eval o X.env) = eval o X.env := by rfl)
    (hfew : ((backTo cpos (starEach [e] X.env)).all (fun x => !x.1) && (backToKw cpos (keywordEach [] X.env)).all (fun x => x.1.isSome)
      && decide (([e] : List Expr).length + ([] : List Keyword).length + (if ([] : List Keyword).isEmpty then 0 else 1) < 30)) = true := by rfl)
    (hline : (apos.endLine == cpos.line) = true := by rfl) (hs : starEach [e] X.env = (false, eval e X.env) :: starEach [] X.env := by rfl) : AE X W (.Call (.Attribute o "append" apos) [e] [] cpos) (eM isLst appendG fo fr) :=
  ae_bm PySem.F.plainAttrs_list PySem.F.slot_list_append PySem.F.type_list_append mt_append tyLst appendA ho ha hbase hfew hline hs rfl
def popG (x : D) (ds : List D) (st : Store) : R D := match x, ds with
  | .ref n, [] => (match st[n]? with
    | some (.lst xs) => (match xs[xs.length - 1]? with
      | some d => .ok d (st.set n (.lst xs.dropLast))
      | none => .bad)
    | _ => .bad)
  | _, _ => .bad
theorem RelDs.dropLast {G : GX} {μ : List Addr} {H : Hp} {ds : List D} {vs : List V} (r : RelDs G μ H ds vs) : RelDs G μ H ds.dropLast vs.dropLast := by
  rw [List.dropLast_eq_take, List.dropLast_eq_take, r.length]
  exact r.take _
theorem popA {G : GX} : MetA G popG rPop := by
  intro W σ μ H st x ds v vs Q hs rx rs p
  unfold popG at p
  split at p
  · cases rs
    obtain ⟨a, e1, rfl⟩ := rx
    split at p
    · rename_i xs e2
      obtain ⟨_, h1, us, rfl, ru⟩ := hs.obj _ a _ e1 e2
      split at p
      · rename_i d e3
        obtain ⟨y, e4, rd⟩ := ru.get e3
        refine ⟨a, us, y, rfl, rfl, h1, by rw [ru.length]; exact e4, p μ _ _ (.put e1) (hs.put e1 ⟨_, rfl, ru.dropLast⟩) (RelD.wr (hs.noTupAt e1) _ _ rd)⟩
      · exact p.elim
    · exact p.elim
  · exact p.elim
def popAtG (x : D) (ds : List D) (st : Store) : R D := match x, ds with
  | .ref n, [.int i] => (match st[n]? with
    | some (.lst xs) => if 0 ≤ i ∧ i < 2 ^ 63 then (match xs[i.toNat]? with
      | some d => .ok d (st.set n (.lst (xs.eraseIdx i.toNat)))
      | none => .bad) else .bad
    | _ => .bad)
  | _, _ => .bad
theorem RelDs.erase {G : GX} {μ : List Addr} {H : Hp} : ∀ {ds : List D} {vs : List V} (k : Nat), RelDs G μ H ds vs → RelDs G μ H (ds.eraseIdx k) (vs.eraseIdx k)
  | [], _, _, r => by cases r; rfl
  | d :: ds, _, 0, r => by obtain ⟨v, rest, rfl, rd, rs⟩ := r; exact rs
  | d :: ds, _, k + 1, r => by obtain ⟨v, rest, rfl, rd, rs⟩ := r; exact ⟨v, _, rfl, rd, RelDs.erase k rs⟩
theorem popAtA {G : GX} : MetA G popAtG rPopAt := by
  intro W σ μ H st x ds v vs Q hs rx rs p
  unfold popAtG at p
  split at p
  · rename_i i
    obtain ⟨y0, rest, rfl, rd0, e0⟩ := rs; cases e0; cases rd0
    obtain ⟨a, e1, rfl⟩ := rx
    split at p
    · rename_i xs e2
      obtain ⟨_, h1, us, rfl, ru⟩ := hs.obj _ a _ e1 e2
      split at p
      · rename_i hz
        split at p
        · rename_i d e3
          obtain ⟨y, e4, rd⟩ := ru.get e3
          have hlt := (List.getElem?_eq_some_iff.mp e4).1
          refine ⟨a, us, _, i.toNat, y, rfl, rfl, h1, by omega, hz.2, ?_, e4, p μ _ _ (.put e1) (hs.put e1 ⟨_, rfl, ru.erase _⟩) (RelD.wr (hs.noTupAt e1) _ _ rd)⟩
          unfold seqIndex?
          have h0 : ¬ i < 0 := by omega
          simp [h0]; omega
        · exact p.elim
      · exact p.elim
    · exact p.elim
  · exact p.elim
/-! ## o[i] = e -/
def sSub (fo fi fe : EF) : SF := fun env st => sOf (fe env st) env fun y st1 => sOf (fo env st1) env fun x st2 => sOf (fi env st2) env fun i st3 => match x, i with
  | .ref n, .int k => (match st3[n]? with
    | some (.lst xs) => (match ixN xs.length k with
      | some j => .next env (st3.set n (.lst (xs.set j y)))
      | none => .bad)
    | _ => .bad)
  | _, _ => .bad
theorem as_sub {i : Expr} {fi : EF} {apos : Pos} (ho : AE X W o fo) (hi : AE X W i fi) (he : AE X W e fe) (ha : ∀ v, assign (.Subscript o i apos) X.env v = (do
      let ov ← holding [v] (eval o X.env)
      let iv ← holding [v, ov] (eval i X.env)
      standAt apos
      holding [v, ov, iv] (setItem ov iv v)
      release [v, ov, iv] []) := by intro _; rfl) (hs : swapsWithSole [.Subscript o i apos] e pos.line X.env = pure false := by rfl) (hw : swappedStores [.Subscript o i apos] e X.env = pure none := by rfl)
    (h1 : (assignEach [.Subscript o i apos] X.env).map (·.2) = [assign (.Subscript o i apos) X.env] := by rfl) : AS X W (.Assign [.Subscript o i apos] e pos) (sSub fo fi fe) :=
  (ps_asg he (pg_sub ho hi set_list ha) hs hw h1).weak fun Dn σ H ⟨μ, env, st, hs, er, p⟩ => ⟨μ, env, st, hs, er, PostS.bind p hs er fun y st1 μ1 H1 v _ x1 hs1 r1 p1 =>
    ⟨μ1, env, st1, hs1, er.ext hs x1, PostS.bind p1 hs1 (er.ext hs x1) fun x st2 μ2 H2 ov _ x2 hs2 r2 p2 => ⟨μ2, env, st2, hs2, (er.ext hs x1).ext hs1 x2, PostS.bind p2 hs2 ((er.ext hs x1).ext hs1 x2) fun i st3 μ3 H3 iv _ x3 hs3 r3 p3 => by
      have r2 := RelD.ext hs2 x3 _ _ r2
      have r1 := RelD.ext hs1 (x2.trans x3) _ _ r1
      have er3 := ((er.ext hs x1).ext hs1 x2).ext hs2 x3
      split at p3
      · cases r3
        obtain ⟨a, e1, rfl⟩ := r2
        split at p3
        · rename_i xs e2
          obtain ⟨_, h1, us, rfl, ru⟩ := hs3.obj _ a _ e1 e2
          split at p3
          · rename_i j ej
            exact ⟨a, us, _, j, rfl, rfl, h1, by rw [ru.length]; exact ej, p3 μ3 _ σ (.put e1) (hs3.put e1 ⟨_, rfl, ru.set j r1⟩) (er3.wr (hs3.noTupAt e1))⟩
          · exact p3.elim
        · exact p3.elim
      · exact p3.elim⟩⟩⟩
end
end TK

set_option Elab.async false
set_option linter.all false
set_option maxRecDepth 100000
set_option maxHeartbeats 4000000
namespace TK
open PySem PySem.Spec
open PyProof.Rows hiding St
open L2

/-! ## isinstance, built-in kinds -/
def kindD (d : D) (st : Store) : Option String := match d with
  | .non => some "NoneType"
  | .bl _ => some "bool"
  | .int _ => some "int"
  | .str _ => some "str"
  | .tup _ => some "tuple"
  | .ref n => (match st[n]? with
    | some (.lst _) => some "list"
    | some (.rol _) => some "list"
    | some (.dct _) => some "dict"
    | some (.dcT _) => some "dict"
    | _ => none)
  | .cls _ => none
theorem kind_ty {G : GX} {μ : List Addr} {H : Hp} {st : Store} (hs : HS G μ H st) {d : D} {v : V} {T : String} (r : RelD G μ H d v) (e : kindD d st = some T) : TyX G.K H v (.type T) := by
  cases d with
  | non => cases r; simp [kindD] at e; subst e; exact .base .non
  | bl _ => cases r; simp [kindD] at e; subst e; exact .base (.bl _)
  | int _ => cases r; simp [kindD] at e; subst e; exact .base (.int _)
  | str _ => cases r; simp [kindD] at e; subst e; exact .base (.str _)
  | cls _ => simp [kindD] at e
  | tup ds =>
    obtain ⟨a, vs, rfl, q, _⟩ := r
    simp [kindD] at e; subst e
    exact .base (.tup q)
  | ref n =>
    obtain ⟨a, e1, rfl⟩ := r
    obtain ⟨o, ho, e2, e3, ro⟩ := hs.at e1
    simp only [kindD, e2] at e
    cases o with
    | lst ds => simp at e; subst e; obtain ⟨vs, rfl, _⟩ := ro; exact .base (.lst e3)
    | rol ds => simp at e; subst e; obtain ⟨ob, vs, rfl, _⟩ := ro; exact .base (.frz e3)
    | ins c fs => simp at e
    | dct kvs => simp at e; subst e; obtain ⟨ks, rfl, _⟩ := ro; exact .base (.dK e3)
    | dcT kvs => simp at e; subst e; obtain ⟨ks, rfl, _⟩ := ro; exact .base (.dT e3)
def subT : List String → String → Bool
  | [], _ => false
  | T :: Ts, k => (k == T || (k == "bool" && T == "int")) || subT Ts k
def kindsAll : List String := ["NoneType", "bool", "int", "str", "tuple", "list", "dict"]
/-- the types that may be asked for -/
def tysAll : List String := ["bool", "int", "str", "tuple", "list", "dict"]
theorem kit_all : ∀ k ∈ kindsAll, ∀ T ∈ tysAll, kitB k T = some (k == T || (k == "bool" && T == "int")) := by decide +kernel
theorem kitAny_all {K : PySem.W.Frag} {k : String} (hk : k ∈ kindsAll) : ∀ Ts : List String, (∀ T ∈ Ts, T ∈ tysAll) → PySem.W.kitAny K (.type k) (Ts.map Value.type) = some (subT Ts k)
  | [], _ => rfl
  | T :: Ts, h => by
    have h1 := kit_ty (K := K) (kit_all k hk T (h T (by simp)))
    have h2 := kitAny_all (K := K) hk Ts fun T hT => h T (by simp [hT])
    refine kitAny_cons h1 (fun e => ?_) fun e => ?_
    · rw [h2]; simp [subT, e]
    · simp only [subT, e, Bool.true_or]
theorem kind_mem {d : D} {st : Store} {k : String} (e : kindD d st = some k) : k ∈ kindsAll := by
  cases d with
  | non => simp [kindD] at e; subst e; decide
  | bl _ => simp [kindD] at e; subst e; decide
  | int _ => simp [kindD] at e; subst e; decide
  | str _ => simp [kindD] at e; subst e; decide
  | tup _ => simp [kindD] at e; subst e; decide
  | cls _ => simp [kindD] at e
  | ref n =>
    simp only [kindD] at e
    cases q : st[n]? with
    | none => rw [q] at e; cases e
    | some o =>
      rw [q] at e
      cases o with
      | lst _ => cases e; decide
      | rol _ => cases e; decide
      | dct _ => cases e; decide
      | dcT _ => cases e; decide
      | ins _ _ => cases e
/-- isinstance(x, T) or isinstance(x, (T, ..)); an instance of a class of the text is of none of these -/
def eIsi (Ts : List String) (fe : EF) : EF := fun env st => (fe env st).bind fun d st1 => match kindD d st1 with
  | some k => .ok (.bl (subT Ts k)) st1
  | none => .bad
section
variable {X : Cx} {W : WX} {a b c e o : Expr} {es : List Expr} {fa fb fe fo : EF} {fl fl' fr : LF} {pos pos' : Pos} {lv : Nat}
theorem ae_isi {p p2 : Pos} {x : Str} (T : String) (hm : X.mg "isinstance" = none) (ha : AE X W e fe) (hg : Gl X "isinstance" := by rfl) (hx : Gl X x := by rfl) (hmx : X.mg x = none) (hv : bootBuiltins x = some (.type T) := by decide +kernel) (hT : T ∈ tysAll := by decide)
    (hn : x ≠ "__name__" := by decide) (hd : (x == ("__debug__" : Str)) = false := by decide)
    (he : starEach [e, .Name x p2] X.env = (false, eval e X.env) :: starEach [.Name x p2] X.env := by rfl) (he2 : starEach [.Name x p2] X.env = (false, eval (.Name x p2) X.env) :: starEach [] X.env := by rfl) (hpl : (backTo pos (starEach [.Name x p2] X.env)).any (·.1) = false := by rfl) :
    AE X W (.Call (.Name "isinstance" p) [e, .Name x p2] [] pos) (eIsi [T] fe) :=
  (pe_callB call_isi hg hm (by decide +kernel) (pa_cons ha (pa_cons (pe_bltn (v := .ty T) hx hmx hv (by rfl) hn hd) pa_nil he2) he) (he := he) (hpl := hpl)).weak fun σ H Q ⟨μ, env, st, hs, er, q⟩ =>
    ⟨μ, env, st, hs, er, Post.bind q fun d st1 μ1 H1 v _ x1 hs1 r1 p1 => by
      split at p1
      · rename_i k ek
        have hk := kitAny_all (K := X.K) (kind_mem ek) [T] fun T' hT' => by simp at hT'; subst hT'; exact hT
        refine ⟨v, .ty T, _, _, _, rfl, .ty T, kind_ty hs1 r1 ek, ?_, p1 μ1 H1 _ .refl hs1 rfl⟩
        simp only [subT, Bool.or_false]
        exact kit_ty (kit_all k (kind_mem ek) T hT)
      · exact p1.elim⟩
theorem ae_isi2 {p p2 p3 p4 : Pos} {kk : Nat} {x y : Str} (T U : String) (hm : X.mg "isinstance" = none) (ha : AE X W e fe) (hg : Gl X "isinstance" := by rfl) (hx : Gl X x := by rfl) (hy : Gl X y := by rfl) (hmx : X.mg x = none) (hmy : X.mg y = none)
    (hv : bootBuiltins x = some (.type T) := by decide +kernel) (hw : bootBuiltins y = some (.type U) := by decide +kernel) (hT : T ∈ tysAll := by decide) (hU : U ∈ tysAll := by decide)
    (hn : x ≠ "__name__" := by decide) (hd : (x == ("__debug__" : Str)) = false := by decide) (hn' : y ≠ "__name__" := by decide) (hd' : (y == ("__debug__" : Str)) = false := by decide)
    (he : starEach [e, .Tuple [.Name x p2, .Name y p3] kk p4] X.env = (false, eval e X.env) :: starEach [.Tuple [.Name x p2, .Name y p3] kk p4] X.env := by rfl)
    (he2 : starEach [.Tuple [.Name x p2, .Name y p3] kk p4] X.env = (false, eval (.Tuple [.Name x p2, .Name y p3] kk p4) X.env) :: starEach [] X.env := by rfl)
    (h3 : starEach [.Name x p2, .Name y p3] X.env = (false, eval (.Name x p2) X.env) :: starEach [.Name y p3] X.env := by rfl) (h4 : starEach [.Name y p3] X.env = (false, eval (.Name y p3) X.env) :: starEach [] X.env := by rfl)
    (hpl : (backTo pos (starEach [.Tuple [.Name x p2, .Name y p3] kk p4] X.env)).any (·.1) = false := by rfl) :
    AE X W (.Call (.Name "isinstance" p) [e, .Tuple [.Name x p2, .Name y p3] kk p4] [] pos) (eIsi [T, U] fe) :=
  (pe_callB call_isiT hg hm (by decide +kernel) (pa_cons ha (pa_cons (pe_tup (pa_cons (pe_bltn (v := .ty T) hx hmx hv (by rfl) hn hd) (pa_cons (pe_bltn (v := .ty U) hy hmy hw (by rfl) hn' hd') pa_nil h4) h3)) pa_nil he2) he) (he := he) (hpl := hpl)).weak fun σ H Q ⟨μ, env, st, hs, er, q⟩ =>
    ⟨μ, env, st, hs, er, Post.bind q fun d st1 μ1 H1 v _ x1 hs1 r1 p1 => by
      refine ⟨by show 2 ≤ sizeLine; rw [sizeLine_eq]; decide, fun tp htp => ?_⟩
      split at p1
      · rename_i k ek
        have r1 := RelD.ext hs1 (.new (o := .tup [.ty T, .ty U]) htp) _ _ r1
        have hs2 := hs1.new (o := .tup [.ty T, .ty U]) htp
        have hk := kitAny_all (K := X.K) (kind_mem ek) [T, U] fun T' hT' => by
          simp at hT'
          rcases hT' with rfl | rfl
          · exact hT
          · exact hU
        exact ⟨v, tp, [.ty T, .ty U], _, _, _, rfl, upd_same, .cons (.ty T) (.cons (.ty U) .nil), kind_ty hs2 r1 ek, hk, p1 μ1 _ _ (.new htp) hs2 rfl⟩
      · exact p1.elim⟩

/-! ## a walk over a tuple or a list of the store -/
def iSeqF (fe : EF) : IF := fun env st => (fe env st).bind fun d st1 => match d with
  | .tup ds => .ok (ds, []) st1
  | .ref n => (match seqOf (.ref n) st1 with
    | some ds => .ok (ds, [(n, ds)]) st1
    | none => .bad)
  | _ => .bad
theorem pi_seq {tg l : Expr} {tl : TE} (hl : PE X l tl) : PI X tg l (fun σ H R => tl σ H fun x H1 => (∃ a, x = .ref a ∧ (∃ xs, SqL X.K H1 a xs) ∧ R (Itl X.K a) H1) ∨ (∃ a, x = .ref a ∧ (∃ xs, SqT X.K H1 a xs) ∧ R (Itt X.K a) H1)) := by
  refine ⟨fun pins s σ H R I h => ?_⟩
  refine thn (hl.run pins s σ H _ I h) fun v s1 ⟨x, H1, I1, r1, q1⟩ => ?_
  rcases q1 with ⟨a, e, ⟨xs, hq⟩, q⟩ | ⟨a, e, ⟨xs, hq⟩, q⟩
  · subst e
    cases r1
    obtain ⟨its, rv, p, hz⟩ := I1.list hq
    refine wpAny_pyIter_list p.isList ?_
    refine ⟨s1.heap.objs.size, [s1.heap.objs.size], _, _, H1, rfl, I1.kept (t' := s1.toks) fun b o e => Heap.get?_push_of_some _ e, turn_list a _, ⟨_, Heap.get?_push_size _ rfl, rfl, rfl⟩, fun b hb => ?_, q⟩
    have e : b = s1.heap.objs.size := by simpa using hb
    subst e
    exact I1.fpOk (Nat.le_refl _) (I1.hok.fresh (Nat.le_refl _))
  · subst e
    cases r1
    obtain ⟨its, rv, p, hz⟩ := I1.tuple hq
    refine wpAny_pyIter_tuple (show s1.heap.IsTuple a its.toArray from p) ?_
    refine ⟨s1.heap.objs.size, [s1.heap.objs.size], _, _, H1, rfl, I1.kept (t' := s1.toks) fun b o e => Heap.get?_push_of_some _ e, turn_tuple a _, ⟨_, Heap.get?_push_size _ rfl, rfl, rfl⟩, fun b hb => ?_, q⟩
    have e : b = s1.heap.objs.size := by simpa using hb
    subst e
    exact I1.fpOk (Nat.le_refl _) (I1.hok.fresh (Nat.le_refl _))
theorem ai_seq {tg : Expr} (he : AE X W e fe) : AI X W tg e (iSeqF fe) := (pi_seq he).weak fun σ H Q ⟨μ, env, st, hs, er, p⟩ =>
  ⟨μ, env, st, hs, er, Post.bind p fun d st1 μ1 H1 v _ x1 hs1 r1 p1 => by
    cases d with
    | tup ds => obtain ⟨a, vs, e1, q, rs⟩ := r1; exact .inr ⟨a, e1, ⟨vs, .of q⟩, p1 μ1 H1 _ .refl hs1 (.tup hs1 (.of q) rs)⟩
    | ref n =>
      obtain ⟨a, e1, ev⟩ := r1
      simp only at p1
      split at p1
      · rename_i ds q
        obtain ⟨vs, q1, rs⟩ := hs1.seq e1 q
        exact .inl ⟨a, ev, ⟨vs, q1⟩, p1 μ1 H1 _ .refl hs1 (.ref e1)⟩
      · exact p1.elim
    | _ => exact p1.elim⟩

/-! ## a new list that a call gives, taken out of the store -/
open Classical in
noncomputable def lDrop (fe : EF) : LF := fun env st => match fe env st with
  | .ok (.ref k) st' => if Trim st st' ∧ st.length ≤ k then (match st'[k]? with
      | some (.lst ds) => if closeds st.length ds then .ok ds (st'.take st.length) else .bad
      | _ => .bad) else .bad
  | .exc x st' => .exc x st'
  | _ => .bad
theorem al_drop (h : AE X W e fe) : AL X W e (lDrop fe) := h.weak fun σ H Q ⟨μ, env, st, hs, er, p⟩ => by
  refine ⟨μ, env, st, hs, er, ?_⟩
  unfold lDrop at p
  cases q : fe env st with
  | bad => rw [q] at p; exact p
  | exc x s => rw [q] at p; exact p
  | ok d st' =>
    rw [q] at p
    intro μ1 H1 v x1 hs1 r1
    cases d with
    | ref k =>
      simp only at p
      split at p
      · rename_i h
        obtain ⟨t, hk⟩ := h
        split at p
        · rename_i ds e1
          split at p
          · rename_i c
            obtain ⟨a, e2, rfl⟩ := r1
            obtain ⟨_, h1, vs, rfl, rs⟩ := hs1.obj _ a _ e2 e1
            have hc := hs.cut x1 hs1 t
            obtain ⟨ν, rfl, f, kk⟩ := x1
            rw [List.getElem?_append_right (by rw [hs.len]; exact hk)] at e2
            obtain ⟨f1, f2⟩ := f a (List.mem_of_getElem? e2)
            refine p μ H1 _ ⟨[], by simp, by simp, kk⟩ hc ⟨a, vs, rfl, f1, f2, h1, RelDs.cut ds vs (by rw [hs.len]; exact c) rs⟩
          · exact p.elim
        · exact p.elim
      · exact p.elim
    | _ => exact p.elim

/-! ## name = [..] on one line -/
theorem as_setLc {elt tg iter : Expr} {ifs : List Expr} {scope : Scope} {spos py : Pos} {y : Str} {fi : IF} {t : Tgt} {fc : BF} {f1 : EF} (c : Ctx X W lv) (i : Nat) (hi : AI X W tg iter fi) (own : List (Str × Nat)) (ok : BlkOk X.N X.env.scope scope own)
    (hg : ∀ s H C cl fp, AG (bX X scope s H C cl fp) tg t) (hc : ∀ s H C cl fp, ATs (bX X scope s H C cl fp) W0 ifs fc) (he : ∀ s H C cl fp, AE (bX X scope s H C cl fp) W0 elt f1)
    (hsw : swapsWith (.ListComp elt [⟨tg, iter, ifs, 0⟩] scope pos) (some (.Name y py)) spos.line X.env = pure true) (hy : X.N[i]? = some y := by rfl) (hyl : X.env.scope.names.lookup y = some .local := by rfl)
    (hv : ∀ i ∈ slotsT t, i ∈ own.map (·.2) := by decide) (hs : ∀ x, foldedSetIterable iter X.env x = pure x := by intro _; rfl) :
    AS X W (.Assign [.Name y py] (.ListComp elt [⟨tg, iter, ifs, 0⟩] scope pos) spos) (sSet i (eLst (compF (own.map (·.2)) fi t fc f1))) :=
  (ps_setLc (g := gT X.K t) (tt := tG (gx X) W0 relB fc) (te := tG (gx X) W0 (relD (gx X)) f1) c.calm c.nd hy hyl hsw hi ok hg hc he hs).weak fun Dn σ H ⟨μ, env, st, hst, er, p⟩ => by
    unfold tAsg gName
    refine comp_t hv ⟨μ, env, st, hst, er, ?_⟩
    unfold sSet eLst at p
    cases q : compF (own.map (·.2)) fi t fc f1 env st with
    | bad => rw [q] at p; exact p
    | exc x s => rw [q] at p; exact fun μ' H' C od x2 hs2 rx => p μ' H' σ C od x2 hs2 (er.ext hst x2) rx
    | ok ds st1 =>
      rw [q] at p
      intro μ1 H1 v x1 hs1 r1
      obtain ⟨a, vs, rfl, h0, hn, hv, rs⟩ := r1
      have rr : RelD (gx X) (μ1 ++ [a]) H1 (.ref st1.length) (.ref a) := ⟨a, by rw [← hs1.len, List.getElem?_append_right (Nat.le_refl _)]; simp, rfl⟩
      exact p (μ1 ++ [a]) H1 _ (x1.adopt h0 hn) (hs1.adopt hv hn ⟨vs, rfl, rs⟩) ((er.ext hst (x1.adopt h0 hn)).set rr i)

/-! ## sorted, of ints -/
def insI (x : Int) : List Int → List Int
  | [] => [x]
  | y :: ys => if x ≤ y then x :: y :: ys else y :: insI x ys
def sortI : List Int → List Int
  | [] => []
  | x :: xs => insI x (sortI xs)
theorem insI_perm (x : Int) : ∀ ys : List Int, (insI x ys).Perm (x :: ys)
  | [] => .refl _
  | y :: ys => by
    unfold insI
    split
    · exact .refl _
    · exact ((insI_perm x ys).cons y).trans (.swap x y ys)
theorem sortI_perm : ∀ xs : List Int, (sortI xs).Perm xs
  | [] => .refl _
  | x :: xs => (insI_perm x _).trans ((sortI_perm xs).cons x)
theorem insI_sorted (x : Int) : ∀ {ys : List Int}, ys.Pairwise (· ≤ ·) → (insI x ys).Pairwise (· ≤ ·)
  | [], _ => by simp [insI]
  | y :: ys, h => by
    unfold insI
    have h2 := List.pairwise_cons.mp h
    split
    · rename_i hxy
      refine List.pairwise_cons.mpr ⟨fun z hz => ?_, h⟩
      rcases List.mem_cons.mp hz with rfl | hz
      · exact hxy
      · exact Int.le_trans hxy (h2.1 z hz)
    · rename_i hxy
      refine List.pairwise_cons.mpr ⟨fun z hz => ?_, insI_sorted x h2.2⟩
      rcases List.mem_cons.mp ((insI_perm x ys).mem_iff.mp hz) with rfl | hz
      · omega
      · exact h2.1 z hz
theorem sortI_sorted : ∀ xs : List Int, (sortI xs).Pairwise (· ≤ ·)
  | [] => .nil
  | x :: xs => insI_sorted x (sortI_sorted xs)
theorem sorted_eq {xs ys : List Int} (p : xs.Perm ys) (h1 : xs.Pairwise (· ≤ ·)) (h2 : ys.Pairwise (· ≤ ·)) : xs = ys := p.eq_of_pairwise (fun a b _ _ h h' => Int.le_antisymm h h') h1 h2
def sortG (ds : List D) (st : Store) : R (List D) := match intsOf ds with
  | some ns => .ok ((sortI ns).map D.int) st
  | none => .bad
theorem sortQ {G : GX} : CalQ G (relM G) (relL G) sortG (rSortedI G.K) := by
  intro W σ μ0 H0 μ H st ds v Q x hs r p
  obtain ⟨a, vs, rfl, q, rs⟩ := r
  unfold sortG at p
  split at p
  · rename_i ns e
    refine ⟨a, ns, rfl, .of (by rw [q, intsOf_ok rs e]), fun ns' l pm so hl => ?_⟩
    have : ns' = sortI ns := sorted_eq (pm.trans (sortI_perm ns).symm) so (sortI_sorted ns)
    subst this
    exact p μ _ _ (x.trans (.new hl)) (hs.new hl) ⟨l, _, rfl, Ext.back x .refl (hs.fresh hl) hl, hs.fresh hl, upd_same, intsRel _⟩
  · exact p.elim
theorem al_sorted {p : Pos} (hm : X.mg "sorted" = none) (ha : AM X W e fl) (hg : Gl X "sorted" := by rfl) (he : starEach [e] X.env = (false, eval e X.env) :: starEach [] X.env := by rfl) : AL X W (.Call (.Name "sorted" p) [e] [] pos) (lQ sortG fl) :=
  p_callB cr_sortedI sortQ hm (by decide +kernel) ha hg (he := he)

/-! ## xs.extend([..]) -/
def extendF (fo : EF) (fl : LF) : EF := fun env st => (fo env st).bind fun x st1 => if isLst x st1 then (fl env st1).bind fun ys st2 => match x with
  | .ref n => (match st2[n]? with
    | some (.lst xs) => if xs.length + ys.length ≤ sizeLine then .ok .non (st2.set n (.lst (xs ++ ys))) else .bad
    | _ => .bad)
  | _ => .bad else .bad
theorem ae_extend {apos cpos : Pos} (ho : AE X W o fo) (ha : AM X W e fl) (hbase : attributeBase o "extend" X.env (eval o X.env) = eval o X.env := by rfl)
    (hfew : ((backTo cpos (starEach [e] X.env)).all (fun x => !x.1) && (backToKw cpos (keywordEach [] X.env)).all (fun x => x.1.isSome)
      && decide (([e] : List Expr).length + ([] : List Keyword).length + (if ([] : List Keyword).isEmpty then 0 else 1) < 30)) = true := by rfl)
    (hline : (apos.endLine == cpos.line) = true := by rfl) (hs : starEach [e] X.env = (false, eval e X.env) :: starEach [] X.env := by rfl) : AE X W (.Call (.Attribute o "extend" apos) [e] [] cpos) (extendF fo fl) :=
  (pe_bm PySem.F.plainAttrs_list PySem.F.slot_list_extend PySem.F.type_list_extend mt_extend ho (pa_cons ha pa_nil hs) hbase hfew hline hs rfl).weak fun σ H Q ⟨μ, env, st, hst, er, q⟩ =>
      ⟨μ, env, st, hst, er, Post.bind q fun x st1 μ1 H1 v _ x1 hs1 r1 p1 => by
        split at p1
        · rename_i hok
          refine ⟨tyLst μ1 H1 st1 x v hs1 r1 hok, μ1, env, st1, hs1, er.ext hst x1, Post.bind p1 fun ys st2 μ2 H2 u _ x2 hs2 r2 p2 => ?_⟩
          have r1 := RelD.ext hs1 x2 _ _ r1
          obtain ⟨b, us, rfl, hb, ru⟩ := r2
          split at p2
          · obtain ⟨a, e1, rfl⟩ := r1
            split at p2
            · rename_i xs e2
              obtain ⟨_, h1, vs, rfl, rv⟩ := hs2.obj _ a _ e1 e2
              split at p2
              · rename_i hz
                exact ⟨a, b, vs, us, rfl, rfl, h1, hb, by rw [rv.length, ru.length]; exact hz, p2 μ2 _ _ (.put e1) (hs2.put e1 ⟨_, rfl, rv.append ru⟩) rfl⟩
              · exact p2.elim
            · exact p2.elim
          · exact p2.elim
        · exact p1.elim⟩
/-- [..] + xs -/
theorem al_cat (ha : AL X W a fl) (hb : AM X W b fl') : AL X W (.BinOp a .Add b pos) (lCat fl fl') := (pe_op op_cat ha hb).weak fun σ H Q ⟨μ, env, st, hs, er, p⟩ =>
  ⟨μ, env, st, hs, er, Post.bind0 p fun xs st1 μ1 H1 v _ x1 hs1 r1 p1 => ⟨μ1, env, st1, hs1, er.ext hs x1, by
    cases q : fl' env st1 with
    | bad => rw [q] at p1; exact p1
    | exc x s => rw [q] at p1; exact (Post.later (rel := relL (gx X)) (r := .exc x s) (Q := Q) p1 x1)
    | ok ys st2 =>
      rw [q, R.bind_ok] at p1
      intro μ2 H2 u x2 hs2 r2
      obtain ⟨a, vs, rfl, h0, hn, ha, rv⟩ := r1
      obtain ⟨b, us, rfl, hb, ru⟩ := r2
      split at p1
      · rename_i hz
        exact ⟨a, b, vs, us, rfl, rfl, x2.lst hn ha, hb, by rw [rv.length, ru.length]; exact hz, fun l hl => p1 μ2 _ _ ((x1.trans x2).trans (.new hl)) (hs2.new hl)
          ⟨l, vs ++ us, rfl, Ext.back (x1.trans x2) .refl (hs2.fresh hl) hl, hs2.fresh hl, upd_same, RelDs.ext hs2 (.new hl) _ _ ((RelDs.ext hs1 x2 _ _ rv).append ru)⟩⟩
      · exact p1.elim⟩⟩
/-- xs + [..] -/
def lCatE (fa : EF) (fl : LF) : LF := fun env st => (fa env st).bind fun x st1 => (fl env st1).bind fun ys st2 => match x with
  | .ref n => (match st2[n]? with
    | some (.lst xs) => if xs.length + ys.length ≤ sizeLine then .ok (xs ++ ys) st2 else .bad
    | _ => .bad)
  | _ => .bad
theorem al_catE (ha : AE X W a fa) (hb : AM X W b fl') : AL X W (.BinOp a .Add b pos) (lCatE fa fl') := (pe_op op_cat ha hb).weak fun σ H Q ⟨μ, env, st, hs, er, p⟩ =>
  ⟨μ, env, st, hs, er, Post.bind0 p fun x st1 μ1 H1 v _ x1 hs1 r1 p1 => ⟨μ1, env, st1, hs1, er.ext hs x1, by
    cases q : fl' env st1 with
    | bad => rw [q] at p1; exact p1
    | exc x s => rw [q] at p1; exact (Post.later (rel := relL (gx X)) (r := .exc x s) (Q := Q) p1 x1)
    | ok ys st2 =>
      rw [q, R.bind_ok] at p1
      intro μ2 H2 u x2 hs2 r2
      have r1 := RelD.ext hs1 x2 _ _ r1
      obtain ⟨b, us, rfl, hb, ru⟩ := r2
      split at p1
      · obtain ⟨a, e1, rfl⟩ := r1
        split at p1
        · rename_i xs e2
          obtain ⟨_, h1, vs, rfl, rv⟩ := hs2.obj _ a _ e1 e2
          split at p1
          · rename_i hz
            exact ⟨a, b, vs, us, rfl, rfl, h1, hb, by rw [rv.length, ru.length]; exact hz, fun l hl => p1 μ2 _ _ ((x1.trans x2).trans (.new hl)) (hs2.new hl)
              ⟨l, vs ++ us, rfl, Ext.back (x1.trans x2) .refl (hs2.fresh hl) hl, hs2.fresh hl, upd_same, RelDs.ext hs2 (.new hl) _ _ (rv.append ru)⟩⟩
          · exact p1.elim
        · exact p1.elim
      · exact p1.elim⟩⟩
end
end TK

set_option Elab.async false
set_option linter.all false
set_option maxRecDepth 100000
set_option maxHeartbeats 4000000
namespace TK
open PySem PySem.Spec
open PyProof.Rows hiding St
open L2

/-- a def of the text stands behind its name -/
def FunF (G : GX) (x : Str) (st : Stmt) : Prop := ∃ f fd, Fun G.K x x st f fd ∧ G.mg x = some (.ref f)
def ConI (G : GX) (x : Str) (i : Int) : Prop := ∃ t, G.mg x = some (.int i t)
def ConS (G : GX) (x : Str) (z : Str) : Prop := ∃ t, G.mg x = some (.str z t)
section
variable {X : Cx} {W : WX} {a b c e o : Expr} {es : List Expr} {fa fb fe fo : EF} {fl fl' fr : LF} {pos pos' : Pos} {lv : Nat}
theorem ae_conI {x : Str} {i : Int} (h : ConI (gx X) x i) (hg : Gl X x := by rfl) (hd : (x == ("__debug__" : Str)) = false := by decide) : AE X W (.Name x pos) (eC (.int i)) := let ⟨_, hm⟩ := h; ae_globI hg hm hd
theorem ae_conS {x : Str} {z : Str} (h : ConS (gx X) x z) (hg : Gl X x := by rfl) (hd : (x == ("__debug__" : Str)) = false := by decide) : AE X W (.Name x pos) (eC (.str z)) := let ⟨_, hm⟩ := h; ae_globS hg hm hd

/-! ## slices -/
abbrev OF := AEnv → Store → R (Option Int)
abbrev relO : RelT (Option Int) (Option Int) := ⟨fun _ _ _ a b => b = a, fun _ _ r => r⟩
abbrev AO' (X : Cx) (W : WX) (oe : Option Expr) (f : OF) : Prop := PO X oe (tG (gx X) W relO f)
def oNone : OF := fun _ st => .ok none st
def oSome (fe : EF) : OF := fun env st => (fe env st).bind fun d st1 => match d with
  | .int i => .ok (some i) st1
  | _ => .bad
theorem _root_.L2.PO.weak {X : Cx} {oe : Option Expr} {t t' : TO} (h : PO X oe t) (k : ∀ σ H Q, t' σ H Q → t σ H Q) : PO X oe t' := ⟨fun pins s σ H Q I q => h.run pins s σ H Q I (k _ _ _ q)⟩
theorem ao_none : AO' X W none oNone := po_none.weak fun σ H Q ⟨μ, env, st, hs, er, p⟩ => p μ H _ .refl hs rfl
theorem ao_some (h : AE X W e fe) : AO' X W (some e) (oSome fe) := (po_some h).weak fun σ H Q ⟨μ, env, st, hs, er, p⟩ => ⟨μ, env, st, hs, er, Post.bind p fun d st1 μ1 H1 v _ x1 hs1 r1 p1 => by
  cases d with
  | int i => cases r1; exact ⟨i, rfl, p1 μ1 H1 _ .refl hs1 rfl⟩
  | _ => exact p1.elim⟩
def cutD (xs : List D) (lo hi : Option Int) : List D := (xs.drop (HT.sIx xs.length 0 lo)).take (HT.sIx xs.length xs.length hi - HT.sIx xs.length 0 lo)
theorem RelDs.cutV {G : GX} {μ : List Addr} {H : Hp} {ds : List D} {vs : List V} (r : RelDs G μ H ds vs) (lo hi : Option Int) : RelDs G μ H (cutD ds lo hi) (cutV vs lo hi) := by
  unfold cutD L2.cutV
  rw [r.length]
  exact (r.drop _).take _
theorem cutD_len (xs : List D) (lo hi : Option Int) : (cutD xs lo hi).length ≤ xs.length := by
  unfold cutD
  rw [List.length_take, List.length_drop]
  omega
/-- t[lo:hi] of a tuple, of a text -/
def eSl (fe : EF) (fl fh : OF) : EF := fun env st => (fe env st).bind fun x st1 => (fl env st1).bind fun lo st2 => (fh env st2).bind fun hi st3 => match x with
  | .tup ds => .ok (.tup (cutD ds lo hi)) st3
  | _ => .bad
theorem cutV_whole {xs : List V} {lo hi : Option Int} (h : HT.sIx xs.length 0 lo = 0 ∧ HT.sIx xs.length xs.length hi = xs.length) : cutV xs lo hi = xs := by
  unfold cutV
  rw [h.1, h.2]
  simp
theorem ae_slT {lo hi : Option Expr} {gl gh : OF} {p2 : Pos} (he : AE X W e fe) (hl : AO' X W lo gl) (hh : AO' X W hi gh) : AE X W (.Subscript e (.Slice lo hi none p2) pos) (eSl fe gl gh) :=
  (pe_slice sl_tupA he hl hh).weak fun σ H Q ⟨μ, env, st, hs, er, p⟩ => ⟨μ, env, st, hs, er, Post.bind p fun x st1 μ1 H1 v _ x1 hs1 r1 p1 =>
    ⟨μ1, env, st1, hs1, er.ext hs x1, Post.bind p1 fun lo st2 μ2 H2 l _ x2 hs2 r2 p2 => ⟨μ2, env, st2, hs2, (er.ext hs x1).ext hs1 x2, Post.bind p2 fun hi st3 μ3 H3 u _ x3 hs3 r3 p3 => by
      have r1 := RelD.ext hs1 (x2.trans x3) _ _ r1
      have r2 : l = lo := r2
      have r3 : u = hi := r3
      subst r2; subst r3
      cases x with
      | tup ds =>
        obtain ⟨a, vs, rfl, q, rs⟩ := r1
        refine ⟨a, vs, rfl, .of q, fun hw => ?_, fun hw p hp => ?_⟩
        · refine p3 μ3 H3 _ .refl hs3 ⟨a, vs, rfl, q, ?_⟩
          have := rs.cutV l u
          rwa [cutV_whole hw] at this
        · exact p3 μ3 _ _ (.new hp) (hs3.new hp) ⟨p, _, rfl, upd_same, RelDs.ext hs3 (.new hp) _ _ (rs.cutV l u)⟩
      | _ => exact p3.elim⟩⟩⟩
/-- xs[lo:hi] of a list of the store -/
def lSl (fe : EF) (fl fh : OF) : LF := fun env st => (fe env st).bind fun x st1 => (fl env st1).bind fun lo st2 => (fh env st2).bind fun hi st3 => match x with
  | .ref n => (match seqOf (.ref n) st3 with
    | some ds => .ok (cutD ds lo hi) st3
    | none => .bad)
  | _ => .bad
theorem al_slL {lo hi : Option Expr} {gl gh : OF} {p2 : Pos} (he : AE X W e fe) (hl : AO' X W lo gl) (hh : AO' X W hi gh) : AL X W (.Subscript e (.Slice lo hi none p2) pos) (lSl fe gl gh) :=
  (pe_slice sl_list he hl hh).weak fun σ H Q ⟨μ, env, st, hs, er, p⟩ => ⟨μ, env, st, hs, er, Post.bind0 p fun x st1 μ1 H1 v _ x1 hs1 r1 p1 =>
    ⟨μ1, env, st1, hs1, er.ext hs x1, by
      cases q : gl env st1 with
      | bad => rw [q] at p1; exact p1
      | exc x s => rw [q] at p1; exact (Post.later (rel := relL (gx X)) (r := .exc x s) (Q := Q) p1 x1)
      | ok lo st2 =>
        rw [q, R.bind_ok] at p1
        intro μ2 H2 l x2 hs2 r2
        refine ⟨μ2, env, st2, hs2, (er.ext hs x1).ext hs1 x2, ?_⟩
        cases q : gh env st2 with
        | bad => rw [q] at p1; exact p1
        | exc x s => rw [q] at p1; exact (Post.later (rel := relL (gx X)) (r := .exc x s) (Q := Q) p1 (x1.trans x2))
        | ok hi st3 =>
          rw [q, R.bind_ok] at p1
          intro μ3 H3 u x3 hs3 r3
          have r1 := RelD.ext hs1 (x2.trans x3) _ _ r1
          have r2 : l = lo := r2
          have r3 : u = hi := r3
          subst r2; subst r3
          cases x with
          | ref n =>
            obtain ⟨a, e1, rfl⟩ := r1
            simp only at p1
            split at p1
            · rename_i ds e2
              obtain ⟨vs, hq, rs⟩ := hs3.seq e1 e2
              exact ⟨a, vs, rfl, hq, fun p hp => p1 μ3 _ _ (((x1.trans x2).trans x3).trans (.new hp)) (hs3.new hp) ⟨p, _, rfl, Ext.back ((x1.trans x2).trans x3) .refl (hs3.fresh hp) hp, hs3.fresh hp, upd_same, RelDs.ext hs3 (.new hp) _ _ (rs.cutV l u)⟩⟩
            · exact p1.elim
          | _ => exact p1.elim⟩⟩

/-! ## zip of two tuples or two lists -/
def zipD : List D → List D → List D
  | x :: xs, y :: ys => .tup [x, y] :: zipD xs ys
  | _, _ => []
def iZipF (fr : LF) : IF := fun env st => (fr env st).bind fun ds st1 => match ds with
  | [.tup xs, .tup ys] => .ok (zipD xs ys, []) st1
  | _ => .bad
theorem zipD_get : ∀ (xs ys : List D) (i : Nat), (zipD xs ys)[i]? = match xs[i]?, ys[i]? with
    | some x, some y => some (.tup [x, y])
    | _, _ => none
  | [], ys, i => by simp [zipD]
  | x :: xs, [], i => by
    simp only [zipD, List.getElem?_nil]
    split <;> simp_all
  | x :: xs, y :: ys, 0 => by simp [zipD]
  | x :: xs, y :: ys, i + 1 => by simpa [zipD] using zipD_get xs ys i
theorem zipD_len : ∀ (xs ys : List D), (zipD xs ys).length = min xs.length ys.length
  | [], ys => by simp [zipD]
  | x :: xs, [] => by simp [zipD]
  | x :: xs, y :: ys => by simp [zipD, zipD_len xs ys]
theorem IterR.zipT {G : GX} {μ : List Addr} {H : Hp} {st : Store} {a b : Addr} {vs us : List V} {xs ys : List D} (hs : HS G μ H st) (q : SqT G.K H a vs) (r : RelDs G μ H xs vs) (q' : SqT G.K H b us) (r' : RelDs G μ H ys us) :
    IterR G μ H (zipD xs ys, []) (RZ.ItzT G.K a b) where
  go := fun μ1 H1 st1 e hs1 _ i hi => by
    have hi : i < min xs.length ys.length := by rw [← zipD_len]; exact hi
    have h1 : i < vs.length := by rw [r.length]; omega
    have h2 : i < us.length := by rw [r'.length]; omega
    exact ⟨vs, us, vs[i], us[i], SqT_ext hs e q, SqT_ext hs e q', by simp [h1], by simp [h2]⟩
  yld := fun μ1 H1 st1 e hs1 _ i x H2 hi y => by
    obtain ⟨T, x1, x2, rfl, nT, rfl, f1, f2⟩ := y
    have g1 := f1 _ (SqT_ext hs e q)
    have g2 := f2 _ (SqT_ext hs e q')
    obtain ⟨d1, e1, rd1⟩ := r.get' g1
    obtain ⟨d2, e2, rd2⟩ := r'.get' g2
    have rd1 := RelD.ext hs (e.trans (.new (o := .tup [x1, x2]) nT)) _ _ rd1
    have rd2 := RelD.ext hs (e.trans (.new (o := .tup [x1, x2]) nT)) _ _ rd2
    exact ⟨.tup [d1, d2], by rw [zipD_get, e1, e2], .new nT, hs1.new nT, T, _, rfl, upd_same, .cons rd1 (.one rd2)⟩
  stop := fun μ1 H1 st1 e hs1 _ => by
    refine ⟨vs, us, SqT_ext hs e q, SqT_ext hs e q', ?_⟩
    show vs.length ≤ (zipD xs ys).length ∨ us.length ≤ (zipD xs ys).length
    rw [zipD_len, r.length, r'.length]
    omega
theorem ai_zipT {tpos p : Pos} {elts : List Expr} {kk : Nat} (hm : X.mg "zip" = none) (ha : AA X W [a, b] fr) (hg : Gl X "zip" := by rfl) (hs1 : starEach [a, b] X.env = (false, eval a X.env) :: starEach [b] X.env := by rfl)
    (hpl : (backTo pos (starEach [b] X.env)).any (·.1) = false := by rfl) : AI X W (.Tuple elts kk tpos) (.Call (.Name "zip" p) [a, b] [] pos) (iZipF fr) :=
  (RZ.pi_zipA hg hm ha hs1 hpl).weak fun σ H Q ⟨μ, env, st, hs, er, q⟩ => ⟨μ, env, st, hs, er, Post.bind q fun ds st1 μ1 H1 vs eq x1 hs' rs p1 => by
    split at p1
    · obtain ⟨v, rest, rfl, ⟨a, us, rfl, q1, r1⟩, v2, rest2, rfl, ⟨b, ws, rfl, q2, r2⟩, e0⟩ := rs
      cases e0
      exact ⟨a, b, us, ws, rfl, .inr ⟨.of q1, .of q2, p1 μ1 H1 _ .refl hs' (.zipT hs' (.of q1) r1 (.of q2) r2)⟩⟩
    · exact p1.elim⟩
end
end TK

set_option Elab.async false
set_option linter.all false
set_option maxRecDepth 100000
set_option maxHeartbeats 4000000
namespace TK
open PySem PySem.Spec
open PyProof.Rows hiding St
open L2
/-! ## raise of a class of the text that has no __init__ -/
def RaiF (G : GX) (x : Str) : Prop := ∃ C, G.mg x = some (.ref C) ∧ PySem.W.excIn G.K C HandSPX.veTail "ValueError.__new__" = true ∧ PySem.W.keepIn G.K (.ref C) = true ∧
  PySem.W.subIn G.K (.ref C) (.type "BaseException") = some true ∧ PySem.W.typeIn G.K (.ref C) = some (.type "type")
def sRaise (x : Str) : SF := fun env st => .exc env ⟨x, []⟩ st
section
variable {X : Cx} {W : WX} {pos p p2 : Pos} {lv : Nat}
theorem as_raise {x : Str} (c : Ctx X W lv) (h : RaiF (gx X) x) (hg : Gl X x := by rfl) (hdb : (x == ("__debug__" : Str)) = false := by decide) : AS X W (.Raise (some (.Call (.Name x p) [] [] p2)) none pos) (sRaise x) := by
  obtain ⟨C, h1, h2, h3, h4, h5⟩ := h
  exact (ps_raise c.calm c.tk (pmk_ownN PySem.F.excBase_ValueError h2 h1 h3 (raises_own h4 h5) hg hdb)).weak fun Dn σ H ⟨μ, env, st, hs, er, q⟩ => q μ H σ (.ref C) none .refl hs er ⟨C, h1, rfl, rfl⟩
end
end TK

set_option Elab.async false
set_option linter.all false
set_option maxRecDepth 100000
set_option maxHeartbeats 4000000
namespace TK
open PySem PySem.Spec
open PyProof.Rows hiding St
open L2

section
variable {X : Cx} {W : WX} {a b c e o : Expr} {es : List Expr} {fa fb fe fo : EF} {fl fl' fr : LF} {pos pos' : Pos} {lv : Nat}
/-! ## enumerate -/
def enumFrom : Nat → List D → List D
  | _, [] => []
  | k, x :: xs => .tup [.int k, x] :: enumFrom (k + 1) xs
theorem enumFrom_get : ∀ (k : Nat) (xs : List D) (i : Nat), (enumFrom k xs)[i]? = (xs[i]?).map fun x => .tup [.int ((k + i : Nat) : Int), x]
  | k, [], i => by simp [enumFrom]
  | k, x :: xs, 0 => by simp [enumFrom]
  | k, x :: xs, i + 1 => by
    simp only [enumFrom, List.getElem?_cons_succ]
    rw [enumFrom_get (k + 1) xs i]
    have : k + 1 + i = k + (i + 1) := by omega
    rw [this]
theorem enumFrom_len : ∀ (k : Nat) (xs : List D), (enumFrom k xs).length = xs.length
  | _, [] => rfl
  | k, x :: xs => by simp [enumFrom, enumFrom_len (k + 1) xs]
def iEnumF (fr : LF) : IF := fun env st => (fr env st).bind fun ds st1 => match ds with
  | [.tup xs] => .ok (enumFrom 0 xs, []) st1
  | [.ref n] => (match seqOf (.ref n) st1 with
    | some xs => .ok (enumFrom 0 xs, [(n, xs)]) st1
    | none => .bad)
  | _ => .bad
/-- over a new list -/
def iEnumL (fl : LF) : IF := fun env st => (fl env st).bind fun ds st1 => .ok (enumFrom 0 ds, []) st1
theorem IterR.enT {G : GX} {μ : List Addr} {H : Hp} {st : Store} {a : Addr} {vs : List V} {xs : List D} (hs : HS G μ H st) (q : SqT G.K H a vs) (r : RelDs G μ H xs vs) : IterR G μ H (enumFrom 0 xs, []) (IteT G.K a) where
  go := fun μ1 H1 st1 e hs1 _ i hi => by
    have hi : i < xs.length := by rw [← enumFrom_len 0 xs]; exact hi
    exact ⟨vs, vs[i]'(by rw [r.length]; exact hi), SqT_ext hs e q, by simp [r.length, hi]⟩
  yld := fun μ1 H1 st1 e hs1 _ i x H2 hi y => by
    obtain ⟨T, x1, rfl, nT, rfl, f1⟩ := y
    obtain ⟨d1, e1, rd1⟩ := r.get' (f1 _ (SqT_ext hs e q))
    have rd1 := RelD.ext hs (e.trans (.new (o := .tup [.int (i : Nat), x1]) nT)) _ _ rd1
    exact ⟨.tup [.int i, d1], by rw [enumFrom_get, e1]; simp, .new nT, hs1.new nT, T, _, rfl, upd_same, .cons rfl (.one rd1)⟩
  stop := fun μ1 H1 st1 e hs1 _ => ⟨vs, SqT_ext hs e q, by show vs.length ≤ (enumFrom 0 xs).length; rw [enumFrom_len, r.length]; exact Nat.le_refl _⟩
theorem IterR.enL {G : GX} {μ : List Addr} {H : Hp} {st : Store} {a : Addr} {vs : List V} {xs : List D} (hs : HS G μ H st) (hn : a ∉ μ) (q : H a = some (.lst vs)) (r : RelDs G μ H xs vs) : IterR G μ H (enumFrom 0 xs, []) (Ite G.K a) where
  go := fun μ1 H1 st1 e hs1 _ i hi => by
    have hi : i < xs.length := by rw [← enumFrom_len 0 xs]; exact hi
    exact ⟨vs, vs[i]'(by rw [r.length]; exact hi), .of (e.lst hn q), by simp [r.length, hi]⟩
  yld := fun μ1 H1 st1 e hs1 _ i x H2 hi y => by
    obtain ⟨T, x1, rfl, nT, rfl, f1⟩ := y
    obtain ⟨d1, e1, rd1⟩ := r.get' (f1 _ (.of (e.lst hn q)))
    have rd1 := RelD.ext hs (e.trans (.new (o := .tup [.int (i : Nat), x1]) nT)) _ _ rd1
    exact ⟨.tup [.int i, d1], by rw [enumFrom_get, e1]; simp, .new nT, hs1.new nT, T, _, rfl, upd_same, .cons rfl (.one rd1)⟩
  stop := fun μ1 H1 st1 e hs1 _ => ⟨vs, .of (e.lst hn q), by show vs.length ≤ (enumFrom 0 xs).length; rw [enumFrom_len, r.length]; exact Nat.le_refl _⟩
theorem IterR.enR {G : GX} {μ : List Addr} {H : Hp} {n : Nat} {a : Addr} {xs : List D} (e0 : μ[n]? = some a) : IterR G μ H (enumFrom 0 xs, [(n, xs)]) (Ite G.K a) where
  go := fun μ1 H1 st1 e hs1 g i hi => by
    obtain ⟨ν, rfl, _, _⟩ := e
    obtain ⟨vs, q, r⟩ := hs1.seq (by rw [List.getElem?_append_left (List.getElem?_eq_some_iff.mp e0).1]; exact e0) (g (n, xs) (by simp))
    have hi : i < xs.length := by rw [← enumFrom_len 0 xs]; exact hi
    exact ⟨vs, vs[i]'(by rw [r.length]; exact hi), q, by simp [r.length, hi]⟩
  yld := fun μ1 H1 st1 e hs1 g i x H2 hi y => by
    obtain ⟨ν, rfl, _, _⟩ := e
    obtain ⟨vs, q, r⟩ := hs1.seq (by rw [List.getElem?_append_left (List.getElem?_eq_some_iff.mp e0).1]; exact e0) (g (n, xs) (by simp))
    obtain ⟨T, x1, rfl, nT, rfl, f1⟩ := y
    obtain ⟨d1, e1, rd1⟩ := r.get' (f1 _ q)
    have rd1 := RelD.ext hs1 (.new (o := .tup [.int (i : Nat), x1]) nT) _ _ rd1
    exact ⟨.tup [.int i, d1], by rw [enumFrom_get, e1]; simp, .new nT, hs1.new nT, T, _, rfl, upd_same, .cons rfl (.one rd1)⟩
  stop := fun μ1 H1 st1 e hs1 g => by
    obtain ⟨ν, rfl, _, _⟩ := e
    obtain ⟨vs, q, r⟩ := hs1.seq (by rw [List.getElem?_append_left (List.getElem?_eq_some_iff.mp e0).1]; exact e0) (g (n, xs) (by simp))
    exact ⟨vs, q, by show vs.length ≤ (enumFrom 0 xs).length; rw [enumFrom_len, r.length]; exact Nat.le_refl _⟩
theorem ai_enum {tpos p : Pos} {elts : List Expr} {kk : Nat} (hm : X.mg "enumerate" = none) (ha : AA X W [a] fr) (hg : Gl X "enumerate" := by rfl) (hs1 : starEach [a] X.env = [(false, eval a X.env)] := by rfl) : AI X W (.Tuple elts kk tpos) (.Call (.Name "enumerate" p) [a] [] pos) (iEnumF fr) :=
  (pi_enumA hg hm ha hs1).weak fun σ H Q ⟨μ, env, st, hs, er, q⟩ => ⟨μ, env, st, hs, er, Post.bind q fun ds st1 μ1 H1 vs eq x1 hs' rs p1 => by
    split at p1
    · obtain ⟨v, rest, rfl, ⟨a, us, rfl, q1, r1⟩, e0⟩ := rs
      cases e0
      exact ⟨a, us, rfl, .inr ⟨.of q1, p1 μ1 H1 _ .refl hs' (.enT hs' (.of q1) r1)⟩⟩
    · obtain ⟨v, rest, rfl, ⟨a, e1, rfl⟩, e0⟩ := rs
      cases e0
      split at p1
      · rename_i xs e2
        obtain ⟨us, q1, r1⟩ := hs'.seq e1 e2
        exact ⟨a, us, rfl, .inl ⟨q1, p1 μ1 H1 _ .refl hs' (.enR e1)⟩⟩
      · exact p1.elim
    · exact p1.elim⟩
theorem ai_enumL {tpos p : Pos} {elts : List Expr} {kk : Nat} (hm : X.mg "enumerate" = none) (ha : AL X W a fl) (hg : Gl X "enumerate" := by rfl) (hs1 : starEach [a] X.env = [(false, eval a X.env)] := by rfl) : AI X W (.Tuple elts kk tpos) (.Call (.Name "enumerate" p) [a] [] pos) (iEnumL fl) :=
  (pi_enumA hg hm (pa_cons ha pa_nil hs1) hs1).weak fun σ H Q ⟨μ, env, st, hs, er, q⟩ => ⟨μ, env, st, hs, er, Post.bind q fun ds st1 μ1 H1 v eq x1 hs' rs p1 => by
    obtain ⟨a, us, rfl, _, hn, q1, r1⟩ := rs
    exact ⟨a, us, rfl, .inl ⟨.of q1, p1 μ1 H1 _ .refl hs' (.enL hs' hn q1 r1)⟩⟩⟩
/-! ## zip of two lists -/
def iZipA (fr : LF) : IF := fun env st => (fr env st).bind fun ds st1 => match ds with
  | [.tup xs, .tup ys] => .ok (zipD xs ys, []) st1
  | [.ref n, .ref m] => (match seqOf (.ref n) st1, seqOf (.ref m) st1 with
    | some xs, some ys => .ok (zipD xs ys, [(n, xs), (m, ys)]) st1
    | _, _ => .bad)
  | _ => .bad
theorem IterR.zipR {G : GX} {μ : List Addr} {H : Hp} {n m : Nat} {a b : Addr} {xs ys : List D} (ea : μ[n]? = some a) (eb : μ[m]? = some b) : IterR G μ H (zipD xs ys, [(n, xs), (m, ys)]) (Itz G.K a b) := by
  have look : ∀ {μ1 H1 st1}, Ext μ H μ1 H1 → HS G μ1 H1 st1 → gOK (zipD xs ys, [(n, xs), (m, ys)]) st1 → ∃ vs us, SqL G.K H1 a vs ∧ RelDs G μ1 H1 xs vs ∧ SqL G.K H1 b us ∧ RelDs G μ1 H1 ys us := by
    intro μ1 H1 st1 e hs1 g
    obtain ⟨ν, rfl, _, _⟩ := e
    obtain ⟨vs, q, r⟩ := hs1.seq (by rw [List.getElem?_append_left (List.getElem?_eq_some_iff.mp ea).1]; exact ea) (g (n, xs) (by simp))
    obtain ⟨us, q', r'⟩ := hs1.seq (by rw [List.getElem?_append_left (List.getElem?_eq_some_iff.mp eb).1]; exact eb) (g (m, ys) (by simp))
    exact ⟨vs, us, q, r, q', r'⟩
  refine ⟨fun μ1 H1 st1 e hs1 g i hi => ?_, fun μ1 H1 st1 e hs1 g i x H2 hi y => ?_, fun μ1 H1 st1 e hs1 g => ?_⟩
  · obtain ⟨vs, us, q, r, q', r'⟩ := look e hs1 g
    have hi : i < min xs.length ys.length := by rw [← zipD_len]; exact hi
    have h1 : i < vs.length := by rw [r.length]; omega
    have h2 : i < us.length := by rw [r'.length]; omega
    exact ⟨vs, us, vs[i], us[i], q, q', by simp [h1], by simp [h2]⟩
  · obtain ⟨vs, us, q, r, q', r'⟩ := look e hs1 g
    obtain ⟨T, x1, x2, rfl, nT, rfl, f1, f2⟩ := y
    obtain ⟨d1, e1, rd1⟩ := r.get' (f1 _ q)
    obtain ⟨d2, e2, rd2⟩ := r'.get' (f2 _ q')
    have rd1 := RelD.ext hs1 (.new (o := .tup [x1, x2]) nT) _ _ rd1
    have rd2 := RelD.ext hs1 (.new (o := .tup [x1, x2]) nT) _ _ rd2
    exact ⟨.tup [d1, d2], by rw [zipD_get, e1, e2], .new nT, hs1.new nT, T, _, rfl, upd_same, .cons rd1 (.one rd2)⟩
  · obtain ⟨vs, us, q, r, q', r'⟩ := look e hs1 g
    refine ⟨vs, us, q, q', ?_⟩
    show vs.length ≤ (zipD xs ys).length ∨ us.length ≤ (zipD xs ys).length
    rw [zipD_len, r.length, r'.length]
    omega
theorem ai_zip {tpos p : Pos} {elts : List Expr} {kk : Nat} (hm : X.mg "zip" = none) (ha : AA X W [a, b] fr) (hg : Gl X "zip" := by rfl) (hs1 : starEach [a, b] X.env = (false, eval a X.env) :: starEach [b] X.env := by rfl)
    (hpl : (backTo pos (starEach [b] X.env)).any (·.1) = false := by rfl) : AI X W (.Tuple elts kk tpos) (.Call (.Name "zip" p) [a, b] [] pos) (iZipA fr) :=
  (RZ.pi_zipA hg hm ha hs1 hpl).weak fun σ H Q ⟨μ, env, st, hs, er, q⟩ => ⟨μ, env, st, hs, er, Post.bind q fun ds st1 μ1 H1 vs eq x1 hs' rs p1 => by
    split at p1
    · obtain ⟨v, rest, rfl, ⟨a, us, rfl, q1, r1⟩, v2, rest2, rfl, ⟨b, ws, rfl, q2, r2⟩, e0⟩ := rs
      cases e0
      exact ⟨a, b, us, ws, rfl, .inr ⟨.of q1, .of q2, p1 μ1 H1 _ .refl hs' (.zipT hs' (.of q1) r1 (.of q2) r2)⟩⟩
    · obtain ⟨v, rest, rfl, ⟨a, ea, rfl⟩, v2, rest2, rfl, ⟨b, eb, rfl⟩, e0⟩ := rs
      cases e0
      split at p1
      · rename_i xs ys e1 e2
        obtain ⟨us, q1, r1⟩ := hs'.seq ea e1
        obtain ⟨ws, q2, r2⟩ := hs'.seq eb e2
        exact ⟨a, b, us, ws, rfl, .inl ⟨q1, q2, p1 μ1 H1 _ .refl hs' (.zipR ea eb)⟩⟩
      · exact p1.elim
    · exact p1.elim⟩
/-! ## list(range(..)), tuple(range(..)) -/
theorem rgRel {G : GX} {μ : List Addr} {H : Hp} (i j : Int) : RelDs G μ H (rangeD i (j - i).toNat) (rgV i j) := by
  refine .of_all (by rw [rgV_length, rangeD_len]) fun k d v e1 e2 => ?_
  rw [rangeD_get] at e1
  split at e1
  · rename_i hk
    cases e1
    unfold rgV at e2
    rw [List.getElem?_map, List.getElem?_range hk] at e2
    cases e2
    rfl
  · cases e1
def rgOk (i j : Int) : Prop := -(2 ^ 62) ≤ i ∧ i < 2 ^ 62 ∧ -(2 ^ 62) ≤ j ∧ j < 2 ^ 62 ∧ (j - i).toNat ≤ 2 ^ 24
instance (i j : Int) : Decidable (rgOk i j) := by unfold rgOk; infer_instance
noncomputable def lRng1 (fe : EF) : LF := fun env st => (fe env st).bind fun d st1 => match d with
  | .int j => hid (if rgOk 0 j then .ok (rangeD 0 j.toNat) st1 else .bad)
  | _ => .bad
theorem al_listRng1 {p p2 pos2 : Pos} (cx : Ctx X W lv) (hm : X.mg "list" = none) (hm2 : X.mg "range" = none) (ha : AE X W a fe) (hg : Gl X "list" := by rfl) (hg2 : Gl X "range" := by rfl) (na : starEach [a] X.env = (false, eval a X.env) :: starEach [] X.env := by rfl)
    (na2 : starEach [.Call (.Name "range" p2) [a] [] pos2] X.env = (false, eval (.Call (.Name "range" p2) [a] [] pos2) X.env) :: starEach [] X.env := by rfl) :
    AL X W (.Call (.Name "list" p) [.Call (.Name "range" p2) [a] [] pos2] [] pos) (lRng1 fe) := (pe_listRg cx.calm hg hm (prg_1 hg2 hm2 ha na) na2).weak fun σ H Q ⟨μ, env, st, hs, er, q⟩ =>
    ⟨μ, env, st, hs, er, Post.bind0 q fun d st1 μ1 H1 v _ x1 hs1 r1 p1 => by
      cases d with
      | int j =>
        cases r1
        simp only [hid_eq] at p1
        split at p1
        · rename_i h
          refine ⟨j, rfl, h, fun l hl => p1 μ1 _ _ (x1.trans (.new hl)) (hs1.new hl) ⟨l, _, rfl, Ext.back x1 .refl (hs1.fresh hl) hl, hs1.fresh hl, upd_same, ?_⟩⟩
          have := rgRel (G := gx X) (μ := μ1) (H := upd H1 l (.lst (rgV 0 j))) 0 j
          rwa [Int.sub_zero] at this
        · exact p1.elim
      | _ => exact p1.elim⟩
noncomputable def eRng1 (fe : EF) : EF := fun env st => (fe env st).bind fun d st1 => match d with
  | .int j => hid (if rgOk 0 j then .ok (.tup (rangeD 0 j.toNat)) st1 else .bad)
  | _ => .bad
theorem ae_tupRng1 {p p2 pos2 : Pos} (cx : Ctx X W lv) (hm : X.mg "tuple" = none) (hm2 : X.mg "range" = none) (ha : AE X W a fe) (hg : Gl X "tuple" := by rfl) (hg2 : Gl X "range" := by rfl) (na : starEach [a] X.env = (false, eval a X.env) :: starEach [] X.env := by rfl)
    (na2 : starEach [.Call (.Name "range" p2) [a] [] pos2] X.env = (false, eval (.Call (.Name "range" p2) [a] [] pos2) X.env) :: starEach [] X.env := by rfl) :
    AE X W (.Call (.Name "tuple" p) [.Call (.Name "range" p2) [a] [] pos2] [] pos) (eRng1 fe) := (pe_tupRg cx.calm hg hm (prg_1 hg2 hm2 ha na) na2).weak fun σ H Q ⟨μ, env, st, hs, er, q⟩ =>
    ⟨μ, env, st, hs, er, Post.bind0 q fun d st1 μ1 H1 v _ x1 hs1 r1 p1 => by
      cases d with
      | int j =>
        cases r1
        simp only [hid_eq] at p1
        split at p1
        · rename_i h
          refine ⟨j, rfl, h, fun l hl => p1 μ1 _ _ (x1.trans (.new hl)) (hs1.new hl) ⟨l, _, rfl, upd_same, ?_⟩⟩
          have := rgRel (G := gx X) (μ := μ1) (H := upd H1 l (.tup (rgV 0 j))) 0 j
          rwa [Int.sub_zero] at this
        · exact p1.elim
      | _ => exact p1.elim⟩
/-! ## pop -/
theorem ae_pop {apos cpos : Pos} (ho : AE X W o fo) (hbase : attributeBase o "pop" X.env (eval o X.env) = eval o X.env := by rfl) (hline : (apos.endLine == cpos.line) = true := by rfl) : AE X W (.Call (.Attribute o "pop" apos) [] [] cpos) (eM isLst popG fo lNil) :=
  ae_bm0 PySem.F.plainAttrs_list PySem.F.slot_list_pop PySem.F.type_list_pop mt_pop tyLst popA ho hbase hline
theorem ae_popAt {apos cpos : Pos} (ho : AE X W o fo) (ha : AA X W [e] fr) (hbase : attributeBase o "pop" X.env (eval o X.env) = eval o X.env := by rfl)
    (hfew : ((backTo cpos (starEach [e] X.env)).all (fun x => !x.1) && (backToKw cpos (keywordEach [] X.env)).all (fun x => x.1.isSome)
      && decide (([e] : List Expr).length + ([] : List Keyword).length + (if ([] : List Keyword).isEmpty then 0 else 1) < 30)) = true := by rfl)
    (hline : (apos.endLine == cpos.line) = true := by rfl) (hs : starEach [e] X.env = (false, eval e X.env) :: starEach [] X.env := by rfl) : AE X W (.Call (.Attribute o "pop" apos) [e] [] cpos) (eM isLst popAtG fo fr) :=
  ae_bm PySem.F.plainAttrs_list PySem.F.slot_list_pop PySem.F.type_list_pop mt_popAt tyLst popAtA ho ha hbase hfew hline hs rfl
end

/-! ## a def that calls itself: nothing is promised at the bottom -/
theorem FnA.bottom {P : Program} {w : World} {G : GX} {base : Heap} {x qual : Str} {st : Stmt} {f : Addr} {fd : FuncData} {N ps : List Str} {k : Nat} (F : Fun G.K x qual st f fd) (S : FnScope N ps (defScope st)) (hm : G.mg x = some (.ref f)) (hb : Binds G.K fd ps []) :
    FnA G P w base (k + 1) x ps.length (fun _ _ => .bad) := by
  refine ⟨f, fd, ps, ?_, hm, F.kp, hb⟩
  refine F.okX S (fun vs H Q E q => ?_) fun cdv A outer s H vs Q E hr hsp => ?_
  · obtain ⟨μ, st, ds, _, r, _, hl⟩ := q
    rw [r.length, hl]
  · obtain ⟨μ, sto, ds, hs, r, p, hl⟩ := hsp
    exact p.elim
end TK

set_option Elab.async false
set_option linter.all false
set_option maxRecDepth 100000
set_option maxHeartbeats 4000000
namespace TK
open PySem PySem.Spec
open PyProof.Rows hiding St
open L2
/-! # the ends -/
section
variable {G : GX} {P : Program} {w : World} {base : Heap}
theorem FnOk.ofA {x qual : Str} {st : Stmt} {f : Addr} {fd : FuncData} {N ps : List Str} {k : Nat} {body : SF} (F : Fun G.K x qual st f fd) (S : FnScope N ps (defScope st))
    (h : ∀ (cdv : Value) (A : Around) (outer : List Env) (s : Shared) (H : Hp) (E : XK),
      Ctx (cxOf (L2.CX P w) P w G.K G.mg base N qual (defScope st) f cdv A outer s H E) (fun C od _ H' => E C od H') k → ASs (cxOf (L2.CX P w) P w G.K G.mg base N qual (defScope st) f cdv A outer s H E) (fun C od _ H' => E C od H') (defBody st) body) :
    FnOk P w G.K G.mg base (L2.CX P w) (k + 1) f fd ps (spA G (runDef N.length body) ps.length) := by
  refine F.okX S (fun vs H Q E q => ?_) fun cdv A outer s H vs Q E hr hsp => ?_
  · obtain ⟨μ, st, ds, _, r, _, hl⟩ := q
    rw [r.length, hl]
  · obtain ⟨μ, sto, ds, hs, r, p, hl⟩ := hsp
    have c : Ctx (cxOf (L2.CX P w) P w G.K G.mg base N qual (defScope st) f cdv A outer s H E) (fun C od _ H' => E C od H') k :=
      ⟨S.nd, rfl, hr, passes_of rfl, takes_of rfl rfl rfl rfl⟩
    refine ⟨_, h cdv A outer s H E c, ?_⟩
    refine ⟨μ, ds.map some ++ List.replicate (N.length - ds.length) none, sto, hs, EnvR.start (n := N.length) r, ?_⟩
    · unfold runDef at p
      cases q : body (ds.map some ++ List.replicate (N.length - ds.length) none) sto with
      | next env' st' => rw [q] at p; exact fun μ' H' σ' e hs' er' => p μ' H' .non e hs' rfl
      | ret d st' => rw [q] at p; exact p
      | brk env' st' => rw [q] at p; exact p.elim
      | cont env' st' => rw [q] at p; exact p.elim
      | exc env' x st' => rw [q] at p; exact fun μ' H' σ' C od e hs' er' rx => p μ' H' C od e hs' rx
      | bad => rw [q] at p; exact p.elim
end
/-- no list among the module's own objects -/
def noListK (K : PySem.W.Frag) : Bool := K.all fun p => match p.2.cls with
  | .type n => n != "list"
  | _ => true
theorem noListK_ok {K : PySem.W.Frag} (h : noListK K = true) {a : Addr} {o : Obj} (e : K.lookup a = some o) : o.cls ≠ .type "list" := by
  unfold noListK at h
  rw [List.all_eq_true] at h
  have key : ∀ (l : List (Addr × Obj)), l.lookup a = some o → ∃ b, (b, o) ∈ l := by
    intro l
    induction l with
    | nil => intro e; cases e
    | cons p r ih =>
      intro e
      obtain ⟨b, o'⟩ := p
      rw [List.lookup_cons] at e
      cases q : a == b with
      | true => rw [q] at e; cases e; exact ⟨b, List.mem_cons_self⟩
      | false => rw [q] at e; obtain ⟨b', hb⟩ := ih e; exact ⟨b', List.mem_cons_of_mem _ hb⟩
  obtain ⟨b, hb⟩ := key K e
  have := h _ hb
  intro z
  simp [z] at this
theorem relDs_ints {G : GX} {μ : List Addr} {H : Hp} : ∀ ns : List Int, RelDs G μ H (ns.map D.int) (ns.map V.int)
  | [] => rfl
  | n :: ns => ⟨_, _, rfl, rfl, relDs_ints ns⟩
theorem law_start {G : GX} {H : Hp} {a : Addr} {ns : List Int} {m : List D → Store → R D} (hk : noListK G.K = true) (hO : Only H) (hS : SqL G.K H a (ns.map V.int))
    (hm : ∃ st', m [.ref 0] [.rol (ns.map D.int)] = .ok (.bl true) st') : spA G m 1 [.ref a] H (fun v _ => v = .bl true) (fun _ _ _ => False) := by
  have hf : ∃ ob, H a = some (.frz ob (.lst (ns.map V.int))) := by
    rcases hS with (hS | ⟨ob, hS⟩) | ⟨o, its, n, h1, h2, _⟩
    · rcases hO a with z | ⟨o, xs, z⟩
      · rw [hS] at z; cases z
      · rw [hS] at z; cases z
    · exact ⟨ob, hS⟩
    · exact absurd h2 (noListK_ok hk h1)
  obtain ⟨ob, hf⟩ := hf
  obtain ⟨st', hm⟩ := hm
  refine ⟨[a], [.rol (ns.map D.int)], [.ref 0], ⟨by simp, rfl, fun i b o e1 e2 => ?_⟩, ⟨_, _, rfl, ⟨a, rfl, rfl⟩, rfl⟩, ?_, rfl⟩
  · cases i with
    | zero =>
      cases e1; cases e2
      exact ⟨_, hf, ob, _, rfl, relDs_ints ns⟩
    | succ i => cases e1
  · rw [hm]
    intro μ' H' v _ _ r
    exact r
/-- the law's promise at the head -/
def spEnd (K : PySem.W.Frag) (n : Nat) : Sp := fun vs H Q E => ∃ (a : Addr) (ns : List Int), vs = [.ref a] ∧ ns.length ≤ n ∧ Only H ∧ SqL K H a (ns.map V.int) ∧ ∀ H', Q (.bl true) H'
theorem FnOk.atEnd {P : Program} {w : World} {K : PySem.W.Frag} {mg : Str → Option Value} {base : Heap} {CX : CXT} {k n : Nat} {f : Addr} {fd : FuncData} {ps : List Str} {m : List D → Store → R D} (F : FnOk P w K mg base CX k f fd ps (spA ⟨K, mg⟩ m 1))
    (hk : noListK K = true) (hm : ∀ ns : List Int, ns.length ≤ n → ∃ st', m [.ref 0] [.rol (ns.map D.int)] = .ok (.bl true) st') : FnOk P w K mg base CX k f fd ps (spEnd K n) :=
  F.imp fun vs H Q E ⟨a, ns, e, hl, hO, hS, hQ⟩ => by
    subst e
    obtain ⟨μ, st, ds, h1, h2, h3, h4⟩ := law_start (G := ⟨K, mg⟩) hk hO hS (hm ns hl)
    exact ⟨μ, st, ds, h1, h2, by
      cases q : m ds st with
      | ok d st' =>
        rw [q] at h3
        intro μ' H' y e1 e2 e3
        have := h3 μ' H' y e1 e2 e3
        subst this
        exact hQ H'
      | exc x st' => rw [q] at h3; exact fun μ' H' C od e1 e2 e3 => (h3 μ' H' C od e1 e2 e3).elim
      | bad => rw [q] at h3; exact h3.elim, h4⟩
theorem CX_no {P : Program} {w : World} (H : Hp) (s : Shared) (e : Value) (s' : Shared) (h : L2.CX P w [] H s (fun _ _ _ => False) e s') : False := by
  obtain ⟨_, _, _, _, _, _, _, _, _, _, _, _, z⟩ := h
  exact z
theorem funF_of {K : PySem.W.Frag} {h : Heap} {mg : Str → Option Value} {x : Str} {st : Stmt} (X : K.In h) (N : h.Ns mainGlobals mg) {f : Addr} {od an : Option Addr} {sl : Array (Option Value)} {oc kV dc pm cd ct : Value}
    (a : PySem.W.nsIn K mainGlobals x = some (some (.ref f))) (l : K.lookup f = some ⟨oc, od, .func (PySem.W.fnOf x x (defArgs st) (defBody st) (defScope st) .none kV dc pm an cd ct), sl⟩)
    (c : PySem.W.codeIn K cd x = true) (k : PySem.W.keepIn K (.ref f) = true) : FunF ⟨K, mg⟩ x st := ⟨f, _, fun_mk (st := st) l c k, PySem.W.mg_of X N a⟩
theorem raiF_of {K : PySem.W.Frag} {h : Heap} {mg : Str → Option Value} {x : Str} (X : K.In h) (N : h.Ns mainGlobals mg) {C : Addr} (a : PySem.W.nsIn K mainGlobals x = some (some (.ref C)))
    (e : PySem.W.excIn K C HandSPX.veTail "ValueError.__new__" = true) (k : PySem.W.keepIn K (.ref C) = true) (s : PySem.W.subIn K (.ref C) (.type "BaseException") = some true)
    (t : PySem.W.typeIn K (.ref C) = some (.type "type")) : RaiF ⟨K, mg⟩ x := ⟨C, PySem.W.mg_of X N a, e, k, s, t⟩
end TK

set_option Elab.async false
set_option linter.all false
set_option maxRecDepth 100000
set_option maxHeartbeats 4000000
namespace TK
open PySem PySem.Spec
open PyProof.Rows hiding St
open L2
/-! # what is never reached; instances made; fields written -/
def sBad : SF := fun _ _ => .bad
def eBad : EF := fun _ _ => .bad
section
variable {X : Cx} {W : WX} {v o e : Expr} {es : List Expr} {fo fe : EF} {fr : LF} {pos pos' p : Pos} {lv k n : Nat}
theorem as_never (s : Stmt) : AS X W s sBad := ⟨fun pins s σ H D I ⟨μ, env, st, hs, er, q⟩ => q.elim⟩
theorem ae_never (e : Expr) : AE X W e eBad := ⟨fun pins s σ H D I ⟨μ, env, st, hs, er, q⟩ => q.elim⟩
theorem RelF.put {G : GX} {μ : List Addr} {H : Hp} {f : Str} {y : D} {v : V} (ry : RelD G μ H y v) : ∀ {fs : List (Str × D)} {vs : List (Str × V)}, RelF G μ H fs vs → RelF G μ H (putFD f y fs) (putF f v vs)
  | [], _, r => by
    cases r
    exact ⟨v, [], rfl, ry, rfl⟩
  | (x, d) :: fs, _, r => by
    obtain ⟨z, rest, rfl, rd, rs⟩ := r
    unfold putFD putF
    by_cases h : x = f
    · rw [if_pos h, if_pos h]
      exact ⟨v, rest, rfl, ry, rs⟩
    · rw [if_neg h, if_neg h]
      exact ⟨z, _, rfl, rd, RelF.put ry rs⟩
theorem RelF.length {G : GX} {μ : List Addr} {H : Hp} : ∀ {fs : List (Str × D)} {vs : List (Str × V)}, RelF G μ H fs vs → vs.length = fs.length
  | [], _, r => by cases r; rfl
  | (x, d) :: fs, _, r => by
    obtain ⟨z, rest, rfl, rd, rs⟩ := r
    simp [RelF.length rs]
def sFldA (cs : List Str) (f : Str) (fo fe : EF) : SF := fun env st => sOf (fe env st) env fun y st1 => sOf (fo env st1) env fun x st2 => match x with
  | .ref n => (match st2[n]? with
    | some (.ins c fs) => if c ∈ cs ∧ fs.length < 1000 then .next env (st2.set n (.ins c (putFD f y fs))) else .bad
    | _ => .bad)
  | _ => .bad
theorem as_fld (cs : List Str) {f : Str} (ho : AE X W o fo) (he : AE X W v fe) (hc : ∀ c ∈ cs, ∃ l, ClsA (gx X) c l ∧ f ∈ l) (hs : swapsWith v (some (.Attribute o f pos')) pos.line X.env = pure false := by rfl) : AS X W (.Assign [.Attribute o f pos'] v pos) (sFldA cs f fo fe) :=
  (ps_fld ho he hs).weak fun Dn σ H ⟨μ, env, st, hs, er, p⟩ => ⟨μ, env, st, hs, er, PostS.bind p hs er fun y st1 μ1 H1 v _ x1 hs1 r1 p1 =>
    ⟨μ1, env, st1, hs1, er.ext hs x1, PostS.bind p1 hs1 (er.ext hs x1) fun x st2 μ2 H2 ov _ x2 hs2 r2 p2 => by
      have r1 := RelD.ext hs1 x2 _ _ r1
      have er2 := (er.ext hs x1).ext hs1 x2
      split at p2
      · obtain ⟨a, e1, rfl⟩ := r2
        split at p2
        · rename_i c fs e2
          obtain ⟨_, h1, C, dx, vs, rfl, hm, rf⟩ := hs2.obj _ a _ e1 e2
          split at p2
          · rename_i hcs
            obtain ⟨l, k, hf⟩ := hc c hcs.1
            obtain ⟨k1, k2⟩ := k.ok C hm
            exact ⟨a, C, dx, vs, rfl, h1, k1, k2 f hf, by rw [rf.length]; exact hcs.2, p2 μ2 _ σ (.put e1) (hs2.put e1 ⟨C, dx, _, rfl, hm, rf.put r1⟩) (er2.wr (hs2.noTupAt e1))⟩
          · exact p2.elim
        · exact p2.elim
      · exact p2.elim⟩⟩
/-- an instance: its __init__ ended with None -/
def mkR (n : Nat) (r : R D) : R D := match r with
  | .ok .non st => .ok (.ref n) st
  | _ => .bad
noncomputable def eMake (x : Str) (m : List D → Store → R D) (fr : LF) : EF := fun env st => (fr env st).bind fun ds st1 => gcR st1 (mkR st1.length (m (.ref st1.length :: ds) (st1 ++ [.ins x []])))
structure MkA (G : GX) (P : Program) (w : World) (base : Heap) (k : Nat) (x : Str) (n : Nat) (m : List D → Store → R D) : Prop where
  ex : ∃ C f fd ps, FnOk P w G.K G.mg base (L2.CX P w) k f fd ps (spA G m n) ∧ G.mg x = some (.ref C) ∧ Mk G.K C f ∧ Binds G.K fd ps []
theorem ae_make {m : List D → Store → R D} {x : Str} (F : MkA (gx X) X.prog X.w X.base k x (n + 1) m) (c : Ctx X W lv) (ha : AA X W (e :: es) fr) (hn : ∀ env st ds st', fr env st = .ok ds st' → ds.length = n) (hk : k + 1 ≤ lv := by decide) (hg : Gl X x := by rfl)
    (hdb : (x == ("__debug__" : Str)) = false := by decide) (he : starEach (e :: es) X.env = (false, eval e X.env) :: starEach es X.env := by rfl) (hpl : (backTo pos (starEach es X.env)).any (·.1) = false := by rfl) :
    AE X W (.Call (.Name x p) (e :: es) [] pos) (eMake x m fr) := by
  obtain ⟨C, f, fd, ps, F, hm, M, hb⟩ := F.ex
  refine (pe_make (E := fun _ _ _ => False) M F (c.room.mono hk) hg hm hb .nil (fun pins σ H s e s' I z => by obtain ⟨_, _, _, _, _, _, _, _, _, _, _, _, z⟩ := z; exact z.elim) ha hdb he hpl).weak fun σ H Q ⟨μ, env, st, hs, er, q⟩ =>
    ⟨μ, env, st, hs, er, Post.bind q fun ds st1 μ1 H1 vs e1 x1 hs1 r1 p1 => ?_⟩
  intro a dx ha0 hd0 hne
  have p1 := Post.gc hs1 p1
  have hs2 : HS (gx X) μ1 (upd H1 dx (.own a)) st1 := hs1.new hd0
  have ex2 : Ext μ1 H1 μ1 (upd H1 dx (.own a)) := .new hd0
  have ha1 : (upd H1 dx (.own a)) a = none := by rw [upd_ne (Ne.symm hne)]; exact ha0
  obtain ⟨hs3, ex3⟩ := hs2.push (o := .ins C dx []) (ao := .ins x []) ha1 ⟨C, dx, [], rfl, hm, rfl⟩
  have hx : (μ1 ++ [a])[st1.length]? = some a := by rw [← hs1.len, List.getElem?_append_right (Nat.le_refl _)]; simp
  refine ⟨μ1 ++ [a], st1 ++ [.ins x []], .ref st1.length :: ds, hs3, ⟨_, _, rfl, ⟨a, hx, rfl⟩, ?_⟩, ?_, by simp [hn env st ds st1 e1]⟩
  · rw [List.append_nil]
    exact RelDs.ext hs1 (ex2.trans ex3) _ _ r1
  · cases q2 : m (.ref st1.length :: ds) (st1 ++ [.ins x []]) with
    | ok d st2 =>
      rw [q2] at p1
      cases d with
      | non =>
        intro μ' H' y x4 hs4 r4
        refine ⟨r4, p1 μ' H' (.ref a) ((ex2.trans ex3).trans x4) hs4 ⟨a, ?_, rfl⟩⟩
        obtain ⟨ν, rfl, _⟩ := x4
        rw [List.getElem?_append_left (List.getElem?_eq_some_iff.mp hx).1]
        exact hx
      | _ => exact p1.elim
    | exc x' st2 => rw [q2] at p1; exact p1.elim
    | bad => rw [q2] at p1; exact p1.elim
theorem cls1 {G : GX} {c f : Str} {l : List Str} (h : ClsA G c l) (hf : f ∈ l := by decide +kernel) : ∀ c' ∈ [c], ∃ l, ClsA G c' l ∧ f ∈ l := fun c' hc => by
  obtain rfl : c' = c := by simpa using hc
  exact ⟨l, h, hf⟩
/-- a class of the text, its __init__ -/
def ClsF (G : GX) (x qual : Str) (st : Stmt) : Prop := ∃ C f fd, G.mg x = some (.ref C) ∧ Mk G.K C f ∧ Fun G.K "__init__" qual st f fd
theorem clsF_of {K : PySem.W.Frag} {h : Heap} {mg : Str → Option Value} {x qual : Str} {st : Stmt} (X : K.In h) (N : h.Ns mainGlobals mg) {C f : Addr} {od an : Option Addr} {sl : Array (Option Value)} {oc kV dc pm cd ct : Value}
    (aC : PySem.W.nsIn K mainGlobals x = some (some (.ref C))) (a1 : PySem.W.findIn K (.ref C) "__init__" = some (some (.ref f))) (i1 : PySem.W.isFn K (.ref f) = true)
    (l1 : K.lookup f = some ⟨oc, od, .func (PySem.W.fnOf "__init__" qual (defArgs st) (defBody st) (defScope st) .none kV dc pm an cd ct), sl⟩) (c1 : PySem.W.codeIn K cd qual = true) (k1 : PySem.W.keepIn K (.ref f) = true)
    (mk : PySem.W.makesIn K C = true) (kc : PySem.W.keepIn K (.ref C) = true) : ClsF ⟨K, mg⟩ x qual st := ⟨C, f, _, PySem.W.mg_of X N aC, ⟨mk, a1, i1, kc⟩, fun_mk (st := st) l1 c1 k1⟩
theorem clsA_of {K : PySem.W.Frag} {h : Heap} {mg : Str → Option Value} {x : Str} {l : List Str} (X : K.In h) (N : h.Ns mainGlobals mg) {C : Addr} (aC : PySem.W.nsIn K mainGlobals x = some (some (.ref C)))
    (pg : PySem.W.plainGet K C Str.empty = true) (hd : PySem.W.hasDictIn K C = true) (po : PySem.W.plainOver K C = true) (sa : PySem.W.findIn K (.ref C) "__setattr__" = some (some (.builtin "object.__setattr__")))
    (hl : ∀ f ∈ l, PySem.W.findIn K (.ref C) f = some none) : ClsA ⟨K, mg⟩ x l := ⟨fun C' hm => by
      have e := (PySem.W.mg_of X N aC).symm.trans hm
      cases e
      exact ⟨⟨pg, hd, po, sa⟩, hl⟩⟩
end
section
variable {G : GX} {P : Program} {w : World} {base : Heap}
theorem MkA.of {x qual : Str} {st : Stmt} {N ps : List Str} {k : Nat} {body : SF} (T : ClsF G x qual st) (S : FnScope N ps (defScope st)) (hb : ∀ f fd, Fun G.K "__init__" qual st f fd → Binds G.K fd ps [])
    (h : ∀ (f : Addr) (cdv : Value) (A : Around) (outer : List Env) (s : Shared) (H : Hp) (E : XK),
      Ctx (cxOf (L2.CX P w) P w G.K G.mg base N qual (defScope st) f cdv A outer s H E) (fun C od _ H' => E C od H') k → ASs (cxOf (L2.CX P w) P w G.K G.mg base N qual (defScope st) f cdv A outer s H E) (fun C od _ H' => E C od H') (defBody st) body) :
    MkA G P w base (k + 1) x ps.length (runDef N.length body) := by
  obtain ⟨C, f, fd, hm, M, F⟩ := T
  exact ⟨C, f, fd, ps, FnOk.ofA F S (h f), hm, M, hb f fd F⟩
end
/-! ### a range downwards -/
def rangeS (lo c : Int) (n : Nat) : List D := (List.range n).map fun (i : Nat) => D.int (lo + (i : Int) * c)
theorem rangeS_len (lo c : Int) (n : Nat) : (rangeS lo c n).length = n := by simp [rangeS]
theorem rangeS_get (lo c : Int) (n i : Nat) : (rangeS lo c n)[i]? = if i < n then some (.int (lo + (i : Int) * c)) else none := by
  unfold rangeS
  rw [List.getElem?_map]
  by_cases h : i < n
  · rw [if_pos h, List.getElem?_range h]; rfl
  · rw [if_neg h, List.getElem?_eq_none (by simpa using h)]; rfl
theorem IterR.rngS {G : GX} {μ : List Addr} {H : Hp} {lo c : Int} {n : Nat} : IterR G μ H (rangeS lo c n, []) (Itc lo c n) where
  go := fun μ1 H1 st1 e hs1 _ i hi => by
    have h : i < n := by simpa [rangeS_len] using hi
    exact h
  yld := fun μ1 H1 st1 e hs1 _ i x H2 hi y => by
    obtain ⟨rfl, rfl⟩ := y
    have hi : i < n := by simpa [rangeS_len] using hi
    exact ⟨.int (lo + i * c), by rw [rangeS_get, if_pos hi], .refl, hs1, rfl⟩
  stop := fun μ1 H1 st1 e hs1 _ => by show n ≤ _; simp [rangeS_len]
noncomputable def rngR3 (i j c : Int) (st : Store) : R Its := hid (if c = -1 ∧ -(2 ^ 62) ≤ i ∧ i < 2 ^ 62 ∧ -(2 ^ 62) ≤ j ∧ j < 2 ^ 62 then .ok (rangeS i (-1) (i - j).toNat, []) st else .bad)
noncomputable def iRng3F (fa : LF) : IF := fun env st => (fa env st).bind fun ds st1 => match ds with
  | [.int i, .int j, .int c] => rngR3 i j c st1
  | _ => .bad
section
variable {X : Cx} {W : WX} {tg a b c : Expr} {fa : LF} {pos p : Pos}
theorem ai_range3 (hm : X.mg "range" = none) (ha : AA X W [a, b, c] fa) (hg : Gl X "range" := by rfl)
    (hs : starEach [a, b, c] X.env = (false, eval a X.env) :: starEach [b, c] X.env := by rfl) (hpl : (backTo pos (starEach [b, c] X.env)).any (·.1) = false := by rfl) :
    AI X W tg (.Call (.Name "range" p) [a, b, c] [] pos) (iRng3F fa) :=
  (pi_range3 hg hm ha hs hpl).weak fun σ H Q ⟨μ, env, st, hs, er, q⟩ => ⟨μ, env, st, hs, er, Post.bind q fun ds st1 μ1 H1 vs eq x1 hs' rs p1 => by
    split at p1
    · rename_i i j k
      obtain ⟨v, rest, rfl, rd, v2, rest2, rfl, rd2, v3, rest3, rfl, rd3, e0⟩ := rs
      cases e0; cases rd; cases rd2; cases rd3
      unfold rngR3 at p1
      rw [hid_eq] at p1
      split at p1
      · rename_i h
        obtain ⟨rfl, h1, h2, h3, h4⟩ := h
        exact ⟨i, j, -1, _, rfl, RgC.neg h1 h2 h3 h4, p1 μ1 H1 _ .refl hs' .rngS⟩
      · exact p1.elim
    · exact p1.elim⟩
end
theorem rngR3_eq {i : Int} {n : Nat} {st : Store} (e : i + 1 = n) (h : n ≤ 1000000) : rngR3 i (-1) (-1) st = .ok (rangeS i (-1) n, []) st := by
  have h2 : (2 : Int) ^ 62 = 4611686018427387904 := by decide
  unfold rngR3
  rw [hid_eq, h2]
  have : (-1 : Int) = -1 ∧ -4611686018427387904 ≤ i ∧ i < 4611686018427387904 ∧ -4611686018427387904 ≤ (-1 : Int) ∧ (-1 : Int) < 4611686018427387904 := by omega
  rw [if_pos this]
  have : (i - -1).toNat = n := by omega
  rw [this]
theorem iRng3F_ap (fa : LF) (env : AEnv) (st : Store) : iRng3F fa env st = ((fa env st).bind fun ds st1 => match ds with
  | [.int i, .int j, .int c] => rngR3 i j c st1
  | _ => .bad) := (Eq.refl _).trans rfl
end TK

set_option Elab.async false
set_option linter.all false
set_option maxRecDepth 100000
set_option maxHeartbeats 4000000
namespace TK
open PySem PySem.Spec
open PyProof.Rows hiding St
open L2
/-! # x in l, x not in l: l a list, items plain data -/
def inP (x y : D) (st : Store) : Option Bool := match toP st 50 x, toP st 50 y with
  | some p, some (.list ps) => if SeqAt.shaped p = true ∧ SeqAt.shaped (.list ps) = true then some (ps.any fun z => PyData.eqv z p) else none
  | _, _ => none
def inD (x y : D) (st : Store) : R D := match inP x y st with
  | some b => .ok (.bl b) st
  | none => .bad
def ninD (x y : D) (st : Store) : R D := match inP x y st with
  | some b => .ok (.bl (!b)) st
  | none => .bad
section
variable {G : GX} {μ : List Addr} {H : Hp} {st : Store}
theorem inP_ok (hs : HS G μ H st) {x y : D} {v u : V} {b : Bool} (rx : RelD G μ H x v) (ry : RelD G μ H y u) (e : inP x y st = some b) :
    ∃ d ds, Dp G.K H v d ∧ Dp G.K H u (.list ds) ∧ SeqAt.shaped d = true ∧ SeqAt.shaped (.list ds) = true ∧ (ds.any fun z => PyData.eqv z d) = b := by
  unfold inP at e
  split at e
  · rename_i p q e1 e2
    split at e
    · rename_i h
      cases e
      exact ⟨p, q, toP_ok hs 50 x v p rx e1, toP_ok hs 50 y u _ ry e2, h.1, h.2, rfl⟩
    · cases e
  · cases e
theorem inA : OpA G inD (rInD G.K) := by
  intro W σ μ H st x y v u Q hs rx ry p
  unfold inD at p
  split at p
  · rename_i b e
    obtain ⟨d, e, h1, h2, h3, h4, h5⟩ := inP_ok hs rx ry e
    exact ⟨d, e, h1, h2, h3, h4, by rw [h5]; exact p μ H _ .refl hs rfl⟩
  · exact p.elim
theorem ninA : OpA G ninD (rNotInD G.K) := by
  intro W σ μ H st x y v u Q hs rx ry p
  unfold ninD at p
  split at p
  · rename_i b e
    obtain ⟨d, e, h1, h2, h3, h4, h5⟩ := inP_ok hs rx ry e
    exact ⟨d, e, h1, h2, h3, h4, by rw [h5]; exact p μ H _ .refl hs rfl⟩
  · exact p.elim
end
section
variable {X : Cx} {W : WX} {a b : Expr} {fa fb : EF} {pos : Pos} {lv : Nat}
theorem Room.units65 {k : Nat} {A : Around} (r : Room k A) : A.units + 65 < cLine := by have := r.un; omega
theorem ae_in (cx : Ctx X W lv) (ha : AE X W a fa) (hb : AE X W b fb) (hm : behindInMarks .In b = false := by with_unfolding_all rfl) : AE X W (.Compare a [.In] [b] pos) (e2 inD fa fb) := ae_cmp (op_inD (Room.units65 cx.room)) inA ha hb hm
theorem ae_nin (cx : Ctx X W lv) (ha : AE X W a fa) (hb : AE X W b fb) (hm : behindInMarks .NotIn b = false := by with_unfolding_all rfl) : AE X W (.Compare a [.NotIn] [b] pos) (e2 ninD fa fb) := ae_cmp (op_notInD (Room.units65 cx.room)) ninA ha hb hm
end
end TK

set_option Elab.async false
set_option linter.all false
set_option maxRecDepth 100000
set_option maxHeartbeats 4000000
namespace TK
open PySem PySem.Spec
open PyProof.Rows hiding St
open L2
/-! # in a tuple of flat things; pairs stored; lists times ints; is of flags; name op= int -/
def flatD : D → Bool
  | .non => true
  | .bl _ => true
  | .int _ => true
  | .str _ => true
  | _ => false
def flV : D → V
  | .bl b => .bl b
  | .int i => .int i
  | .str x => .str x
  | _ => .non
section
variable {G : GX} {μ : List Addr} {H : Hp} {st : Store}
theorem flV_ok {d : D} {v : V} (r : RelD G μ H d v) (h : flatD d = true) : v = flV d ∧ flatV v = true := by
  cases d with
  | non => cases r; exact ⟨rfl, rfl⟩
  | bl b => cases r; exact ⟨rfl, rfl⟩
  | int b => cases r; exact ⟨rfl, rfl⟩
  | str b => cases r; exact ⟨rfl, rfl⟩
  | _ => cases h
theorem flVs_ok : ∀ {ds : List D} {vs : List V}, RelDs G μ H ds vs → ds.all flatD = true → vs = ds.map flV ∧ vs.all flatV = true
  | [], _, r, _ => by cases r; exact ⟨rfl, rfl⟩
  | d :: ds, _, r, h => by
    obtain ⟨v, rest, rfl, rd, rs⟩ := r
    rw [List.all_cons, Bool.and_eq_true] at h
    obtain ⟨e1, f1⟩ := flV_ok rd h.1
    obtain ⟨e2, f2⟩ := flVs_ok rs h.2
    exact ⟨by rw [e1, e2]; rfl, by rw [List.all_cons, f1, f2]; rfl⟩
end
def inT (x y : D) : Option Bool := match y with
  | .tup ds => if flatD x = true ∧ ds.all flatD = true then some (inV (flV x) (ds.map flV)) else none
  | _ => none
def inD2 (x y : D) (st : Store) : R D := match inT x y with
  | some b => .ok (.bl b) st
  | none => inD x y st
def ninD2 (x y : D) (st : Store) : R D := match inT x y with
  | some b => .ok (.bl (!b)) st
  | none => ninD x y st
section
variable {G : GX} {μ : List Addr} {H : Hp} {st : Store}
theorem inT_ok {x y : D} {v u : V} {b : Bool} (rx : RelD G μ H x v) (ry : RelD G μ H y u) (e : inT x y = some b) :
    ∃ p xs, u = .ref p ∧ (SqL G.K H p xs ∨ SqT G.K H p xs) ∧ flatV v = true ∧ xs.all flatV = true ∧ inV v xs = b := by
  unfold inT at e
  split at e
  · rename_i ds
    split at e
    · rename_i h
      cases e
      obtain ⟨a, vs, rfl, q, rs⟩ := ry
      obtain ⟨e1, f1⟩ := flV_ok rx h.1
      obtain ⟨e2, f2⟩ := flVs_ok rs h.2
      exact ⟨a, vs, rfl, .inr (.of q), f1, f2, by rw [e1, e2]⟩
    · cases e
  · cases e
theorem in2A : OpA G inD2 (fun x y H Q => rIn G.K false x y H Q ∨ rInD G.K x y H Q) := by
  intro W σ μ H st x y v u Q hs rx ry p
  unfold inD2 at p
  split at p
  · rename_i b e
    obtain ⟨a, xs, h1, h2, h3, h4, h5⟩ := inT_ok rx ry e
    exact .inl ⟨a, xs, h1, h2, h3, h4, by rw [if_neg (by decide), h5]; exact p μ H _ .refl hs rfl⟩
  · exact .inr (inA W σ μ H st x y v u Q hs rx ry p)
theorem nin2A : OpA G ninD2 (fun x y H Q => rIn G.K true x y H Q ∨ rNotInD G.K x y H Q) := by
  intro W σ μ H st x y v u Q hs rx ry p
  unfold ninD2 at p
  split at p
  · rename_i b e
    obtain ⟨a, xs, h1, h2, h3, h4, h5⟩ := inT_ok rx ry e
    exact .inl ⟨a, xs, h1, h2, h3, h4, by rw [if_pos rfl, h5]; exact p μ H _ .refl hs rfl⟩
  · exact .inr (ninA W σ μ H st x y v u Q hs rx ry p)
end
section
variable {X : Cx} {W : WX} {a b : Expr} {fa fb : EF} {pos : Pos} {lv : Nat}
theorem ae_in2 (cx : Ctx X W lv) (ha : AE X W a fa) (hb : AE X W b fb) (hm : behindInMarks .In b = false := by with_unfolding_all rfl) : AE X W (.Compare a [.In] [b] pos) (e2 inD2 fa fb) := ae_cmp (OpR_or op_in_seq (op_inD (Room.units65 cx.room))) in2A ha hb hm
theorem ae_nin2 (cx : Ctx X W lv) (ha : AE X W a fa) (hb : AE X W b fb) (hm : behindInMarks .NotIn b = false := by with_unfolding_all rfl) : AE X W (.Compare a [.NotIn] [b] pos) (e2 ninD2 fa fb) := ae_cmp (OpR_or op_notIn_seq (op_notInD (Room.units65 cx.room))) nin2A ha hb hm
theorem at_in2 (cx : Ctx X W lv) (ha : AE X W a fa) (hb : AE X W b fb) (hm : behindInMarks .In b = false := by with_unfolding_all rfl) : AT X W (.Compare a [.In] [b] pos) (bB (e2 inD2 fa fb)) := at_cmp (OpR_or op_in_seq (op_inD (Room.units65 cx.room))) in2A ha hb hm
theorem at_nin2 (cx : Ctx X W lv) (ha : AE X W a fa) (hb : AE X W b fb) (hm : behindInMarks .NotIn b = false := by with_unfolding_all rfl) : AT X W (.Compare a [.NotIn] [b] pos) (bB (e2 ninD2 fa fb)) := at_cmp (OpR_or op_notIn_seq (op_notInD (Room.units65 cx.room))) nin2A ha hb hm
/-! ## is of flags -/
def isBD (x y : D) (st : Store) : R D := match x, y with
  | .bl i, .bl j => .ok (.bl (decide (i = j))) st
  | _, _ => .bad
def nisBD (x y : D) (st : Store) : R D := match x, y with
  | .bl i, .bl j => .ok (.bl (!decide (i = j))) st
  | _, _ => .bad
theorem isBA {G : GX} : OpA G isBD rIsB := by
  intro W σ μ H st x y v u Q hs rx ry p
  unfold isBD at p
  split at p
  · cases rx; cases ry; exact ⟨_, _, rfl, rfl, p μ H _ .refl hs rfl⟩
  · exact p.elim
theorem nisBA {G : GX} : OpA G nisBD rNotB := by
  intro W σ μ H st x y v u Q hs rx ry p
  unfold nisBD at p
  split at p
  · cases rx; cases ry; exact ⟨_, _, rfl, rfl, p μ H _ .refl hs rfl⟩
  · exact p.elim
theorem ae_isB (ha : AE X W a fa) (hb : AE X W b fb) (hm : behindInMarks .Is b = false := by with_unfolding_all rfl) : AE X W (.Compare a [.Is] [b] pos) (e2 isBD fa fb) := ae_cmp op_isBl isBA ha hb hm
theorem ae_nisB (ha : AE X W a fa) (hb : AE X W b fb) (hm : behindInMarks .IsNot b = false := by with_unfolding_all rfl) : AE X W (.Compare a [.IsNot] [b] pos) (e2 nisBD fa fb) := ae_cmp op_notBl nisBA ha hb hm
theorem at_isB (ha : AE X W a fa) (hb : AE X W b fb) (hm : behindInMarks .Is b = false := by with_unfolding_all rfl) : AT X W (.Compare a [.Is] [b] pos) (bB (e2 isBD fa fb)) := at_cmp op_isBl isBA ha hb hm
theorem at_nisB (ha : AE X W a fa) (hb : AE X W b fb) (hm : behindInMarks .IsNot b = false := by with_unfolding_all rfl) : AT X W (.Compare a [.IsNot] [b] pos) (bB (e2 nisBD fa fb)) := at_cmp op_notBl nisBA ha hb hm
end
/-! ## a, b = x, y -/
def sPar (i j : Nat) (fl : LF) : SF := fun env st => sOf (fl env st) env fun ds st1 => match ds with
  | [x, y] => .next ((env.set i (some x)).set j (some y)) st1
  | _ => .bad
section
variable {X : Cx} {W : WX} {a b e : Expr} {fl : LF} {fo fi fo' fi' fe : EF} {pos : Pos} {lv : Nat}
theorem as_par (c : Ctx X W lv) (i j : Nat) {x y : Str} {px py pt : Pos} {kt k2 pt2} (ha : AA X W [a, b] fl) (hi : X.N[i]? = some x := by rfl) (hj : X.N[j]? = some y := by rfl) (hij : i ≠ j := by decide)
    (hx : X.env.scope.names.lookup x = some .local := by rfl) (hy : X.env.scope.names.lookup y = some .local := by rfl)
    (hw : swappedStores [.Tuple [.Name x px, .Name y py] kt pt] (.Tuple [a, b] k2 pt2) X.env = pure (some [x, y]) := by rfl)
    (hs : swapsWithSole [.Tuple [.Name x px, .Name y py] kt pt] (.Tuple [a, b] k2 pt2) pos.line X.env = pure false := by rfl) :
    AS X W (.Assign [.Tuple [.Name x px, .Name y py] kt pt] (.Tuple [a, b] k2 pt2) pos) (sPar i j fl) :=
  (ps_par c.calm c.nd hi hj hij hx hy ha hw hs).weak fun Dn σ H ⟨μ, env, st, hs, er, p⟩ => ⟨μ, env, st, hs, er, PostS.bind p hs er fun ds st1 μ1 H1 vs _ x1 hs1 r1 p1 => by
    split at p1
    · obtain ⟨v, rest, rfl, rd, v2, rest2, rfl, rd2, e0⟩ := r1
      cases e0
      exact ⟨v, v2, rfl, p1 μ1 H1 _ .refl hs1 (((er.ext hs x1).set rd i).set rd2 j)⟩
    · exact p1.elim⟩
/-! ## o[i], p[j] = e -/
def sSub2 (fo fi fo' fi' fe : EF) : SF := fun env st => sOf (fe env st) env fun d st1 => match d with
  | .tup [y, y'] => sThen (sSub fo fi (eC y) env st1) (sSub fo' fi' (eC y'))
  | _ => .bad
theorem sThen_sOf {α : Type} (r : R α) (env : AEnv) (k : α → Store → RS) (g : SF) : sThen (sOf r env k) g = sOf r env fun x st => sThen (k x st) g := by cases r <;> rfl
theorem sThen_nil (r : RS) : sThen r sNil = r := by cases r <;> rfl
theorem gsub_then {G : GX} {μ : List Addr} {H : Hp} {st : Store} {env : AEnv} {σ : St} {g : SF} {y : D} {v : V} {Dn : Ends} {Q : St → Hp → Prop} (hs : HS G μ H st) (er : EnvR G μ H env σ) (ry : RelD G μ H y v)
    (p : PostS G W μ H (sThen (sSub fo fi (eC y) env st) g) Dn)
    (k : ∀ μ' H' st', Ext μ H μ' H' → HS G μ' H' st' → EnvR G μ' H' env σ → PostS G W μ' H' (g env st') Dn → Q σ H') :
    gSub (tG G W (relD G) fo) (tG G W (relD G) fi) (rSetL) v σ H Q := by
  have e0 : sSub fo fi (eC y) env st = sOf (fo env st) env fun x st2 => sOf (fi env st2) env fun i st3 => match x, i with
    | .ref n, .int k => (match st3[n]? with
      | some (.lst xs) => (match ixN xs.length k with
        | some j => .next env (st3.set n (.lst (xs.set j y)))
        | none => .bad)
      | _ => .bad)
    | _, _ => .bad := rfl
  rw [e0, sThen_sOf] at p
  refine ⟨μ, env, st, hs, er, PostS.bind p hs er fun x st2 μ2 H2 ov _ x2 hs2 r2 p2 => ?_⟩
  rw [sThen_sOf] at p2
  refine ⟨μ2, env, st2, hs2, er.ext hs x2, PostS.bind p2 hs2 (er.ext hs x2) fun i st3 μ3 H3 iv _ x3 hs3 r3 p3 => ?_⟩
  have r2 := RelD.ext hs2 x3 _ _ r2
  have r1 := RelD.ext hs (x2.trans x3) _ _ ry
  have er3 := (er.ext hs x2).ext hs2 x3
  split at p3
  · cases r3
    obtain ⟨a, e1, rfl⟩ := r2
    split at p3
    · rename_i xs e2
      obtain ⟨_, h1, us, rfl, ru⟩ := hs3.obj _ a _ e1 e2
      split at p3
      · rename_i j ej
        have hp := hs3.put (ao := .lst (xs.set j y)) e1 ⟨_, rfl, ru.set j r1⟩
        exact ⟨a, us, _, j, rfl, rfl, h1, by rw [ru.length]; exact ej, k μ3 _ _ ((x2.trans x3).trans (.put e1)) hp (er3.wr (hs3.noTupAt e1)) (PostS.later p3 (.put e1))⟩
      · exact p3.elim
    · exact p3.elim
  · exact p3.elim
theorem as_sub2 {o i o' i' : Expr} {apos apos' pt : Pos} {kt : Nat} (c : Ctx X W lv) (ho : AE X W o fo) (hi : AE X W i fi) (ho' : AE X W o' fo') (hi' : AE X W i' fi') (he : AE X W e fe)
    (ha : ∀ v, assign (.Subscript o i apos) X.env v = (do
      let ov ← holding [v] (eval o X.env)
      let iv ← holding [v, ov] (eval i X.env)
      standAt apos
      holding [v, ov, iv] (setItem ov iv v)
      release [v, ov, iv] []) := by intro _; rfl)
    (ha' : ∀ v, assign (.Subscript o' i' apos') X.env v = (do
      let ov ← holding [v] (eval o' X.env)
      let iv ← holding [v, ov] (eval i' X.env)
      standAt apos'
      holding [v, ov, iv] (setItem ov iv v)
      release [v, ov, iv] []) := by intro _; rfl)
    (n1 : (assignEach [.Subscript o i apos, .Subscript o' i' apos'] X.env).map (·.2) = assign (.Subscript o i apos) X.env :: (assignEach [.Subscript o' i' apos'] X.env).map (·.2) := by rfl)
    (n2 : (assignEach [.Subscript o' i' apos'] X.env).map (·.2) = assign (.Subscript o' i' apos') X.env :: (assignEach [] X.env).map (·.2) := by rfl)
    (hn : (assignEach [.Subscript o i apos, .Subscript o' i' apos'] X.env).length = 2 := by rfl) (hst : (assignEach [.Subscript o i apos, .Subscript o' i' apos'] X.env).findIdx? (·.1) = none := by rfl)
    (hs : swapsWithSole [.Tuple [.Subscript o i apos, .Subscript o' i' apos'] kt pt] e pos.line X.env = pure false := by rfl) (hw : swappedStores [.Tuple [.Subscript o i apos, .Subscript o' i' apos'] kt pt] e X.env = pure none := by rfl)
    (h1 : (assignEach [.Tuple [.Subscript o i apos, .Subscript o' i' apos'] kt pt] X.env).map (·.2) = [assign (.Tuple [.Subscript o i apos, .Subscript o' i' apos'] kt pt) X.env] := by rfl) :
    AS X W (.Assign [.Tuple [.Subscript o i apos, .Subscript o' i' apos'] kt pt] e pos) (sSub2 fo fi fo' fi' fe) :=
  (ps_asg he (pg_tup (n := 2) c.calm (pgs_cons (pg_sub ho hi set_list ha) (pgs_cons (pg_sub ho' hi' set_list ha') pgs_nil n2) n1) hn hst) hs hw h1).weak fun Dn σ H ⟨μ, env, st, hs, er, p⟩ =>
    ⟨μ, env, st, hs, er, PostS.bind p hs er fun d st1 μ1 H1 v _ x1 hs1 r1 p1 => by
      split at p1
      · obtain ⟨a, vs, rfl, q, v1, rest, rfl, rd1, v2, rest2, rfl, rd2, e0⟩ := r1
        cases e0
        refine ⟨a, _, rfl, .of q, rfl, v1, _, rfl, gsub_then hs1 (er.ext hs x1) rd1 p1 fun μ2 H2 st2 x2 hs2 er2 p2 => ⟨v2, _, rfl, ?_⟩⟩
        rw [← sThen_nil (sSub _ _ _ _ _)] at p2
        exact gsub_then hs2 er2 (RelD.ext hs1 x2 _ _ rd2) p2 fun μ3 H3 st3 x3 hs3 er3 p3 => ⟨rfl, p3 μ3 H3 σ .refl hs3 er3⟩
      · exact p1.elim⟩
/-! ## a list times an int -/
def lRep (fl : LF) (fe : EF) : LF := fun env st => (fl env st).bind fun xs st1 => (fe env st1).bind fun d st2 => match d with
  | .int k => if -1000000 ≤ k ∧ k ≤ 1000000 ∧ xs.length * k.toNat ≤ sizeLine then .ok (List.replicate k.toNat xs).flatten st2 else .bad
  | _ => .bad
theorem al_rep (ha : AL X W a fl) (hb : AE X W b fe) : AL X W (.BinOp a .Mult b pos) (lRep fl fe) := (pe_op op_rep ha hb).weak fun σ H Q ⟨μ, env, st, hs, er, p⟩ =>
  ⟨μ, env, st, hs, er, Post.bind0 p fun xs st1 μ1 H1 v _ x1 hs1 r1 p1 => ⟨μ1, env, st1, hs1, er.ext hs x1, by
    cases q : fe env st1 with
    | bad => rw [q] at p1; exact p1
    | exc x s => rw [q] at p1; exact (Post.later (rel := relL (gx X)) (r := .exc x s) (Q := Q) p1 x1)
    | ok d st2 =>
      rw [q, R.bind_ok] at p1
      intro μ2 H2 u x2 hs2 r2
      obtain ⟨a, vs, rfl, h0, hn, ha, rv⟩ := r1
      split at p1
      · rename_i k
        cases r2
        split at p1
        · rename_i hz
          have h63 : (2 : Int) ^ 63 = 9223372036854775808 := by decide
          refine ⟨a, k, vs, rfl, rfl, x2.lst hn ha, by rw [h63]; omega, by rw [h63]; omega, by rw [rv.length]; exact hz.2.2, fun l hl => p1 μ2 _ _ ((x1.trans x2).trans (.new hl)) (hs2.new hl)
            ⟨l, _, rfl, Ext.back (x1.trans x2) .refl (hs2.fresh hl) hl, hs2.fresh hl, upd_same, RelDs.ext hs2 (.new hl) _ _ ((RelDs.ext hs1 x2 _ _ rv).rep _)⟩⟩
        · exact p1.elim
      · exact p1.elim⟩⟩
/-! ## list(range(i, j)) -/
noncomputable def lRng2 (fe fe' : EF) : LF := fun env st => (fe env st).bind fun d st1 => (fe' env st1).bind fun d' st2 => match d, d' with
  | .int i, .int j => hid (if rgOk i j then .ok (rangeD i (j - i).toNat) st2 else .bad)
  | _, _ => .bad
theorem al_listRng2 {a b : Expr} {fe fe' : EF} {p p2 pos2 : Pos} (cx : Ctx X W lv) (hm : X.mg "list" = none) (hm2 : X.mg "range" = none) (ha : AE X W a fe) (hb : AE X W b fe') (hg : Gl X "list" := by rfl) (hg2 : Gl X "range" := by rfl) (na : starEach [a, b] X.env = (false, eval a X.env) :: starEach [b] X.env := by rfl) (nb : starEach [b] X.env = (false, eval b X.env) :: starEach [] X.env := by rfl) (hp : (backTo pos2 (starEach [b] X.env)).any (·.1) = false := by rfl)
    (na2 : starEach [.Call (.Name "range" p2) [a, b] [] pos2] X.env = (false, eval (.Call (.Name "range" p2) [a, b] [] pos2) X.env) :: starEach [] X.env := by rfl) :
    AL X W (.Call (.Name "list" p) [.Call (.Name "range" p2) [a, b] [] pos2] [] pos) (lRng2 fe fe') := (pe_listRg cx.calm hg hm (prg_2 hg2 hm2 ha hb na nb hp) na2).weak fun σ H Q ⟨μ, env, st, hs, er, q⟩ =>
    ⟨μ, env, st, hs, er, Post.bind0 q fun d st1 μ1 H1 v _ x1 hs1 r1 p1 => ⟨μ1, env, st1, hs1, er.ext hs x1, by
      cases q : fe' env st1 with
      | bad => rw [q] at p1; exact p1
      | exc x s => rw [q] at p1; exact (Post.later (rel := relL (gx X)) (r := .exc x s) (Q := Q) p1 x1)
      | ok d' st2 =>
        rw [q, R.bind_ok] at p1
        intro μ2 H2 u x2 hs2 r2
        have r1 := RelD.ext hs1 x2 _ _ r1
        split at p1
        · cases r1; cases r2
          simp only [hid_eq] at p1
          split at p1
          · rename_i h
            exact ⟨_, _, rfl, rfl, h, fun l hl => p1 μ2 _ _ ((x1.trans x2).trans (.new hl)) (hs2.new hl) ⟨l, _, rfl, Ext.back (x1.trans x2) .refl (hs2.fresh hl) hl, hs2.fresh hl, upd_same, rgRel _ _⟩⟩
          · exact p1.elim
        · exact p1.elim⟩⟩
/-! ## name op= int -/
def sAug (i : Nat) (g : Int → Int → Int) (ok : Int → Int → Prop) [∀ x y, Decidable (ok x y)] (fe : EF) : SF := fun env st => match env[i]? with
  | some (some (.int x)) => sOf (fe env st) env fun d st1 => match d with
    | .int y => if ok x y then .next (env.set i (some (.int (g x y)))) st1 else .bad
    | _ => .bad
  | _ => .bad
theorem as_augI {op : Operator} {g : Int → Int → Int} {ok : Int → Int → Prop} [∀ x y, Decidable (ok x y)] {ti : TIp} (c : Ctx X W lv) (i : Nat) {x : Str} {pos' : Pos} (he : AE X W e fe) (hp : PIp X op ti) (ht : ∀ x y H Q, ok x y → Q (.int (g x y)) H → ti (.int x) (.int y) H Q)
    (hi : X.N[i]? = some x := by rfl) (hx : Loc X.env.scope x := by first | exact Or.inl rfl | exact Or.inr rfl) (hf : X.fn x = true ∨ X.env.scope.names.lookup x = some .local := by first | exact .inl rfl | exact .inr rfl) :
    AS X W (.AugAssign (.Name x pos') op e pos) (sAug i g ok fe) := (ps_aug c.nd hi hx he hp hf).weak fun Dn σ H ⟨μ, env, st, hs, er, p⟩ => by
  unfold sAug at p
  split at p
  · rename_i z ez
    obtain ⟨v, e1, rd⟩ := er.2 i _ ez
    cases rd
    refine ⟨_, e1, μ, env, st, hs, er, PostS.bind p hs er fun d st1 μ1 H1 u _ x1 hs1 r1 p1 => ?_⟩
    split at p1
    · cases r1
      split at p1
      · rename_i hz
        exact ht _ _ _ _ hz (p1 μ1 H1 _ .refl hs1 ((er.ext hs x1).set (d := .int _) (v := .int _) rfl i))
      · exact p1.elim
    · exact p1.elim
  · exact p.elim
theorem as_augAdd (c : Ctx X W lv) (i : Nat) {x : Str} {pos' : Pos} (he : AE X W e fe) (hi : X.N[i]? = some x := by rfl) (hx : Loc X.env.scope x := by first | exact Or.inl rfl | exact Or.inr rfl) (hf : X.fn x = true ∨ X.env.scope.names.lookup x = some .local := by first | exact .inl rfl | exact .inr rfl) :
    AS X W (.AugAssign (.Name x pos') .Add e pos) (sAug i (· + ·) (fun _ _ => True) fe) := as_augI c i he ip_add (fun x y H Q _ q => ⟨x, y, rfl, rfl, q⟩) hi hx hf
end
end TK

set_option Elab.async false
set_option linter.all false
set_option maxRecDepth 100000
set_option maxHeartbeats 4000000
namespace TK
open PySem PySem.Spec
open PyProof.Rows hiding St
open L2
/-! # sorted of a tuple of ints -/
section
variable {prog : Program} {w : World} {A : Around} {s : Shared} {E : Value → Shared → Prop}
abbrev gathH (h : Heap) (us : List Value) : Heap := (h.push (seqObj "list" #[] 0)).update h.objs.size (Obj.mapSeq (· ++ us.toArray))
theorem gath_size (h : Heap) (us : List Value) : (gathH h us).objs.size = h.objs.size + 1 := by rw [gathH, Heap.size_update, size_push']
theorem gath_tup {t : Addr} {us : List Value} {Q : List Value → Shared → Prop} (ht : IsTup s.heap t us.toArray) (hz : us.length ≤ sizeLine) (h : Q us { s with heap := gathH s.heap us }) : wpAny (model prog w) A (collect (.ref t)) Q E s := by
  obtain ⟨ob, hob, hcl, m, hda⟩ := ht
  have hnew : (s.heap.push (seqObj "list" #[] 0)).get? s.heap.objs.size = some (seqObj "list" #[] 0) := Heap.get?_push_size _ rfl
  have hold : (s.heap.push (seqObj "list" #[] 0)).get? t = some ob := Heap.get?_push_of_some _ hob
  have htt : (Value.type "tuple" == Value.type "tuple") = true := by rfl
  unfold collect
  refine wpAny_bind (wpAny_runValue (codeAny_builtin entry_proto_collect' (?_ : wpAny _ _ (do again (.builtin "list.__iadd__" ⟨[← newList [], .ref t], []⟩)) _ _ s)))
  refine wpAny_bind (wpAny_newList (wpAny_pure ⟨Code.quiet_builtin _ (by decide +kernel), codeAny_builtin entry_list_iadd' (?_ : wpAny _ _ (Builtin.List.listExtendWith (.ref s.heap.objs.size) (.ref t) (.ref s.heap.objs.size)) _ _ { s with heap := s.heap.push (seqObj "list" #[] 0) })⟩))
  unfold Builtin.List.listExtendWith
  refine wpAny_bind (wpAny_typeOf (T := "tuple") ⟨ob, hold, hcl⟩ ?_)
  rw [if_pos (show _ = true by rw [htt]; simp)]
  refine wpAny_bind (listItems_at hold hda (wpAny_bind (listItems_at (xs := #[]) (n := 0) hnew rfl ?_)))
  rw [if_neg (show ¬ _ from by simp)]
  have hfit : (#[] ++ us.toArray).size ≤ sizeLine + 1 := by simp only [Array.size_append, List.size_toArray, List.length_nil]; omega
  refine wpAny_bind (listUpdate_at (xs := #[]) (n := 0) hnew rfl (wpAny_pure ?_) (Nat.zero_le _) hfit)
  have fin : wpAny (model prog w) A (do
      let o ← load s.heap.objs.size
      match o.data with
      | .seq xs _ => pure xs.toList
      | _ => unsupported "internal:collect") Q E { s with heap := gathH s.heap us } := by
    refine wpAny_bind (wpAny_load (get?_update_seq hnew _) (?_ : wpAny _ _ (pure ((#[] : Array Value) ++ us.toArray).toList) Q E _))
    rw [show ((#[] : Array Value) ++ us.toArray).toList = us from by simp]
    exact wpAny_pure h
  exact fin
theorem sorted_tup {t : Addr} {us : List Value} {lt : Value → Value → Bool} {Q : Value → Shared → Prop} (O : SrtO.Swo lt) (ht : IsTup s.heap t us.toArray) (hz : us.length ≤ sizeLine)
    (hS : 2 ≤ us.length → ∀ (g : Heap) (c : Addr), g.get? c = some (seqObj "list" us.toArray 0) → (∀ b o, s.heap.get? b = some o → b ≠ c ∧ g.get? b = some o) → SrtO.SortableO prog w A.in1.in1 { s with heap := g } c us lt)
    (h : ∀ out : List Value, SrtO.Srtd lt out → SrtO.Stb lt out us → Q (.ref (s.heap.objs.size + 1)) { s with heap := sortedAll s.heap us out.toArray }) : wpAny (model prog w) A (call (.builtin "sorted") [.ref t]) Q E s := by
  have hat : ((gathH s.heap us).push (seqObj "list" us.toArray 0)).get? (s.heap.objs.size + 1) = some (seqObj "list" us.toArray 0) := by
    rw [← gath_size s.heap us]; exact Heap.get?_push_size _ rfl
  have hkp : ∀ b o, s.heap.get? b = some o → b ≠ s.heap.objs.size + 1 ∧ ((gathH s.heap us).push (seqObj "list" us.toArray 0)).get? b = some o := fun b o e => by
    have hb : b < s.heap.objs.size := Heap.lt_size e
    exact ⟨Nat.ne_of_lt (Nat.lt_succ_of_lt hb), Heap.get?_push_of_some _ ((Heap.get?_update_ne _ _ _ _ (Nat.ne_of_lt hb)).trans (Heap.get?_push_of_some _ e))⟩
  refine Calls.call_function_entry kind_sorted plain_sorted entry_sorted (args_sorted1 _) ?_
  unfold Builtin.«sorted»
  refine wpAny_bind (m := checkCount "sorted" 1 1 _) (wpAny_pure (wpAny_bind (gath_tup ht hz (wpAny_bind (wpAny_newList (?_ : wpAny _ _ _ _ _ { s with heap := (gathH s.heap us).push (seqObj "list" us.toArray 0) }) hz)))))
  rw [gath_size]
  exact wpAny_bind (wpAny_holding (wpAny_call_entry slot_list_sort ⟨_, hat, rfl⟩ entry_list_sort (SrtO.list_sort_ord O hat hz (fun h2 => hS h2 _ _ hat hkp) fun out h1 h2 => ⟨_, rfl, wpAny_pure ⟨_, rfl, h out h1 h2⟩⟩) (args_list_sort _)))
end
def rSortedTp (K : PySem.W.Frag) : List V → Hp → VK → Prop := fun vs H Q => ∃ (a : Addr) (ns : List Int), vs = [V.ref a] ∧ (SqL K H a (ns.map V.int) ∨ SqT K H a (ns.map V.int)) ∧
  ∀ (ns' : List Int) (p : Addr), ns'.Perm ns → ns'.Pairwise (· ≤ ·) → H p = none → Q (.ref p) (upd H p (.lst (ns'.map V.int)))
theorem cr_sortedTp {X : Cx} : CallR X (.builtin "sorted") (rSortedTp X.K) := by
  intro pins s σ H vs us Q I r h
  obtain ⟨a, ns, e, hs, q⟩ := h
  rcases hs with hs | hs
  · exact cr_sortedI pins s σ H vs us Q I r ⟨a, ns, e, hs, q⟩
  · subst e
    obtain ⟨its, rv, ht, hz⟩ := I.tuple hs
    rw [Vals.ref1 r]
    have hi := rv.ints
    refine sorted_tup SrtO.swo_int ht (by rw [← rv.length]; exact hz) (fun h2 _ _ _ _ => SrtO.ints_sortable hi h2) fun out h1 h2 => ?_
    obtain ⟨k1, k2, k3⟩ := SrtO.ints_out hi h1 h2
    obtain ⟨ep, he⟩ := PyProof.Rows.sortedAll_at s.heap its out.toArray
    have hl : ((out.map SrtO.iv).map V.int).length ≤ sizeLine := by rw [List.length_map, k2.length_eq]; simpa using hz
    exact ⟨.ref _, upd H (s.heap.objs.size + 1) (.lst ((out.map SrtO.iv).map V.int)), I.laid (t' := s.toks) (fun _ _ => PyProof.Rows.sortedAll_old) (Nat.le_succ _) ⟨hl, out, ep, vals_of_ints k1, he⟩, rfl, q _ _ k2 k3 (I.hok.fresh (Nat.le_succ _))⟩
section
variable {X : Cx} {W : WX} {e : Expr} {fl : LF} {pos : Pos}
theorem sortTpQ {G : GX} : CalQ G (relQ G) (relL G) sortG (rSortedTp G.K) := by
  intro W σ μ0 H0 μ H st ds v Q x hs r p
  obtain ⟨a, vs, rfl, q, rs⟩ := r
  unfold sortG at p
  split at p
  · rename_i ns e
    have hv := intsOf_ok rs e
    refine ⟨a, ns, rfl, by rw [← hv]; exact q.imp id .of, fun ns' l pm so hl => ?_⟩
    have : ns' = sortI ns := sorted_eq (pm.trans (sortI_perm ns).symm) so (sortI_sorted ns)
    subst this
    exact p μ _ _ (x.trans (.new hl)) (hs.new hl) ⟨l, _, rfl, Ext.back x .refl (hs.fresh hl) hl, hs.fresh hl, upd_same, intsRel _⟩
  · exact p.elim
theorem al_sortedT {p : Pos} (hm : X.mg "sorted" = none) (ha : AQ X W e fl) (hg : Gl X "sorted" := by rfl) (he : starEach [e] X.env = (false, eval e X.env) :: starEach [] X.env := by rfl) : AL X W (.Call (.Name "sorted" p) [e] [] pos) (lQ sortG fl) :=
  p_callB cr_sortedTp sortTpQ hm (by decide +kernel) ha hg (he := he)
end
end TK

set_option Elab.async false
set_option linter.all false
set_option maxRecDepth 100000
set_option maxHeartbeats 4000000
namespace TK
open PySem PySem.Spec
open PyProof.Rows hiding St
open L2
/-! # xs[-2::-1] of a list -/
theorem pick_rev2 (its : Array Value) (hn : 1 ≤ its.size) : slicePick its (some (-2)) none (some (-1)) = (its.toList.take (its.size - 1)).reverse.toArray := by
  obtain ⟨m, hm⟩ : ∃ m, its.size = m + 1 := ⟨its.size - 1, by omega⟩
  have hb : sliceBounds (some (-2)) none (some (-1)) (m + 1) = ((m : Int) - 1, -1, -1) := by
    show (max (-1) (min ((-2 : Int) + ((m + 1 : Nat) : Int)) (((m + 1 : Nat) : Int) - 1)), _, _) = _
    have : max (-1 : Int) (min ((-2 : Int) + ((m + 1 : Nat) : Int)) (((m + 1 : Nat) : Int) - 1)) = (m : Int) - 1 := by omega
    rw [this]
    rfl
  have hp := pick_run its 0 m
  have e0 : (List.range m).map (0 + ·) = List.range m := by
    rw [show ((0 + ·) : Nat → Nat) = id from funext fun j => Nat.zero_add j, List.map_id]
  rw [e0, List.drop_zero] at hp
  unfold slicePick
  rw [hm, hb]
  simp only
  rw [PySem.W.krv_sliceRange, PySem.W.krv_range, List.filterMap_reverse, hp]
  rfl
def tRev2 (K : PySem.W.Frag) (te : TE) : TE := fun σ H Q => te σ H fun x H1 => ∃ a xs, x = .ref a ∧ SqL K H1 a xs ∧ 1 ≤ xs.length ∧ ∀ p, H1 p = none → Q (.ref p) (upd H1 p (.lst (xs.take (xs.length - 1)).reverse))
theorem pe_rev2 {X : Cx} {e : Expr} {te : TE} {k k2 : Nat} {p1 p2 p3 p4 p5 pos : Pos} (he : PE X e te) :
    PE X (.Subscript e (.Slice (some (.UnaryOp .USub (.Constant (.int 2) k p1) p2)) none (some (.UnaryOp .USub (.Constant (.int 1) k2 p3) p4)) p5) pos) (tRev2 X.K te) := by
  refine ⟨fun pins s σ H Q I h => ?_⟩
  have cut : ∀ (i : Int) (k : Nat) (p p' : Pos), PO X (some (.UnaryOp .USub (.Constant (.int i) k p) p')) (tPart (tUn (rU fun i => .int (-i)) (tC (.int i)))) := fun i k p p' => po_some (pe_un un_neg pe_int)
  refine Subscript_ (thn (he.run pins s σ H _ I h) fun v s1 ⟨x, H1, J1, r1, a, xs, ex, hx, hn, q⟩ => ?_)
  subst ex
  cases r1
  refine wpAny_Slice (thn ((cut 2 k p1 p2).run pins s1 σ H1 (fun o G => o = some (-2) ∧ G = H1) J1 ⟨2, rfl, -2, rfl, rfl, rfl⟩) fun vl s2 ⟨l, H2, J2, pl, el, e2⟩ => ?_)
  subst el e2
  refine thn (po_none.run pins s2 σ H2 (fun o G => o = none ∧ G = H2) J2 ⟨rfl, rfl⟩) fun vu s3 ⟨u, H3, J3, pu, eu, e3⟩ => ?_
  subst eu e3
  refine thn ((cut 1 k2 p3 p4).run pins s3 σ H3 (fun o G => o = some (-1) ∧ G = H3) J3 ⟨1, rfl, -1, rfl, rfl, rfl⟩) fun vs s4 ⟨o, H4, J4, ps, eo, e4⟩ => ?_
  subst eo e4
  have J5 : Inv X pins σ H4 { s4 with heap := s4.heap.push { cls := .type "slice", data := .fields #[vl, vu, vs] } } := J4.kept (t' := s4.toks) fun b ob w => Heap.get?_push_of_some _ w
  obtain ⟨its, rv, hl, hz⟩ := J5.list hx
  have hlen := rv.length
  refine (?_ : wpAny (model X.prog X.w) X.A (subscriptTail e (.Slice (some (.UnaryOp .USub (.Constant (.int 2) k p1) p2)) none (some (.UnaryOp .USub (.Constant (.int 1) k2 p3) p4)) p5) (.ref a) (.ref s4.heap.objs.size)) (EP X pins σ Q) X.xe { s4 with heap := s4.heap.push { cls := .type "slice", data := .fields #[vl, vu, vs] } })
  refine tail_any (ops := [.ref a, .ref s4.heap.objs.size]) hl.isList.typeIs (PySem.slot_list_getitem.lookup) (wpAny_getItem_list_slice hl.isList (Heap.IsSliceOf.new _ vl vu vs) pl pu ps (by decide) ?_ (by rw [List.size_toArray]; omega)) (by with_unfolding_all rfl)
  have ek : its.toArray.toList.take (its.toArray.size - 1) = its.take (xs.length - 1) := by rw [hlen]; simp
  rw [pick_rev2 _ (by rw [List.size_toArray]; omega), ek]
  exact ⟨.ref _, _, J5.laid (t' := s4.toks) (o := .lst (xs.take (xs.length - 1)).reverse) (fun b ob w => Heap.get?_push_of_some _ w) (Nat.le_refl _) ⟨by rw [List.length_reverse, List.length_take]; omega, _, 0, (rv.take _).reverse, Heap.get?_push_size _ rfl⟩, rfl, q _ (J5.hok.fresh (Nat.le_refl _))⟩
def lRev2 (fe : EF) : LF := fun env st => (fe env st).bind fun x st1 => match x with
  | .ref n => (match seqOf (.ref n) st1 with
    | some ds => if 1 ≤ ds.length then .ok (ds.take (ds.length - 1)).reverse st1 else .bad
    | none => .bad)
  | _ => .bad
theorem RelDs.reverse {G : GX} {μ : List Addr} {H : Hp} : ∀ {ds : List D} {vs : List V}, RelDs G μ H ds vs → RelDs G μ H ds.reverse vs.reverse
  | [], _, r => by cases r; rfl
  | d :: ds, _, r => by
    obtain ⟨v, rest, rfl, rd, rs⟩ := r
    rw [List.reverse_cons, List.reverse_cons]
    exact (RelDs.reverse rs).append ⟨v, [], rfl, rd, rfl⟩
theorem al_rev2 {X : Cx} {W : WX} {e : Expr} {fe : EF} {k k2 : Nat} {p1 p2 p3 p4 p5 pos : Pos} (he : AE X W e fe) :
    AL X W (.Subscript e (.Slice (some (.UnaryOp .USub (.Constant (.int 2) k p1) p2)) none (some (.UnaryOp .USub (.Constant (.int 1) k2 p3) p4)) p5) pos) (lRev2 fe) := (pe_rev2 he).weak fun σ H Q ⟨μ, env, st, hs, er, p⟩ =>
  ⟨μ, env, st, hs, er, Post.bind0 p fun x st1 μ1 H1 v _ x1 hs1 r1 p1 => by
    split at p1
    · rename_i n
      obtain ⟨a, e1, rfl⟩ := r1
      split at p1
      · rename_i ds e2
        obtain ⟨vs, hq, rs⟩ := hs1.seq e1 e2
        split at p1
        · rename_i hn
          refine ⟨a, vs, rfl, hq, by rw [rs.length]; exact hn, fun p hp => p1 μ1 _ _ (x1.trans (.new hp)) (hs1.new hp) ⟨p, _, rfl, Ext.back x1 .refl (hs1.fresh hp) hp, hs1.fresh hp, upd_same, RelDs.ext hs1 (.new hp) _ _ ?_⟩⟩
          have := (rs.take (ds.length - 1)).reverse
          rw [rs.length]
          exact this
        · exact p1.elim
      · exact p1.elim
    · exact p1.elim⟩
@[simp] theorem lRev2_ap0 (fe : EF) (env : AEnv) (st : Store) : lRev2 fe env st = ((fe env st).bind fun x st1 => match x with
  | .ref n => (match seqOf (.ref n) st1 with
    | some ds => if 1 ≤ ds.length then .ok (ds.take (ds.length - 1)).reverse st1 else .bad
    | none => .bad)
  | _ => .bad) := (Eq.refl _).trans rfl
end TK

set_option Elab.async false
set_option linter.all false
set_option maxRecDepth 100000
set_option maxHeartbeats 4000000
namespace TK
open PySem PySem.Spec
open PyProof.Rows hiding St
open L2
/-! # instances: isinstance of the own class, == by an own method -/
/-- two instances of the class at C, compared by its own def -/
def rOwn (C : Addr) (sp : Sp) : R2 := fun x y H Q => ∃ a b dx dy fs gs, x = .ref a ∧ y = .ref b ∧ H a = some (.ins C dx fs) ∧ H b = some (.ins C dy gs) ∧ sp [.ref a, .ref b] H (fun v G => ∃ t : Bool, v = .bl t ∧ Q v G) (fun _ _ _ => False)
theorem op_own {X : Cx} {CX : CXT} {C f : Addr} {fd : FuncData} {ps : List Str} {n : Nat} {sp : Sp} (F : FnOk X.prog X.w X.K X.mg X.base CX n f fd ps sp) (hr : Room n X.A)
    (he : PySem.W.findIn X.K (.ref C) "__eq__" = some (some (.ref f))) (hi : PySem.W.isFn X.K (.ref f) = true) (hb : Binds X.K fd ps []) (hx : Passes CX X (fun _ _ _ => False)) : OpR X (compareOp .Eq) (rOwn C sp) := by
  intro pins s σ H x y v u Q I rx ry ⟨a, b, dx, dy, fs, gs, ex, ey, ha, hb2, hsp⟩
  subst ex; subst ey
  cases rx; cases ry
  obtain ⟨_, K1, _⟩ := ins_get I.hok ha
  obtain ⟨_, K2, _⟩ := ins_get I.hok hb2
  obtain ⟨_, K1, _⟩ := K1.look
  obtain ⟨_, K2, _⟩ := K2.look
  obtain ⟨_, fr⟩ := I.fr
  refine (?_ : wpAny (model X.prog X.w) X.A (richCompare .Eq (.ref a) (.ref b)) (EP X pins σ Q) X.xe s)
  refine PySem.W.cmp_K (tb := .ref C) (op := .Eq) hr.units0 fr I.ok.mod.kin K1 K2.type (by simp [PySem.W.notFirst]) he hi ?_
  have lens : 2 = ps.length := F.len _ _ _ _ hsp
  have rels : Vals [V.ref a, V.ref b] [Value.ref a, Value.ref b] := .cons rfl (.cons rfl .nil)
  have bnd := hb s [.ref a, .ref b] I.kIn (by simpa using lens)
  refine wpAny_call (codeAny_mono (F.run X.A X.stack s H ⟨[.ref a, .ref b], []⟩ _ _ _ _ hr I.env0 (by simpa using bnd) rels hsp) fun r t hq => ?_)
  match r, hq with
  | .error e, hq => exact hx pins σ H s e t I hq
  | .ok (.ret w), hq =>
    obtain ⟨z, G, J, rz, k, ez, q⟩ := I.after hq
    subst ez
    cases rz
    exact ⟨.bl k, G, J, rfl, q⟩
  | .ok .next, hq => exact False.elim hq
  | .ok .brk, hq => exact False.elim hq
  | .ok .cont, hq => exact False.elim hq
/-- the own == of a class of the text -/
structure EqA (G : GX) (P : Program) (w : World) (base : Heap) (k : Nat) (x : Str) (m : List D → Store → R D) : Prop where
  ex : ∃ C f fd ps, FnOk P w G.K G.mg base (L2.CX P w) k f fd ps (spA G m 2) ∧ G.mg x = some (.ref C) ∧ PySem.W.findIn G.K (.ref C) "__eq__" = some (some (.ref f)) ∧ PySem.W.isFn G.K (.ref f) = true ∧ Binds G.K fd ps []
def blR (r : R D) : R D := match r with
  | .ok (.bl b) st => .ok (.bl b) st
  | _ => .bad
noncomputable def eqI (c : Str) (m : List D → Store → R D) (x y : D) (st : Store) : R D := match x, y with
  | .ref n, .ref j => (match st[n]?, st[j]? with
    | some (.ins c1 _), some (.ins c2 _) => if c1 = c ∧ c2 = c then blR (gcR st (m [.ref n, .ref j] st)) else .bad
    | _, _ => eqD (.ref n) (.ref j) st)
  | x, y => eqD x y st
theorem eqIA {G : GX} {c : Str} {m : List D → Store → R D} {C : Addr} (hC : G.mg c = some (.ref C)) : OpA G (eqI c m) (fun x y H Q => rOwn C (spA G m 2) x y H Q ∨ rEqD G.K x y H Q) := by
  intro W σ μ H st x y v u Q hs rx ry p
  unfold eqI at p
  split at p
  · rename_i n j
    split at p
    · rename_i c1 f1 c2 f2 e1 e2
      split at p
      · rename_i hc
        obtain ⟨rfl, rfl⟩ := hc
        obtain ⟨a, ea, rfl⟩ := rx
        obtain ⟨b, eb, rfl⟩ := ry
        obtain ⟨_, h1, C1, dx, vs, rfl, m1, _⟩ := hs.obj n a _ ea e1
        obtain ⟨_, h2, C2, dy, us, rfl, m2, _⟩ := hs.obj j b _ eb e2
        rw [hC] at m1 m2
        cases m1; cases m2
        refine .inl ⟨a, b, dx, dy, vs, us, rfl, rfl, h1, h2, μ, st, [.ref n, .ref j], hs, ⟨_, _, rfl, ⟨a, ea, rfl⟩, _, _, rfl, ⟨b, eb, rfl⟩, rfl⟩, ?_, rfl⟩
        refine Post.gc hs ?_
        revert p
        cases gcR st (m [.ref n, .ref j] st) with
        | ok d st' =>
          intro p
          cases d with
          | bl k => exact fun μ' H' z e hs' r => ⟨k, r, p μ' H' z e hs' r⟩
          | _ => exact p.elim
        | exc x' st' => intro p; exact p.elim
        | bad => intro p; exact p.elim
      · exact p.elim
    · exact .inr (eqA W σ μ H st _ _ v u Q hs rx ry p)
  · exact .inr (eqA W σ μ H st _ _ v u Q hs rx ry p)
section
variable {X : Cx} {W : WX} {a b e : Expr} {fa fb fe : EF} {pos : Pos} {lv k : Nat}
theorem ae_eqI {c : Str} {m : List D → Store → R D} (F : EqA (gx X) X.prog X.w X.base k c m) (cx : Ctx X W lv) (ha : AE X W a fa) (hb : AE X W b fb) (hk : k ≤ lv := by decide) : AE X W (.Compare a [.Eq] [b] pos) (e2 (eqI c m) fa fb) := by
  obtain ⟨C, f, fd, ps, F, hC, h1, h2, h3⟩ := F.ex
  exact ae_cmp (OpR_or (op_own F (cx.room.mono hk) h1 h2 h3 (fun pins σ H s e s' I z => by obtain ⟨_, _, _, _, _, _, _, _, _, _, _, _, z⟩ := z; exact z.elim)) (op_eqD cx.room.units)) (eqIA hC) ha hb (nomark _)
theorem at_eqI {c : Str} {m : List D → Store → R D} (F : EqA (gx X) X.prog X.w X.base k c m) (cx : Ctx X W lv) (ha : AE X W a fa) (hb : AE X W b fb) (hk : k ≤ lv := by decide) : AT X W (.Compare a [.Eq] [b] pos) (bB (e2 (eqI c m) fa fb)) := by
  obtain ⟨C, f, fd, ps, F, hC, h1, h2, h3⟩ := F.ex
  exact at_cmp (OpR_or (op_own F (cx.room.mono hk) h1 h2 h3 (fun pins σ H s e s' I z => by obtain ⟨_, _, _, _, _, _, _, _, _, _, _, _, z⟩ := z; exact z.elim)) (op_eqD cx.room.units)) (eqIA hC) ha hb (nomark _)
/-- what isinstance asks of a class of the text -/
structure InsF (G : GX) (c : Str) : Prop where
  ex : ∃ C, G.mg c = some (.ref C) ∧ Cls G.K C ∧ PySem.W.findIn G.K (.ref C) "__class__" = some (some (.builtin "object.__class__")) ∧ PySem.W.specialIn G.K (.builtin "object.__class__") "__get__" = some (some (.builtin "getset_descriptor.__get__")) ∧
    PySem.W.takesIn G.K (.builtin "object.__class__") = some true ∧ PySem.W.mroIn G.K C (.type "object") = some true ∧ PySem.W.kitOne G.K (.ref C) (.ref C) = some true
def eIsC (c : Str) (fe : EF) : EF := fun env st => (fe env st).bind fun d st1 => match d with
  | .ref n => (match st1[n]? with
    | some (.ins c1 _) => if c1 = c then .ok (.bl true) st1 else .bad
    | _ => .bad)
  | _ => .bad
theorem ae_isC {p p2 : Pos} {c : Str} (J : InsF (gx X) c) (hm : X.mg "isinstance" = none) (ha : AE X W e fe) (hg : Gl X "isinstance" := by rfl) (hx : Gl X c := by rfl) (hd : (c == ("__debug__" : Str)) = false := by decide)
    (he : starEach [e, .Name c p2] X.env = (false, eval e X.env) :: starEach [.Name c p2] X.env := by rfl) (he2 : starEach [.Name c p2] X.env = (false, eval (.Name c p2) X.env) :: starEach [] X.env := by rfl) (hpl : (backTo pos (starEach [.Name c p2] X.env)).any (·.1) = false := by rfl) :
    AE X W (.Call (.Name "isinstance" p) [e, .Name c p2] [] pos) (eIsC c fe) := by
  obtain ⟨C, hC, k1, k2, k3, k4, k5, k6⟩ := J.ex
  exact (pe_callB call_isi hg hm (by decide +kernel) (pa_cons ha (pa_cons (pe_glob (v := .ref C) hx hC (by rfl) hd) pa_nil he2) he) (he := he) (hpl := hpl)).weak fun σ H Q ⟨μ, env, st, hs, er, q⟩ =>
    ⟨μ, env, st, hs, er, Post.bind q fun d st1 μ1 H1 v _ x1 hs1 r1 p1 => by
      split at p1
      · obtain ⟨a, ea, rfl⟩ := r1
        split at p1
        · rename_i c1 f1 e1
          split at p1
          · rename_i hc
            subst hc
            obtain ⟨_, h1, C1, dx, vs, rfl, m1, _⟩ := hs1.obj _ a _ ea e1
            have hC' : (gx X).mg c1 = some (.ref C) := hC
            rw [hC'] at m1
            cases m1
            exact ⟨.ref a, .ref C, .ref C, .ref C, true, rfl, .own C, .base (.ins h1 k1 k2 k3 k4 k5), k6, p1 μ1 H1 _ .refl hs1 rfl⟩
          · exact p1.elim
        · exact p1.elim
      · exact p1.elim⟩
end
/-- the def __eq__ of a class of the text -/
def EqF (G : GX) (x qual : Str) (st : Stmt) : Prop := ∃ C f fd, G.mg x = some (.ref C) ∧ PySem.W.findIn G.K (.ref C) "__eq__" = some (some (.ref f)) ∧ PySem.W.isFn G.K (.ref f) = true ∧ Fun G.K "__eq__" qual st f fd
section
variable {G : GX} {P : Program} {w : World} {base : Heap}
theorem EqA.of {x qual : Str} {st : Stmt} {N ps : List Str} {k : Nat} {body : SF} (T : EqF G x qual st) (S : FnScope N ps (defScope st)) (hp : ps.length = 2) (hb : ∀ f fd, Fun G.K "__eq__" qual st f fd → Binds G.K fd ps [])
    (h : ∀ (f : Addr) (cdv : Value) (A : Around) (outer : List Env) (s : Shared) (H : Hp) (E : XK),
      Ctx (cxOf (L2.CX P w) P w G.K G.mg base N qual (defScope st) f cdv A outer s H E) (fun C od _ H' => E C od H') k → ASs (cxOf (L2.CX P w) P w G.K G.mg base N qual (defScope st) f cdv A outer s H E) (fun C od _ H' => E C od H') (defBody st) body) :
    EqA G P w base (k + 1) x (runDef N.length body) := by
  obtain ⟨C, f, fd, hm, M1, M2, F⟩ := T
  have := FnOk.ofA F S (h f)
  rw [hp] at this
  exact ⟨C, f, fd, ps, this, hm, M1, M2, hb f fd F⟩
end
theorem eqF_of {K : PySem.W.Frag} {h : Heap} {mg : Str → Option Value} {x qual : Str} {st : Stmt} (X : K.In h) (N : h.Ns mainGlobals mg) {C f : Addr} {od an : Option Addr} {sl : Array (Option Value)} {oc kV dc pm cd ct : Value}
    (aC : PySem.W.nsIn K mainGlobals x = some (some (.ref C))) (a1 : PySem.W.findIn K (.ref C) "__eq__" = some (some (.ref f))) (i1 : PySem.W.isFn K (.ref f) = true)
    (l1 : K.lookup f = some ⟨oc, od, .func (PySem.W.fnOf "__eq__" qual (defArgs st) (defBody st) (defScope st) .none kV dc pm an cd ct), sl⟩) (c1 : PySem.W.codeIn K cd qual = true) (k1 : PySem.W.keepIn K (.ref f) = true) : EqF ⟨K, mg⟩ x qual st :=
  ⟨C, f, _, PySem.W.mg_of X N aC, a1, i1, fun_mk (st := st) l1 c1 k1⟩
theorem insF_of {K : PySem.W.Frag} {h : Heap} {mg : Str → Option Value} {x : Str} (X : K.In h) (N : h.Ns mainGlobals mg) {C : Addr} (aC : PySem.W.nsIn K mainGlobals x = some (some (.ref C)))
    (pg : PySem.W.plainGet K C Str.empty = true) (hd : PySem.W.hasDictIn K C = true) (po : PySem.W.plainOver K C = true) (sa : PySem.W.findIn K (.ref C) "__setattr__" = some (some (.builtin "object.__setattr__")))
    (k2 : PySem.W.findIn K (.ref C) "__class__" = some (some (.builtin "object.__class__"))) (k3 : PySem.W.specialIn K (.builtin "object.__class__") "__get__" = some (some (.builtin "getset_descriptor.__get__"))) (k4 : PySem.W.takesIn K (.builtin "object.__class__") = some true)
    (k5 : PySem.W.mroIn K C (.type "object") = some true) (k6 : PySem.W.kitOne K (.ref C) (.ref C) = some true) : InsF ⟨K, mg⟩ x := ⟨C, PySem.W.mg_of X N aC, ⟨pg, hd, po, sa⟩, k2, k3, k4, k5, k6⟩
end TK

set_option Elab.async false
set_option linter.all false
set_option maxRecDepth 100000
set_option maxHeartbeats 4000000
namespace TK
open PySem PySem.Spec
open PyProof.Rows hiding St
open L2
/-! # t[::-1] of a tuple -/
section
variable {prog : Program} {w : World} {A : Around} {s : Shared} {E : Value → Shared → Prop}
theorem back_places (m : Nat) : Builtin.Slice.slicePlaces ((m : Int) - 1) (-1) (-1) = m := by
  unfold Builtin.Slice.slicePlaces
  rw [if_neg (show ¬ ((-1 : Int) > 0) by decide)]
  have e1 : (- -1 : Int) = 1 := by decide
  rw [e1, Int.ediv_one]
  split <;> omega
theorem filterMap_same {α β : Type} {f g : α → Option β} : ∀ {l : List α}, (∀ x ∈ l, f x = g x) → l.filterMap f = l.filterMap g
  | [], _ => rfl
  | x :: xs, h => by
    rw [List.filterMap_cons, List.filterMap_cons, h x (List.mem_cons_self ..), filterMap_same fun y hy => h y (List.mem_cons_of_mem x hy)]
theorem back_pick (xs : Array Value) : (List.range xs.size).filterMap (fun (k : Nat) => xs[(((xs.size : Int) - 1) + (k : Int) * (-1)).toNat]?) = xs.toList.reverse := by
  have e : ∀ k ∈ List.range xs.size, (((xs.size : Int) - 1) + (k : Int) * (-1)).toNat = xs.size - 1 - k := fun k hk => by
    have := List.mem_range.mp hk
    omega
  have e2 : (List.range xs.size).filterMap (fun (k : Nat) => xs[(((xs.size : Int) - 1) + (k : Int) * (-1)).toNat]?) = ((List.range xs.size).map fun k => xs.size - 1 - k).filterMap (xs[·]?) := by
    rw [List.filterMap_map]
    refine filterMap_same fun k hk => ?_
    show xs[_]? = xs[xs.size - 1 - k]?
    rw [e k hk]
  rw [e2, PySem.W.krv_range, List.filterMap_reverse, PySem.W.krv_all]
theorem back_applied {c : Addr} {vl vu vs : Value} {m : Nat} {Q : Int × Int × Nat → Shared → Prop} (hc : s.heap.IsSliceOf c vl vu vs) (pl : IsPart vl none) (pu : IsPart vu none) (ps : IsPart vs (some (-1)))
    (h : Q ((m : Int) - 1, -1, m) s) : wpAny (model prog w) A (Builtin.Slice.sliceApplied (.ref c) (pure (m : Int))) Q E s := by
  obtain ⟨ob, ho, _, hd⟩ := id hc
  unfold Builtin.Slice.sliceApplied Builtin.Slice.sliceFields
  refine wpAny_bind (wpAny_bind (wpAny_field ho hd (x := vl) rfl (wpAny_bind (wpAny_field ho hd (x := vu) rfl (wpAny_bind (wpAny_field ho hd (x := vs) rfl (wpAny_pure (wpAny_bind (HT.slicePart_ ps ?_)))))))))
  refine (?_ : wpAny _ _ (if ((-1 : Int) == 0) = true then _ else _) _ _ s)
  rw [if_neg (show ¬ ((-1 : Int) == 0) = true by decide)]
  refine wpAny_bind (HT.slicePart_ pl (wpAny_bind (HT.slicePart_ pu (wpAny_bind (wpAny_pure (?_ : wpAny _ _ (match Builtin.Slice.sliceAdjust none none (-1) (m : Int) with | (lo, hi) => pure (lo, (-1 : Int), Builtin.Slice.slicePlaces lo hi (-1))) _ _ s))))))
  have ea : Builtin.Slice.sliceAdjust none none (-1) (m : Int) = ((m : Int) - 1, -1) := rfl
  rw [ea]
  refine (?_ : wpAny _ _ (pure ((m : Int) - 1, (-1 : Int), Builtin.Slice.slicePlaces ((m : Int) - 1) (-1) (-1))) _ _ s)
  rw [back_places]
  exact wpAny_pure h
theorem back_tuple {t c : Addr} {us : List Value} {vl vu vs : Value} {Q : Value → Shared → Prop} (ht : IsTup s.heap t us.toArray) (hc : s.heap.IsSliceOf c vl vu vs) (pl : IsPart vl none) (pu : IsPart vu none) (ps : IsPart vs (some (-1))) (hz : us.length ≤ sizeLine)
    (h : Q (.ref s.heap.objs.size) { s with heap := s.heap.push { cls := .type "tuple", data := .seq us.reverse.toArray } }) : wpAny (model prog w) A (getItem (.ref t) (.ref c)) Q E s := by
  obtain ⟨ob, ho, hcl, hd⟩ := id hc
  have hT : s.TypeIs (.ref c) "slice" := ⟨ob, ho, hcl⟩
  have hfit : sizeOk (.seq us.reverse.toArray) := by
    show us.reverse.toArray.size ≤ sizeLine
    rw [List.size_toArray, List.length_reverse]; exact hz
  unfold getItem
  try with_reducible refine wpAny_holding ?_
  first | refine wpAny_bind (wpAny_pure ?_) | skip
  refine wpAny_bind (wpAny_sequenceKey ht.typeIs (by decide) (wpAny_bind (wpAny_callSpecial?_slot (name := Str.ofString "__getitem__") ht.typeIs PyProof.Rows.slot_tuple_getitem (wpAny_call_entry PyProof.Rows.slot_tuple_getitem ht.typeIs entry_tuple_getitem (?_ : wpAny _ _ (Builtin.Tuple.tupleItemsOf (.ref t) >>= _) _ _ s) (args_tuple_getitem _ _)))))
  refine wpAny_bind (tupleItemsOf_ ht (wpAny_bind (wpAny_typeOf hT ?_)))
  rw [if_pos (show _ = true by decide)]
  refine wpAny_bind (back_applied (m := us.toArray.size) hc pl pu ps ?_)
  have hno : ¬ ((((us.toArray.size : Int) - 1) == 0 && (-1 : Int) == 1 && us.toArray.size == us.toArray.size) = true) := by
    intro q
    rw [Bool.and_eq_true, Bool.and_eq_true] at q
    exact absurd q.1.2 (by decide)
  refine (?_ : wpAny _ _ (if (((us.toArray.size : Int) - 1) == 0 && (-1 : Int) == 1 && us.toArray.size == us.toArray.size) = true then _ else _) _ _ s)
  rw [if_neg hno, back_pick]
  first
    | exact wpAny_bind (m := Builtin.Tuple.tupleExact _) (wpAny_newObj_type (wpAny_pure ⟨_, rfl, wpAny_pure h⟩) hfit)
    | exact wpAny_bind (m := Builtin.Tuple.tupleExact _) (wpAny_newObj_type (wpAny_bind (wpAny_pure (wpAny_pure ⟨_, rfl, wpAny_pure h⟩))) hfit)
    | exact wpAny_bind (wpAny_bind (m := Builtin.Tuple.tupleExact _) (wpAny_newObj_type (wpAny_pure (wpAny_pure ⟨_, rfl, wpAny_pure h⟩)) hfit))
    | exact wpAny_bind (wpAny_bind (m := Builtin.Tuple.tupleExact _) (wpAny_newObj_type (wpAny_pure ⟨_, rfl, wpAny_pure h⟩) hfit))
end
def tRevT (K : PySem.W.Frag) (te : TE) : TE := fun σ H Q => te σ H fun x H1 => ∃ a xs, x = .ref a ∧ SqT K H1 a xs ∧ ∀ p, H1 p = none → Q (.ref p) (upd H1 p (.tup xs.reverse))
theorem pe_revT {X : Cx} {e : Expr} {te : TE} {k : Nat} {p1 p2 p3 pos : Pos} (he : PE X e te) : PE X (.Subscript e (.Slice none none (some (.UnaryOp .USub (.Constant (.int 1) k p1) p2)) p3) pos) (tRevT X.K te) := by
  refine ⟨fun pins s σ H Q I h => ?_⟩
  have stp : PO X (some (.UnaryOp .USub (.Constant (.int 1) k p1) p2)) (tPart (tUn (rU fun i => .int (-i)) (tC (.int 1)))) := po_some (pe_un un_neg pe_int)
  refine Subscript_ (thn (he.run pins s σ H _ I h) fun v s1 ⟨x, H1, J1, r1, a, xs, ex, hx, q⟩ => ?_)
  subst ex
  cases r1
  refine wpAny_Slice (thn (po_none.run pins s1 σ H1 (fun o G => o = none ∧ G = H1) J1 ⟨rfl, rfl⟩) fun vl s2 ⟨l, H2, J2, pl, el, e2⟩ => ?_)
  subst el e2
  refine thn (po_none.run pins s2 σ H2 (fun o G => o = none ∧ G = H2) J2 ⟨rfl, rfl⟩) fun vu s3 ⟨u, H3, J3, pu, eu, e3⟩ => ?_
  subst eu e3
  refine thn (stp.run pins s3 σ H3 (fun o G => o = some (-1) ∧ G = H3) J3 ⟨1, rfl, -1, rfl, rfl, rfl⟩) fun vs s4 ⟨o, H4, J4, ps, eo, e4⟩ => ?_
  subst eo e4
  have J5 : Inv X pins σ H4 { s4 with heap := s4.heap.push { cls := .type "slice", data := .fields #[vl, vu, vs] } } := J4.kept (t' := s4.toks) fun b ob w => Heap.get?_push_of_some _ w
  obtain ⟨its, rv, ht, hz⟩ := J5.tuple hx
  refine (?_ : wpAny (model X.prog X.w) X.A (subscriptTail e (.Slice none none (some (.UnaryOp .USub (.Constant (.int 1) k p1) p2)) p3) (.ref a) (.ref s4.heap.objs.size)) (EP X pins σ Q) X.xe { s4 with heap := s4.heap.push { cls := .type "slice", data := .fields #[vl, vu, vs] } })
  refine tail_any (ops := [.ref a, .ref s4.heap.objs.size]) ht.typeIs (PyProof.Rows.slot_tuple_getitem.lookup) (back_tuple ht (Heap.IsSliceOf.new _ vl vu vs) pl pu ps (by rw [← rv.length]; exact hz) ?_) (by with_unfolding_all rfl)
  exact ⟨.ref _, _, J5.laid (t' := s4.toks) (o := .tup xs.reverse) (fun b ob w => Heap.get?_push_of_some _ w) (Nat.le_refl _) ⟨by rw [List.length_reverse]; exact hz, _, rv.reverse, IsTup.new _ _⟩, rfl, q _ (J5.hok.fresh (Nat.le_refl _))⟩
def eRevT (fe : EF) : EF := fun env st => (fe env st).bind fun x st1 => match x with
  | .tup ds => .ok (.tup ds.reverse) st1
  | _ => .bad
theorem ae_revT {X : Cx} {W : WX} {e : Expr} {fe : EF} {k : Nat} {p1 p2 p3 pos : Pos} (he : AE X W e fe) : AE X W (.Subscript e (.Slice none none (some (.UnaryOp .USub (.Constant (.int 1) k p1) p2)) p3) pos) (eRevT fe) := (pe_revT he).weak fun σ H Q ⟨μ, env, st, hs, er, p⟩ =>
  ⟨μ, env, st, hs, er, Post.bind p fun x st1 μ1 H1 v _ x1 hs1 r1 p1 => by
    split at p1
    · obtain ⟨a, vs, rfl, hq, rs⟩ := r1
      exact ⟨a, vs, rfl, .of hq, fun p hp => p1 μ1 _ _ (.new hp) (hs1.new hp) ⟨p, _, rfl, upd_same, RelDs.ext hs1 (.new hp) _ _ rs.reverse⟩⟩
    · exact p1.elim⟩
@[simp] theorem eRevT_ap0 (fe : EF) (env : AEnv) (st : Store) : eRevT fe env st = ((fe env st).bind fun x st1 => match x with
  | .tup ds => .ok (.tup ds.reverse) st1
  | _ => .bad) := (Eq.refl _).trans rfl
end TK

set_option Elab.async false
set_option linter.all false
set_option maxRecDepth 100000
set_option maxHeartbeats 4000000
namespace TK
open PySem PySem.Spec
open PyProof.Rows hiding St
open L2
/-! # dict comprehensions with int and text keys -/
def hasK (k : Key) (kvs : List (D × D)) : Bool := kvs.any fun kv => decide (keyS kv.1 = some k)
def putD (kvs : List (D × D)) (d : D) (k : Key) (v : D) : List (D × D) :=
  if hasK k kvs = true then kvs.map (fun kv => if keyS kv.1 = some k then (kv.1, v) else kv) else kvs ++ [(d, v)]
section
variable {G : GX} {μ : List Addr} {H : Hp}
theorem RelK.length : ∀ {kvs : List (D × D)} {ks : List (Key × V)}, RelK G μ H keyS kvs ks → ks.length = kvs.length
  | [], _, r => by cases r; rfl
  | (k, d) :: kvs, _, r => by obtain ⟨c, v, rest, rfl, _, _, rs⟩ := r; simp [RelK.length rs]
theorem RelK.any {k : Key} : ∀ {kvs : List (D × D)} {ks : List (Key × V)}, RelK G μ H keyS kvs ks → (ks.any fun kv => decide (kv.1 = k)) = hasK k kvs
  | [], _, r => by cases r; rfl
  | (x, d) :: kvs, _, r => by
    obtain ⟨c, v, rest, rfl, ek, _, rs⟩ := r
    have ih := RelK.any (k := k) rs
    unfold hasK at ih ⊢
    rw [List.any_cons, List.any_cons, ih]
    congr 1
    show decide (c = k) = decide (keyS x = some k)
    rw [ek]; simp
theorem RelK.mapv {k : Key} {d : D} {v : V} (rd : RelD G μ H d v) : ∀ {kvs : List (D × D)} {ks : List (Key × V)}, RelK G μ H keyS kvs ks →
    RelK G μ H keyS (kvs.map fun kv => if keyS kv.1 = some k then (kv.1, d) else kv) (ks.map fun kv => if kv.1 = k then (kv.1, v) else kv)
  | [], _, r => by cases r; rfl
  | (x, y) :: kvs, _, r => by
    obtain ⟨c, z, rest, rfl, ek, rz, rs⟩ := r
    have ih := RelK.mapv (k := k) rd rs
    rw [List.map_cons, List.map_cons]
    by_cases h : c = k
    · subst h
      rw [if_pos ek, if_pos rfl]
      exact ⟨c, v, _, rfl, ek, rd, ih⟩
    · rw [if_neg (show ¬ keyS x = some k by rw [ek]; simpa using h), if_neg h]
      exact ⟨c, z, _, rfl, ek, rz, ih⟩
theorem RelK.snoc {k : Key} {x d : D} {v : V} (ek : keyS x = some k) (rd : RelD G μ H d v) : ∀ {kvs : List (D × D)} {ks : List (Key × V)}, RelK G μ H keyS kvs ks →
    RelK G μ H keyS (kvs ++ [(x, d)]) (ks ++ [(k, v)])
  | [], _, r => by cases r; exact ⟨k, v, [], rfl, ek, rd, rfl⟩
  | (y, z) :: kvs, _, r => by
    obtain ⟨c, w, rest, rfl, ec, rz, rs⟩ := r
    exact ⟨c, w, _, rfl, ec, rz, RelK.snoc ek rd rs⟩
theorem RelK.put {k : Key} {x d : D} {v : V} (ek : keyS x = some k) (rd : RelD G μ H d v) {kvs : List (D × D)} {ks : List (Key × V)} (r : RelK G μ H keyS kvs ks) :
    RelK G μ H keyS (putD kvs x k d) (putK ks k v) := by
  unfold putD putK
  rw [r.any]
  by_cases h : hasK k kvs = true
  · rw [if_pos h, if_pos h]; exact r.mapv rd
  · rw [if_neg h, if_neg h]; exact r.snoc ek rd
theorem key_val {x : D} {k : Key} {v : V} (ek : keyS x = some k) (r : RelD G μ H x v) : v = kV k := by
  cases x with
  | int i => cases ek; exact r
  | str s => cases ek; exact r
  | _ => cases ek
theorem RelK.keys : ∀ {kvs : List (D × D)} {ks : List (Key × V)}, RelK G μ H keyS kvs ks → RelDs G μ H (kvs.map (·.1)) (ks.map fun kv => kV kv.1)
  | [], _, r => by cases r; rfl
  | (x, d) :: kvs, _, r => by
    obtain ⟨c, v, rest, rfl, ek, _, rs⟩ := r
    refine ⟨kV c, _, rfl, ?_, RelK.keys rs⟩
    cases x with
    | int i => cases ek; exact rfl
    | str s => cases ek; exact rfl
    | _ => cases ek
end
theorem putD_len (kvs : List (D × D)) (d : D) (k : Key) (v : D) : (putD kvs d k v).length ≤ kvs.length + 1 := by
  unfold putD
  split
  · simp
  · simp
abbrev relKd (G : GX) : RelT (List (D × D)) V := ⟨fun H0 μ H kvs v => ∃ a ks, v = .ref a ∧ H0 a = none ∧ a ∉ μ ∧ H a = some (.dK ks) ∧ RelK G μ H keyS kvs ks, fun x1 x2 ⟨a, vs, e1, e2, e3, e4⟩ => ⟨a, vs, e1, x1.back x2 e3 e2, e3, e4⟩⟩
abbrev KF := AEnv → Store → R (List (D × D))
abbrev AK (X : Cx) (W : WX) (e : Expr) (f : KF) : Prop := PE X e (tG (gx X) W (relKd (gx X)) f)
open Classical in
noncomputable def dcL (t : Tgt) (c : BF) (kf vf : EF) (g : Its) : List D → List (D × D) → AEnv → Store → R (List (D × D))
  | [], acc, _, st => .ok acc st
  | d :: ds, acc, env, st => match asgT t d env with
    | none => .bad
    | some env1 => (c env1 st).bind fun b st1 => if b then (kf env1 st1).bind fun y st2 => (vf env1 st2).bind fun z st3 => (match keyS y with
        | none => .bad
        | some k => if gOK g st3 then dcL t c kf vf g ds (putD acc y k z) env st3 else .bad)
      else (if gOK g st1 then dcL t c kf vf g ds acc env st1 else .bad)
open Classical in
noncomputable def dcF (vs : List Nat) (fi : IF) (t : Tgt) (c : BF) (kf vf : EF) : KF := fun env st => (fi env st).bind fun g st1 => if gOK g st1 ∧ g.1.length ≤ sizeLine then noX (dcL t c kf vf g g.1 [] (wipeE env vs) st1) else .bad
theorem NoTup.dK {H : Hp} {a : Addr} {xs : List (Key × V)} (h : H a = some (.dK xs)) : NoTup H a := .of h (fun _ z => by cases z) (fun _ _ z => by cases z)
theorem Ext.keep {μ μ' : List Addr} {H H' : Hp} (x : Ext μ H μ' H') {a : Addr} {o : HO} (hn : a ∉ μ) (h : H a = some o) : H' a = some o := by
  obtain ⟨ν, rfl, _, k⟩ := x
  exact k a o h hn
section
variable {X : Cx} {W : WX} {kx vx tg iter : Expr} {ifs : List Expr} {scope : Scope} {own : List (Str × Nat)} {pos : Pos} {fi : IF} {t : Tgt} {fc : BF} {kf vf : EF} {lv : Nat}
theorem comp_dk {vs : List Nat} (hv : ∀ i ∈ slotsT t, i ∈ vs) {σ : St} {H : Hp} {Q : VK} (h : tG (gx X) W (relKd (gx X)) (dcF vs fi t fc kf vf) σ H Q) :
    tDc (tG (gx X) W (relI (gx X)) fi) (gT X.K t) (tG (gx X) W0 relB fc) (tG (gx X) W0 (relD (gx X)) kf) (tG (gx X) W0 (relD (gx X)) vf) vs σ H Q := by
  obtain ⟨μ, env, st, hs, er, p⟩ := h
  refine ⟨μ, env, st, hs, er, Post.bind0 p fun g st1 μ1 H1 J _ x1 hs1 ir p1 D hD => ?_⟩
  split at p1
  · rename_i gg
    have hDμ : D ∉ μ1 := hs1.fresh hD
    have hD0 : H D = none := Ext.back x1 .refl hDμ hD
    have whole : ∃ ys stN, dcL t fc kf vf g g.1 [] (wipeE env vs) st1 = .ok ys stN ∧ Post (gx X) W (relKd (gx X)) σ μ H (.ok ys stN) Q := by
      cases q : dcL t fc kf vf g g.1 [] (wipeE env vs) st1 with
      | ok ys stN => rw [q] at p1; exact ⟨ys, stN, rfl, p1⟩
      | exc x s => rw [q] at p1; exact p1.elim
      | bad => rw [q] at p1; exact p1.elim
    obtain ⟨ys, stN, eN, pN⟩ := whole
    refine ⟨fun i m H2 => i + m = g.1.length ∧ ∃ μ2 st2 acc accV, Ext μ1 H1 μ2 H2 ∧ HS (gx X) μ2 H2 st2 ∧ D ∉ μ2 ∧ H2 D = some (.dK accV) ∧ RelK (gx X) μ2 H2 keyS acc accV ∧ acc.length ≤ i ∧ gOK g st2 ∧
        dcL t fc kf vf g (g.1.drop i) acc (wipeE env vs) st2 = .ok ys stN,
      ⟨g.1.length, by omega, μ1, st1, [], [], Ext.new hD, hs1.new hD, hDμ, upd_same, rfl, by simp, gg.1, eN⟩, fun i m H2 w => ?_⟩
    obtain ⟨em, μ2, st2, acc, accV, x2, hs2, hn2, hD2, ra, hl, g2, e2⟩ := w
    by_cases hi : i < g.1.length
    · refine .inr ⟨ir.go μ2 H2 st2 x2 hs2 g2 i hi, fun H' => ∃ m', m' < m ∧ i + 1 + m' = g.1.length ∧ ∃ μ2 st2 acc accV, Ext μ1 H1 μ2 H' ∧ HS (gx X) μ2 H' st2 ∧ D ∉ μ2 ∧ H' D = some (.dK accV) ∧ RelK (gx X) μ2 H' keyS acc accV ∧ acc.length ≤ i + 1 ∧ gOK g st2 ∧
        dcL t fc kf vf g (g.1.drop (i + 1)) acc (wipeE env vs) st2 = .ok ys stN,
        fun H' n => by obtain ⟨m', h1, h2, h3⟩ := n; exact ⟨m', h1, h2, h3⟩, fun x H3 y => ?_⟩
      obtain ⟨d, ed, x3, hs3, rd⟩ := ir.yld μ2 H2 st2 x2 hs2 g2 i x H3 hi y
      have edrop : g.1.drop i = d :: g.1.drop (i + 1) := by
        rw [List.drop_eq_getElem_cons hi]
        rw [List.getElem?_eq_getElem hi] at ed
        cases ed; rfl
      rw [edrop] at e2
      unfold dcL at e2
      split at e2
      · cases e2
      · rename_i env3 e3
        refine gT_ok (G := gx X) t (((er.ext hs x1).wipe vs).ext hs1 (x2.trans x3)) rd e3 fun σ3 er3 hw => ⟨by rw [hw vs hv, wipe_wipe], μ2, env3, st2, hs3, er3, ?_⟩
        cases qc : fc env3 st2 with
        | exc x s => rw [qc] at e2; cases e2
        | bad => rw [qc] at e2; cases e2
        | ok b st4 =>
          rw [qc, R.bind_ok] at e2
          intro μ4 H4 v4 x4 hs4 r4
          have r4 : v4 = b := r4
          subst r4
          have nD : ∀ {μ' : List Addr} {H' : Hp}, Ext μ2 H3 μ' H' → D ∉ μ' ∧ H' D = some (.dK accV) := fun {μ' H'} xe => by
            have h3 := x3.keep hn2 hD2
            refine ⟨?_, xe.keep hn2 h3⟩
            obtain ⟨ν, rfl, f, _⟩ := xe
            intro hm
            rcases List.mem_append.mp hm with z | z
            · exact hn2 z
            · rw [(f D z).1] at h3; cases h3
          cases v4 with
          | false =>
            rw [if_neg (by decide)] at e2 ⊢
            split at e2
            · rename_i g4
              exact ⟨m - 1, by omega, by omega, μ4, st4, acc, accV, (x2.trans x3).trans x4, hs4, (nD x4).1, (nD x4).2, RelK.ext hs2 (x3.trans x4) _ _ ra, by omega, g4, e2⟩
            · cases e2
          | true =>
            rw [if_pos rfl] at e2 ⊢
            refine ⟨μ4, env3, st4, hs4, er3.ext hs3 x4, ?_⟩
            cases qe : kf env3 st4 with
            | exc x s => rw [qe] at e2; cases e2
            | bad => rw [qe] at e2; cases e2
            | ok yd st5 =>
              rw [qe, R.bind_ok] at e2
              intro μ5 H5 v5 x5 hs5 r5
              refine ⟨μ5, env3, st5, hs5, (er3.ext hs3 x4).ext hs4 x5, ?_⟩
              cases qv : vf env3 st5 with
              | exc x s => rw [qv] at e2; cases e2
              | bad => rw [qv] at e2; cases e2
              | ok zd st6 =>
                rw [qv, R.bind_ok] at e2
                intro μ6 H6 v6 x6 hs6 r6
                cases qk : keyS yd with
                | none => rw [qk] at e2; cases e2
                | some k =>
                  rw [qk] at e2
                  simp only at e2
                  split at e2
                  · rename_i g6
                    obtain ⟨nD6, eD6⟩ := nD ((x4.trans x5).trans x6)
                    have ra6 := RelK.ext hs2 (((x3.trans x4).trans x5).trans x6) _ _ ra
                    have hll := ra6.length
                    refine ⟨accV, k, key_val qk r5, eD6, ?_, m - 1, by omega, by omega, μ6, st6, putD acc yd k zd, putK accV k v6, ?_⟩
                    · rw [hll]; exact Nat.lt_of_le_of_lt hl (Nat.lt_of_lt_of_le hi gg.2)
                    · exact ⟨((((x2.trans x3).trans x4).trans x5).trans x6).wr hD, hs6.wr nD6 (.dK eD6), nD6, upd_same, RelK.put qk (RelD.wr (.dK eD6) _ _ r6) (ra6.wr (.dK eD6)), Nat.le_trans (putD_len _ _ _ _) (by omega), g6, e2⟩
                  · cases e2
    · have e0 : i = g.1.length := by omega
      subst e0
      rw [List.drop_length] at e2
      cases e2
      exact .inl ⟨ir.stop μ2 H2 _ x2 hs2 g2, pN μ2 H2 _ (x1.trans x2) hs2 ⟨D, accV, rfl, hD0, hn2, hD2, ra⟩⟩
  · exact p1.elim
theorem ak_comp (c : Ctx X W lv) (hi : AI X W tg iter fi) (own : List (Str × Nat)) (ok : BlkOk X.N X.env.scope scope own)
    (hg : ∀ s H C cl fp, AG (bX X scope s H C cl fp) tg t) (hc : ∀ s H C cl fp, ATs (bX X scope s H C cl fp) W0 ifs fc) (hk : ∀ s H C cl fp, AE (bX X scope s H C cl fp) W0 kx kf) (he : ∀ s H C cl fp, AE (bX X scope s H C cl fp) W0 vx vf)
    (hv : ∀ i ∈ slotsT t, i ∈ own.map (·.2) := by decide) (hs : ∀ x, foldedSetIterable iter X.env x = pure x := by intro _; rfl) : AK X W (.DictComp kx vx [⟨tg, iter, ifs, 0⟩] scope pos) (dcF (own.map (·.2)) fi t fc kf vf) :=
  (pe_dc (g := gT X.K t) (tt := tG (gx X) W0 relB fc) (tk := tG (gx X) W0 (relD (gx X)) kf) (tv := tG (gx X) W0 (relD (gx X)) vf) c.calm c.nd hi ok hg hc hk he hs).weak fun σ H Q h => comp_dk hv h
end
/-! ## list(a new dict) -/
def lKeys (f : KF) : LF := fun env st => (f env st).bind fun kvs st1 => .ok (kvs.map (·.1)) st1
theorem al_keys {X : Cx} {W : WX} {e : Expr} {f : KF} {lv : Nat} {p pos : Pos} (cx : Ctx X W lv) (hm : X.mg "list" = none) (ha : AK X W e f) (hg : Gl X "list" := by rfl) (he : starEach [e] X.env = (false, eval e X.env) :: starEach [] X.env := by rfl) :
    AL X W (.Call (.Name "list" p) [e] [] pos) (lKeys f) := (pe_callTy (call_list_dK cx.calm) hg hm (by decide +kernel) (pa_cons ha pa_nil he) (by decide) (by decide) he rfl).weak fun σ H Q ⟨μ, env, st, hs, er, q⟩ =>
  ⟨μ, env, st, hs, er, Post.bind0 q fun kvs st1 μ1 H1 v _ x1 hs1 r1 p1 => by
    obtain ⟨a, ks, rfl, h0, hn, hk, rs⟩ := r1
    refine ⟨a, ks, rfl, hk, fun l hl => p1 μ1 _ _ (x1.trans (.new hl)) (hs1.new hl) ⟨l, _, rfl, Ext.back x1 .refl (hs1.fresh hl) hl, hs1.fresh hl, upd_same, ?_⟩⟩
    exact RelDs.ext hs1 (.new hl) _ _ rs.keys⟩
end TK

set_option Elab.async false
set_option linter.all false
set_option maxRecDepth 100000
set_option maxHeartbeats 4000000
namespace TK
open PySem PySem.Spec
open PyProof.Rows hiding St
open L2
/-! # xs[::-1] of a list -/
def tRevL (K : PySem.W.Frag) (te : TE) : TE := fun σ H Q => te σ H fun x H1 => ∃ a xs, x = .ref a ∧ SqL K H1 a xs ∧ ∀ p, H1 p = none → Q (.ref p) (upd H1 p (.lst xs.reverse))
theorem pe_revL {X : Cx} {e : Expr} {te : TE} {k : Nat} {p1 p2 p3 pos : Pos} (he : PE X e te) : PE X (.Subscript e (.Slice none none (some (.UnaryOp .USub (.Constant (.int 1) k p1) p2)) p3) pos) (tRevL X.K te) := by
  refine ⟨fun pins s σ H Q I h => ?_⟩
  have stp : PO X (some (.UnaryOp .USub (.Constant (.int 1) k p1) p2)) (tPart (tUn (rU fun i => .int (-i)) (tC (.int 1)))) := po_some (pe_un un_neg pe_int)
  refine Subscript_ (thn (he.run pins s σ H _ I h) fun v s1 ⟨x, H1, J1, r1, a, xs, ex, hx, q⟩ => ?_)
  subst ex
  cases r1
  refine wpAny_Slice (thn (po_none.run pins s1 σ H1 (fun o G => o = none ∧ G = H1) J1 ⟨rfl, rfl⟩) fun vl s2 ⟨l, H2, J2, pl, el, e2⟩ => ?_)
  subst el e2
  refine thn (po_none.run pins s2 σ H2 (fun o G => o = none ∧ G = H2) J2 ⟨rfl, rfl⟩) fun vu s3 ⟨u, H3, J3, pu, eu, e3⟩ => ?_
  subst eu e3
  refine thn (stp.run pins s3 σ H3 (fun o G => o = some (-1) ∧ G = H3) J3 ⟨1, rfl, -1, rfl, rfl, rfl⟩) fun vs s4 ⟨o, H4, J4, ps, eo, e4⟩ => ?_
  subst eo e4
  have J5 : Inv X pins σ H4 { s4 with heap := s4.heap.push { cls := .type "slice", data := .fields #[vl, vu, vs] } } := J4.kept (t' := s4.toks) fun b ob w => Heap.get?_push_of_some _ w
  obtain ⟨its, rv, ht, hz⟩ := J5.list hx
  have hlen := rv.length
  refine (?_ : wpAny (model X.prog X.w) X.A (subscriptTail e (.Slice none none (some (.UnaryOp .USub (.Constant (.int 1) k p1) p2)) p3) (.ref a) (.ref s4.heap.objs.size)) (EP X pins σ Q) X.xe { s4 with heap := s4.heap.push { cls := .type "slice", data := .fields #[vl, vu, vs] } })
  refine tail_any (ops := [.ref a, .ref s4.heap.objs.size]) ht.isList.typeIs (slot_list_getitem.lookup) (wpAny_getItem_list_slice ht.isList (Heap.IsSliceOf.new _ vl vu vs) pl pu ps (by simp) ?_ (by rw [List.size_toArray]; omega)) (by with_unfolding_all rfl)
  rw [PySem.W.krv_pick]
  exact ⟨.ref _, _, J5.laid (t' := s4.toks) (o := .lst xs.reverse) (fun b ob w => Heap.get?_push_of_some _ w) (Nat.le_refl _) ⟨by rw [List.length_reverse]; exact hz, _, 0, rv.reverse, Heap.get?_push_size _ rfl⟩, rfl, q _ (J5.hok.fresh (Nat.le_refl _))⟩
def lRevL (fe : EF) : LF := fun env st => (fe env st).bind fun x st1 => match x with
  | .ref n => (match seqOf (.ref n) st1 with
    | some ds => .ok ds.reverse st1
    | none => .bad)
  | _ => .bad
theorem al_revL {X : Cx} {W : WX} {e : Expr} {fe : EF} {k : Nat} {p1 p2 p3 pos : Pos} (he : AE X W e fe) : AL X W (.Subscript e (.Slice none none (some (.UnaryOp .USub (.Constant (.int 1) k p1) p2)) p3) pos) (lRevL fe) := (pe_revL he).weak fun σ H Q ⟨μ, env, st, hs, er, p⟩ =>
  ⟨μ, env, st, hs, er, Post.bind0 p fun x st1 μ1 H1 v _ x1 hs1 r1 p1 => by
    cases x with
    | ref n =>
      obtain ⟨a, e1, rfl⟩ := r1
      simp only at p1
      split at p1
      · rename_i ds e2
        obtain ⟨vs, hq, rs⟩ := hs1.seq e1 e2
        exact ⟨a, vs, rfl, hq, fun p hp => p1 μ1 _ _ (x1.trans (.new hp)) (hs1.new hp) ⟨p, _, rfl, Ext.back x1 .refl (hs1.fresh hp) hp, hs1.fresh hp, upd_same, RelDs.ext hs1 (.new hp) _ _ rs.reverse⟩⟩
      · exact p1.elim
    | _ => exact p1.elim⟩
@[simp] theorem lRevL_ap (fe : EF) (env : AEnv) (st : Store) : lRevL fe env st = ((fe env st).bind fun x st1 => match x with
  | .ref n => (match seqOf (.ref n) st1 with
    | some ds => .ok ds.reverse st1
    | none => .bad)
  | _ => .bad) := (Eq.refl _).trans rfl
end TK

set_option Elab.async false
set_option linter.all false
set_option maxRecDepth 100000
set_option maxHeartbeats 4000000
namespace TK
open PySem PySem.Spec
open PyProof.Rows hiding St
open L2
/-! # what plain functions answer: the tools -/
/-! ### one step of a plain function -/
/-- a call's result, kept from checks by computing -/
noncomputable def gcH (st : Store) (r : R D) : R D := hid (gcR st r)
open Classical in
noncomputable def okIf {α : Type} (p : Prop) (r : R α) : R α := if p then r else .bad
theorem okIf_pos {α : Type} {p : Prop} (h : p) (r : R α) : okIf p r = r := by unfold okIf; rw [if_pos h]
@[simp] theorem okIf_true {α : Type} (r : R α) : okIf True r = r := okIf_pos trivial r
theorem ite_okIf {α : Type} (p : Prop) [Decidable p] (r : R α) : (if p then r else .bad) = okIf p r := by
  unfold okIf
  by_cases h : p <;> simp [h]
@[simp] theorem runDef_ap (n : Nat) (body : SF) (ds : List D) (st : Store) : runDef n body ds st = (match body (ds.map some ++ List.replicate (n - ds.length) none) st with
  | .next _ st' => .ok .non st'
  | .ret d st' => .ok d st'
  | .exc _ x st' => .exc x st'
  | _ => .bad) := (Eq.refl _).trans rfl
@[simp] theorem sSeq_ap (f g : SF) (env : AEnv) (st : Store) : sSeq f g env st = (sThen (f env st) g) := (Eq.refl _).trans rfl
@[simp] theorem sNil_ap  (env : AEnv) (st : Store) : sNil  env st = (.next env st) := (Eq.refl _).trans rfl
@[simp] theorem sSet_ap (i : Nat) (fe : EF) (env : AEnv) (st : Store) : sSet i fe env st = (sOf (fe env st) env fun d st1 => .next (env.set i (some d)) st1) := (Eq.refl _).trans rfl
@[simp] theorem sDrop_ap (fe : EF) (env : AEnv) (st : Store) : sDrop fe env st = (sOf (fe env st) env fun _ st1 => .next env st1) := (Eq.refl _).trans rfl
@[simp] theorem sRet_ap (fe : EF) (env : AEnv) (st : Store) : sRet fe env st = (sOf (fe env st) env fun d st1 => .ret d st1) := (Eq.refl _).trans rfl
@[simp] theorem sRetN_ap  (env : AEnv) (st : Store) : sRetN  env st = (.ret .non st) := (Eq.refl _).trans rfl
@[simp] theorem sIf_ap (fc : BF) (f g : SF) (env : AEnv) (st : Store) : sIf fc f g env st = (sOf (fc env st) env fun b st1 => if b then f env st1 else g env st1) := (Eq.refl _).trans rfl
@[simp] theorem sBrk_ap  (env : AEnv) (st : Store) : sBrk  env st = (.brk env st) := (Eq.refl _).trans rfl
@[simp] theorem sCont_ap  (env : AEnv) (st : Store) : sCont  env st = (.cont env st) := (Eq.refl _).trans rfl
@[simp] theorem sAsg_ap (t : Tgt) (fe : EF) (env : AEnv) (st : Store) : sAsg t fe env st = (sOf (fe env st) env fun d st1 => match asgT t d env with
  | some env' => .next env' st1
  | none => .bad) := (Eq.refl _).trans rfl
@[simp] theorem eVar_ap (i : Nat) (env : AEnv) (st : Store) : eVar i env st = (match env[i]? with
  | some (some d) => .ok d st
  | _ => .bad) := (Eq.refl _).trans rfl
@[simp] theorem eC_ap (d : D) (env : AEnv) (st : Store) : eC d env st = (.ok d st) := (Eq.refl _).trans rfl
@[simp] theorem e1_ap (g : D → Store → R D) (fa : EF) (env : AEnv) (st : Store) : e1 g fa env st = ((fa env st).bind fun x st1 => g x st1) := (Eq.refl _).trans rfl
@[simp] theorem e2_ap (g : D → D → Store → R D) (fa fb : EF) (env : AEnv) (st : Store) : e2 g fa fb env st = ((fa env st).bind fun x st1 => (fb env st1).bind fun y st2 => g x y st2) := (Eq.refl _).trans rfl
@[simp] theorem eCall_ap (m : List D → Store → R D) (fa : LF) (env : AEnv) (st : Store) : eCall m fa env st = ((fa env st).bind fun ds st1 => gcH st1 (m ds st1)) := by
  unfold eCall gcH
  simp only [hid_eq]
@[simp] theorem lNil_ap  (env : AEnv) (st : Store) : lNil  env st = (.ok [] st) := (Eq.refl _).trans rfl
@[simp] theorem lCons_ap (fa : EF) (fr : LF) (env : AEnv) (st : Store) : lCons fa fr env st = ((fa env st).bind fun d st1 => (fr env st1).bind fun ds st2 => .ok (d :: ds) st2) := (Eq.refl _).trans rfl
@[simp] theorem eAnd_ap (fa fb : EF) (env : AEnv) (st : Store) : eAnd fa fb env st = ((fa env st).bind fun d st1 => match truD d st1 with
  | some true => fb env st1
  | some false => .ok d st1
  | none => .bad) := (Eq.refl _).trans rfl
@[simp] theorem eOr_ap (fa fb : EF) (env : AEnv) (st : Store) : eOr fa fb env st = ((fa env st).bind fun d st1 => match truD d st1 with
  | some false => fb env st1
  | some true => .ok d st1
  | none => .bad) := (Eq.refl _).trans rfl
@[simp] theorem eNot_ap (fa : EF) (env : AEnv) (st : Store) : eNot fa env st = ((fa env st).bind fun d st1 => match truD d st1 with
  | some b => .ok (.bl (!b)) st1
  | none => .bad) := (Eq.refl _).trans rfl
@[simp] theorem eIf_ap (fc : BF) (fa fb : EF) (env : AEnv) (st : Store) : eIf fc fa fb env st = ((fc env st).bind fun b st1 => if b then fa env st1 else fb env st1) := (Eq.refl _).trans rfl
@[simp] theorem bTru_ap (fe : EF) (env : AEnv) (st : Store) : bTru fe env st = ((fe env st).bind fun d st1 => match truD d st1 with
  | some b => .ok b st1
  | none => .bad) := (Eq.refl _).trans rfl
@[simp] theorem bNot_ap (fa : BF) (env : AEnv) (st : Store) : bNot fa env st = ((fa env st).bind fun b st1 => .ok (!b) st1) := (Eq.refl _).trans rfl
@[simp] theorem bAnd_ap (fa fb : BF) (env : AEnv) (st : Store) : bAnd fa fb env st = ((fa env st).bind fun b st1 => if b then fb env st1 else .ok false st1) := (Eq.refl _).trans rfl
@[simp] theorem bOr_ap (fa fb : BF) (env : AEnv) (st : Store) : bOr fa fb env st = ((fa env st).bind fun b st1 => if b then .ok true st1 else fb env st1) := (Eq.refl _).trans rfl
@[simp] theorem bB_ap (fe : EF) (env : AEnv) (st : Store) : bB fe env st = ((fe env st).bind fun d st1 => match d with
  | .bl b => .ok b st1
  | _ => .bad) := (Eq.refl _).trans rfl
@[simp] theorem eIsi_ap (Ts : List String) (fe : EF) (env : AEnv) (st : Store) : eIsi Ts fe env st = ((fe env st).bind fun d st1 => match kindD d st1 with
  | some k => .ok (.bl (subT Ts k)) st1
  | none => .bad) := (Eq.refl _).trans rfl
@[simp] theorem eChain_ap (g g' : D → D → Store → R D) (fa fb fc : EF) (env : AEnv) (st : Store) : eChain g g' fa fb fc env st = ((fa env st).bind fun x st1 => (fb env st1).bind fun y st2 => (g x y st2).bind fun z st3 => match z with
  | .bl true => (fc env st3).bind fun w st4 => g' y w st4
  | .bl false => .ok (.bl false) st3
  | _ => .bad) := (Eq.refl _).trans rfl
@[simp] theorem eTup_ap (fr : LF) (env : AEnv) (st : Store) : eTup fr env st = ((fr env st).bind fun ds st1 => okIf (ds.length ≤ sizeLine) (.ok (.tup ds) st1)) := by first | (simp only [eTup, ite_okIf]; done) | (simp only [eTup, ite_okIf]; rfl)
@[simp] theorem lLst_ap (fr : LF) (env : AEnv) (st : Store) : lLst fr env st = ((fr env st).bind fun ds st1 => okIf (ds.length ≤ sizeLine) (.ok ds st1)) := by first | (simp only [lLst, ite_okIf]; done) | (simp only [lLst, ite_okIf]; rfl)
@[simp] theorem eLst_ap (fl : LF) (env : AEnv) (st : Store) : eLst fl env st = ((fl env st).bind fun ds st1 => .ok (.ref st1.length) (st1 ++ [.lst ds])) := (Eq.refl _).trans rfl
@[simp] theorem lRd_ap (fe : EF) (env : AEnv) (st : Store) : lRd fe env st = ((fe env st).bind fun d st1 => match seqOf d st1 with
  | some ds => .ok ds st1
  | none => .bad) := (Eq.refl _).trans rfl
@[simp] theorem lRef_ap (fe : EF) (env : AEnv) (st : Store) : lRef fe env st = ((fe env st).bind fun d st1 => match d with
  | .ref n => (match st1[n]? with
    | some (.lst ds) => .ok ds st1
    | _ => .bad)
  | _ => .bad) := (Eq.refl _).trans rfl
@[simp] theorem eQ_ap (g : List D → Store → R D) (fl : LF) (env : AEnv) (st : Store) : eQ g fl env st = ((fl env st).bind g) := (Eq.refl _).trans rfl
@[simp] theorem lQ_ap (g : List D → Store → R (List D)) (fl : LF) (env : AEnv) (st : Store) : lQ g fl env st = ((fl env st).bind g) := (Eq.refl _).trans rfl
@[simp] theorem eB_ap (g : List D → Store → R D) (fr : LF) (env : AEnv) (st : Store) : eB g fr env st = ((fr env st).bind g) := (Eq.refl _).trans rfl
@[simp] theorem iSeqF_ap (fe : EF) (env : AEnv) (st : Store) : iSeqF fe env st = ((fe env st).bind fun d st1 => match d with
  | .tup ds => .ok (ds, []) st1
  | .ref n => (match seqOf (.ref n) st1 with
    | some ds => .ok (ds, [(n, ds)]) st1
    | none => .bad)
  | _ => .bad) := (Eq.refl _).trans rfl
@[simp] theorem iLstF_ap (fl : LF) (env : AEnv) (st : Store) : iLstF fl env st = ((fl env st).bind fun ds st1 => .ok (ds, []) st1) := (Eq.refl _).trans rfl
theorem rngR_eq {i j : Int} {n : Nat} {st : Store} (e : j = i + n) (h : n ≤ 1000000) (h0 : -1000000 ≤ i) (h1 : i ≤ 1000000) : rngR i j st = .ok (rangeD i n, []) st := by
  have h2 : (2 : Int) ^ 62 = 4611686018427387904 := by decide
  unfold rngR
  rw [hid_eq, h2]
  have : -4611686018427387904 ≤ i ∧ i < 4611686018427387904 ∧ -4611686018427387904 ≤ j ∧ j < 4611686018427387904 := by omega
  rw [if_pos this]
  have : (j - i).toNat = n := by omega
  rw [this]
theorem rngR1_eq {j : Int} {n : Nat} {st : Store} (e : j = n) (h : n ≤ 1000000) : rngR1 j st = .ok (rangeD 0 n, []) st := by
  have h2 : (2 : Int) ^ 62 = 4611686018427387904 := by decide
  unfold rngR1
  rw [hid_eq, h2]
  have : -4611686018427387904 ≤ j ∧ j < 4611686018427387904 := by omega
  rw [if_pos this]
  have : j.toNat = n := by omega
  rw [this]
theorem rngR_nat {n : Nat} {st : Store} (h : n ≤ 1000000) : rngR1 (n : Int) st = .ok (rangeD 0 n, []) st := rngR1_eq rfl h
theorem rngR_suc {n : Nat} {st : Store} (h : n + 1 ≤ 1000000) : rngR1 ((n : Int) + 1) st = .ok (rangeD 0 (n + 1), []) st := rngR1_eq (by omega) h
@[simp] theorem iRng1F_ap (fa : LF) (env : AEnv) (st : Store) : iRng1F fa env st = ((fa env st).bind fun ds st1 => match ds with
  | [.int j] => rngR1 j st1
  | _ => .bad) := (Eq.refl _).trans rfl
@[simp] theorem iRng2F_ap (fa : LF) (env : AEnv) (st : Store) : iRng2F fa env st = ((fa env st).bind fun ds st1 => match ds with
  | [.int i, .int j] => rngR i j st1
  | _ => .bad) := (Eq.refl _).trans rfl
@[simp] theorem iTupF_ap (fe : EF) (env : AEnv) (st : Store) : iTupF fe env st = ((fe env st).bind fun d st1 => match d with
  | .tup ds => .ok (ds, []) st1
  | _ => .bad) := (Eq.refl _).trans rfl
@[simp] theorem bYes_ap  (env : AEnv) (st : Store) : bYes  env st = (.ok true st) := (Eq.refl _).trans rfl
@[simp] theorem sSub_ap (fo fi fe : EF) (env : AEnv) (st : Store) : sSub fo fi fe env st = (sOf (fe env st) env fun y st1 => sOf (fo env st1) env fun x st2 => sOf (fi env st2) env fun i st3 => match x, i with
  | .ref n, .int k => (match st3[n]? with
    | some (.lst xs) => (match ixN xs.length k with
      | some j => .next env (st3.set n (.lst (xs.set j y)))
      | none => .bad)
    | _ => .bad)
  | _, _ => .bad) := (Eq.refl _).trans rfl
@[simp] theorem eM_ap (ok : D → Store → Bool) (g : D → List D → Store → R D) (fo : EF) (fr : LF) (env : AEnv) (st : Store) : eM ok g fo fr env st = ((fo env st).bind fun x st1 => if ok x st1 then (fr env st1).bind fun ds st2 => g x ds st2 else .bad) := (Eq.refl _).trans rfl
@[simp] theorem extendF_ap (fo : EF) (fl : LF) (env : AEnv) (st : Store) : extendF fo fl env st = ((fo env st).bind fun x st1 => if isLst x st1 then (fl env st1).bind fun ys st2 => match x with
  | .ref n => (match st2[n]? with
    | some (.lst xs) => okIf (xs.length + ys.length ≤ sizeLine) (.ok .non (st2.set n (.lst (xs ++ ys))))
    | _ => .bad)
  | _ => .bad else .bad) := by first | (simp only [extendF, ite_okIf]; done) | (simp only [extendF, ite_okIf]; rfl)
@[simp] theorem eSl_ap (fe : EF) (fl fh : OF) (env : AEnv) (st : Store) : eSl fe fl fh env st = ((fe env st).bind fun x st1 => (fl env st1).bind fun lo st2 => (fh env st2).bind fun hi st3 => match x with
  | .tup ds => .ok (.tup (cutD ds lo hi)) st3
  | _ => .bad) := (Eq.refl _).trans rfl
@[simp] theorem lSl_ap (fe : EF) (fl fh : OF) (env : AEnv) (st : Store) : lSl fe fl fh env st = ((fe env st).bind fun x st1 => (fl env st1).bind fun lo st2 => (fh env st2).bind fun hi st3 => match x with
  | .ref n => (match seqOf (.ref n) st3 with
    | some ds => .ok (cutD ds lo hi) st3
    | none => .bad)
  | _ => .bad) := (Eq.refl _).trans rfl
@[simp] theorem oNone_ap  (env : AEnv) (st : Store) : oNone  env st = (.ok none st) := (Eq.refl _).trans rfl
@[simp] theorem oSome_ap (fe : EF) (env : AEnv) (st : Store) : oSome fe env st = ((fe env st).bind fun d st1 => match d with
  | .int i => .ok (some i) st1
  | _ => .bad) := (Eq.refl _).trans rfl
@[simp] theorem lCat_ap (fl fl' : LF) (env : AEnv) (st : Store) : lCat fl fl' env st = ((fl env st).bind fun xs st1 => (fl' env st1).bind fun ys st2 => okIf (xs.length + ys.length ≤ sizeLine) (.ok (xs ++ ys) st2)) := by first | (simp only [lCat, ite_okIf]; done) | (simp only [lCat, ite_okIf]; rfl)
@[simp] theorem lCatE_ap (fa : EF) (fl : LF) (env : AEnv) (st : Store) : lCatE fa fl env st = ((fa env st).bind fun x st1 => (fl env st1).bind fun ys st2 => match x with
  | .ref n => (match st2[n]? with
    | some (.lst xs) => okIf (xs.length + ys.length ≤ sizeLine) (.ok (xs ++ ys) st2)
    | _ => .bad)
  | _ => .bad) := by first | (simp only [lCatE, ite_okIf]; done) | (simp only [lCatE, ite_okIf]; rfl)
@[simp] theorem sRaise_ap (x : Str) (env : AEnv) (st : Store) : sRaise x env st = (.exc env ⟨x, []⟩ st) := (Eq.refl _).trans rfl
@[simp] theorem iEnumF_ap (fr : LF) (env : AEnv) (st : Store) : iEnumF fr env st = ((fr env st).bind fun ds st1 => match ds with
  | [.tup xs] => .ok (enumFrom 0 xs, []) st1
  | [.ref n] => (match seqOf (.ref n) st1 with
    | some xs => .ok (enumFrom 0 xs, [(n, xs)]) st1
    | none => .bad)
  | _ => .bad) := (Eq.refl _).trans rfl
@[simp] theorem iEnumL_ap (fl : LF) (env : AEnv) (st : Store) : iEnumL fl env st = ((fl env st).bind fun ds st1 => .ok (enumFrom 0 ds, []) st1) := (Eq.refl _).trans rfl
@[simp] theorem iZipA_ap (fr : LF) (env : AEnv) (st : Store) : iZipA fr env st = ((fr env st).bind fun ds st1 => match ds with
  | [.tup xs, .tup ys] => .ok (zipD xs ys, []) st1
  | [.ref n, .ref m] => (match seqOf (.ref n) st1, seqOf (.ref m) st1 with
    | some xs, some ys => .ok (zipD xs ys, [(n, xs), (m, ys)]) st1
    | _, _ => .bad)
  | _ => .bad) := (Eq.refl _).trans rfl
@[simp] theorem lRng1_ap (fe : EF) (env : AEnv) (st : Store) : lRng1 fe env st = ((fe env st).bind fun d st1 => match d with
  | .int j => okIf (rgOk 0 j) (.ok (rangeD 0 j.toNat) st1)
  | _ => .bad) := by first | (simp only [lRng1, hid_eq, ite_okIf]; done) | (simp only [lRng1, hid_eq, ite_okIf]; rfl)
@[simp] theorem eRng1_ap (fe : EF) (env : AEnv) (st : Store) : eRng1 fe env st = ((fe env st).bind fun d st1 => match d with
  | .int j => okIf (rgOk 0 j) (.ok (.tup (rangeD 0 j.toNat)) st1)
  | _ => .bad) := by first | (simp only [eRng1, hid_eq, ite_okIf]; done) | (simp only [eRng1, hid_eq, ite_okIf]; rfl)
@[simp] theorem truD_non (st : Store) : truD .non st = some false := (Eq.refl _).trans rfl
@[simp] theorem truD_bl (b : Bool) (st : Store) : truD (.bl b) st = some b := (Eq.refl _).trans rfl
@[simp] theorem truD_int (i : Int) (st : Store) : truD (.int i) st = some (i != 0) := (Eq.refl _).trans rfl
@[simp] theorem truD_tup (ds : List D) (st : Store) : truD (.tup ds) st = some (!ds.isEmpty) := (Eq.refl _).trans rfl
@[simp] theorem truD_ref (n : Nat) (st : Store) : truD (.ref n) st = (seqOf (.ref n) st).map fun ds => !ds.isEmpty := (Eq.refl _).trans rfl
@[simp] theorem kindD_non (st : Store) : kindD .non st = some "NoneType" := (Eq.refl _).trans rfl
@[simp] theorem kindD_bl (b : Bool) (st : Store) : kindD (.bl b) st = some "bool" := (Eq.refl _).trans rfl
@[simp] theorem kindD_int (b : Int) (st : Store) : kindD (.int b) st = some "int" := (Eq.refl _).trans rfl
@[simp] theorem kindD_str (b : Str) (st : Store) : kindD (.str b) st = some "str" := (Eq.refl _).trans rfl
@[simp] theorem kindD_tup (b : List D) (st : Store) : kindD (.tup b) st = some "tuple" := (Eq.refl _).trans rfl
@[simp] theorem kindD_ref (n : Nat) (st : Store) : kindD (.ref n) st = (match st[n]? with
    | some (.lst _) => some "list"
    | some (.rol _) => some "list"
    | some (.dct _) => some "dict"
    | some (.dcT _) => some "dict"
    | _ => none) := (Eq.refl _).trans rfl
@[simp] theorem subT_nil (k : String) : subT [] k = false := (Eq.refl _).trans rfl
@[simp] theorem subT_cons (T : String) (Ts : List String) (k : String) : subT (T :: Ts) k = ((k == T || (k == "bool" && T == "int")) || subT Ts k) := (Eq.refl _).trans rfl
@[simp] theorem addD_bi (k : Bool) (j : Int) (st : Store) : addD (.bl k) (.int j) st = .ok (.int (b2i k + j)) st := (Eq.refl _).trans rfl
@[simp] theorem addD_int (i j : Int) (st : Store) : addD (.int i) (.int j) st = .ok (.int (i + j)) st := (Eq.refl _).trans rfl
@[simp] theorem addD_tup (xs ys : List D) (st : Store) : addD (.tup xs) (.tup ys) st = okIf (xs.length + ys.length ≤ sizeLine) (.ok (.tup (xs ++ ys)) st) := by rw [← ite_okIf]; rfl
@[simp] theorem subD_int (i j : Int) (st : Store) : subD (.int i) (.int j) st = .ok (.int (i - j)) st := (Eq.refl _).trans rfl
@[simp] theorem negD_int (i : Int) (st : Store) : negD (.int i) st = .ok (.int (-i)) st := (Eq.refl _).trans rfl
@[simp] theorem mulD_int (i j : Int) (st : Store) : mulD (.int i) (.int j) st = okIf (mulOk i j) (.ok (.int (i * j)) st) := by rw [← ite_okIf]; rfl
@[simp] theorem mulD_tup (xs : List D) (k : Int) (st : Store) : mulD (.tup xs) (.int k) st = okIf (-1000000 ≤ k ∧ k ≤ 1000 ∧ xs.length ≤ 1000) (.ok (.tup (List.replicate k.toNat xs).flatten) st) := by rw [← ite_okIf]; rfl
@[simp] theorem divD_int (i j : Int) (st : Store) : divD (.int i) (.int j) st = okIf (divOk j) (.ok (.int (i / j)) st) := by rw [← ite_okIf]; rfl
@[simp] theorem modD_int (i j : Int) (st : Store) : modD (.int i) (.int j) st = okIf (0 < j) (.ok (.int (i % j)) st) := by rw [← ite_okIf]; rfl
@[simp] theorem intCmp_int (g : Int → Int → Bool) (i j : Int) (st : Store) : intCmp g (.int i) (.int j) st = .ok (.bl (g i j)) st := (Eq.refl _).trans rfl
@[simp] theorem seqOf_tup (ds : List D) (st : Store) : seqOf (.tup ds) st = some ds := (Eq.refl _).trans rfl
@[simp] theorem seqOf_ref (n : Nat) (st : Store) : seqOf (.ref n) st = (match st[n]? with
    | some (.lst ds) => some ds
    | some (.rol ds) => some ds
    | _ => none) := (Eq.refl _).trans rfl
@[simp] theorem lenG_eq (ds : List D) (st : Store) : lenG ds st = .ok (.int ds.length) st := (Eq.refl _).trans rfl
@[simp] theorem tupG_eq (ds : List D) (st : Store) : tupG ds st = .ok (.tup ds) st := (Eq.refl _).trans rfl
@[simp] theorem lstG_eq (ds : List D) (st : Store) : lstG ds st = .ok ds st := (Eq.refl _).trans rfl
@[simp] theorem isND_eq (x : D) (st : Store) : isND x .non st = .ok (.bl (isNonD x)) st := (Eq.refl _).trans rfl
@[simp] theorem notND_eq (x : D) (st : Store) : notND x .non st = .ok (.bl (!isNonD x)) st := (Eq.refl _).trans rfl
@[simp] theorem isNonD_non : isNonD .non = true := (Eq.refl _).trans rfl
@[simp] theorem isNonD_int (i : Int) : isNonD (.int i) = false := (Eq.refl _).trans rfl
@[simp] theorem isNonD_tup (i : List D) : isNonD (.tup i) = false := (Eq.refl _).trans rfl
@[simp] theorem isLst_ref (n : Nat) (st : Store) : isLst (.ref n) st = (match st[n]? with | some (.lst _) => true | _ => false) := (Eq.refl _).trans rfl
@[simp] theorem intG_int (i : Int) (st : Store) : intG [.int i] st = .ok (.int i) st := (Eq.refl _).trans rfl
@[simp] theorem absG_int (i : Int) (st : Store) : absG [.int i] st = .ok (.int (if i < 0 then -i else i)) st := (Eq.refl _).trans rfl
theorem getD_tup (ds : List D) (i : Int) (st : Store) : getD (.tup ds) (.int i) st = (match atI ds i with
        | some d => .ok d st
        | none => .bad) := rfl
theorem getD_ref (n : Nat) (i : Int) (st : Store) : getD (.ref n) (.int i) st = (match seqOf (.ref n) st with
      | some ds => (match atI ds i with
        | some d => .ok d st
        | none => .bad)
      | none => .bad) := rfl
@[simp] theorem asgT_name (i : Nat) (d : D) (env : AEnv) : asgT (.name i) d env = some (env.set i (some d)) := (Eq.refl _).trans rfl
@[simp] theorem asgT_tup (ts : List Tgt) (ds : List D) (env : AEnv) : asgT (.tup ts) (.tup ds) env = asgTs ts ds env := (Eq.refl _).trans rfl
@[simp] theorem asgTs_nil (env : AEnv) : asgTs [] [] env = some env := (Eq.refl _).trans rfl
@[simp] theorem asgTs_cons (t : Tgt) (ts : List Tgt) (d : D) (ds : List D) (env : AEnv) : asgTs (t :: ts) (d :: ds) env = (match asgT t d env with
    | some env' => asgTs ts ds env'
    | none => none) := (Eq.refl _).trans rfl
@[simp] theorem wipeE_nil (env : AEnv) : wipeE env [] = env := (Eq.refl _).trans rfl
@[simp] theorem wipeE_cons (env : AEnv) (v : Nat) (vs : List Nat) : wipeE env (v :: vs) = (wipeE env vs).set v none := (Eq.refl _).trans rfl
section
variable {G : GX} {st st' : Store} {env : AEnv} {n : Nat}
/-! ### calls -/
theorem trim_refl (st : Store) : Trim st st := fun i h => .inl rfl
theorem trim_app (st x : Store) : Trim st (st ++ x) := fun i h => .inl (List.getElem?_append_left h)
theorem gcR_ok {d : D} (x : Store) (h : closed st.length d = true) : gcH st (.ok d (st ++ x)) = .ok d st := by
  unfold gcH
  rw [hid_eq]
  unfold gcR
  simp [trim_app, h]
theorem gcR_same {d : D} (h : closed st.length d = true) : gcH st (.ok d st) = .ok d st := by
  have := gcR_ok (st := st) (d := d) [] h
  simpa using this
@[simp] theorem gcR_int (i : Int) : gcH st (.ok (.int i) st) = .ok (.int i) st := gcR_same rfl
@[simp] theorem gcR_bl (i : Bool) : gcH st (.ok (.bl i) st) = .ok (.bl i) st := gcR_same rfl
@[simp] theorem gcR_non : gcH st (.ok .non st) = .ok .non st := gcR_same rfl
theorem closeds_ints (n : Nat) : ∀ ns : List Int, closeds n (ns.map D.int) = true
  | [] => rfl
  | _ :: ns => by simp [closeds, closed, closeds_ints n ns]
@[simp] theorem gcR_ints (ns : List Int) : gcH st (.ok (.tup (ns.map D.int)) st) = .ok (.tup (ns.map D.int)) st := gcR_same (by simp [closed, closeds_ints])
/-- one object of the store changed -/
theorem gcR_set {d : D} {o : AO} (h : closed st.length d = true) (ho : closedO st.length o = true) : gcH st (.ok d (st.set n o)) = .ok d (st.set n o) := by
  have ht : Trim st (st.set n o) := fun i hi => by
    by_cases e : n = i
    · subst e; exact .inr ⟨o, by simp [hi], ho⟩
    · exact .inl (by simp [List.getElem?_set_ne e])
  have hk : (st.set n o).take st.length = st.set n o := List.take_of_length_le (by simp)
  unfold gcH
  rw [hid_eq]
  unfold gcR
  simp [ht, h, hk]
theorem lDrop_ok {fe : EF} {ds : List D} (e : fe env st = .ok (.ref st.length) (st ++ [.lst ds])) (h : closeds st.length ds = true) : lDrop fe env st = .ok ds st := by
  unfold lDrop
  rw [e]
  simp [trim_app, h]
theorem lDrop_gen {fe : EF} {ds : List D} {k : Nat} {x : Store} (e : fe env st = .ok (.ref k) (st ++ x)) (hk : st.length ≤ k) (h0 : (st ++ x)[k]? = some (.lst ds)) (h : closeds st.length ds = true) : lDrop fe env st = .ok ds st := by
  unfold lDrop
  rw [e]
  simp only
  rw [if_pos ⟨trim_app _ _, hk⟩, h0]
  simp [h]
/-- a call that gives a new list back -/
theorem gcR_new {ds : List D} (x y : Store) (h : closeds st.length ds = true) (k : Nat) (hk : (st ++ x)[k]? = some (.lst ds)) (hk2 : st.length ≤ k) : gcH st (.ok (.ref k) (st ++ x)) = .ok (.ref st.length) (st ++ [.lst ds]) := by
  have hc : closed st.length (.ref k) = false := by simp [closed]; omega
  unfold gcH
  rw [hid_eq]
  unfold gcR
  simp [trim_app, hc, hk, closedO, h]
/-! ### loops -/
theorem loopF_inv {t : Tgt} {body : SF} {g : Its} {ds : List D} (I : Nat → AEnv → Store → Prop)
    (hs : ∀ i d env st, I i env st → ds[i]? = some d → ∃ env1, asgT t d env = some env1 ∧ ∃ e s, (body env1 st = .next e s ∨ body env1 st = .cont e s) ∧ gOK g s ∧ I (i + 1) e s)
    (h0 : I 0 env st) : ∃ e s, loopF t body g ds env st = .next e s ∧ I ds.length e s := by
  have key : ∀ (r : List D) (i : Nat), ds.drop i = r → i + r.length = ds.length → ∀ env st, I i env st → ∃ e s, loopF t body g r env st = .next e s ∧ I ds.length e s := by
    intro r
    induction r with
    | nil =>
      intro i hd hl env st hi
      have e : i = ds.length := by simpa using hl
      exact ⟨env, st, by simp [loopF], e ▸ hi⟩
    | cons d r ih =>
      intro i hd hl env st hi
      have hd0 : ds[i]? = some d := by
        have : (ds.drop i)[0]? = some d := by rw [hd]; rfl
        simpa using this
      obtain ⟨env1, ea, e, s, hb, hg, hI⟩ := hs i d env st hi hd0
      obtain ⟨e', s', h1, h2⟩ := ih (i + 1) (by rw [← List.drop_drop, hd]; rfl) (by simp at hl; omega) e s hI
      refine ⟨e', s', ?_, h2⟩
      rcases hb with hb | hb
      · simp [loopF, ea, hb, hg, h1]
      · simp [loopF, ea, hb, hg, h1]
  exact key ds 0 rfl (by simp) env st h0
theorem loopF_next {t : Tgt} {body : SF} {g : Its} {ds : List D} {r : RS} (hr : loopF t body g ds env st = r) (I : Nat → AEnv → Store → Prop) (h0 : I 0 env st)
    (hs : ∀ i d env st, I i env st → ds[i]? = some d → ∃ env1, asgT t d env = some env1 ∧ ∃ e s, (body env1 st = .next e s ∨ body env1 st = .cont e s) ∧ gOK g s ∧ I (i + 1) e s) : ∃ e s, r = .next e s ∧ I ds.length e s := by
  subst hr
  exact loopF_inv I hs h0
open Classical in
@[simp] theorem sFor_ap (t : Tgt) (fi : IF) (body : SF) (e_ : AEnv) (st_ : Store) : sFor t fi body e_ st_ = sOf (fi e_ st_) e_ fun g st1 => if gOK g st1 then loopF t body g g.1 e_ st1 else .bad := by
  unfold sFor
  rfl
theorem compL_inv {t : Tgt} {c : BF} {elt : EF} {g : Its} {ds : List D} (I : Nat → List D → Store → Prop)
    (hs : ∀ i d acc st, I i acc st → ds[i]? = some d → ∃ env1, asgT t d env = some env1 ∧ ((∃ y s1 s2, c env1 st = .ok true s1 ∧ elt env1 s1 = .ok y s2 ∧ gOK g s2 ∧ I (i + 1) (acc ++ [y]) s2) ∨ ∃ s1, c env1 st = .ok false s1 ∧ gOK g s1 ∧ I (i + 1) acc s1))
    (h0 : I 0 [] st) : ∃ ys s, compL t c elt g ds env st = .ok ys s ∧ I ds.length ys s := by
  have key : ∀ (r : List D) (i : Nat), ds.drop i = r → i + r.length = ds.length → ∀ acc st, I i acc st → ∃ ys s, compL t c elt g r env st = .ok ys s ∧ I ds.length (acc ++ ys) s := by
    intro r
    induction r with
    | nil =>
      intro i hd hl acc st hi
      have e : i = ds.length := by simpa using hl
      exact ⟨[], st, by simp [compL], by simpa using e ▸ hi⟩
    | cons d r ih =>
      intro i hd hl acc st hi
      have hd0 : ds[i]? = some d := by
        have : (ds.drop i)[0]? = some d := by rw [hd]; rfl
        simpa using this
      obtain ⟨env1, ea, hb⟩ := hs i d acc st hi hd0
      rcases hb with ⟨y, s1, s2, h1, h2, hg, hI⟩ | ⟨s1, h1, hg, hI⟩
      · obtain ⟨ys, s', h3, h4⟩ := ih (i + 1) (by rw [← List.drop_drop, hd]; rfl) (by simp at hl; omega) _ s2 hI
        exact ⟨y :: ys, s', by simp [compL, ea, h1, h2, hg, h3], by simpa using h4⟩
      · obtain ⟨ys, s', h3, h4⟩ := ih (i + 1) (by rw [← List.drop_drop, hd]; rfl) (by simp at hl; omega) _ s1 hI
        exact ⟨ys, s', by simp [compL, ea, h1, hg, h3], h4⟩
  obtain ⟨ys, s, h1, h2⟩ := key ds 0 rfl (by simp) [] st h0
  exact ⟨ys, s, h1, by simpa using h2⟩
theorem compL_map {t : Tgt} {c : BF} {elt : EF} {g : Its} (p : D → Bool) (f : D → D) (hg : gOK g st) : ∀ ds : List D,
    (∀ d ∈ ds, ∃ env1, asgT t d env = some env1 ∧ c env1 st = .ok (p d) st ∧ (p d = true → elt env1 st = .ok (f d) st)) → compL t c elt g ds env st = .ok ((ds.filter p).map f) st
  | [], _ => by simp [compL]
  | d :: ds, h => by
    obtain ⟨env1, h1, h2, h3⟩ := h d List.mem_cons_self
    have ih := compL_map (t := t) (c := c) (elt := elt) p f hg ds fun x hx => h x (List.mem_cons_of_mem _ hx)
    cases q : p d with
    | true => simp [compL, h1, h2, q, h3 q, hg, ih]
    | false => simp [compL, h1, h2, q, hg, ih]
theorem compL_ok {t : Tgt} {c : BF} {elt : EF} {g : Its} {ds : List D} {r : R (List D)} (hr : compL t c elt g ds env st = r) (I : Nat → List D → Store → Prop) (h0 : I 0 [] st)
    (hs : ∀ i d acc st, I i acc st → ds[i]? = some d → ∃ env1, asgT t d env = some env1 ∧ ((∃ y s1 s2, c env1 st = .ok true s1 ∧ elt env1 s1 = .ok y s2 ∧ gOK g s2 ∧ I (i + 1) (acc ++ [y]) s2) ∨ ∃ s1, c env1 st = .ok false s1 ∧ gOK g s1 ∧ I (i + 1) acc s1)) :
    ∃ ys s, r = .ok ys s ∧ I ds.length ys s := by
  subst hr
  exact compL_inv I hs h0
theorem compL_mapE {t : Tgt} {c : BF} {elt : EF} {g : Its} {ds : List D} {r : R (List D)} (hr : compL t c elt g ds env st = r) (hg : gOK g st) (p : D → Bool) (f : D → D)
    (h : ∀ d ∈ ds, ∃ env1, asgT t d env = some env1 ∧ c env1 st = .ok (p d) st ∧ (p d = true → elt env1 st = .ok (f d) st)) : r = .ok ((ds.filter p).map f) st := by
  subst hr
  exact compL_map p f hg ds h
open Classical in
@[simp] theorem compF_ap (vs : List Nat) (fi : IF) (t : Tgt) (c : BF) (elt : EF) (e_ : AEnv) (st_ : Store) :
    compF vs fi t c elt e_ st_ = (fi e_ st_).bind fun g st1 => okIf (gOK g st1 ∧ g.1.length ≤ sizeLine) (noX (compL t c elt g g.1 (wipeE e_ vs) st1)) := by
  unfold compF
  simp only [ite_okIf]
@[simp] theorem rangeD_lenS (lo : Int) (n : Nat) : (rangeD lo n).length = n := by simp [rangeD]
theorem rangeD_mem {lo : Int} {n : Nat} {d : D} (h : d ∈ rangeD lo n) : ∃ i, i < n ∧ d = .int (lo + i) := by
  unfold rangeD at h
  obtain ⟨i, h1, h2⟩ := List.mem_map.mp h
  exact ⟨i, List.mem_range.mp h1, h2.symm⟩
theorem szl {n : Nat} (h : n ≤ 1000000) : n ≤ sizeLine := Nat.le_trans h (by decide)
/-! ### comparing -/
mutual
/-- no list, no instance in it -/
def plainD : Nat → D → Bool
  | _, .non => true
  | _, .bl _ => true
  | _, .int _ => true
  | _, .str _ => true
  | 0, .tup _ => false
  | k + 1, .tup ds => plainDs k ds
  | _, .ref _ => false
  | _, .cls _ => false
def plainDs : Nat → List D → Bool
  | _, [] => true
  | k, d :: ds => plainD k d && plainDs k ds
end
def pyI (ns : List Int) : List PyData := ns.map PyData.int
theorem toPws_ints (f : Nat → Option PyData) : ∀ ns : List Int, toPws f (ns.map D.int) = some (pyI ns)
  | [] => rfl
  | n :: ns => by simp [toPws, toPw, toPws_ints f ns, pyI]
theorem toP_int (i : Int) : toP st 50 (.int i) = some (.int i) := rfl
theorem toP_bl (i : Bool) : toP st 50 (.bl i) = some (.bool i) := rfl
theorem toP_ints (ns : List Int) : toP st 50 (.tup (ns.map D.int)) = some (.tuple (pyI ns)) := by
  show (toPws _ (ns.map D.int)).map PyData.tuple = _
  rw [toPws_ints]; rfl
theorem shaped_int (i : Int) : SeqAt.shaped (.int i) = true := rfl
theorem shaped_bl (i : Bool) : SeqAt.shaped (.bool i) = true := rfl
theorem beq_dec (i j : Int) : (i == j) = decide (i = j) := by
  by_cases h : i = j <;> simp [h]
@[simp] theorem eqD_int (i j : Int) : eqD (.int i) (.int j) st = .ok (.bl (decide (i = j))) st := by
  unfold eqD eqP
  rw [toP_int, toP_int]
  simp [shaped_int, PyData.eqv, beq_dec]
@[simp] theorem neD_int (i j : Int) : neD (.int i) (.int j) st = .ok (.bl (decide (i ≠ j))) st := by
  unfold neD eqP
  rw [toP_int, toP_int]
  simp [shaped_int, PyData.eqv, beq_dec]
@[simp] theorem eqD_bl (i j : Bool) : eqD (.bl i) (.bl j) st = .ok (.bl (i == j)) st := by
  unfold eqD eqP
  rw [toP_bl, toP_bl]
  simp [shaped_bl, PyData.eqv, beq_dec]
@[simp] theorem neD_bl (i j : Bool) : neD (.bl i) (.bl j) st = .ok (.bl (i != j)) st := by
  unfold neD eqP
  rw [toP_bl, toP_bl]
  simp [shaped_bl, PyData.eqv, beq_dec]
  cases i <;> cases j <;> rfl
theorem getD_at {ds : List D} {k : Nat} {d : D} (h : ds[k]? = some d) : getD (.tup ds) (.int (k : Int)) st = .ok d st := by
  rw [getD_tup, atI_nat h]
theorem getq {xs : List Int} {i : Nat} {d : D} (h : (xs.map D.int)[i]? = some d) : ∃ x, d = .int x ∧ xs[i]? = some x ∧ xs.drop i = x :: xs.drop (i + 1) := by
  rw [List.getElem?_map] at h
  cases q : xs[i]? with
  | none => rw [q] at h; cases h
  | some x =>
    rw [q] at h
    cases h
    obtain ⟨hi, e⟩ := List.getElem?_eq_some_iff.mp q
    exact ⟨x, rfl, rfl, by rw [List.drop_eq_getElem_cons hi, e]⟩
theorem getD_i {xs : List Int} {k : Nat} {j : Int} (e : j = k) (h : k < xs.length) : getD (.tup (xs.map D.int)) (.int j) st = .ok (.int (xs.getD k 0)) st := by
  subst e
  refine getD_at ?_
  rw [List.getElem?_map, List.getElem?_eq_getElem h, List.getD_eq_getElem?_getD, List.getElem?_eq_getElem h]
  rfl
theorem getD_l {xs : List Int} {n : Nat} (h : xs.length = n + 1) : getD (.tup (xs.map D.int)) (.int (-1)) st = .ok (.int (xs.getD n 0)) st := by
  obtain ⟨ys, y, rfl⟩ : ∃ ys y, xs = ys ++ [y] := ⟨xs.dropLast, xs.getLast (by intro z; rw [z] at h; cases h), (List.dropLast_concat_getLast _).symm⟩
  have hn : n = ys.length := by simp at h; omega
  subst hn
  rw [getD_tup, List.map_append, List.map_singleton, atI_last]
  simp
theorem map_true (f : D → D) (l : List D) : (l.filter fun d => true).map f = l.map f := by rw [List.filter_eq_self.mpr (fun _ _ => rfl)]
theorem filter_ints (p : Int → Bool) (q : D → Bool) (h : ∀ i, q (.int i) = p i) : ∀ xs : List Int, (xs.map D.int).filter q = (xs.filter p).map D.int
  | [] => rfl
  | x :: xs => by
    have ih := filter_ints p q h xs
    simp only [List.map_cons, List.filter_cons, h, ih]
    by_cases e : p x = true <;> simp [e]
def ltI (d : D) (b : D) : Bool := match d, b with | .int i, .int j => decide (i < j) | _, _ => false
def intOf (d : D) : Int := match d with | .int i => i | _ => 0
theorem depthAll_ints : ∀ ns : List Int, PyData.depthAll (pyI ns) = 0
  | [] => rfl
  | n :: ns => by
    show max _ (PyData.depthAll (pyI ns)) = 0
    rw [depthAll_ints ns]; rfl
theorem canLay_ints : ∀ ns : List Int, PyData.canLayAll0 (pyI ns) = true
  | [] => rfl
  | n :: ns => by
    show (_ && PyData.canLayAll0 (pyI ns)) = true
    rw [canLay_ints ns]; rfl
theorem shaped_ints (ns : List Int) : SeqAt.shaped (.tuple (pyI ns)) = true := by
  unfold SeqAt.shaped
  have h1 : (PyData.tuple (pyI ns)).canLay0 = true := canLay_ints ns
  have h2 : (PyData.tuple (pyI ns)).depth ≤ 64 := by
    show PyData.depthAll (pyI ns) + 1 ≤ 64
    rw [depthAll_ints]; decide
  simp [h1, h2]
theorem eqv_ints : ∀ xs ys : List Int, PyData.eqvAll (pyI xs) (pyI ys) = decide (xs = ys)
  | [], [] => by simp [pyI, PyData.eqvAll]
  | [], _ :: _ => by simp [pyI, PyData.eqvAll]
  | _ :: _, [] => by simp [pyI, PyData.eqvAll]
  | x :: xs, y :: ys => by
    have ih := eqv_ints xs ys
    show (PyData.eqv (.int x) (.int y) && PyData.eqvAll (pyI xs) (pyI ys)) = _
    rw [ih]
    simp [PyData.eqv, beq_dec]
@[simp] theorem eqD_ints (xs ys : List Int) : eqD (.tup (xs.map D.int)) (.tup (ys.map D.int)) st = .ok (.bl (decide (xs = ys))) st := by
  unfold eqD eqP
  rw [toP_ints, toP_ints]
  simp only [shaped_ints, and_self, if_true]
  show R.ok (D.bl (PyData.eqvAll (pyI xs) (pyI ys))) st = _
  rw [eqv_ints]
end
end TK

set_option Elab.async false
set_option linter.all false
set_option maxRecDepth 100000
set_option maxHeartbeats 4000000
namespace TK
open PySem PySem.Spec
open PyProof.Rows hiding St
open L2
/-! # one step of the newer plain functions -/
@[simp] theorem sPar_ap (i j : Nat) (fl : LF) (env : AEnv) (st : Store) : sPar i j fl env st = (sOf (fl env st) env fun ds st1 => match ds with
  | [x, y] => .next ((env.set i (some x)).set j (some y)) st1
  | _ => .bad) := (Eq.refl _).trans rfl
@[simp] theorem sSub2_ap (fo fi fo' fi' fe : EF) (env : AEnv) (st : Store) : sSub2 fo fi fo' fi' fe env st = (sOf (fe env st) env fun d st1 => match d with
  | .tup [y, y'] => sThen (sSub fo fi (eC y) env st1) (sSub fo' fi' (eC y'))
  | _ => .bad) := (Eq.refl _).trans rfl
@[simp] theorem lRep_ap (fl : LF) (fe : EF) (env : AEnv) (st : Store) : lRep fl fe env st = ((fl env st).bind fun xs st1 => (fe env st1).bind fun d st2 => match d with
  | .int k => okIf (-1000000 ≤ k ∧ k ≤ 1000000 ∧ xs.length * k.toNat ≤ sizeLine) (.ok (List.replicate k.toNat xs).flatten st2)
  | _ => .bad) := by first | (simp only [lRep, ite_okIf]; done) | (simp only [lRep, ite_okIf]; rfl)
@[simp] theorem lRng2_ap (fe fe' : EF) (env : AEnv) (st : Store) : lRng2 fe fe' env st = ((fe env st).bind fun d st1 => (fe' env st1).bind fun d' st2 => match d, d' with
  | .int i, .int j => okIf (rgOk i j) (.ok (rangeD i (j - i).toNat) st2)
  | _, _ => .bad) := by first | (simp only [lRng2, hid_eq, ite_okIf]; done) | (simp only [lRng2, hid_eq, ite_okIf]; rfl)
@[simp] theorem sAug_ap (i : Nat) (g : Int → Int → Int) (fe : EF) (env : AEnv) (st : Store) : sAug i g (fun _ _ => True) fe env st = (match env[i]? with
  | some (some (.int x)) => sOf (fe env st) env fun d st1 => match d with
    | .int y => .next (env.set i (some (.int (g x y)))) st1
    | _ => .bad
  | _ => .bad) := (Eq.refl _).trans rfl
@[simp] theorem isBD_bl (i j : Bool) (st : Store) : isBD (.bl i) (.bl j) st = .ok (.bl (decide (i = j))) st := (Eq.refl _).trans rfl
@[simp] theorem nisBD_bl (i j : Bool) (st : Store) : nisBD (.bl i) (.bl j) st = .ok (.bl (!decide (i = j))) st := (Eq.refl _).trans rfl
variable {st : Store}
theorem toP_str (i : Str) : toP st 50 (.str i) = some (.str i) := rfl
theorem shaped_str {i : Str} (h : PyData.canLay0 (.str i) = true) : SeqAt.shaped (.str i) = true := by
  unfold SeqAt.shaped
  rw [h]; rfl
theorem eqD_str {i j : Str} (hi : PyData.canLay0 (.str i) = true) (hj : PyData.canLay0 (.str j) = true) : eqD (.str i) (.str j) st = .ok (.bl (i == j)) st := by
  unfold eqD eqP
  rw [toP_str, toP_str]
  simp [shaped_str hi, shaped_str hj, PyData.eqv]
theorem neD_str {i j : Str} (hi : PyData.canLay0 (.str i) = true) (hj : PyData.canLay0 (.str j) = true) : neD (.str i) (.str j) st = .ok (.bl (!(i == j))) st := by
  unfold neD eqP
  rw [toP_str, toP_str]
  simp [shaped_str hi, shaped_str hj, PyData.eqv]
/-- a side: left or right -/
def sdS (l : Bool) : Str := if l then "left" else "right"
def sdD (l : Bool) : D := .str (sdS l)
theorem sd_lay (l : Bool) : PyData.canLay0 (.str (sdS l)) = true := by cases l <;> decide +kernel
theorem sd_eq (l m : Bool) : (sdS l == sdS m) = (l == m) := by cases l <;> cases m <;> decide +kernel
theorem eqD_sd (l m : Bool) : eqD (sdD l) (sdD m) st = .ok (.bl (l == m)) st := by
  unfold sdD
  rw [eqD_str (sd_lay l) (sd_lay m), sd_eq]
theorem neD_sd (l m : Bool) : neD (sdD l) (sdD m) st = .ok (.bl (l != m)) st := by
  unfold sdD
  rw [neD_str (sd_lay l) (sd_lay m), sd_eq]
  rfl
theorem eqD_left (l : Bool) : eqD (sdD l) (.str "left") st = .ok (.bl l) st := by
  have := eqD_sd (st := st) l true
  have e : (l == true) = l := by cases l <;> rfl
  rw [e] at this
  exact this
theorem inD2_tup {x : D} {ds : List D} (h : flatD x = true) (hs : ds.all flatD = true) : inD2 x (.tup ds) st = .ok (.bl (inV (flV x) (ds.map flV))) st := by
  unfold inD2 inT
  simp only [h, hs, and_self, if_true]
theorem inD2_ref {x : D} {n : Nat} : inD2 x (.ref n) st = inD x (.ref n) st := rfl
/-! ### flags -/
def pyB (fs : List Bool) : List PyData := fs.map PyData.bool
theorem toPws_bls (f : Nat → Option PyData) : ∀ ns : List Bool, toPws f (ns.map D.bl) = some (pyB ns)
  | [] => rfl
  | n :: ns => by simp [toPws, toPw, toPws_bls f ns, pyB]
theorem toPw_bls (f : Nat → Option PyData) (ns : List Bool) : toPw f (.tup (ns.map D.bl)) = some (.tuple (pyB ns)) := by
  show (toPws _ (ns.map D.bl)).map PyData.tuple = _
  rw [toPws_bls]; rfl
theorem toP_bls (ns : List Bool) : ∀ k, toP st k (.tup (ns.map D.bl)) = some (.tuple (pyB ns))
  | 0 => toPw_bls _ ns
  | k + 1 => toPw_bls _ ns
theorem depthAll_bls : ∀ ns : List Bool, PyData.depthAll (pyB ns) = 0
  | [] => rfl
  | n :: ns => by
    show max _ (PyData.depthAll (pyB ns)) = 0
    rw [depthAll_bls ns]; rfl
theorem canLay_bls : ∀ ns : List Bool, PyData.canLayAll0 (pyB ns) = true
  | [] => rfl
  | n :: ns => by
    show (_ && PyData.canLayAll0 (pyB ns)) = true
    rw [canLay_bls ns]; rfl
theorem shaped_bls (ns : List Bool) : SeqAt.shaped (.tuple (pyB ns)) = true := by
  unfold SeqAt.shaped
  have h1 : (PyData.tuple (pyB ns)).canLay0 = true := canLay_bls ns
  have h2 : (PyData.tuple (pyB ns)).depth ≤ 64 := by
    show PyData.depthAll (pyB ns) + 1 ≤ 64
    rw [depthAll_bls]; decide
  simp [h1, h2]
theorem eqv_bls : ∀ xs ys : List Bool, PyData.eqvAll (pyB xs) (pyB ys) = decide (xs = ys)
  | [], [] => by simp [pyB, PyData.eqvAll]
  | [], _ :: _ => by simp [pyB, PyData.eqvAll]
  | _ :: _, [] => by simp [pyB, PyData.eqvAll]
  | x :: xs, y :: ys => by
    have ih := eqv_bls xs ys
    show (PyData.eqv (.bool x) (.bool y) && PyData.eqvAll (pyB xs) (pyB ys)) = _
    rw [ih]
    have e : PyData.eqv (.bool x) (.bool y) = decide (x = y) := by cases x <;> cases y <;> rfl
    simp [e]
@[simp] theorem eqD_bls (xs ys : List Bool) : eqD (.tup (xs.map D.bl)) (.tup (ys.map D.bl)) st = .ok (.bl (decide (xs = ys))) st := by
  unfold eqD eqP
  rw [toP_bls, toP_bls]
  simp only [shaped_bls, and_self, if_true]
  show R.ok (D.bl (PyData.eqvAll (pyB xs) (pyB ys))) st = _
  rw [eqv_bls]
theorem mapM_bls {f : D → Option PyData} (h : ∀ fs : List Bool, f (.tup (fs.map D.bl)) = some (.tuple (pyB fs))) : ∀ L : List (List Bool), (L.map fun fs => D.tup (fs.map D.bl)).mapM f = some (L.map fun fs => PyData.tuple (pyB fs))
  | [] => rfl
  | x :: xs => by
    rw [List.map_cons, List.mapM_cons, h, mapM_bls h xs]
    rfl
theorem depthAll_blss : ∀ L : List (List Bool), PyData.depthAll (L.map fun fs => PyData.tuple (pyB fs)) ≤ 1
  | [] => Nat.zero_le _
  | x :: L => by
    show max (PyData.depthAll (pyB x) + 1) (PyData.depthAll (L.map fun fs => PyData.tuple (pyB fs))) ≤ 1
    rw [depthAll_bls]
    exact Nat.max_le.mpr ⟨Nat.le_refl _, depthAll_blss L⟩
theorem canLay_blss : ∀ L : List (List Bool), PyData.canLayAll0 (L.map fun fs => PyData.tuple (pyB fs)) = true
  | [] => rfl
  | x :: L => by
    show (PyData.canLayAll0 (pyB x) && PyData.canLayAll0 (L.map fun fs => PyData.tuple (pyB fs))) = true
    rw [canLay_bls, canLay_blss L]; rfl
theorem shaped_blss (L : List (List Bool)) : SeqAt.shaped (.list (L.map fun fs => PyData.tuple (pyB fs))) = true := by
  unfold SeqAt.shaped
  have h1 : (PyData.list (L.map fun fs => PyData.tuple (pyB fs))).canLay0 = true := canLay_blss L
  have h2 : (PyData.list (L.map fun fs => PyData.tuple (pyB fs))).depth ≤ 64 := by
    show PyData.depthAll (L.map fun fs => PyData.tuple (pyB fs)) + 1 ≤ 64
    have := depthAll_blss L
    omega
  simp [h1, h2]
theorem any_bls (fs : List Bool) : ∀ L : List (List Bool), ((L.map fun fs => PyData.tuple (pyB fs)).any fun z => PyData.eqv z (.tuple (pyB fs))) = decide (fs ∈ L)
  | [] => by simp
  | x :: L => by
    rw [List.map_cons, List.any_cons, any_bls fs L]
    show (PyData.eqvAll (pyB x) (pyB fs) || _) = _
    rw [eqv_bls]
    by_cases c : x = fs
    · subst c; simp
    · have c' : ¬ fs = x := fun z => c z.symm
      simp [c, c']
/-- flags in a list of tuples of flags -/
theorem in_bls {n : Nat} {fs : List Bool} {L : List (List Bool)} (h : st[n]? = some (.lst (L.map fun fs => D.tup (fs.map D.bl)))) : inD2 (.tup (fs.map D.bl)) (.ref n) st = .ok (.bl (decide (fs ∈ L))) st := by
  rw [inD2_ref]
  have e : toP st 50 (.ref n) = some (.list (L.map fun fs => PyData.tuple (pyB fs))) := by
    show (match seqOf (.ref n) st with
      | some ds => (ds.mapM (toP st 49)).map PyData.list
      | none => none) = _
    rw [seqOf_ref, h]
    simp only [mapM_bls (f := toP st 49) (fun fs => toP_bls fs 49) L]
    rfl
  unfold inD inP
  rw [e, toP_bls]
  simp only [shaped_bls, shaped_blss, and_self, if_true]
  rw [any_bls]
end TK

set_option Elab.async false
set_option linter.all false
set_option maxRecDepth 100000
set_option maxHeartbeats 4000000
namespace TK
open PySem PySem.Spec
open PyProof.Rows hiding St
open L2
/-! ## list(range(i, j, -1)) -/
def rgDn (i j : Int) : List V := (List.range (i - j).toNat).map fun (k : Nat) => V.int (i + (k : Int) * (-1))
theorem rgDn_length (i j : Int) : (rgDn i j).length = (i - j).toNat := by unfold rgDn; rw [List.length_map, List.length_range]
theorem vals_dn {i j : Int} {acc : Array Value} (h : ItemsOf (fun k v => ∃ t, v = .int (i + k * (-1)) t) acc (i - j).toNat) : Vals (rgDn i j) acc.toList := by
  have e : acc.toList.length = (i - j).toNat := by rw [Array.length_toList]; exact h.1
  unfold rgDn
  rw [← e]
  refine vals_of_get acc.toList _ fun k u hk => ?_
  obtain ⟨t, rfl⟩ := h.2 k u (by rw [← hk, Array.getElem?_toList])
  exact ⟨t, rfl⟩
def dnOk (i j c : Int) : Prop := c = -1 ∧ -(2 ^ 62) ≤ i ∧ i < 2 ^ 62 ∧ -(2 ^ 62) ≤ j ∧ j < 2 ^ 62 ∧ (i - j).toNat ≤ 2 ^ 24
instance (i j c : Int) : Decidable (dnOk i j c) := by unfold dnOk; infer_instance
def tLstR3 (ta : TA) : TE := fun σ H Q => ta σ H fun vs H1 => ∃ (i j c : Int), vs = [.int i, .int j, .int c] ∧ dnOk i j c ∧ ∀ q, H1 q = none → Q (.ref q) (upd H1 q (.lst (rgDn i j)))
section
variable {X : Cx} {a b c : Expr} {ta : TA}
theorem pe_listRg3 {p p2 pos pos2 : Pos} (hc : X.calm = true) (hg : Gl X "list") (hm : X.mg "list" = none) (hg2 : Gl X "range") (hm2 : X.mg "range" = none) (ha : PA X [a, b, c] ta)
    (hs : starEach [a, b, c] X.env = (false, eval a X.env) :: starEach [b, c] X.env := by rfl) (hpl : (backTo pos2 (starEach [b, c] X.env)).any (·.1) = false := by rfl)
    (na : starEach [.Call (.Name "range" p2) [a, b, c] [] pos2] X.env = (false, eval (.Call (.Name "range" p2) [a, b, c] [] pos2) X.env) :: starEach [] X.env := by rfl) :
    PE X (.Call (.Name "list" p) [.Call (.Name "range" p2) [a, b, c] [] pos2] [] pos) (tLstR3 ta) := by
  refine ⟨fun pins s σ H Q I h => ?_⟩
  have he : wpAny (model X.prog X.w) X.A (eval (.Call (.Name "range" p2) [a, b, c] [] pos2) X.env) (fun x s' => ∃ r i j k t t' t'' H', x = .ref r ∧ IsRange s'.heap r i j k t t' t'' ∧ Inv X pins σ H' s' ∧ dnOk i j k ∧ ∀ q, H' q = none → Q (.ref q) (upd H' q (.lst (rgDn i j)))) X.xe s := by
    refine Call_ (ld_blt I hg2 hm2 boot_range (PyProof.Rows.callWith_type1 (thn (ha.run pos2 pins s σ H _ I h) fun us s1 ⟨vs, H1, I1, r1, q1⟩ => ?_) hs hpl))
    obtain ⟨i, j, k, e, ok, q⟩ := q1
    subst e
    cases r1 with
    | cons r rr =>
      cases rr with
      | cons r' rr =>
        cases rr with
        | cons r'' rr =>
          cases rr
          obtain ⟨t, rfl⟩ := r
          obtain ⟨t', rfl⟩ := r'
          obtain ⟨t'', rfl⟩ := r''
          have k1 : k = -1 := ok.1
          have c0 : k ≠ 0 := by omega
          have c1 : k.natAbs < 1073741824 := by omega
          refine call_range_3 c0 ?_ (.inl (PyProof.noPylong_small c1))
          exact ⟨_, i, j, k, _, _, _, H1, rfl, IsRange.new _ _ _ _ _ _ _, I1.kept (t' := s1.toks) fun b o e => Heap.get?_push_of_some _ e, ok, q⟩
  refine Call_ (ld_blt I hg hm boot_list (PyProof.Rows.callWith_type1 (args_cons (thn he fun x s1 ⟨r, i, j, k, t, u, v, H1, ex, hr, I1, ok, q⟩ => args_nil ?_) na) na))
  subst ex
  obtain ⟨rfl, b1, b2, b3, b4, b5⟩ := ok
  refine call_list_range (n := (i - j).toNat) (I1.ok.hd hc) hr (PySem.W.small_down b1 b2 b3 b4) (PySem.W.rangeSize_downNat i j) b5 fun h' tk acc c' hk e' hi => ?_
  refine ⟨.ref s1.heap.objs.size, upd H1 s1.heap.objs.size (.lst (rgDn i j)), I1.laid hk (Nat.le_refl _) (show ObjOk X.prog X.w _ _ _ (.lst (rgDn i j)) from ⟨?_, acc.toList, c', vals_dn hi, ?_⟩), rfl, q _ (I1.hok.fresh (Nat.le_refl _))⟩
  · rw [rgDn_length, sizeLine_eq]; omega
  · rw [Array.toArray_toList]; exact e'
end
theorem dnRel {G : GX} {μ : List Addr} {H : Hp} (i j : Int) : RelDs G μ H (rangeS i (-1) (i - j).toNat) (rgDn i j) := by
  refine .of_all (by rw [rgDn_length, rangeS_len]) fun k d v e1 e2 => ?_
  rw [rangeS_get] at e1
  split at e1
  · rename_i hk
    cases e1
    unfold rgDn at e2
    rw [List.getElem?_map, List.getElem?_range hk] at e2
    cases e2
    rfl
  · cases e1
noncomputable def lRng3 (fa : LF) : LF := fun env st => (fa env st).bind fun ds st1 => match ds with
  | [.int i, .int j, .int c] => hid (if dnOk i j c then .ok (rangeS i (-1) (i - j).toNat) st1 else .bad)
  | _ => .bad
section
variable {X : Cx} {W : WX} {a b c : Expr} {fa : LF} {pos : Pos} {lv : Nat}
theorem al_listRng3 {p p2 pos2 : Pos} (cx : Ctx X W lv) (hm : X.mg "list" = none) (hm2 : X.mg "range" = none) (ha : AA X W [a, b, c] fa) (hg : Gl X "list" := by rfl) (hg2 : Gl X "range" := by rfl)
    (hs : starEach [a, b, c] X.env = (false, eval a X.env) :: starEach [b, c] X.env := by rfl) (hpl : (backTo pos2 (starEach [b, c] X.env)).any (·.1) = false := by rfl)
    (na : starEach [.Call (.Name "range" p2) [a, b, c] [] pos2] X.env = (false, eval (.Call (.Name "range" p2) [a, b, c] [] pos2) X.env) :: starEach [] X.env := by rfl) :
    AL X W (.Call (.Name "list" p) [.Call (.Name "range" p2) [a, b, c] [] pos2] [] pos) (lRng3 fa) := (pe_listRg3 cx.calm hg hm hg2 hm2 ha hs hpl na).weak fun σ H Q ⟨μ, env, st, hs, er, q⟩ =>
    ⟨μ, env, st, hs, er, Post.bind q fun ds st1 μ1 H1 vs eq x1 hs1 rs p1 => by
      split at p1
      · rename_i i j k
        obtain ⟨v, rest, rfl, rd, v2, rest2, rfl, rd2, v3, rest3, rfl, rd3, e0⟩ := rs
        cases e0; cases rd; cases rd2; cases rd3
        rw [hid_eq] at p1
        split at p1
        · rename_i h
          exact ⟨i, j, k, rfl, h, fun l hl => p1 μ1 _ _ (.new hl) (hs1.new hl) ⟨l, _, rfl, hl, hs1.fresh hl, upd_same, dnRel _ _⟩⟩
        · exact p1.elim
      · exact p1.elim⟩
end
@[simp] theorem lRng3_ap (fa : LF) (env : AEnv) (st : Store) : lRng3 fa env st = ((fa env st).bind fun ds st1 => match ds with
  | [.int i, .int j, .int c] => okIf (dnOk i j c) (.ok (rangeS i (-1) (i - j).toNat) st1)
  | _ => .bad) := by first | (simp only [lRng3, hid_eq, ite_okIf]; done) | (simp only [lRng3, hid_eq, ite_okIf]; rfl)
end TK

set_option Elab.async false
set_option linter.all false
set_option maxRecDepth 100000
set_option maxHeartbeats 4000000
namespace TK
open PySem PySem.Spec
open PyProof.Rows hiding St
open L2
/-! ## an empty dict -/
def eDct0 : EF := fun _ st => .ok (.ref st.length) (st ++ [.dct []])
section
variable {X : Cx} {W : WX} {e : Expr} {fe : EF} {pos pos' : Pos} {lv : Nat}
theorem ae_dct0 : AE X W (.Dict [] [] pos) eDct0 := pe_dnewK.weak fun σ H Q ⟨μ, env, st, hs, er, p⟩ => fun q hq => by
  have hn : q ∉ μ := hs.fresh hq
  refine p (μ ++ [q]) (upd H q (.dK [])) _ ((Ext.new hq).adopt hq hn) ((hs.new hq).adopt upd_same hn ⟨[], rfl, rfl⟩) ⟨q, ?_, rfl⟩
  rw [← hs.len, List.getElem?_append_right (Nat.le_refl _)]; simp
end
/-! ## isinstance of built-in kinds, asked of instances too -/
structure InsG (G : GX) (c : Str) : Prop where
  ex : ∃ C, G.mg c = some (.ref C) ∧ Cls G.K C ∧ PySem.W.findIn G.K (.ref C) "__class__" = some (some (.builtin "object.__class__")) ∧ PySem.W.specialIn G.K (.builtin "object.__class__") "__get__" = some (some (.builtin "getset_descriptor.__get__")) ∧
    PySem.W.takesIn G.K (.builtin "object.__class__") = some true ∧ PySem.W.mroIn G.K C (.type "object") = some true ∧ ∀ T ∈ tysAll, PySem.W.kitOne G.K (.ref C) (.type T) = some false
def eIsiO (c : Str) (T : String) (fe : EF) : EF := fun env st => (fe env st).bind fun d st1 => match kindD d st1 with
  | some k => .ok (.bl (subT [T] k)) st1
  | none => match d with
    | .ref n => (match st1[n]? with
      | some (.ins c1 _) => if c1 = c then .ok (.bl false) st1 else .bad
      | _ => .bad)
    | _ => .bad
section
variable {X : Cx} {W : WX} {e : Expr} {fe : EF} {pos pos' : Pos} {lv : Nat}
theorem ae_isiO {p p2 : Pos} {x c : Str} (T : String) (J : InsG (gx X) c) (hm : X.mg "isinstance" = none) (ha : AE X W e fe) (hg : Gl X "isinstance" := by rfl) (hx : Gl X x := by rfl) (hmx : X.mg x = none) (hv : bootBuiltins x = some (.type T) := by decide +kernel) (hT : T ∈ tysAll := by decide)
    (hn : x ≠ "__name__" := by decide) (hd : (x == ("__debug__" : Str)) = false := by decide)
    (he : starEach [e, .Name x p2] X.env = (false, eval e X.env) :: starEach [.Name x p2] X.env := by rfl) (he2 : starEach [.Name x p2] X.env = (false, eval (.Name x p2) X.env) :: starEach [] X.env := by rfl) (hpl : (backTo pos (starEach [.Name x p2] X.env)).any (·.1) = false := by rfl) :
    AE X W (.Call (.Name "isinstance" p) [e, .Name x p2] [] pos) (eIsiO c T fe) := by
  obtain ⟨C, hC, k1, k2, k3, k4, k5, k6⟩ := J.ex
  exact (pe_callB call_isi hg hm (by decide +kernel) (pa_cons ha (pa_cons (pe_bltn (v := .ty T) hx hmx hv (by rfl) hn hd) pa_nil he2) he) (he := he) (hpl := hpl)).weak fun σ H Q ⟨μ, env, st, hs, er, q⟩ =>
    ⟨μ, env, st, hs, er, Post.bind q fun d st1 μ1 H1 v _ x1 hs1 r1 p1 => by
      split at p1
      · rename_i k ek
        refine ⟨v, .ty T, _, _, _, rfl, .ty T, kind_ty hs1 r1 ek, ?_, p1 μ1 H1 _ .refl hs1 rfl⟩
        simp only [subT, Bool.or_false]
        exact kit_ty (kit_all k (kind_mem ek) T hT)
      · split at p1
        · obtain ⟨a, ea, rfl⟩ := r1
          split at p1
          · rename_i c1 f1 e1
            split at p1
            · rename_i hc
              subst hc
              obtain ⟨_, h1, C1, dx, vs, rfl, m1, _⟩ := hs1.obj _ a _ ea e1
              have hC' : (gx X).mg c1 = some (.ref C) := hC
              rw [hC'] at m1
              cases m1
              exact ⟨.ref a, .ty T, .ref C, .type T, false, rfl, .ty T, .base (.ins h1 k1 k2 k3 k4 k5), k6 T hT, p1 μ1 H1 _ .refl hs1 rfl⟩
            · exact p1.elim
          · exact p1.elim
        · exact p1.elim⟩
end
theorem insG_of {K : PySem.W.Frag} {h : Heap} {mg : Str → Option Value} {x : Str} (X : K.In h) (N : h.Ns mainGlobals mg) {C : Addr} (aC : PySem.W.nsIn K mainGlobals x = some (some (.ref C)))
    (pg : PySem.W.plainGet K C Str.empty = true) (hd : PySem.W.hasDictIn K C = true) (po : PySem.W.plainOver K C = true) (sa : PySem.W.findIn K (.ref C) "__setattr__" = some (some (.builtin "object.__setattr__")))
    (k2 : PySem.W.findIn K (.ref C) "__class__" = some (some (.builtin "object.__class__"))) (k3 : PySem.W.specialIn K (.builtin "object.__class__") "__get__" = some (some (.builtin "getset_descriptor.__get__"))) (k4 : PySem.W.takesIn K (.builtin "object.__class__") = some true)
    (k5 : PySem.W.mroIn K C (.type "object") = some true) (t1 : PySem.W.kitOne K (.ref C) (.type "bool") = some false) (t2 : PySem.W.kitOne K (.ref C) (.type "int") = some false) (t3 : PySem.W.kitOne K (.ref C) (.type "str") = some false)
    (t4 : PySem.W.kitOne K (.ref C) (.type "tuple") = some false) (t5 : PySem.W.kitOne K (.ref C) (.type "list") = some false) (t6 : PySem.W.kitOne K (.ref C) (.type "dict") = some false) : InsG ⟨K, mg⟩ x :=
  ⟨C, PySem.W.mg_of X N aC, ⟨pg, hd, po, sa⟩, k2, k3, k4, k5, fun T hT => by
    simp only [tysAll, List.mem_cons, List.not_mem_nil, or_false] at hT
    rcases hT with rfl | rfl | rfl | rfl | rfl | rfl
    · exact t1
    · exact t2
    · exact t3
    · exact t4
    · exact t5
    · exact t6⟩
/-! ## try, one clause without a name -/
def noXS (r : RS) : RS := match r with
  | .exc _ _ _ => .bad
  | r => r
def sTryO (cat : List (Str × Bool)) (fb fs : SF) : SF := fun env st => match fb env st with
  | .exc env' x st' => (match cat.lookup x.cls with
    | some true => noXS (fs env' st')
    | some false => .exc env' x st'
    | none => .bad)
  | r => r
/-- what the clause of x says of the classes asked -/
def TryF (G : GX) (x : Str) (cat : List (Str × Bool)) : Prop := ∃ c, G.mg x = some c ∧ ∀ (y : Str) (b : Bool), cat.lookup y = some b → ∀ C, G.mg y = some C → PySem.W.exmOne G.K C c = some b
section
variable {X : Cx} {W : WX} {pos pos' np : Pos} {lv : Nat} {body suite : List Stmt} {b₀ : Stmt} {fb fs : SF}
theorem as_tryO {x : Str} {cat : List (Str × Bool)} (cx : Ctx X W lv) (h : TryF (gx X) x cat)
    (hb : ∀ (W' : WX) (pn : List (Addr × Obj)) (xe : Value → Shared → Prop), Ctx (X.tr pn xe) W' lv → ASs (X.tr pn xe) W' body fb)
    (hsu : ∀ (a : Addr) (pn : List (Addr × Obj)), ASs (X.suite a pn) W0 (b₀ :: suite) fs)
    (hs : X.stack = X.env :: X.outer := by rfl) (hf : X.env.frame = some X.env.locals := by rfl) (hg : Gl X x := by rfl) (hd : (x == ("__debug__" : Str)) = false := by decide) :
    AS X W (.Try body [.ExceptHandler (some (.Name x np)) none (b₀ :: suite) pos'] [] [] pos) (sTryO cat fb fs) := by
  obtain ⟨c, hc, hm⟩ := h
  exact (ps_try_only (tb := fun W' D σ H => ∃ μ env st, HS (gx X) μ H st ∧ EnvR (gx X) μ H env σ ∧ PostS (gx X) W' μ H (fb env st) D)
    (ts := fun _ _ _ D σ H => ∃ μ env st, HS (gx X) μ H st ∧ EnvR (gx X) μ H env σ ∧ PostS (gx X) W0 μ H (fs env st) D)
    hs hf ⟨hg, hd, .inl hc⟩ cx.tk (fun W' pn xe tk own => hb W' pn xe ⟨cx.nd, cx.calm, cx.room, own, tk⟩) (fun a oe cls d pn _ _ => hsu a _)).weak fun Dn σ H ⟨μ, env, st, hs, er, p⟩ => by
    refine ⟨μ, env, st, hs, er, ?_⟩
    unfold sTryO at p
    cases q : fb env st with
    | next env1 st1 => rw [q] at p; exact p
    | ret d st1 => rw [q] at p; exact p
    | brk env1 st1 => rw [q] at p; exact p
    | cont env1 st1 => rw [q] at p; exact p
    | bad => rw [q] at p; exact p
    | exc env1 x1 st1 =>
      rw [q] at p
      intro μ' H' σ' C od e2 hs2 er2 rx
      obtain ⟨C', hC1, hC2, hC3⟩ := id rx
      simp only at p
      split at p
      · rename_i hl
        refine ⟨true, hm _ _ hl _ (by rw [hC2]; exact hC1), fun _ a na => ⟨μ', env1, st1, hs2, er2, ?_⟩, fun z => nomatch z⟩
        have p2 := PostS.later p e2
        cases q2 : fs env1 st1 with
        | exc e3 x3 s3 => rw [q2] at p2; exact p2.elim
        | next e3 s3 => rw [q2] at p2; exact p2
        | ret e3 s3 => rw [q2] at p2; exact p2
        | brk e3 s3 => rw [q2] at p2; exact p2
        | cont e3 s3 => rw [q2] at p2; exact p2
        | bad => rw [q2] at p2; exact p2.elim
      · rename_i hl
        exact ⟨false, hm _ _ hl _ (by rw [hC2]; exact hC1), (fun z => nomatch z), fun _ => p μ' H' σ' C od e2 hs2 er2 rx⟩
      · exact p.elim
/-- a name set inside an except suite -/
theorem as_setN {e : Expr} {fe : EF} (nd : X.N.Nodup) (i : Nat) {x : Str} {pos' : Pos} (he : AE X W e fe) (hi : X.N[i]? = some x := by rfl) (hx : Loc X.env.scope x := by first | exact Or.inl rfl | exact Or.inr rfl)
    (hs : swapsWith e (some (.Name x pos')) pos.line X.env = pure false := by rfl) (hf : X.fn x = true ∨ X.env.scope.names.lookup x = some .local := by first | exact .inl rfl | exact .inr rfl) :
    AS X W (.Assign [.Name x pos'] e pos) (sSet i fe) := (ps_set nd hi hx he hs hf).weak fun Dn σ H ⟨μ, env, st, hs, er, p⟩ =>
  ⟨μ, env, st, hs, er, PostS.bind p hs er fun d st1 μ1 H1 v _ x1 hs1 r1 p1 => p1 μ1 H1 _ .refl hs1 ((er.ext hs x1).set r1 i)⟩
end
/-! ## facts for the head -/
def TryC (G : GX) (c : Value) (cat : List (Str × Bool)) : Prop := ∀ (y : Str) (b : Bool), cat.lookup y = some b → ∀ C, G.mg y = some C → PySem.W.exmOne G.K C c = some b
theorem tryC_nil {G : GX} {c : Value} : TryC G c [] := fun _ _ h => by cases h
theorem tryC_cons {G : GX} {c C : Value} {y : Str} {b : Bool} {cat : List (Str × Bool)} (hy : G.mg y = some C) (e : PySem.W.exmOne G.K C c = some b) (t : TryC G c cat) : TryC G c ((y, b) :: cat) := fun z b' h C' hC' => by
  rw [List.lookup_cons] at h
  split at h
  · rename_i hz
    have hz : z = y := by simpa using hz
    cases h
    subst hz
    rw [hy] at hC'
    cases hC'
    exact e
  · exact t z b' h C' hC'
theorem tryF_of {G : GX} {x : Str} {c : Value} {cat : List (Str × Bool)} (h : G.mg x = some c) (t : TryC G c cat) : TryF G x cat := ⟨c, h, t⟩
/-! ## for the specs -/
@[simp] theorem eDct0_ap (env : AEnv) (st : Store) : eDct0 env st = .ok (.ref st.length) (st ++ [.dct []]) := rfl
/-- isinstance of one value -/
def vIsiO (c : Str) (T : String) (d : D) (st : Store) : R D := match kindD d st with
  | some k => .ok (.bl (subT [T] k)) st
  | none => match d with
    | .ref n => (match st[n]? with
      | some (.ins c1 _) => if c1 = c then .ok (.bl false) st else .bad
      | _ => .bad)
    | _ => .bad
@[simp] theorem eIsiO_ap (c : Str) (T : String) (fe : EF) (env : AEnv) (st : Store) : eIsiO c T fe env st = (fe env st).bind (vIsiO c T) := (Eq.refl _).trans rfl
@[simp] theorem vIsiO_non (c : Str) (T : String) (st : Store) : vIsiO c T .non st = .ok (.bl (subT [T] "NoneType")) st := rfl
@[simp] theorem vIsiO_bl (c : Str) (T : String) (b : Bool) (st : Store) : vIsiO c T (.bl b) st = .ok (.bl (subT [T] "bool")) st := rfl
@[simp] theorem vIsiO_int (c : Str) (T : String) (i : Int) (st : Store) : vIsiO c T (.int i) st = .ok (.bl (subT [T] "int")) st := rfl
@[simp] theorem vIsiO_str (c : Str) (T : String) (x : Str) (st : Store) : vIsiO c T (.str x) st = .ok (.bl (subT [T] "str")) st := rfl
@[simp] theorem vIsiO_tup (c : Str) (T : String) (ds : List D) (st : Store) : vIsiO c T (.tup ds) st = .ok (.bl (subT [T] "tuple")) st := rfl
theorem vIsiO_lst {c : Str} {T : String} {n : Nat} {ds : List D} {st : Store} (h : st[n]? = some (.lst ds)) : vIsiO c T (.ref n) st = .ok (.bl (subT [T] "list")) st := by
  unfold vIsiO
  simp [kindD, h]
theorem vIsiO_dct {c : Str} {T : String} {n : Nat} {kvs : List (D × D)} {st : Store} (h : st[n]? = some (.dct kvs)) : vIsiO c T (.ref n) st = .ok (.bl (subT [T] "dict")) st := by
  unfold vIsiO
  simp [kindD, h]
theorem vIsiO_ins {c : Str} {T : String} {n : Nat} {fs : List (Str × D)} {st : Store} (h : st[n]? = some (.ins c fs)) : vIsiO c T (.ref n) st = .ok (.bl false) st := by
  unfold vIsiO
  simp [kindD, h]
@[simp] theorem noXS_next (e : AEnv) (s : Store) : noXS (.next e s) = .next e s := rfl
@[simp] theorem noXS_ret (d : D) (s : Store) : noXS (.ret d s) = .ret d s := rfl
theorem sTryO_ap (cat : List (Str × Bool)) (fb fs : SF) (env : AEnv) (st : Store) : sTryO cat fb fs env st = match fb env st with
  | .exc env' x st' => (match cat.lookup x.cls with
    | some true => noXS (fs env' st')
    | some false => .exc env' x st'
    | none => .bad)
  | r => r := rfl
end TK

set_option Elab.async false
set_option linter.all false
set_option maxRecDepth 100000
set_option maxHeartbeats 4000000
namespace TK
open PySem PySem.Spec
open PyProof.Rows hiding St
open L2
/-! # own methods -/
section
variable {X : Cx} {CX : CXT} {k : Nat} {f C : Addr} {fd : FuncData} {ps : List Str} {sp : Sp} {E : St → XK} {m : Str} {pos apos : Pos} {e o : Expr} {es : List Expr} {ta : TE} {t : TA} {pl : Sem Bool}
def tMethS (C : Addr) (m : Str) (sp : Sp) (E : St → XK) (ta : TE) (t : TA) : TE := fun σ H Q => ta σ H fun x H1 => ∃ a dx fs, x = .ref a ∧ H1 a = some (.ins C dx fs) ∧ fs.lookup m = none ∧ t σ H1 fun vs H2 => sp (x :: vs) H2 Q (E σ)
abbrev MethEv (X : Cx) (o : Expr) (m : Str) (es : List Expr) (apos pos : Pos) (pl : Sem Bool) : Prop :=
  eval (.Call (.Attribute o m apos) es [] pos) X.env = (do let ov ← eval o X.env; standAt apos.atName; let (f, first) ← holding [ov] (getMethod ov m pl); callWith pos f first (backTo pos (starEach es X.env)) (backToKw pos (keywordEach [] X.env)))
theorem pe_methX (he : PE X o ta) (c : Cls X.K C) (hm : Meth X.K C m f) (F : FnOk X.prog X.w X.K X.mg X.base CX k f fd ps sp) (hr : Room k X.A) (hb : Binds X.K fd ps []) (hx : ∀ σ, PassesAt CX X σ (E σ)) (ha : PA X (e :: es) t)
    (hst : starEach (e :: es) X.env = (false, eval e X.env) :: starEach es X.env) (hpl : (backTo pos (starEach es X.env)).any (·.1) = false) (ht : MethEv X o m (e :: es) apos pos pl) : PE X (.Call (.Attribute o m apos) (e :: es) [] pos) (tMethS C m sp E ta t) :=
  ⟨fun pins s σ H Q I h => PySem.W.methodCall_KW (pl := pl) (thn (he.run pins s σ H _ I h) fun u s1 ⟨x, H1, I1, rx, a, dx, fs, ex, ea, l, q⟩ => by
    subst ex
    cases rx
    exact getmeth_ok I1 ea c hm l (PySem.W.callWith_K (first := [.ref a]) (h₀ := X.base) I.ok.mod.kin hm.kp (thn (ha.run pos pins s1 σ H1 _ I1 q) fun us s2 ⟨vs, H2, I2, r, q2⟩ =>
      ⟨I2.kIn, run_fnSD (us := .ref a :: us) (vs := .ref a :: vs) (dvs := []) (ds := []) F hr hb .nil (hx σ) I2 (.cons rfl r) (by rw [List.append_nil]; exact q2)⟩) hst hpl)) ht⟩
theorem pe_methX0 (he : PE X o ta) (c : Cls X.K C) (hm : Meth X.K C m f) (F : FnOk X.prog X.w X.K X.mg X.base CX k f fd ps sp) (hr : Room k X.A) (hb : Binds X.K fd ps []) (hx : ∀ σ, PassesAt CX X σ (E σ))
    (ht : MethEv X o m [] apos pos pl) : PE X (.Call (.Attribute o m apos) [] [] pos) (tMethS C m sp E ta tNil) :=
  ⟨fun pins s σ H Q I h => PySem.W.methodCall_KW (pl := pl) (thn (he.run pins s σ H _ I h) fun u s1 ⟨x, H1, I1, rx, a, dx, fs, ex, ea, l, q⟩ => by
    subst ex
    cases rx
    exact getmeth_ok I1 ea c hm l (PySem.W.callWith_K0 (first := [.ref a]) I1.kIn hm.kp (run_fnSD (us := [.ref a]) (vs := [.ref a]) (dvs := []) (ds := []) F hr hb .nil (hx σ) I1 (.cons rfl .nil) q))) ht⟩
end
/-- the def x of the class c -/
structure DefA (G : GX) (P : Program) (w : World) (base : Heap) (k : Nat) (c x : Str) (n : Nat) (m : List D → Store → R D) : Prop where
  ex : ∃ C f fd ps, FnOk P w G.K G.mg base (L2.CX P w) k f fd ps (spA G m n) ∧ G.mg c = some (.ref C) ∧ Cls G.K C ∧ Meth G.K C x f ∧ Binds G.K fd ps []
/-- the object whose method is asked -/
def selfR (c x : Str) (d : D) (st : Store) : R D := match d with
  | .ref n => (match st[n]? with
    | some (.ins c1 fs) => if c1 = c ∧ fs.lookup x = none then .ok (.ref n) st else .bad
    | _ => .bad)
  | _ => .bad
noncomputable def eMeth (c x : Str) (m : List D → Store → R D) (fo : EF) (fr : LF) : EF := fun env st => (fo env st).bind fun d st1 => (selfR c x d st1).bind fun d st1 => (fr env st1).bind fun ds st2 => gcR st2 (m (d :: ds) st2)
theorem RelF.none {G : GX} {μ : List Addr} {H : Hp} : ∀ {fs : List (Str × D)} {vs : List (Str × V)} {f : Str}, RelF G μ H fs vs → fs.lookup f = none → vs.lookup f = none
  | [], _, _, r, _ => by cases r; rfl
  | (x, d) :: fs, _, f, r, e => by
    obtain ⟨v, rest, rfl, rd, rs⟩ := r
    rw [List.lookup_cons] at e ⊢
    split at e
    · cases e
    · exact RelF.none rs e
section
variable {X : Cx} {W : WX} {o e : Expr} {es : List Expr} {fo : EF} {fr : LF} {pos apos : Pos} {lv k n : Nat} {pl : Sem Bool} {c x : Str} {m : List D → Store → R D}
theorem meth_sp {C : Addr} {σ : St} {H : Hp} {Q : VK} (hC : (gx X).mg c = some (.ref C)) (h : tG (gx X) W (relD (gx X)) (eMeth c x m fo fr) σ H Q) (hn : ∀ env st ds st', fr env st = .ok ds st' → ds.length = n) :
    tMethS C x (spA (gx X) m (n + 1)) (WE W) (tG (gx X) W (relD (gx X)) fo) (tG (gx X) W (relDs (gx X)) fr) σ H Q := by
  obtain ⟨μ, env, st, hs, er, q⟩ := h
  refine ⟨μ, env, st, hs, er, Post.bind q fun d st1 μ1 H1 v e1 x1 hs1 r1 p1 => ?_⟩
  unfold selfR at p1
  split at p1
  · rename_i i
    split at p1
    · rename_i c1 fs e2
      split at p1
      · rename_i hc
        obtain ⟨rfl, hl⟩ := hc
        obtain ⟨a, ea, rfl⟩ := r1
        obtain ⟨_, h1, C1, dx, vs, rfl, m1, rf⟩ := hs1.obj i a _ ea e2
        rw [hC] at m1
        cases m1
        refine ⟨a, dx, vs, rfl, h1, rf.none hl, μ1, env, st1, hs1, er.ext hs x1, ?_⟩
        rw [R.bind_ok] at p1
        refine Post.bind p1 fun ds st2 μ2 H2 us e3 x2 hs2 r2 p2 => ?_
        refine ⟨μ2, st2, .ref i :: ds, hs2, .cons (RelD.ext hs1 x2 (.ref i) _ ⟨a, ea, rfl⟩) r2, (Post.gc hs2 p2).slots fun _ _ _ w => w, by simp [hn env st1 ds st2 e3]⟩
      · exact p1.elim
    · exact p1.elim
  · exact p1.elim
theorem ae_meth (F : DefA (gx X) X.prog X.w X.base k c x (n + 1) m) (cx : Ctx X W lv) (ho : AE X W o fo) (ha : AA X W (e :: es) fr) (hn : ∀ env st ds st', fr env st = .ok ds st' → ds.length = n) (hk : k ≤ lv := by decide)
    (hst : starEach (e :: es) X.env = (false, eval e X.env) :: starEach es X.env := by rfl) (hpl : (backTo pos (starEach es X.env)).any (·.1) = false := by rfl) (ht : MethEv X o x (e :: es) apos pos pl := by rfl) :
    AE X W (.Call (.Attribute o x apos) (e :: es) [] pos) (eMeth c x m fo fr) := by
  obtain ⟨C, f, fd, ps, F, hC, h1, h2, h3⟩ := F.ex
  exact (pe_methX ho h1 h2 F (cx.room.mono hk) h3 cx.at ha hst hpl ht).weak fun σ H Q h => meth_sp hC h hn
theorem ae_meth0 (F : DefA (gx X) X.prog X.w X.base k c x 1 m) (cx : Ctx X W lv) (ho : AE X W o fo) (hk : k ≤ lv := by decide) (ht : MethEv X o x [] apos pos pl := by rfl) :
    AE X W (.Call (.Attribute o x apos) [] [] pos) (eMeth c x m fo lNil) := by
  obtain ⟨C, f, fd, ps, F, hC, h1, h2, h3⟩ := F.ex
  refine (pe_methX0 ho h1 h2 F (cx.room.mono hk) h3 cx.at ht).weak fun σ H Q h => ?_
  obtain ⟨μ, env, st, hs, er, q⟩ := meth_sp hC h lNil_len
  refine ⟨μ, env, st, hs, er, Post.mono q ?_⟩
  rintro v H1 ⟨a, dx, fs, ev, eh, el, μ1, env1, st1, hs1, er1, p⟩
  exact ⟨a, dx, fs, ev, eh, el, p μ1 H1 [] .refl hs1 rfl⟩
end

/-! # != by the own == -/
section
variable {prog : Program} {w : World} {A : Around} {E : Value → Shared → Prop} {s : Shared} {K : PySem.W.Frag} {x C f : Addr} {ox : Obj} {od : Option Obj} {b tb : Value}
theorem ne_slot {Q : Fin → Shared → Prop} (hu : A.units < cLine) (X : K.In s.heap) (I : PySem.W.InstAt s.heap x ox C od) (he : PySem.W.findIn K (.ref C) "__eq__" = some (some (.ref f))) (hf : PySem.W.isFn K (.ref f) = true)
    (h : wpAny (model prog w) A (call (.ref f) [.ref x, b]) (fun v s' => ∃ t, v = .bool t ∧ Q (.done (.ret (.bool (!t)))) s') E s) : wpAny (model prog w) A (Builtin.«object.__ne__» ⟨[.ref x, b], []⟩) Q E s := by
  unfold Builtin.«object.__ne__»
  refine wpAny_bind (m := slotArgs _ _ _) (wpAny_pure ?_)
  refine wpAny_bind (wpAny_cRoomFor hu (wpAny_bind (PySem.W.ifBound_K X I he hf (wpAny_mono h (fun v s' hv => ?_) fun _ _ e => e))))
  obtain ⟨t, rfl, q⟩ := hv
  exact wpAny_bind (m := truthy (.bool t)) (wpAny_truthy_bool (wpAny_pure q))
theorem ne_K {Q : Value → Shared → Prop} (hu : A.units + 1 < cLine) (X : K.In s.heap) (I : PySem.W.InstAt s.heap x ox C od) (hb : PySem.W.Looks (model prog w) s.heap (typeOf b) tb) (hn : PySem.W.notFirst K C tb = true)
    (hs : PySem.W.findIn K (.ref C) "__ne__" = some (some (.builtin "object.__ne__"))) (he : PySem.W.findIn K (.ref C) "__eq__" = some (some (.ref f))) (hf : PySem.W.isFn K (.ref f) = true) (hm : PySem.W.mroIn K C (.type "object") = some true)
    (h : wpAny (model prog w) A.in1 (call (.ref f) [.ref x, b]) (fun v s' => ∃ t, v = .bool t ∧ Q (.bool (!t)) s') E s) : wpAny (model prog w) A (richCompare .NotEq (.ref x) b) Q E s := by
  have SL := PySem.F.cmp_object.ne
  have sub : PySem.W.Looks (model prog w) s.heap (isInstance (.ref x) (.type "object")) true := I.type.andThen (PySem.W.looks_mroIn X hm)
  have run : wpAny (model prog w) A (call (.builtin "object.__ne__") [.ref x, b]) (fun v s' => v ≠ .notImplemented ∧ Q v s') E s := by
    refine wpAny_call (codeAny_call_builtin SL.plain PySem.F.cmpEntry_ne (@PySem.W.check_slot (model prog w) _ _ s "object.__ne__" "object" "__ne__" (.ref x) [b] [] _ PySem.F.cmpKind_ne PySem.F.cmpSplit_ne sub (PySem.F.cmpArgs_ne _ _) ?_))
    exact ne_slot (A := A.in1) (by simpa using hu) X I he hf (wpAny_mono h (fun v s' ⟨t, e, q⟩ => ⟨t, e, by simp, q⟩) fun _ _ e => e)
  have one : wpAny (model prog w) A (tryCompare (.ref x) "__ne__" b) (fun r s' => ∃ v, r = some v ∧ Q v s') E s := by
    have fin : wpAny (model prog w) A (callSpecialIfBound? (.ref x) "__ne__" [b]) (fun r s' => ∃ v, r = some v ∧ v ≠ .notImplemented ∧ Q v s') E s := by
      unfold callSpecialIfBound? bindSpecialIfBound?
      refine wpAny_holding (wpAny_bind (wpAny_bind (wpAny_bind (I.type.here ((PySem.W.looks_findIn X hs).here ?_)))))
      dsimp only
      rw [SL.bind]
      refine wpAny_bind (wpAny_askSetting (wpAny_ite ?_))
      have z : wpAny (model prog w) A (call (.builtin "object.__ne__") ([.ref x] ++ [b]) >>= fun v => pure (some v)) (fun r s' => ∃ v, r = some v ∧ v ≠ .notImplemented ∧ Q v s') E s := wpAny_bind (wpAny_mono run (fun v s' q => wpAny_pure ⟨v, rfl, q⟩) fun _ _ e => e)
      split
      · exact wpAny_bind (wpAny_pure (wpAny_pure z))
      · exact wpAny_tryCatch (wpAny_bind (wpAny_pure (wpAny_pure z)))
    unfold tryCompare
    refine wpAny_bind (wpAny_mono fin (fun r s' q => ?_) fun _ _ e => e)
    obtain ⟨v, rfl, nv, q⟩ := q
    cases v <;> first | exact (nv rfl).elim | exact wpAny_pure ⟨_, rfl, q⟩
  unfold richCompare
  simp only [oneThing_ref]
  refine wpAny_holding (wpAny_bind (wpAny_cRoomFor (by omega) (wpAny_bind (I.type.here (wpAny_bind (hb.here ?_))))))
  split
  · rename_i q
    have e : PySem.W.subIn K tb (.ref C) = some false := by
      rcases Bool.or_eq_true_iff.mp hn with e | e
      · rw [beq_iff_eq.mp e] at q; simp at q
      · exact beq_iff_eq.mp e
    refine wpAny_bind ((PySem.W.looks_subIn X e).here ?_)
    exact wpAny_bind (wpAny_mono one (fun r s' ⟨v, er, q⟩ => by subst er; exact wpAny_pure q) fun _ _ e => e)
  · exact wpAny_bind (wpAny_pure (wpAny_bind (wpAny_mono one (fun r s' ⟨v, er, q⟩ => by subst er; exact wpAny_pure q) fun _ _ e => e)))
end
def rOwnN (C : Addr) (sp : Sp) : R2 := fun x y H Q => ∃ a b dx dy fs gs, x = .ref a ∧ y = .ref b ∧ H a = some (.ins C dx fs) ∧ H b = some (.ins C dy gs) ∧ sp [.ref a, .ref b] H (fun v G => ∃ t : Bool, v = .bl t ∧ Q (.bl (!t)) G) (fun _ _ _ => False)
theorem op_ownN {X : Cx} {CX : CXT} {C f : Addr} {fd : FuncData} {ps : List Str} {n : Nat} {sp : Sp} (F : FnOk X.prog X.w X.K X.mg X.base CX n f fd ps sp) (hr : Room (n + 1) X.A) (hs : PySem.W.findIn X.K (.ref C) "__ne__" = some (some (.builtin "object.__ne__"))) (hm : PySem.W.mroIn X.K C (.type "object") = some true)
    (he : PySem.W.findIn X.K (.ref C) "__eq__" = some (some (.ref f))) (hi : PySem.W.isFn X.K (.ref f) = true) (hb : Binds X.K fd ps []) (hx : Passes CX X (fun _ _ _ => False)) : OpR X (compareOp .NotEq) (rOwnN C sp) := by
  intro pins s σ H x y v u Q I rx ry ⟨a, b, dx, dy, fs, gs, ex, ey, ha, hb2, hsp⟩
  subst ex; subst ey
  cases rx; cases ry
  obtain ⟨_, K1, _⟩ := ins_get I.hok ha
  obtain ⟨_, K2, _⟩ := ins_get I.hok hb2
  obtain ⟨_, K1, _⟩ := K1.look
  obtain ⟨_, K2, _⟩ := K2.look
  refine (?_ : wpAny (model X.prog X.w) X.A (richCompare .NotEq (.ref a) (.ref b)) (EP X pins σ Q) X.xe s)
  refine ne_K (tb := .ref C) (by have := hr.un; omega) I.kIn K1 K2.type (by simp [PySem.W.notFirst]) hs he hi hm ?_
  have lens : 2 = ps.length := F.len _ _ _ _ hsp
  have rels : Vals [V.ref a, V.ref b] [Value.ref a, Value.ref b] := .cons rfl (.cons rfl .nil)
  have bnd := hb s [.ref a, .ref b] I.kIn (by simpa using lens)
  refine wpAny_call (codeAny_mono (F.run X.A.in1 X.stack s H ⟨[.ref a, .ref b], []⟩ _ _ _ _ hr.in1 I.env0.in1 (by simpa using bnd) rels hsp) fun r t hq => ?_)
  match r, hq with
  | .error e, hq => exact hx pins σ H s e t I hq
  | .ok (.ret w), hq =>
    obtain ⟨z, G, J, rz, k, ez, q⟩ := I.after hq
    subst ez
    cases rz
    exact ⟨k, rfl, .bl (!k), G, J, rfl, q⟩
  | .ok .next, hq => exact False.elim hq
  | .ok .brk, hq => exact False.elim hq
  | .ok .cont, hq => exact False.elim hq
/-- what != by an own == wants of a class -/
structure NeF (G : GX) (c : Str) : Prop where
  ex : ∀ C, G.mg c = some (.ref C) → PySem.W.findIn G.K (.ref C) "__ne__" = some (some (.builtin "object.__ne__")) ∧ PySem.W.mroIn G.K C (.type "object") = some true
def blNR (r : R D) : R D := match r with
  | .ok (.bl b) st => .ok (.bl (!b)) st
  | _ => .bad
noncomputable def neI (c : Str) (m : List D → Store → R D) (x y : D) (st : Store) : R D := match x, y with
  | .ref n, .ref j => (match st[n]?, st[j]? with
    | some (.ins c1 _), some (.ins c2 _) => if c1 = c ∧ c2 = c then blNR (gcR st (m [.ref n, .ref j] st)) else .bad
    | _, _ => neD (.ref n) (.ref j) st)
  | x, y => neD x y st
theorem neIA {G : GX} {c : Str} {m : List D → Store → R D} {C : Addr} (hC : G.mg c = some (.ref C)) : OpA G (neI c m) (fun x y H Q => rOwnN C (spA G m 2) x y H Q ∨ rNeD G.K x y H Q) := by
  intro W σ μ H st x y v u Q hs rx ry p
  unfold neI at p
  split at p
  · rename_i n j
    split at p
    · rename_i c1 f1 c2 f2 e1 e2
      split at p
      · rename_i hc
        obtain ⟨rfl, rfl⟩ := hc
        obtain ⟨a, ea, rfl⟩ := rx
        obtain ⟨b, eb, rfl⟩ := ry
        obtain ⟨_, h1, C1, dx, vs, rfl, m1, _⟩ := hs.obj n a _ ea e1
        obtain ⟨_, h2, C2, dy, us, rfl, m2, _⟩ := hs.obj j b _ eb e2
        rw [hC] at m1 m2
        cases m1; cases m2
        refine .inl ⟨a, b, dx, dy, vs, us, rfl, rfl, h1, h2, μ, st, [.ref n, .ref j], hs, ⟨_, _, rfl, ⟨a, ea, rfl⟩, _, _, rfl, ⟨b, eb, rfl⟩, rfl⟩, ?_, rfl⟩
        refine Post.gc hs ?_
        revert p
        cases gcR st (m [.ref n, .ref j] st) with
        | ok d st' =>
          intro p
          cases d with
          | bl k => exact fun μ' H' z e hs' r => ⟨k, r, p μ' H' (.bl (!k)) e hs' rfl⟩
          | _ => exact p.elim
        | exc x' st' => intro p; exact p.elim
        | bad => intro p; exact p.elim
      · exact p.elim
    · exact .inr (neA W σ μ H st _ _ v u Q hs rx ry p)
  · exact .inr (neA W σ μ H st _ _ v u Q hs rx ry p)
section
variable {X : Cx} {W : WX} {a b e : Expr} {fa fb fe : EF} {pos : Pos} {lv k : Nat}
theorem ae_neI {c : Str} {m : List D → Store → R D} (F : EqA (gx X) X.prog X.w X.base k c m) (N : NeF (gx X) c) (cx : Ctx X W lv) (ha : AE X W a fa) (hb : AE X W b fb) (hk : k + 1 ≤ lv := by decide) : AE X W (.Compare a [.NotEq] [b] pos) (e2 (neI c m) fa fb) := by
  obtain ⟨C, f, fd, ps, F, hC, h1, h2, h3⟩ := F.ex
  obtain ⟨n1, n2⟩ := N.ex C hC
  exact ae_cmp (OpR_or (op_ownN F (cx.room.mono hk) n1 n2 h1 h2 h3 (fun pins σ H s e s' I z => by obtain ⟨_, _, _, _, _, _, _, _, _, _, _, _, z⟩ := z; exact z.elim)) (op_neD cx.room.units)) (neIA hC) ha hb (nomark _)
theorem at_neI {c : Str} {m : List D → Store → R D} (F : EqA (gx X) X.prog X.w X.base k c m) (N : NeF (gx X) c) (cx : Ctx X W lv) (ha : AE X W a fa) (hb : AE X W b fb) (hk : k + 1 ≤ lv := by decide) : AT X W (.Compare a [.NotEq] [b] pos) (bB (e2 (neI c m) fa fb)) := by
  obtain ⟨C, f, fd, ps, F, hC, h1, h2, h3⟩ := F.ex
  obtain ⟨n1, n2⟩ := N.ex C hC
  exact at_cmp (OpR_or (op_ownN F (cx.room.mono hk) n1 n2 h1 h2 h3 (fun pins σ H s e s' I z => by obtain ⟨_, _, _, _, _, _, _, _, _, _, _, _, z⟩ := z; exact z.elim)) (op_neD cx.room.units)) (neIA hC) ha hb (nomark _)
end
theorem neF_of {K : PySem.W.Frag} {h : Heap} {mg : Str → Option Value} {x : Str} (X : K.In h) (N : h.Ns mainGlobals mg) {C : Addr} (aC : PySem.W.nsIn K mainGlobals x = some (some (.ref C)))
    (n1 : PySem.W.findIn K (.ref C) "__ne__" = some (some (.builtin "object.__ne__"))) (n2 : PySem.W.mroIn K C (.type "object") = some true) : NeF ⟨K, mg⟩ x := ⟨fun C' hm => by
      have e := (PySem.W.mg_of X N aC).symm.trans hm
      cases e
      exact ⟨n1, n2⟩⟩
/-! # defs of a class as ties -/
def MetF (G : GX) (c x qual : Str) (st : Stmt) : Prop := ∃ C f fd, G.mg c = some (.ref C) ∧ Cls G.K C ∧ Meth G.K C x f ∧ Fun G.K x qual st f fd
section
variable {G : GX} {P : Program} {w : World} {base : Heap}
theorem DefA.of {c x qual : Str} {st : Stmt} {N ps : List Str} {k : Nat} {body : SF} (T : MetF G c x qual st) (S : FnScope N ps (defScope st)) (hb : ∀ f fd, Fun G.K x qual st f fd → Binds G.K fd ps [])
    (h : ∀ (f : Addr) (cdv : Value) (A : Around) (outer : List Env) (s : Shared) (H : Hp) (E : XK),
      Ctx (cxOf (L2.CX P w) P w G.K G.mg base N qual (defScope st) f cdv A outer s H E) (fun C od _ H' => E C od H') k → ASs (cxOf (L2.CX P w) P w G.K G.mg base N qual (defScope st) f cdv A outer s H E) (fun C od _ H' => E C od H') (defBody st) body) :
    DefA G P w base (k + 1) c x ps.length (runDef N.length body) := by
  obtain ⟨C, f, fd, hm, c1, c2, F⟩ := T
  exact ⟨C, f, fd, ps, FnOk.ofA F S (h f), hm, c1, c2, hb f fd F⟩
end
theorem metF_of {K : PySem.W.Frag} {h : Heap} {mg : Str → Option Value} {c x qual : Str} {st : Stmt} (X : K.In h) (N : h.Ns mainGlobals mg) {C f : Addr} {od an : Option Addr} {sl : Array (Option Value)} {oc kV dc pm cd ct : Value}
    (aC : PySem.W.nsIn K mainGlobals c = some (some (.ref C))) (pg : PySem.W.plainGet K C Str.empty = true) (hd : PySem.W.hasDictIn K C = true) (po : PySem.W.plainOver K C = true) (sa : PySem.W.findIn K (.ref C) "__setattr__" = some (some (.builtin "object.__setattr__")))
    (a1 : PySem.W.findIn K (.ref C) x = some (some (.ref f))) (i1 : PySem.W.isFn K (.ref f) = true)
    (l1 : K.lookup f = some ⟨oc, od, .func (PySem.W.fnOf x qual (defArgs st) (defBody st) (defScope st) .none kV dc pm an cd ct), sl⟩) (c1 : PySem.W.codeIn K cd qual = true) (k1 : PySem.W.keepIn K (.ref f) = true) : MetF ⟨K, mg⟩ c x qual st :=
  ⟨C, f, _, PySem.W.mg_of X N aC, ⟨pg, hd, po, sa⟩, ⟨a1, i1, k1⟩, fun_mk (st := st) l1 c1 k1⟩
end TK

set_option Elab.async false
set_option linter.all false
set_option maxRecDepth 100000
set_option maxHeartbeats 4000000
namespace TK
open PySem PySem.Spec
open PyProof.Rows hiding St
open L2
/-! # pairs of an instance and plain data compared -/
section
variable {prog : Program} {w : World} {A : Around} {E : Value → Shared → Prop} {R : Result → Shared → Prop}
theorem tup2_ne {l b : Addr} {x1 x2 y1 y2 : Value} {n n2 : Nat} {dd dd2 : Option Addr} {sl sl2 : Array (Option Value)} {s : Shared}
    (hl : s.heap.get? l = some { cls := .type "tuple", dict := dd, data := .seq #[x1, x2] n, slots := sl }) (hb : s.heap.get? b = some { cls := .type "tuple", dict := dd2, data := .seq #[y1, y2] n2, slots := sl2 })
    (h : wpAny (model prog w) A.in1 (eqBool x1 y1) (fun r s1 => r = true ∧ wpAny (model prog w) A.in1 (eqBool x2 y2) (fun r s2 => r = true ∧ R (.ok (.ret (.bool false))) s2) (fun e s' => R (.error e) s') s1) (fun e s' => R (.error e) s') s) :
    wpAny (model prog w) A.in1 (Builtin.«tuple.__ne__» ⟨[.ref l, .ref b], []⟩) (GQ.FinOf prog w A R) (fun e s' => R (.error e) s') s := by
  have f2 := AutoSeq1.sub_tuple_tuple
  obtain ⟨hp, g, d, tk, os⟩ := s
  have w1 := h
  wp_walk using wpAny_loadPart' hl, wpAny_loadPart' hb, wpAny_forIn_list _ (fun rest b s' => b.1 = none ∧ ((rest = [(x1, y1), (x2, y2)] ∧ wpAny (model prog w) A.in1 (eqBool x1 y1) (fun r s1 => r = true ∧ wpAny (model prog w) A.in1 (eqBool x2 y2) (fun r s2 => r = true ∧ R (.ok (.ret (.bool false))) s2) (fun e s' => R (.error e) s') s1) (fun e s' => R (.error e) s') s') ∨
    (rest = [(x2, y2)] ∧ wpAny (model prog w) A.in1 (eqBool x2 y2) (fun r s2 => r = true ∧ R (.ok (.ret (.bool false))) s2) (fun e s' => R (.error e) s') s') ∨ (rest = [] ∧ R (.ok (.ret (.bool false))) s'))) _
  case turn =>
    rintro ⟨y, x⟩ rest b s' ⟨hb', hz⟩
    rcases hz with ⟨hz, q⟩ | ⟨hz, q⟩ | ⟨hz, q⟩
    · cases hz
      refine wpAny_bind (wpAny_mono q (fun r s2 q2 => ?_) fun _ _ e => e)
      obtain ⟨rfl, q2⟩ := q2
      wp_walk
      exact ⟨rfl, .inr (.inl ⟨rfl, q2⟩)⟩
    · cases hz
      refine wpAny_bind (wpAny_mono q (fun r s2 q2 => ?_) fun _ _ e => e)
      obtain ⟨rfl, q2⟩ := q2
      wp_walk
      exact ⟨rfl, .inr (.inr ⟨rfl, q2⟩)⟩
    · cases hz
  case fin =>
    rintro ⟨b1, b2⟩ s' ⟨hb', hz⟩
    simp only at hb'
    subst hb'
    rcases hz with ⟨hz, q⟩ | ⟨hz, q⟩ | ⟨_, q⟩
    · cases hz
    · cases hz
    · wp_walk
      simpa [Builtin.Tuple.tupleCompareSizes] using q
  case h => exact ⟨rfl, .inl ⟨rfl, w1⟩⟩
theorem tup2_eq {l b : Addr} {x1 x2 y1 y2 : Value} {n n2 : Nat} {dd dd2 : Option Addr} {sl sl2 : Array (Option Value)} {s : Shared}
    (hl : s.heap.get? l = some { cls := .type "tuple", dict := dd, data := .seq #[x1, x2] n, slots := sl }) (hb : s.heap.get? b = some { cls := .type "tuple", dict := dd2, data := .seq #[y1, y2] n2, slots := sl2 })
    (h : wpAny (model prog w) A.in1 (eqBool x1 y1) (fun r s1 => r = true ∧ wpAny (model prog w) A.in1 (eqBool x2 y2) (fun r s2 => r = true ∧ R (.ok (.ret (.bool true))) s2) (fun e s' => R (.error e) s') s1) (fun e s' => R (.error e) s') s) :
    wpAny (model prog w) A.in1 (Builtin.«tuple.__eq__» ⟨[.ref l, .ref b], []⟩) (GQ.FinOf prog w A R) (fun e s' => R (.error e) s') s := by
  have f2 := AutoSeq1.sub_tuple_tuple
  obtain ⟨hp, g, d, tk, os⟩ := s
  have w1 := h
  wp_walk using wpAny_loadPart' hl, wpAny_loadPart' hb, wpAny_forIn_list _ (fun rest b s' => b.1 = none ∧ ((rest = [(x1, y1), (x2, y2)] ∧ wpAny (model prog w) A.in1 (eqBool x1 y1) (fun r s1 => r = true ∧ wpAny (model prog w) A.in1 (eqBool x2 y2) (fun r s2 => r = true ∧ R (.ok (.ret (.bool true))) s2) (fun e s' => R (.error e) s') s1) (fun e s' => R (.error e) s') s') ∨
    (rest = [(x2, y2)] ∧ wpAny (model prog w) A.in1 (eqBool x2 y2) (fun r s2 => r = true ∧ R (.ok (.ret (.bool true))) s2) (fun e s' => R (.error e) s') s') ∨ (rest = [] ∧ R (.ok (.ret (.bool true))) s'))) _
  case turn =>
    rintro ⟨y, x⟩ rest b s' ⟨hb', hz⟩
    rcases hz with ⟨hz, q⟩ | ⟨hz, q⟩ | ⟨hz, q⟩
    · cases hz
      refine wpAny_bind (wpAny_mono q (fun r s2 q2 => ?_) fun _ _ e => e)
      obtain ⟨rfl, q2⟩ := q2
      wp_walk
      exact ⟨rfl, .inr (.inl ⟨rfl, q2⟩)⟩
    · cases hz
      refine wpAny_bind (wpAny_mono q (fun r s2 q2 => ?_) fun _ _ e => e)
      obtain ⟨rfl, q2⟩ := q2
      wp_walk
      exact ⟨rfl, .inr (.inr ⟨rfl, q2⟩)⟩
    · cases hz
  case fin =>
    rintro ⟨b1, b2⟩ s' ⟨hb', hz⟩
    simp only at hb'
    subst hb'
    rcases hz with ⟨hz, q⟩ | ⟨hz, q⟩ | ⟨_, q⟩
    · cases hz
    · cases hz
    · wp_walk
      simpa [Builtin.Tuple.tupleCompareSizes] using q
  case h => exact ⟨rfl, .inl ⟨rfl, w1⟩⟩
theorem rc2_ne {l b : Addr} {x1 x2 y1 y2 : Value} {s : Shared} {Q : Value → Shared → Prop} (hu : A.units < cLine) (hl : s.heap.IsTuple l #[x1, x2]) (hb : s.heap.IsTuple b #[y1, y2])
    (h : wpAny (model prog w) A.in1 (eqBool x1 y1) (fun r s1 => r = true ∧ wpAny (model prog w) A.in1 (eqBool x2 y2) (fun r s2 => r = true ∧ Q (.bool false) s2) E s1) E s) : wpAny (model prog w) A (richCompare .NotEq (.ref l) (.ref b)) Q E s := by
  obtain ⟨⟨_, dd, _, sl⟩, ho, hc, n, hd⟩ := id hl
  obtain ⟨⟨_, dd2, _, sl2⟩, ho2, hc2, n2, hd2⟩ := id hb
  dsimp only at hc hd hc2 hd2
  subst hc hd hc2 hd2
  refine wpAny_richCompare_same_room (op := .NotEq) ⟨_, ho, rfl⟩ ⟨_, ho2, rfl⟩ F.slot_tuple_ne (GQ.call_here F.slot_tuple_ne ⟨_, ho, rfl⟩ F.entry_tuple_ne (F.args_tuple_ne_2 _ _) ?_) hu
  exact tup2_ne (R := wants (fun v s' => v ≠ .notImplemented ∧ Q v s') E) ho ho2 (wpAny_mono h (fun r s1 q => ⟨q.1, wpAny_mono q.2 (fun r s2 q => ⟨q.1, (fun x => nomatch x), q.2⟩) fun _ _ e => e⟩) fun _ _ e => e)
theorem rc2_eq {l b : Addr} {x1 x2 y1 y2 : Value} {s : Shared} {Q : Value → Shared → Prop} (hu : A.units < cLine) (hl : s.heap.IsTuple l #[x1, x2]) (hb : s.heap.IsTuple b #[y1, y2])
    (h : wpAny (model prog w) A.in1 (eqBool x1 y1) (fun r s1 => r = true ∧ wpAny (model prog w) A.in1 (eqBool x2 y2) (fun r s2 => r = true ∧ Q (.bool true) s2) E s1) E s) : wpAny (model prog w) A (richCompare .Eq (.ref l) (.ref b)) Q E s := by
  obtain ⟨⟨_, dd, _, sl⟩, ho, hc, n, hd⟩ := id hl
  obtain ⟨⟨_, dd2, _, sl2⟩, ho2, hc2, n2, hd2⟩ := id hb
  dsimp only at hc hd hc2 hd2
  subst hc hd hc2 hd2
  refine wpAny_richCompare_same_room (op := .Eq) ⟨_, ho, rfl⟩ ⟨_, ho2, rfl⟩ F.slot_tuple_eq (GQ.call_here F.slot_tuple_eq ⟨_, ho, rfl⟩ F.entry_tuple_eq (F.args_tuple_eq_2 _ _) ?_) hu
  exact tup2_eq (R := wants (fun v s' => v ≠ .notImplemented ∧ Q v s') E) ho ho2 (wpAny_mono h (fun r s1 q => ⟨q.1, wpAny_mono q.2 (fun r s2 q => ⟨q.1, (fun x => nomatch x), q.2⟩) fun _ _ e => e⟩) fun _ _ e => e)
end
abbrev D2 (K : PySem.W.Frag) : Eqv := DTup K (DTup K DFlat)
def rPair (C : Addr) (K : PySem.W.Frag) (sp : Sp) (r : Bool) : R2 := fun x y H Q => ∃ a b n j p q dx dy fs gs, x = .ref a ∧ y = .ref b ∧ SqT K H a [.ref n, p] ∧ SqT K H b [.ref j, q] ∧ H n = some (.ins C dx fs) ∧ H j = some (.ins C dy gs) ∧
  (n = j → D2 K p q H ∧ ∀ G, L2.Ext H G → Q (.bl r) G) ∧ (n ≠ j → sp [.ref n, .ref j] H (fun v G => v = .bl true ∧ D2 K p q G ∧ ∀ G', L2.Ext G G' → Q (.bl r) G') (fun _ _ _ => False))
theorem eqG_D2 {X : Cx} : EqG X 2 (D2 X.K) := eqG_tup (mon_tup mon_flat) (eqG_tup mon_flat eqG_flat)
theorem op_pair {X : Cx} {CX : CXT} {C f : Addr} {fd : FuncData} {ps : List Str} {n : Nat} {sp : Sp} (F : FnOk X.prog X.w X.K X.mg X.base CX n f fd ps sp) (hr : Room (n + 1) X.A) (hr3 : Room 3 X.A)
    (he : PySem.W.findIn X.K (.ref C) "__eq__" = some (some (.ref f))) (hi : PySem.W.isFn X.K (.ref f) = true) (hb : Binds X.K fd ps []) (hx : Passes CX X (fun _ _ _ => False)) {pins : List (Addr × Obj)} {s : Shared} {σ : St} {H : Hp} {x y : V} {v u : Value} {Q : VK} {r : Bool}
    (I : Inv X pins σ H s) (rx : RelV x v) (ry : RelV y u) (h : rPair C X.K sp r x y H Q) : ∃ a b x1 x2 y1 y2, v = .ref a ∧ u = .ref b ∧ s.heap.IsTuple a #[x1, x2] ∧ s.heap.IsTuple b #[y1, y2] ∧
      wpAny (model X.prog X.w) X.A.in1 (eqBool x1 y1) (fun r1 s1 => r1 = true ∧ wpAny (model X.prog X.w) X.A.in1 (eqBool x2 y2) (fun r2 s2 => r2 = true ∧ EP X pins σ Q (.bool r) s2) X.xe s1) X.xe s := by
  obtain ⟨a, b, n1, j1, p, q, dx, dy, fs, gs, rfl, rfl, ta, tb, ha, hb2, h1, h2⟩ := h
  cases rx; cases ry
  obtain ⟨its, r1, t1, _⟩ := I.tuple ta
  obtain ⟨its2, r2, t2, _⟩ := I.tuple tb
  cases r1 with | cons rn r1 =>
  cases r1 with | cons rp r1 =>
  cases r1
  cases r2 with | cons rj r2 =>
  cases r2 with | cons rq r2 =>
  cases r2
  cases rn; cases rj
  rename_i vp vq
  have sb : Sub X 2 X.A.in1 := ⟨hr3.in1, rfl⟩
  refine ⟨a, b, .ref n1, vp, .ref j1, vq, rfl, rfl, t1, t2, ?_⟩
  by_cases e : n1 = j1
  · subst e
    obtain ⟨d, q2⟩ := h1 rfl
    refine SeqAt.EqAt.same (A := X.A.in1) (s := s) (.ref n1) X.prog X.w X.xe _ ⟨rfl, ?_⟩
    refine wpAny_mono (eqG_D2 X.A.in1 pins s σ H p q _ _ sb I rp rq d) (fun r2 s2 z => ?_) fun _ _ e => e
    obtain ⟨z1, G, J, ex⟩ := z
    exact ⟨z1, .bl r, G, J, rfl, q2 G ex⟩
  · have hsp := h2 e
    obtain ⟨_, K1, _⟩ := ins_get I.hok ha
    obtain ⟨_, K2, _⟩ := ins_get I.hok hb2
    obtain ⟨_, K1, _⟩ := K1.look
    obtain ⟨_, K2, _⟩ := K2.look
    obtain ⟨_, fr⟩ := I.fr
    refine GQ.eqBool_refG e (PySem.W.cmp_K (tb := .ref C) (op := .Eq) hr.in1.units0 fr I.ok.mod.kin K1 K2.type (by simp [PySem.W.notFirst]) he hi ?_)
    have lens : 2 = ps.length := F.len _ _ _ _ hsp
    have rels : Vals [V.ref n1, V.ref j1] [Value.ref n1, Value.ref j1] := .cons rfl (.cons rfl .nil)
    have bnd := hb s [.ref n1, .ref j1] I.kIn (by simpa using lens)
    refine wpAny_call (codeAny_mono (F.run X.A.in1 X.stack s H ⟨[.ref n1, .ref j1], []⟩ _ _ _ _ hr.in1 I.env0.in1 (by simpa using bnd) rels hsp) fun r1 t hq => ?_)
    match r1, hq with
    | .error e, hq => exact hx pins σ H s e t I hq
    | .ok (.ret w), hq =>
      obtain ⟨z, G, J, rz, ez, d, q2⟩ := I.after hq
      subst ez
      cases rz
      refine ⟨true, rfl, rfl, ?_⟩
      refine wpAny_mono (eqG_D2 X.A.in1 pins t σ G p q _ _ sb J rp rq d) (fun r2 s2 z => ?_) fun _ _ e => e
      obtain ⟨z1, G2, J2, ex⟩ := z
      exact ⟨z1, .bl r, G2, J2, rfl, q2 G2 ex⟩
    | .ok .next, hq => exact False.elim hq
    | .ok .brk, hq => exact False.elim hq
    | .ok .cont, hq => exact False.elim hq
/-- a tuple of tuples of ints -/
def ttD (d : D) : Prop := ∃ l : List (List Int), d = .tup (l.map fun xs => .tup (xs.map D.int))
def samePr (c : Str) (m : List D → Store → R D) (x y : D) (st : Store) : Prop := ∃ n j p cf df, x = .tup [.ref n, p] ∧ y = .tup [.ref j, p] ∧ st[n]? = some (.ins c cf) ∧ st[j]? = some (.ins c df) ∧ gcR st (m [.ref n, .ref j] st) = .ok (.bl true) st ∧ ttD p
open Classical in
noncomputable def prP (c : Str) (m : List D → Store → R D) (r : Bool) (x y : D) (st : Store) : R D := if samePr c m x y st then .ok (.bl r) st else .bad
theorem relDs_prs {G : GX} {μ : List Addr} {H : Hp} {E : Eqv} : ∀ {ds : List D} {vs us : List V}, (∀ d ∈ ds, ∀ v u, RelD G μ H d v → RelD G μ H d u → E v u H) → RelDs G μ H ds vs → RelDs G μ H ds us → Prs E vs us H
  | [], _, _, _, r1, r2 => by cases r1; cases r2; exact .nil
  | d :: ds, _, _, h, r1, r2 => by
    obtain ⟨v, vs, rfl, rv, r1⟩ := r1
    obtain ⟨u, us, rfl, ru, r2⟩ := r2
    exact .cons (h d (by simp) v u rv ru) (relDs_prs (fun d hd => h d (by simp [hd])) r1 r2)
theorem ttD_D2 {G : GX} {μ : List Addr} {H : Hp} {p : D} (t : ttD p) {v u : V} (rv : RelD G μ H p v) (ru : RelD G μ H p u) : D2 G.K v u H := by
  obtain ⟨l, rfl⟩ := t
  obtain ⟨a, vs, rfl, sa, rv⟩ := rv
  obtain ⟨b, us, rfl, sb, ru⟩ := ru
  refine ⟨a, b, vs, us, rfl, rfl, .of sa, .of sb, relDs_prs (fun d hd v u rv ru => ?_) rv ru⟩
  obtain ⟨xs, _, rfl⟩ := List.mem_map.mp hd
  obtain ⟨a, vs, rfl, sa, rv⟩ := rv
  obtain ⟨b, us, rfl, sb, ru⟩ := ru
  refine ⟨a, b, vs, us, rfl, rfl, .of sa, .of sb, relDs_prs (fun d hd v u rv ru => ?_) rv ru⟩
  obtain ⟨i, _, rfl⟩ := List.mem_map.mp hd
  cases rv; cases ru
  exact ⟨rfl, rfl, by simp [eqV]⟩
theorem ext_ext {μ : List Addr} {H H' : Hp} (e : L2.Ext H H') : Ext μ H μ H' := ⟨[], by simp, by simp, fun a o h _ => e a o h⟩
theorem HS.exts {G : GX} {μ : List Addr} {H H' : Hp} {st : Store} (h : HS G μ H st) (e : L2.Ext H H') : HS G μ H' st :=
  ⟨h.nd, h.len, fun i a o h1 h2 => by obtain ⟨ho, h3, h4⟩ := h.obj i a o h1 h2; exact ⟨ho, e _ _ h3, HObj.ext h (ext_ext e) h4⟩⟩
theorem prPA {G : GX} {c : Str} {m : List D → Store → R D} {r : Bool} {C : Addr} (hC : G.mg c = some (.ref C)) : OpA G (prP c m r) (fun x y H Q => rPair C G.K (spA G m 2) r x y H Q) := by
  intro W σ μ H st x y v u Q hs rx ry p
  unfold prP at p
  split at p
  · rename_i hp
    obtain ⟨n, j, q, cf, df, rfl, rfl, e1, e2, em, tt⟩ := hp
    obtain ⟨a, vs, rfl, sa, v1, r1, rfl, rn, v2, r2, rfl, rq, e0⟩ := rx
    cases e0
    obtain ⟨b, us, rfl, sb, u1, r1, rfl, rj, u2, r2, rfl, rq2, e0⟩ := ry
    cases e0
    obtain ⟨x1, ex, rfl⟩ := rn
    obtain ⟨y1, ey, rfl⟩ := rj
    obtain ⟨_, h1, C1, dx, fs, rfl, m1, _⟩ := hs.obj n x1 _ ex e1
    obtain ⟨_, h2, C2, dy, gs, rfl, m2, _⟩ := hs.obj j y1 _ ey e2
    rw [hC] at m1 m2
    cases m1; cases m2
    refine ⟨a, b, x1, y1, v2, u2, dx, dy, fs, gs, rfl, rfl, .of sa, .of sb, h1, h2, fun _ => ⟨ttD_D2 tt rq rq2, fun G' e => p μ G' _ (ext_ext e) (hs.exts e) rfl⟩, fun _ => ?_⟩
    refine ⟨μ, st, [.ref n, .ref j], hs, ⟨_, _, rfl, ⟨x1, ex, rfl⟩, _, _, rfl, ⟨y1, ey, rfl⟩, rfl⟩, ?_, rfl⟩
    refine Post.gc hs ?_
    rw [em]
    refine fun μ' H' z e hs' rz => ⟨rz, ttD_D2 tt (RelD.ext hs e _ _ rq) (RelD.ext hs e _ _ rq2), fun G' e2 => p μ' G' _ (e.trans (ext_ext e2)) (hs'.exts e2) rfl⟩
  · exact p.elim
section
variable {X : Cx} {W : WX} {a b e : Expr} {fa fb fe : EF} {pos : Pos} {lv k : Nat}
theorem op_prN {C f : Addr} {fd : FuncData} {ps : List Str} {sp : Sp} {CX : CXT} (F : FnOk X.prog X.w X.K X.mg X.base CX k f fd ps sp) (hr : Room (k + 1) X.A) (hr3 : Room 3 X.A)
    (he : PySem.W.findIn X.K (.ref C) "__eq__" = some (some (.ref f))) (hi : PySem.W.isFn X.K (.ref f) = true) (hb : Binds X.K fd ps []) (hx : Passes CX X (fun _ _ _ => False)) : OpR X (compareOp .NotEq) (rPair C X.K sp false) := by
  intro pins s σ H x y v u Q I rx ry h
  obtain ⟨a, b, x1, x2, y1, y2, rfl, rfl, t1, t2, q⟩ := op_pair F hr hr3 he hi hb hx I rx ry h
  exact rc2_ne hr.units0 t1 t2 q
theorem op_prE {C f : Addr} {fd : FuncData} {ps : List Str} {sp : Sp} {CX : CXT} (F : FnOk X.prog X.w X.K X.mg X.base CX k f fd ps sp) (hr : Room (k + 1) X.A) (hr3 : Room 3 X.A)
    (he : PySem.W.findIn X.K (.ref C) "__eq__" = some (some (.ref f))) (hi : PySem.W.isFn X.K (.ref f) = true) (hb : Binds X.K fd ps []) (hx : Passes CX X (fun _ _ _ => False)) : OpR X (compareOp .Eq) (rPair C X.K sp true) := by
  intro pins s σ H x y v u Q I rx ry h
  obtain ⟨a, b, x1, x2, y1, y2, rfl, rfl, t1, t2, q⟩ := op_pair F hr hr3 he hi hb hx I rx ry h
  exact rc2_eq hr.units0 t1 t2 q
variable {c : Str} {m : List D → Store → R D}
theorem ae_prN (F : EqA (gx X) X.prog X.w X.base k c m) (cx : Ctx X W lv) (ha : AE X W a fa) (hb : AE X W b fb) (hk : k + 1 ≤ lv := by decide) (h3 : 3 ≤ lv := by decide) : AE X W (.Compare a [.NotEq] [b] pos) (e2 (prP c m false) fa fb) := by
  obtain ⟨C, f, fd, ps, F, hC, h1, h2, h3'⟩ := F.ex
  exact ae_cmp (op_prN F (cx.room.mono hk) (cx.room.mono h3) h1 h2 h3' (fun pins σ H s e s' I z => by obtain ⟨_, _, _, _, _, _, _, _, _, _, _, _, z⟩ := z; exact z.elim)) (prPA hC) ha hb (nomark _)
theorem at_prN (F : EqA (gx X) X.prog X.w X.base k c m) (cx : Ctx X W lv) (ha : AE X W a fa) (hb : AE X W b fb) (hk : k + 1 ≤ lv := by decide) (h3 : 3 ≤ lv := by decide) : AT X W (.Compare a [.NotEq] [b] pos) (bB (e2 (prP c m false) fa fb)) := by
  obtain ⟨C, f, fd, ps, F, hC, h1, h2, h3'⟩ := F.ex
  exact at_cmp (op_prN F (cx.room.mono hk) (cx.room.mono h3) h1 h2 h3' (fun pins σ H s e s' I z => by obtain ⟨_, _, _, _, _, _, _, _, _, _, _, _, z⟩ := z; exact z.elim)) (prPA hC) ha hb (nomark _)
theorem ae_prE (F : EqA (gx X) X.prog X.w X.base k c m) (cx : Ctx X W lv) (ha : AE X W a fa) (hb : AE X W b fb) (hk : k + 1 ≤ lv := by decide) (h3 : 3 ≤ lv := by decide) : AE X W (.Compare a [.Eq] [b] pos) (e2 (prP c m true) fa fb) := by
  obtain ⟨C, f, fd, ps, F, hC, h1, h2, h3'⟩ := F.ex
  exact ae_cmp (op_prE F (cx.room.mono hk) (cx.room.mono h3) h1 h2 h3' (fun pins σ H s e s' I z => by obtain ⟨_, _, _, _, _, _, _, _, _, _, _, _, z⟩ := z; exact z.elim)) (prPA hC) ha hb (nomark _)
theorem at_prE (F : EqA (gx X) X.prog X.w X.base k c m) (cx : Ctx X W lv) (ha : AE X W a fa) (hb : AE X W b fb) (hk : k + 1 ≤ lv := by decide) (h3 : 3 ≤ lv := by decide) : AT X W (.Compare a [.Eq] [b] pos) (bB (e2 (prP c m true) fa fb)) := by
  obtain ⟨C, f, fd, ps, F, hC, h1, h2, h3'⟩ := F.ex
  exact at_cmp (op_prE F (cx.room.mono hk) (cx.room.mono h3) h1 h2 h3' (fun pins σ H s e s' I z => by obtain ⟨_, _, _, _, _, _, _, _, _, _, _, _, z⟩ := z; exact z.elim)) (prPA hC) ha hb (nomark _)
end
end TK

set_option Elab.async false
set_option linter.all false
set_option maxRecDepth 100000
set_option maxHeartbeats 4000000
namespace TK
open PySem PySem.Spec
open PyProof.Rows hiding St
open L2
/-! # dicts by int keys, by keys that are tuples -/
section
variable {κ : Type} [DecidableEq κ]
def getKs (f : D → Option κ) (k : κ) : List (D × D) → Option D
  | [] => none
  | (x, d) :: r => if f x = some k then some d else getKs f k r
def setKs (f : D → Option κ) (k : κ) (y : D) : List (D × D) → List (D × D)
  | [] => []
  | (x, d) :: r => (if f x = some k then (x, y) else (x, d)) :: setKs f k y r
def putKs (f : D → Option κ) (key : D) (k : κ) (y : D) (kvs : List (D × D)) : List (D × D) := if (getKs f k kvs).isSome then setKs f k y kvs else kvs ++ [(key, y)]
variable {G : GX} {μ : List Addr} {H : Hp} {f : D → Option κ}
theorem relK_get {k : κ} : ∀ {kvs : List (D × D)} {ks : List (κ × V)}, RelK G μ H f kvs ks → (getKs f k kvs = none ∧ valV ks k = none) ∨ ∃ d v, getKs f k kvs = some d ∧ valV ks k = some v ∧ RelD G μ H d v
  | [], _, r => by cases r; exact .inl ⟨rfl, rfl⟩
  | (x, d) :: kvs, _, r => by
    obtain ⟨c, v, rest, rfl, ec, rd, rs⟩ := r
    by_cases e : c = k
    · subst e
      exact .inr ⟨d, v, by simp [getKs, ec], valV_pos rfl, rd⟩
    · have e' : ¬ f x = some k := fun q => e (by rw [ec] at q; exact Option.some.inj q)
      rw [valV_neg (p := (c, v)) e]
      simp only [getKs, if_neg e']
      exact relK_get rs
theorem relK_len : ∀ {kvs : List (D × D)} {ks : List (κ × V)}, RelK G μ H f kvs ks → ks.length = kvs.length
  | [], _, r => by cases r; rfl
  | (x, d) :: kvs, _, r => by obtain ⟨c, v, rest, rfl, _, _, rs⟩ := r; simp [relK_len rs]
theorem relK_set {k : κ} {y : D} {v : V} (ry : RelD G μ H y v) : ∀ {kvs : List (D × D)} {ks : List (κ × V)}, RelK G μ H f kvs ks → RelK G μ H f (setKs f k y kvs) (ks.map fun kv => if kv.1 = k then (kv.1, v) else kv)
  | [], _, r => by cases r; rfl
  | (x, d) :: kvs, _, r => by
    obtain ⟨c, w, rest, rfl, ec, rd, rs⟩ := r
    by_cases e : c = k
    · subst e
      simp only [setKs, ec, if_true, List.map_cons]
      exact ⟨c, v, _, rfl, ec, ry, relK_set ry rs⟩
    · have e' : ¬ f x = some k := fun q => e (by rw [ec] at q; exact Option.some.inj q)
      simp only [setKs, if_neg e', List.map_cons, if_neg e]
      exact ⟨c, w, _, rfl, ec, rd, relK_set ry rs⟩
theorem relK_snoc {key : D} {k : κ} {y : D} {v : V} (ek : f key = some k) (ry : RelD G μ H y v) : ∀ {kvs : List (D × D)} {ks : List (κ × V)}, RelK G μ H f kvs ks → RelK G μ H f (kvs ++ [(key, y)]) (ks ++ [(k, v)])
  | [], _, r => by cases r; exact ⟨k, v, [], rfl, ek, ry, rfl⟩
  | (x, d) :: kvs, _, r => by
    obtain ⟨c, w, rest, rfl, ec, rd, rs⟩ := r
    exact ⟨c, w, _, rfl, ec, rd, relK_snoc ek ry rs⟩
theorem any_val {k : κ} : ∀ {ks : List (κ × V)}, (ks.any fun kv => decide (kv.1 = k)) = (valV ks k).isSome
  | [] => rfl
  | (c, v) :: ks => by
    by_cases e : c = k
    · subst e; rw [valV_pos (p := (c, v)) rfl]; simp
    · rw [valV_neg (p := (c, v)) e, ← any_val]; simp [e]
theorem relK_put {key : D} {k : κ} {y : D} {v : V} (ek : f key = some k) (ry : RelD G μ H y v) {kvs : List (D × D)} {ks : List (κ × V)} (r : RelK G μ H f kvs ks) : RelK G μ H f (putKs f key k y kvs) (putK ks k v) := by
  unfold putKs putK
  rw [any_val]
  rcases relK_get (k := k) r with ⟨e1, e2⟩ | ⟨d, w, e1, e2, _⟩
  · rw [e1, e2]; exact relK_snoc ek ry r
  · rw [e1, e2]; exact relK_set ry r
end
theorem keyS_ok {G : GX} {μ : List Addr} {H : Hp} {d : D} {v : V} {k : Key} (r : RelD G μ H d v) (e : keyS d = some k) : v = kV k := by
  cases d <;> simp [keyS] at e
  · subst e; exact r
  · subst e; exact r
theorem keySs_ok {G : GX} {μ : List Addr} {H : Hp} : ∀ {ds : List D} {vs : List V} {ks : List Key}, RelDs G μ H ds vs → keySs ds = some ks → vs = ks.map kV
  | [], _, _, r, e => by cases r; simp [keySs] at e; subst e; rfl
  | d :: ds, _, ks, r, e => by
    obtain ⟨v, rest, rfl, rd, rs⟩ := r
    simp only [keySs] at e
    split at e
    · rename_i k ks' e1 e2
      cases e
      rw [List.map_cons, ← keyS_ok rd e1, ← keySs_ok rs e2]
    · cases e
theorem keyT_ok {G : GX} {μ : List Addr} {H : Hp} {d : D} {v : V} {k : List Key} (r : RelD G μ H d v) (e : keyT d = some k) : ∃ b, v = .ref b ∧ H b = some (.tup (k.map kV)) := by
  cases d with
  | tup ds =>
    obtain ⟨b, vs, rfl, hb, rs⟩ := r
    have e : keySs ds = some k := e
    rw [keySs_ok rs e] at hb
    exact ⟨b, rfl, hb⟩
  | _ => simp [keyT] at e
def isDct (d : D) (st : Store) : Bool := match d with
  | .ref n => (match st[n]? with | some (.dct _) => true | some (.dcT _) => true | _ => false)
  | _ => false
def dgetD (x i d : D) (st : Store) : R D := match x with
  | .ref n => (match st[n]? with
    | some (.dct kvs) => (match keyS i with | some k => .ok ((getKs keyS k kvs).getD d) st | none => .bad)
    | some (.dcT kvs) => (match keyT i with | some k => .ok ((getKs keyT k kvs).getD d) st | none => .bad)
    | _ => .bad)
  | _ => .bad
def eDget (fo fi fd : EF) : EF := fun env st => (fo env st).bind fun x st1 => if isDct x st1 then (fi env st1).bind fun i st2 => (fd env st2).bind fun d st3 => dgetD x i d st3 else .bad
def dputR (n : Nat) (i y : D) (env : AEnv) (st : Store) : RS := match st[n]? with
  | some (.dct kvs) => (match keyS i with | some k => if kvs.length < sizeLine then .next env (st.set n (.dct (putKs keyS i k y kvs))) else .bad | none => .bad)
  | some (.dcT kvs) => (match keyT i with | some k => if kvs.length < sizeLine then .next env (st.set n (.dcT (putKs keyT i k y kvs))) else .bad | none => .bad)
  | _ => .bad
def sDput (fo fi fe : EF) : SF := fun env st => sOf (fe env st) env fun y st1 => sOf (fo env st1) env fun x st2 => sOf (fi env st2) env fun i st3 => match x with
  | .ref n => dputR n i y env st3
  | _ => .bad
def eDctT : EF := fun _ st => .ok (.ref st.length) (st ++ [.dcT []])
section
variable {X : Cx} {W : WX} {o i e d : Expr} {fo fi fe fd : EF} {pos pos' : Pos} {lv : Nat}
theorem ae_dctT : AE X W (.Dict [] [] pos) eDctT := pe_dnewT.weak fun σ H Q ⟨μ, env, st, hs, er, p⟩ => fun q hq => by
  have hn : q ∉ μ := hs.fresh hq
  refine p (μ ++ [q]) (upd H q (.dT [])) _ ((Ext.new hq).adopt hq hn) ((hs.new hq).adopt upd_same hn ⟨[], rfl, rfl⟩) ⟨q, ?_, rfl⟩
  rw [← hs.len, List.getElem?_append_right (Nat.le_refl _)]; simp
theorem ae_dget {apos cpos : Pos} (cx : Ctx X W lv) (ho : AE X W o fo) (hi : AE X W i fi) (hd : AE X W d fd) (hb : attributeBase o "get" X.env (eval o X.env) = eval o X.env := by rfl)
    (hf : ((backTo cpos (starEach [i, d] X.env)).all (fun x => !x.1) && (backToKw cpos (keywordEach [] X.env)).all (fun x => x.1.isSome) && decide (([i, d] : List Expr).length + ([] : List Keyword).length + (if ([] : List Keyword).isEmpty then 0 else 1) < 30)) = true := by rfl)
    (hl : (apos.endLine == cpos.line) = true := by rfl) (ht : backTo cpos (starEach [i, d] X.env) = [(false, eval i X.env), (false, eval d X.env)] := by rfl) : AE X W (.Call (.Attribute o "get" apos) [i, d] [] cpos) (eDget fo fi fd) :=
  (pe_dget2 (by have := cx.room.units; omega) ho hi hd ⟨hb, hf, hl, ht⟩).weak fun σ H Q ⟨μ, env, st, hs, er, p⟩ => ⟨μ, env, st, hs, er, Post.bind p fun x st1 μ1 H1 v _ x1 hs1 r1 p1 => by
    split at p1
    · rename_i hx
      cases x with
      | ref n =>
        obtain ⟨a, e1, rfl⟩ := r1
        obtain ⟨ob, ho, e2, e3, ro⟩ := hs1.at e1
        have isd : IsD H1 a := by
          simp only [isDct, e2] at hx
          cases ob with
          | dct kvs => obtain ⟨ks, rfl, _⟩ := ro; exact .inl ⟨ks, .inl e3⟩
          | dcT kvs => obtain ⟨ks, rfl, _⟩ := ro; exact .inr ⟨ks, .inl e3⟩
          | _ => simp at hx
        refine ⟨a, rfl, isd, μ1, env, st1, hs1, er.ext hs x1, Post.bind p1 fun iv st2 μ2 H2 y _ x2 hs2 r2 p2 => ⟨μ2, env, st2, hs2, (er.ext hs x1).ext hs1 x2, Post.bind p2 fun dv st3 μ3 H3 z _ x3 hs3 r3 p3 => ?_⟩⟩
        have e4 : ∃ b, μ3[n]? = some b ∧ V.ref a = .ref b := (RelD.ext hs1 (x2.trans x3) (.ref n) _ ⟨a, e1, rfl⟩)
        obtain ⟨b, e4, eb⟩ := e4
        cases eb
        have r2 := RelD.ext hs2 x3 _ _ r2
        simp only [dgetD] at p3
        split at p3
        · rename_i kvs e5
          obtain ⟨_, h1, ks, rfl, rk⟩ := hs3.obj n a _ e4 e5
          split at p3
          · rename_i k ek
            have := keyS_ok r2 ek
            subst this
            rcases relK_get (k := k) rk with ⟨g1, g2⟩ | ⟨d', w, g1, g2, g3⟩
            · rw [g1] at p3
              exact ⟨_, .k h1, by rw [g2]; exact p3 μ3 H3 _ .refl hs3 r3⟩
            · rw [g1] at p3
              exact ⟨_, .k h1, by rw [g2]; exact p3 μ3 H3 _ .refl hs3 g3⟩
          · exact p3.elim
        · rename_i kvs e5
          obtain ⟨_, h1, ks, rfl, rk⟩ := hs3.obj n a _ e4 e5
          split at p3
          · rename_i k ek
            obtain ⟨b, rfl, hb⟩ := keyT_ok r2 ek
            rcases relK_get (k := k) rk with ⟨g1, g2⟩ | ⟨d', w, g1, g2, g3⟩
            · rw [g1] at p3
              exact ⟨_, .t h1 hb, by rw [g2]; exact p3 μ3 H3 _ .refl hs3 r3⟩
            · rw [g1] at p3
              exact ⟨_, .t h1 hb, by rw [g2]; exact p3 μ3 H3 _ .refl hs3 g3⟩
          · exact p3.elim
        · exact p3.elim
      | _ => simp [isDct] at hx
    · exact p1.elim⟩
theorem as_dput {spos : Pos} (cx : Ctx X W lv) (ho : AE X W o fo) (hi : AE X W i fi) (he : AE X W e fe) (hs : swapsWith e (some (.Subscript o i pos')) spos.line X.env = pure false := by rfl) : AS X W (.Assign [.Subscript o i pos'] e spos) (sDput fo fi fe) :=
  (ps_dput (by have := cx.room.units; omega) ho hi he hs).weak fun Dn σ H ⟨μ, env, st, hs, er, p⟩ => ⟨μ, env, st, hs, er, PostS.bind p hs er fun y st1 μ1 H1 v _ x1 hs1 r1 p1 =>
    ⟨μ1, env, st1, hs1, er.ext hs x1, PostS.bind p1 hs1 (er.ext hs x1) fun x st2 μ2 H2 ov _ x2 hs2 r2 p2 => ⟨μ2, env, st2, hs2, (er.ext hs x1).ext hs1 x2, PostS.bind p2 hs2 ((er.ext hs x1).ext hs1 x2) fun i st3 μ3 H3 iv _ x3 hs3 r3 p3 => by
      have r2 := RelD.ext hs2 x3 _ _ r2
      have r1 := RelD.ext hs1 (x2.trans x3) _ _ r1
      have er3 := ((er.ext hs x1).ext hs1 x2).ext hs2 x3
      split at p3
      · rename_i n
        obtain ⟨a, e1, rfl⟩ := r2
        unfold dputR at p3
        split at p3
        · rename_i kvs e2
          obtain ⟨_, h1, ks, rfl, rk⟩ := hs3.obj _ a _ e1 e2
          split at p3
          · rename_i k ek
            split at p3
            · rename_i hz
              have := keyS_ok r3 ek
              subst this
              exact ⟨a, _, rfl, .k h1 (by rw [relK_len rk]; exact hz), p3 μ3 _ σ (.put e1) (hs3.put e1 ⟨_, rfl, relK_put ek r1 rk⟩) (er3.wr (hs3.noTupAt e1))⟩
            · exact p3.elim
          · exact p3.elim
        · rename_i kvs e2
          obtain ⟨_, h1, ks, rfl, rk⟩ := hs3.obj _ a _ e1 e2
          split at p3
          · rename_i k ek
            split at p3
            · rename_i hz
              obtain ⟨b, rfl, hb⟩ := keyT_ok r3 ek
              exact ⟨a, _, rfl, .t h1 hb (by rw [relK_len rk]; exact hz), p3 μ3 _ σ (.put e1) (hs3.put e1 ⟨_, rfl, relK_put ek r1 rk⟩) (er3.wr (hs3.noTupAt e1))⟩
            · exact p3.elim
          · exact p3.elim
        · exact p3.elim
      · exact p3.elim⟩⟩⟩
end
@[simp] theorem eDctT_ap (env : AEnv) (st : Store) : eDctT env st = .ok (.ref st.length) (st ++ [.dcT []]) := rfl
@[simp] theorem eDget_ap (fo fi fd : EF) (env : AEnv) (st : Store) : eDget fo fi fd env st = ((fo env st).bind fun x st1 => if isDct x st1 then (fi env st1).bind fun i st2 => (fd env st2).bind fun d st3 => dgetD x i d st3 else .bad) := (Eq.refl _).trans rfl
@[simp] theorem sDput_ap (fo fi fe : EF) (env : AEnv) (st : Store) : sDput fo fi fe env st = (sOf (fe env st) env fun y st1 => sOf (fo env st1) env fun x st2 => sOf (fi env st2) env fun i st3 => match x with
  | .ref n => dputR n i y env st3
  | _ => .bad) := (Eq.refl _).trans rfl
end TK

set_option Elab.async false
set_option linter.all false
set_option maxRecDepth 100000
set_option maxHeartbeats 4000000
namespace TK
open PySem PySem.Spec
open PyProof.Rows hiding St
open L2
/-! # xs.insert(i, y) -/
section
variable {X : Cx} {W : WX} {o e e' : Expr} {fo : EF} {fr : LF} {pos : Pos}
def insertG (x : D) (ds : List D) (st : Store) : R D := match x, ds with
  | .ref n, [.int i, d] => (match st[n]? with
    | some (.lst xs) => if xs.length < sizeLine ∧ 0 ≤ i ∧ i < 2 ^ 63 then .ok .non (st.set n (.lst (xs.take i.toNat ++ [d] ++ xs.drop i.toNat))) else .bad
    | _ => .bad)
  | _, _ => .bad
theorem insertA {G : GX} : MetA G insertG (fun x vs H Q => ∃ (l : Addr) (xs : List V) (i : Int) (y : V), x = .ref l ∧ vs = [.int i, y] ∧ H l = some (.lst xs) ∧ xs.length < sizeLine ∧ 0 ≤ i ∧ i < 2 ^ 63 ∧
    Q .non (upd H l (.lst (xs.take i.toNat ++ [y] ++ xs.drop i.toNat)))) := by
  intro W σ μ H st x ds v vs Q hs rx rs p
  unfold insertG at p
  split at p
  · rename_i i d
    obtain ⟨y0, rest, rfl, rd0, e0⟩ := rs
    cases rd0
    obtain ⟨y, rest, rfl, rd, e0⟩ := e0
    cases e0
    obtain ⟨a, e1, rfl⟩ := rx
    split at p
    · rename_i xs e2
      obtain ⟨_, h1, us, rfl, ru⟩ := hs.obj _ a _ e1 e2
      split at p
      · rename_i hz
        exact ⟨a, us, i, y, rfl, rfl, h1, by rw [ru.length]; exact hz.1, hz.2.1, hz.2.2, p μ _ _ (.put e1) (hs.put e1 ⟨_, rfl, ((ru.take i.toNat).append (.one rd)).append (ru.drop i.toNat)⟩) rfl⟩
      · exact p.elim
    · exact p.elim
  · exact p.elim
theorem ae_insert {apos cpos : Pos} (ho : AE X W o fo) (ha : AA X W [e, e'] fr) (hbase : attributeBase o "insert" X.env (eval o X.env) = eval o X.env := by rfl)
    (hfew : ((backTo cpos (starEach [e, e'] X.env)).all (fun x => !x.1) && (backToKw cpos (keywordEach [] X.env)).all (fun x => x.1.isSome)
      && decide (([e, e'] : List Expr).length + ([] : List Keyword).length + (if ([] : List Keyword).isEmpty then 0 else 1) < 30)) = true := by rfl)
    (hline : (apos.endLine == cpos.line) = true := by rfl) (hs : starEach [e, e'] X.env = (false, eval e X.env) :: starEach [e'] X.env := by rfl) (hplain : (backTo cpos (starEach [e'] X.env)).any (·.1) = false := by rfl) : AE X W (.Call (.Attribute o "insert" apos) [e, e'] [] cpos) (eM isLst insertG fo fr) :=
  ae_bm PySem.F.plainAttrs_list PySem.F.slot_list_insert PySem.F.type_list_insert mt_insert tyLst insertA ho ha hbase hfew hline hs hplain
/-! ## d[key] -/
def datD (x i : D) (st : Store) : R D := match x with
  | .ref n => (match st[n]? with
    | some (.dct kvs) => (match keyS i with | some k => (match getKs keyS k kvs with | some d => .ok d st | none => .bad) | none => .bad)
    | some (.dcT kvs) => (match keyT i with | some k => (match getKs keyT k kvs with | some d => .ok d st | none => .bad) | none => .bad)
    | _ => .bad)
  | _ => .bad
def eDat (fo fi : EF) : EF := fun env st => (fo env st).bind fun x st1 => (fi env st1).bind fun i st2 => datD x i st2
theorem ae_dat {lv : Nat} {i : Expr} {fi : EF} (cx : Ctx X W lv) (ho : AE X W o fo) (hi : AE X W i fi) (hs : NoSl i := by exact fun _ _ => rfl) : AE X W (.Subscript o i pos) (eDat fo fi) :=
  (pe_dget (by have := cx.room.units; omega) ho hi hs).weak fun σ H Q ⟨μ, env, st, hs, er, p⟩ => ⟨μ, env, st, hs, er, Post.bind p fun x st1 μ1 H1 v _ x1 hs1 r1 p1 =>
    ⟨μ1, env, st1, hs1, er.ext hs x1, Post.bind p1 fun iv st2 μ2 H2 y _ x2 hs2 r2 p2 => by
      have r1 := RelD.ext hs1 x2 _ _ r1
      simp only [datD] at p2
      split at p2
      · obtain ⟨a, e4, rfl⟩ := r1
        split at p2
        · rename_i kvs e5
          obtain ⟨_, h1, ks, rfl, rk⟩ := hs2.obj _ a _ e4 e5
          split at p2
          · rename_i k ek
            have := keyS_ok r2 ek
            subst this
            rcases relK_get (k := k) rk with ⟨g1, g2⟩ | ⟨d', w, g1, g2, g3⟩
            · rw [g1] at p2
              exact p2.elim
            · rw [g1] at p2
              exact ⟨a, w, rfl, by rw [← g2]; exact .k h1, p2 μ2 H2 _ .refl hs2 g3⟩
          · exact p2.elim
        · rename_i kvs e5
          obtain ⟨_, h1, ks, rfl, rk⟩ := hs2.obj _ a _ e4 e5
          split at p2
          · rename_i k ek
            obtain ⟨b, rfl, hb⟩ := keyT_ok r2 ek
            rcases relK_get (k := k) rk with ⟨g1, g2⟩ | ⟨d', w, g1, g2, g3⟩
            · rw [g1] at p2
              exact p2.elim
            · rw [g1] at p2
              exact ⟨a, w, rfl, by rw [← g2]; exact .t h1 hb, p2 μ2 H2 _ .refl hs2 g3⟩
          · exact p2.elim
        · exact p2.elim
      · exact p2.elim⟩⟩
end
@[simp] theorem eDat_ap (fo fi : EF) (env : AEnv) (st : Store) : eDat fo fi env st = ((fo env st).bind fun x st1 => (fi env st1).bind fun i st2 => datD x i st2) := (Eq.refl _).trans rfl
end TK

set_option Elab.async false
set_option linter.all false
set_option maxRecDepth 100000
set_option maxHeartbeats 4000000
namespace TK
open PySem PySem.Spec
open PyProof.Rows hiding St
open L2
/-! # comprehensions with two fors: the list stands in the store while it grows -/
open Classical in
noncomputable def cmpI (n : Nat) (t : Tgt) (c : BF) (elt : EF) (g : Its) : List D → AEnv → Store → R D
  | [], _, st => .ok .non st
  | d :: ds, env, st => match asgT t d env with
    | none => .bad
    | some env1 => (c env1 st).bind fun b st1 => if b then (elt env1 st1).bind fun y st2 => (match st2[n]? with
        | some (.lst xs) => if xs.length < sizeLine ∧ gOK g (st2.set n (.lst (xs ++ [y]))) then cmpI n t c elt g ds env (st2.set n (.lst (xs ++ [y]))) else .bad
        | _ => .bad)
      else (if gOK g st1 then cmpI n t c elt g ds env st1 else .bad)
open Classical in
noncomputable def cmpO (n : Nat) (vs1 : List Nat) (t : Tgt) (c : BF) (fi1 : IF) (t1 : Tgt) (c1 : BF) (elt : EF) (g : Its) : List D → AEnv → Store → R D
  | [], _, st => .ok .non st
  | d :: ds, env, st => match asgT t d env with
    | none => .bad
    | some env1 => (c env1 st).bind fun b st1 => if b then (fi1 env1 st1).bind fun g1 st2 => (if gOK g1 st2 then (cmpI n t1 c1 elt g1 g1.1 (wipeE env1 vs1) st2).bind fun _ st3 =>
        (if gOK g st3 then cmpO n vs1 t c fi1 t1 c1 elt g ds env st3 else .bad) else .bad)
      else (if gOK g st1 then cmpO n vs1 t c fi1 t1 c1 elt g ds env st1 else .bad)
open Classical in
noncomputable def eComp2 (vs vs1 : List Nat) (fi : IF) (t : Tgt) (c : BF) (fi1 : IF) (t1 : Tgt) (c1 : BF) (elt : EF) : EF := fun env st => (fi env st).bind fun g st1 => if gOK g (st1 ++ [.lst []]) then
    (match cmpO st1.length vs1 t c fi1 t1 c1 elt g g.1 (wipeE env vs) (st1 ++ [.lst []]) with
    | .ok _ st2 => .ok (.ref st1.length) st2
    | _ => .bad) else .bad
section
variable {X : Cx} {W : WX} {elt tg iter tg1 iter1 : Expr} {ifs ifs1 : List Expr} {scope : Scope} {own : List (Str × Nat)} {pos : Pos} {fi fi1 : IF} {t t1 : Tgt} {fc fc1 : BF} {fe : EF} {lv : Nat}
theorem Ext.at_ {μ μ' : List Addr} {H H' : Hp} {n : Nat} {D : Addr} (x : Ext μ H μ' H') (h : μ[n]? = some D) : μ'[n]? = some D := by
  obtain ⟨ν, rfl, _⟩ := x
  rw [List.getElem?_append_left (List.getElem?_eq_some_iff.mp h).1]
  exact h
theorem comp_t2 {vs vs1 : List Nat} (hv : ∀ i ∈ slotsT t, i ∈ vs) (hv1 : ∀ i ∈ slotsT t1, i ∈ vs1) {σ : St} {H : Hp} {Q : VK} (h : tG (gx X) W (relD (gx X)) (eComp2 vs vs1 fi t fc fi1 t1 fc1 fe) σ H Q) :
    tLc2 (tG (gx X) W (relI (gx X)) fi) (gT X.K t) (tG (gx X) W0 relB fc) (tG (gx X) W0 (relI (gx X)) fi1) (gT X.K t1) (tG (gx X) W0 relB fc1) (tG (gx X) W0 (relD (gx X)) fe) vs vs1 σ H Q := by
  obtain ⟨μ, env, st, hs, er, p⟩ := h
  refine ⟨μ, env, st, hs, er, Post.bind0 p fun g st1 μ1 H1 J _ x1 hs1 ir p1 D hD => ?_⟩
  split at p1
  · rename_i gg
    have whole : ∃ u stN, cmpO st1.length vs1 t fc fi1 t1 fc1 fe g g.1 (wipeE env vs) (st1 ++ [.lst []]) = .ok u stN ∧ Post (gx X) W (relD (gx X)) σ μ H (.ok (.ref st1.length) stN) Q := by
      cases q : cmpO st1.length vs1 t fc fi1 t1 fc1 fe g g.1 (wipeE env vs) (st1 ++ [.lst []]) with
      | ok u stN => rw [q] at p1; exact ⟨u, stN, rfl, p1⟩
      | exc x s => rw [q] at p1; exact p1.elim
      | bad => rw [q] at p1; exact p1.elim
    obtain ⟨u, stN, eN, pN⟩ := whole
    obtain ⟨hs0, xp⟩ := hs1.push (p := D) (o := .lst []) (ao := AO.lst []) hD ⟨[], rfl, rfl⟩
    have hn0 : (μ1 ++ [D])[st1.length]? = some D := by rw [← hs1.len]; exact List.getElem?_concat_length
    refine ⟨fun i m H2 => i + m = g.1.length ∧ ∃ μ2 st2, Ext (μ1 ++ [D]) (upd H1 D (.lst [])) μ2 H2 ∧ HS (gx X) μ2 H2 st2 ∧ gOK g st2 ∧
        cmpO st1.length vs1 t fc fi1 t1 fc1 fe g (g.1.drop i) (wipeE env vs) st2 = .ok u stN,
      ⟨g.1.length, by omega, μ1 ++ [D], st1 ++ [AO.lst []], .refl, hs0, gg, by rw [List.drop_zero]; exact eN⟩, fun i m H2 w => ?_⟩
    obtain ⟨em, μ2, st2, y2, hs2, g2, e2⟩ := w
    have x2 := xp.trans y2
    by_cases hi : i < g.1.length
    · refine .inr ⟨ir.go μ2 H2 st2 x2 hs2 g2 i hi, fun H' => ∃ m', m' < m ∧ i + 1 + m' = g.1.length ∧ ∃ μ2 st2, Ext (μ1 ++ [D]) (upd H1 D (.lst [])) μ2 H' ∧ HS (gx X) μ2 H' st2 ∧ gOK g st2 ∧
        cmpO st1.length vs1 t fc fi1 t1 fc1 fe g (g.1.drop (i + 1)) (wipeE env vs) st2 = .ok u stN,
        fun H' n => by obtain ⟨m', h1, h2, h3⟩ := n; exact ⟨m', h1, h2, h3⟩, fun x H3 y => ?_⟩
      obtain ⟨d, ed, x3, hs3, rd⟩ := ir.yld μ2 H2 st2 x2 hs2 g2 i x H3 hi y
      have edrop : g.1.drop i = d :: g.1.drop (i + 1) := by
        rw [List.drop_eq_getElem_cons hi]
        rw [List.getElem?_eq_getElem hi] at ed
        cases ed; rfl
      rw [edrop] at e2
      unfold cmpO at e2
      split at e2
      · cases e2
      · rename_i env3 e3
        refine gT_ok (G := gx X) t (((er.ext hs x1).wipe vs).ext hs1 (x2.trans x3)) rd e3 fun σ3 er3 hw => ⟨by rw [hw vs hv, wipe_wipe], μ2, env3, st2, hs3, er3, ?_⟩
        cases qc : fc env3 st2 with
        | exc x s => rw [qc] at e2; cases e2
        | bad => rw [qc] at e2; cases e2
        | ok b st4 =>
          rw [qc, R.bind_ok] at e2
          intro μ4 H4 v4 x4 hs4 r4
          have r4 : v4 = b := r4
          subst r4
          cases v4 with
          | false =>
            rw [if_neg (by decide)] at e2 ⊢
            split at e2
            · rename_i g4
              exact ⟨m - 1, by omega, by omega, μ4, st4, (y2.trans x3).trans x4, hs4, g4, e2⟩
            · cases e2
          | true =>
            rw [if_pos rfl] at e2 ⊢
            refine ⟨μ4, env3, st4, hs4, er3.ext hs3 x4, ?_⟩
            cases qi : fi1 env3 st4 with
            | exc x s => rw [qi] at e2; cases e2
            | bad => rw [qi] at e2; cases e2
            | ok g1 st5 =>
              rw [qi, R.bind_ok] at e2
              split at e2
              · rename_i g15
                intro μ5 H5 J1 x5 hs5 ir5
                cases qL : cmpI st1.length t1 fc1 fe g1 g1.1 (wipeE env3 vs1) st5 with
                | exc x s => rw [qL] at e2; cases e2
                | bad => rw [qL] at e2; cases e2
                | ok z st6 =>
                  rw [qL, R.bind_ok] at e2
                  split at e2
                  · rename_i g6
                    have er5 := (er3.ext hs3 x4).ext hs4 x5
                    have y5 := ((y2.trans x3).trans x4).trans x5
                    have hn5 := Ext.at_ y5 hn0
                    refine ⟨fun j k H2 => j + k = g1.1.length ∧ ∃ μ6 st8, Ext μ5 H5 μ6 H2 ∧ HS (gx X) μ6 H2 st8 ∧ gOK g1 st8 ∧
                          cmpI st1.length t1 fc1 fe g1 (g1.1.drop j) (wipeE env3 vs1) st8 = .ok z st6,
                        ⟨g1.1.length, by omega, μ5, st5, .refl, hs5, g15, qL⟩, fun j k H6 w1 => ?_⟩
                    obtain ⟨ek, μ6, st8, y6, hs6, g16, e6⟩ := w1
                    by_cases hj : j < g1.1.length
                    · refine .inr ⟨ir5.go μ6 H6 st8 y6 hs6 g16 j hj, fun H' => ∃ k', k' < k ∧ j + 1 + k' = g1.1.length ∧ ∃ μ6 st8, Ext μ5 H5 μ6 H' ∧ HS (gx X) μ6 H' st8 ∧ gOK g1 st8 ∧
                            cmpI st1.length t1 fc1 fe g1 (g1.1.drop (j + 1)) (wipeE env3 vs1) st8 = .ok z st6,
                          fun H' n => by obtain ⟨m', h1, h2, h3⟩ := n; exact ⟨m', h1, h2, h3⟩, fun x H7 y => ?_⟩
                      obtain ⟨d', ed', x7, hs7, rd'⟩ := ir5.yld μ6 H6 st8 y6 hs6 g16 j x H7 hj y
                      have edrop' : g1.1.drop j = d' :: g1.1.drop (j + 1) := by
                        rw [List.drop_eq_getElem_cons hj]
                        rw [List.getElem?_eq_getElem hj] at ed'
                        cases ed'; rfl
                      rw [edrop'] at e6
                      unfold cmpI at e6
                      split at e6
                      · cases e6
                      · rename_i env8 e8
                        refine gT_ok (G := gx X) t1 (((er5.wipe vs1).ext hs5 y6).ext hs6 x7) rd' e8 fun σ8 er8 hw8 => ⟨by rw [hw8 vs1 hv1, wipe_wipe], μ6, env8, st8, hs7, er8, ?_⟩
                        cases qc8 : fc1 env8 st8 with
                        | exc x s => rw [qc8] at e6; cases e6
                        | bad => rw [qc8] at e6; cases e6
                        | ok b st9 =>
                          rw [qc8, R.bind_ok] at e6
                          intro μ9 H9 v9 x9 hs9 r9
                          have r9 : v9 = b := r9
                          subst r9
                          cases v9 with
                          | false =>
                            rw [if_neg (by decide)] at e6 ⊢
                            split at e6
                            · rename_i g9
                              exact ⟨k - 1, by omega, by omega, μ9, st9, (y6.trans x7).trans x9, hs9, g9, e6⟩
                            · cases e6
                          | true =>
                            rw [if_pos rfl] at e6 ⊢
                            refine ⟨μ9, env8, st9, hs9, er8.ext hs7 x9, ?_⟩
                            cases qe : fe env8 st9 with
                            | exc x s => rw [qe] at e6; cases e6
                            | bad => rw [qe] at e6; cases e6
                            | ok yd st10 =>
                              rw [qe, R.bind_ok] at e6
                              intro μ10 H10 v10 x10 hs10 r10
                              split at e6
                              · rename_i xs hxs
                                split at e6
                                · rename_i gz
                                  have y10 := ((y6.trans x7).trans x9).trans x10
                                  have hn10 := Ext.at_ y10 hn5
                                  obtain ⟨o0, ho, q1, q2, q3⟩ := hs10.at hn10
                                  rw [hxs] at q1
                                  cases q1
                                  obtain ⟨vs0, rfl, q4⟩ := q3
                                  exact ⟨vs0, q2, by rw [q4.length]; exact gz.1, k - 1, by omega, by omega, μ10, st10.set st1.length (.lst (xs ++ [yd])), y10.trans (Ext.put hn10), hs10.put hn10 ⟨vs0 ++ [v10], rfl, q4.append (.one r10)⟩, gz.2, e6⟩
                                · cases e6
                              · cases e6
                    · have e0 : j = g1.1.length := by omega
                      subst e0
                      rw [List.drop_length] at e6
                      cases e6
                      exact .inl ⟨ir5.stop μ6 H6 _ y6 hs6 g16, m - 1, by omega, by omega, μ6, _, y5.trans y6, hs6, g6, e2⟩
                  · cases e2
              · cases e2
    · have e0 : i = g.1.length := by omega
      subst e0
      rw [List.drop_length] at e2
      cases e2
      exact .inl ⟨ir.stop μ2 H2 _ x2 hs2 g2, pN μ2 H2 _ (x1.trans x2) hs2 ⟨D, Ext.at_ y2 hn0, rfl⟩⟩
  · exact p1.elim
theorem ae_comp2 (c : Ctx X W lv) (hi : AI X W tg iter fi) (own : List (Str × Nat)) (vs1 : List Nat) (ok : BlkOk X.N X.env.scope scope own)
    (hg : ∀ s H C cl fp, AG (bX X scope s H C cl fp) tg t) (hc : ∀ s H C cl fp, ATs (bX X scope s H C cl fp) W0 ifs fc)
    (hi1 : ∀ s H C cl fp, AI (bX X scope s H C cl fp) W0 tg1 iter1 fi1) (hg1 : ∀ s H C cl fp, AG (bX X scope s H C cl fp) tg1 t1) (hc1 : ∀ s H C cl fp, ATs (bX X scope s H C cl fp) W0 ifs1 fc1)
    (he : ∀ s H C cl fp, AE (bX X scope s H C cl fp) W0 elt fe)
    (hv0 : ∀ i ∈ vs1, i ∈ own.map (·.2) := by decide) (hv : ∀ i ∈ slotsT t, i ∈ own.map (·.2) := by decide) (hv1 : ∀ i ∈ slotsT t1, i ∈ vs1 := by decide) (hs : ∀ x, foldedSetIterable iter X.env x = pure x := by intro _; rfl) (hs1 : ∀ env x, foldedSetIterable iter1 env x = pure x := by intro _ _; rfl) :
    AE X W (.ListComp elt [⟨tg, iter, ifs, 0⟩, ⟨tg1, iter1, ifs1, 0⟩] scope pos) (eComp2 (own.map (·.2)) vs1 fi t fc fi1 t1 fc1 fe) :=
  (pe_lc2 (g := gT X.K t) (tt := tG (gx X) W0 relB fc) (wi1 := tG (gx X) W0 (relI (gx X)) fi1) (g1 := gT X.K t1) (tt1 := tG (gx X) W0 relB fc1) (te := tG (gx X) W0 (relD (gx X)) fe) c.calm c.nd hi ok hv0 hg hc hi1 hg1 hc1 he hs hs1).weak fun σ H Q h => comp_t2 hv hv1 h
theorem as_setLc2 {spos py : Pos} {y : Str} (c : Ctx X W lv) (i : Nat) (hi : AI X W tg iter fi) (own : List (Str × Nat)) (vs1 : List Nat) (ok : BlkOk X.N X.env.scope scope own)
    (hg : ∀ s H C cl fp, AG (bX X scope s H C cl fp) tg t) (hc : ∀ s H C cl fp, ATs (bX X scope s H C cl fp) W0 ifs fc)
    (hi1 : ∀ s H C cl fp, AI (bX X scope s H C cl fp) W0 tg1 iter1 fi1) (hg1 : ∀ s H C cl fp, AG (bX X scope s H C cl fp) tg1 t1) (hc1 : ∀ s H C cl fp, ATs (bX X scope s H C cl fp) W0 ifs1 fc1)
    (he : ∀ s H C cl fp, AE (bX X scope s H C cl fp) W0 elt fe)
    (hsw : swapsWith (.ListComp elt [⟨tg, iter, ifs, 0⟩, ⟨tg1, iter1, ifs1, 0⟩] scope pos) (some (.Name y py)) spos.line X.env = pure true) (hy : X.N[i]? = some y := by rfl) (hyl : X.env.scope.names.lookup y = some .local := by rfl)
    (hv0 : ∀ i ∈ vs1, i ∈ own.map (·.2) := by decide) (hv : ∀ i ∈ slotsT t, i ∈ own.map (·.2) := by decide) (hv1 : ∀ i ∈ slotsT t1, i ∈ vs1 := by decide) (hs : ∀ x, foldedSetIterable iter X.env x = pure x := by intro _; rfl) (hs1 : ∀ env x, foldedSetIterable iter1 env x = pure x := by intro _ _; rfl) :
    AS X W (.Assign [.Name y py] (.ListComp elt [⟨tg, iter, ifs, 0⟩, ⟨tg1, iter1, ifs1, 0⟩] scope pos) spos) (sSet i (eComp2 (own.map (·.2)) vs1 fi t fc fi1 t1 fc1 fe)) :=
  (ps_setLc2 (g := gT X.K t) (tt := tG (gx X) W0 relB fc) (wi1 := tG (gx X) W0 (relI (gx X)) fi1) (g1 := gT X.K t1) (tt1 := tG (gx X) W0 relB fc1) (te := tG (gx X) W0 (relD (gx X)) fe) c.calm c.nd hy hyl hsw hi ok hv0 hg hc hi1 hg1 hc1 he hs hs1).weak fun Dn σ H ⟨μ, env, st, hst, er, p⟩ => by
    unfold tAsg gName
    refine comp_t2 hv hv1 ⟨μ, env, st, hst, er, ?_⟩
    exact PostS.bind p hst er fun d st1 μ1 H1 v _ x1 hs1 r1 p1 => p1 μ1 H1 _ .refl hs1 ((er.ext hst x1).set r1 i)
end
/-! ## their plain law -/
section
variable {n : Nat} {vs vs1 : List Nat} {fi fi1 : IF} {t t1 : Tgt} {c c1 : BF} {elt : EF} {g : Its} {env : AEnv} {st : Store}
theorem cmpI_ok {ds : List D} (I : Nat → Store → Prop) (h0 : I 0 st)
    (hs : ∀ i d st, I i st → ds[i]? = some d → ∃ env1, asgT t d env = some env1 ∧ ((∃ y s1 s2 xs, c env1 st = .ok true s1 ∧ elt env1 s1 = .ok y s2 ∧ s2[n]? = some (.lst xs) ∧ xs.length < sizeLine ∧ gOK g (s2.set n (.lst (xs ++ [y]))) ∧ I (i + 1) (s2.set n (.lst (xs ++ [y])))) ∨ ∃ s1, c env1 st = .ok false s1 ∧ gOK g s1 ∧ I (i + 1) s1)) :
    ∃ s, cmpI n t c elt g ds env st = .ok .non s ∧ I ds.length s := by
  have key : ∀ (r : List D) (i : Nat), ds.drop i = r → i + r.length = ds.length → ∀ st, I i st → ∃ s, cmpI n t c elt g r env st = .ok .non s ∧ I ds.length s := by
    intro r
    induction r with
    | nil =>
      intro i hd hl st hi
      have e : i = ds.length := by simpa using hl
      exact ⟨st, rfl, e ▸ hi⟩
    | cons d r ih =>
      intro i hd hl st hi
      have hd0 : ds[i]? = some d := by
        have : (ds.drop i)[0]? = some d := by rw [hd]; rfl
        simpa using this
      have hr : ds.drop (i + 1) = r := by rw [← List.drop_drop, hd]; rfl
      obtain ⟨env1, ea, hb⟩ := hs i d st hi hd0
      rcases hb with ⟨y, s1, s2, xs, h1, h2, h3, h4, h5, h6⟩ | ⟨s1, h1, h5, h6⟩
      · obtain ⟨s, e1, e2⟩ := ih (i + 1) hr (by simp at hl; omega) _ h6
        refine ⟨s, ?_, e2⟩
        unfold cmpI
        simp only [ea, h1, R.bind_ok, if_true, h2, h3]
        rw [if_pos ⟨h4, h5⟩, e1]
      · obtain ⟨s, e1, e2⟩ := ih (i + 1) hr (by simp at hl; omega) _ h6
        refine ⟨s, ?_, e2⟩
        unfold cmpI
        simp only [ea, h1, R.bind_ok, Bool.false_eq_true, if_false]
        rw [if_pos h5, e1]
  exact key ds 0 rfl (by simp) st h0
theorem cmpO_ok {ds : List D} (I : Nat → Store → Prop) (h0 : I 0 st)
    (hs : ∀ i d st, I i st → ds[i]? = some d → ∃ env1, asgT t d env = some env1 ∧ ((∃ g1 s1 s2 s3, c env1 st = .ok true s1 ∧ fi1 env1 s1 = .ok g1 s2 ∧ gOK g1 s2 ∧ cmpI n t1 c1 elt g1 g1.1 (wipeE env1 vs1) s2 = .ok .non s3 ∧ gOK g s3 ∧ I (i + 1) s3) ∨ ∃ s1, c env1 st = .ok false s1 ∧ gOK g s1 ∧ I (i + 1) s1)) :
    ∃ s, cmpO n vs1 t c fi1 t1 c1 elt g ds env st = .ok .non s ∧ I ds.length s := by
  have key : ∀ (r : List D) (i : Nat), ds.drop i = r → i + r.length = ds.length → ∀ st, I i st → ∃ s, cmpO n vs1 t c fi1 t1 c1 elt g r env st = .ok .non s ∧ I ds.length s := by
    intro r
    induction r with
    | nil =>
      intro i hd hl st hi
      have e : i = ds.length := by simpa using hl
      exact ⟨st, rfl, e ▸ hi⟩
    | cons d r ih =>
      intro i hd hl st hi
      have hd0 : ds[i]? = some d := by
        have : (ds.drop i)[0]? = some d := by rw [hd]; rfl
        simpa using this
      have hr : ds.drop (i + 1) = r := by rw [← List.drop_drop, hd]; rfl
      obtain ⟨env1, ea, hb⟩ := hs i d st hi hd0
      rcases hb with ⟨g1, s1, s2, s3, h1, h2, h3, h4, h5, h6⟩ | ⟨s1, h1, h5, h6⟩
      · obtain ⟨s, e1, e2⟩ := ih (i + 1) hr (by simp at hl; omega) _ h6
        refine ⟨s, ?_, e2⟩
        unfold cmpO
        simp only [ea, h1, R.bind_ok, if_true, h2]
        rw [if_pos h3, h4]
        simp only [R.bind_ok]
        rw [if_pos h5, e1]
      · obtain ⟨s, e1, e2⟩ := ih (i + 1) hr (by simp at hl; omega) _ h6
        refine ⟨s, ?_, e2⟩
        unfold cmpO
        simp only [ea, h1, R.bind_ok, Bool.false_eq_true, if_false]
        rw [if_pos h5, e1]
  exact key ds 0 rfl (by simp) st h0
theorem filter_take_map {α : Type} (p : D → Bool) (f : D → α) {ds : List D} {i : Nat} {d : D} (h : ds[i]? = some d) : ((ds.take (i + 1)).filter p).map f = ((ds.take i).filter p).map f ++ (if p d = true then [f d] else []) := by
  rw [List.take_add_one, h, List.filter_append, List.map_append]
  congr 1
  cases q : p d <;> simp [q]
/-- the inner list, where nothing else happens -/
theorem cmpI_map {ds xs : List D} (p : D → Bool) (f : D → D) (hn : st[n]? = some (.lst xs)) (hl : xs.length + ds.length ≤ sizeLine) (hg : ∀ zs, gOK g (st.set n (.lst zs)))
    (h : ∀ d ∈ ds, ∀ zs, ∃ env1, asgT t d env = some env1 ∧ c env1 (st.set n (.lst zs)) = .ok (p d) (st.set n (.lst zs)) ∧ (p d = true → elt env1 (st.set n (.lst zs)) = .ok (f d) (st.set n (.lst zs)))) :
    cmpI n t c elt g ds env st = .ok .non (st.set n (.lst (xs ++ (ds.filter p).map f))) := by
  have hnl := (List.getElem?_eq_some_iff.mp hn).1
  obtain ⟨s, e, rfl⟩ := cmpI_ok (n := n) (t := t) (c := c) (elt := elt) (g := g) (env := env) (st := st) (ds := ds) (fun i s => s = st.set n (.lst (xs ++ ((ds.take i).filter p).map f))) (by
    simp
    exact (List.ext_getElem? fun i => by
      by_cases q : n = i
      · subst q; rw [List.getElem?_set_self hnl]; exact hn
      · rw [List.getElem?_set_ne q])) fun i d s hI hd => by
    subst hI
    have hi := (List.getElem?_eq_some_iff.mp hd).1
    obtain ⟨env1, h1, h2, h3⟩ := h d (List.mem_of_getElem? hd) (xs ++ ((ds.take i).filter p).map f)
    refine ⟨env1, h1, ?_⟩
    have ft := filter_take_map p f hd
    cases q : p d with
    | true =>
      rw [q] at h2 ft
      refine .inl ⟨f d, _, _, xs ++ ((ds.take i).filter p).map f, h2, h3 q, by rw [List.getElem?_set_self hnl], ?_, ?_, ?_⟩
      · have h4 := List.length_filter_le p (ds.take i)
        rw [List.length_take] at h4
        simp only [List.length_append, List.length_map]
        omega
      · rw [List.set_set]; exact hg _
      · rw [List.set_set, ft]; simp
    | false =>
      rw [q] at h2 ft
      refine .inr ⟨_, h2, hg _, ?_⟩
      rw [ft]; simp
  rw [e, List.take_length]
theorem eComp2_ok {st1 st2 : Store} (h : fi env st = .ok g st1) (hg : gOK g (st1 ++ [.lst []])) (hc : cmpO st1.length vs1 t c fi1 t1 c1 elt g g.1 (wipeE env vs) (st1 ++ [.lst []]) = .ok .non st2) : eComp2 vs vs1 fi t c fi1 t1 c1 elt env st = .ok (.ref st1.length) st2 := by
  unfold eComp2
  rw [h, R.bind_ok, if_pos hg, hc]
end
end TK

set_option Elab.async false
set_option linter.all false
set_option maxRecDepth 100000
set_option maxHeartbeats 4000000
namespace TK
open PySem PySem.Spec
open PyProof.Rows hiding St
open L2
/-! # {k: v} -/
section
variable {X : Cx} {W : WX} {e k : Expr} {fe fk : EF} {pos : Pos}
def dct1D (x d : D) (st : Store) : R D := match keyS x with
  | some _ => .ok (.ref st.length) (st ++ [.dct [(x, d)]])
  | none => .bad
def eDct1 (fk fe : EF) : EF := fun env st => (fk env st).bind fun x st1 => (fe env st1).bind fun d st2 => dct1D x d st2
theorem ae_dct1 (hk : AE X W k fk) (he : AE X W e fe) : AE X W (.Dict [some k] [e] pos) (eDct1 fk fe) :=
  (pe_disp (pps_cons hk he pps_nil) (by rfl) (by rfl) (fun z => by cases z) (by simp)).weak fun σ H Q ⟨μ, env, st, hs, er, p⟩ => fun q hq => by
    have hn : q ∉ μ := hs.fresh hq
    have x0 : Ext μ H μ (upd H q (.dK [])) := .new hq
    have hs0 : HS (gx X) μ (upd H q (.dK [])) st := hs.new hq
    refine ⟨μ, env, st, hs0, er.ext hs x0, ?_⟩
    unfold eDct1 at p
    cases q1 : fk env st with
    | bad => rw [q1] at p; exact p.elim
    | exc x st1 => rw [q1] at p; exact fun μ' H' C od x1 h1 r1 => p μ' H' C od (x0.trans x1) h1 r1
    | ok x st1 =>
      rw [q1] at p
      intro μ1 H1 kv x1 hs1 r1
      refine ⟨μ1, env, st1, hs1, (er.ext hs x0).ext hs0 x1, ?_⟩
      cases q2 : fe env st1 with
      | bad => simp only [R.bind_ok, q2] at p; exact p.elim
      | exc x' st2 => simp only [R.bind_ok, q2] at p; exact fun μ' H' C od x2 h2 r2 => p μ' H' C od ((x0.trans x1).trans x2) h2 r2
      | ok d st2 =>
        simp only [R.bind_ok, q2] at p
        intro μ2 H2 v x2 hs2 r2
        have x02 := x1.trans x2
        have hp2 : H2 q = some (.dK []) := by
          obtain ⟨ν, _, _, c⟩ := x02
          exact c q _ (upd_same) hn
        have hn2 : q ∉ μ2 := by
          obtain ⟨ν, rfl, f, c⟩ := x02
          intro hm
          rcases List.mem_append.mp hm with h | h
          · exact hn h
          · have := (f q h).1
            rw [upd_same] at this; cases this
        have rk := RelD.ext hs1 x2 _ _ r1
        unfold dct1D at p
        cases ek : keyS x with
        | none => rw [ek] at p; exact p.elim
        | some kk =>
          rw [ek] at p
          have ekv := keyS_ok rk ek
          have xA : Ext μ H (μ2 ++ [q]) H2 := (x0.trans x02).adopt hq hn2
          have hsA : HS (gx X) (μ2 ++ [q]) H2 (st2 ++ [.dct []]) := hs2.adopt hp2 hn2 ⟨[], rfl, rfl⟩
          have rdA : RelD (gx X) (μ2 ++ [q]) H2 d v := RelD.pre _ _ r2
          have e1 : (μ2 ++ [q])[st2.length]? = some q := by rw [← hs2.len, List.getElem?_append_right (Nat.le_refl _)]; simp
          have hsB := hsA.put (ao := .dct [(x, d)]) (o' := .dK [(kk, v)]) e1 ⟨_, rfl, _, _, _, rfl, ek, rdA, rfl⟩
          have xB : Ext (μ2 ++ [q]) H2 (μ2 ++ [q]) (upd H2 q (.dK [(kk, v)])) := .put e1
          refine ⟨hp2, [(kk, v)], ?_, by simp, ?_⟩
          · rw [ekv]; rfl
          · have est : (st2 ++ [AO.dct []]).set st2.length (.dct [(x, d)]) = st2 ++ [.dct [(x, d)]] := by simp
            rw [est] at hsB
            have em : mergeK [] [(kk, v)] = [(kk, v)] := rfl
            rw [em]
            exact p (μ2 ++ [q]) _ _ (xA.trans xB) hsB ⟨q, e1, rfl⟩
end
@[simp] theorem eDct1_ap (fk fe : EF) (env : AEnv) (st : Store) : eDct1 fk fe env st = ((fk env st).bind fun x st1 => (fe env st1).bind fun d st2 => dct1D x d st2) := (Eq.refl _).trans rfl
@[simp] theorem dct1D_str (x : Str) (d : D) (st : Store) : dct1D (.str x) d st = .ok (.ref st.length) (st ++ [.dct [(.str x, d)]]) := rfl
@[simp] theorem dct1D_int (x : Int) (d : D) (st : Store) : dct1D (.int x) d st = .ok (.ref st.length) (st ++ [.dct [(.int x, d)]]) := rfl
end TK

set_option Elab.async false
set_option linter.all false
set_option maxRecDepth 100000
set_option maxHeartbeats 4000000
namespace TK
/-! # borders and sheets: the plain law -/
def ris (most : Int) : Int → List Int → Prop
  | _, [] => True
  | lo, x :: xs => lo ≤ x ∧ x ≤ most ∧ ris most x xs
theorem ris_of {m : Int} : ∀ {lo : Int} {xs : List Int}, xs.Pairwise (· ≤ ·) → (∀ x ∈ xs, lo ≤ x ∧ x ≤ m) → ris m lo xs
  | _, [], _, _ => trivial
  | lo, x :: xs, hp, hb => by
    rw [List.pairwise_cons] at hp
    exact ⟨(hb x (by simp)).1, (hb x (by simp)).2, ris_of hp.2 fun y hy => ⟨hp.1 y hy, (hb y (by simp [hy])).2⟩⟩
theorem ris_all {m : Int} : ∀ {lo : Int} {xs : List Int}, ris m lo xs → xs.Pairwise (· ≤ ·) ∧ ∀ x ∈ xs, lo ≤ x ∧ x ≤ m
  | _, [], _ => by simp
  | lo, x :: xs, ⟨h1, h2, h3⟩ => by
    obtain ⟨h4, h5⟩ := ris_all h3
    refine ⟨List.pairwise_cons.mpr ⟨fun y hy => (h5 y hy).1, h4⟩, fun y hy => ?_⟩
    rcases List.mem_cons.mp hy with rfl | hy
    · exact ⟨h1, h2⟩
    · have := h5 y hy
      exact ⟨by omega, this.2⟩
/-- how many stand below b -/
def below (xs : List Int) (b : Int) : Nat := (xs.filter fun x => decide (x < b)).length
def cutsOf (xs : List Int) : List Int := (List.range (xs.length + 1)).map fun (b : Nat) => (below xs b : Int)
theorem below_cons (x : Int) (xs : List Int) (b : Int) : below (x :: xs) b = (if x < b then 1 else 0) + below xs b := by
  unfold below
  by_cases h : x < b <;> simp [List.filter_cons, h] <;> omega
theorem below_app (xs ys : List Int) (b : Int) : below (xs ++ ys) b = below xs b + below ys b := by
  simp [below]
theorem below_zero {xs : List Int} {b : Int} (h : ∀ x ∈ xs, b ≤ x) : below xs b = 0 := by
  unfold below
  rw [List.length_eq_zero_iff, List.filter_eq_nil_iff]
  intro x hx
  have := h x hx
  simp; omega
theorem below_all {xs : List Int} {b : Int} (h : ∀ x ∈ xs, x < b) : below xs b = xs.length := by
  unfold below
  rw [List.filter_eq_self.mpr]
  intro x hx
  simp [h x hx]
theorem below_le (xs : List Int) (b : Int) : below xs b ≤ xs.length := List.length_filter_le _ _
theorem below_mono : ∀ (xs : List Int) {b c : Int}, b ≤ c → below xs b ≤ below xs c
  | [], _, _, _ => by simp [below]
  | x :: xs, b, c, h => by
    have := below_mono xs h
    rw [below_cons, below_cons]
    by_cases h1 : x < b
    · rw [if_pos h1, if_pos (by omega)]; omega
    · rw [if_neg h1]; split <;> omega
theorem below_lt : ∀ {xs : List Int}, xs.Pairwise (· ≤ ·) → ∀ {i : Nat} {x b : Int}, xs[i]? = some x → (x < b ↔ i < below xs b)
  | [], _, i, x, b, h => by simp at h
  | y :: ys, hp, i, x, b, h => by
    rw [List.pairwise_cons] at hp
    rw [below_cons]
    cases i with
    | zero =>
      have e : y = x := by simpa using h
      subst e
      by_cases hy : y < b
      · simp [hy]; omega
      · have := below_zero (xs := ys) (b := b) fun z hz => by have := hp.1 z hz; omega
        simp [hy, this]
    | succ i =>
      have h' : ys[i]? = some x := by simpa using h
      have hm : x ∈ ys := List.mem_of_getElem? h'
      have ih := below_lt hp.2 (b := b) h'
      by_cases hy : y < b
      · rw [if_pos hy, ih]; omega
      · have := below_zero (xs := ys) (b := b) fun z hz => by have := hp.1 z hz; omega
        have hx := hp.1 x hm
        rw [if_neg hy, this]
        constructor
        · intro z; omega
        · intro z; omega
structure Cuts (cs : List Int) (n : Nat) : Prop where
  len : cs.length = n + 1
  zero : cs.getD 0 0 = 0
  last : cs.getD n 0 = n
  up : ∀ e, e < n → cs.getD e 0 ≤ cs.getD (e + 1) 0
theorem cutsOf_get {xs : List Int} {e : Nat} (h : e ≤ xs.length) : (cutsOf xs).getD e 0 = below xs e := by
  unfold cutsOf
  rw [List.getD_eq_getElem?_getD, List.getElem?_map, List.getElem?_range (by omega)]
  rfl
theorem cutsOf_cuts {xs : List Int} (hr : ris ((xs.length : Int) - 1) 0 xs) : Cuts (cutsOf xs) xs.length := by
  obtain ⟨_, h2⟩ := ris_all hr
  refine ⟨by simp [cutsOf], ?_, ?_, fun e he => ?_⟩
  · rw [cutsOf_get (Nat.zero_le _), below_zero]
    · rfl
    · intro x hx; exact (h2 x hx).1
  · rw [cutsOf_get (Nat.le_refl _), below_all]
    intro x hx
    have := (h2 x hx).2
    omega
  · rw [cutsOf_get (by omega), cutsOf_get (by omega)]
    have := below_mono xs (b := (e : Int)) (c := ((e + 1 : Nat) : Int)) (by omega)
    omega
def pre (cs : List Int) : Nat → List Int
  | 0 => []
  | e + 1 => pre cs e ++ List.replicate (cs.getD (e + 1) 0 - cs.getD e 0).toNat (e : Int)
theorem pre_len {cs : List Int} {n : Nat} (h : Cuts cs n) : ∀ {i : Nat}, i ≤ n → ((pre cs i).length : Int) = cs.getD i 0
  | 0, _ => by rw [h.zero]; rfl
  | i + 1, hi => by
    have ih := pre_len h (i := i) (by omega)
    have := h.up i (by omega)
    simp only [pre, List.length_append, List.length_replicate]
    omega
theorem pre_mem {cs : List Int} : ∀ {i : Nat} {x : Int}, x ∈ pre cs i → 0 ≤ x ∧ x < i
  | 0, x, h => by simp [pre] at h
  | i + 1, x, h => by
    rw [pre, List.mem_append] at h
    rcases h with h | h
    · have := pre_mem h; omega
    · have := (List.mem_replicate.mp h).2; omega
theorem pre_pair {cs : List Int} : ∀ i : Nat, (pre cs i).Pairwise (· ≤ ·)
  | 0 => by simp [pre]
  | i + 1 => by
    rw [pre, List.pairwise_append]
    refine ⟨pre_pair i, ?_, fun x hx y hy => ?_⟩
    · rw [List.pairwise_replicate]; right; omega
    · have := (List.mem_replicate.mp hy).2
      have := (pre_mem hx).2
      omega
theorem pre_below {cs : List Int} {b : Nat} : ∀ {i : Nat}, b ≤ i → below (pre cs i) b = (pre cs b).length
  | 0, h => by
    obtain rfl : b = 0 := by omega
    simp [pre, below]
  | i + 1, h => by
    by_cases e : b = i + 1
    · subst e
      exact below_all fun x hx => (pre_mem hx).2
    · have ih := pre_below (cs := cs) (b := b) (i := i) (by omega)
      rw [pre, below_app, ih, below_zero (xs := List.replicate _ _)]
      · rfl
      · intro x hx
        have := (List.mem_replicate.mp hx).2
        omega
theorem pre_ris {cs : List Int} {n : Nat} (h : Cuts cs n) : ris ((n : Int) - 1) 0 (pre cs n) :=
  ris_of (pre_pair n) fun x hx => by have := pre_mem hx; omega
theorem pre_length {cs : List Int} {n : Nat} (h : Cuts cs n) : (pre cs n).length = n := by
  have := pre_len h (Nat.le_refl n)
  rw [h.last] at this
  omega
theorem cutsOf_pre {cs : List Int} {n : Nat} (h : Cuts cs n) : cutsOf (pre cs n) = cs := by
  apply List.ext_getElem?
  intro i
  unfold cutsOf
  rw [pre_length h, List.getElem?_map]
  by_cases hi : i < n + 1
  · rw [List.getElem?_range hi, List.getElem?_eq_getElem (by rw [h.len]; exact hi)]
    have h1 := pre_below (cs := cs) (b := i) (i := n) (by omega)
    have h2 := pre_len h (i := i) (by omega)
    rw [List.getD_eq_getElem?_getD, List.getElem?_eq_getElem (by rw [h.len]; exact hi)] at h2
    simp only [Option.map_some, Option.some.injEq]
    rw [h1, h2]
    rfl
  · rw [List.getElem?_eq_none (by simp; omega), List.getElem?_eq_none (by rw [h.len]; omega)]
    rfl
theorem pre_cutsOf {xs : List Int} (hr : ris ((xs.length : Int) - 1) 0 xs) : pre (cutsOf xs) xs.length = xs := by
  obtain ⟨hp, hb⟩ := ris_all hr
  have key : ∀ i, i ≤ xs.length → pre (cutsOf xs) i = xs.take (below xs i) := by
    intro i
    induction i with
    | zero =>
      intro _
      rw [below_zero]
      · rfl
      · intro x hx; exact (hb x hx).1
    | succ i ih =>
      intro hi
      have hm := below_mono xs (b := (i : Int)) (c := ((i + 1 : Nat) : Int)) (by omega)
      have hl := below_le xs ((i + 1 : Nat) : Int)
      rw [pre, ih (by omega), cutsOf_get (by omega), cutsOf_get (by omega)]
      obtain ⟨d, hd⟩ : ∃ d, below xs ((i + 1 : Nat) : Int) = below xs i + d := ⟨_, (Nat.add_sub_cancel' hm).symm⟩
      rw [hd, List.take_add]
      congr 1
      have e : ((((below xs i + d : Nat) : Int) - ((below xs i : Nat) : Int)).toNat) = d := by omega
      rw [e]
      symm
      rw [List.eq_replicate_iff]
      refine ⟨by simp; omega, fun y hy => ?_⟩
      obtain ⟨j, hj, e⟩ := List.getElem_of_mem hy
      simp only [List.length_take, List.length_drop] at hj
      rw [List.getElem_take, List.getElem_drop] at e
      have g : xs[below xs i + j]? = some y := by rw [← e]; exact List.getElem?_eq_getElem _
      have a1 := below_lt hp (b := ((i + 1 : Nat) : Int)) g
      have a2 := below_lt hp (b := (i : Int)) g
      rw [hd] at a1
      have b1 : y < ((i + 1 : Nat) : Int) := a1.mpr (by omega)
      have b2 : ¬ y < (i : Int) := fun z => by have := a2.mp z; omega
      omega
  rw [key _ (Nat.le_refl _), below_all]
  · simp
  · intro x hx
    have := (hb x hx).2
    omega
theorem cuts_ris {cs : List Int} {n : Nat} (h : Cuts cs n) : ris n 0 cs := by
  have mono : ∀ d e, e + d ≤ n → cs.getD e 0 ≤ cs.getD (e + d) 0 := by
    intro d
    induction d with
    | zero => intro e _; simp
    | succ d ih =>
      intro e he
      have h1 := ih e (by omega)
      have h2 := h.up (e + d) (by omega)
      rw [show e + (d + 1) = e + d + 1 by omega]
      omega
  refine ris_of ?_ fun x hx => ?_
  · rw [List.pairwise_iff_getElem]
    intro i j hi hj hij
    have hl := h.len
    have := mono (j - i) i (by omega)
    rw [show i + (j - i) = j by omega, List.getD_eq_getElem?_getD, List.getD_eq_getElem?_getD, List.getElem?_eq_getElem hi, List.getElem?_eq_getElem hj] at this
    exact this
  · obtain ⟨i, hi, e⟩ := List.getElem_of_mem hx
    have hl := h.len
    have e' : cs.getD i 0 = x := by rw [List.getD_eq_getElem?_getD, List.getElem?_eq_getElem hi, e]; rfl
    have h1 := mono i 0 (by omega)
    have h2 := mono (n - i) i (by omega)
    rw [show i + (n - i) = n by omega, h.last] at h2
    rw [Nat.zero_add, h.zero] at h1
    omega
theorem cut_own {xs : List Int} (hp : xs.Pairwise (· ≤ ·)) {o e : Nat} {x : Int} (g : xs[o]? = some x) : (x = (e : Int)) ↔ (below xs e : Int) ≤ o ∧ (o : Int) < below xs ((e + 1 : Nat) : Int) := by
  have a1 := below_lt hp (b := ((e + 1 : Nat) : Int)) g
  have a2 := below_lt hp (b := (e : Int)) g
  constructor
  · intro z
    have : ¬ x < (e : Int) := by omega
    have h2 : x < ((e + 1 : Nat) : Int) := by omega
    exact ⟨by have := mt a2.mpr this; omega, by have := a1.mp h2; omega⟩
  · intro ⟨z1, z2⟩
    have b1 : x < ((e + 1 : Nat) : Int) := a1.mpr (by omega)
    have b2 : ¬ x < (e : Int) := fun z => by have := a2.mp z; omega
    omega
end TK

set_option Elab.async false
set_option linter.all false
set_option maxRecDepth 100000
set_option maxHeartbeats 4000000
namespace TK
open PySem PySem.Spec
open PyProof.Rows hiding St
open L2
noncomputable def m_is_integer : List D → Store → R D := hid (runDef 1 (sRet (eAnd (eIsiO "Log" "int" (eVar 0)) (eNot (eIsiO "Log" "bool" (eVar 0))))))
theorem m_is_integer_eq : m_is_integer = runDef 1 (sRet (eAnd (eIsiO "Log" "int" (eVar 0)) (eNot (eIsiO "Log" "bool" (eVar 0))))) := hid_eq _

noncomputable def m_is_within : List D → Store → R D := hid (runDef 3 (sRet (eAnd (eCall m_is_integer (lCons (eVar 0) lNil)) (eChain leD leD (eVar 1) (eVar 0) (eVar 2)))))
theorem m_is_within_eq : m_is_within = runDef 3 (sRet (eAnd (eCall m_is_integer (lCons (eVar 0) lNil)) (eChain leD leD (eVar 1) (eVar 0) (eVar 2)))) := hid_eq _

noncomputable def m_is_triple : List D → Store → R D := hid (runDef 1 (sRet (eAnd (eIsiO "Log" "tuple" (eVar 0)) (e2 eqD (eQ lenG (lRd (eVar 0))) (eC (.int 3))))))
theorem m_is_triple_eq : m_is_triple = runDef 1 (sRet (eAnd (eIsiO "Log" "tuple" (eVar 0)) (e2 eqD (eQ lenG (lRd (eVar 0))) (eC (.int 3))))) := hid_eq _

noncomputable def m_is_flag : List D → Store → R D := hid (runDef 1 (sRet (eIsiO "Log" "bool" (eVar 0))))
theorem m_is_flag_eq : m_is_flag = runDef 1 (sRet (eIsiO "Log" "bool" (eVar 0))) := hid_eq _

noncomputable def m_is_row : List D → Store → R D := hid (runDef 2 (sSeq (sIf (bOr (bNot (bTru (eCall m_is_triple (lCons (eVar 1) lNil)))) (bOr (bNot (bTru (eCall m_is_within (lCons (e2 getD (eVar 1) (eC (.int 0))) (lCons (eC (.int 0)) (lCons (e2 subD (eVar 0) (eC (.int 1))) lNil)))))) (bNot (bTru (eCall m_is_within (lCons (e2 getD (eVar 1) (eC (.int 1))) (lCons (eC (.int 0)) (lCons (e2 subD (eVar 0) (eC (.int 1))) lNil)))))))) (sRet (eC (.bl false))) sNil)
    (sRet (eAnd (e2 eqD (eB absG (lCons (e2 subD (e2 getD (eVar 1) (eC (.int 0))) (e2 getD (eVar 1) (eC (.int 1)))) lNil)) (eC (.int 1))) (eCall m_is_flag (lCons (e2 getD (eVar 1) (eC (.int 2))) lNil))))))
theorem m_is_row_eq : m_is_row = runDef 2 (sSeq (sIf (bOr (bNot (bTru (eCall m_is_triple (lCons (eVar 1) lNil)))) (bOr (bNot (bTru (eCall m_is_within (lCons (e2 getD (eVar 1) (eC (.int 0))) (lCons (eC (.int 0)) (lCons (e2 subD (eVar 0) (eC (.int 1))) lNil)))))) (bNot (bTru (eCall m_is_within (lCons (e2 getD (eVar 1) (eC (.int 1))) (lCons (eC (.int 0)) (lCons (e2 subD (eVar 0) (eC (.int 1))) lNil)))))))) (sRet (eC (.bl false))) sNil)
    (sRet (eAnd (e2 eqD (eB absG (lCons (e2 subD (e2 getD (eVar 1) (eC (.int 0))) (e2 getD (eVar 1) (eC (.int 1)))) lNil)) (eC (.int 1))) (eCall m_is_flag (lCons (e2 getD (eVar 1) (eC (.int 2))) lNil))))) := hid_eq _

noncomputable def m_first_bad : List D → Store → R D := hid (runDef 4 (sSeq (sFor (.tup [(.name 2), (.name 3)]) (iEnumF (lCons (eVar 1) lNil)) (sIf (bNot (bTru (eCall m_is_row (lCons (eVar 0) (lCons (eVar 3) lNil))))) (sRet (eVar 2)) sNil))
    (sRet (eC .non))))
theorem m_first_bad_eq : m_first_bad = runDef 4 (sSeq (sFor (.tup [(.name 2), (.name 3)]) (iEnumF (lCons (eVar 1) lNil)) (sIf (bNot (bTru (eCall m_is_row (lCons (eVar 0) (lCons (eVar 3) lNil))))) (sRet (eVar 2)) sNil))
    (sRet (eC .non))) := hid_eq _

noncomputable def m_Log__init : List D → Store → R D := hid (runDef 4 (sSeq (sIf (bNot (bTru (eCall m_is_within (lCons (eVar 1) (lCons (eC (.int 1)) (lCons (eC (.int 12)) lNil)))))) sBad sNil)
    (sSeq (sIf (bOr (bNot (bTru (eIsiO "Log" "tuple" (eVar 2)))) (bB (e2 gtD (eQ lenG (lRd (eVar 2))) (eC (.int 60))))) sBad sNil)
    (sSeq (sSet 3 (eCall m_first_bad (lCons (eVar 1) (lCons (eVar 2) lNil))))
    (sSeq (sIf (bB (e2 notND (eVar 3) (eC .non))) sBad sNil)
    (sSeq (sFldA ["Log"] "offices" (eVar 0) (eVar 1))
    (sFldA ["Log"] "rows" (eVar 0) (eVar 2))))))))
theorem m_Log__init_eq : m_Log__init = runDef 4 (sSeq (sIf (bNot (bTru (eCall m_is_within (lCons (eVar 1) (lCons (eC (.int 1)) (lCons (eC (.int 12)) lNil)))))) sBad sNil)
    (sSeq (sIf (bOr (bNot (bTru (eIsiO "Log" "tuple" (eVar 2)))) (bB (e2 gtD (eQ lenG (lRd (eVar 2))) (eC (.int 60))))) sBad sNil)
    (sSeq (sSet 3 (eCall m_first_bad (lCons (eVar 1) (lCons (eVar 2) lNil))))
    (sSeq (sIf (bB (e2 notND (eVar 3) (eC .non))) sBad sNil)
    (sSeq (sFldA ["Log"] "offices" (eVar 0) (eVar 1))
    (sFldA ["Log"] "rows" (eVar 0) (eVar 2))))))) := hid_eq _

noncomputable def m_is_listed : List D → Store → R D := hid (runDef 1 (sRet (eIsi ["list", "tuple"] (eVar 0))))
theorem m_is_listed_eq : m_is_listed = runDef 1 (sRet (eIsi ["list", "tuple"] (eVar 0))) := hid_eq _

noncomputable def m_is_find : List D → Store → R D := hid (runDef 2 (sSeq (sIf (bOr (bNot (bTru (eCall m_is_triple (lCons (eVar 1) lNil)))) (bNot (bTru (eCall m_is_within (lCons (e2 getD (eVar 1) (eC (.int 0))) (lCons (eC (.int 0)) (lCons (eQ lenG (lRd (eFld ["Log"] "rows" (eVar 0)))) lNil))))))) (sRet (eC (.bl false))) sNil)
    (sRet (eAnd (eCall m_is_within (lCons (e2 getD (eVar 1) (eC (.int 1))) (lCons (eC (.int 0)) (lCons (e2 subD (eFld ["Log"] "offices" (eVar 0)) (eC (.int 1))) lNil)))) (eCall m_is_within (lCons (e2 getD (eVar 1) (eC (.int 2))) (lCons (eC (.int 0)) (lCons (e2 subD (eFld ["Log"] "offices" (eVar 0)) (eC (.int 1))) lNil))))))))
theorem m_is_find_eq : m_is_find = runDef 2 (sSeq (sIf (bOr (bNot (bTru (eCall m_is_triple (lCons (eVar 1) lNil)))) (bNot (bTru (eCall m_is_within (lCons (e2 getD (eVar 1) (eC (.int 0))) (lCons (eC (.int 0)) (lCons (eQ lenG (lRd (eFld ["Log"] "rows" (eVar 0)))) lNil))))))) (sRet (eC (.bl false))) sNil)
    (sRet (eAnd (eCall m_is_within (lCons (e2 getD (eVar 1) (eC (.int 1))) (lCons (eC (.int 0)) (lCons (e2 subD (eFld ["Log"] "offices" (eVar 0)) (eC (.int 1))) lNil)))) (eCall m_is_within (lCons (e2 getD (eVar 1) (eC (.int 2))) (lCons (eC (.int 0)) (lCons (e2 subD (eFld ["Log"] "offices" (eVar 0)) (eC (.int 1))) lNil))))))) := hid_eq _

noncomputable def m_check_finds : List D → Store → R D := hid (runDef 3 (sIf (bOr (bNot (bTru (eCall m_is_listed (lCons (eVar 1) lNil)))) (bOr (bB (e2 gtD (eQ lenG (lRd (eVar 1))) (eC (.int 40)))) (bNot (bTru (eQ allG (compF [2] (iSeqF (eVar 1)) (.name 2) bYes (eCall m_is_find (lCons (eVar 0) (lCons (eVar 2) lNil))))))))) (sRaise "NoFinds") sNil))
theorem m_check_finds_eq : m_check_finds = runDef 3 (sIf (bOr (bNot (bTru (eCall m_is_listed (lCons (eVar 1) lNil)))) (bOr (bB (e2 gtD (eQ lenG (lRd (eVar 1))) (eC (.int 40)))) (bNot (bTru (eQ allG (compF [2] (iSeqF (eVar 1)) (.name 2) bYes (eCall m_is_find (lCons (eVar 0) (lCons (eVar 2) lNil))))))))) (sRaise "NoFinds") sNil) := hid_eq _

noncomputable def m_Family__m_doing : List D → Store → R D := hid (runDef 4 (sSeq (sSet 1 (eLst (lLst lNil)))
    (sSeq (sFor (.tup [(.name 2), (.name 3)]) (iEnumF (lCons (eFld ["Family"] "steps" (eVar 0)) lNil)) (sDrop (eM isLst appendG (eVar 1) (lCons (eOr (e2 getD (eVar 3) (eC (.int 2))) (e2 neD (e2 getD (eFld ["Family"] "cuts" (eVar 0)) (eVar 2)) (e2 getD (eFld ["Family"] "cuts" (eVar 0)) (e2 addD (eVar 2) (eC (.int 1)))))) lNil))))
    (sRet (eQ tupG (lRd (eVar 1)))))))
theorem m_Family__m_doing_eq : m_Family__m_doing = runDef 4 (sSeq (sSet 1 (eLst (lLst lNil)))
    (sSeq (sFor (.tup [(.name 2), (.name 3)]) (iEnumF (lCons (eFld ["Family"] "steps" (eVar 0)) lNil)) (sDrop (eM isLst appendG (eVar 1) (lCons (eOr (e2 getD (eVar 3) (eC (.int 2))) (e2 neD (e2 getD (eFld ["Family"] "cuts" (eVar 0)) (eVar 2)) (e2 getD (eFld ["Family"] "cuts" (eVar 0)) (e2 addD (eVar 2) (eC (.int 1)))))) lNil))))
    (sRet (eQ tupG (lRd (eVar 1)))))) := hid_eq _

noncomputable def m_is_left : List D → Store → R D := hid (runDef 1 (sRet (e2 gtD (e2 getD (eVar 0) (eC (.int 1))) (e2 getD (eVar 0) (eC (.int 0))))))
theorem m_is_left_eq : m_is_left = runDef 1 (sRet (e2 gtD (e2 getD (eVar 0) (eC (.int 1))) (e2 getD (eVar 0) (eC (.int 0))))) := hid_eq _

noncomputable def m_cut_of : List D → Store → R D := hid (runDef 1 (sRet (eB max2G (lCons (e2 getD (eVar 0) (eC (.int 0))) (lCons (e2 getD (eVar 0) (eC (.int 1))) lNil)))))
theorem m_cut_of_eq : m_cut_of = runDef 1 (sRet (eB max2G (lCons (e2 getD (eVar 0) (eC (.int 0))) (lCons (e2 getD (eVar 0) (eC (.int 1))) lNil)))) := hid_eq _

noncomputable def m_step_of : List D → Store → R D := hid (runDef 1 (sRet (eTup (lCons (eIf (bTru (eCall m_is_left (lCons (eVar 0) lNil))) (eC (.str "left")) (eC (.str "right"))) (lCons (eCall m_cut_of (lCons (eVar 0) lNil)) (lCons (e2 getD (eVar 0) (eC (.int 2))) lNil))))))
theorem m_step_of_eq : m_step_of = runDef 1 (sRet (eTup (lCons (eIf (bTru (eCall m_is_left (lCons (eVar 0) lNil))) (eC (.str "left")) (eC (.str "right"))) (lCons (eCall m_cut_of (lCons (eVar 0) lNil)) (lCons (e2 getD (eVar 0) (eC (.int 2))) lNil))))) := hid_eq _

noncomputable def m_steps_of : List D → Store → R D := hid (runDef 2 (sRet (eLst (compF [1] (iSeqF (eFld ["Log"] "rows" (eVar 0))) (.name 1) bYes (eCall m_step_of (lCons (eVar 1) lNil))))))
theorem m_steps_of_eq : m_steps_of = runDef 2 (sRet (eLst (compF [1] (iSeqF (eFld ["Log"] "rows" (eVar 0))) (.name 1) bYes (eCall m_step_of (lCons (eVar 1) lNil))))) := hid_eq _

noncomputable def m_latest_shown : List D → Store → R D := hid (runDef 5 (sSeq (sSet 1 eDct0)
    (sSeq (sFor (.tup [(.name 2), (.name 3), (.name 4)]) (iSeqF (eVar 0)) (sDput (eVar 1) (eVar 4) (eB max2G (lCons (eVar 2) (lCons (eDget (eVar 1) (eVar 4) (eC (.int 0))) lNil)))))
    (sRet (eVar 1)))))
theorem m_latest_shown_eq : m_latest_shown = runDef 5 (sSeq (sSet 1 eDct0)
    (sSeq (sFor (.tup [(.name 2), (.name 3), (.name 4)]) (iSeqF (eVar 0)) (sDput (eVar 1) (eVar 4) (eB max2G (lCons (eVar 2) (lCons (eDget (eVar 1) (eVar 4) (eC (.int 0))) lNil)))))
    (sRet (eVar 1)))) := hid_eq _

noncomputable def m_first_bounds : List D → Store → R D := hid (runDef 7 (sSeq (sSet 2 (eLst (compF [3] (iRng1F (lCons (e2 addD (eVar 0) (eC (.int 1))) lNil)) (.name 3) bYes (eTup (lCons (eC (.int 0)) (lCons (eVar 3) (lCons (eVar 3) lNil)))))))
    (sRet (eLst (lCatE (eVar 2) (compF [4, 5, 6] (iSeqF (eVar 1)) (.tup [(.name 4), (.name 5), (.name 6)]) bYes (eTup (lCons (eVar 4) (lCons (e2 addD (eVar 6) (eC (.int 1))) (lCons (e2 addD (eVar 5) (eC (.int 1))) lNil))))))))))
theorem m_first_bounds_eq : m_first_bounds = runDef 7 (sSeq (sSet 2 (eLst (compF [3] (iRng1F (lCons (e2 addD (eVar 0) (eC (.int 1))) lNil)) (.name 3) bYes (eTup (lCons (eC (.int 0)) (lCons (eVar 3) (lCons (eVar 3) lNil)))))))
    (sRet (eLst (lCatE (eVar 2) (compF [4, 5, 6] (iSeqF (eVar 1)) (.tup [(.name 4), (.name 5), (.name 6)]) bYes (eTup (lCons (eVar 4) (lCons (e2 addD (eVar 6) (eC (.int 1))) (lCons (e2 addD (eVar 5) (eC (.int 1))) lNil))))))))) := hid_eq _

noncomputable def m_is_denied : List D → Store → R D := hid (runDef 6 (sSeq (sAsg (.tup [(.name 2), (.name 3), (.name 4)]) (eVar 1))
    (sSeq (sIf (bAnd (bB (e2 eqD (eVar 2) (eC (.int 0)))) (bB (e2 gtD (eVar 4) (eVar 3)))) (sRet (eC (.bl true))) sNil)
    (sRet (eQ anyG (compF [5] (iSeqF (eVar 0)) (.name 5) bYes (eAnd (e2 eqD (e2 getD (eVar 5) (eC (.int 0))) (eVar 2)) (eAnd (e2 eqD (e2 getD (eVar 5) (eC (.int 2))) (eVar 3)) (e2 gtD (eVar 4) (e2 getD (eVar 5) (eC (.int 1))))))))))))
theorem m_is_denied_eq : m_is_denied = runDef 6 (sSeq (sAsg (.tup [(.name 2), (.name 3), (.name 4)]) (eVar 1))
    (sSeq (sIf (bAnd (bB (e2 eqD (eVar 2) (eC (.int 0)))) (bB (e2 gtD (eVar 4) (eVar 3)))) (sRet (eC (.bl true))) sNil)
    (sRet (eQ anyG (compF [5] (iSeqF (eVar 0)) (.name 5) bYes (eAnd (e2 eqD (e2 getD (eVar 5) (eC (.int 0))) (eVar 2)) (eAnd (e2 eqD (e2 getD (eVar 5) (eC (.int 2))) (eVar 3)) (e2 gtD (eVar 4) (e2 getD (eVar 5) (eC (.int 1))))))))))) := hid_eq _

noncomputable def m_Family__m_put : List D → Store → R D := hid (runDef 6 (sSeq (sAsg (.tup [(.name 3), (.name 4), (.name 5)]) (eVar 1))
    (sIf (bAnd (bB (e2 isND (eFld ["Family"] "denied" (eVar 0)) (eC .non))) (bB (e2 gtD (eVar 5) (e2 getD (e2 getD (eFld ["Family"] "cuts" (eVar 0)) (eVar 3)) (eVar 4))))) (sSeq (sSub (e2 getD (eFld ["Family"] "cuts" (eVar 0)) (eVar 3)) (eVar 4) (eVar 5))
    (sSeq (sDput (eFld ["Family"] "came" (eVar 0)) (eVar 1) (eVar 2))
    (sSeq (sDrop (eM isLst appendG (eFld ["Family"] "waiting" (eVar 0)) (lCons (eVar 1) lNil)))
    (sIf (bTru (eCall m_is_denied (lCons (eFld ["Family"] "finds" (eVar 0)) (lCons (eVar 1) lNil)))) (sFldA ["Family"] "denied" (eVar 0) (eVar 1)) sNil)))) sNil)))
theorem m_Family__m_put_eq : m_Family__m_put = runDef 6 (sSeq (sAsg (.tup [(.name 3), (.name 4), (.name 5)]) (eVar 1))
    (sIf (bAnd (bB (e2 isND (eFld ["Family"] "denied" (eVar 0)) (eC .non))) (bB (e2 gtD (eVar 5) (e2 getD (e2 getD (eFld ["Family"] "cuts" (eVar 0)) (eVar 3)) (eVar 4))))) (sSeq (sSub (e2 getD (eFld ["Family"] "cuts" (eVar 0)) (eVar 3)) (eVar 4) (eVar 5))
    (sSeq (sDput (eFld ["Family"] "came" (eVar 0)) (eVar 1) (eVar 2))
    (sSeq (sDrop (eM isLst appendG (eFld ["Family"] "waiting" (eVar 0)) (lCons (eVar 1) lNil)))
    (sIf (bTru (eCall m_is_denied (lCons (eFld ["Family"] "finds" (eVar 0)) (lCons (eVar 1) lNil)))) (sFldA ["Family"] "denied" (eVar 0) (eVar 1)) sNil)))) sNil)) := hid_eq _

noncomputable def m_cut_on : List D → Store → R D := hid (runDef 2 (sSeq (sIf (bAnd (bB (e2 eqD (e2 getD (eVar 0) (eC (.int 0))) (eC (.str "left")))) (bB (e2 eqD (e2 getD (eVar 0) (eC (.int 1))) (eVar 1)))) (sRet (e2 subD (eVar 1) (eC (.int 1)))) sNil)
    (sSeq (sIf (bAnd (bB (e2 eqD (e2 getD (eVar 0) (eC (.int 0))) (eC (.str "right")))) (bAnd (bB (e2 eqD (e2 getD (eVar 0) (eC (.int 1))) (eVar 1))) (bTru (e2 getD (eVar 0) (eC (.int 2)))))) (sRet (e2 addD (eVar 1) (eC (.int 1)))) sNil)
    (sRet (eVar 1)))))
theorem m_cut_on_eq : m_cut_on = runDef 2 (sSeq (sIf (bAnd (bB (e2 eqD (e2 getD (eVar 0) (eC (.int 0))) (eC (.str "left")))) (bB (e2 eqD (e2 getD (eVar 0) (eC (.int 1))) (eVar 1)))) (sRet (e2 subD (eVar 1) (eC (.int 1)))) sNil)
    (sSeq (sIf (bAnd (bB (e2 eqD (e2 getD (eVar 0) (eC (.int 0))) (eC (.str "right")))) (bAnd (bB (e2 eqD (e2 getD (eVar 0) (eC (.int 1))) (eVar 1))) (bTru (e2 getD (eVar 0) (eC (.int 2)))))) (sRet (e2 addD (eVar 1) (eC (.int 1)))) sNil)
    (sRet (eVar 1)))) := hid_eq _

noncomputable def m_cut_back : List D → Store → R D := hid (runDef 2 (sSeq (sIf (bAnd (bB (e2 eqD (e2 getD (eVar 0) (eC (.int 0))) (eC (.str "right")))) (bB (e2 eqD (e2 getD (eVar 0) (eC (.int 1))) (e2 subD (eVar 1) (eC (.int 1)))))) (sRet (e2 subD (eVar 1) (eC (.int 1)))) sNil)
    (sSeq (sIf (bAnd (bB (e2 eqD (e2 getD (eVar 0) (eC (.int 0))) (eC (.str "left")))) (bAnd (bB (e2 eqD (e2 getD (eVar 0) (eC (.int 1))) (eVar 1))) (bTru (e2 getD (eVar 0) (eC (.int 2)))))) (sRet (e2 addD (eVar 1) (eC (.int 1)))) sNil)
    (sRet (eVar 1)))))
theorem m_cut_back_eq : m_cut_back = runDef 2 (sSeq (sIf (bAnd (bB (e2 eqD (e2 getD (eVar 0) (eC (.int 0))) (eC (.str "right")))) (bB (e2 eqD (e2 getD (eVar 0) (eC (.int 1))) (e2 subD (eVar 1) (eC (.int 1)))))) (sRet (e2 subD (eVar 1) (eC (.int 1)))) sNil)
    (sSeq (sIf (bAnd (bB (e2 eqD (e2 getD (eVar 0) (eC (.int 0))) (eC (.str "left")))) (bAnd (bB (e2 eqD (e2 getD (eVar 0) (eC (.int 1))) (eVar 1))) (bTru (e2 getD (eVar 0) (eC (.int 2)))))) (sRet (e2 addD (eVar 1) (eC (.int 1)))) sNil)
    (sRet (eVar 1)))) := hid_eq _

noncomputable def m_bounds_from : List D → Store → R D := hid (runDef 8 (sSeq (sAsg (.tup [(.name 5), (.name 6), (.name 7)]) (eVar 3))
    (sSeq (sSet 4 (eLst (lLst lNil)))
    (sSeq (sIf (bB (e2 ltD (eVar 6) (eVar 0))) (sSeq (sIf (bB (e2 geD (eDget (eVar 2) (eVar 6) (e1 negD (eC (.int 1)))) (eVar 5))) (sDrop (eM isLst appendG (eVar 4) (lCons (eTup (lCons (eVar 5) (lCons (e2 addD (eVar 6) (eC (.int 1))) (lCons (e2 addD (eVar 7) (eC (.int 1))) lNil)))) lNil))) sNil)
    (sDrop (eM isLst appendG (eVar 4) (lCons (eTup (lCons (eVar 5) (lCons (e2 addD (eVar 6) (eC (.int 1))) (lCons (eVar 7) lNil)))) lNil)))) sNil)
    (sSeq (sIf (bB (e2 ltD (eVar 5) (eQ lenG (lRd (eVar 1))))) (sDrop (eM isLst appendG (eVar 4) (lCons (eTup (lCons (e2 addD (eVar 5) (eC (.int 1))) (lCons (eVar 6) (lCons (eCall m_cut_on (lCons (e2 getD (eVar 1) (eVar 5)) (lCons (eVar 7) lNil))) lNil)))) lNil))) sNil)
    (sSeq (sIf (bB (e2 gtD (eVar 5) (eC (.int 0)))) (sDrop (eM isLst appendG (eVar 4) (lCons (eTup (lCons (e2 subD (eVar 5) (eC (.int 1))) (lCons (eVar 6) (lCons (eCall m_cut_back (lCons (e2 getD (eVar 1) (e2 subD (eVar 5) (eC (.int 1)))) (lCons (eVar 7) lNil))) lNil)))) lNil))) sNil)
    (sRet (eVar 4))))))))
theorem m_bounds_from_eq : m_bounds_from = runDef 8 (sSeq (sAsg (.tup [(.name 5), (.name 6), (.name 7)]) (eVar 3))
    (sSeq (sSet 4 (eLst (lLst lNil)))
    (sSeq (sIf (bB (e2 ltD (eVar 6) (eVar 0))) (sSeq (sIf (bB (e2 geD (eDget (eVar 2) (eVar 6) (e1 negD (eC (.int 1)))) (eVar 5))) (sDrop (eM isLst appendG (eVar 4) (lCons (eTup (lCons (eVar 5) (lCons (e2 addD (eVar 6) (eC (.int 1))) (lCons (e2 addD (eVar 7) (eC (.int 1))) lNil)))) lNil))) sNil)
    (sDrop (eM isLst appendG (eVar 4) (lCons (eTup (lCons (eVar 5) (lCons (e2 addD (eVar 6) (eC (.int 1))) (lCons (eVar 7) lNil)))) lNil)))) sNil)
    (sSeq (sIf (bB (e2 ltD (eVar 5) (eQ lenG (lRd (eVar 1))))) (sDrop (eM isLst appendG (eVar 4) (lCons (eTup (lCons (e2 addD (eVar 5) (eC (.int 1))) (lCons (eVar 6) (lCons (eCall m_cut_on (lCons (e2 getD (eVar 1) (eVar 5)) (lCons (eVar 7) lNil))) lNil)))) lNil))) sNil)
    (sSeq (sIf (bB (e2 gtD (eVar 5) (eC (.int 0)))) (sDrop (eM isLst appendG (eVar 4) (lCons (eTup (lCons (e2 subD (eVar 5) (eC (.int 1))) (lCons (eVar 6) (lCons (eCall m_cut_back (lCons (e2 getD (eVar 1) (e2 subD (eVar 5) (eC (.int 1)))) (lCons (eVar 7) lNil))) lNil)))) lNil))) sNil)
    (sRet (eVar 4))))))) := hid_eq _

noncomputable def m_Family__m_spread : List D → Store → R D := hid (runDef 4 (loopW (bAnd (bB (e2 gtD (eQ lenG (lRd (eFld ["Family"] "waiting" (eVar 0)))) (eC (.int 0)))) (bB (e2 isND (eFld ["Family"] "denied" (eVar 0)) (eC .non)))) (sSeq (sSet 1 (eFld ["Family"] "waiting" (eVar 0)))
    (sSeq (sFldA ["Family"] "waiting" (eVar 0) (eLst (lLst lNil)))
    (sFor (.name 2) (iSeqF (eVar 1)) (sFor (.name 3) (iLstF (lDrop (eCall m_bounds_from (lCons (eFld ["Family"] "offices" (eVar 0)) (lCons (eFld ["Family"] "steps" (eVar 0)) (lCons (eFld ["Family"] "latest" (eVar 0)) (lCons (eVar 2) lNil))))))) (sDrop (eMeth "Family" "put" m_Family__m_put (eVar 0) (lCons (eVar 3) (lCons (eVar 2) lNil)))))))) 1000000))
theorem m_Family__m_spread_eq : m_Family__m_spread = runDef 4 (loopW (bAnd (bB (e2 gtD (eQ lenG (lRd (eFld ["Family"] "waiting" (eVar 0)))) (eC (.int 0)))) (bB (e2 isND (eFld ["Family"] "denied" (eVar 0)) (eC .non)))) (sSeq (sSet 1 (eFld ["Family"] "waiting" (eVar 0)))
    (sSeq (sFldA ["Family"] "waiting" (eVar 0) (eLst (lLst lNil)))
    (sFor (.name 2) (iSeqF (eVar 1)) (sFor (.name 3) (iLstF (lDrop (eCall m_bounds_from (lCons (eFld ["Family"] "offices" (eVar 0)) (lCons (eFld ["Family"] "steps" (eVar 0)) (lCons (eFld ["Family"] "latest" (eVar 0)) (lCons (eVar 2) lNil))))))) (sDrop (eMeth "Family" "put" m_Family__m_put (eVar 0) (lCons (eVar 3) (lCons (eVar 2) lNil)))))))) 1000000) := hid_eq _

noncomputable def m_Family__init : List D → Store → R D := hid (runDef 6 (sSeq (sFldA ["Family"] "offices" (eVar 0) (eVar 1))
    (sSeq (sFldA ["Family"] "steps" (eVar 0) (eVar 2))
    (sSeq (sFldA ["Family"] "finds" (eVar 0) (eVar 3))
    (sSeq (sFldA ["Family"] "latest" (eVar 0) (eCall m_latest_shown (lCons (eVar 3) lNil)))
    (sSeq (sFldA ["Family"] "cuts" (eVar 0) (eLst (compF [5] (iRng1F (lCons (e2 addD (eQ lenG (lRd (eVar 2))) (eC (.int 1))) lNil)) (.name 5) bYes (eLst (lRep (lLst (lCons (e1 negD (eC (.int 1))) lNil)) (e2 addD (eVar 1) (eC (.int 1))))))))
    (sSeq (sFldA ["Family"] "came" (eVar 0) eDctT)
    (sSeq (sFldA ["Family"] "denied" (eVar 0) (eC .non))
    (sSeq (sFldA ["Family"] "waiting" (eVar 0) (eLst (lLst lNil)))
    (sSeq (sFor (.name 4) (iLstF (lDrop (eCall m_first_bounds (lCons (eVar 1) (lCons (eVar 3) lNil))))) (sDrop (eMeth "Family" "put" m_Family__m_put (eVar 0) (lCons (eVar 4) (lCons (eC .non) lNil)))))
    (sDrop (eMeth "Family" "spread" m_Family__m_spread (eVar 0) lNil))))))))))))
theorem m_Family__init_eq : m_Family__init = runDef 6 (sSeq (sFldA ["Family"] "offices" (eVar 0) (eVar 1))
    (sSeq (sFldA ["Family"] "steps" (eVar 0) (eVar 2))
    (sSeq (sFldA ["Family"] "finds" (eVar 0) (eVar 3))
    (sSeq (sFldA ["Family"] "latest" (eVar 0) (eCall m_latest_shown (lCons (eVar 3) lNil)))
    (sSeq (sFldA ["Family"] "cuts" (eVar 0) (eLst (compF [5] (iRng1F (lCons (e2 addD (eQ lenG (lRd (eVar 2))) (eC (.int 1))) lNil)) (.name 5) bYes (eLst (lRep (lLst (lCons (e1 negD (eC (.int 1))) lNil)) (e2 addD (eVar 1) (eC (.int 1))))))))
    (sSeq (sFldA ["Family"] "came" (eVar 0) eDctT)
    (sSeq (sFldA ["Family"] "denied" (eVar 0) (eC .non))
    (sSeq (sFldA ["Family"] "waiting" (eVar 0) (eLst (lLst lNil)))
    (sSeq (sFor (.name 4) (iLstF (lDrop (eCall m_first_bounds (lCons (eVar 1) (lCons (eVar 3) lNil))))) (sDrop (eMeth "Family" "put" m_Family__m_put (eVar 0) (lCons (eVar 4) (lCons (eC .non) lNil)))))
    (sDrop (eMeth "Family" "spread" m_Family__m_spread (eVar 0) lNil))))))))))) := hid_eq _

noncomputable def m_family_of : List D → Store → R D := hid (runDef 2 (sRet (eMake "Family" m_Family__init (lCons (eFld ["Log"] "offices" (eVar 0)) (lCons (eLst (lDrop (eCall m_steps_of (lCons (eVar 0) lNil)))) (lCons (eLst (lQ lstG (lRd (eVar 1)))) lNil))))))
theorem m_family_of_eq : m_family_of = runDef 2 (sRet (eMake "Family" m_Family__init (lCons (eFld ["Log"] "offices" (eVar 0)) (lCons (eLst (lDrop (eCall m_steps_of (lCons (eVar 0) lNil)))) (lCons (eLst (lQ lstG (lRd (eVar 1)))) lNil))))) := hid_eq _

noncomputable def m_best_doing : List D → Store → R D := hid (runDef 3 (sSeq (sSet 2 (eCall m_family_of (lCons (eVar 0) (lCons (eVar 1) lNil))))
    (sRet (eIf (bB (e2 isND (eFld ["Family"] "denied" (eVar 2)) (eC .non))) (eMeth "Family" "doing" m_Family__m_doing (eVar 2) lNil) (eC .non)))))
theorem m_best_doing_eq : m_best_doing = runDef 3 (sSeq (sSet 2 (eCall m_family_of (lCons (eVar 0) (lCons (eVar 1) lNil))))
    (sRet (eIf (bB (e2 isND (eFld ["Family"] "denied" (eVar 2)) (eC .non))) (eMeth "Family" "doing" m_Family__m_doing (eVar 2) lNil) (eC .non)))) := hid_eq _

noncomputable def m_doing_for : List D → Store → R D := hid (runDef 2 (sSeq (sDrop (eCall m_check_finds (lCons (eVar 0) (lCons (eVar 1) lNil))))
    (sRet (eCall m_best_doing (lCons (eVar 0) (lCons (eVar 1) lNil))))))
theorem m_doing_for_eq : m_doing_for = runDef 2 (sSeq (sDrop (eCall m_check_finds (lCons (eVar 0) (lCons (eVar 1) lNil))))
    (sRet (eCall m_best_doing (lCons (eVar 0) (lCons (eVar 1) lNil))))) := hid_eq _

noncomputable def m_is_doing : List D → Store → R D := hid (runDef 4 (sSeq (sIf (bOr (bNot (bTru (eIsiO "Log" "tuple" (eVar 1)))) (bOr (bB (e2 neD (eQ lenG (lRd (eVar 1))) (eQ lenG (lRd (eFld ["Log"] "rows" (eVar 0)))))) (bNot (bTru (eQ allG (compF [2] (iSeqF (eVar 1)) (.name 2) bYes (eCall m_is_flag (lCons (eVar 2) lNil)))))))) (sRet (eC (.bl false))) sNil)
    (sRet (eQ allG (compF [2, 3] (iZipA (lCons (eVar 1) (lCons (eFld ["Log"] "rows" (eVar 0)) lNil))) (.tup [(.name 2), (.name 3)]) bYes (eOr (eVar 2) (eNot (e2 getD (eVar 3) (eC (.int 2))))))))))
theorem m_is_doing_eq : m_is_doing = runDef 4 (sSeq (sIf (bOr (bNot (bTru (eIsiO "Log" "tuple" (eVar 1)))) (bOr (bB (e2 neD (eQ lenG (lRd (eVar 1))) (eQ lenG (lRd (eFld ["Log"] "rows" (eVar 0)))))) (bNot (bTru (eQ allG (compF [2] (iSeqF (eVar 1)) (.name 2) bYes (eCall m_is_flag (lCons (eVar 2) lNil)))))))) (sRet (eC (.bl false))) sNil)
    (sRet (eQ allG (compF [2, 3] (iZipA (lCons (eVar 1) (lCons (eFld ["Log"] "rows" (eVar 0)) lNil))) (.tup [(.name 2), (.name 3)]) bYes (eOr (eVar 2) (eNot (e2 getD (eVar 3) (eC (.int 2))))))))) := hid_eq _

noncomputable def m_begun : List D → Store → R D := hid (runDef 1 (sRet (eRng1 (eVar 0))))
theorem m_begun_eq : m_begun = runDef 1 (sRet (eRng1 (eVar 0))) := hid_eq _

noncomputable def m_copied : List D → Store → R D := hid (runDef 2 (sRet (e2 addD (e2 addD (eSl (eVar 0) oNone (oSome (e2 getD (eVar 1) (eC (.int 0))))) (eTup (lCons (e2 getD (eVar 0) (e2 getD (eVar 1) (eC (.int 1)))) lNil))) (eSl (eVar 0) (oSome (e2 addD (e2 getD (eVar 1) (eC (.int 0))) (eC (.int 1)))) oNone))))
theorem m_copied_eq : m_copied = runDef 2 (sRet (e2 addD (e2 addD (eSl (eVar 0) oNone (oSome (e2 getD (eVar 1) (eC (.int 0))))) (eTup (lCons (e2 getD (eVar 0) (e2 getD (eVar 1) (eC (.int 1)))) lNil))) (eSl (eVar 0) (oSome (e2 addD (e2 getD (eVar 1) (eC (.int 0))) (eC (.int 1)))) oNone))) := hid_eq _

noncomputable def m_led : List D → Store → R D := hid (runDef 5 (sSeq (sSet 2 (eLst (lLst (lCons (eCall m_begun (lCons (eFld ["Log"] "offices" (eVar 0)) lNil)) lNil))))
    (sSeq (sFor (.tup [(.name 3), (.name 4)]) (iZipA (lCons (eVar 1) (lCons (eFld ["Log"] "rows" (eVar 0)) lNil))) (sDrop (eM isLst appendG (eVar 2) (lCons (eIf (bTru (eVar 3)) (eCall m_copied (lCons (e2 getD (eVar 2) (e1 negD (eC (.int 1)))) (lCons (eVar 4) lNil))) (e2 getD (eVar 2) (e1 negD (eC (.int 1))))) lNil))))
    (sRet (eVar 2)))))
theorem m_led_eq : m_led = runDef 5 (sSeq (sSet 2 (eLst (lLst (lCons (eCall m_begun (lCons (eFld ["Log"] "offices" (eVar 0)) lNil)) lNil))))
    (sSeq (sFor (.tup [(.name 3), (.name 4)]) (iZipA (lCons (eVar 1) (lCons (eFld ["Log"] "rows" (eVar 0)) lNil))) (sDrop (eM isLst appendG (eVar 2) (lCons (eIf (bTru (eVar 3)) (eCall m_copied (lCons (e2 getD (eVar 2) (e1 negD (eC (.int 1)))) (lCons (eVar 4) lNil))) (e2 getD (eVar 2) (e1 negD (eC (.int 1))))) lNil))))
    (sRet (eVar 2)))) := hid_eq _

noncomputable def m_are_true : List D → Store → R D := hid (runDef 7 (sSeq (sSet 3 (eLst (lDrop (eCall m_led (lCons (eVar 0) (lCons (eVar 2) lNil))))))
    (sRet (eQ allG (compF [4, 5, 6] (iSeqF (eVar 1)) (.tup [(.name 4), (.name 5), (.name 6)]) bYes (e2 eqD (e2 getD (e2 getD (eVar 3) (eVar 4)) (eVar 5)) (eVar 6)))))))
theorem m_are_true_eq : m_are_true = runDef 7 (sSeq (sSet 3 (eLst (lDrop (eCall m_led (lCons (eVar 0) (lCons (eVar 2) lNil))))))
    (sRet (eQ allG (compF [4, 5, 6] (iSeqF (eVar 1)) (.tup [(.name 4), (.name 5), (.name 6)]) bYes (e2 eqD (e2 getD (e2 getD (eVar 3) (eVar 4)) (eVar 5)) (eVar 6)))))) := hid_eq _

noncomputable def m_is_doing_for : List D → Store → R D := hid (runDef 3 (sSeq (sDrop (eCall m_check_finds (lCons (eVar 0) (lCons (eVar 1) lNil))))
    (sRet (eAnd (eCall m_is_doing (lCons (eVar 0) (lCons (eVar 2) lNil))) (eCall m_are_true (lCons (eVar 0) (lCons (eVar 1) (lCons (eVar 2) lNil))))))))
theorem m_is_doing_for_eq : m_is_doing_for = runDef 3 (sSeq (sDrop (eCall m_check_finds (lCons (eVar 0) (lCons (eVar 1) lNil))))
    (sRet (eAnd (eCall m_is_doing (lCons (eVar 0) (lCons (eVar 2) lNil))) (eCall m_are_true (lCons (eVar 0) (lCons (eVar 1) (lCons (eVar 2) lNil))))))) := hid_eq _

noncomputable def m_check_denials : List D → Store → R D := hid (runDef 3 (sIf (bOr (bNot (bTru (eCall m_is_listed (lCons (eVar 1) lNil)))) (bOr (bB (e2 gtD (eQ lenG (lRd (eVar 1))) (eC (.int 3)))) (bNot (bTru (eQ allG (compF [2] (iSeqF (eVar 1)) (.name 2) bYes (eCall m_is_find (lCons (eVar 0) (lCons (eVar 2) lNil))))))))) (sRaise "NoDenials") sNil))
theorem m_check_denials_eq : m_check_denials = runDef 3 (sIf (bOr (bNot (bTru (eCall m_is_listed (lCons (eVar 1) lNil)))) (bOr (bB (e2 gtD (eQ lenG (lRd (eVar 1))) (eC (.int 3)))) (bNot (bTru (eQ allG (compF [2] (iSeqF (eVar 1)) (.name 2) bYes (eCall m_is_find (lCons (eVar 0) (lCons (eVar 2) lNil))))))))) (sRaise "NoDenials") sNil) := hid_eq _

noncomputable def m_is_doing_but : List D → Store → R D := hid (runDef 5 (sSeq (sDrop (eCall m_check_finds (lCons (eVar 0) (lCons (eVar 1) lNil))))
    (sSeq (sDrop (eCall m_check_denials (lCons (eVar 0) (lCons (eVar 2) lNil))))
    (sSeq (sIf (bOr (bNot (bTru (eCall m_is_doing (lCons (eVar 0) (lCons (eVar 3) lNil))))) (bNot (bTru (eCall m_are_true (lCons (eVar 0) (lCons (eVar 1) (lCons (eVar 3) lNil))))))) (sRet (eC (.bl false))) sNil)
    (sRet (eNot (eQ anyG (compF [4] (iSeqF (eVar 2)) (.name 4) bYes (eCall m_are_true (lCons (eVar 0) (lCons (eLst (lLst (lCons (eVar 4) lNil))) (lCons (eVar 3) lNil))))))))))))
theorem m_is_doing_but_eq : m_is_doing_but = runDef 5 (sSeq (sDrop (eCall m_check_finds (lCons (eVar 0) (lCons (eVar 1) lNil))))
    (sSeq (sDrop (eCall m_check_denials (lCons (eVar 0) (lCons (eVar 2) lNil))))
    (sSeq (sIf (bOr (bNot (bTru (eCall m_is_doing (lCons (eVar 0) (lCons (eVar 3) lNil))))) (bNot (bTru (eCall m_are_true (lCons (eVar 0) (lCons (eVar 1) (lCons (eVar 3) lNil))))))) (sRet (eC (.bl false))) sNil)
    (sRet (eNot (eQ anyG (compF [4] (iSeqF (eVar 2)) (.name 4) bYes (eCall m_are_true (lCons (eVar 0) (lCons (eLst (lLst (lCons (eVar 4) lNil))) (lCons (eVar 3) lNil))))))))))) := hid_eq _

noncomputable def m__law_hand : List D → Store → R D := hid (runDef 3 (sSeq (sSet 1 (eLst (compF [2] (iLstF (lSl (eVar 0) oNone (oSome (eC (.int 63))))) (.name 2) bYes (eB absG (lCons (eB intG (lCons (eVar 2) lNil)) lNil)))))
    (sRet (eLst (lLst (lCons (eVar 1) (lCons (eC (.int 0)) (lCons (eC (.int 0)) (lCons (e2 addD (eC (.int 1)) (eQ lenG (lRd (eVar 1)))) (lCons (eC (.int 0)) lNil))))))))))
theorem m__law_hand_eq : m__law_hand = runDef 3 (sSeq (sSet 1 (eLst (compF [2] (iLstF (lSl (eVar 0) oNone (oSome (eC (.int 63))))) (.name 2) bYes (eB absG (lCons (eB intG (lCons (eVar 2) lNil)) lNil)))))
    (sRet (eLst (lLst (lCons (eVar 1) (lCons (eC (.int 0)) (lCons (eC (.int 0)) (lCons (e2 addD (eC (.int 1)) (eQ lenG (lRd (eVar 1)))) (lCons (eC (.int 0)) lNil))))))))) := hid_eq _

noncomputable def m__law_draw : List D → Store → R D := hid (runDef 5 (sSeq (sIf (bAnd (bB (e2 eqD (e2 getD (eVar 0) (eC (.int 2))) (eC (.int 0)))) (bB (e2 ltD (e2 getD (eVar 0) (eC (.int 1))) (eQ lenG (lRd (e2 getD (eVar 0) (eC (.int 0)))))))) (sSeq (sSet 3 (e2 getD (e2 getD (eVar 0) (eC (.int 0))) (e2 getD (eVar 0) (eC (.int 1)))))
    (sSeq (sSub (eVar 0) (eC (.int 1)) (e2 addD (e2 getD (eVar 0) (eC (.int 1))) (eC (.int 1))))
    (sSeq (sSub (eVar 0) (eC (.int 3)) (e2 modD (eB intG (lCons (e2 addD (e2 addD (e2 mulD (e2 getD (eVar 0) (eC (.int 3))) (eC (.int 69621))) (eVar 3)) (eC (.int 11))) lNil)) (eC (.int 2147483629))))
    (sIf (bB (e2 geD (eVar 3) (e2 powD (eC (.int 10)) (eC (.int 18))))) (sSub (eVar 0) (eC (.int 2)) (eVar 3)) sNil)))) sNil)
    (sSeq (sIf (bB (e2 gtD (e2 getD (eVar 0) (eC (.int 2))) (eC (.int 0)))) (sSeq (sSet 4 (e2 modD (eB intG (lCons (e2 getD (eVar 0) (eC (.int 2))) lNil)) (eVar 1)))
    (sSeq (sSub (eVar 0) (eC (.int 2)) (e2 divD (e2 getD (eVar 0) (eC (.int 2))) (eVar 1)))
    (sRet (eVar 4)))) sNil)
    (sSeq (sSub (eVar 0) (eC (.int 4)) (e2 addD (e2 getD (eVar 0) (eC (.int 4))) (eC (.int 1))))
    (sSeq (sSet 2 (e2 modD (eB intG (lCons (e2 mulD (eB intG (lCons (e2 addD (e2 getD (eVar 0) (eC (.int 3))) (e2 mulD (eC (.int 7919)) (e2 getD (eVar 0) (eC (.int 4))))) lNil)) (eC (.int 48271))) lNil)) (eC (.int 2147483647))))
    (sSeq (sSet 2 (e2 modD (eB intG (lCons (e2 mulD (eVar 2) (e2 addD (e2 divD (eVar 2) (eC (.int 1009))) (eC (.int 69621)))) lNil)) (eC (.int 2147483647))))
    (sSeq (sSet 2 (e2 modD (eB intG (lCons (e2 mulD (eVar 2) (e2 addD (e2 divD (eVar 2) (eC (.int 2003))) (eC (.int 40692)))) lNil)) (eC (.int 2147483399))))
    (sRet (e2 modD (eB intG (lCons (e2 divD (eVar 2) (eC (.int 16))) lNil)) (eVar 1))))))))))
theorem m__law_draw_eq : m__law_draw = runDef 5 (sSeq (sIf (bAnd (bB (e2 eqD (e2 getD (eVar 0) (eC (.int 2))) (eC (.int 0)))) (bB (e2 ltD (e2 getD (eVar 0) (eC (.int 1))) (eQ lenG (lRd (e2 getD (eVar 0) (eC (.int 0)))))))) (sSeq (sSet 3 (e2 getD (e2 getD (eVar 0) (eC (.int 0))) (e2 getD (eVar 0) (eC (.int 1)))))
    (sSeq (sSub (eVar 0) (eC (.int 1)) (e2 addD (e2 getD (eVar 0) (eC (.int 1))) (eC (.int 1))))
    (sSeq (sSub (eVar 0) (eC (.int 3)) (e2 modD (eB intG (lCons (e2 addD (e2 addD (e2 mulD (e2 getD (eVar 0) (eC (.int 3))) (eC (.int 69621))) (eVar 3)) (eC (.int 11))) lNil)) (eC (.int 2147483629))))
    (sIf (bB (e2 geD (eVar 3) (e2 powD (eC (.int 10)) (eC (.int 18))))) (sSub (eVar 0) (eC (.int 2)) (eVar 3)) sNil)))) sNil)
    (sSeq (sIf (bB (e2 gtD (e2 getD (eVar 0) (eC (.int 2))) (eC (.int 0)))) (sSeq (sSet 4 (e2 modD (eB intG (lCons (e2 getD (eVar 0) (eC (.int 2))) lNil)) (eVar 1)))
    (sSeq (sSub (eVar 0) (eC (.int 2)) (e2 divD (e2 getD (eVar 0) (eC (.int 2))) (eVar 1)))
    (sRet (eVar 4)))) sNil)
    (sSeq (sSub (eVar 0) (eC (.int 4)) (e2 addD (e2 getD (eVar 0) (eC (.int 4))) (eC (.int 1))))
    (sSeq (sSet 2 (e2 modD (eB intG (lCons (e2 mulD (eB intG (lCons (e2 addD (e2 getD (eVar 0) (eC (.int 3))) (e2 mulD (eC (.int 7919)) (e2 getD (eVar 0) (eC (.int 4))))) lNil)) (eC (.int 48271))) lNil)) (eC (.int 2147483647))))
    (sSeq (sSet 2 (e2 modD (eB intG (lCons (e2 mulD (eVar 2) (e2 addD (e2 divD (eVar 2) (eC (.int 1009))) (eC (.int 69621)))) lNil)) (eC (.int 2147483647))))
    (sSeq (sSet 2 (e2 modD (eB intG (lCons (e2 mulD (eVar 2) (e2 addD (e2 divD (eVar 2) (eC (.int 2003))) (eC (.int 40692)))) lNil)) (eC (.int 2147483399))))
    (sRet (e2 modD (eB intG (lCons (e2 divD (eVar 2) (eC (.int 16))) lNil)) (eVar 1))))))))) := hid_eq _

noncomputable def m__law_row : List D → Store → R D := hid (runDef 5 (sSeq (sSet 3 (eCall m__law_draw (lCons (eVar 0) (lCons (eVar 1) lNil))))
    (sSeq (sSet 4 (e2 subD (e2 addD (eVar 3) (eC (.int 1))) (e2 mulD (eC (.int 2)) (eCall m__law_draw (lCons (eVar 0) (lCons (eC (.int 2)) lNil))))))
    (sSeq (sIf (bOr (bB (e2 ltD (eVar 4) (eC (.int 0)))) (bB (e2 eqD (eVar 4) (eVar 1)))) (sSet 4 (e2 subD (e2 mulD (eC (.int 2)) (eVar 3)) (eVar 4))) sNil)
    (sRet (eTup (lCons (eVar 3) (lCons (eVar 4) (lCons (e2 ltD (eCall m__law_draw (lCons (eVar 0) (lCons (eC (.int 12)) lNil))) (eVar 2)) lNil)))))))))
theorem m__law_row_eq : m__law_row = runDef 5 (sSeq (sSet 3 (eCall m__law_draw (lCons (eVar 0) (lCons (eVar 1) lNil))))
    (sSeq (sSet 4 (e2 subD (e2 addD (eVar 3) (eC (.int 1))) (e2 mulD (eC (.int 2)) (eCall m__law_draw (lCons (eVar 0) (lCons (eC (.int 2)) lNil))))))
    (sSeq (sIf (bOr (bB (e2 ltD (eVar 4) (eC (.int 0)))) (bB (e2 eqD (eVar 4) (eVar 1)))) (sSet 4 (e2 subD (e2 mulD (eC (.int 2)) (eVar 3)) (eVar 4))) sNil)
    (sRet (eTup (lCons (eVar 3) (lCons (eVar 4) (lCons (e2 ltD (eCall m__law_draw (lCons (eVar 0) (lCons (eC (.int 12)) lNil))) (eVar 2)) lNil)))))))) := hid_eq _

noncomputable def m__law_rows : List D → Store → R D := hid (runDef 5 (sSeq (sIf (bB (e2 eqD (eVar 1) (eC (.int 1)))) (sRet (eTup lNil)) sNil)
    (sRet (eQ tupG (compF [4] (iRng1F (lCons (eCall m__law_draw (lCons (eVar 0) (lCons (e2 addD (eVar 2) (eC (.int 1))) lNil))) lNil)) (.name 4) bYes (eCall m__law_row (lCons (eVar 0) (lCons (eVar 1) (lCons (eVar 3) lNil)))))))))
theorem m__law_rows_eq : m__law_rows = runDef 5 (sSeq (sIf (bB (e2 eqD (eVar 1) (eC (.int 1)))) (sRet (eTup lNil)) sNil)
    (sRet (eQ tupG (compF [4] (iRng1F (lCons (eCall m__law_draw (lCons (eVar 0) (lCons (e2 addD (eVar 2) (eC (.int 1))) lNil))) lNil)) (.name 4) bYes (eCall m__law_row (lCons (eVar 0) (lCons (eVar 1) (lCons (eVar 3) lNil)))))))) := hid_eq _

noncomputable def m__law_some_doing : List D → Store → R D := hid (runDef 3 (sRet (eQ tupG (compF [2] (iSeqF (eVar 1)) (.name 2) bYes (eOr (e2 getD (eVar 2) (eC (.int 2))) (e2 eqD (eCall m__law_draw (lCons (eVar 0) (lCons (eC (.int 2)) lNil))) (eC (.int 0))))))))
theorem m__law_some_doing_eq : m__law_some_doing = runDef 3 (sRet (eQ tupG (compF [2] (iSeqF (eVar 1)) (.name 2) bYes (eOr (e2 getD (eVar 2) (eC (.int 2))) (e2 eqD (eCall m__law_draw (lCons (eVar 0) (lCons (eC (.int 2)) lNil))) (eC (.int 0))))))) := hid_eq _

noncomputable def m__law_led : List D → Store → R D := hid (runDef 7 (sSeq (sSet 3 (eLst (lLst (lCons (eRng1 (eVar 0)) lNil))))
    (sSeq (sFor (.tup [(.name 4), (.name 5)]) (iZipA (lCons (eVar 2) (lCons (eVar 1) lNil))) (sSeq (sSet 6 (eLst (lQ lstG (lRd (e2 getD (eVar 3) (e1 negD (eC (.int 1))))))))
    (sSeq (sIf (bTru (eVar 4)) (sSub (eVar 6) (e2 getD (eVar 5) (eC (.int 0))) (e2 getD (eVar 6) (e2 getD (eVar 5) (eC (.int 1))))) sNil)
    (sDrop (eM isLst appendG (eVar 3) (lCons (eQ tupG (lRd (eVar 6))) lNil))))))
    (sRet (eVar 3)))))
theorem m__law_led_eq : m__law_led = runDef 7 (sSeq (sSet 3 (eLst (lLst (lCons (eRng1 (eVar 0)) lNil))))
    (sSeq (sFor (.tup [(.name 4), (.name 5)]) (iZipA (lCons (eVar 2) (lCons (eVar 1) lNil))) (sSeq (sSet 6 (eLst (lQ lstG (lRd (e2 getD (eVar 3) (e1 negD (eC (.int 1))))))))
    (sSeq (sIf (bTru (eVar 4)) (sSub (eVar 6) (e2 getD (eVar 5) (eC (.int 0))) (e2 getD (eVar 6) (e2 getD (eVar 5) (eC (.int 1))))) sNil)
    (sDrop (eM isLst appendG (eVar 3) (lCons (eQ tupG (lRd (eVar 6))) lNil))))))
    (sRet (eVar 3)))) := hid_eq _

noncomputable def m__law_finds : List D → Store → R D := hid (runDef 11 (sSeq (sSet 5 (eLst (lDrop (eCall m__law_led (lCons (eVar 1) (lCons (eVar 2) (lCons (eCall m__law_some_doing (lCons (eVar 0) (lCons (eVar 2) lNil))) lNil)))))))
    (sSeq (sSet 6 (eLst (lLst lNil)))
    (sSeq (sFor (.name 7) (iRng1F (lCons (eCall m__law_draw (lCons (eVar 0) (lCons (e2 addD (eVar 3) (eC (.int 1))) lNil))) lNil)) (sSeq (sSet 8 (eCall m__law_draw (lCons (eVar 0) (lCons (e2 addD (eQ lenG (lRd (eVar 2))) (eC (.int 1))) lNil))))
    (sSeq (sSet 9 (eCall m__law_draw (lCons (eVar 0) (lCons (eVar 1) lNil))))
    (sSeq (sSet 10 (e2 getD (e2 getD (eVar 5) (eVar 8)) (eVar 9)))
    (sSeq (sIf (bB (e2 eqD (eCall m__law_draw (lCons (eVar 0) (lCons (eVar 4) lNil))) (eC (.int 0)))) (sSet 10 (eCall m__law_draw (lCons (eVar 0) (lCons (eVar 1) lNil)))) sNil)
    (sDrop (eM isLst appendG (eVar 6) (lCons (eTup (lCons (eVar 8) (lCons (eVar 9) (lCons (eVar 10) lNil)))) lNil))))))))
    (sRet (eVar 6))))))
theorem m__law_finds_eq : m__law_finds = runDef 11 (sSeq (sSet 5 (eLst (lDrop (eCall m__law_led (lCons (eVar 1) (lCons (eVar 2) (lCons (eCall m__law_some_doing (lCons (eVar 0) (lCons (eVar 2) lNil))) lNil)))))))
    (sSeq (sSet 6 (eLst (lLst lNil)))
    (sSeq (sFor (.name 7) (iRng1F (lCons (eCall m__law_draw (lCons (eVar 0) (lCons (e2 addD (eVar 3) (eC (.int 1))) lNil))) lNil)) (sSeq (sSet 8 (eCall m__law_draw (lCons (eVar 0) (lCons (e2 addD (eQ lenG (lRd (eVar 2))) (eC (.int 1))) lNil))))
    (sSeq (sSet 9 (eCall m__law_draw (lCons (eVar 0) (lCons (eVar 1) lNil))))
    (sSeq (sSet 10 (e2 getD (e2 getD (eVar 5) (eVar 8)) (eVar 9)))
    (sSeq (sIf (bB (e2 eqD (eCall m__law_draw (lCons (eVar 0) (lCons (eVar 4) lNil))) (eC (.int 0)))) (sSet 10 (eCall m__law_draw (lCons (eVar 0) (lCons (eVar 1) lNil)))) sNil)
    (sDrop (eM isLst appendG (eVar 6) (lCons (eTup (lCons (eVar 8) (lCons (eVar 9) (lCons (eVar 10) lNil)))) lNil))))))))
    (sRet (eVar 6))))) := hid_eq _

noncomputable def m__law_flag : List D → Store → R D := hid (runDef 2 (sRet (eAnd (eIsiO "Log" "bool" (eVar 0)) (e2 eqD (eVar 0) (eVar 1)))))
theorem m__law_flag_eq : m__law_flag = runDef 2 (sRet (eAnd (eIsiO "Log" "bool" (eVar 0)) (e2 eqD (eVar 0) (eVar 1)))) := hid_eq _

noncomputable def m__law_is_doing : List D → Store → R D := hid (runDef 4 (sSeq (sIf (bOr (bNot (bTru (eIsiO "Log" "tuple" (eVar 1)))) (bOr (bB (e2 neD (eQ lenG (lRd (eVar 1))) (eQ lenG (lRd (eVar 0))))) (bNot (bTru (eQ allG (compF [2] (iSeqF (eVar 1)) (.name 2) bYes (eIsiO "Log" "bool" (eVar 2)))))))) (sRet (eC (.bl false))) sNil)
    (sRet (eQ allG (compF [2, 3] (iZipA (lCons (eVar 1) (lCons (eVar 0) lNil))) (.tup [(.name 2), (.name 3)]) bYes (eOr (eVar 2) (eNot (e2 getD (eVar 3) (eC (.int 2))))))))))
theorem m__law_is_doing_eq : m__law_is_doing = runDef 4 (sSeq (sIf (bOr (bNot (bTru (eIsiO "Log" "tuple" (eVar 1)))) (bOr (bB (e2 neD (eQ lenG (lRd (eVar 1))) (eQ lenG (lRd (eVar 0))))) (bNot (bTru (eQ allG (compF [2] (iSeqF (eVar 1)) (.name 2) bYes (eIsiO "Log" "bool" (eVar 2)))))))) (sRet (eC (.bl false))) sNil)
    (sRet (eQ allG (compF [2, 3] (iZipA (lCons (eVar 1) (lCons (eVar 0) lNil))) (.tup [(.name 2), (.name 3)]) bYes (eOr (eVar 2) (eNot (e2 getD (eVar 3) (eC (.int 2))))))))) := hid_eq _

noncomputable def m__law_due : List D → Store → R D := hid (runDef 10 (sSeq (sIf (bNot (bTru (eCall m__law_is_doing (lCons (eVar 1) (lCons (eVar 4) lNil))))) (sRet (eLst (lLst (lCons (eC (.bl false)) (lCons (eC (.bl false)) lNil))))) sNil)
    (sSeq (sSet 5 (eLst (lDrop (eCall m__law_led (lCons (eVar 0) (lCons (eVar 1) (lCons (eVar 4) lNil)))))))
    (sSeq (sSet 6 (eQ allG (compF [7, 8, 9] (iSeqF (eVar 2)) (.tup [(.name 7), (.name 8), (.name 9)]) bYes (e2 eqD (e2 getD (e2 getD (eVar 5) (eVar 7)) (eVar 8)) (eVar 9)))))
    (sRet (eLst (lLst (lCons (eVar 6) (lCons (eAnd (eVar 6) (eNot (eQ anyG (compF [7, 8, 9] (iSeqF (eVar 3)) (.tup [(.name 7), (.name 8), (.name 9)]) bYes (e2 eqD (e2 getD (e2 getD (eVar 5) (eVar 7)) (eVar 8)) (eVar 9)))))) lNil)))))))))
theorem m__law_due_eq : m__law_due = runDef 10 (sSeq (sIf (bNot (bTru (eCall m__law_is_doing (lCons (eVar 1) (lCons (eVar 4) lNil))))) (sRet (eLst (lLst (lCons (eC (.bl false)) (lCons (eC (.bl false)) lNil))))) sNil)
    (sSeq (sSet 5 (eLst (lDrop (eCall m__law_led (lCons (eVar 0) (lCons (eVar 1) (lCons (eVar 4) lNil)))))))
    (sSeq (sSet 6 (eQ allG (compF [7, 8, 9] (iSeqF (eVar 2)) (.tup [(.name 7), (.name 8), (.name 9)]) bYes (e2 eqD (e2 getD (e2 getD (eVar 5) (eVar 7)) (eVar 8)) (eVar 9)))))
    (sRet (eLst (lLst (lCons (eVar 6) (lCons (eAnd (eVar 6) (eNot (eQ anyG (compF [7, 8, 9] (iSeqF (eVar 3)) (.tup [(.name 7), (.name 8), (.name 9)]) bYes (e2 eqD (e2 getD (e2 getD (eVar 5) (eVar 7)) (eVar 8)) (eVar 9)))))) lNil)))))))) := hid_eq _

noncomputable def m__law_deep : List D → Store → R D := hid (runDef 3 (sSeq (sSet 1 (e2 getD (eLst (lLst (lCons (eC .non) (lCons (eC (.str "a")) lNil)))) (eB intG (lCons (e2 gtD (eVar 0) (eC (.int 1))) lNil))))
    (sSeq (sFor (.name 2) (iRng1F (lCons (eC (.int 36)) lNil)) (sSet 1 (e2 getD (eLst (lLst (lCons (eTup (lCons (eVar 1) lNil)) (lCons (eLst (lLst (lCons (eVar 1) lNil))) (lCons (eDct1 (eC (.str "a")) (eVar 1)) lNil))))) (e2 modD (eB intG (lCons (eVar 0) lNil)) (eC (.int 3))))))
    (sRet (eVar 1)))))
theorem m__law_deep_eq : m__law_deep = runDef 3 (sSeq (sSet 1 (e2 getD (eLst (lLst (lCons (eC .non) (lCons (eC (.str "a")) lNil)))) (eB intG (lCons (e2 gtD (eVar 0) (eC (.int 1))) lNil))))
    (sSeq (sFor (.name 2) (iRng1F (lCons (eC (.int 36)) lNil)) (sSet 1 (e2 getD (eLst (lLst (lCons (eTup (lCons (eVar 1) lNil)) (lCons (eLst (lLst (lCons (eVar 1) lNil))) (lCons (eDct1 (eC (.str "a")) (eVar 1)) lNil))))) (e2 modD (eB intG (lCons (eVar 0) lNil)) (eC (.int 3))))))
    (sRet (eVar 1)))) := hid_eq _

noncomputable def m__law_bent : List D → Store → R D := hid (runDef 7 (sSeq (sSet 3 (eCall m__law_draw (lCons (eVar 0) (lCons (e2 addD (eQ lenG (lRd (eVar 2))) (eC (.int 1))) lNil))))
    (sSeq (sSet 4 (e2 getD (eLst (lLst (lCons (eC (.int 0)) (lCons (eC (.int 1)) (lCons (eC .non) (lCons (eC (.str "True")) (lCons (eTup lNil) (lCons (eLst (lLst (lCons (eC (.bl true)) lNil))) (lCons (eCall m__law_deep (lCons (eCall m__law_draw (lCons (eVar 0) (lCons (eC (.int 4)) lNil))) lNil)) (lCons (eVar 1) lNil)))))))))) (eCall m__law_draw (lCons (eVar 0) (lCons (eC (.int 8)) lNil)))))
    (sSeq (sSet 5 (eLst (lLst (lCons (e2 addD (e2 addD (eSl (eVar 2) oNone (oSome (eVar 3))) (eTup (lCons (eVar 4) lNil))) (eSl (eVar 2) (oSome (e2 addD (eVar 3) (eC (.int 1)))) oNone)) (lCons (e2 addD (e2 addD (eSl (eVar 2) oNone (oSome (eVar 3))) (eTup (lCons (eC (.bl true)) lNil))) (eSl (eVar 2) (oSome (eVar 3)) oNone)) (lCons (eSl (eVar 2) oNone (oSome (e1 negD (eC (.int 1))))) (lCons (e2 addD (eVar 2) (eTup (lCons (eC (.bl false)) lNil))) lNil)))))))
    (sSeq (sSet 5 (eLst (lCatE (eVar 5) (lLst (lCons (eLst (lQ lstG (lRd (eVar 2)))) (lCons (e2 addD (eQ tupG (compF [6] (iSeqF (eSl (eVar 2) oNone (oSome (eC (.int 1))))) (.name 6) bYes (eNot (eVar 6)))) (eSl (eVar 2) (oSome (eC (.int 1))) oNone)) (lCons (eC .non) (lCons (eTup lNil) (lCons (eC (.int 0)) (lCons (eC (.bl true)) (lCons (eC (.str "doing")) (lCons eDct0 lNil))))))))))))
    (sSeq (sSet 5 (eLst (lCatE (eVar 5) (lLst (lCons (eVar 1) (lCons (eTup (lCons (eVar 2) lNil)) lNil))))))
    (sSeq (sDrop (eM isLst appendG (eVar 5) (lCons (eCall m__law_deep (lCons (eCall m__law_draw (lCons (eVar 0) (lCons (eC (.int 4)) lNil))) lNil)) lNil)))
    (sSeq (sDrop (eM isLst appendG (eVar 5) (lCons (e2 addD (e2 addD (eSl (eVar 2) oNone (oSome (eVar 3))) (eQ tupG (compF [6] (iSeqF (eSl (eVar 2) (oSome (eVar 3)) (oSome (e2 addD (eVar 3) (eC (.int 1)))))) (.name 6) bYes (eNot (eVar 6))))) (eSl (eVar 2) (oSome (e2 addD (eVar 3) (eC (.int 1)))) oNone)) lNil)))
    (sRet (e2 getD (eVar 5) (eCall m__law_draw (lCons (eVar 0) (lCons (eC (.int 16)) lNil)))))))))))))
theorem m__law_bent_eq : m__law_bent = runDef 7 (sSeq (sSet 3 (eCall m__law_draw (lCons (eVar 0) (lCons (e2 addD (eQ lenG (lRd (eVar 2))) (eC (.int 1))) lNil))))
    (sSeq (sSet 4 (e2 getD (eLst (lLst (lCons (eC (.int 0)) (lCons (eC (.int 1)) (lCons (eC .non) (lCons (eC (.str "True")) (lCons (eTup lNil) (lCons (eLst (lLst (lCons (eC (.bl true)) lNil))) (lCons (eCall m__law_deep (lCons (eCall m__law_draw (lCons (eVar 0) (lCons (eC (.int 4)) lNil))) lNil)) (lCons (eVar 1) lNil)))))))))) (eCall m__law_draw (lCons (eVar 0) (lCons (eC (.int 8)) lNil)))))
    (sSeq (sSet 5 (eLst (lLst (lCons (e2 addD (e2 addD (eSl (eVar 2) oNone (oSome (eVar 3))) (eTup (lCons (eVar 4) lNil))) (eSl (eVar 2) (oSome (e2 addD (eVar 3) (eC (.int 1)))) oNone)) (lCons (e2 addD (e2 addD (eSl (eVar 2) oNone (oSome (eVar 3))) (eTup (lCons (eC (.bl true)) lNil))) (eSl (eVar 2) (oSome (eVar 3)) oNone)) (lCons (eSl (eVar 2) oNone (oSome (e1 negD (eC (.int 1))))) (lCons (e2 addD (eVar 2) (eTup (lCons (eC (.bl false)) lNil))) lNil)))))))
    (sSeq (sSet 5 (eLst (lCatE (eVar 5) (lLst (lCons (eLst (lQ lstG (lRd (eVar 2)))) (lCons (e2 addD (eQ tupG (compF [6] (iSeqF (eSl (eVar 2) oNone (oSome (eC (.int 1))))) (.name 6) bYes (eNot (eVar 6)))) (eSl (eVar 2) (oSome (eC (.int 1))) oNone)) (lCons (eC .non) (lCons (eTup lNil) (lCons (eC (.int 0)) (lCons (eC (.bl true)) (lCons (eC (.str "doing")) (lCons eDct0 lNil))))))))))))
    (sSeq (sSet 5 (eLst (lCatE (eVar 5) (lLst (lCons (eVar 1) (lCons (eTup (lCons (eVar 2) lNil)) lNil))))))
    (sSeq (sDrop (eM isLst appendG (eVar 5) (lCons (eCall m__law_deep (lCons (eCall m__law_draw (lCons (eVar 0) (lCons (eC (.int 4)) lNil))) lNil)) lNil)))
    (sSeq (sDrop (eM isLst appendG (eVar 5) (lCons (e2 addD (e2 addD (eSl (eVar 2) oNone (oSome (eVar 3))) (eQ tupG (compF [6] (iSeqF (eSl (eVar 2) (oSome (eVar 3)) (oSome (e2 addD (eVar 3) (eC (.int 1)))))) (.name 6) bYes (eNot (eVar 6))))) (eSl (eVar 2) (oSome (e2 addD (eVar 3) (eC (.int 1)))) oNone)) lNil)))
    (sRet (e2 getD (eVar 5) (eCall m__law_draw (lCons (eVar 0) (lCons (eC (.int 16)) lNil)))))))))))) := hid_eq _

noncomputable def m_law : List D → Store → R D := hid (runDef 13 (sSeq (sSet 1 (eCall m__law_hand (lCons (eVar 0) lNil)))
    (sSeq (sFor (.name 2) (iRng1F (lCons (eC (.int 4)) lNil)) (sSeq (sSet 3 (e2 addD (eC (.int 1)) (eCall m__law_draw (lCons (eVar 1) (lCons (eC (.int 6)) lNil)))))
    (sSeq (sSet 4 (eCall m__law_rows (lCons (eVar 1) (lCons (eVar 3) (lCons (eC (.int 8)) (lCons (eC (.int 3)) lNil))))))
    (sSeq (sSet 5 (eLst (lDrop (eCall m__law_finds (lCons (eVar 1) (lCons (eVar 3) (lCons (eVar 4) (lCons (eC (.int 4)) (lCons (eC (.int 12)) lNil)))))))))
    (sSeq (sSet 6 (eLst (lDrop (eCall m__law_finds (lCons (eVar 1) (lCons (eVar 3) (lCons (eVar 4) (lCons (eC (.int 3)) (lCons (eC (.int 2)) lNil)))))))))
    (sSeq (sSet 7 (eMake "Log" m_Log__init (lCons (eVar 3) (lCons (eVar 4) lNil))))
    (sSeq (sSet 8 (eCall m_doing_for (lCons (eVar 7) (lCons (eVar 5) lNil))))
    (sFor (.name 9) (iRng1F (lCons (eC (.int 6)) lNil)) (sSeq (sSet 10 (eCall m__law_some_doing (lCons (eVar 1) (lCons (eVar 4) lNil))))
    (sSeq (sIf (bAnd (bB (e2 notND (eVar 8) (eC .non))) (bB (e2 gtD (eCall m__law_draw (lCons (eVar 1) (lCons (eC (.int 3)) lNil))) (eC (.int 0))))) (sSet 10 (eVar 8)) sNil)
    (sSeq (sSet 11 (eVar 10))
    (sSeq (sIf (bB (e2 gtD (eCall m__law_draw (lCons (eVar 1) (lCons (eC (.int 4)) lNil))) (eC (.int 0)))) (sSet 11 (eCall m__law_bent (lCons (eVar 1) (lCons (eVar 7) (lCons (eVar 10) lNil))))) sNil)
    (sSeq (sSet 12 (eLst (lDrop (eCall m__law_due (lCons (eVar 3) (lCons (eVar 4) (lCons (eVar 5) (lCons (eVar 6) (lCons (eVar 11) lNil)))))))))
    (sSeq (sIf (bNot (bTru (eCall m__law_flag (lCons (eCall m_is_doing_for (lCons (eVar 7) (lCons (eVar 5) (lCons (eVar 11) lNil)))) (lCons (e2 getD (eVar 12) (eC (.int 0))) lNil))))) (sRet (eC (.bl false))) sNil)
    (sIf (bNot (bTru (eCall m__law_flag (lCons (eCall m_is_doing_but (lCons (eVar 7) (lCons (eVar 5) (lCons (eVar 6) (lCons (eVar 11) lNil))))) (lCons (e2 getD (eVar 12) (eC (.int 1))) lNil))))) (sRet (eC (.bl false))) sNil)))))))))))))))
    (sRet (eC (.bl true))))))
theorem m_law_eq : m_law = runDef 13 (sSeq (sSet 1 (eCall m__law_hand (lCons (eVar 0) lNil)))
    (sSeq (sFor (.name 2) (iRng1F (lCons (eC (.int 4)) lNil)) (sSeq (sSet 3 (e2 addD (eC (.int 1)) (eCall m__law_draw (lCons (eVar 1) (lCons (eC (.int 6)) lNil)))))
    (sSeq (sSet 4 (eCall m__law_rows (lCons (eVar 1) (lCons (eVar 3) (lCons (eC (.int 8)) (lCons (eC (.int 3)) lNil))))))
    (sSeq (sSet 5 (eLst (lDrop (eCall m__law_finds (lCons (eVar 1) (lCons (eVar 3) (lCons (eVar 4) (lCons (eC (.int 4)) (lCons (eC (.int 12)) lNil)))))))))
    (sSeq (sSet 6 (eLst (lDrop (eCall m__law_finds (lCons (eVar 1) (lCons (eVar 3) (lCons (eVar 4) (lCons (eC (.int 3)) (lCons (eC (.int 2)) lNil)))))))))
    (sSeq (sSet 7 (eMake "Log" m_Log__init (lCons (eVar 3) (lCons (eVar 4) lNil))))
    (sSeq (sSet 8 (eCall m_doing_for (lCons (eVar 7) (lCons (eVar 5) lNil))))
    (sFor (.name 9) (iRng1F (lCons (eC (.int 6)) lNil)) (sSeq (sSet 10 (eCall m__law_some_doing (lCons (eVar 1) (lCons (eVar 4) lNil))))
    (sSeq (sIf (bAnd (bB (e2 notND (eVar 8) (eC .non))) (bB (e2 gtD (eCall m__law_draw (lCons (eVar 1) (lCons (eC (.int 3)) lNil))) (eC (.int 0))))) (sSet 10 (eVar 8)) sNil)
    (sSeq (sSet 11 (eVar 10))
    (sSeq (sIf (bB (e2 gtD (eCall m__law_draw (lCons (eVar 1) (lCons (eC (.int 4)) lNil))) (eC (.int 0)))) (sSet 11 (eCall m__law_bent (lCons (eVar 1) (lCons (eVar 7) (lCons (eVar 10) lNil))))) sNil)
    (sSeq (sSet 12 (eLst (lDrop (eCall m__law_due (lCons (eVar 3) (lCons (eVar 4) (lCons (eVar 5) (lCons (eVar 6) (lCons (eVar 11) lNil)))))))))
    (sSeq (sIf (bNot (bTru (eCall m__law_flag (lCons (eCall m_is_doing_for (lCons (eVar 7) (lCons (eVar 5) (lCons (eVar 11) lNil)))) (lCons (e2 getD (eVar 12) (eC (.int 0))) lNil))))) (sRet (eC (.bl false))) sNil)
    (sIf (bNot (bTru (eCall m__law_flag (lCons (eCall m_is_doing_but (lCons (eVar 7) (lCons (eVar 5) (lCons (eVar 6) (lCons (eVar 11) lNil))))) (lCons (e2 getD (eVar 12) (eC (.int 1))) lNil))))) (sRet (eC (.bl false))) sNil)))))))))))))))
    (sRet (eC (.bl true))))) := hid_eq _

end TK


set_option Elab.async false
set_option linter.all false
set_option maxRecDepth 100000
set_option maxHeartbeats 4000000
namespace TK
open PySem PySem.Spec
open PyProof.Rows hiding St
open L2
/-! # the dice -/
theorem mulS {i j : Int} (h0 : 0 ≤ i) (h1 : i < 9223372036854775808) (h2 : 0 ≤ j) (h3 : j < 9223372036854775808) : mulOk i j :=
  mulOk_lt (by omega) (Nat.lt_trans (show j.natAbs < 2 ^ 64 by omega) (by decide))
theorem divS {j : Int} (h2 : 0 < j) (h3 : j < 9223372036854775808) : divOk j := divOk_lt h2 (Nat.lt_trans (show j.natAbs < 2 ^ 64 by omega) (by decide))
@[simp] theorem pow18 (st : Store) : powD (.int 10) (.int 18) st = .ok (.int 1000000000000000000) st := by
  have : ((10 : Int) ^ 18) = 1000000000000000000 := by decide
  simp [powD]
section
variable {st : Store} {n c : Nat} {cells : List Int}
/-- the store with the dice at n -/
def dS (st : Store) (n c : Nat) (a b m e : Int) : Store := st.set n (.lst [.ref c, .int a, .int b, .int m, .int e])
theorem getD_r {xs : List D} {k : Nat} {j : Int} {d : D} (h : st[n]? = some (.lst xs)) (hj : j = k) (e : xs[k]? = some d) : getD (.ref n) (.int j) st = .ok d st := by
  subst hj
  rw [getD_ref, seqOf_ref, h]
  simp [atI_nat e]
theorem dS_at {a b m e : Int} (hn : n < st.length) : (dS st n c a b m e)[n]? = some (.lst [.ref c, .int a, .int b, .int m, .int e]) := by
  unfold dS
  rw [List.getElem?_set_self hn]
theorem dS_set {a b m e a' b' m' e' : Int} : (dS st n c a b m e).set n (.lst [.ref c, .int a', .int b', .int m', .int e']) = dS st n c a' b' m' e' := by
  unfold dS
  rw [List.set_set]
theorem dS_len {a b m e : Int} : (dS st n c a b m e).length = st.length := by simp [dS]
theorem dS0 {a b m e : Int} (hn : n < st.length) : getD (.ref n) (.int 0) (dS st n c a b m e) = .ok (.ref c) (dS st n c a b m e) := getD_r (k := 0) (dS_at hn) rfl rfl
theorem dS1 {a b m e : Int} (hn : n < st.length) : getD (.ref n) (.int 1) (dS st n c a b m e) = .ok (.int a) (dS st n c a b m e) := getD_r (k := 1) (dS_at hn) rfl rfl
theorem dS2 {a b m e : Int} (hn : n < st.length) : getD (.ref n) (.int 2) (dS st n c a b m e) = .ok (.int b) (dS st n c a b m e) := getD_r (k := 2) (dS_at hn) rfl rfl
theorem dS3 {a b m e : Int} (hn : n < st.length) : getD (.ref n) (.int 3) (dS st n c a b m e) = .ok (.int m) (dS st n c a b m e) := getD_r (k := 3) (dS_at hn) rfl rfl
theorem dS4 {a b m e : Int} (hn : n < st.length) : getD (.ref n) (.int 4) (dS st n c a b m e) = .ok (.int e) (dS st n c a b m e) := getD_r (k := 4) (dS_at hn) rfl rfl
theorem dSc {a b m e : Int} (hc : c ≠ n) (h : st[c]? = some (.lst (cells.map D.int))) : (dS st n c a b m e)[c]? = some (.lst (cells.map D.int)) := by
  unfold dS
  rw [List.getElem?_set_ne (Ne.symm hc)]
  exact h
theorem sSub_d {fo fi fe : EF} {env : AEnv} {s0 s1 : Store} {xs : List D} {k : Nat} {y : D} (h1 : fe env s0 = .ok y s1) (h2 : fo env s1 = .ok (.ref n) s1) (h3 : fi env s1 = .ok (.int k) s1) (h : s1[n]? = some (.lst xs)) (hk : k < xs.length) :
    sSub fo fi fe env s0 = .next env (s1.set n (.lst (xs.set k y))) := by
  have hx : ixN xs.length (k : Int) = some k := by
    unfold ixN
    rw [if_pos (by omega), if_pos (by omega)]
    simp
  simp [h1, h2, h3, h, hx]
theorem sub1 {a b m e v : Int} {fe : EF} {o : List (Option D)} {s0 : Store} (hn : n < st.length) (h : fe (some (.ref n) :: o) s0 = .ok (.int v) (dS st n c a b m e)) :
    sSub (eVar 0) (eC (.int 1)) fe (some (.ref n) :: o) s0 = .next (some (.ref n) :: o) (dS st n c v b m e) := by
  rw [sSub_d (k := 1) h (by simp) (by simp) (dS_at hn) (by simp)]
  simp [dS]
theorem sub2 {a b m e v : Int} {fe : EF} {o : List (Option D)} {s0 : Store} (hn : n < st.length) (h : fe (some (.ref n) :: o) s0 = .ok (.int v) (dS st n c a b m e)) :
    sSub (eVar 0) (eC (.int 2)) fe (some (.ref n) :: o) s0 = .next (some (.ref n) :: o) (dS st n c a v m e) := by
  rw [sSub_d (k := 2) h (by simp) (by simp) (dS_at hn) (by simp)]
  simp [dS]
theorem sub3 {a b m e v : Int} {fe : EF} {o : List (Option D)} {s0 : Store} (hn : n < st.length) (h : fe (some (.ref n) :: o) s0 = .ok (.int v) (dS st n c a b m e)) :
    sSub (eVar 0) (eC (.int 3)) fe (some (.ref n) :: o) s0 = .next (some (.ref n) :: o) (dS st n c a b v e) := by
  rw [sSub_d (k := 3) h (by simp) (by simp) (dS_at hn) (by simp)]
  simp [dS]
theorem sub4 {a b m e v : Int} {fe : EF} {o : List (Option D)} {s0 : Store} (hn : n < st.length) (h : fe (some (.ref n) :: o) s0 = .ok (.int v) (dS st n c a b m e)) :
    sSub (eVar 0) (eC (.int 4)) fe (some (.ref n) :: o) s0 = .next (some (.ref n) :: o) (dS st n c a b m v) := by
  rw [sSub_d (k := 4) h (by simp) (by simp) (dS_at hn) (by simp)]
  simp [dS]
noncomputable def drawHead : SF := (sIf (bAnd (bB (e2 eqD (e2 getD (eVar 0) (eC (.int 2))) (eC (.int 0)))) (bB (e2 ltD (e2 getD (eVar 0) (eC (.int 1))) (eQ lenG (lRd (e2 getD (eVar 0) (eC (.int 0)))))))) (sSeq (sSet 3 (e2 getD (e2 getD (eVar 0) (eC (.int 0))) (e2 getD (eVar 0) (eC (.int 1)))))
    (sSeq (sSub (eVar 0) (eC (.int 1)) (e2 addD (e2 getD (eVar 0) (eC (.int 1))) (eC (.int 1))))
    (sSeq (sSub (eVar 0) (eC (.int 3)) (e2 modD (eB intG (lCons (e2 addD (e2 addD (e2 mulD (e2 getD (eVar 0) (eC (.int 3))) (eC (.int 69621))) (eVar 3)) (eC (.int 11))) lNil)) (eC (.int 2147483629))))
    (sIf (bB (e2 geD (eVar 3) (e2 powD (eC (.int 10)) (eC (.int 18))))) (sSub (eVar 0) (eC (.int 2)) (eVar 3)) sNil)))) sNil)
noncomputable def drawTail : SF := (sSeq (sIf (bB (e2 gtD (e2 getD (eVar 0) (eC (.int 2))) (eC (.int 0)))) (sSeq (sSet 4 (e2 modD (eB intG (lCons (e2 getD (eVar 0) (eC (.int 2))) lNil)) (eVar 1)))
    (sSeq (sSub (eVar 0) (eC (.int 2)) (e2 divD (e2 getD (eVar 0) (eC (.int 2))) (eVar 1)))
    (sRet (eVar 4)))) sNil)
    (sSeq (sSub (eVar 0) (eC (.int 4)) (e2 addD (e2 getD (eVar 0) (eC (.int 4))) (eC (.int 1))))
    (sSeq (sSet 2 (e2 modD (eB intG (lCons (e2 mulD (eB intG (lCons (e2 addD (e2 getD (eVar 0) (eC (.int 3))) (e2 mulD (eC (.int 7919)) (e2 getD (eVar 0) (eC (.int 4))))) lNil)) (eC (.int 48271))) lNil)) (eC (.int 2147483647))))
    (sSeq (sSet 2 (e2 modD (eB intG (lCons (e2 mulD (eVar 2) (e2 addD (e2 divD (eVar 2) (eC (.int 1009))) (eC (.int 69621)))) lNil)) (eC (.int 2147483647))))
    (sSeq (sSet 2 (e2 modD (eB intG (lCons (e2 mulD (eVar 2) (e2 addD (e2 divD (eVar 2) (eC (.int 2003))) (eC (.int 40692)))) lNil)) (eC (.int 2147483399))))
    (sRet (e2 modD (eB intG (lCons (e2 divD (eVar 2) (eC (.int 16))) lNil)) (eVar 1))))))))
theorem draw_cut : m__law_draw = runDef 5 (sSeq drawHead drawTail) := m__law_draw_eq

theorem hx0 : ixN 5 0 = some 0 := rfl
theorem hx1 : ixN 5 1 = some 1 := rfl
theorem hx2 : ixN 5 2 = some 2 := rfl
theorem hx3 : ixN 5 3 = some 3 := rfl
theorem hx4 : ixN 5 4 = some 4 := rfl
theorem tail_ok {s a b m e : Int} (hn : n < st.length) (hb : 0 ≤ b) (hm0 : 0 ≤ m) (hm : m < 2147483647) (he0 : 0 ≤ e) (he : e < 1000000000) (hs0 : 0 < s) (hs : s < 1000000000) (o2 o3 o4 : Option D) :
    ∃ r b' m' e', drawTail [some (.ref n), some (.int s), o2, o3, o4] (dS st n c a b m e) = .ret (.int r) (dS st n c a b' m' e') ∧ 0 ≤ r ∧ r < s ∧ 0 ≤ b' ∧ 0 ≤ m' ∧ m' < 2147483647 ∧ 0 ≤ e' ∧ e' ≤ e + 1 := by
  have d0 : divOk s := divS hs0 (by omega)
  by_cases h : 0 < b
  · refine ⟨b % s, b / s, m, e, ?_, Int.emod_nonneg _ (by omega), Int.emod_lt_of_pos _ hs0, Int.ediv_nonneg hb (by omega), hm0, hm, he0, by omega⟩
    simp [drawTail, dS2 hn, dS_at hn, dS_set, hx2, h, hs0, d0]
  · obtain rfl : b = 0 := by omega
    have d1 : divOk 1009 := divS (by decide) (by decide)
    have d2 : divOk 2003 := divS (by decide) (by decide)
    have d3 : divOk 16 := divS (by decide) (by decide)
    have k1 : mulOk 7919 (e + 1) := mulS (by decide) (by decide) (by omega) (by omega)
    have k2 : mulOk (m + 7919 * (e + 1)) 48271 := mulS (by omega) (by omega) (by decide) (by decide)
    obtain ⟨m1, hm1⟩ : ∃ m1, m1 = ((m + 7919 * (e + 1)) * 48271) % 2147483647 := ⟨_, rfl⟩
    have b1 : 0 ≤ m1 ∧ m1 < 2147483647 := by omega
    have k3 : mulOk m1 (m1 / 1009 + 69621) := mulS b1.1 (by omega) (by omega) (by omega)
    obtain ⟨m2, hm2⟩ : ∃ m2, m2 = (m1 * (m1 / 1009 + 69621)) % 2147483647 := ⟨_, rfl⟩
    have b2 : 0 ≤ m2 ∧ m2 < 2147483647 := by rw [hm2]; exact ⟨Int.emod_nonneg _ (by decide), Int.emod_lt_of_pos _ (by decide)⟩
    have k4 : mulOk m2 (m2 / 2003 + 40692) := mulS b2.1 (by omega) (by omega) (by omega)
    obtain ⟨m3, hm3⟩ : ∃ m3, m3 = (m2 * (m2 / 2003 + 40692)) % 2147483399 := ⟨_, rfl⟩
    refine ⟨m3 / 16 % s, 0, m, e + 1, ?_, Int.emod_nonneg _ (by omega), Int.emod_lt_of_pos _ hs0, by omega, hm0, hm, by omega, by omega⟩
    simp [drawTail, dS2 hn, dS3 hn, dS4 hn, dS_at hn, dS_set, hx2, hx3, hx4, hs0, k1, k2, k3, k4, d1, d2, d3, ← hm1, ← hm2, ← hm3]
theorem head_ok {s a b m e : Int} (hn : n < st.length) (hc : c ≠ n) (hcell : st[c]? = some (.lst (cells.map D.int))) (hpos : ∀ x ∈ cells, 0 ≤ x) (ha : 0 ≤ a) (hb : 0 ≤ b) (hm0 : 0 ≤ m) (hm : m < 2147483647) :
    ∃ a' b' m' o3, drawHead [some (.ref n), some (.int s), none, none, none] (dS st n c a b m e) = .next [some (.ref n), some (.int s), none, o3, none] (dS st n c a' b' m' e) ∧ 0 ≤ a' ∧ 0 ≤ b' ∧ 0 ≤ m' ∧ m' < 2147483647 := by
  have hz := dSc (a := a) (b := b) (m := m) (e := e) hc hcell
  by_cases h : b = 0
  · subst h
    by_cases h2 : a < cells.length
    · obtain ⟨k, rfl⟩ : ∃ k : Nat, a = k := ⟨a.toNat, by omega⟩
      have hk : k < cells.length := by omega
      have hx := getD_r (j := (k : Int)) (dSc (a := (k : Int)) (b := 0) (m := m) (e := e) hc hcell) rfl (show (cells.map D.int)[k]? = some (.int cells[k]) by rw [List.getElem?_map, List.getElem?_eq_getElem hk]; rfl)
      obtain ⟨x, ex⟩ : ∃ x, x = cells[k] := ⟨_, rfl⟩
      have px : 0 ≤ x := by rw [ex]; exact hpos _ (List.getElem_mem _)
      rw [← ex] at hx
      by_cases h3 : 1000000000000000000 ≤ x
      · have k1 : mulOk m 69621 := mulS hm0 (by omega) (by decide) (by decide)
        refine ⟨k + 1, x, (m * 69621 + x + 11) % 2147483629, some (.int x), ?_, by omega, px, by omega, by omega⟩
        simp [drawHead, dS0 hn, dS1 hn, dS2 hn, dS3 hn, dS_at hn, dS_set, hx1, hx2, hx3, hz, hk, hx, h3, k1]
      · have k1 : mulOk m 69621 := mulS hm0 (by omega) (by decide) (by decide)
        refine ⟨k + 1, 0, (m * 69621 + x + 11) % 2147483629, some (.int x), ?_, by omega, by omega, by omega, by omega⟩
        simp [drawHead, dS0 hn, dS1 hn, dS2 hn, dS3 hn, dS_at hn, dS_set, hx1, hx3, hz, hk, hx, h3, k1]
    · refine ⟨a, 0, m, none, ?_, ha, by omega, hm0, hm⟩
      simp [drawHead, dS0 hn, dS1 hn, dS2 hn, hz, h2]
  · refine ⟨a, b, m, none, ?_, ha, hb, hm0, hm⟩
    simp [drawHead, dS2 hn, h]
/-- the dice stand at n, no more than k times thrown without digits -/
def Dice (n : Nat) (k : Int) (st : Store) : Prop := ∃ (c : Nat) (cells : List Int) (a b m e : Int), st = dS st n c a b m e ∧ n < st.length ∧ c < n ∧ st[c]? = some (.lst (cells.map D.int)) ∧ (∀ x ∈ cells, 0 ≤ x) ∧ 0 ≤ a ∧ 0 ≤ b ∧ 0 ≤ m ∧ m < 2147483647 ∧ 0 ≤ e ∧ e ≤ k
/-- all but the dice unchanged -/
def SameBut (n : Nat) (st st' : Store) : Prop := st'.length = st.length ∧ ∀ i, i ≠ n → st'[i]? = st[i]?
theorem SameBut.refl {n : Nat} {st : Store} : SameBut n st st := ⟨rfl, fun _ _ => rfl⟩
theorem SameBut.trans {n : Nat} {st st1 st2 : Store} (h : SameBut n st st1) (k : SameBut n st1 st2) : SameBut n st st2 := ⟨k.1.trans h.1, fun i hi => (k.2 i hi).trans (h.2 i hi)⟩
theorem dS_same {a b m e : Int} : SameBut n st (dS st n c a b m e) := ⟨dS_len, fun i hi => by unfold dS; rw [List.getElem?_set_ne (Ne.symm hi)]⟩
theorem draw_ok {s k : Int} (h : Dice n k st) (hk : k < 1000000000) (hs0 : 0 < s) (hs : s < 1000000000) :
    ∃ r st', gcH st (m__law_draw [.ref n, .int s] st) = .ok (.int r) st' ∧ 0 ≤ r ∧ r < s ∧ Dice n (k + 1) st' ∧ SameBut n st st' := by
  obtain ⟨c, cells, a, b, m, e, h0, hn, hc, hcell, hpos, ha, hb, hm0, hm, he0, he⟩ := h
  obtain ⟨a', b', m', o3, e1, ha', hb', hm0', hm'⟩ := head_ok (s := s) (e := e) hn (Nat.ne_of_lt hc) hcell hpos ha hb hm0 hm
  obtain ⟨r, b2, m2, e2, e3, hr0, hr, hb2, hm20, hm2, he20, he2⟩ := tail_ok (c := c) (a := a') (o2 := none) (o3 := o3) (o4 := none) hn hb' hm0' hm' he0 (by omega) hs0 hs
  have ed : m__law_draw [.ref n, .int s] st = .ok (.int r) (dS st n c a' b2 m2 e2) := by
    rw [draw_cut, h0]
    simp only [runDef_ap, sSeq_ap]
    have e1' : drawHead (List.map some [D.ref n, D.int s] ++ List.replicate (5 - [D.ref n, D.int s].length) none) (dS st n c a b m e) = .next [some (.ref n), some (.int s), none, o3, none] (dS st n c a' b' m' e) := e1
    rw [e1']
    simp only [sThen_next]
    rw [e3, ← h0]
  refine ⟨r, dS st n c a' b2 m2 e2, ?_, hr0, hr, ?_, dS_same⟩
  · rw [ed]
    unfold dS
    exact gcR_set rfl (by simp [closedO, closeds, closed]; omega)
  · refine ⟨c, cells, a', b2, m2, e2, ?_, by rw [dS_len]; exact hn, hc, ?_, hpos, ha', hb2, hm20, hm2, he20, by omega⟩
    · unfold dS; rw [List.set_set]
    · exact dSc (Nat.ne_of_lt hc) hcell
end
end TK

set_option Elab.async false
set_option linter.all false
set_option maxRecDepth 100000
set_option maxHeartbeats 4000000
namespace TK
open PySem PySem.Spec
open PyProof.Rows hiding St
open L2
/-! # what the laws draw: offices, rows, doings -/
section
variable {st s1 : Store} {n : Nat} {k : Int}
theorem Dice.mono {n : Nat} {k k' : Int} (h : Dice n k st) (hk : k ≤ k') : Dice n k' st := by
  obtain ⟨c, cells, a, b, m, e, h0, hn, hc, hcell, hpos, ha, hb, hm0, hm, he0, he⟩ := h
  exact ⟨c, cells, a, b, m, e, h0, hn, hc, hcell, hpos, ha, hb, hm0, hm, he0, by omega⟩
theorem Dice.lt (h : Dice n k st) : n < st.length := by
  obtain ⟨c, cells, a, b, m, e, h0, hn, _⟩ := h
  exact hn
theorem Dice.app (h : Dice n k st) (x : Store) : Dice n k (st ++ x) := by
  obtain ⟨c, cells, a, b, m, e, h0, hn, hc, hcell, hr⟩ := h
  refine ⟨c, cells, a, b, m, e, ?_, by simp; omega, hc, ?_, hr⟩
  · unfold dS at h0 ⊢
    rw [List.set_append_left _ _ hn, ← h0]
  · rw [List.getElem?_append_left (by omega)]; exact hcell
/-- the store grown, all old objects but the dice as they were -/
def Near (n : Nat) (st s' : Store) : Prop := st.length ≤ s'.length ∧ ∀ i, i < st.length → i ≠ n → s'[i]? = st[i]?
theorem SameBut.near (h : SameBut n st s1) : Near n st s1 := ⟨Nat.le_of_eq h.1.symm, fun i _ hn => h.2 i hn⟩
theorem Near.refl : Near n st st := ⟨Nat.le_refl _, fun _ _ _ => rfl⟩
theorem Near.app (x : Store) : Near n st (st ++ x) := ⟨by simp, fun i h _ => List.getElem?_append_left h⟩
theorem Near.trans {s2 : Store} (h : Near n st s1) (h2 : Near n s1 s2) : Near n st s2 := ⟨Nat.le_trans h.1 h2.1, fun i hi hn => (h2.2 i (Nat.lt_of_lt_of_le hi h.1) hn).trans (h.2 i hi hn)⟩
theorem Dice.cut (h : Dice n k s1) (hn : n < st.length) (hs : Near n st s1) : Dice n k (s1.take st.length) := by
  obtain ⟨c, cells, a, b, m, e, h0, hn1, hc, hcell, hr⟩ := h
  refine ⟨c, cells, a, b, m, e, ?_, by rw [List.length_take]; omega, hc, ?_, hr⟩
  · unfold dS at h0 ⊢
    rw [← List.take_set, ← h0]
  · rw [List.getElem?_take_of_lt (by omega)]; exact hcell
theorem gc_near {d : D} (h : Dice n k s1) (hn : n < st.length) (hs : Near n st s1) (hd : closed st.length d = true) : ∃ s2, gcH st (.ok d s1) = .ok d s2 ∧ Dice n k s2 ∧ SameBut n st s2 := by
  refine ⟨s1.take st.length, ?_, h.cut hn hs, ?_⟩
  · have ht : Trim st s1 := fun i hi => by
      by_cases e : i = n
      · subst e
        obtain ⟨c, cells, a, b, m, e, h0, hn1, hc, _⟩ := h
        refine .inr ⟨.lst [.ref c, .int a, .int b, .int m, .int e], ?_, ?_⟩
        · rw [h0]; exact dS_at hn1
        · simp [closedO, closeds, closed]; omega
      · exact .inl (hs.2 i hi e)
    unfold gcH
    rw [hid_eq]
    unfold gcR
    simp [ht, hd]
  · refine ⟨by rw [List.length_take]; have := hs.1; omega, fun i hi => ?_⟩
    by_cases h1 : i < st.length
    · rw [List.getElem?_take_of_lt h1]; exact hs.2 i h1 hi
    · rw [List.getElem?_eq_none (by simp; omega), List.getElem?_eq_none (by omega)]
theorem pick3 {p : Nat} {a b c r : Int} (h : st[p]? = some (.lst [.int a, .int b, .int c])) (h0 : 0 ≤ r) (h1 : r < 3) : ∃ v, getD (.ref p) (.int r) st = .ok (.int v) st := by
  obtain ⟨j, rfl⟩ : ∃ j : Nat, r = j := ⟨r.toNat, by omega⟩
  have : j = 0 ∨ j = 1 ∨ j = 2 := by omega
  rcases this with rfl | rfl | rfl
  · exact ⟨a, getD_r h rfl rfl⟩
  · exact ⟨b, getD_r h rfl rfl⟩
  · exact ⟨c, getD_r h rfl rfl⟩
def RowD (N : Int) (d : D) : Prop := ∃ x y f, d = .tup [.int x, .int y, .bl f] ∧ 0 ≤ x ∧ x < N ∧ 0 ≤ y ∧ y < N ∧ (y = x + 1 ∨ y = x - 1)
theorem row_ok {N share : Int} (h : Dice n k st) (hk : k < 100000) (h2 : 2 ≤ N) (h12 : N ≤ 12) :
    ∃ d st', gcH st (m__law_row [.ref n, .int N, .int share] st) = .ok d st' ∧ RowD N d ∧ Dice n (k + 3) st' ∧ SameBut n st st' := by
  have z3 : 3 ≤ sizeLine := szl (by omega)
  obtain ⟨x, s2, hx, x0, x1, D1, S1⟩ := draw_ok (s := N) h (by omega) (by omega) (by omega)
  obtain ⟨b, s3, hb, b0, b1, D2, S2⟩ := draw_ok (s := 2) D1 (by omega) (by omega) (by omega)
  obtain ⟨f, s5, hf, _, _, D3, S3⟩ := draw_ok (s := 12) D2 (by omega) (by omega) (by omega)
  have k1 : mulOk 2 b := mulS (by decide) (by decide) (by omega) (by omega)
  have k2 : mulOk 2 x := mulS (by decide) (by decide) (by omega) (by omega)
  obtain ⟨y, hy⟩ : ∃ y, y = x + 1 - 2 * b := ⟨_, rfl⟩
  by_cases e : y < 0 ∨ y = N
  · obtain ⟨s4, h4, D4, S4⟩ := gc_near (d := .tup [.int x, .int (2 * x - y), .bl (decide (f < share))]) D3 h.lt ((S1.trans S2).trans S3).near rfl
    refine ⟨.tup [.int x, .int (2 * x - y), .bl (decide (f < share))], s4, ?_, ⟨x, 2 * x - y, _, rfl, by omega, by omega, by omega, by omega, by omega⟩, D4.mono (by omega), S4⟩
    rw [m__law_row_eq, ← h4]
    by_cases e1 : y < 0
    · simp [hx, hb, okIf_pos k1, okIf_pos k2, ← hy, e1, hf, okIf_pos z3]
    · have e2 : y = N := by omega
      simp [hx, hb, okIf_pos k1, okIf_pos k2, ← hy, e1, e2, hf, okIf_pos z3]
  · have e1 : ¬ y < 0 := fun z => e (.inl z)
    have e2 : ¬ y = N := fun z => e (.inr z)
    obtain ⟨s4, h4, D4, S4⟩ := gc_near (d := .tup [.int x, .int y, .bl (decide (f < share))]) D3 h.lt ((S1.trans S2).trans S3).near rfl
    refine ⟨.tup [.int x, .int y, .bl (decide (f < share))], s4, ?_, ⟨x, y, _, rfl, by omega, by omega, by omega, by omega, by omega⟩, D4.mono (by omega), S4⟩
    rw [m__law_row_eq, ← h4]
    simp [hx, hb, okIf_pos k1, okIf_pos k2, ← hy, e1, e2, hf, okIf_pos z3]
theorem rowD_closed {N : Int} {j : Nat} : ∀ {ds : List D}, (∀ d ∈ ds, RowD N d) → closeds j ds = true
  | [], _ => rfl
  | d :: ds, h => by
    obtain ⟨x, y, f, rfl, _⟩ := h d (by simp)
    simp [closeds, closed, rowD_closed fun d hd => h d (List.mem_cons_of_mem _ hd)]
end
end TK

set_option Elab.async false
set_option linter.all false
set_option maxRecDepth 100000
set_option maxHeartbeats 4000000
namespace TK
open PySem PySem.Spec
open PyProof.Rows hiding St
open L2
/-! # checks, sameness, the first dice, sorting: as in many laws -/
variable {st : Store}
theorem is_integer_ok (i : Int) : m_is_integer [.int i] st = .ok (.bl true) st := by
  simp [m_is_integer_eq]
theorem is_within_ok (i lo hi : Int) : m_is_within [.int i, .int lo, .int hi] st = .ok (.bl (decide (lo ≤ i) && decide (i ≤ hi))) st := by
  simp [m_is_within_eq, is_integer_ok]
  by_cases h : lo ≤ i <;> simp [h]
def plainT : Nat → D → Prop
  | _, .bl _ => True
  | _, .int _ => True
  | k + 1, .tup ds => ds.length ≤ 1000 ∧ ∀ d ∈ ds, plainT k d
  | _, _ => False
theorem zipD_lenS : ∀ ds : List D, (zipD ds ds).length = ds.length
  | [] => rfl
  | d :: ds => by simp [zipD, zipD_lenS ds]
theorem zipD_mem : ∀ {ds : List D} {d : D}, d ∈ zipD ds ds → ∃ x ∈ ds, d = .tup [x, x]
  | [], d, h => by simp [zipD] at h
  | x :: ds, d, h => by
    rw [zipD, List.mem_cons] at h
    rcases h with rfl | h
    · exact ⟨x, by simp, rfl⟩
    · obtain ⟨y, hy, e⟩ := zipD_mem h
      exact ⟨y, by simp [hy], e⟩
theorem boolsOf_true : ∀ l : List D, boolsOf (l.map fun _ => D.bl true) = some (l.map fun _ => true)
  | [] => rfl
  | _ :: l => by simp [boolsOf, boolsOf_true l]
theorem allG_true (l : List D) (st : Store) : allG (l.map fun _ => D.bl true) st = .ok (.bl true) st := by
  unfold allG
  rw [boolsOf_true]
  simp
theorem cutD_mem {xs : List D} {lo hi : Option Int} {d : D} (h : d ∈ cutD xs lo hi) : d ∈ xs := by
  unfold cutD at h
  exact List.mem_of_mem_drop (List.mem_of_mem_take h)
theorem cutD_lenZ (xs : List D) (lo hi : Option Int) : (cutD xs lo hi).length ≤ xs.length := by
  unfold cutD
  simp only [List.length_take, List.length_drop]
  omega
def absI (i : Int) : Int := if i < 0 then -i else i
theorem lDrop_call {m : List D → Store → R D} {fa : LF} {env : AEnv} {as zs : List D} {p : Nat} {X : Store} (h1 : fa env st = .ok as st) (h2 : m as st = .ok (.ref p) (st ++ X)) (hp : st.length ≤ p) (h3 : (st ++ X)[p]? = some (.lst zs)) (hc : closeds st.length zs = true) :
    lDrop (eCall m fa) env st = .ok zs st := lDrop_ok (by rw [eCall_ap, h1, R.bind_ok, h2]; exact gcR_new X [] hc p h3 hp) hc
theorem insI_mem {x z : Int} : ∀ {l : List Int}, z ∈ insI x l ↔ z = x ∨ z ∈ l
  | [] => by simp [insI]
  | y :: ys => by
    unfold insI
    split
    · simp
    · simp [insI_mem (l := ys)]
      constructor
      · rintro (h | h | h) <;> simp [h]
      · rintro (h | h | h) <;> simp [h]
theorem insI_len {x : Int} : ∀ {l : List Int}, (insI x l).length = l.length + 1
  | [] => rfl
  | y :: ys => by
    unfold insI
    split
    · rfl
    · simp [insI_len (l := ys)]
theorem insI_pair {x : Int} : ∀ {l : List Int}, l.Pairwise (· ≤ ·) → (insI x l).Pairwise (· ≤ ·)
  | [], _ => by simp [insI]
  | y :: ys, h => by
    rw [List.pairwise_cons] at h
    unfold insI
    split
    · rename_i hx
      rw [List.pairwise_cons, List.pairwise_cons]
      refine ⟨fun z hz => ?_, h⟩
      rcases List.mem_cons.mp hz with rfl | hz
      · exact hx
      · have := h.1 z hz; omega
    · rename_i hx
      rw [List.pairwise_cons]
      refine ⟨fun z hz => ?_, insI_pair h.2⟩
      rcases insI_mem.mp hz with rfl | hz
      · omega
      · exact h.1 z hz
theorem sortI_mem {z : Int} : ∀ {l : List Int}, z ∈ sortI l ↔ z ∈ l
  | [] => by simp [sortI]
  | y :: ys => by simp [sortI, insI_mem, sortI_mem (l := ys)]
theorem sortI_len : ∀ {l : List Int}, (sortI l).length = l.length
  | [] => rfl
  | y :: ys => by simp [sortI, insI_len, sortI_len (l := ys)]
theorem sortI_pair : ∀ l : List Int, (sortI l).Pairwise (· ≤ ·)
  | [] => by simp [sortI]
  | y :: ys => by rw [sortI]; exact insI_pair (sortI_pair ys)
theorem intsOf_ints : ∀ ns : List Int, intsOf (ns.map D.int) = some ns
  | [] => rfl
  | n :: ns => by simp [intsOf, intsOf_ints ns]
theorem sortG_ints (ns : List Int) : sortG (ns.map D.int) st = .ok ((sortI ns).map D.int) st := by
  unfold sortG
  rw [intsOf_ints]

theorem insI_low {x : Int} : ∀ {l : List Int}, (∀ y ∈ l, x ≤ y) → insI x l = x :: l
  | [], _ => rfl
  | y :: ys, h => by
    unfold insI
    rw [if_pos (h y (by simp))]
theorem sortI_id : ∀ {l : List Int}, l.Pairwise (· ≤ ·) → sortI l = l
  | [], _ => rfl
  | x :: xs, h => by
    rw [List.pairwise_cons] at h
    rw [sortI, sortI_id h.2, insI_low h.1]
@[simp] theorem neD_ints (xs ys : List Int) : neD (.tup (xs.map D.int)) (.tup (ys.map D.int)) st = .ok (.bl (decide (xs ≠ ys))) st := by
  unfold neD eqP
  rw [toP_ints, toP_ints]
  simp only [shaped_ints, and_self, if_true]
  show R.ok (D.bl (!PyData.eqvAll (pyI xs) (pyI ys))) st = _
  rw [eqv_ints]
  simp
theorem mapM_ints {f : D → Option PyData} (h : ∀ i, f (.int i) = some (.int i)) : ∀ xs : List Int, (xs.map D.int).mapM f = some (pyI xs)
  | [] => rfl
  | x :: xs => by
    rw [List.map_cons, List.mapM_cons, h, mapM_ints h xs]
    rfl
theorem toP_ref {a : Nat} {xs : List Int} (h : st[a]? = some (.lst (xs.map D.int))) : toP st 50 (.ref a) = some (.list (pyI xs)) := by
  show (match seqOf (.ref a) st with
    | some ds => (ds.mapM (toP st 49)).map PyData.list
    | none => none) = _
  rw [seqOf_ref, h]
  simp only [mapM_ints (f := toP st 49) (fun i => rfl) xs]
  rfl
theorem shaped_list (ns : List Int) : SeqAt.shaped (.list (pyI ns)) = true := by
  unfold SeqAt.shaped
  have h1 : (PyData.list (pyI ns)).canLay0 = true := canLay_ints ns
  have h2 : (PyData.list (pyI ns)).depth ≤ 64 := by
    show PyData.depthAll (pyI ns) + 1 ≤ 64
    rw [depthAll_ints]; decide
  simp [h1, h2]
theorem neD_refs {a b : Nat} {xs ys : List Int} (ha : st[a]? = some (.lst (xs.map D.int))) (hb : st[b]? = some (.lst (ys.map D.int))) : neD (.ref a) (.ref b) st = .ok (.bl (decide (xs ≠ ys))) st := by
  unfold neD eqP
  rw [toP_ref ha, toP_ref hb]
  simp only [shaped_list, and_self, if_true]
  show R.ok (D.bl (!PyData.eqvAll (pyI xs) (pyI ys))) st = _
  rw [eqv_ints]
  simp
end TK

set_option Elab.async false
set_option linter.all false
set_option maxRecDepth 100000
set_option maxHeartbeats 4000000
namespace TK
open PySem PySem.Spec
open PyProof.Rows hiding St
open L2
/-! # sameness of lists; places picked -/
variable {st : Store}
theorem ints_plain (k : Nat) (xs : List Int) (h : xs.length ≤ 1000) : plainT (k + 1) (.tup (xs.map D.int)) := ⟨by simpa using h, fun d hd => by obtain ⟨i, _, rfl⟩ := List.mem_map.mp hd; cases k <;> trivial⟩
theorem rangeD_get' {n i : Nat} {d : D} (h : (rangeD 0 n)[i]? = some d) : d = .int (i : Int) ∧ i < n := by
  rw [rangeD_get] at h
  split at h
  · rename_i hi
    cases h
    exact ⟨by rw [Int.zero_add], hi⟩
  · cases h
/-- the places below n with a property -/
def placesS (p : Nat → Bool) (n : Nat) : List Int := ((List.range n).filter p).map fun (i : Nat) => (i : Int)
theorem placesS_len (p : Nat → Bool) (n : Nat) : (placesS p n).length ≤ n := by
  unfold placesS
  rw [List.length_map]
  exact Nat.le_trans (List.length_filter_le _ _) (by simp)
theorem places_range (p : Nat → Bool) (q : D → Bool) (n : Nat) (h : ∀ i, i < n → q (.int (i : Int)) = p i) : (rangeD 0 n).filter q = (placesS p n).map D.int := by
  unfold rangeD placesS
  rw [List.filter_map, List.map_map]
  have e : (List.range n).filter (q ∘ fun (i : Nat) => D.int (0 + (i : Int))) = (List.range n).filter p := List.filter_congr fun i hi => by
    have := h i (List.mem_range.mp hi)
    simpa using this
  rw [e]
  refine List.map_congr_left fun i _ => ?_
  simp
theorem enum_range : ∀ (l : List D) (k : Nat), (enumFrom k l).length = l.length
  | [], _ => rfl
  | x :: l, k => by simp [enumFrom, enum_range l]
theorem enum_places (p : Nat → Bool) (q : D → Bool) (f : D → D) : ∀ (l : List D) (k : Nat), (∀ i x, l[i]? = some x → q (.tup [.int ((k + i : Nat) : Int), x]) = p (k + i) ∧ f (.tup [.int ((k + i : Nat) : Int), x]) = .int ((k + i : Nat) : Int)) →
    ((enumFrom k l).filter q).map f = (((List.range l.length).filter fun i => p (k + i)).map fun (i : Nat) => D.int ((k + i : Nat) : Int))
  | [], k, _ => rfl
  | x :: l, k, h => by
    have h0 := h 0 x rfl
    rw [Nat.add_zero] at h0
    have ih := enum_places p q f l (k + 1) fun i y hy => by
      have := h (i + 1) y (by simpa using hy)
      have e : k + 1 + i = k + (i + 1) := by omega
      rw [e]
      exact this
    have e2 : (fun i => p (k + 1 + i)) = (fun i => p (k + i)) ∘ Nat.succ := by
      funext i
      show p (k + 1 + i) = p (k + (i + 1))
      congr 1
      omega
    have e3 : (fun (i : Nat) => D.int ((k + 1 + i : Nat) : Int)) = (fun (i : Nat) => D.int ((k + i : Nat) : Int)) ∘ Nat.succ := by
      funext i
      show D.int ((k + 1 + i : Nat) : Int) = D.int ((k + (i + 1) : Nat) : Int)
      congr 2
      omega
    rw [enumFrom, List.length_cons, List.range_succ_eq_map, List.filter_cons, List.filter_cons, List.filter_map, h0.1]
    rw [e2, e3] at ih
    by_cases c : p k = true
    · rw [if_pos c, if_pos (by exact c), List.map_cons, List.map_cons, ih, List.map_map, h0.2, Nat.add_zero]
    · rw [if_neg c, if_neg (by exact c), ih, List.map_map]
end TK

set_option Elab.async false
set_option linter.all false
set_option maxRecDepth 100000
set_option maxHeartbeats 4000000
namespace TK
open PySem PySem.Spec
open PyProof.Rows hiding St
open L2
/-! # logs, doings, led sheets -/
@[simp] theorem eFld_ap (cs : List Str) (f : Str) (fe : EF) (env : AEnv) (st : Store) : eFld cs f fe env st = ((fe env st).bind fun d st1 => match d with
  | .ref n => (match st1[n]? with
    | some (.ins c fs) => if c ∈ cs then (match fs.lookup f with
      | some d => .ok d st1
      | none => .bad) else .bad
    | _ => .bad)
  | _ => .bad) := (Eq.refl _).trans rfl
@[simp] theorem sFldA_ap (cs : List Str) (f : Str) (fo fe : EF) (env : AEnv) (st : Store) : sFldA cs f fo fe env st = (sOf (fe env st) env fun y st1 => sOf (fo env st1) env fun x st2 => match x with
  | .ref n => (match st2[n]? with
    | some (.ins c fs) => if c ∈ cs ∧ fs.length < 1000 then .next env (st2.set n (.ins c (putFD f y fs))) else .bad
    | _ => .bad)
  | _ => .bad) := (Eq.refl _).trans rfl
variable {st : Store}
/-- a row: from, to, sure -/
structure Rw where
  x : Nat
  y : Nat
  f : Bool
def rwD (r : Rw) : D := .tup [.int r.x, .int r.y, .bl r.f]
def RwOk (N : Nat) (r : Rw) : Prop := r.x < N ∧ r.y < N ∧ (r.y = r.x + 1 ∨ r.x = r.y + 1)
theorem rowD_rw {N : Nat} {d : D} (h : RowD N d) : ∃ r, d = rwD r ∧ RwOk N r := by
  obtain ⟨x, y, f, rfl, h1, h2, h3, h4, h5⟩ := h
  refine ⟨⟨x.toNat, y.toNat, f⟩, ?_, ?_⟩
  · have e1 : ((x.toNat : Nat) : Int) = x := by omega
    have e2 : ((y.toNat : Nat) : Int) = y := by omega
    simp [rwD, e1, e2]
  · refine ⟨?_, ?_, ?_⟩ <;> simp <;> omega
theorem rowsD_rw {N : Nat} : ∀ {ds : List D}, (∀ d ∈ ds, RowD N d) → ∃ rs : List Rw, ds = rs.map rwD ∧ ∀ r ∈ rs, RwOk N r
  | [], _ => ⟨[], rfl, by simp⟩
  | d :: ds, h => by
    obtain ⟨r, rfl, hr⟩ := rowD_rw (h d (by simp))
    obtain ⟨rs, rfl, hrs⟩ := rowsD_rw fun d hd => h d (List.mem_cons_of_mem _ hd)
    refine ⟨r :: rs, rfl, fun r' hr' => ?_⟩
    rcases List.mem_cons.mp hr' with rfl | hr'
    · exact hr
    · exact hrs r' hr'
theorem is_triple_ok (r : Rw) : m_is_triple [rwD r] st = .ok (.bl true) st := by
  simp [m_is_triple_eq, rwD]
theorem is_flag_ok (f : Bool) : m_is_flag [.bl f] st = .ok (.bl true) st := by
  simp [m_is_flag_eq]
theorem rw0 (r : Rw) : getD (rwD r) (.int 0) st = .ok (.int r.x) st := getD_at (k := 0) rfl
theorem rw1 (r : Rw) : getD (rwD r) (.int 1) st = .ok (.int r.y) st := getD_at (k := 1) rfl
theorem rw2 (r : Rw) : getD (rwD r) (.int 2) st = .ok (.bl r.f) st := getD_at (k := 2) rfl
theorem is_row_ok {N : Nat} {r : Rw} (h : RwOk N r) : m_is_row [.int N, rwD r] st = .ok (.bl true) st := by
  obtain ⟨h1, h2, h3⟩ := h
  have a1 : (r.x : Int) ≤ (N : Int) - 1 := by omega
  have a2 : (r.y : Int) ≤ (N : Int) - 1 := by omega
  have a3 : (if (r.x : Int) - (r.y : Int) < 0 then -((r.x : Int) - (r.y : Int)) else (r.x : Int) - (r.y : Int)) = 1 := by
    split <;> omega
  simp [m_is_row_eq, is_triple_ok, rw0, rw1, rw2, is_within_ok, a1, a2, a3, is_flag_ok]
theorem enum_get : ∀ {ds : List D} {k i : Nat} {d : D}, (enumFrom k ds)[i]? = some d → ∃ x, d = .tup [.int (k + i : Nat), x] ∧ ds[i]? = some x
  | [], k, i, d, h => by simp [enumFrom] at h
  | x :: ds, k, i, d, h => by
    rw [enumFrom] at h
    cases i with
    | zero => simp at h; exact ⟨x, by simp [← h], rfl⟩
    | succ i =>
      rw [List.getElem?_cons_succ] at h
      obtain ⟨y, e, hy⟩ := enum_get h
      exact ⟨y, by rw [e]; simp; omega, by simpa using hy⟩
theorem first_bad_ok {N : Nat} {rs : List Rw} (h : ∀ r ∈ rs, RwOk N r) : m_first_bad [.int N, .tup (rs.map rwD)] st = .ok .non st := by
  simp [m_first_bad_eq]
  generalize hq : loopF _ _ _ _ _ _ = r
  obtain ⟨e, s, rfl, o2, o3, rfl, rfl⟩ := loopF_next hq (fun i env s => ∃ o2 o3, env = [some (.int N), some (.tup (rs.map rwD)), o2, o3] ∧ s = st) ⟨none, none, rfl, rfl⟩ fun i d env s hI hd => by
    obtain ⟨o2, o3, rfl, rfl⟩ := hI
    obtain ⟨x, rfl, hx⟩ := enum_get hd
    obtain ⟨r, hr, rfl⟩ := List.mem_map.mp (List.mem_of_getElem? hx)
    refine ⟨[some (.int N), some (.tup (rs.map rwD)), some (.int (0 + i : Nat)), some (rwD r)], by simp, _, s, .inl (by simp [is_row_ok (h r hr)]; exact ⟨rfl, rfl⟩), by simp, _, _, rfl, rfl⟩
  simp
def logO (N : Nat) (rs : List Rw) : AO := .ins "Log" [("offices", .int N), ("rows", .tup (rs.map rwD))]
theorem log_init {N : Nat} {rs : List Rw} (h1 : 1 ≤ N) (h12 : N ≤ 12) (hl : rs.length ≤ 60) (h : ∀ r ∈ rs, RwOk N r) :
    m_Log__init [.ref st.length, .int N, .tup (rs.map rwD)] (st ++ [.ins "Log" []]) = .ok .non (st ++ [logO N rs]) := by
  have a1 : (1 : Int) ≤ N := by omega
  have a2 : (N : Int) ≤ 12 := by omega
  have a3 : ((60 : Int) < (rs.length : Int)) = False := by simp; omega
  have hne : ¬ (Str.ofString "offices") = (Str.ofString "rows") := by decide +kernel
  simp [m_Log__init_eq, is_within_ok, a1, a2, a3, first_bad_ok h, putFD, logO, hne]
theorem log_make {N : Nat} {rs : List Rw} {fr : LF} {env : AEnv} (hf : fr env st = .ok [.int N, .tup (rs.map rwD)] st) (h1 : 1 ≤ N) (h12 : N ≤ 12) (hl : rs.length ≤ 60) (h : ∀ r ∈ rs, RwOk N r) :
    eMake "Log" m_Log__init fr env st = .ok (.ref st.length) (st ++ [logO N rs]) := by
  have hc : ∀ (rs : List Rw) n, closeds n (rs.map rwD) = true := by
    intro rs n
    induction rs with
    | nil => rfl
    | cons r rs ih => simp [closeds, closed, rwD, ih]
  unfold eMake
  rw [hf, R.bind_ok, log_init h1 h12 hl h]
  unfold mkR gcR
  simp [trim_app, closed, logO, closedO, closedF, hc]
/-! ### sheets led through a row -/
def cpL (xs : List Int) (r : Rw) : List Int := xs.set r.x (xs.getD r.y 0)
def RowS (N : Nat) (xs : List Int) : Prop := xs.length = N ∧ ris ((N : Int) - 1) 0 xs
theorem cpL_ok {N : Nat} {xs : List Int} {r : Rw} (h : RowS N xs) (hr : RwOk N r) : RowS N (cpL xs r) := by
  obtain ⟨hl, hs⟩ := h
  obtain ⟨h1, h2, h3⟩ := hr
  obtain ⟨hp, hb⟩ := ris_all hs
  have ey : xs.getD r.y 0 = xs[r.y] := by rw [List.getD_eq_getElem?_getD, List.getElem?_eq_getElem (by omega)]; rfl
  have ec : cpL xs r = xs.set r.x xs[r.y] := by unfold cpL; rw [ey]
  rw [ec]
  refine ⟨by simp [hl], ris_of ?_ fun z hz => ?_⟩
  · rw [List.pairwise_iff_getElem] at hp ⊢
    intro i j hi hj hij
    simp only [List.length_set] at hi hj
    rw [List.getElem_set, List.getElem_set]
    split
    · rename_i e
      rw [if_neg (by omega)]
      rcases Nat.lt_or_ge r.y j with q | q
      · exact hp r.y j (by omega) hj q
      · have : r.y = j := by omega
        subst this
        exact Int.le_refl _
    · split
      · rcases Nat.lt_or_ge i r.y with q | q
        · exact hp i r.y hi (by omega) q
        · have : i = r.y := by omega
          subst this
          exact Int.le_refl _
      · exact hp i j hi hj hij
  · rcases List.mem_or_eq_of_mem_set hz with hz | rfl
    · exact hb z hz
    · exact hb _ (List.getElem_mem _)
theorem cut_hi (ds : List D) (k : Nat) : cutD ds none (some (k : Int)) = ds.take k := by
  unfold cutD
  rw [HT.sIx_nat, HT.sIx_none]
  simp only [List.drop_zero, Nat.sub_zero]
  rw [List.take_eq_take_iff]
  omega
theorem cut_lo (ds : List D) (k : Nat) : cutD ds (some (k : Int)) none = ds.drop k := by
  unfold cutD
  rw [HT.sIx_nat, HT.sIx_none]
  by_cases h : k ≤ ds.length
  · rw [Nat.min_eq_left h, List.take_of_length_le (by simp)]
  · rw [Nat.min_eq_right (by omega), List.drop_of_length_le (Nat.le_refl _), List.drop_of_length_le (by omega)]
    simp
theorem copied_ok {N : Nat} {xs : List Int} {r : Rw} (hN : N ≤ 12) (h : RowS N xs) (hr : RwOk N r) : m_copied [.tup (xs.map D.int), rwD r] st = .ok (.tup ((cpL xs r).map D.int)) st := by
  obtain ⟨hl, _⟩ := h
  obtain ⟨h1, h2, h3⟩ := hr
  have g := getD_i (st := st) (xs := xs) (k := r.y) (j := (r.y : Int)) rfl (by omega)
  have c1 := cut_hi (xs.map D.int) r.x
  have c2 := cut_lo (xs.map D.int) (r.x + 1)
  have e1 : ((r.x + 1 : Nat) : Int) = (r.x : Int) + 1 := by omega
  rw [e1] at c2
  have z1 : 1 ≤ sizeLine := szl (by omega)
  have z2 : min r.x xs.length + 1 ≤ sizeLine := szl (by omega)
  have z3 : min r.x xs.length + 1 + (xs.length - (r.x + 1)) ≤ sizeLine := szl (by omega)
  have ec : (cpL xs r).map D.int = (xs.map D.int).take r.x ++ (D.int (xs.getD r.y 0) :: (xs.map D.int).drop (r.x + 1)) := by
    unfold cpL
    rw [List.set_eq_take_append_cons_drop, if_pos (by omega)]
    simp
  rw [ec]
  revert g
  generalize xs.getD r.y 0 = v
  intro g
  simp [m_copied_eq, rw0, rw1, g, c1, c2, okIf_pos z1, okIf_pos z2, okIf_pos z3]
end TK

set_option Elab.async false
set_option linter.all false
set_option maxRecDepth 100000
set_option maxHeartbeats 4000000
namespace TK
open PySem PySem.Spec
open PyProof.Rows hiding St
open L2
variable {st : Store} {n p N : Nat} {k : Int} {rs : List Rw}
theorem lkO (a b : D) : List.lookup ("offices" : Str) [(("offices" : Str), a), ("rows", b)] = some a := by
  rw [List.lookup_cons]
  rfl
theorem lkR (a b : D) : List.lookup ("rows" : Str) [(("offices" : Str), a), ("rows", b)] = some b := by
  have h : (("rows" : Str) == ("offices" : Str)) = false := by decide +kernel
  rw [List.lookup_cons, h, List.lookup_cons]
  rfl
theorem log_at (h : st[p]? = some (logO N rs)) : st[p]? = some (.ins "Log" [("offices", .int N), ("rows", .tup (rs.map rwD))]) := h
theorem row_at {i : Nat} {r : Rw} (h : rs[i]? = some r) : getD (.tup (rs.map rwD)) (.int (i : Int)) st = .ok (rwD r) st := getD_at (by rw [List.getElem?_map, h]; rfl)
/-! ### doings -/
def doOk : List Rw → List Bool → Prop
  | [], [] => True
  | r :: rs, f :: fs => (r.f = true → f = true) ∧ doOk rs fs
  | _, _ => False
theorem doOk_len : ∀ {rs : List Rw} {fs : List Bool}, doOk rs fs → fs.length = rs.length
  | [], [], _ => rfl
  | r :: rs, f :: fs, h => by simp [doOk_len h.2]
theorem doOk_snoc {r : Rw} {f : Bool} (hf : r.f = true → f = true) : ∀ {rs : List Rw} {fs : List Bool}, doOk rs fs → doOk (rs ++ [r]) (fs ++ [f])
  | [], [], _ => ⟨hf, trivial⟩
  | a :: rs, b :: fs, h => ⟨h.1, doOk_snoc hf h.2⟩
theorem bl_closed (j : Nat) : ∀ fs : List Bool, closeds j (fs.map D.bl) = true
  | [] => rfl
  | f :: fs => by simp [closeds, closed, bl_closed j fs]
theorem zipD_do : ∀ {rs : List Rw} {fs : List Bool} {d : D}, doOk rs fs → d ∈ zipD (fs.map D.bl) (rs.map rwD) → ∃ f r, d = .tup [.bl f, rwD r] ∧ (r.f = true → f = true)
  | [], [], d, _, h => by simp [zipD] at h
  | r :: rs, f :: fs, d, hd, h => by
    simp only [List.map_cons, zipD, List.mem_cons] at h
    rcases h with rfl | h
    · exact ⟨f, r, rfl, hd.1⟩
    · exact zipD_do hd.2 h
theorem zipD_lenD : ∀ {rs : List Rw} {fs : List Bool}, doOk rs fs → (zipD (fs.map D.bl) (rs.map rwD)).length = rs.length
  | [], [], _ => rfl
  | r :: rs, f :: fs, h => by simp [zipD, zipD_lenD h.2]
theorem zipD_getB : ∀ {rs : List Rw} {fs : List Bool} {i : Nat} {d : D}, doOk rs fs → (zipD (fs.map D.bl) (rs.map rwD))[i]? = some d → ∃ f r, d = .tup [.bl f, rwD r] ∧ rs[i]? = some r ∧ fs[i]? = some f
  | [], [], i, d, _, h => by simp [zipD] at h
  | r :: rs, f :: fs, i, d, hd, h => by
    simp only [List.map_cons, zipD] at h
    cases i with
    | zero => simp at h; exact ⟨f, r, h.symm, rfl, rfl⟩
    | succ i =>
      rw [List.getElem?_cons_succ] at h
      obtain ⟨f', r', e, h1, h2⟩ := zipD_getB hd.2 h
      exact ⟨f', r', e, by simpa using h1, by simpa using h2⟩
/-! ### all sheets of a doing -/
def ledS (N : Nat) (rs : List Rw) (fs : List Bool) : Nat → List Int
  | 0 => (List.range N).map fun (i : Nat) => (i : Int)
  | i + 1 => match rs[i]?, fs[i]? with
    | some r, some f => if f then cpL (ledS N rs fs i) r else ledS N rs fs i
    | _, _ => ledS N rs fs i
theorem ledS_suc {fs : List Bool} {i : Nat} {r : Rw} {f : Bool} (hr : rs[i]? = some r) (hf : fs[i]? = some f) : ledS N rs fs (i + 1) = if f then cpL (ledS N rs fs i) r else ledS N rs fs i := by
  rw [ledS, hr, hf]
theorem begun_row (N : Nat) : RowS N ((List.range N).map fun (i : Nat) => (i : Int)) := by
  refine ⟨by simp, ris_of ?_ fun x hx => ?_⟩
  · rw [List.pairwise_map]
    exact (List.pairwise_lt_range).imp fun h => by omega
  · obtain ⟨i, hi, rfl⟩ := List.mem_map.mp hx
    have := List.mem_range.mp hi
    omega
theorem ledS_row {fs : List Bool} (h : ∀ r ∈ rs, RwOk N r) : ∀ i, RowS N (ledS N rs fs i)
  | 0 => begun_row N
  | i + 1 => by
    have ih := ledS_row (fs := fs) h i
    unfold ledS
    split
    · rename_i r f hr hf
      split
      · exact cpL_ok ih (h r (List.mem_of_getElem? hr))
      · exact ih
    · exact ih
def ledD (N : Nat) (rs : List Rw) (fs : List Bool) (i : Nat) : D := .tup ((ledS N rs fs i).map D.int)
def ledL (N : Nat) (rs : List Rw) (fs : List Bool) (m : Nat) : List D := (List.range m).map (ledD N rs fs)
theorem ledL_suc {fs : List Bool} (m : Nat) : ledL N rs fs (m + 1) = ledL N rs fs m ++ [ledD N rs fs m] := by
  unfold ledL
  rw [List.range_succ, List.map_append]
  rfl
theorem ledL_closed {fs : List Bool} (j : Nat) : ∀ m, closeds j (ledL N rs fs m) = true := by
  have app : ∀ xs ys : List D, closeds j (xs ++ ys) = (closeds j xs && closeds j ys) := by
    intro xs ys
    induction xs with
    | nil => simp [closeds]
    | cons x xs ih => simp [closeds, ih, Bool.and_assoc]
  intro m
  induction m with
  | zero => rfl
  | succ m ih => rw [ledL_suc, app, ih]; simp [closeds, ledD, closed, closeds_ints]
theorem begun_ok (hN : N ≤ 12) : m_begun [.int N] st = .ok (ledD N rs [] 0) st := by
  have hr : rgOk 0 (N : Int) := by
    unfold rgOk
    have h2 : (2 : Int) ^ 62 = 4611686018427387904 := by decide
    rw [h2]
    omega
  rw [m_begun_eq]
  simp [okIf_pos hr, ledD, ledS, rangeD]
theorem appendG_ref {m : Nat} {xs : List D} {d : D} (h : st[m]? = some (.lst xs)) (hl : xs.length < sizeLine) : appendG (.ref m) [d] st = .ok .non (st.set m (.lst (xs ++ [d]))) := by
  unfold appendG
  simp only [h]
  rw [if_pos hl]
theorem led_ok {fs : List Bool} (h : st[p]? = some (logO N rs)) (hN : N ≤ 12) (hM : rs.length ≤ 2000) (hrs : ∀ r ∈ rs, RwOk N r) (hd : doOk rs fs) :
    m_led [.ref p, .tup (fs.map D.bl)] st = .ok (.ref st.length) (st ++ [.lst (ledL N rs fs (rs.length + 1))]) := by
  have z1 : 1 ≤ sizeLine := szl (by omega)
  have hb : m_begun [.int N] st = .ok (ledD N rs fs 0) st := begun_ok (rs := rs) hN
  have hg : gcH st (.ok (ledD N rs fs 0) st) = .ok (ledD N rs fs 0) st := gcR_same (by simp [ledD, closed, closeds_ints])
  have hp : p < st.length := (List.getElem?_eq_some_iff.mp h).1
  have hpa : ∀ o : AO, (st ++ [o])[p]? = some (.ins "Log" [("offices", .int N), ("rows", .tup (rs.map rwD))]) := fun o => by rw [List.getElem?_append_left hp]; exact h
  rw [m_led_eq]
  simp [log_at h, lkO, lkR, hb, hg, okIf_pos z1, hpa]
  generalize hq : loopF _ _ _ _ _ _ = r
  obtain ⟨e, s, rfl, o3, o4, rfl, rfl⟩ := loopF_next hq (fun i env s => ∃ o3 o4, env = [some (.ref p), some (.tup (fs.map D.bl)), some (.ref st.length), o3, o4] ∧ s = st ++ [.lst (ledL N rs fs (i + 1))]) ⟨none, none, rfl, rfl⟩ fun i d env s hI hd' => by
    obtain ⟨o3, o4, rfl, rfl⟩ := hI
    obtain ⟨f, r, rfl, hr, hf⟩ := zipD_getB hd hd'
    have hi : i < rs.length := (List.getElem?_eq_some_iff.mp hr).1
    have zl : (ledL N rs fs (i + 1)).length < sizeLine := by
      have q : (ledL N rs fs (i + 1)).length = i + 1 := by simp [ledL]
      have q2 : i + 1 + 1 ≤ sizeLine := szl (by omega)
      omega
    have gl : getD (.ref st.length) (.int (-1)) (st ++ [.lst (ledL N rs fs (i + 1))]) = .ok (ledD N rs fs i) (st ++ [.lst (ledL N rs fs (i + 1))]) := by
      rw [getD_ref, seqOf_ref]
      simp [ledL_suc, atI_last]
    have hc : m_copied [ledD N rs fs i, rwD r] (st ++ [.lst (ledL N rs fs (i + 1))]) = .ok (.tup ((cpL (ledS N rs fs i) r).map D.int)) (st ++ [.lst (ledL N rs fs (i + 1))]) :=
      copied_ok hN (ledS_row hrs i) (hrs r (List.mem_of_getElem? hr))
    refine ⟨_, rfl, [some (.ref p), some (.tup (fs.map D.bl)), some (.ref st.length), some (.bl f), some (rwD r)], st ++ [.lst (ledL N rs fs (i + 1 + 1))], .inl ?_, by simp, _, _, rfl, rfl⟩
    have es := ledS_suc (N := N) hr hf
    have e2 : ledL N rs fs (i + 1 + 1) = ledL N rs fs (i + 1) ++ [ledD N rs fs (i + 1)] := ledL_suc (i + 1)
    rw [e2]
    have ga : ∀ d, appendG (.ref st.length) [d] (st ++ [.lst (ledL N rs fs (i + 1))]) = .ok .non (st ++ [.lst (ledL N rs fs (i + 1) ++ [d])]) := fun d => by
      rw [appendG_ref (m := st.length) (by simp) zl]
      simp
    have gh : gcH (st ++ [.lst (ledL N rs fs (i + 1))]) (.ok (.tup ((cpL (ledS N rs fs i) r).map D.int)) (st ++ [.lst (ledL N rs fs (i + 1))])) = .ok (.tup ((cpL (ledS N rs fs i) r).map D.int)) (st ++ [.lst (ledL N rs fs (i + 1))]) := gcR_ints _
    have ed : ledD N rs fs (i + 1) = .tup ((ledS N rs fs (i + 1)).map D.int) := rfl
    rw [ed, es]
    cases f with
    | true => simp [gl, hc, gh, ga]
    | false => simp [gl, ga]; rfl
  simp [zipD_lenD hd]
end TK

set_option Elab.async false
set_option linter.all false
set_option maxRecDepth 100000
set_option maxHeartbeats 4000000
namespace TK
open PySem PySem.Spec
open PyProof.Rows hiding St
open L2
/-! # sheets led by the law, sheets of a doing, is_doing of any flags -/
variable {st : Store} {n p N : Nat} {k : Int} {rs : List Rw} {fs : List Bool}
theorem set_mid (st x : Store) (a b o : AO) : (st ++ (a :: x) ++ [o]).set st.length b = st ++ (b :: (x ++ [o])) := by
  rw [List.append_assoc, List.set_append_right _ _ (Nat.le_refl _), Nat.sub_self]
  rfl
theorem ledD_plain (hN : N ≤ 12) (hrs : ∀ r ∈ rs, RwOk N r) (i : Nat) (k : Nat) : plainT (k + 1) (ledD N rs fs i) := ints_plain k _ (by rw [(ledS_row hrs i).1]; omega)
theorem ledL_plain (hN : N ≤ 12) (hrs : ∀ r ∈ rs, RwOk N r) (m : Nat) : ∀ d ∈ ledL N rs fs m, plainT 58 d := fun d hd => by
  obtain ⟨i, _, rfl⟩ := List.mem_map.mp hd
  exact ledD_plain hN hrs i 57
theorem ledL_at {m i : Nat} (h : i < m) : (ledL N rs fs m)[i]? = some (ledD N rs fs i) := by
  unfold ledL
  rw [List.getElem?_map, List.getElem?_range h]; rfl
theorem boolsOf_bls : ∀ l : List Bool, boolsOf (l.map D.bl) = some l
  | [] => rfl
  | _ :: l => by simp [boolsOf, boolsOf_bls l]
theorem allG_bls (l : List Bool) (st : Store) : allG (l.map D.bl) st = .ok (.bl (l.all id)) st := by
  unfold allG
  rw [boolsOf_bls]
/-- whether flags are a doing -/
def doB : List Rw → List Bool → Bool
  | r :: rs, f :: fs => (f || !r.f) && doB rs fs
  | _, _ => true
theorem doB_iff : ∀ {rs : List Rw} {fs : List Bool}, fs.length = rs.length → (doB rs fs = true ↔ doOk rs fs)
  | [], [], _ => by simp [doB, doOk]
  | r :: rs, f :: fs, h => by
    have ih := doB_iff (rs := rs) (fs := fs) (by simpa using h)
    rw [doB, doOk, Bool.and_eq_true, ih]
    cases f <;> cases q : r.f <;> simp
  | [], _ :: _, h => by simp at h
  | _ :: _, [], h => by simp at h
theorem zip_do : ∀ {rs : List Rw} {fs : List Bool}, fs.length = rs.length → ∃ bs : List Bool, bs.all id = doB rs fs ∧ zipD (fs.map D.bl) (rs.map rwD) = (List.range rs.length).map (fun i => .tup [.bl (fs.getD i false), rwD (rs.getD i ⟨0, 0, false⟩)]) ∧ bs = (List.range rs.length).map (fun i => fs.getD i false || !(rs.getD i ⟨0, 0, false⟩).f)
  | [], [], _ => ⟨[], rfl, rfl, rfl⟩
  | r :: rs, f :: fs, h => by
    obtain ⟨bs, h1, h2, h3⟩ := zip_do (rs := rs) (fs := fs) (by simpa using h)
    refine ⟨(f || !r.f) :: bs, by rw [List.all_cons, h1]; rfl, ?_, ?_⟩
    · rw [List.map_cons, List.map_cons, zipD, h2, List.length_cons, List.range_succ_eq_map, List.map_cons, List.map_map]
      rfl
    · rw [h3, List.length_cons, List.range_succ_eq_map, List.map_cons, List.map_map]
      rfl
  | [], _ :: _, h => by simp at h
  | _ :: _, [], h => by simp at h
def doCell (d : D) : D := match d with
  | .tup [.bl f, .tup [_, _, .bl g]] => .bl (f || !g)
  | d => d
theorem is_doing_b (h : st[p]? = some (logO N rs)) (hM : rs.length ≤ 2000) (hl : fs.length = rs.length) : m_is_doing [.ref p, .tup (fs.map D.bl)] st = .ok (.bl (doB rs fs)) st := by
  have zM : rs.length ≤ sizeLine := szl (by omega)
  obtain ⟨bs, h1, h2, h3⟩ := zip_do hl
  simp [m_is_doing_eq, log_at h, lkR, hl, okIf_pos zM]
  generalize hq : compL _ _ _ _ _ _ _ = r
  have := compL_mapE hq (by simp) (fun d => true) (fun d => .bl true) fun d hd' => by
    obtain ⟨f, _, rfl⟩ := List.mem_map.mp hd'
    exact ⟨_, asgT_name _ _ _, rfl, fun _ => by simp [is_flag_ok]⟩
  subst this
  rw [map_true]
  simp [-List.map_map, -List.getD_eq_getElem?_getD, allG_true, h2, okIf_pos zM, log_at h, lkR]
  generalize hq : compL _ _ _ _ _ _ _ = r
  have := compL_mapE hq (by simp) (fun d => true) doCell fun d hd' => by
    obtain ⟨i, _, e⟩ := List.mem_map.mp hd'
    have e : D.tup [.bl (fs.getD i false), rwD (rs.getD i ⟨0, 0, false⟩)] = d := e
    revert e
    generalize fs.getD i false = f
    generalize rs.getD i _ = r
    intro e
    subst e
    refine ⟨_, rfl, rfl, fun _ => ?_⟩
    cases f with
    | true => simp [rwD, doCell]
    | false => simp [rw2]; simp [doCell, rwD]
  subst this
  rw [map_true, List.map_map]
  have e : (List.range rs.length).map (doCell ∘ fun (i : Nat) => D.tup [.bl (fs.getD i false), rwD (rs.getD i ⟨0, 0, false⟩)]) = bs.map D.bl := by
    rw [h3, List.map_map]
    rfl
  rw [e]
  simp [allG_bls, h1]
end TK

set_option Elab.async false
set_option linter.all false
set_option maxRecDepth 100000
set_option maxHeartbeats 4000000
namespace TK
open PySem PySem.Spec
open PyProof.Rows hiding St
open L2
/-! # plain data equal to itself; logs however long -/
variable {st : Store} {n p N : Nat} {rs : List Rw}
theorem plain_py : ∀ (k : Nat) (d : D), plainT k d → ∃ p, (∀ f, toPw f d = some p) ∧ p.canLay0 = true ∧ p.depth ≤ k ∧ PyData.eqv p p = true := by
  intro k
  induction k with
  | zero =>
    intro d h
    cases d with
    | bl b => exact ⟨.bool b, fun _ => rfl, rfl, Nat.le_refl _, by cases b <;> rfl⟩
    | int i => exact ⟨.int i, fun _ => rfl, rfl, Nat.le_refl _, by simp [PyData.eqv]⟩
    | _ => exact h.elim
  | succ k ih =>
    intro d h
    cases d with
    | bl b => exact ⟨.bool b, fun _ => rfl, rfl, Nat.zero_le _, by cases b <;> rfl⟩
    | int i => exact ⟨.int i, fun _ => rfl, rfl, Nat.zero_le _, by simp [PyData.eqv]⟩
    | tup ds =>
      replace h : ∀ d ∈ ds, plainT k d := h.2
      have key : ∃ ps, (∀ f, toPws f ds = some ps) ∧ PyData.canLayAll0 ps = true ∧ PyData.depthAll ps ≤ k ∧ PyData.eqvAll ps ps = true := by
        induction ds with
        | nil => exact ⟨[], fun _ => rfl, rfl, Nat.zero_le _, rfl⟩
        | cons d ds ihd =>
          obtain ⟨p, h1, h2, h3, h4⟩ := ih d (h d (by simp))
          obtain ⟨ps, g1, g2, g3, g4⟩ := ihd fun d hd => h d (List.mem_cons_of_mem _ hd)
          refine ⟨p :: ps, fun f => by simp [toPws, h1, g1], ?_, ?_, ?_⟩
          · show (p.canLay0 && PyData.canLayAll0 ps) = true
            rw [h2, g2]; rfl
          · show max p.depth (PyData.depthAll ps) ≤ k
            omega
          · show (PyData.eqv p p && PyData.eqvAll ps ps) = true
            rw [h4, g4]; rfl
      obtain ⟨ps, g1, g2, g3, g4⟩ := key
      refine ⟨.tuple ps, fun f => by simp [toPw, g1], g2, ?_, g4⟩
      show PyData.depthAll ps + 1 ≤ k + 1
      omega
    | _ => exact h.elim
theorem eqP_refl {d : D} {k : Nat} (h : plainT k d) (hk : k ≤ 60) : eqP d d st = some true := by
  obtain ⟨p, h1, h2, h3, h4⟩ := plain_py k d h
  unfold eqP
  rw [show toP st 50 d = some p from h1 _]
  have hs : SeqAt.shaped p = true := by
    unfold SeqAt.shaped
    rw [h2]
    have : p.depth ≤ 64 := by omega
    simp [this]
  simp only [hs, and_self, if_true]
  rw [h4]
theorem eqD_refl {d : D} {k : Nat} (h : plainT k d) (hk : k ≤ 60) : eqD d d st = .ok (.bl true) st := by
  unfold eqD
  rw [eqP_refl h hk]
theorem neD_refl {d : D} {k : Nat} (h : plainT k d) (hk : k ≤ 60) : neD d d st = .ok (.bl false) st := by
  unfold neD
  rw [eqP_refl h hk]
  rfl
theorem gcR_newO {o : AO} (x : Store) (h : closedO st.length o = true) (k : Nat) (hk : (st ++ x)[k]? = some o) (hk2 : st.length ≤ k) : gcH st (.ok (.ref k) (st ++ x)) = .ok (.ref st.length) (st ++ [o]) := by
  have hc : closed st.length (.ref k) = false := by simp [closed]; omega
  unfold gcH
  rw [hid_eq]
  unfold gcR
  simp [trim_app, hc, hk, h]
theorem rw_closed (j : Nat) : ∀ rs : List Rw, closeds j (rs.map rwD) = true
  | [] => rfl
  | r :: rs => by simp [closeds, closed, rwD, rw_closed j rs]
theorem log_closed (j : Nat) : closedO j (logO N rs) = true := by
  simp [logO, closedO, closedF, closed, rw_closed]
theorem flat_rep (k : Nat) : ∀ rs : List Rw, (List.replicate k (rs.map rwD)).flatten = (List.replicate k rs).flatten.map rwD := fun rs => by
  induction k with
  | zero => rfl
  | succ k ih => rw [List.replicate_succ, List.replicate_succ, List.flatten_cons, List.flatten_cons, List.map_append, ih]
end TK

set_option Elab.async false
set_option linter.all false
set_option maxRecDepth 100000
set_option maxHeartbeats 4000000
namespace TK
open PySem PySem.Spec
open PyProof.Rows hiding St
open L2
/-! # the hand that draws; great logs -/
variable {st : Store} {n p N : Nat} {k : Int} {rs : List Rw}
theorem hand_ok (ns : List Int) (hn : ns.length ≤ 1000) : ∃ st', gcH [.rol (ns.map D.int)] (m__law_hand [.ref 0] [.rol (ns.map D.int)]) = .ok (.ref 2) st' ∧ Dice 2 0 st' := by
  obtain ⟨cells, hcl⟩ : ∃ cells : List Int, cells = (cutD (ns.map D.int) none (some 63)).map fun d => absI (intOf d) := ⟨_, rfl⟩
  have hpos : ∀ x ∈ cells, 0 ≤ x := fun x hx => by
    rw [hcl] at hx
    obtain ⟨d, _, rfl⟩ := List.mem_map.mp hx
    unfold absI
    split <;> omega
  have hcn : cells.length ≤ 1000 := by rw [hcl, List.length_map]; exact Nat.le_trans (cutD_lenZ _ _ _) (by simp; omega)
  have hz : (cutD (ns.map D.int) none (some 63)).length ≤ sizeLine := szl (Nat.le_trans (cutD_lenZ _ _ _) (by simp; omega))
  have hz5 : 5 ≤ sizeLine := szl (by omega)
  have e : m__law_hand [.ref 0] [.rol (ns.map D.int)] = .ok (.ref 2) [.rol (ns.map D.int), .lst (cells.map D.int), .lst [.ref 1, .int 0, .int 0, .int (1 + cells.length), .int 0]] := by
    simp [m__law_hand_eq, okIf_pos hz]
    generalize hq : compL _ _ _ _ _ _ _ = r
    have := compL_mapE hq (by simp) (fun _ => true) (fun d => .int (absI (intOf d))) fun d hd => by
      obtain ⟨i, _, rfl⟩ := List.mem_map.mp (cutD_mem hd)
      by_cases hi : i < 0 <;> simp [absI, intOf, hi]
    subst this
    rw [map_true]
    have ec : ((cutD (ns.map D.int) none (some 63)).map fun d => D.int (absI (intOf d))) = cells.map D.int := by rw [hcl, List.map_map]; rfl
    rw [ec]
    simp [okIf_pos hz5]
  refine ⟨[.rol (ns.map D.int), .lst (cells.map D.int), .lst [.ref 1, .int 0, .int 0, .int (1 + cells.length), .int 0]], ?_, ?_⟩
  · rw [e]
    unfold gcH
    rw [hid_eq]
    unfold gcR
    have ht : Trim [AO.rol (ns.map D.int)] [.rol (ns.map D.int), .lst (cells.map D.int), .lst [.ref 1, .int 0, .int 0, .int (1 + cells.length), .int 0]] := trim_app _ [_, _]
    simp only [ht, if_true]
    simp [closed, closedO, closeds]
  · exact ⟨1, cells, 0, 0, 1 + cells.length, 0, rfl, by simp, by omega, rfl, hpos, by omega, by omega, by omega, by omega, by omega, by omega⟩
end TK

set_option Elab.async false
set_option linter.all false
set_option maxRecDepth 100000
set_option maxHeartbeats 4000000
namespace TK
open PySem PySem.Spec
open PyProof.Rows hiding St
open L2
/-! # dict comprehensions read as lists of keys; sums; ascending lists -/
open Classical in
@[simp] theorem dcF_ap (vs : List Nat) (fi : IF) (t : Tgt) (c : BF) (kf vf : EF) (e_ : AEnv) (st_ : Store) :
    dcF vs fi t c kf vf e_ st_ = (fi e_ st_).bind fun g st1 => okIf (gOK g st1 ∧ g.1.length ≤ sizeLine) (noX (dcL t c kf vf g g.1 [] (wipeE e_ vs) st1)) := by
  unfold dcF
  simp only [ite_okIf]
@[simp] theorem lKeys_ap (f : KF) (env : AEnv) (st : Store) : lKeys f env st = ((f env st).bind fun kvs st1 => .ok (kvs.map (·.1)) st1) := (Eq.refl _).trans rfl
variable {st : Store} {env : AEnv}
theorem sumG_ints (l : List Int) (st : Store) : sumG (l.map D.int) st = .ok (.int l.sum) st := by
  unfold sumG
  rw [intsOf_ints]
/-- numbers told once, in the order of their first coming -/
def dedI : List Int → List Int → List Int
  | ks, [] => ks
  | ks, x :: xs => dedI (if x ∈ ks then ks else ks ++ [x]) xs
theorem dedI_mem {y : Int} : ∀ {xs ks : List Int}, y ∈ dedI ks xs ↔ y ∈ ks ∨ y ∈ xs
  | [], ks => by simp [dedI]
  | x :: xs, ks => by
    rw [dedI, dedI_mem]
    by_cases h : x ∈ ks
    · rw [if_pos h]
      constructor
      · rintro (z | z)
        · exact .inl z
        · exact .inr (by simp [z])
      · rintro (z | z)
        · exact .inl z
        · rcases List.mem_cons.mp z with rfl | z
          · exact .inl h
          · exact .inr z
    · rw [if_neg h, List.mem_append, List.mem_singleton, List.mem_cons, or_assoc]
theorem dedI_nodup : ∀ {xs ks : List Int}, ks.Nodup → (dedI ks xs).Nodup
  | [], ks, h => h
  | x :: xs, ks, h => by
    rw [dedI]
    refine dedI_nodup ?_
    by_cases c : x ∈ ks
    · rw [if_pos c]; exact h
    · rw [if_neg c, List.nodup_append]
      refine ⟨h, by simp, fun a ha b hb => ?_⟩
      rw [List.mem_singleton] at hb
      subst hb
      intro e
      exact c (e ▸ ha)
theorem hasK_int {x : Int} : ∀ {acc : List (D × D)} {ks : List Int}, acc.map (·.1) = ks.map D.int → hasK (.inl x) acc = decide (x ∈ ks)
  | [], [], _ => by simp [hasK]
  | (a, v) :: acc, k :: ks, h => by
    rw [List.map_cons, List.map_cons, List.cons.injEq] at h
    obtain ⟨h1, h2⟩ := h
    have ih := hasK_int (x := x) h2
    unfold hasK at ih ⊢
    rw [List.any_cons, ih]
    obtain rfl : a = .int k := h1
    have e : keyS (D.int k) = some (.inl k) := rfl
    simp only [e]
    by_cases c : k = x
    · subst c; simp
    · have c' : ¬ x = k := fun z => c z.symm
      have c2 : ¬ (some (Sum.inl k : Key) = some (Sum.inl x : Key)) := by intro z; cases z; exact c rfl
      simp [c, c', c2]
  | [], _ :: _, h => by cases h
  | _ :: _, [], h => by cases h
theorem putD_keys {x : Int} {v : D} {acc : List (D × D)} {ks : List Int} (h : acc.map (·.1) = ks.map D.int) : (putD acc (.int x) (.inl x) v).map (·.1) = (if x ∈ ks then ks else ks ++ [x]).map D.int := by
  unfold putD
  rw [hasK_int h]
  by_cases c : x ∈ ks
  · rw [if_pos (by simp [c]), if_pos c, List.map_map, ← h]
    refine List.map_congr_left fun kv _ => ?_
    show (if keyS kv.1 = some (.inl x) then (kv.1, v) else kv).1 = kv.1
    split <;> rfl
  · rw [if_neg (by simp [c]), if_neg c, List.map_append, List.map_append, h]
    rfl
/-- a dict comprehension with whole numbers for keys, the store as it was -/
theorem dcL_keys {t : Tgt} {c : BF} {kf vf : EF} {g : Its} (hg : gOK g st) (key : D → Int) : ∀ {ds : List D}, (∀ d ∈ ds, ∃ env1, asgT t d env = some env1 ∧ c env1 st = .ok true st ∧ kf env1 st = .ok (.int (key d)) st ∧ ∃ v, vf env1 st = .ok v st) →
    ∀ {acc : List (D × D)} {ks : List Int}, acc.map (·.1) = ks.map D.int → ∃ kvs, dcL t c kf vf g ds acc env st = .ok kvs st ∧ kvs.map (·.1) = (dedI ks (ds.map key)).map D.int
  | [], _, acc, ks, h => ⟨acc, rfl, h⟩
  | d :: ds, hs, acc, ks, h => by
    obtain ⟨env1, h1, h2, h3, v, h4⟩ := hs d (by simp)
    have ek : keyS (D.int (key d)) = some (.inl (key d)) := rfl
    obtain ⟨kvs, e1, e2⟩ := dcL_keys hg key (fun d' hd => hs d' (List.mem_cons_of_mem _ hd)) (putD_keys (x := key d) (v := v) h)
    refine ⟨kvs, ?_, by rw [e2]; rfl⟩
    unfold dcL
    simp only [h1, h2, R.bind_ok, if_true, h3, h4, ek, hg]
    exact e1
theorem keys_ints {fi : IF} {t : Tgt} {c : BF} {kf vf : EF} {vs : List Nat} {ds : List D} {ref : List (Nat × List D)} (key : D → Int) (hi : fi env st = .ok (ds, ref) st) (hg : gOK (ds, ref) st) (hl : ds.length ≤ sizeLine)
    (hs : ∀ d ∈ ds, ∃ env1, asgT t d (wipeE env vs) = some env1 ∧ c env1 st = .ok true st ∧ kf env1 st = .ok (.int (key d)) st ∧ ∃ v, vf env1 st = .ok v st) :
    lKeys (dcF vs fi t c kf vf) env st = .ok ((dedI [] (ds.map key)).map D.int) st := by
  obtain ⟨kvs, e1, e2⟩ := dcL_keys (g := (ds, ref)) hg key hs (acc := []) (ks := []) rfl
  have e1' : noX (dcL t c kf vf (ds, ref) ds [] (wipeE env vs) st) = .ok kvs st := by rw [e1]; rfl
  simp only [lKeys_ap, dcF_ap, hi, R.bind_ok, okIf_pos (And.intro hg hl), e1', e2]
theorem insI_lt {x : Int} : ∀ {l : List Int}, l.Pairwise (· < ·) → x ∉ l → (insI x l).Pairwise (· < ·)
  | [], _, _ => by simp [insI]
  | y :: ys, h, hx => by
    rw [List.pairwise_cons] at h
    have hxy : x ≠ y := fun e => hx (by simp [e])
    have hxs : x ∉ ys := fun e => hx (by simp [e])
    unfold insI
    split
    · rename_i hle
      rw [List.pairwise_cons, List.pairwise_cons]
      refine ⟨fun z hz => ?_, h⟩
      rcases List.mem_cons.mp hz with rfl | hz
      · omega
      · have := h.1 z hz; omega
    · rename_i hle
      rw [List.pairwise_cons]
      refine ⟨fun z hz => ?_, insI_lt h.2 hxs⟩
      rcases insI_mem.mp hz with rfl | hz
      · omega
      · exact h.1 z hz
theorem sortI_lt : ∀ {l : List Int}, l.Nodup → (sortI l).Pairwise (· < ·)
  | [], _ => by simp [sortI]
  | y :: ys, h => by
    rw [List.nodup_cons] at h
    rw [sortI]
    exact insI_lt (sortI_lt h.2) fun z => h.1 (sortI_mem.mp z)
theorem strict_eq : ∀ {a b : List Int}, a.Pairwise (· < ·) → b.Pairwise (· < ·) → (∀ x, x ∈ a ↔ x ∈ b) → a = b
  | [], [], _, _, _ => rfl
  | [], y :: ys, _, _, h => absurd ((h y).mpr (by simp)) (by simp)
  | x :: xs, [], _, _, h => absurd ((h x).mp (by simp)) (by simp)
  | x :: xs, y :: ys, ha, hb, h => by
    rw [List.pairwise_cons] at ha hb
    have e : x = y := by
      rcases List.mem_cons.mp ((h x).mp (by simp)) with e | e
      · exact e
      · rcases List.mem_cons.mp ((h y).mpr (by simp)) with e' | e'
        · exact e'.symm
        · have := hb.1 x e
          have := ha.1 y e'
          omega
    subst e
    rw [strict_eq ha.2 hb.2 fun z => ?_]
    constructor
    · intro hz
      rcases List.mem_cons.mp ((h z).mp (by simp [hz])) with e | e
      · subst e; exact absurd (ha.1 z hz) (by omega)
      · exact e
    · intro hz
      rcases List.mem_cons.mp ((h z).mpr (by simp [hz])) with e | e
      · subst e; exact absurd (hb.1 z hz) (by omega)
      · exact e
/-- the numbers of a list, ascending, each once: those below n that are in it -/
theorem sort_ded {xs : List Int} {n : Nat} (h : ∀ x ∈ xs, 0 ≤ x ∧ x < n) : sortI (dedI [] xs) = ((List.range n).filter fun (i : Nat) => decide ((i : Int) ∈ xs)).map fun (i : Nat) => (i : Int) := by
  refine strict_eq (sortI_lt (dedI_nodup (by simp))) ?_ fun x => ?_
  · rw [List.pairwise_map]
    exact (List.pairwise_lt_range.filter _).imp fun z => by omega
  · rw [sortI_mem, dedI_mem]
    simp only [List.not_mem_nil, false_or, List.mem_map, List.mem_filter, List.mem_range, decide_eq_true_eq]
    constructor
    · intro hx
      have := h x hx
      refine ⟨x.toNat, ⟨by omega, ?_⟩, by omega⟩
      rw [show ((x.toNat : Nat) : Int) = x by omega]
      exact hx
    · rintro ⟨i, ⟨_, hi⟩, rfl⟩
      exact hi
end TK

set_option Elab.async false
set_option linter.all false
set_option maxRecDepth 100000
set_option maxHeartbeats 4000000
namespace TK
open PySem PySem.Spec
open PyProof.Rows hiding St
open L2
variable {st : Store} {n p q N : Nat} {rs : List Rw} {fs : List Bool}
/-! ## the plain law: a border moved by a row -/
theorem below_unique {ys : List Int} {b : Int} {c : Nat} (hp : ys.Pairwise (· ≤ ·)) (hc : c ≤ ys.length) (h : ∀ i (x : Int), ys[i]? = some x → (x < b ↔ i < c)) : below ys b = c := by
  have hl := below_le ys b
  rcases Nat.lt_trichotomy (below ys b) c with g | g | g
  · have e := List.getElem?_eq_getElem (show below ys b < ys.length by omega)
    have h1 := h _ _ e
    have h2 := below_lt hp (b := b) e
    have := h2.mp (h1.mpr g)
    omega
  · exact g
  · have e := List.getElem?_eq_getElem (show c < ys.length by omega)
    have h1 := h _ _ e
    have h2 := below_lt hp (b := b) e
    have := h1.mp (h2.mpr g)
    omega
/-- where a border goes by a done row -/
def movN (c : Nat) (r : Rw) : Nat := if r.y = r.x + 1 ∧ c = r.x + 1 then r.x else if r.x = r.y + 1 ∧ c = r.x then r.x + 1 else c
theorem below_cp {xs : List Int} {r : Rw} (h : RowS N xs) (hr : RwOk N r) (b : Int) : below (cpL xs r) b = movN (below xs b) r := by
  have hs := cpL_ok h hr
  obtain ⟨hl, hx⟩ := h
  obtain ⟨h1, h2, h3⟩ := hr
  obtain ⟨hp, _⟩ := ris_all hx
  obtain ⟨hp', _⟩ := ris_all hs.2
  have hle := below_le xs b
  refine below_unique hp' ?_ fun i x hi => ?_
  · rw [hs.1]
    unfold movN
    split
    · omega
    · split <;> omega
  · have hil : i < N := by
      have := (List.getElem?_eq_some_iff.mp hi).1
      rw [hs.1] at this
      exact this
    unfold cpL at hi
    rw [List.getElem?_set] at hi
    by_cases e : r.x = i
    · rw [if_pos e, if_pos (by omega)] at hi
      have ey : xs[r.y]? = some x := by
        rw [List.getD_eq_getElem?_getD] at hi
        rw [List.getElem?_eq_getElem (by omega)] at hi ⊢
        simpa using hi
      rw [below_lt hp (b := b) ey]
      unfold movN
      split
      · omega
      · split <;> omega
    · rw [if_neg e] at hi
      rw [below_lt hp (b := b) hi]
      unfold movN
      split
      · omega
      · split <;> omega
/-! ## cuts -/
theorem inner_ok {xs : List Int} {b : Int} (hl : xs.length ≤ 1000) :
    eQ lenG (compF [2] (iSeqF (eVar 0)) (Tgt.name 2) (bB (e2 ltD (eVar 2) (eVar 1))) (eVar 2)) [some (.tup (xs.map D.int)), some (.int b), none] st = .ok (.int (below xs b)) st := by
  have hz : xs.length ≤ sizeLine := szl (by omega)
  simp [hz]
  generalize hr : compL _ _ _ _ _ _ _ = r
  have := compL_mapE hr (by simp) (fun d => ltI d (.int b)) id fun d hd => by
    obtain ⟨i, _, rfl⟩ := List.mem_map.mp hd
    simp [ltI]
  subst this
  simp [below, filter_ints (fun x => decide (x < b)) (fun d => ltI d (.int b)) (fun _ => rfl)]
def pathI (N : Nat) (rs : List Rw) (fs : List Bool) (b : Nat) (i : Nat) : Int := below (ledS N rs fs i) b
def pathL (N : Nat) (rs : List Rw) (fs : List Bool) (b m : Nat) : List Int := (List.range m).map (pathI N rs fs b)
def cutAt (b : Nat) (d : D) : D := match d with
  | .tup ds => .int (below (ds.map intOf) b)
  | d => d
theorem cutAt_led (b i : Nat) : cutAt b (ledD N rs fs i) = .int (pathI N rs fs b i) := by
  have e : ∀ xs : List Int, (xs.map D.int).map intOf = xs := fun xs => by
    rw [List.map_map]
    conv => rhs; rw [← List.map_id xs]
    exact List.map_congr_left fun _ _ => rfl
  show D.int (below (((ledS N rs fs i).map D.int).map intOf) b) = _
  rw [e]
  rfl
theorem cutAt_map (b m : Nat) : (ledL N rs fs m).map (cutAt b) = (pathL N rs fs b m).map D.int := by
  unfold ledL pathL
  rw [List.map_map, List.map_map]
  exact List.map_congr_left fun i _ => cutAt_led b i
theorem cut_get (hrs : ∀ r ∈ rs, RwOk N r) {b : Nat} (hb : b ≤ N) (i : Nat) : getD (.tup ((cutsOf (ledS N rs fs i)).map D.int)) (.int b) st = .ok (cutAt b (ledD N rs fs i)) st := by
  have hl := (ledS_row (fs := fs) hrs i).1
  rw [getD_i (k := b) rfl (by unfold cutsOf; simp [hl]; omega), cutsOf_get (by omega), cutAt_led]
  rfl
/-! ## borders moved -/
def movI (c : Int) (r : Rw) (f : Bool) : Int := if f = true ∧ (r.y : Int) = r.x + 1 ∧ c = r.x + 1 then r.x else if f = true ∧ (r.y : Int) = r.x - 1 ∧ c = r.x then r.x + 1 else c
theorem path_moved (hrs : ∀ r ∈ rs, RwOk N r) {b i : Nat} {r : Rw} {f : Bool} (hr : rs[i]? = some r) (hf : fs[i]? = some f) : pathI N rs fs b (i + 1) = movI (pathI N rs fs b i) r f := by
  unfold pathI
  rw [ledS_suc hr hf]
  cases f with
  | false => simp [movI]
  | true =>
    rw [if_pos rfl, below_cp (ledS_row hrs i) (hrs r (List.mem_of_getElem? hr))]
    obtain ⟨h1, h2, h3⟩ := hrs r (List.mem_of_getElem? hr)
    generalize below (ledS N rs fs i) (b : Int) = c
    unfold movN movI
    simp only [true_and]
    repeat' split
    all_goals omega
/-! ## stretches -/
/-- the first and the last place of a number in sheets -/
def strD (xs : List Int) (e : Nat) : D := if below xs (e : Int) = below xs ((e + 1 : Nat) : Int) then .non else .tup [.int (below xs (e : Int)), .int ((below xs ((e + 1 : Nat) : Int) : Int) - 1)]
theorem rangeD_app (a : Int) (m : Nat) : rangeD a (m + 1) = rangeD a m ++ [.int (a + m)] := by
  unfold rangeD
  rw [List.range_succ, List.map_append]
  rfl
theorem rangeD_cons (a : Int) (m : Nat) : rangeD a (m + 1) = .int a :: rangeD (a + 1) m := by
  unfold rangeD
  rw [List.range_succ_eq_map, List.map_cons, List.map_map]
  congr 1
  · simp
  · refine List.map_congr_left fun i _ => ?_
    simp
    omega
theorem filter_between (N a c : Nat) (hc : c ≤ N) : ((List.range N).filter fun i => decide (a ≤ i ∧ i < c)).map (fun (i : Nat) => D.int (i : Int)) = rangeD (a : Int) (c - a) := by
  induction N with
  | zero => simp [rangeD, show c - a = 0 by omega]
  | succ N ih =>
    rw [List.range_succ, List.filter_append, List.map_append]
    by_cases e : c = N + 1
    · subst e
      by_cases ha : a ≤ N
      · rw [show N + 1 - a = (N - a) + 1 by omega, rangeD_app]
        congr 1
        · have e2 : (List.range N).filter (fun i => decide (a ≤ i ∧ i < N + 1)) = (List.range N).filter (fun i => decide (a ≤ i ∧ i < N)) := List.filter_congr fun i hi => by
            have := List.mem_range.mp hi
            have e3 : (a ≤ i ∧ i < N + 1) ↔ (a ≤ i ∧ i < N) := by omega
            simp only [e3]
          rw [e2]
          have ih2 : ∀ M, ((List.range M).filter fun i => decide (a ≤ i ∧ i < M)).map (fun (i : Nat) => D.int (i : Int)) = rangeD (a : Int) (M - a) := by
            intro M
            induction M with
            | zero => simp [rangeD]
            | succ M ihM =>
              rw [List.range_succ, List.filter_append, List.map_append]
              have e2 : (List.range M).filter (fun i => decide (a ≤ i ∧ i < M + 1)) = (List.range M).filter (fun i => decide (a ≤ i ∧ i < M)) := List.filter_congr fun i hi => by
                have := List.mem_range.mp hi
                have e3 : (a ≤ i ∧ i < M + 1) ↔ (a ≤ i ∧ i < M) := by omega
                simp only [e3]
              rw [e2, ihM]
              by_cases hM : a ≤ M
              · rw [show M + 1 - a = (M - a) + 1 by omega, rangeD_app]
                congr 1
                simp [hM]
                omega
              · rw [show M + 1 - a = M - a by omega]
                simp [hM]
          exact ih2 N
        · simp [ha]
          omega
      · have e0 : (List.range N).filter (fun i => decide (a ≤ i ∧ i < N + 1)) = [] := by
          rw [List.filter_eq_nil_iff]
          intro i hi
          have := List.mem_range.mp hi
          simp
          omega
        rw [e0, show N + 1 - a = 0 by omega]
        simp [ha, rangeD]
    · rw [ih (by omega)]
      have : ¬ (N < c) := by omega
      simp [this]
theorem strP {xs : List Int} (hx : RowS N xs) (e : Nat) : ((List.range N).filter fun i => decide (xs.getD i 0 = (e : Int))).map (fun (i : Nat) => D.int (i : Int)) = rangeD (below xs (e : Int)) (below xs ((e + 1 : Nat) : Int) - below xs (e : Int)) := by
  obtain ⟨hp, _⟩ := ris_all hx.2
  have hl := hx.1
  rw [← filter_between N _ _ (by have := below_le xs ((e + 1 : Nat) : Int); omega)]
  congr 1
  refine List.filter_congr fun i hi => ?_
  have hi := List.mem_range.mp hi
  have g : xs[i]? = some (xs.getD i 0) := by
    rw [List.getD_eq_getElem?_getD, List.getElem?_eq_getElem (by omega)]
    rfl
  have := cut_own hp (e := e) g
  have e2 : (xs.getD i 0 = (e : Int)) ↔ (below xs (e : Int) ≤ i ∧ i < below xs ((e + 1 : Nat) : Int)) := by
    rw [this]
    omega
  simp only [e2]
theorem str_tail {xs : List Int} {e : Nat} {env : AEnv} {j : Nat} {s : Store} (hj : env[j]? = some (some (.ref s.length))) (hb : below xs ((e + 1 : Nat) : Int) ≤ 1000) :
    eIf (bB (e2 eqD (eQ lenG (lRd (eVar j))) (eC (.int 0)))) (eC .non) (eTup (lCons (e2 getD (eVar j) (eC (.int 0))) (lCons (e2 getD (eVar j) (e1 negD (eC (.int 1)))) lNil))) env (s ++ [.lst (rangeD (below xs (e : Int)) (below xs ((e + 1 : Nat) : Int) - below xs (e : Int)))]) = .ok (strD xs e) (s ++ [.lst (rangeD (below xs (e : Int)) (below xs ((e + 1 : Nat) : Int) - below xs (e : Int)))]) := by
  have hm := below_mono xs (b := (e : Int)) (c := ((e + 1 : Nat) : Int)) (by omega)
  have z2 : 2 ≤ sizeLine := szl (by omega)
  unfold strD
  revert hm hb
  generalize below xs (e : Int) = a
  generalize below xs ((e + 1 : Nat) : Int) = c
  intro hb hm
  by_cases h : a = c
  · subst h
    simp [hj]
  · obtain ⟨m, rfl⟩ : ∃ m, c = a + m + 1 := ⟨c - a - 1, by omega⟩
    rw [show a + m + 1 - a = m + 1 by omega]
    have g0 : getD (.ref s.length) (.int 0) (s ++ [.lst (rangeD (a : Int) (m + 1))]) = .ok (.int a) (s ++ [.lst (rangeD (a : Int) (m + 1))]) := by
      rw [rangeD_cons]
      exact getD_r (xs := .int a :: rangeD (a + 1) m) (k := 0) (by simp) rfl rfl
    have g1 : getD (.ref s.length) (.int (-1)) (s ++ [.lst (rangeD (a : Int) (m + 1))]) = .ok (.int (a + m)) (s ++ [.lst (rangeD (a : Int) (m + 1))]) := by
      rw [getD_ref, seqOf_ref]
      simp [rangeD_app, atI_last]
    have e0 : ¬ ((m : Int) + 1 = 0) := by omega
    simp [hj, g0, g1, e0, okIf_pos z2, h]
theorem str_closed (xs : List Int) (e j : Nat) : closed j (strD xs e) = true := by
  unfold strD
  split <;> simp [closed, closeds]
theorem RowS.get {xs : List Int} (hx : RowS N xs) {i : Nat} (hi : i < N) : xs[i]? = some (xs.getD i 0) := by
  have hl := hx.1
  rw [List.getD_eq_getElem?_getD, List.getElem?_eq_getElem (by omega)]
  rfl
/-! ## all stretches -/
def has (xs : List Int) (e : Nat) : Bool := decide (below xs (e : Int) ≠ below xs ((e + 1 : Nat) : Int))
theorem has_mem {xs : List Int} (hx : RowS N xs) (e : Nat) : has xs e = decide ((e : Int) ∈ xs) := by
  obtain ⟨hp, _⟩ := ris_all hx.2
  have hl := hx.1
  have hm := below_mono xs (b := (e : Int)) (c := ((e + 1 : Nat) : Int)) (by omega)
  have hb := below_le xs ((e + 1 : Nat) : Int)
  unfold has
  congr 1
  apply propext
  constructor
  · intro h
    have hlt : below xs (e : Int) < xs.length := by omega
    have g := List.getElem?_eq_getElem hlt
    have := (cut_own hp (e := e) g).mpr (by omega)
    rw [← this]
    exact List.getElem_mem _
  · intro h
    obtain ⟨i, hi⟩ := List.getElem?_of_mem h
    have := (cut_own hp (e := e) hi).mp rfl
    omega
def tripD (xs : List Int) (e : Nat) : D := .tup [.int e, .int (below xs (e : Int)), .int ((below xs ((e + 1 : Nat) : Int) : Int) - 1)]
def tripL (xs : List Int) (n : Nat) : List D := ((List.range n).filter (has xs)).map (tripD xs)
theorem tripL_suc (xs : List Int) (n : Nat) : tripL xs (n + 1) = if has xs n = true then tripL xs n ++ [tripD xs n] else tripL xs n := by
  unfold tripL
  rw [List.range_succ, List.filter_append, List.map_append]
  by_cases h : has xs n = true
  · simp [h]
  · simp [h]
theorem tripL_len (xs : List Int) (n : Nat) : (tripL xs n).length ≤ n := by
  unfold tripL
  rw [List.length_map]
  exact Nat.le_trans (List.length_filter_le _ _) (by simp)
theorem tripL_closed (xs : List Int) (n j : Nat) : closeds j (tripL xs n) = true := by
  unfold tripL
  generalize (List.range n).filter (has xs) = l
  induction l with
  | nil => rfl
  | cons e l ih => simp [closeds, closed, tripD, ih]
theorem tripL_plain (xs : List Int) (n : Nat) : ∀ d ∈ tripL xs n, plainT 58 d := fun d hd => by
  obtain ⟨i, _, rfl⟩ := List.mem_map.mp hd
  refine ⟨by simp, fun d hd => ?_⟩
  simp at hd
  rcases hd with rfl | rfl | rfl <;> trivial
theorem str_has {xs : List Int} {e : Nat} (h : has xs e = true) : strD xs e = .tup [.int (below xs (e : Int)), .int ((below xs ((e + 1 : Nat) : Int) : Int) - 1)] := by
  unfold strD
  rw [if_neg (by simpa [has] using h)]
theorem str_hasnt {xs : List Int} {e : Nat} (h : has xs e = false) : strD xs e = .non := by
  unfold strD
  rw [if_pos (by simpa [has] using h)]
def lenT (d : D) : Int := match d with
  | .tup [_, .int a, .int b] => b - a + 1
  | _ => 0
theorem tripL_sum {xs : List Int} (hx : RowS N xs) (n : Nat) : ((tripL xs n).map lenT).sum = below xs (n : Int) := by
  obtain ⟨hp, hb⟩ := ris_all hx.2
  induction n with
  | zero =>
    rw [below_zero]
    · rfl
    · intro x hx; exact (hb x hx).1
  | succ n ih =>
    rw [tripL_suc]
    have hm := below_mono xs (b := (n : Int)) (c := ((n + 1 : Nat) : Int)) (by omega)
    cases h : has xs n with
    | true =>
      rw [if_pos rfl, List.map_append, List.sum_append, ih]
      simp [tripD, lenT]
      omega
    | false =>
      have : below xs (n : Int) = below xs ((n + 1 : Nat) : Int) := by simpa [has] using h
      rw [if_neg (by simp), ih, this]
end TK

set_option Elab.async false
set_option linter.all false
set_option maxRecDepth 100000
set_option maxHeartbeats 4000000
namespace TK
open PySem PySem.Spec
open PyProof.Rows hiding St
open L2
variable {st : Store} {n p N : Nat} {k : Int} {rs : List Rw} {fs : List Bool}
def flD (fs : List Bool) : D := .tup (fs.map D.bl)
theorem flD_closed (j : Nat) : ∀ L : List (List Bool), closeds j (L.map flD) = true
  | [] => rfl
  | f :: L => by simp [closeds, closed, flD, bl_closed, flD_closed j L]
/-! ### all doings -/
def addL (r : Rw) (fs : List Bool) : List (List Bool) := if r.f then [fs ++ [true]] else [fs ++ [false], fs ++ [true]]
def stepL (L : List (List Bool)) (r : Rw) : List (List Bool) := L.flatMap (addL r)
theorem dos_mem {g : List Bool} : ∀ (rs : List Rw) (L : List (List Bool)), g ∈ rs.foldl stepL L ↔ ∃ a b, g = a ++ b ∧ a ∈ L ∧ doOk rs b
  | [], L => by
    constructor
    · intro h; exact ⟨g, [], by simp, h, trivial⟩
    · rintro ⟨a, b, rfl, h, hb⟩
      cases b with
      | nil => simpa using h
      | cons _ _ => exact hb.elim
  | r :: rs, L => by
    rw [List.foldl_cons, dos_mem rs]
    constructor
    · rintro ⟨a, b, rfl, h, hb⟩
      obtain ⟨c, hc, ha⟩ := List.mem_flatMap.mp h
      unfold addL at ha
      split at ha
      · rename_i hf
        obtain rfl : a = c ++ [true] := by simpa using ha
        exact ⟨c, true :: b, by simp, hc, fun _ => rfl, hb⟩
      · rename_i hf
        have ha : a = c ++ [false] ∨ a = c ++ [true] := by simpa using ha
        rcases ha with rfl | rfl
        · exact ⟨c, false :: b, by simp, hc, fun z => absurd z hf, hb⟩
        · exact ⟨c, true :: b, by simp, hc, fun _ => rfl, hb⟩
    · rintro ⟨a, b, rfl, h, hb⟩
      cases b with
      | nil => exact hb.elim
      | cons f b =>
        refine ⟨a ++ [f], b, by simp, List.mem_flatMap.mpr ⟨a, h, ?_⟩, hb.2⟩
        unfold addL
        cases f with
        | true => split <;> simp
        | false =>
          rw [if_neg (fun z => absurd (hb.1 z) (by simp))]
          simp
theorem step_len (L : List (List Bool)) (r : Rw) : (stepL L r).length ≤ 2 * L.length := by
  unfold stepL
  induction L with
  | nil => simp
  | cons a L ih =>
    rw [List.flatMap_cons, List.length_append, List.length_cons]
    have : (addL r a).length ≤ 2 := by unfold addL; split <;> simp
    omega
theorem dos_len : ∀ (rs : List Rw) (L : List (List Bool)), (rs.foldl stepL L).length ≤ 2 ^ rs.length * L.length
  | [], L => by simp
  | r :: rs, L => by
    have h1 := dos_len rs (stepL L r)
    have h2 := Nat.mul_le_mul_left (2 ^ rs.length) (step_len L r)
    rw [List.foldl_cons, List.length_cons, Nat.pow_succ]
    calc _ ≤ _ := h1
      _ ≤ _ := h2
      _ = _ := by rw [Nat.mul_assoc]
theorem take_suc {α : Type} {l : List α} {i : Nat} {a : α} (h : l[i]? = some a) : l.take (i + 1) = l.take i ++ [a] := by rw [List.take_add_one, h]; rfl
theorem pow_small {a b : Nat} (h : a ≤ b) (hb : b ≤ 10) : 2 ^ a ≤ 1024 := Nat.le_trans (Nat.pow_le_pow_right (by omega) (Nat.le_trans h hb)) (by decide)
/-! ### all flags -/
end TK

set_option Elab.async false
set_option linter.all false
set_option maxRecDepth 100000
set_option maxHeartbeats 4000000
namespace TK
open PySem PySem.Spec
open PyProof.Rows hiding St
open L2
/-! # finds: the least cuts of all borders, or a bound that is denied (no program here) -/
/-- a find: moment, office, edition -/
structure Fd where
  m : Nat
  o : Nat
  e : Nat
def FdOk (N M : Nat) (f : Fd) : Prop := f.m ≤ M ∧ f.o < N ∧ f.e < N
def onS (r : Rw) (k : Int) : Int := if r.x < r.y then (if k = r.y then k - 1 else k) else if k = r.x ∧ r.f = true then k + 1 else k
def backS (r : Rw) (k : Int) : Int := if r.x < r.y then (if k = r.y ∧ r.f = true then k + 1 else k) else if k - 1 = r.x then k - 1 else k
theorem onS_mono (r : Rw) {k l : Int} (h : k ≤ l) : onS r k ≤ onS r l := by
  obtain ⟨x, y, f⟩ := r
  unfold onS
  by_cases a : x < y
  · simp only [if_pos a]
    split <;> split <;> omega
  · simp only [if_neg a]
    cases f
    · simpa using h
    · simp only [and_true]
      split <;> split <;> omega
theorem backS_mono (r : Rw) {k l : Int} (h : k ≤ l) : backS r k ≤ backS r l := by
  obtain ⟨x, y, f⟩ := r
  unfold backS
  by_cases a : x < y
  · simp only [if_pos a]
    cases f
    · simpa using h
    · simp only [and_true]
      split <;> split <;> omega
  · simp only [if_neg a]
    split <;> split <;> omega
theorem FdOk.o1 {N M : Nat} {f : Fd} (h : FdOk N M f) : f.o < N := by obtain ⟨_, h, _⟩ := h; exact h
theorem FdOk.m1 {N M : Nat} {f : Fd} (h : FdOk N M f) : f.m ≤ M := by obtain ⟨h, _, _⟩ := h; exact h
def alive (F : List Fd) (b m : Nat) : Prop := ∃ f ∈ F, f.e = b ∧ m ≤ f.m
theorem alive_le {F : List Fd} {b m m' : Nat} (h : alive F b m) (hm : m' ≤ m) : alive F b m' := by
  obtain ⟨f, h1, h2, h3⟩ := h
  exact ⟨f, h1, h2, by omega⟩
structure Sol (N : Nat) (rs : List Rw) (F : List Fd) (c : Nat → Nat → Int) : Prop where
  beg : ∀ b, b ≤ N → (b : Int) ≤ c 0 b
  fnd : ∀ f ∈ F, (f.o : Int) + 1 ≤ c f.m (f.e + 1)
  up : ∀ m, m ≤ rs.length → ∀ b, b < N → c m b ≤ c m (b + 1)
  liv : ∀ m, m ≤ rs.length → ∀ b, b < N → alive F b m → c m b + 1 ≤ c m (b + 1)
  on : ∀ m r, rs[m]? = some r → ∀ b, b ≤ N → onS r (c m b) ≤ c (m + 1) b
  back : ∀ m r, rs[m]? = some r → ∀ b, b ≤ N → backS r (c (m + 1) b) ≤ c m b
inductive Der (N : Nat) (rs : List Rw) (F : List Fd) : Nat → Nat → Int → Prop where
  | beg {b : Nat} : b ≤ N → Der N rs F 0 b b
  | fnd {f : Fd} : f ∈ F → Der N rs F f.m (f.e + 1) (f.o + 1)
  | up {m b : Nat} {k : Int} : Der N rs F m b k → b < N → Der N rs F m (b + 1) k
  | liv {m b : Nat} {k : Int} : Der N rs F m b k → b < N → alive F b m → Der N rs F m (b + 1) (k + 1)
  | on {m b : Nat} {k : Int} {r : Rw} : Der N rs F m b k → rs[m]? = some r → Der N rs F (m + 1) b (onS r k)
  | back {m b : Nat} {k : Int} {r : Rw} : Der N rs F (m + 1) b k → rs[m]? = some r → Der N rs F m b (backS r k)
def Denied (F : List Fd) (m b : Nat) (k : Int) : Prop := (m = 0 ∧ (b : Int) < k) ∨ ∃ f ∈ F, f.m = m ∧ f.e = b ∧ (f.o : Int) < k
section
variable {N : Nat} {rs : List Rw} {F : List Fd} {c : Nat → Nat → Int} {m b : Nat} {k : Int}
theorem Der.at (hF : ∀ f ∈ F, FdOk N rs.length f) (h : Der N rs F m b k) : m ≤ rs.length ∧ b ≤ N := by
  induction h with
  | beg h => exact ⟨Nat.zero_le _, h⟩
  | fnd h => obtain ⟨h1, h2, h3⟩ := hF _ h; exact ⟨h1, h3⟩
  | up _ h ih => exact ⟨ih.1, h⟩
  | liv _ h _ ih => exact ⟨ih.1, h⟩
  | on _ h ih => exact ⟨(List.getElem?_eq_some_iff.mp h).1, ih.2⟩
  | back _ h ih => exact ⟨Nat.le_of_lt (List.getElem?_eq_some_iff.mp h).1, ih.2⟩
theorem Der.le (hF : ∀ f ∈ F, FdOk N rs.length f) (S : Sol N rs F c) (h : Der N rs F m b k) : k ≤ c m b := by
  induction h with
  | beg h => exact S.beg _ h
  | fnd h => exact S.fnd _ h
  | up d h ih => exact Int.le_trans ih (S.up _ (d.at hF).1 _ h)
  | liv d h a ih => have := S.liv _ (d.at hF).1 _ h a; omega
  | on d h ih => exact Int.le_trans (onS_mono _ ih) (S.on _ _ h _ (d.at hF).2)
  | back d h ih => exact Int.le_trans (backS_mono _ ih) (S.back _ _ h _ (d.at hF).2)
/-- how great a bound can be -/
theorem Der.size (hF : ∀ f ∈ F, FdOk N rs.length f) (hrs : ∀ r ∈ rs, RwOk N r) (h : Der N rs F m b k) : -1 < k ∧ k ≤ N + b := by
  induction h with
  | beg h => omega
  | fnd h => obtain ⟨h1, h2, h3⟩ := hF _ h; omega
  | up _ h ih => omega
  | liv _ h _ ih => omega
  | @on m b k r d h ih =>
    obtain ⟨h1, h2, h3⟩ := hrs _ (List.mem_of_getElem? h)
    unfold onS
    by_cases q : r.f = true
    · simp only [q, eq_self, and_true]
      repeat' split
      all_goals omega
    · simp only [q, and_false, if_false]
      repeat' split
      all_goals omega
  | @back m b k r d h ih =>
    obtain ⟨h1, h2, h3⟩ := hrs _ (List.mem_of_getElem? h)
    unfold backS
    by_cases q : r.f = true
    · simp only [q, eq_self, and_true]
      repeat' split
      all_goals omega
    · simp only [q, and_false, if_false]
      repeat' split
      all_goals omega
/-- what the cuts of a doing with true finds are -/
def Good (N : Nat) (rs : List Rw) (F : List Fd) (fs : List Bool) : Prop := doOk rs fs ∧ ∀ f ∈ F, (ledS N rs fs f.m).getD f.o 0 = (f.e : Int)
theorem path_zero {fs : List Bool} (hb : b ≤ N) : pathI N rs fs b 0 = b := by
  have hr := (begun_row N)
  have h := below_unique (ys := (List.range N).map fun (i : Nat) => (i : Int)) (b := (b : Int)) (c := b) (ris_all hr.2).1 (by rw [hr.1]; exact hb) fun i x hi => by
    rw [List.getElem?_map] at hi
    have hl : i < N := by
      by_cases q : i < N
      · exact q
      · rw [List.getElem?_eq_none (by simp; omega)] at hi; cases hi
    rw [List.getElem?_range hl] at hi
    have hi : x = (i : Int) := by simpa using hi.symm
    subst hi
    omega
  unfold pathI ledS
  rw [h]
theorem held {fs : List Bool} (hrs : ∀ r ∈ rs, RwOk N r) {o e : Nat} (ho : o < N) : (ledS N rs fs m).getD o 0 = (e : Int) ↔ pathI N rs fs e m ≤ o ∧ (o : Int) + 1 ≤ pathI N rs fs (e + 1) m := by
  have hr := ledS_row (N := N) (fs := fs) hrs m
  have hl : o < (ledS N rs fs m).length := by rw [hr.1]; exact ho
  have g : (ledS N rs fs m)[o]? = some ((ledS N rs fs m).getD o 0) := by
    rw [List.getD_eq_getElem?_getD, List.getElem?_eq_getElem hl]; rfl
  have := cut_own (ris_all hr.2).1 (e := e) g
  unfold pathI
  rw [this]
  constructor
  · intro ⟨h1, h2⟩; exact ⟨h1, by omega⟩
  · intro ⟨h1, h2⟩; exact ⟨h1, by omega⟩
theorem path_up {fs : List Bool} : pathI N rs fs b m ≤ pathI N rs fs (b + 1) m := by
  unfold pathI
  have := below_mono (ledS N rs fs m) (b := (b : Int)) (c := ((b + 1 : Nat) : Int)) (by omega)
  omega
/-- an edition that is there later was there all the time -/
theorem path_gap {fs : List Bool} (hrs : ∀ r ∈ rs, RwOk N r) (hl : fs.length = rs.length) : ∀ j, m + j ≤ rs.length → pathI N rs fs b (m + j) < pathI N rs fs (b + 1) (m + j) → pathI N rs fs b m < pathI N rs fs (b + 1) m
  | 0, _, h => h
  | j + 1, hj, h => by
    have hi : m + j < rs.length := by omega
    have hr : rs[m + j]? = some rs[m + j] := List.getElem?_eq_getElem hi
    have hf : fs[m + j]? = some (fs[m + j]'(by omega)) := List.getElem?_eq_getElem (by omega)
    refine path_gap hrs hl j (by omega) ?_
    rw [show m + (j + 1) = (m + j) + 1 from by omega, path_moved hrs hr hf, path_moved hrs hr hf] at h
    have up := path_up (N := N) (rs := rs) (fs := fs) (b := b) (m := m + j)
    generalize pathI N rs fs b (m + j) = x at *
    generalize pathI N rs fs (b + 1) (m + j) = y at *
    by_cases q : x = y
    · subst q; omega
    · omega
theorem good_sol {fs : List Bool} (hrs : ∀ r ∈ rs, RwOk N r) (hF : ∀ f ∈ F, FdOk N rs.length f) (h : Good N rs F fs) : Sol N rs F (fun m b => pathI N rs fs b m) := by
  obtain ⟨hd, ht⟩ := h
  have hl := doOk_len hd
  have tr : ∀ f ∈ F, pathI N rs fs f.e f.m ≤ f.o ∧ (f.o : Int) + 1 ≤ pathI N rs fs (f.e + 1) f.m := fun f hf => (held hrs (hF f hf).o1).mp (ht f hf)
  have sure : ∀ (m : Nat) (r : Rw), rs[m]? = some r → ∃ f : Bool, fs[m]? = some f ∧ (r.f = true → f = true) := by
    clear ht hF tr
    intro m r hr
    induction rs generalizing fs m with
    | nil => simp at hr
    | cons a rs ih =>
      cases fs with
      | nil => exact hd.elim
      | cons f fs =>
        cases m with
        | zero => simp at hr; subst hr; exact ⟨f, rfl, hd.1⟩
        | succ m => exact ih (fun r hr => hrs r (List.mem_cons_of_mem _ hr)) hd.2 (by simpa using hl) m (by simpa using hr)
  refine ⟨fun b hb => by show (b : Int) ≤ pathI N rs fs b 0; rw [path_zero hb]; omega, fun f hf => (tr f hf).2, fun m _ b _ => path_up, fun m hm b hb ⟨f, hf, he, hfm⟩ => ?_, fun m r hr b hb => ?_, fun m r hr b hb => ?_⟩
  · have := tr f hf
    subst he
    have gap := path_gap (m := m) (b := f.e) hrs hl (f.m - m) (by have := (hF f hf).m1; omega) (by rw [show m + (f.m - m) = f.m from by omega]; omega)
    show pathI N rs fs f.e m + 1 ≤ pathI N rs fs (f.e + 1) m
    omega
  · obtain ⟨f, hf, hs⟩ := sure m r hr
    obtain ⟨h1, h2, h3⟩ := hrs r (List.mem_of_getElem? hr)
    show onS r (pathI N rs fs b m) ≤ pathI N rs fs b (m + 1)
    rw [path_moved hrs hr hf]
    generalize pathI N rs fs b m = x
    unfold onS movI
    by_cases q : r.f = true
    · have := hs q
      subst this
      simp only [q, true_and, and_true]
      repeat' split
      all_goals omega
    · have q' : r.f = false := by simpa using q
      simp only [q', Bool.false_eq_true, and_false, if_false]
      repeat' split
      all_goals omega
  · obtain ⟨f, hf, hs⟩ := sure m r hr
    obtain ⟨h1, h2, h3⟩ := hrs r (List.mem_of_getElem? hr)
    show backS r (pathI N rs fs b (m + 1)) ≤ pathI N rs fs b m
    rw [path_moved hrs hr hf]
    generalize pathI N rs fs b m = x
    unfold backS movI
    by_cases q : r.f = true
    · have := hs q
      subst this
      simp only [q, true_and, and_true]
      repeat' split
      all_goals omega
    · have q' : r.f = false := by simpa using q
      simp only [q', Bool.false_eq_true, and_false, if_false]
      repeat' split
      all_goals omega
/-- no doing where a bound is denied -/
theorem denied_none {fs : List Bool} (hrs : ∀ r ∈ rs, RwOk N r) (hF : ∀ f ∈ F, FdOk N rs.length f) (d : Der N rs F m b k) (hn : Denied F m b k) : ¬ Good N rs F fs := fun h => by
  have S := good_sol hrs hF h
  have hle := d.le hF S
  have hb := (d.at hF).2
  rcases hn with ⟨rfl, hk⟩ | ⟨f, hf, rfl, rfl, hk⟩
  · have hle : k ≤ pathI N rs fs b 0 := hle
    rw [path_zero hb] at hle
    omega
  · have := (held (m := f.m) hrs (hF f hf).o1).mp (h.2 f hf)
    have hle : k ≤ pathI N rs fs f.e f.m := hle
    omega
end
end TK

set_option Elab.async false
set_option linter.all false
set_option maxRecDepth 100000
set_option maxHeartbeats 4000000
namespace TK
open PySem PySem.Spec
open PyProof.Rows hiding St
open L2
/-! # the least cuts are those of a doing -/
structure Least (N : Nat) (rs : List Rw) (F : List Fd) (C : Nat → Nat → Int) : Prop where
  sol : Sol N rs F C
  der : ∀ m, m ≤ rs.length → ∀ b, b ≤ N → Der N rs F m b (C m b)
  un : ∀ m, m ≤ rs.length → ∀ b, b ≤ N → ¬ Denied F m b (C m b)
section
variable {N : Nat} {rs : List Rw} {F : List Fd} {C : Nat → Nat → Int} {m b : Nat} {r : Rw}
theorem eq_one (hF : ∀ f ∈ F, FdOk N rs.length f) (L : Least N rs F C) (hr : rs[m]? = some r) (hb : b < N) (e : C m b = C m (b + 1)) : C (m + 1) (b + 1) = C (m + 1) b := by
  obtain ⟨S, D, _⟩ := L
  have hm : m < rs.length := (List.getElem?_eq_some_iff.mp hr).1
  have na : ¬ alive F b m := fun a => by have := S.liv m (by omega) b hb a; omega
  have S' : Sol N rs F (fun m' b' => if m < m' ∧ b' = b + 1 then C m' b else C m' b') := by
    refine ⟨fun b' h => ?_, fun f hf => ?_, fun m' h' b' hb' => ?_, fun m' h' b' hb' ha => ?_, fun m' r' hr' b' hb' => ?_, fun m' r' hr' b' hb' => ?_⟩
    · simp only [Nat.not_lt_zero, false_and, if_false]; exact S.beg b' h
    · have := S.fnd f hf
      by_cases q : m < f.m ∧ f.e + 1 = b + 1
      · exact absurd ⟨f, hf, by omega, by omega⟩ na
      · rw [if_neg q]; exact this
    · have u1 := S.up m' h' b' hb'
      by_cases q : m < m' ∧ b' = b + 1
      · obtain ⟨q1, rfl⟩ := q
        have u0 := S.up m' h' b hb
        rw [if_pos ⟨q1, rfl⟩, if_neg (by omega)]
        omega
      · rw [if_neg q]
        by_cases q2 : m < m' ∧ b' + 1 = b + 1
        · obtain ⟨q1, q3⟩ := q2
          have : b' = b := by omega
          subst this
          rw [if_pos ⟨q1, rfl⟩]
          exact Int.le_refl _
        · rw [if_neg q2]; exact u1
    · have u1 := S.liv m' h' b' hb' ha
      by_cases q : m < m' ∧ b' = b + 1
      · obtain ⟨q1, rfl⟩ := q
        have u0 := S.up m' h' b hb
        rw [if_pos ⟨q1, rfl⟩, if_neg (by omega)]
        omega
      · rw [if_neg q]
        by_cases q2 : m < m' ∧ b' + 1 = b + 1
        · obtain ⟨q1, q3⟩ := q2
          have : b' = b := by omega
          subst this
          exact absurd (alive_le ha (by omega)) na
        · rw [if_neg q2]; exact u1
    · have u1 := S.on m' r' hr' b' hb'
      by_cases q : b' = b + 1
      · subst q
        have u0 := S.on m' r' hr' b (by omega)
        by_cases q1 : m < m'
        · rw [if_pos ⟨q1, rfl⟩, if_pos ⟨by omega, rfl⟩]; exact u0
        · by_cases q2 : m = m'
          · subst q2
            rw [if_neg (by omega), if_pos ⟨by omega, rfl⟩, ← e]; exact u0
          · rw [if_neg (by omega), if_neg (by omega)]; exact u1
      · rw [if_neg (by omega), if_neg (by omega)]; exact u1
    · have u1 := S.back m' r' hr' b' hb'
      by_cases q : b' = b + 1
      · subst q
        have u0 := S.back m' r' hr' b (by omega)
        by_cases q1 : m < m'
        · rw [if_pos ⟨by omega, rfl⟩, if_pos ⟨q1, rfl⟩]; exact u0
        · by_cases q2 : m = m'
          · subst q2
            rw [if_pos ⟨by omega, rfl⟩, if_neg (by omega), ← e]; exact u0
          · rw [if_neg (by omega), if_neg (by omega)]; exact u1
      · rw [if_neg (by omega), if_neg (by omega)]; exact u1
  have h1 := (D (m + 1) (by omega) (b + 1) (by omega)).le hF S'
  simp only [Nat.lt_succ_self, true_and, if_true] at h1
  have h2 := S.up (m + 1) (by omega) b hb
  have h1 : C (m + 1) (b + 1) ≤ C (m + 1) b := by simpa using h1
  omega
theorem mono_j (S : Sol N rs F C) (hm : m ≤ rs.length) : ∀ j, b + j ≤ N → C m b ≤ C m (b + j)
  | 0, _ => Int.le_refl _
  | j + 1, h => Int.le_trans (mono_j S hm j (by omega)) (S.up m hm (b + j) (by omega))
theorem eq_many (hF : ∀ f ∈ F, FdOk N rs.length f) (L : Least N rs F C) (hr : rs[m]? = some r) : ∀ j, b + j ≤ N → C m b = C m (b + j) → C (m + 1) (b + j) = C (m + 1) b
  | 0, _, _ => rfl
  | j + 1, h, e => by
    have hm : m < rs.length := (List.getElem?_eq_some_iff.mp hr).1
    have h1 := mono_j L.sol (b := b) (m := m) (by omega) j (by omega)
    have h2 := L.sol.up m (by omega) (b + j) (by omega)
    have e1 : C m b = C m (b + j) := by
      have : C m (b + (j + 1)) = C m (b + j + 1) := rfl
      omega
    have e2 := eq_many hF L hr j (by omega) e1
    have e3 := eq_one hF L hr (b := b + j) (by omega) (by rw [← e1, e]; rfl)
    show C (m + 1) (b + j + 1) = _
    rw [e3, e2]
theorem eq_any (hF : ∀ f ∈ F, FdOk N rs.length f) (L : Least N rs F C) (hr : rs[m]? = some r) {b' : Nat} (h1 : b ≤ N) (h2 : b' ≤ N) (e : C m b = C m b') : C (m + 1) b = C (m + 1) b' := by
  rcases Nat.le_total b b' with q | q
  · have := eq_many hF L hr (b := b) (b' - b) (by omega) (by rw [show b + (b' - b) = b' from by omega]; exact e)
    rw [show b + (b' - b) = b' from by omega] at this
    exact this.symm
  · have := eq_many hF L hr (b := b') (b - b') (by omega) (by rw [show b' + (b - b') = b from by omega]; exact e.symm)
    rw [show b' + (b - b') = b from by omega] at this
    exact this
def rowC (N : Nat) (C : Nat → Nat → Int) (m : Nat) : List Int := (List.range (N + 1)).map (C m)
def flagC (N : Nat) (C : Nat → Nat → Int) (r : Rw) (m : Nat) : Bool := r.f || decide (rowC N C m ≠ rowC N C (m + 1))
theorem rowC_ne (h : rowC N C m ≠ rowC N C (m + 1)) : ∃ b, b ≤ N ∧ C m b ≠ C (m + 1) b := by
  by_cases q : ∃ b, b ≤ N ∧ C m b ≠ C (m + 1) b
  · exact q
  · refine absurd (List.map_congr_left fun b hb => ?_) h
    have := List.mem_range.mp hb
    by_cases z : C m b = C (m + 1) b
    · exact z
    · exact absurd ⟨b, by omega, z⟩ q
theorem rowC_eq (h : rowC N C m = rowC N C (m + 1)) (hb : b ≤ N) : C m b = C (m + 1) b := by
  have h0 : (rowC N C m)[b]? = (rowC N C (m + 1))[b]? := by rw [h]
  unfold rowC at h0
  rw [List.getElem?_map, List.getElem?_map, List.getElem?_range (by omega)] at h0
  simpa using h0
theorem step_mov (hF : ∀ f ∈ F, FdOk N rs.length f) (L : Least N rs F C) (hr : rs[m]? = some r) (ho : RwOk N r) (hb : b ≤ N) : movI (C m b) r (flagC N C r m) = C (m + 1) b := by
  obtain ⟨h1, h2, h3⟩ := ho
  have on := fun b hb => L.sol.on m r hr b hb
  have back := fun b hb => L.sol.back m r hr b hb
  have any := fun b' (h : b' ≤ N) (e : C m b = C m b') => eq_any hF L hr hb h e
  have key : ∀ b, b ≤ N → (r.x < r.y → (C m b ≠ r.y → C (m + 1) b = C m b) ∧ (C m b = r.y → (C (m + 1) b = r.y ∨ C (m + 1) b = r.y - 1) ∧ (r.f = true → C (m + 1) b = r.y - 1))) ∧
      (¬ r.x < r.y → (C m b ≠ r.x → C (m + 1) b = C m b) ∧ (C m b = r.x → (C (m + 1) b = r.x ∨ C (m + 1) b = r.x + 1) ∧ (r.f = true → C (m + 1) b = r.x + 1))) := fun b hb => by
    have o := on b hb
    have k := back b hb
    generalize C m b = u at *
    generalize C (m + 1) b = v at *
    obtain ⟨x, y, f⟩ := r
    unfold onS at o
    unfold backS at k
    simp only at o k h1 h2 h3 ⊢
    by_cases a : x < y
    · simp only [if_pos a] at o k
      refine ⟨fun _ => ?_, fun n => absurd a n⟩
      cases f
      · simp only [Bool.false_eq_true, and_false, if_false] at k
        refine ⟨fun z => ?_, fun z => ⟨?_, fun n => by cases n⟩⟩
        · rw [if_neg z] at o; omega
        · rw [if_pos z] at o; omega
      · simp only [and_true] at k
        refine ⟨fun z => ?_, fun z => ?_⟩
        · rw [if_neg z] at o; split at k <;> omega
        · rw [if_pos z] at o
          have : v = (y : Int) - 1 := by split at k <;> omega
          exact ⟨.inr this, fun _ => this⟩
    · simp only [if_neg a] at o k
      refine ⟨fun n => absurd n a, fun _ => ?_⟩
      cases f
      · simp only [Bool.false_eq_true, and_false, if_false] at o
        refine ⟨fun z => ?_, fun z => ⟨?_, fun n => by cases n⟩⟩
        · split at k <;> omega
        · split at k <;> omega
      · simp only [and_true] at o
        refine ⟨fun z => ?_, fun z => ?_⟩
        · rw [if_neg z] at o; split at k <;> omega
        · rw [if_pos z] at o
          have : v = (x : Int) + 1 := by split at k <;> omega
          exact ⟨.inr this, fun _ => this⟩
  have kb := key b hb
  by_cases fl : flagC N C r m = true
  · rw [fl]
    have diff : r.f = true ∨ ∃ b0, b0 ≤ N ∧ C m b0 ≠ C (m + 1) b0 := by
      unfold flagC at fl
      simp only [Bool.or_eq_true, decide_eq_true_eq] at fl
      exact fl.imp id rowC_ne
    unfold movI
    simp only [true_and]
    by_cases a : r.x < r.y
    · have hy : (r.y : Int) = r.x + 1 := by omega
      obtain ⟨k1, k2⟩ := kb.1 a
      by_cases z : C m b = r.y
      · rw [if_pos ⟨hy, by omega⟩]
        obtain ⟨k3, k4⟩ := k2 z
        rcases diff with d | ⟨b0, hb0, d⟩
        · have := k4 d; omega
        · obtain ⟨j1, j2⟩ := (key b0 hb0).1 a
          by_cases z0 : C m b0 = r.y
          · have := any b0 hb0 (by omega)
            have := (j2 z0).1
            omega
          · exact absurd (j1 z0).symm d
      · rw [if_neg (by omega), if_neg (by omega)]
        exact (k1 z).symm
    · have hy : (r.y : Int) = r.x - 1 := by omega
      obtain ⟨k1, k2⟩ := kb.2 a
      rw [if_neg (by omega)]
      by_cases z : C m b = r.x
      · rw [if_pos ⟨hy, z⟩]
        obtain ⟨k3, k4⟩ := k2 z
        rcases diff with d | ⟨b0, hb0, d⟩
        · have := k4 d; omega
        · obtain ⟨j1, j2⟩ := (key b0 hb0).2 a
          by_cases z0 : C m b0 = r.x
          · have := any b0 hb0 (by omega)
            have := (j2 z0).1
            omega
          · exact absurd (j1 z0).symm d
      · rw [if_neg (by omega)]
        exact (k1 z).symm
  · have fl' : flagC N C r m = false := by simpa using fl
    rw [fl']
    have : rowC N C m = rowC N C (m + 1) := by
      unfold flagC at fl'
      simpa using (Bool.or_eq_false_iff.mp fl').2
    have e := rowC_eq this hb
    unfold movI
    simp [e]
/-- the doing of the least cuts -/
def doC (N : Nat) (rs : List Rw) (C : Nat → Nat → Int) : List Bool := (List.range rs.length).map fun m => flagC N C (rs.getD m ⟨0, 0, false⟩) m
theorem doC_get (hr : rs[m]? = some r) : (doC N rs C)[m]? = some (flagC N C r m) := by
  have hm : m < rs.length := (List.getElem?_eq_some_iff.mp hr).1
  unfold doC
  rw [List.getElem?_map, List.getElem?_range hm]
  show some (flagC N C (rs.getD m ⟨0, 0, false⟩) m) = _
  rw [List.getD_eq_getElem?_getD, hr]
  rfl
theorem doOk_of : ∀ {rs : List Rw} {fs : List Bool}, fs.length = rs.length → (∀ (m : Nat) (r : Rw) (f : Bool), rs[m]? = some r → fs[m]? = some f → r.f = true → f = true) → doOk rs fs
  | [], [], _, _ => trivial
  | r :: rs, f :: fs, hl, h => ⟨fun q => h 0 r f rfl rfl q, doOk_of (by simpa using hl) fun m r' f' h1 h2 => h (m + 1) r' f' (by simpa using h1) (by simpa using h2)⟩
theorem doC_ok : doOk rs (doC N rs C) := doOk_of (by simp [doC]) fun m r f h1 h2 q => by
  rw [doC_get h1] at h2
  cases h2
  simp [flagC, q]
theorem path_C (hrs : ∀ r ∈ rs, RwOk N r) (hF : ∀ f ∈ F, FdOk N rs.length f) (L : Least N rs F C) (hb : b ≤ N) : ∀ m, m ≤ rs.length → pathI N rs (doC N rs C) b m = C m b
  | 0, _ => by
    rw [path_zero hb]
    have h1 := L.sol.beg b hb
    have h2 := L.un 0 (Nat.zero_le _) b hb
    have : ¬ (b : Int) < C 0 b := fun q => h2 (.inl ⟨rfl, q⟩)
    omega
  | m + 1, hm => by
    have hr : rs[m]? = some rs[m] := List.getElem?_eq_getElem (by omega)
    rw [path_moved hrs hr (doC_get hr), path_C hrs hF L hb m (by omega)]
    exact step_mov hF L hr (hrs _ (List.getElem_mem _)) hb
theorem doC_good (hrs : ∀ r ∈ rs, RwOk N r) (hF : ∀ f ∈ F, FdOk N rs.length f) (L : Least N rs F C) : Good N rs F (doC N rs C) := by
  refine ⟨doC_ok, fun f hf => ?_⟩
  obtain ⟨h1, h2, h3⟩ := hF f hf
  rw [held hrs h2, path_C hrs hF L (by omega) _ h1, path_C hrs hF L (by omega) _ h1]
  have u := L.un f.m h1 f.e (by omega)
  have : ¬ (f.o : Int) < C f.m f.e := fun q => u (.inr ⟨f, hf, rfl, rfl, q⟩)
  exact ⟨by omega, L.sol.fnd f hf⟩
theorem good_le (hrs : ∀ r ∈ rs, RwOk N r) (hF : ∀ f ∈ F, FdOk N rs.length f) (L : Least N rs F C) {fs : List Bool} (h : Good N rs F fs) (hm : m ≤ rs.length) (hb : b ≤ N) : C m b ≤ pathI N rs fs b m :=
  (L.der m hm b hb).le (c := fun m b => pathI N rs fs b m) hF (good_sol hrs hF h)
end
end TK

set_option Elab.async false
set_option linter.all false
set_option maxRecDepth 100000
set_option maxHeartbeats 4000000
namespace TK
open PySem PySem.Spec
open PyProof.Rows hiding St
open L2
/-! # how the bounds spread (no program here) -/
/-- a bound: moment, border, cut -/
structure Bd where
  m : Nat
  b : Nat
  k : Int
open Classical in
/-- what comes from a bound -/
noncomputable def bdsF (N : Nat) (rs : List Rw) (F : List Fd) (B : Bd) : List Bd :=
  (if B.b < N then (if alive F B.b B.m then [⟨B.m, B.b + 1, B.k + 1⟩] else []) ++ [⟨B.m, B.b + 1, B.k⟩] else []) ++
  ((match rs[B.m]? with | some r => [⟨B.m + 1, B.b, onS r B.k⟩] | none => []) ++
  (match B.m with | 0 => [] | m + 1 => match rs[m]? with | some r => [⟨m, B.b, backS r B.k⟩] | none => []))
def firstB (N : Nat) (F : List Fd) : List Bd := (List.range (N + 1)).map (fun b => ⟨0, b, b⟩) ++ F.map fun f => ⟨f.m, f.e + 1, f.o + 1⟩
def DerB (N : Nat) (rs : List Rw) (F : List Fd) (B : Bd) : Prop := Der N rs F B.m B.b B.k
theorem first_der {N : Nat} {rs : List Rw} {F : List Fd} {B : Bd} (h : B ∈ firstB N F) : DerB N rs F B := by
  unfold firstB at h
  rcases List.mem_append.mp h with h | h
  · obtain ⟨b, hb, rfl⟩ := List.mem_map.mp h
    have hb' := List.mem_range.mp hb
    show Der N rs F 0 b b
    exact .beg (by omega)
  · obtain ⟨f, hf, rfl⟩ := List.mem_map.mp h
    exact .fnd hf
theorem bds_der {N : Nat} {rs : List Rw} {F : List Fd} {B B' : Bd} (d : DerB N rs F B) (h : B' ∈ bdsF N rs F B) : DerB N rs F B' := by
  obtain ⟨m, b, k⟩ := B
  unfold DerB at d
  simp only at d
  unfold bdsF at h
  simp only at h
  rcases List.mem_append.mp h with h | h
  · by_cases hb : b < N
    · rw [if_pos hb] at h
      rcases List.mem_append.mp h with h | h
      · by_cases ha : alive F b m
        · rw [if_pos ha] at h
          rw [List.mem_singleton.mp h]
          exact .liv d hb ha
        · rw [if_neg ha] at h; cases h
      · rw [List.mem_singleton.mp h]
        exact .up d hb
    · rw [if_neg hb] at h; cases h
  · rcases List.mem_append.mp h with h | h
    · split at h
      · rename_i r hr
        rw [List.mem_singleton.mp h]
        exact .on d hr
      · cases h
    · cases m with
      | zero => cases h
      | succ m =>
        simp only at h
        split at h
        · rename_i r hr
          rw [List.mem_singleton.mp h]
          exact .back d hr
        · cases h
def Cl (N : Nat) (rs : List Rw) (F : List Fd) (C : Nat → Nat → Int) (B : Bd) : Prop := ∀ B' ∈ bdsF N rs F B, B'.k ≤ C B'.m B'.b
def leC (C C' : Nat → Nat → Int) : Prop := ∀ m b, C m b ≤ C' m b
structure Spr (N : Nat) (rs : List Rw) (F : List Fd) (C : Nat → Nat → Int) (dn : Option Bd) (P : Bd → Prop) : Prop where
  low : ∀ m, m ≤ rs.length → ∀ b, b ≤ N → C m b = -1 ∨ Der N rs F m b (C m b)
  pend : dn = none → ∀ m, m ≤ rs.length → ∀ b, b ≤ N → C m b ≠ -1 → P ⟨m, b, C m b⟩ ∨ Cl N rs F C ⟨m, b, C m b⟩
  und : dn = none → ∀ m, m ≤ rs.length → ∀ b, b ≤ N → C m b ≠ -1 → ¬ Denied F m b (C m b)
  den : ∀ B, dn = some B → DerB N rs F B ∧ Denied F B.m B.b B.k
def updC (C : Nat → Nat → Int) (m b : Nat) (k : Int) : Nat → Nat → Int := fun m' b' => if m' = m ∧ b' = b then k else C m' b'
section
variable {N : Nat} {rs : List Rw} {F : List Fd} {C : Nat → Nat → Int} {dn : Option Bd} {P P' : Bd → Prop} {B : Bd}
theorem Cl.mono {C' : Nat → Nat → Int} (h : Cl N rs F C B) (l : leC C C') : Cl N rs F C' B := fun B' hB => Int.le_trans (h B' hB) (l _ _)
theorem leC.refl : leC C C := fun _ _ => Int.le_refl _
theorem leC.trans {C' C'' : Nat → Nat → Int} (h : leC C C') (k : leC C' C'') : leC C C'' := fun m b => Int.le_trans (h m b) (k m b)
theorem updC_at (C : Nat → Nat → Int) (m b : Nat) (k : Int) : updC C m b k m b = k := by simp [updC]
theorem updC_le {m b : Nat} {k : Int} (h : C m b < k) : leC C (updC C m b k) := fun m' b' => by
  unfold updC
  split
  · rename_i e; obtain ⟨rfl, rfl⟩ := e; omega
  · exact Int.le_refl _
theorem Spr.sub (h : Spr N rs F C dn P) (hP : ∀ B, P B → P' B) : Spr N rs F C dn P' := ⟨h.low, fun e m hm b hb z => (h.pend e m hm b hb z).imp (hP _) id, h.und, h.den⟩
open Classical in
/-- a bound kept -/
theorem Spr.keep (h : Spr N rs F C none P) (d : DerB N rs F B) (hB : C B.m B.b < B.k) : Spr N rs F (updC C B.m B.b B.k) (if Denied F B.m B.b B.k then some B else none) (fun B' => P B' ∨ B' = B) := by
  have le := updC_le hB
  refine ⟨fun m hm b hb => ?_, fun e m hm b hb z => ?_, fun e m hm b hb z => ?_, fun B' e => ?_⟩
  · by_cases q : m = B.m ∧ b = B.b
    · obtain ⟨rfl, rfl⟩ := q
      rw [updC_at]
      exact .inr d
    · unfold updC
      rw [if_neg q]
      exact h.low m hm b hb
  · by_cases q : m = B.m ∧ b = B.b
    · obtain ⟨rfl, rfl⟩ := q
      rw [updC_at]
      exact .inl (.inr rfl)
    · have e1 : updC C B.m B.b B.k m b = C m b := by unfold updC; rw [if_neg q]
      rw [e1] at z ⊢
      rcases h.pend rfl m hm b hb z with r | r
      · exact .inl (.inl r)
      · exact .inr (r.mono le)
  · have nd : ¬ Denied F B.m B.b B.k := fun n => by rw [if_pos n] at e; cases e
    by_cases q : m = B.m ∧ b = B.b
    · obtain ⟨rfl, rfl⟩ := q
      rw [updC_at]
      exact nd
    · have e1 : updC C B.m B.b B.k m b = C m b := by unfold updC; rw [if_neg q]
      rw [e1] at z ⊢
      exact h.und rfl m hm b hb z
  · by_cases n : Denied F B.m B.b B.k
    · rw [if_pos n] at e
      cases e
      exact ⟨d, n⟩
    · rw [if_neg n] at e; cases e
/-- a bound done with -/
theorem Spr.done (h : Spr N rs F C dn (fun B' => B' = B ∨ P B')) (hc : dn = none → Cl N rs F C B) : Spr N rs F C dn P :=
  ⟨h.low, fun e m hm b hb z => by
    rcases h.pend e m hm b hb z with (r | r) | r
    · rw [r]; exact .inr (hc e)
    · exact .inl r
    · exact .inr r, h.und, h.den⟩
/-- all done: the least cuts -/
theorem Spr.least (hF : ∀ f ∈ F, FdOk N rs.length f) (hrs : ∀ r ∈ rs, RwOk N r) (h : Spr N rs F C none (fun _ => False)) (hf : ∀ B ∈ firstB N F, B.k ≤ C B.m B.b) : Least N rs F C := by
  have beg : ∀ b, b ≤ N → (b : Int) ≤ C 0 b := fun b hb => hf ⟨0, b, b⟩ (List.mem_append_left _ (List.mem_map.mpr ⟨b, List.mem_range.mpr (by omega), rfl⟩))
  have cl : ∀ m, m ≤ rs.length → ∀ b, b ≤ N → C m b ≠ -1 → Cl N rs F C ⟨m, b, C m b⟩ := fun m hm b hb z => (h.pend rfl m hm b hb z).elim False.elim id
  have all : ∀ m, m ≤ rs.length → ∀ b, b ≤ N → C m b ≠ -1 := by
    intro m
    induction m with
    | zero => intro _ b hb; have := beg b hb; omega
    | succ m ih =>
      intro hm b hb
      have hr : rs[m]? = some rs[m] := List.getElem?_eq_getElem (by omega)
      have z := ih (by omega) b hb
      have d := (h.low m (by omega) b hb).resolve_left z
      have c1 := cl m (by omega) b hb z ⟨m + 1, b, onS rs[m] (C m b)⟩ (by unfold bdsF; simp only [hr]; simp)
      have := ((Der.on d hr).size hF hrs).1
      simp only at c1
      omega
  have der : ∀ m, m ≤ rs.length → ∀ b, b ≤ N → Der N rs F m b (C m b) := fun m hm b hb => (h.low m hm b hb).resolve_left (all m hm b hb)
  have cl : ∀ m, m ≤ rs.length → ∀ b, b ≤ N → Cl N rs F C ⟨m, b, C m b⟩ := fun m hm b hb => cl m hm b hb (all m hm b hb)
  refine ⟨⟨beg, fun f hf' => hf ⟨f.m, f.e + 1, f.o + 1⟩ (List.mem_append_right _ (List.mem_map.mpr ⟨f, hf', rfl⟩)), fun m hm b hb => ?_, fun m hm b hb ha => ?_, fun m r hr b hb => ?_, fun m r hr b hb => ?_⟩, der, fun m hm b hb => h.und rfl m hm b hb (all m hm b hb)⟩
  · exact cl m hm b (by omega) ⟨m, b + 1, C m b⟩ (by unfold bdsF; simp [hb])
  · exact cl m hm b (by omega) ⟨m, b + 1, C m b + 1⟩ (by unfold bdsF; simp [hb, ha])
  · exact cl m (by have := (List.getElem?_eq_some_iff.mp hr).1; omega) b hb ⟨m + 1, b, onS r (C m b)⟩ (by unfold bdsF; simp [hr])
  · exact cl (m + 1) (by have := (List.getElem?_eq_some_iff.mp hr).1; omega) b hb ⟨m, b, backS r (C (m + 1) b)⟩ (by unfold bdsF; simp [hr])
end
/-! ## how often a bound can be kept -/
def totC (N M : Nat) (C : Nat → Nat → Int) : Int := ((List.range (M + 1)).map fun m => ((List.range (N + 1)).map (C m)).sum).sum
theorem sum_le {f g : Nat → Int} : ∀ n, (∀ i, i < n → f i ≤ g i) → ((List.range n).map f).sum ≤ ((List.range n).map g).sum
  | 0, _ => by simp
  | n + 1, h => by
    rw [List.range_succ, List.map_append, List.map_append, List.sum_append, List.sum_append]
    have := sum_le n fun i hi => h i (by omega)
    have := h n (by omega)
    simp; omega
theorem sum_lt {f g : Nat → Int} {j : Nat} : ∀ n, (∀ i, i < n → f i ≤ g i) → j < n → f j + 1 ≤ g j → ((List.range n).map f).sum + 1 ≤ ((List.range n).map g).sum
  | 0, _, h, _ => by omega
  | n + 1, h, hj, hs => by
    rw [List.range_succ, List.map_append, List.map_append, List.sum_append, List.sum_append]
    by_cases e : j = n
    · subst e
      have := sum_le j fun i hi => h i (by omega)
      simp; omega
    · have := sum_lt n (fun i hi => h i (by omega)) (by omega) hs
      have := h n (by omega)
      simp; omega
theorem sum_const (c : Int) : ∀ n : Nat, ((List.range n).map fun _ => c).sum = n * c
  | 0 => by simp
  | n + 1 => by
    rw [List.range_succ, List.map_append, List.sum_append, sum_const c n]
    simp
    rw [Int.add_mul]; omega
theorem tot_put {N M : Nat} {C : Nat → Nat → Int} {m b : Nat} {k : Int} (hm : m ≤ M) (hb : b ≤ N) (h : C m b < k) : totC N M C + 1 ≤ totC N M (updC C m b k) := by
  have le := updC_le h
  refine sum_lt (j := m) (M + 1) (fun i _ => sum_le (N + 1) fun j _ => le i j) (by omega) ?_
  exact sum_lt (j := b) (N + 1) (fun j _ => le m j) (by omega) (by rw [updC_at]; omega)
theorem tot_le {N M : Nat} {C : Nat → Nat → Int} {c : Int} (h : ∀ m, m ≤ M → ∀ b, b ≤ N → C m b ≤ c) : totC N M C ≤ (M + 1 : Nat) * ((N + 1 : Nat) * c) := by
  have h1 : totC N M C ≤ ((List.range (M + 1)).map fun _ => ((N + 1 : Nat) : Int) * c).sum := sum_le (M + 1) fun m hm => by
    have := sum_le (f := C m) (g := fun _ => c) (N + 1) fun b hb => h m (by omega) b (by omega)
    rw [sum_const] at this
    exact this
  rw [sum_const] at h1
  exact h1
theorem tot_start (N M : Nat) : totC N M (fun _ _ => -1) = (M + 1 : Nat) * ((N + 1 : Nat) * -1) := by
  unfold totC
  simp only [sum_const]
end TK

set_option Elab.async false
set_option linter.all false
set_option maxRecDepth 100000
set_option maxHeartbeats 4000000
namespace TK
open PySem PySem.Spec
open PyProof.Rows hiding St
open L2
/-! # the program's steps, bounds and finds -/
variable {st : Store} {N : Nat} {rs : List Rw} {F : List Fd}
def fdD (f : Fd) : D := .tup [.int f.m, .int f.o, .int f.e]
theorem fd0 (f : Fd) : getD (fdD f) (.int 0) st = .ok (.int f.m) st := getD_at (k := 0) rfl
theorem fd1 (f : Fd) : getD (fdD f) (.int 1) st = .ok (.int f.o) st := getD_at (k := 1) rfl
theorem fd2 (f : Fd) : getD (fdD f) (.int 2) st = .ok (.int f.e) st := getD_at (k := 2) rfl
theorem fds_closed (n : Nat) : ∀ fs : List Fd, closeds n (fs.map fdD) = true
  | [] => rfl
  | f :: fs => by simp [closeds, closed, fdD, fds_closed n fs]
theorem fds_plain {fs : List Fd} (h : fs.length ≤ 1000) (k : Nat) : plainT (k + 2) (.tup (fs.map fdD)) := ⟨by simpa using h, fun d hd => by
  obtain ⟨f, _, rfl⟩ := List.mem_map.mp hd
  refine ⟨by simp, fun x hx => ?_⟩
  simp only [List.mem_cons, List.not_mem_nil, or_false] at hx
  rcases hx with rfl | rfl | rfl <;> cases k <;> trivial⟩
def bdD (B : Bd) : D := .tup [.int B.m, .int B.b, .int B.k]
theorem bds_closed (n : Nat) : ∀ fs : List Bd, closeds n (fs.map bdD) = true
  | [] => rfl
  | f :: fs => by simp [closeds, closed, bdD, bds_closed n fs]
def lfR (r : Rw) : Bool := decide (r.x < r.y)
def quR (r : Rw) : Nat := if r.x < r.y then r.y else r.x
def stpD (r : Rw) : D := .tup [sdD (lfR r), .int (quR r), .bl r.f]
theorem sp0 (r : Rw) : getD (stpD r) (.int 0) st = .ok (sdD (lfR r)) st := getD_at (k := 0) rfl
theorem sp1 (r : Rw) : getD (stpD r) (.int 1) st = .ok (.int (quR r)) st := getD_at (k := 1) rfl
theorem sp2 (r : Rw) : getD (stpD r) (.int 2) st = .ok (.bl r.f) st := getD_at (k := 2) rfl
theorem eqD_rgt (l : Bool) : eqD (sdD l) (.str "right") st = .ok (.bl (!l)) st := by
  have := eqD_sd (st := st) l false
  cases l <;> exact this
theorem left_ok (r : Rw) : m_is_left [rwD r] st = .ok (.bl (lfR r)) st := by
  have : decide ((r.x : Int) < r.y) = lfR r := by unfold lfR; simp
  simp [m_is_left_eq, rw0, rw1, ← this]
theorem cut_ok (r : Rw) : m_cut_of [rwD r] st = .ok (.int (quR r)) st := by
  have : (if (r.x : Int) < r.y then (r.y : Int) else r.x) = quR r := by unfold quR; split <;> split <;> omega
  rw [m_cut_of_eq]
  simp [rw0, rw1, max2G]
  omega
theorem step_ok (r : Rw) : m_step_of [rwD r] st = .ok (stpD r) st := by
  have z3 : 3 ≤ sizeLine := szl (by omega)
  rw [m_step_of_eq]
  by_cases c : lfR r = true
  · simp [left_ok, cut_ok, rw2, c, okIf_pos z3, stpD]; rfl
  · have c : lfR r = false := by simpa using c
    simp [left_ok, cut_ok, rw2, c, okIf_pos z3, stpD]; rfl
theorem stp_closed (n : Nat) : ∀ rs : List Rw, closeds n (rs.map stpD) = true
  | [] => rfl
  | r :: rs => by simp [closeds, closed, stpD, sdD, stp_closed n rs]
end TK

set_option Elab.async false
set_option linter.all false
set_option maxRecDepth 100000
set_option maxHeartbeats 4000000
namespace TK
open PySem PySem.Spec
open PyProof.Rows hiding St
open L2
variable {st : Store} {N p : Nat} {rs : List Rw} {F : List Fd}
theorem cut_on_ok (r : Rw) (k : Int) : m_cut_on [stpD r, .int k] st = .ok (.int (onS r k)) st := by
  rw [m_cut_on_eq]
  unfold onS
  by_cases c : r.x < r.y
  · have c1 : lfR r = true := by simp [lfR, c]
    have c2 : quR r = r.y := by simp [quR, c]
    by_cases e : k = r.y
    · simp [sp0, sp1, eqD_left, c, c1, c2, e]
    · have e' : ¬ (r.y : Int) = k := fun q => e q.symm
      simp [sp0, sp1, eqD_left, eqD_rgt, c, c1, c2, e, e']
  · have c1 : lfR r = false := by simp [lfR, c]
    have c2 : quR r = r.x := by simp [quR, c]
    by_cases e : k = r.x
    · cases hf : r.f <;> simp [sp0, sp1, sp2, eqD_left, eqD_rgt, c, c1, c2, e, hf]
    · have e' : ¬ (r.x : Int) = k := fun q => e q.symm
      simp [sp0, sp1, eqD_left, eqD_rgt, c, c1, c2, e, e']
theorem cut_back_ok (r : Rw) (k : Int) : m_cut_back [stpD r, .int k] st = .ok (.int (backS r k)) st := by
  rw [m_cut_back_eq]
  unfold backS
  by_cases c : r.x < r.y
  · have c1 : lfR r = true := by simp [lfR, c]
    have c2 : quR r = r.y := by simp [quR, c]
    by_cases e : k = r.y
    · cases hf : r.f <;> simp [sp0, sp1, sp2, eqD_left, eqD_rgt, c, c1, c2, e, hf]
    · have e' : ¬ (r.y : Int) = k := fun q => e q.symm
      simp [sp0, sp1, eqD_left, eqD_rgt, c, c1, c2, e, e']
  · have c1 : lfR r = false := by simp [lfR, c]
    have c2 : quR r = r.x := by simp [quR, c]
    by_cases e : k - 1 = r.x
    · obtain rfl : k = (r.x : Int) + 1 := by omega
      simp [sp0, sp1, eqD_left, eqD_rgt, c, c1, c2]
    · have e' : ¬ (r.x : Int) = k - 1 := fun q => e q.symm
      simp [sp0, sp1, eqD_left, eqD_rgt, c, c1, c2, e, e']
theorem gcR_sp (r : Rw) : gcH st (.ok (stpD r) st) = .ok (stpD r) st := gcR_same (by simp [stpD, sdD, closed, closeds])
def stF (d : D) : D := match d with
  | .tup [.int x, .int y, .bl f] => .tup [sdD (decide (x < y)), .int (if x < y then y else x), .bl f]
  | d => d
theorem stF_rw (r : Rw) : stF (rwD r) = stpD r := by
  simp only [stF, rwD, stpD, lfR, quR]
  have e1 : decide ((r.x : Int) < r.y) = decide (r.x < r.y) := by simp
  have e2 : (if (r.x : Int) < r.y then (r.y : Int) else r.x) = ((if r.x < r.y then r.y else r.x : Nat) : Int) := by split <;> split <;> omega
  rw [e1, e2]
theorem stF_map (rs : List Rw) : (rs.map rwD).map stF = rs.map stpD := by
  rw [List.map_map]
  exact List.map_congr_left fun r _ => stF_rw r
theorem steps_ok {env : AEnv} {fr : LF} (hfr : fr env st = .ok [.ref p] st) (h : st[p]? = some (logO N rs)) (hl : rs.length ≤ 2000) : lDrop (eCall m_steps_of fr) env st = .ok (rs.map stpD) st := by
  have zl : rs.length ≤ sizeLine := szl (by omega)
  have e : m_steps_of [.ref p] st = .ok (.ref st.length) (st ++ [.lst (rs.map stpD)]) := by
    rw [m_steps_of_eq]
    simp [log_at h, lkR, okIf_pos zl]
    generalize hq : compL _ _ _ _ _ _ _ = r1
    have := compL_mapE hq (by simp) (fun _ => true) stF fun d hd => by
      obtain ⟨r, _, rfl⟩ := List.mem_map.mp hd
      exact ⟨_, asgT_name _ _ _, rfl, fun _ => by simp [step_ok, stF_rw, gcR_sp]⟩
    rw [this, map_true, stF_map]
    simp
  exact lDrop_call (X := [.lst (rs.map stpD)]) hfr e (Nat.le_refl _) (by simp) (stp_closed _ _)
/-! ## the latest moments -/
theorem getKs_set {κ : Type} [DecidableEq κ] {f : D → Option κ} {k j : κ} {y : D} : ∀ {kvs : List (D × D)}, getKs f j (setKs f k y kvs) = if j = k ∧ (getKs f k kvs).isSome then some y else getKs f j kvs
  | [] => by simp [setKs, getKs]
  | (x, d) :: kvs => by
    have ih := getKs_set (k := k) (j := j) (y := y) (f := f) (kvs := kvs)
    by_cases e : f x = some k
    · by_cases ej : j = k
      · subst ej; simp [setKs, getKs, e]
      · have : ¬ f x = some j := fun q => ej (by rw [e] at q; exact (Option.some.inj q).symm)
        simp only [setKs, if_pos e, getKs, if_neg this, ih, ej, false_and, if_false]
    · by_cases ej : f x = some j
      · have : j ≠ k := fun q => e (by rw [ej, q])
        simp [setKs, getKs, e, ej, this]
      · simp only [setKs, if_neg e, getKs, if_neg ej, ih]
theorem getKs_app {κ : Type} [DecidableEq κ] {f : D → Option κ} {j : κ} {x y : D} : ∀ {kvs : List (D × D)}, getKs f j (kvs ++ [(x, y)]) = (getKs f j kvs).or (if f x = some j then some y else none)
  | [] => by simp [getKs]
  | (a, d) :: kvs => by
    have ih := getKs_app (j := j) (x := x) (y := y) (f := f) (kvs := kvs)
    by_cases e : f a = some j
    · simp [getKs, e]
    · simp only [List.cons_append, getKs, if_neg e, ih]
theorem getKs_put {κ : Type} [DecidableEq κ] {f : D → Option κ} {key : D} {k j : κ} {y : D} (ek : f key = some k) (kvs : List (D × D)) : getKs f j (putKs f key k y kvs) = if j = k then some y else getKs f j kvs := by
  unfold putKs
  by_cases h : (getKs f k kvs).isSome = true
  · rw [if_pos h, getKs_set, h]; simp
  · rw [if_neg h, getKs_app, ek]
    have hn : getKs f k kvs = none := by simpa using h
    by_cases e : j = k
    · subst e; simp [hn]
    · have e' : ¬ (some k = some j) := fun q => e (Option.some.inj q).symm
      simp [e, e']
theorem putKs_len {κ : Type} [DecidableEq κ] {f : D → Option κ} {key : D} {k : κ} {y : D} (kvs : List (D × D)) : (putKs f key k y kvs).length ≤ kvs.length + 1 := by
  have : ∀ kvs : List (D × D), (setKs f k y kvs).length = kvs.length := fun kvs => by
    induction kvs with
    | nil => rfl
    | cons a kvs ih => obtain ⟨x, d⟩ := a; simp [setKs, ih]
  unfold putKs
  split
  · rw [this]; omega
  · simp
theorem putKs_closed {κ : Type} [DecidableEq κ] {f : D → Option κ} {key : D} {k : κ} {y : D} {n : Nat} (hy : closed n y = true) {kvs : List (D × D)} (h : closedK n kvs = true) : closedK n (putKs f key k y kvs) = true := by
  have : ∀ kvs : List (D × D), closedK n kvs = true → closedK n (setKs f k y kvs) = true := fun kvs => by
    induction kvs with
    | nil => exact fun h => h
    | cons a kvs ih =>
      obtain ⟨x, d⟩ := a
      intro h
      simp only [closedK, List.all_cons, Bool.and_eq_true] at h ih ⊢
      have h2 := ih h.2
      simp only [setKs, List.all_cons, Bool.and_eq_true]
      refine ⟨?_, h2⟩
      split
      · exact hy
      · exact h.1
  unfold putKs
  split
  · exact this kvs h
  · simp only [closedK, List.all_append, List.all_cons, List.all_nil, Bool.and_true, Bool.and_eq_true] at h ⊢
    exact ⟨h, hy⟩
def LatOk (F : List Fd) (kvs : List (D × D)) : Prop := ∀ b : Nat, (getKs keyS (.inl (b : Int)) kvs = none ∧ ∀ m, ¬ alive F b m) ∨ ∃ v : Int, getKs keyS (.inl (b : Int)) kvs = some (.int v) ∧ 0 ≤ v ∧ ∀ m : Nat, (m : Int) ≤ v ↔ alive F b m
theorem lat_nil : LatOk [] [] := fun b => .inl ⟨rfl, fun m ⟨f, hf, _⟩ => by cases hf⟩
theorem alive_snoc {F : List Fd} {f : Fd} {b m : Nat} : alive (F ++ [f]) b m ↔ alive F b m ∨ (f.e = b ∧ m ≤ f.m) := by
  constructor
  · rintro ⟨g, hg, h⟩
    rcases List.mem_append.mp hg with q | q
    · exact .inl ⟨g, q, h⟩
    · rw [List.mem_singleton.mp q] at h; exact .inr h
  · rintro (⟨g, hg, h⟩ | h)
    · exact ⟨g, List.mem_append_left _ hg, h⟩
    · exact ⟨f, by simp, h⟩
theorem lat_put {F : List Fd} {kvs : List (D × D)} (h : LatOk F kvs) (f : Fd) : ∃ v : Int, (getKs keyS (.inl (f.e : Int)) kvs).getD (.int 0) = .int v ∧ LatOk (F ++ [f]) (putKs keyS (.int f.e) (.inl (f.e : Int)) (.int (if v > f.m then v else f.m)) kvs) := by
  have ek : keyS (.int f.e) = some (.inl (f.e : Int)) := rfl
  have hv : ∃ v : Int, (getKs keyS (.inl (f.e : Int)) kvs).getD (.int 0) = .int v ∧ 0 ≤ v ∧ ∀ m : Nat, alive (F ++ [f]) f.e m ↔ (m : Int) ≤ (if v > f.m then v else f.m) := by
    rcases h f.e with ⟨e, na⟩ | ⟨v, e, h0, hv⟩
    · refine ⟨0, by rw [e]; rfl, by omega, fun m => ?_⟩
      rw [alive_snoc, if_neg (by omega)]
      constructor
      · rintro (a | ⟨_, a⟩)
        · exact absurd a (na m)
        · omega
      · intro a; exact .inr ⟨rfl, by omega⟩
    · refine ⟨v, by rw [e]; rfl, h0, fun m => ?_⟩
      rw [alive_snoc, ← hv m]
      by_cases c : v > f.m
      · rw [if_pos c]
        constructor
        · rintro (a | ⟨_, a⟩) <;> omega
        · intro a; exact .inl a
      · rw [if_neg c]
        constructor
        · rintro (a | ⟨_, a⟩) <;> omega
        · intro a; exact .inr ⟨rfl, by omega⟩
  obtain ⟨v, e, h0, hv⟩ := hv
  refine ⟨v, e, fun b => ?_⟩
  rw [getKs_put ek]
  by_cases q : b = f.e
  · subst q
    rw [if_pos rfl]
    refine .inr ⟨_, rfl, by split <;> omega, fun m => (hv m).symm⟩
  · have q' : ¬ (Sum.inl (b : Int) : Key) = .inl (f.e : Int) := fun z => q (by injection z with z; omega)
    rw [if_neg q']
    have al : ∀ m, alive (F ++ [f]) b m ↔ alive F b m := fun m => by
      rw [alive_snoc]
      constructor
      · rintro (a | ⟨a, _⟩)
        · exact a
        · exact absurd a.symm q
      · exact .inl
    rcases h b with ⟨e, na⟩ | ⟨w, e, w0, hw⟩
    · exact .inl ⟨e, fun m a => na m ((al m).mp a)⟩
    · exact .inr ⟨w, e, w0, fun m => by rw [al m]; exact hw m⟩
theorem latest_ok {f : Nat} (h : st[f]? = some (.lst (F.map fdD))) (hl : F.length ≤ 1000) : ∃ kvs, m_latest_shown [.ref f] st = .ok (.ref st.length) (st ++ [.dct kvs]) ∧ LatOk F kvs ∧ closedK st.length kvs = true := by
  have zl : F.length ≤ sizeLine := szl (by omega)
  have hf := (List.getElem?_eq_some_iff.mp h).1
  rw [m_latest_shown_eq]
  have hfa : ∀ o : AO, (st ++ [o])[f]? = some (.lst (F.map fdD)) := fun o => by rw [List.getElem?_append_left hf]; exact h
  simp [hfa]
  generalize hq : loopF _ _ _ _ _ _ = r
  obtain ⟨e, s, rfl, o2, o3, o4, kvs, rfl, rfl, hk, hkl, hc⟩ := loopF_next hq (fun i env s => ∃ o2 o3 o4 kvs, env = [some (.ref f), some (.ref st.length), o2, o3, o4] ∧ s = st ++ [.dct kvs] ∧ LatOk (F.take i) kvs ∧ kvs.length ≤ i ∧ closedK st.length kvs = true) ⟨none, none, none, [], rfl, rfl, lat_nil, Nat.le_refl _, rfl⟩ fun i d env s hI hd => by
    obtain ⟨o2, o3, o4, kvs, rfl, rfl, hk, hkl, hc⟩ := hI
    rw [List.getElem?_map] at hd
    cases hri : F[i]? with
    | none => rw [hri] at hd; cases hd
    | some g =>
      rw [hri] at hd
      cases hd
      have hil : i < F.length := (List.getElem?_eq_some_iff.mp hri).1
      have et : F.take (i + 1) = F.take i ++ [g] := by rw [List.take_add_one, hri]; rfl
      obtain ⟨v, ev, hk'⟩ := lat_put hk g
      rw [← et] at hk'
      have zk : kvs.length < sizeLine := by have q : kvs.length + 1 ≤ sizeLine := szl (by omega); omega
      have isd : isDct (.ref st.length) (st ++ [.dct kvs]) = true := by simp [isDct]
      have dg : dgetD (.ref st.length) (.int g.e) (.int 0) (st ++ [.dct kvs]) = .ok (.int v) (st ++ [.dct kvs]) := by
        simp only [dgetD, List.getElem?_concat_length, keyS, ev]
      have mx : max2G [.int g.m, .int v] (st ++ [.dct kvs]) = .ok (.int (if v > g.m then v else g.m)) (st ++ [.dct kvs]) := by simp [max2G]
      have dp : ∀ env : AEnv, ∀ y : D, dputR st.length (.int g.e) y env (st ++ [.dct kvs]) = .next env (st ++ [.dct (putKs keyS (.int g.e) (.inl (g.e : Int)) y kvs)]) := fun env y => by
        simp [dputR, keyS, zk]
      have eg : fdD g = .tup [.int g.m, .int g.o, .int g.e] := rfl
      refine ⟨[some (.ref f), some (.ref st.length), some (.int g.m), some (.int g.o), some (.int g.e)], by rw [eg]; rfl, [some (.ref f), some (.ref st.length), some (.int g.m), some (.int g.o), some (.int g.e)], st ++ [.dct (putKs keyS (.int g.e) (.inl (g.e : Int)) (.int (if v > g.m then v else g.m)) kvs)], .inl ?_, ?_, _, _, _, _, rfl, rfl, hk', ?_, ?_⟩
      · simp [isd, dg, mx, dp]
      · have hft : (st ++ [AO.dct (putKs keyS (.int g.e) (.inl (g.e : Int)) (.int (if v > g.m then v else g.m)) kvs)])[f]? = some (.lst (F.map fdD)) := hfa _
        simp [hft]
      · have := putKs_len (f := keyS) (key := .int g.e) (k := .inl (g.e : Int)) (y := .int (if v > g.m then v else g.m)) kvs
        omega
      · exact putKs_closed rfl hc
  simp at hk
  exact ⟨kvs, by simp, hk, hc⟩
end TK

set_option Elab.async false
set_option linter.all false
set_option maxRecDepth 100000
set_option maxHeartbeats 4000000
namespace TK
open PySem PySem.Spec
open PyProof.Rows hiding St
open L2
variable {st : Store} {N p : Nat} {rs : List Rw} {F : List Fd}
def nnD (d : D) : D := .tup [.int 0, d, d]
def fbD (d : D) : D := match d with
  | .tup [.int m, .int o, .int e] => .tup [.int m, .int (e + 1), .int (o + 1)]
  | d => d
theorem nn_map (n : Nat) : (rangeD 0 n).map nnD = ((List.range n).map fun b => (⟨0, b, b⟩ : Bd)).map bdD := by
  unfold rangeD
  rw [List.map_map, List.map_map]
  refine List.map_congr_left fun i _ => ?_
  simp [nnD, bdD]
theorem fb_map (F : List Fd) : (F.map fdD).map fbD = (F.map fun f => (⟨f.m, f.e + 1, f.o + 1⟩ : Bd)).map bdD := by
  rw [List.map_map, List.map_map]
  refine List.map_congr_left fun f _ => ?_
  simp [fdD, fbD, bdD]
theorem first_ok {f : Nat} {env : AEnv} {fr : LF} (hfr : fr env st = .ok [.int N, .ref f] st) (h : st[f]? = some (.lst (F.map fdD))) (hl : F.length ≤ 1000) (hN : N ≤ 12) : lDrop (eCall m_first_bounds fr) env st = .ok ((firstB N F).map bdD) st := by
  have zl : F.length ≤ sizeLine := szl (by omega)
  have z3 : 3 ≤ sizeLine := szl (by omega)
  have zn : N + 1 ≤ sizeLine := szl (by omega)
  have za : N + 1 + F.length ≤ sizeLine := szl (by omega)
  have hf := (List.getElem?_eq_some_iff.mp h).1
  have rg : ∀ s, rngR1 ((N : Int) + 1) s = .ok (rangeD 0 (N + 1), []) s := fun s => rngR_suc (by omega)
  have e : ∃ x, m_first_bounds [.int N, .ref f] st = .ok (.ref (st.length + 1)) (st ++ [x, .lst ((firstB N F).map bdD)]) := by
    refine ⟨.lst ((rangeD 0 (N + 1)).map nnD), ?_⟩
    rw [m_first_bounds_eq]
    simp [rg, okIf_pos zn]
    generalize hq : compL _ _ _ _ _ _ _ = r1
    have := compL_mapE hq (by simp) (fun _ => true) nnD fun d hd => by
      exact ⟨_, asgT_name _ _ _, rfl, fun _ => by simp [okIf_pos z3]; rfl⟩
    rw [this, map_true]
    have hfa : (st ++ [AO.lst ((rangeD 0 (N + 1)).map nnD)])[f]? = some (.lst (F.map fdD)) := by rw [List.getElem?_append_left hf]; exact h
    simp [-List.map_map, hfa, okIf_pos zl]
    generalize hq2 : compL _ _ _ _ _ _ _ = r2
    have := compL_mapE hq2 (by simp [hfa]) (fun _ => true) fbD fun d hd => by
      obtain ⟨f, _, rfl⟩ := List.mem_map.mp hd
      have eg : fdD f = .tup [.int f.m, .int f.o, .int f.e] := rfl
      exact ⟨_, by rw [eg]; rfl, rfl, fun _ => by simp [okIf_pos z3]; rfl⟩
    rw [this, map_true]
    have em : (rangeD 0 (N + 1)).map nnD ++ (F.map fdD).map fbD = (firstB N F).map bdD := by rw [nn_map, fb_map]; unfold firstB; rw [List.map_append]
    simp [-List.map_map, okIf_pos za, em]
  obtain ⟨x, e⟩ := e
  exact lDrop_call (X := [x, .lst ((firstB N F).map bdD)]) hfr e (by omega) (by rw [List.getElem?_append_right (by omega)]; simp) (bds_closed _ _)
def dnD (B : Bd) (d : D) : D := match d with
  | .tup [.int m, .int o, .int e] => .bl (decide (m = B.m) && (decide (e = B.b) && decide (o < B.k)))
  | d => d
theorem dnD_fd (B : Bd) (f : Fd) : dnD B (fdD f) = D.bl (decide (f.m = B.m) && (decide (f.e = B.b) && decide ((f.o : Int) < B.k))) := by
  have e1 : ((f.m : Int) = B.m) ↔ f.m = B.m := by omega
  have e2 : ((f.e : Int) = B.b) ↔ f.e = B.b := by omega
  simp only [fdD, dnD, e1, e2]
theorem dn_map (B : Bd) (F : List Fd) : (F.map fdD).map (dnD B) = F.map fun f => D.bl (decide (f.m = B.m) && (decide (f.e = B.b) && decide ((f.o : Int) < B.k))) := by
  rw [List.map_map]
  exact List.map_congr_left fun f _ => dnD_fd B f
open Classical in
theorem is_denied_ok {f : Nat} (B : Bd) (h : st[f]? = some (.lst (F.map fdD))) (hl : F.length ≤ 1000) : m_is_denied [.ref f, bdD B] st = .ok (.bl (decide (Denied F B.m B.b B.k))) st := by
  have zl : F.length ≤ sizeLine := szl (by omega)
  have eB : bdD B = .tup [.int B.m, .int B.b, .int B.k] := rfl
  rw [m_is_denied_eq, eB]
  by_cases c : B.m = 0 ∧ (B.b : Int) < B.k
  · have d : Denied F B.m B.b B.k := .inl c
    obtain ⟨c1, c2⟩ := c
    simp [c1, c2]
    rw [c1] at d
    exact d
  · have hany : decide (Denied F B.m B.b B.k) = (F.map fun f => decide (f.m = B.m) && (decide (f.e = B.b) && decide ((f.o : Int) < B.k))).any id := by
      have : Denied F B.m B.b B.k ↔ ∃ f ∈ F, f.m = B.m ∧ f.e = B.b ∧ (f.o : Int) < B.k := ⟨fun d => d.elim (fun q => absurd q c) id, .inr⟩
      rw [Bool.eq_iff_iff, decide_eq_true_iff, this, List.any_map]
      simp only [List.any_eq_true, Function.comp, id, Bool.and_eq_true, decide_eq_true_iff]
    have hc : (decide ((B.m : Int) = 0) && decide ((B.b : Int) < B.k)) = false := by
      rw [Bool.eq_false_iff]
      intro q
      simp at q
      exact c q
    have go : ∀ env1 : AEnv, ∃ s, (sRet (eQ anyG (compF [5] (iSeqF (eVar 0)) (.name 5) bYes (eAnd (e2 eqD (e2 getD (eVar 5) (eC (.int 0))) (eVar 2)) (eAnd (e2 eqD (e2 getD (eVar 5) (eC (.int 2))) (eVar 3)) (e2 gtD (eVar 4) (e2 getD (eVar 5) (eC (.int 1)))))))) : SF) [some (.ref f), some (.tup [.int B.m, .int B.b, .int B.k]), some (.int B.m), some (.int B.b), some (.int B.k), none] st = .ret (.bl (decide (Denied F B.m B.b B.k))) s ∧ s = st := fun _ => by
      refine ⟨st, ?_, rfl⟩
      simp [h, okIf_pos zl]
      generalize hq : compL _ _ _ _ _ _ _ = r1
      have := compL_mapE hq (by simp [h]) (fun _ => true) (dnD B) fun d hd => by
        obtain ⟨g, _, rfl⟩ := List.mem_map.mp hd
        refine ⟨_, asgT_name _ _ _, rfl, fun _ => ?_⟩
        by_cases c1 : g.m = B.m
        · by_cases c2 : g.e = B.b
          · simp [fd0, fd1, fd2, c1, c2, dnD_fd]
          · have c2' : ¬ (g.e : Int) = B.b := by omega
            simp [fd0, fd1, fd2, c1, c2, c2', dnD_fd]
        · have c1' : ¬ (g.m : Int) = B.m := by omega
          simp [fd0, fd1, fd2, c1, c1', dnD_fd]
      rw [this, map_true, dn_map]
      simp [anyG, boolsOf_map, hany, zl]
    obtain ⟨s, e, rfl⟩ := go []
    by_cases c1 : B.m = 0
    · have c2 : ¬ (B.b : Int) < B.k := fun q => c ⟨c1, q⟩
      simp only [runDef_ap, sSeq_ap]
      simp [c1, c2] at e ⊢
      rw [e]
    · simp [c1] at e ⊢
      rw [e]
end TK

set_option Elab.async false
set_option linter.all false
set_option maxRecDepth 100000
set_option maxHeartbeats 4000000
namespace TK
open PySem PySem.Spec
open PyProof.Rows hiding St
open L2
variable {st : Store} {N p : Nat} {rs : List Rw} {F : List Fd}
theorem lat_get {s0 : Store} {t b : Nat} {kvs : List (D × D)} (h : st[t]? = some (.dct kvs)) (hk : LatOk F kvs) : ∃ v : Int, dgetD (.ref t) (.int b) (.int (-1)) st = .ok (.int v) st ∧ ∀ m : Nat, (m : Int) ≤ v ↔ alive F b m := by
  rcases hk b with ⟨e, na⟩ | ⟨v, e, h0, hv⟩
  · exact ⟨-1, by simp [dgetD, h, keyS, e], fun m => ⟨fun q => by omega, fun a => absurd a (na m)⟩⟩
  · exact ⟨v, by simp [dgetD, h, keyS, e], hv⟩
/-- one more at the end of the last list -/
theorem app_last {xs : List D} {d : D} (hl : xs.length < sizeLine) : appendG (.ref st.length) [d] (st ++ [.lst xs]) = .ok .non (st ++ [.lst (xs ++ [d])]) := by
  rw [appendG_ref (m := st.length) (by simp) hl]
  simp
open Classical in
theorem bounds_from_ok {s t : Nat} {kvs : List (D × D)} {B : Bd} {fr : LF} {env : AEnv} (hfr : fr env st = .ok [.int N, .ref s, .ref t, bdD B] st) (hs : st[s]? = some (.lst (rs.map stpD))) (ht : st[t]? = some (.dct kvs)) (hk : LatOk F kvs) (hm : B.m ≤ rs.length) :
    lDrop (eCall m_bounds_from fr) env st = .ok ((bdsF N rs F B).map bdD) st := by
  have z4 : 10 ≤ sizeLine := szl (by omega)
  have z3 : 3 ≤ sizeLine := szl (by omega)
  have hsl := (List.getElem?_eq_some_iff.mp hs).1
  have htl := (List.getElem?_eq_some_iff.mp ht).1
  obtain ⟨m, b, k⟩ := B
  simp only at hm
  have e : m_bounds_from [.int N, .ref s, .ref t, bdD ⟨m, b, k⟩] st = .ok (.ref st.length) (st ++ [.lst ((bdsF N rs F ⟨m, b, k⟩).map bdD)]) := by
    have hsa : ∀ o : AO, (st ++ [o])[s]? = some (.lst (rs.map stpD)) := fun o => by rw [List.getElem?_append_left hsl]; exact hs
    have hta : ∀ o : AO, (st ++ [o])[t]? = some (.dct kvs) := fun o => by rw [List.getElem?_append_left htl]; exact ht
    have isd : ∀ o : AO, isDct (.ref t) (st ++ [o]) = true := fun o => by simp only [isDct, hta]
    obtain ⟨v, hv⟩ : ∃ v : Int, (∀ o : AO, dgetD (.ref t) (.int b) (.int (-1)) (st ++ [o]) = .ok (.int v) (st ++ [o])) ∧ ((m : Int) ≤ v ↔ alive F b m) := by
      obtain ⟨v, h1, h2⟩ := lat_get (s0 := st) (b := b) (hta (.lst [])) hk
      refine ⟨v, fun o => ?_, h2 m⟩
      obtain ⟨w, h3, h4⟩ := lat_get (s0 := st) (b := b) (hta o) hk
      simp only [dgetD, hta] at h1 h3 ⊢
      simp only [keyS] at h1 h3 ⊢
      injection h1 with h1
      rw [h1]
    obtain ⟨hv1, hv2⟩ := hv
    have eB : bdD ⟨m, b, k⟩ = .tup [.int m, .int b, .int k] := rfl
    have b1 : (m : Int) + 1 = ((m + 1 : Nat) : Int) := by omega
    have g1 : ∀ (r : Rw) (o : AO), rs[m]? = some r → getD (.ref s) (.int m) (st ++ [o]) = .ok (stpD r) (st ++ [o]) := fun r o hr => getD_r (hsa o) rfl (by rw [List.getElem?_map, hr]; rfl)
    rw [m_bounds_from_eq, eB]
    have first : ∀ env1 : AEnv, ∃ xs : List Bd, xs.length ≤ 2 ∧ xs = (if b < N then (if alive F b m then [(⟨m, b + 1, k + 1⟩ : Bd)] else []) ++ [⟨m, b + 1, k⟩] else []) ∧
        (sIf (bB (e2 ltD (eVar 6) (eVar 0))) (sSeq (sIf (bB (e2 geD (eDget (eVar 2) (eVar 6) (e1 negD (eC (.int 1)))) (eVar 5))) (sDrop (eM isLst appendG (eVar 4) (lCons (eTup (lCons (eVar 5) (lCons (e2 addD (eVar 6) (eC (.int 1))) (lCons (e2 addD (eVar 7) (eC (.int 1))) lNil)))) lNil))) sNil)
          (sDrop (eM isLst appendG (eVar 4) (lCons (eTup (lCons (eVar 5) (lCons (e2 addD (eVar 6) (eC (.int 1))) (lCons (eVar 7) lNil)))) lNil)))) sNil) [some (.int N), some (.ref s), some (.ref t), some (.tup [.int m, .int b, .int k]), some (.ref st.length), some (.int m), some (.int b), some (.int k)] (st ++ [.lst []])
        = .next [some (.int N), some (.ref s), some (.ref t), some (.tup [.int m, .int b, .int k]), some (.ref st.length), some (.int m), some (.int b), some (.int k)] (st ++ [.lst (xs.map bdD)]) := fun _ => by
      by_cases hb : b < N
      · by_cases ha : alive F b m
        · have hv3 : (m : Int) ≤ v := hv2.mpr ha
          have a1 := app_last (st := st) (xs := []) (d := .tup [.int m, .int ((b : Int) + 1), .int (k + 1)]) (by simp; omega)
          have a2 := app_last (st := st) (xs := [.tup [.int m, .int ((b : Int) + 1), .int (k + 1)]]) (d := .tup [.int m, .int ((b : Int) + 1), .int k]) (by simp; omega)
          simp at a1 a2
          refine ⟨_, ?_, rfl, ?_⟩
          · simp [hb, ha]
          · simp [hb, ha, isd, hv1, hv3, okIf_pos z3, a1, a2, bdD]
        · have hv3 : ¬ (m : Int) ≤ v := fun q => ha (hv2.mp q)
          have a2 := app_last (st := st) (xs := []) (d := .tup [.int m, .int ((b : Int) + 1), .int k]) (by simp; omega)
          simp at a2
          refine ⟨_, ?_, rfl, ?_⟩
          · simp [hb, ha]
          · simp [hb, ha, isd, hv1, hv3, okIf_pos z3, a2, bdD]
      · exact ⟨[], by simp, by rw [if_neg hb], by simp [hb]⟩
    obtain ⟨xs, hx2, ex, h1⟩ := first []
    have second : ∃ ys : List Bd, ys.length ≤ 1 ∧ ys = (match rs[m]? with | some r => [(⟨m + 1, b, onS r k⟩ : Bd)] | none => []) ∧
        (sIf (bB (e2 ltD (eVar 5) (eQ lenG (lRd (eVar 1))))) (sDrop (eM isLst appendG (eVar 4) (lCons (eTup (lCons (e2 addD (eVar 5) (eC (.int 1))) (lCons (eVar 6) (lCons (eCall m_cut_on (lCons (e2 getD (eVar 1) (eVar 5)) (lCons (eVar 7) lNil))) lNil)))) lNil))) sNil) [some (.int N), some (.ref s), some (.ref t), some (.tup [.int m, .int b, .int k]), some (.ref st.length), some (.int m), some (.int b), some (.int k)] (st ++ [.lst (xs.map bdD)])
        = .next [some (.int N), some (.ref s), some (.ref t), some (.tup [.int m, .int b, .int k]), some (.ref st.length), some (.int m), some (.int b), some (.int k)] (st ++ [.lst ((xs ++ ys).map bdD)]) := by
      by_cases c : m < rs.length
      · have hr : rs[m]? = some rs[m] := List.getElem?_eq_getElem c
        have gg := g1 rs[m] (.lst (xs.map bdD)) hr
        have co := cut_on_ok (st := st ++ [.lst (xs.map bdD)]) rs[m] k
        have a1 := app_last (st := st) (xs := xs.map bdD) (d := .tup [.int ((m : Int) + 1), .int b, .int (onS rs[m] k)]) (by simp; omega)
        have hz := hsa (.lst (xs.map bdD))
        refine ⟨[⟨m + 1, b, onS rs[m] k⟩], by simp, by rw [hr], ?_⟩
        simp [c, hz, gg, co, okIf_pos z3, a1, bdD]
      · have hr : rs[m]? = none := List.getElem?_eq_none (by omega)
        have hz := hsa (.lst (xs.map bdD))
        refine ⟨[], by simp, by rw [hr], ?_⟩
        simp [c, hz]
    obtain ⟨ys, hy1, ey, h2⟩ := second
    have third : ∃ zs : List Bd, zs = (match m with | 0 => [] | m + 1 => match rs[m]? with | some r => [(⟨m, b, backS r k⟩ : Bd)] | none => []) ∧
        (sIf (bB (e2 gtD (eVar 5) (eC (.int 0)))) (sDrop (eM isLst appendG (eVar 4) (lCons (eTup (lCons (e2 subD (eVar 5) (eC (.int 1))) (lCons (eVar 6) (lCons (eCall m_cut_back (lCons (e2 getD (eVar 1) (e2 subD (eVar 5) (eC (.int 1)))) (lCons (eVar 7) lNil))) lNil)))) lNil))) sNil) [some (.int N), some (.ref s), some (.ref t), some (.tup [.int m, .int b, .int k]), some (.ref st.length), some (.int m), some (.int b), some (.int k)] (st ++ [.lst ((xs ++ ys).map bdD)])
        = .next [some (.int N), some (.ref s), some (.ref t), some (.tup [.int m, .int b, .int k]), some (.ref st.length), some (.int m), some (.int b), some (.int k)] (st ++ [.lst ((xs ++ (ys ++ zs)).map bdD)]) := by
      cases m with
      | zero => exact ⟨[], rfl, by simp⟩
      | succ m =>
        have hr : rs[m]? = some rs[m] := List.getElem?_eq_getElem (by omega)
        have gg : getD (.ref s) (.int (((m + 1 : Nat) : Int) - 1)) (st ++ [.lst ((xs ++ ys).map bdD)]) = .ok (stpD rs[m]) (st ++ [.lst ((xs ++ ys).map bdD)]) := getD_r (k := m) (hsa _) (by omega) (by rw [List.getElem?_map, hr]; rfl)
        have co := cut_back_ok (st := st ++ [.lst ((xs ++ ys).map bdD)]) rs[m] k
        have em : ((m + 1 : Nat) : Int) - 1 = m := by omega
        rw [em] at gg
        have a1 := app_last (st := st) (xs := (xs ++ ys).map bdD) (d := .tup [.int m, .int b, .int (backS rs[m] k)]) (by simp; omega)
        have c0 : (0 : Int) < (m : Int) + 1 := by omega
        have em2 : (m : Int) + 1 - 1 = m := by omega
        simp only [List.map_append] at gg co a1
        refine ⟨[⟨m, b, backS rs[m] k⟩], by simp [hr], ?_⟩
        simp [c0, gg, co, okIf_pos z3, a1, bdD]
    obtain ⟨zs, ez, h3⟩ := third
    have efin : bdsF N rs F ⟨m, b, k⟩ = xs ++ (ys ++ zs) := by
      unfold bdsF
      simp only
      rw [ex, ey, ez]
      all_goals (cases m <;> rfl)
    rw [efin]
    simp only [runDef_ap, sSeq_ap]
    simp at h1 h2 h3 ⊢
    rw [h1]
    simp
    rw [h2]
    simp
    rw [h3]
    simp
  exact lDrop_call (X := [.lst ((bdsF N rs F ⟨m, b, k⟩).map bdD)]) hfr e (Nat.le_refl _) (by simp) (bds_closed _ _)
end TK

set_option Elab.async false
set_option linter.all false
set_option maxRecDepth 100000
set_option maxHeartbeats 4000000
namespace TK
open PySem PySem.Spec
open PyProof.Rows hiding St
open L2
/-! # the family in the store -/
theorem lf_offices (a b c d e f g h : D) : List.lookup ("offices" : Str) [(("offices" : Str), a), (("steps" : Str), b), (("finds" : Str), c), (("latest" : Str), d), (("cuts" : Str), e), (("came" : Str), f), (("denied" : Str), g), (("waiting" : Str), h)] = some a := by
  rw [List.lookup_cons, show (("offices" : Str) == "offices") = true from by decide +kernel]
theorem lf_steps (a b c d e f g h : D) : List.lookup ("steps" : Str) [(("offices" : Str), a), (("steps" : Str), b), (("finds" : Str), c), (("latest" : Str), d), (("cuts" : Str), e), (("came" : Str), f), (("denied" : Str), g), (("waiting" : Str), h)] = some b := by
  rw [List.lookup_cons, show (("steps" : Str) == "offices") = false from by decide +kernel, List.lookup_cons, show (("steps" : Str) == "steps") = true from by decide +kernel]
theorem lf_finds (a b c d e f g h : D) : List.lookup ("finds" : Str) [(("offices" : Str), a), (("steps" : Str), b), (("finds" : Str), c), (("latest" : Str), d), (("cuts" : Str), e), (("came" : Str), f), (("denied" : Str), g), (("waiting" : Str), h)] = some c := by
  rw [List.lookup_cons, show (("finds" : Str) == "offices") = false from by decide +kernel, List.lookup_cons, show (("finds" : Str) == "steps") = false from by decide +kernel, List.lookup_cons, show (("finds" : Str) == "finds") = true from by decide +kernel]
theorem lf_latest (a b c d e f g h : D) : List.lookup ("latest" : Str) [(("offices" : Str), a), (("steps" : Str), b), (("finds" : Str), c), (("latest" : Str), d), (("cuts" : Str), e), (("came" : Str), f), (("denied" : Str), g), (("waiting" : Str), h)] = some d := by
  rw [List.lookup_cons, show (("latest" : Str) == "offices") = false from by decide +kernel, List.lookup_cons, show (("latest" : Str) == "steps") = false from by decide +kernel, List.lookup_cons, show (("latest" : Str) == "finds") = false from by decide +kernel, List.lookup_cons, show (("latest" : Str) == "latest") = true from by decide +kernel]
theorem lf_cuts (a b c d e f g h : D) : List.lookup ("cuts" : Str) [(("offices" : Str), a), (("steps" : Str), b), (("finds" : Str), c), (("latest" : Str), d), (("cuts" : Str), e), (("came" : Str), f), (("denied" : Str), g), (("waiting" : Str), h)] = some e := by
  rw [List.lookup_cons, show (("cuts" : Str) == "offices") = false from by decide +kernel, List.lookup_cons, show (("cuts" : Str) == "steps") = false from by decide +kernel, List.lookup_cons, show (("cuts" : Str) == "finds") = false from by decide +kernel, List.lookup_cons, show (("cuts" : Str) == "latest") = false from by decide +kernel, List.lookup_cons, show (("cuts" : Str) == "cuts") = true from by decide +kernel]
theorem lf_came (a b c d e f g h : D) : List.lookup ("came" : Str) [(("offices" : Str), a), (("steps" : Str), b), (("finds" : Str), c), (("latest" : Str), d), (("cuts" : Str), e), (("came" : Str), f), (("denied" : Str), g), (("waiting" : Str), h)] = some f := by
  rw [List.lookup_cons, show (("came" : Str) == "offices") = false from by decide +kernel, List.lookup_cons, show (("came" : Str) == "steps") = false from by decide +kernel, List.lookup_cons, show (("came" : Str) == "finds") = false from by decide +kernel, List.lookup_cons, show (("came" : Str) == "latest") = false from by decide +kernel, List.lookup_cons, show (("came" : Str) == "cuts") = false from by decide +kernel, List.lookup_cons, show (("came" : Str) == "came") = true from by decide +kernel]
theorem lf_denied (a b c d e f g h : D) : List.lookup ("denied" : Str) [(("offices" : Str), a), (("steps" : Str), b), (("finds" : Str), c), (("latest" : Str), d), (("cuts" : Str), e), (("came" : Str), f), (("denied" : Str), g), (("waiting" : Str), h)] = some g := by
  rw [List.lookup_cons, show (("denied" : Str) == "offices") = false from by decide +kernel, List.lookup_cons, show (("denied" : Str) == "steps") = false from by decide +kernel, List.lookup_cons, show (("denied" : Str) == "finds") = false from by decide +kernel, List.lookup_cons, show (("denied" : Str) == "latest") = false from by decide +kernel, List.lookup_cons, show (("denied" : Str) == "cuts") = false from by decide +kernel, List.lookup_cons, show (("denied" : Str) == "came") = false from by decide +kernel, List.lookup_cons, show (("denied" : Str) == "denied") = true from by decide +kernel]
theorem lf_waiting (a b c d e f g h : D) : List.lookup ("waiting" : Str) [(("offices" : Str), a), (("steps" : Str), b), (("finds" : Str), c), (("latest" : Str), d), (("cuts" : Str), e), (("came" : Str), f), (("denied" : Str), g), (("waiting" : Str), h)] = some h := by
  rw [List.lookup_cons, show (("waiting" : Str) == "offices") = false from by decide +kernel, List.lookup_cons, show (("waiting" : Str) == "steps") = false from by decide +kernel, List.lookup_cons, show (("waiting" : Str) == "finds") = false from by decide +kernel, List.lookup_cons, show (("waiting" : Str) == "latest") = false from by decide +kernel, List.lookup_cons, show (("waiting" : Str) == "cuts") = false from by decide +kernel, List.lookup_cons, show (("waiting" : Str) == "came") = false from by decide +kernel, List.lookup_cons, show (("waiting" : Str) == "denied") = false from by decide +kernel, List.lookup_cons, show (("waiting" : Str) == "waiting") = true from by decide +kernel]
theorem lf_put (a b c d e f g h : D) : List.lookup ("put" : Str) [(("offices" : Str), a), (("steps" : Str), b), (("finds" : Str), c), (("latest" : Str), d), (("cuts" : Str), e), (("came" : Str), f), (("denied" : Str), g), (("waiting" : Str), h)] = none := by
  rw [List.lookup_cons, show (("put" : Str) == "offices") = false from by decide +kernel, List.lookup_cons, show (("put" : Str) == "steps") = false from by decide +kernel, List.lookup_cons, show (("put" : Str) == "finds") = false from by decide +kernel, List.lookup_cons, show (("put" : Str) == "latest") = false from by decide +kernel, List.lookup_cons, show (("put" : Str) == "cuts") = false from by decide +kernel, List.lookup_cons, show (("put" : Str) == "came") = false from by decide +kernel, List.lookup_cons, show (("put" : Str) == "denied") = false from by decide +kernel, List.lookup_cons, show (("put" : Str) == "waiting") = false from by decide +kernel]; rfl
theorem lf_spread (a b c d e f g h : D) : List.lookup ("spread" : Str) [(("offices" : Str), a), (("steps" : Str), b), (("finds" : Str), c), (("latest" : Str), d), (("cuts" : Str), e), (("came" : Str), f), (("denied" : Str), g), (("waiting" : Str), h)] = none := by
  rw [List.lookup_cons, show (("spread" : Str) == "offices") = false from by decide +kernel, List.lookup_cons, show (("spread" : Str) == "steps") = false from by decide +kernel, List.lookup_cons, show (("spread" : Str) == "finds") = false from by decide +kernel, List.lookup_cons, show (("spread" : Str) == "latest") = false from by decide +kernel, List.lookup_cons, show (("spread" : Str) == "cuts") = false from by decide +kernel, List.lookup_cons, show (("spread" : Str) == "came") = false from by decide +kernel, List.lookup_cons, show (("spread" : Str) == "denied") = false from by decide +kernel, List.lookup_cons, show (("spread" : Str) == "waiting") = false from by decide +kernel]; rfl
theorem pf_denied (a b c d e f g h y : D) : putFD ("denied" : Str) y [(("offices" : Str), a), (("steps" : Str), b), (("finds" : Str), c), (("latest" : Str), d), (("cuts" : Str), e), (("came" : Str), f), (("denied" : Str), g), (("waiting" : Str), h)] = [(("offices" : Str), a), (("steps" : Str), b), (("finds" : Str), c), (("latest" : Str), d), (("cuts" : Str), e), (("came" : Str), f), (("denied" : Str), y), (("waiting" : Str), h)] := by
  have n0 : ¬ ("offices" : Str) = "denied" := by decide +kernel
  have n1 : ¬ ("steps" : Str) = "denied" := by decide +kernel
  have n2 : ¬ ("finds" : Str) = "denied" := by decide +kernel
  have n3 : ¬ ("latest" : Str) = "denied" := by decide +kernel
  have n4 : ¬ ("cuts" : Str) = "denied" := by decide +kernel
  have n5 : ¬ ("came" : Str) = "denied" := by decide +kernel
  simp only [putFD, if_neg n0, if_neg n1, if_neg n2, if_neg n3, if_neg n4, if_neg n5, if_true]
theorem pf_waiting (a b c d e f g h y : D) : putFD ("waiting" : Str) y [(("offices" : Str), a), (("steps" : Str), b), (("finds" : Str), c), (("latest" : Str), d), (("cuts" : Str), e), (("came" : Str), f), (("denied" : Str), g), (("waiting" : Str), h)] = [(("offices" : Str), a), (("steps" : Str), b), (("finds" : Str), c), (("latest" : Str), d), (("cuts" : Str), e), (("came" : Str), f), (("denied" : Str), g), (("waiting" : Str), y)] := by
  have n0 : ¬ ("offices" : Str) = "waiting" := by decide +kernel
  have n1 : ¬ ("steps" : Str) = "waiting" := by decide +kernel
  have n2 : ¬ ("finds" : Str) = "waiting" := by decide +kernel
  have n3 : ¬ ("latest" : Str) = "waiting" := by decide +kernel
  have n4 : ¬ ("cuts" : Str) = "waiting" := by decide +kernel
  have n5 : ¬ ("came" : Str) = "waiting" := by decide +kernel
  have n6 : ¬ ("denied" : Str) = "waiting" := by decide +kernel
  simp only [putFD, if_neg n0, if_neg n1, if_neg n2, if_neg n3, if_neg n4, if_neg n5, if_neg n6, if_true]
@[simp] theorem eMeth_apF (c x : Str) (m : List D → Store → R D) (fo : EF) (fr : LF) (env : AEnv) (st : Store) : eMeth c x m fo fr env st = ((fo env st).bind fun d st1 => (selfR c x d st1).bind fun d st1 => (fr env st1).bind fun ds st2 => gcH st2 (m (d :: ds) st2)) := by
  unfold eMeth gcH
  simp only [hid_eq]
theorem gc_casesF {st st' : Store} {d : D} (h : closed st.length d = true) : gcH st (.ok d st') = .ok d st' ∨ (Trim st st' ∧ gcH st (.ok d st') = .ok d (st'.take st.length)) := by
  unfold gcH
  rw [hid_eq]
  unfold gcR
  by_cases t : Trim st st'
  · exact .inr ⟨t, by simp [t, h]⟩
  · exact .inl (by simp [t])
theorem gc_lenF {st st' : Store} {d : D} (h : closed st.length d = true) (hl : st'.length = st.length) : gcH st (.ok d st') = .ok d st' := by
  rcases gc_casesF (st' := st') h with e | ⟨_, e⟩
  · exact e
  · rw [e, List.take_of_length_le (by omega)]
def optD : Option Bd → D
  | none => .non
  | some B => bdD B
def famO (N s f t c g : Nat) (d : D) (w : Nat) : AO := .ins "Family" [("offices", .int N), ("steps", .ref s), ("finds", .ref f), ("latest", .ref t), ("cuts", .ref c), ("came", .ref g), ("denied", d), ("waiting", .ref w)]
structure Fam (p s f w N : Nat) (rs : List Rw) (F : List Fd) (st : Store) (C : Nat → Nat → Int) (dn : Option Bd) (W : List Bd) (e : Nat) : Prop where
  sp : s < p
  fp : f < p
  wp : p + rs.length + 5 ≤ w
  obj : st[p]? = some (famO N s f (p + 1) (p + rs.length + 3) (p + rs.length + 4) (optD dn) w)
  stp : st[s]? = some (.lst (rs.map stpD))
  fnd : st[f]? = some (.lst (F.map fdD))
  lat : ∃ kvs, st[p + 1]? = some (.dct kvs) ∧ LatOk F kvs
  row : ∀ m, m ≤ rs.length → st[p + 2 + m]? = some (.lst ((rowC N C m).map D.int))
  cut : st[p + rs.length + 3]? = some (.lst ((List.range (rs.length + 1)).map fun m => D.ref (p + 2 + m)))
  came : ∃ kvs, st[p + rs.length + 4]? = some (.dcT kvs) ∧ kvs.length ≤ e
  wai : st[w]? = some (.lst (W.map bdD))
/-- all but the family unchanged -/
def SamF (p M w : Nat) (st st' : Store) : Prop := st'.length = st.length ∧ ∀ i, (i < p ∨ (p + M + 5 ≤ i ∧ i ≠ w)) → st'[i]? = st[i]?
theorem SamF.refl {p M w : Nat} {st : Store} : SamF p M w st st := ⟨rfl, fun _ _ => rfl⟩
theorem SamF.trans {p M w : Nat} {st s1 s2 : Store} (h : SamF p M w st s1) (k : SamF p M w s1 s2) : SamF p M w st s2 := ⟨k.1.trans h.1, fun i hi => (k.2 i hi).trans (h.2 i hi)⟩
theorem row_upd {N : Nat} {C : Nat → Nat → Int} {m b : Nat} {k : Int} (hb : b ≤ N) : ((rowC N C m).map D.int).set b (.int k) = (rowC N (updC C m b k) m).map D.int := by
  apply List.ext_getElem?
  intro i
  unfold rowC
  by_cases e : b = i
  · subst e
    rw [List.getElem?_set_self (by simp; omega)]
    simp [List.getElem?_range (show b < N + 1 by omega), updC]
  · rw [List.getElem?_set_ne e]
    by_cases hi : i < N + 1
    · have : ¬ i = b := fun q => e q.symm
      simp [List.getElem?_range hi, updC, this]
    · simp [List.getElem?_eq_none (l := List.range (N + 1)) (i := i) (by simp; omega)]
theorem row_other {N : Nat} {C : Nat → Nat → Int} {m m' b : Nat} {k : Int} (h : m' ≠ m) : rowC N (updC C m b k) m' = rowC N C m' := by
  unfold rowC
  refine List.map_congr_left fun i _ => ?_
  simp [updC, h]
section
variable {p s f w N e : Nat} {rs : List Rw} {F : List Fd} {st : Store} {C : Nat → Nat → Int} {dn : Option Bd} {W : List Bd}
theorem Fam.at_ (h : Fam p s f w N rs F st C dn W e) : st[p]? = some (.ins "Family" [("offices", .int N), ("steps", .ref s), ("finds", .ref f), ("latest", .ref (p + 1)), ("cuts", .ref (p + rs.length + 3)), ("came", .ref (p + rs.length + 4)), ("denied", optD dn), ("waiting", .ref w)]) := h.obj
theorem Fam.self (h : Fam p s f w N rs F st C dn W e) {x : Str} (hx : ∀ a b c d e f g h : D, List.lookup x [(("offices" : Str), a), ("steps", b), ("finds", c), ("latest", d), ("cuts", e), ("came", f), ("denied", g), ("waiting", h)] = none) : selfR "Family" x (.ref p) st = .ok (.ref p) st := by
  simp [selfR, h.at_, hx]
theorem isNon_opt : isNonD (optD dn) = dn.isNone := by cases dn <;> rfl
theorem put_idle {B : Bd} {ah : D} (h : Fam p s f w N rs F st C dn W e) (hm : B.m ≤ rs.length) (hb : B.b ≤ N) (hk : dn ≠ none ∨ B.k ≤ C B.m B.b) : m_Family__m_put [.ref p, bdD B, ah] st = .ok .non st := by
  have eB : bdD B = .tup [.int B.m, .int B.b, .int B.k] := rfl
  have ob := h.at_
  rw [m_Family__m_put_eq, eB]
  cases dn with
  | some B0 =>
    simp [ob, lf_denied, optD, bdD]
  | none =>
    have hk : B.k ≤ C B.m B.b := hk.resolve_left (fun q => q rfl)
    have g1 : getD (.ref (p + rs.length + 3)) (.int B.m) st = .ok (.ref (p + 2 + B.m)) st := getD_r h.cut rfl (by rw [List.getElem?_map, List.getElem?_range (by omega)]; rfl)
    have g2 : getD (.ref (p + 2 + B.m)) (.int B.b) st = .ok (.int (C B.m B.b)) st := getD_r (h.row B.m hm) rfl (by unfold rowC; rw [List.getElem?_map, List.getElem?_map, List.getElem?_range (by omega)]; rfl)
    have hk' : ¬ C B.m B.b < B.k := by omega
    simp [ob, lf_denied, lf_cuts, optD, g1, g2, hk']
open Classical in
theorem put_keep {B : Bd} {ah : D} (h : Fam p s f w N rs F st C none W e) (hm : B.m ≤ rs.length) (hb : B.b ≤ N) (hk : C B.m B.b < B.k) (he : e ≤ 200000) (hW : W.length ≤ 200000) (hF : F.length ≤ 1000) :
    ∃ st', m_Family__m_put [.ref p, bdD B, ah] st = .ok .non st' ∧ Fam p s f w N rs F st' (updC C B.m B.b B.k) (if Denied F B.m B.b B.k then some B else none) (W ++ [B]) (e + 1) ∧ SamF p rs.length w st st' ∧ ∀ kvs, st[p + rs.length + 4]? = some (.dcT kvs) → ∃ ks, keyT (bdD B) = some ks ∧ st'[p + rs.length + 4]? = some (.dcT (putKs keyT (bdD B) ks ah kvs)) := by
  have eB : bdD B = .tup [.int B.m, .int B.b, .int B.k] := rfl
  have ob := h.at_
  obtain ⟨kvs, hkv, hkl⟩ := h.came
  obtain ⟨kv1, hl1, hl2⟩ := h.lat
  have zk : kvs.length < sizeLine := by have q : kvs.length + 1 ≤ sizeLine := szl (by omega); omega
  have zw : (W.map bdD).length < sizeLine := by have q : W.length + 1 ≤ sizeLine := szl (by omega); simp; omega
  have g1 : ∀ s1 : Store, s1[p + rs.length + 3]? = st[p + rs.length + 3]? → getD (.ref (p + rs.length + 3)) (.int B.m) s1 = .ok (.ref (p + 2 + B.m)) s1 := fun s1 q => getD_r (q.trans h.cut) rfl (by rw [List.getElem?_map, List.getElem?_range (by omega)]; rfl)
  have g2 : getD (.ref (p + 2 + B.m)) (.int B.b) st = .ok (.int (C B.m B.b)) st := getD_r (h.row B.m hm) rfl (by unfold rowC; rw [List.getElem?_map, List.getElem?_map, List.getElem?_range (by omega)]; rfl)
  have hw := h.wp
  have hs := h.sp
  have hf := h.fp
  have lw := (List.getElem?_eq_some_iff.mp h.wai).1
  have lg := (List.getElem?_eq_some_iff.mp hkv).1
  have lr := (List.getElem?_eq_some_iff.mp (h.row B.m hm)).1
  have lp := (List.getElem?_eq_some_iff.mp h.obj).1
  have ix : ixN ((rowC N C B.m).map D.int).length (B.b : Int) = some B.b := by
    have : ((rowC N C B.m).map D.int).length = N + 1 := by simp [rowC]
    rw [this]
    unfold ixN
    rw [if_pos (by omega), if_pos (by omega)]
    simp
  have ru := row_upd (C := C) (m := B.m) (k := B.k) hb
  obtain ⟨s1, hs1⟩ : ∃ s1, s1 = st.set (p + 2 + B.m) (.lst ((rowC N (updC C B.m B.b B.k) B.m).map D.int)) := ⟨_, rfl⟩
  have l1 : ∀ i, i ≠ p + 2 + B.m → s1[i]? = st[i]? := fun i hi => by rw [hs1, List.getElem?_set_ne (Ne.symm hi)]
  have r1 : s1[p + 2 + B.m]? = some (.lst ((rowC N (updC C B.m B.b B.k) B.m).map D.int)) := by rw [hs1, List.getElem?_set_self lr]
  have n1 : s1.length = st.length := by rw [hs1, List.length_set]
  obtain ⟨ks, hks⟩ : ∃ ks, keyT (.tup [.int B.m, .int B.b, .int B.k]) = some ks := ⟨_, rfl⟩
  obtain ⟨s2, hs2⟩ : ∃ s2, s2 = s1.set (p + rs.length + 4) (.dcT (putKs keyT (.tup [.int B.m, .int B.b, .int B.k]) ks ah kvs)) := ⟨_, rfl⟩
  have l2 : ∀ i, i ≠ p + rs.length + 4 → s2[i]? = s1[i]? := fun i hi => by rw [hs2, List.getElem?_set_ne (Ne.symm hi)]
  have r2 : s2[p + rs.length + 4]? = some (.dcT (putKs keyT (.tup [.int B.m, .int B.b, .int B.k]) ks ah kvs)) := by rw [hs2, List.getElem?_set_self (by omega)]
  have n2 : s2.length = st.length := by rw [hs2, List.length_set, n1]
  obtain ⟨s3, hs3⟩ : ∃ s3, s3 = s2.set w (.lst (W.map bdD ++ [.tup [.int B.m, .int B.b, .int B.k]])) := ⟨_, rfl⟩
  have l3 : ∀ i, i ≠ w → s3[i]? = s2[i]? := fun i hi => by rw [hs3, List.getElem?_set_ne (Ne.symm hi)]
  have r3 : s3[w]? = some (.lst (W.map bdD ++ [.tup [.int B.m, .int B.b, .int B.k]])) := by rw [hs3, List.getElem?_set_self (by omega)]
  have n3 : s3.length = st.length := by rw [hs3, List.length_set, n2]
  have o1 : s1[p]? = st[p]? := l1 p (by omega)
  have o2 : s2[p]? = st[p]? := (l2 p (by omega)).trans o1
  have o3 : s3[p]? = st[p]? := (l3 p (by omega)).trans o2
  have w2 : s2[w]? = some (.lst (W.map bdD)) := ((l2 w (by omega)).trans (l1 w (by omega))).trans h.wai
  have f3 : s3[f]? = some (.lst (F.map fdD)) := ((l3 f (by omega)).trans ((l2 f (by omega)).trans (l1 f (by omega)))).trans h.fnd
  have dp : ∀ env, dputR (p + rs.length + 4) (.tup [.int B.m, .int B.b, .int B.k]) ah env s1 = .next env s2 := fun env => by
    have : s1[p + rs.length + 4]? = some (.dcT kvs) := (l1 _ (by omega)).trans hkv
    simp only [dputR, this, hks]
    rw [if_pos zk, hs2]
  have ap : appendG (.ref w) [.tup [.int B.m, .int B.b, .int B.k]] s2 = .ok .non s3 := by rw [appendG_ref w2 zw, hs3]
  have dn3 := is_denied_ok B f3 hF
  rw [eB] at dn3
  obtain ⟨s5, hs5⟩ : ∃ s5, s5 = (if Denied F B.m B.b B.k then s3.set p (famO N s f (p + 1) (p + rs.length + 3) (p + rs.length + 4) (bdD B) w) else s3) := ⟨_, rfl⟩
  have l5 : ∀ i, i ≠ p → s5[i]? = s3[i]? := fun i hi => by
    rw [hs5]
    split
    · rw [List.getElem?_set_ne (Ne.symm hi)]
    · rfl
  have n5 : s5.length = st.length := by rw [hs5]; split <;> simp [n3]
  have p5 : s5[p]? = some (famO N s f (p + 1) (p + rs.length + 3) (p + rs.length + 4) (optD (if Denied F B.m B.b B.k then some B else none)) w) := by
    rw [hs5]
    by_cases q : Denied F B.m B.b B.k
    · rw [if_pos q, if_pos q, List.getElem?_set_self (by omega)]; rfl
    · rw [if_neg q, if_neg q, o3]; exact h.obj
  refine ⟨s5, ?_, ⟨hs, hf, hw, p5, ?_, ?_, ?_, ?_, ?_, ?_, ?_⟩, ⟨n5, fun i hi => ?_⟩, fun kv hkv' => ⟨ks, hks, ?_⟩⟩
  · rw [m_Family__m_put_eq, eB]
    have e1 : st.set (p + 2 + B.m) (.lst (((rowC N C B.m).map D.int).set B.b (.int B.k))) = s1 := by rw [ru, hs1]
    have ob1 := o1.trans ob
    have ob2 := o2.trans ob
    have ob3 := o3.trans ob
    have hd : optD (none : Option Bd) = .non := rfl
    rw [hd] at ob ob1 ob2 ob3
    have g1' := g1 st rfl
    have row' := h.row B.m hm
    by_cases q : Denied F B.m B.b B.k
    · have q5 : s3.set p (.ins "Family" [("offices", .int N), ("steps", .ref s), ("finds", .ref f), ("latest", .ref (p + 1)), ("cuts", .ref (p + rs.length + 3)), ("came", .ref (p + rs.length + 4)), ("denied", .tup [.int B.m, .int B.b, .int B.k]), ("waiting", .ref w)]) = s5 := by rw [hs5, if_pos q]; rfl
      simp [ob, lf_denied, lf_cuts, g1', g2, hk, row', -List.length_map, ix, e1, ob1, lf_came, dp, ob2, lf_waiting, w2, ap, ob3, lf_finds, dn3, q, pf_denied, q5]
    · have q5 : s3 = s5 := by rw [hs5, if_neg q]
      simp [ob, lf_denied, lf_cuts, g1', g2, hk, row', -List.length_map, ix, e1, ob1, lf_came, dp, ob2, lf_waiting, w2, ap, ob3, lf_finds, dn3, q]
      exact q5
  · rw [l5 s (by omega), l3 s (by omega), l2 s (by omega), l1 s (by omega)]; exact h.stp
  · rw [l5 f (by omega)]; exact f3
  · exact ⟨kv1, by rw [l5 _ (by omega), l3 _ (by omega), l2 _ (by omega), l1 _ (by omega)]; exact hl1, hl2⟩
  · intro m' hm'
    rw [l5 _ (by omega), l3 _ (by omega), l2 _ (by omega)]
    by_cases q : m' = B.m
    · subst q; exact r1
    · rw [l1 _ (by omega), row_other q]; exact h.row m' hm'
  · rw [l5 _ (by omega), l3 _ (by omega), l2 _ (by omega), l1 _ (by omega)]; exact h.cut
  · exact ⟨_, by rw [l5 _ (by omega), l3 _ (by omega)]; exact r2, by have := putKs_len (f := keyT) (key := .tup [.int B.m, .int B.b, .int B.k]) (k := ks) (y := ah) kvs; omega⟩
  · rw [l5 _ (by omega), List.map_append]; exact r3
  · rw [l5 _ (by omega), l3 _ (by omega), l2 _ (by omega), l1 _ (by omega)]
  · rw [hkv] at hkv'
    cases hkv'
    rw [l5 _ (by omega), l3 _ (by omega)]
    exact r2
end
end TK

set_option Elab.async false
set_option linter.all false
set_option maxRecDepth 100000
set_option maxHeartbeats 4000000
namespace TK
open PySem PySem.Spec
open PyProof.Rows hiding St
open L2
/-! ## whence each bound came -/
def kvD (x : Bd × Option Bd) : D × D := (bdD x.1, optD x.2)
def hasB (K : List (Bd × Option Bd)) (B : Bd) : Prop := ∃ a, (B, a) ∈ K
structure Cam (N : Nat) (rs : List Rw) (F : List Fd) (C : Nat → Nat → Int) (dn : Option Bd) (P : Bd → Prop) (K : List (Bd × Option Bd)) : Prop where
  chn : ∀ (i : Nat) (x : Bd × Option Bd), K[i]? = some x → (x.2 = none ∧ x.1 ∈ firstB N F) ∨ ∃ (A : Bd) (j : Nat) (a : Option Bd), x.2 = some A ∧ x.1 ∈ bdsF N rs F A ∧ j < i ∧ K[j]? = some (A, a)
  low : ∀ x ∈ K, x.1.k ≤ C x.1.m x.1.b
  nod : ∀ (i j : Nat) (x y : Bd × Option Bd), K[i]? = some x → K[j]? = some y → x.1 = y.1 → i = j
  pen : ∀ B, P B → hasB K B
  den : ∀ B, dn = some B → hasB K B
theorem Cam.sub {N : Nat} {rs : List Rw} {F : List Fd} {C : Nat → Nat → Int} {dn : Option Bd} {P P' : Bd → Prop} {K : List (Bd × Option Bd)} (h : Cam N rs F C dn P K) (hP : ∀ B, P' B → P B) : Cam N rs F C dn P' K := ⟨h.chn, h.low, h.nod, fun B q => h.pen B (hP B q), h.den⟩
theorem Cam.new {N : Nat} {rs : List Rw} {F : List Fd} {C : Nat → Nat → Int} {dn : Option Bd} {P : Bd → Prop} {K : List (Bd × Option Bd)} {B : Bd} (h : Cam N rs F C dn P K) (hk : C B.m B.b < B.k) : ∀ x ∈ K, x.1 ≠ B := fun x hx e => by
  have := h.low x hx
  rw [e] at this
  omega
open Classical in
theorem Cam.put {N : Nat} {rs : List Rw} {F : List Fd} {C : Nat → Nat → Int} {P : Bd → Prop} {K : List (Bd × Option Bd)} {B : Bd} {a : Option Bd} (h : Cam N rs F C none P K) (hk : C B.m B.b < B.k) (ha : (a = none ∧ B ∈ firstB N F) ∨ ∃ A, a = some A ∧ P A ∧ B ∈ bdsF N rs F A) :
    Cam N rs F (updC C B.m B.b B.k) (if Denied F B.m B.b B.k then some B else none) (fun X => P X ∨ X ∈ [B]) (K ++ [(B, a)]) := by
  have last : ∀ (i : Nat) (x : Bd × Option Bd), (K ++ [(B, a)])[i]? = some x → (K[i]? = some x ∧ i < K.length) ∨ (i = K.length ∧ x = (B, a)) := fun i x hx => by
    by_cases c : i < K.length
    · rw [List.getElem?_append_left c] at hx
      exact .inl ⟨hx, c⟩
    · rw [List.getElem?_append_right (by omega)] at hx
      have : i - K.length = 0 := by
        by_cases z : i - K.length = 0
        · exact z
        · rw [List.getElem?_eq_none (by simp; omega)] at hx; cases hx
      rw [this] at hx
      cases hx
      exact .inr ⟨by omega, rfl⟩
  have nw := h.new hk
  refine ⟨fun i x hx => ?_, fun x hx => ?_, fun i j x y hx hy e => ?_, fun X hX => ?_, fun X hX => ?_⟩
  · rcases last i x hx with ⟨q, hl⟩ | ⟨rfl, rfl⟩
    · rcases h.chn i x q with z | ⟨A, j, a', z1, z2, z3, z4⟩
      · exact .inl z
      · exact .inr ⟨A, j, a', z1, z2, z3, by rw [List.getElem?_append_left (by omega)]; exact z4⟩
    · rcases ha with z | ⟨A, z1, z2, z3⟩
      · exact .inl z
      · obtain ⟨a', hm⟩ := h.pen A z2
        obtain ⟨j, hj, e⟩ := List.getElem_of_mem hm
        exact .inr ⟨A, j, a', z1, z3, hj, by rw [List.getElem?_append_left hj, List.getElem?_eq_getElem hj, e]⟩
  · rcases List.mem_append.mp hx with q | q
    · exact Int.le_trans (h.low x q) (updC_le hk _ _)
    · rw [List.mem_singleton.mp q]
      rw [updC_at]
      exact Int.le_refl _
  · rcases last i x hx with ⟨q, hl⟩ | ⟨rfl, rfl⟩ <;> rcases last j y hy with ⟨q', hl'⟩ | ⟨rfl, rfl⟩
    · exact h.nod i j x y q q' e
    · exact absurd e (nw x (List.mem_of_getElem? q))
    · exact absurd e.symm (nw y (List.mem_of_getElem? q'))
    · rfl
  · rcases hX with q | q
    · obtain ⟨a', hm⟩ := h.pen X q
      exact ⟨a', List.mem_append_left _ hm⟩
    · rw [List.mem_singleton.mp q]
      exact ⟨a, by simp⟩
  · split at hX
    · cases hX
      exact ⟨a, by simp⟩
    · cases hX
def kB (B : Bd) : List Key := [.inl (B.m : Int), .inl (B.b : Int), .inl B.k]
theorem keyT_bd (B : Bd) : keyT (bdD B) = some (kB B) := rfl
theorem kB_inj {A B : Bd} (h : kB A = kB B) : A = B := by
  unfold kB at h
  simp at h
  obtain ⟨h1, h2, h3⟩ := h
  cases A; cases B
  simp only at h1 h2 h3
  congr 1 <;> omega
theorem getK_none {B : Bd} : ∀ {K : List (Bd × Option Bd)}, (∀ x ∈ K, x.1 ≠ B) → getKs keyT (kB B) (K.map kvD) = none
  | [], _ => rfl
  | x :: K, h => by
    have h1 : ¬ keyT (bdD x.1) = some (kB B) := by
      rw [keyT_bd]
      intro e
      exact h x (by simp) (kB_inj (Option.some.inj e))
    show (if keyT (bdD x.1) = some (kB B) then some (optD x.2) else getKs keyT (kB B) (K.map kvD)) = none
    rw [if_neg h1]
    exact getK_none fun y hy => h y (List.mem_cons_of_mem _ hy)
theorem getK_some {B : Bd} {a : Option Bd} : ∀ {K : List (Bd × Option Bd)} {i : Nat}, K[i]? = some (B, a) → (∀ (j : Nat) (x : Bd × Option Bd), K[j]? = some x → x.1 = B → j = i) → getKs keyT (kB B) (K.map kvD) = some (optD a)
  | [], _, h, _ => by simp at h
  | x :: K, 0, h, _ => by
    have h : x = (B, a) := by simpa using h
    subst h
    show (if keyT (bdD B) = some (kB B) then some (optD a) else _) = _
    rw [if_pos (keyT_bd B)]
  | x :: K, i + 1, h, u => by
    have h1 : ¬ keyT (bdD x.1) = some (kB B) := by
      rw [keyT_bd]
      intro e
      have := u 0 x rfl (kB_inj (Option.some.inj e))
      omega
    show (if keyT (bdD x.1) = some (kB B) then some (optD x.2) else getKs keyT (kB B) (K.map kvD)) = _
    rw [if_neg h1]
    exact getK_some (i := i) (by simpa using h) fun j y hj e => by
      have := u (j + 1) y (by simpa using hj) e
      omega
theorem putKs_new {B : Bd} {a : Option Bd} {K : List (Bd × Option Bd)} {ks : List Key} (h : ∀ x ∈ K, x.1 ≠ B) (hk : keyT (bdD B) = some ks) : putKs keyT (bdD B) ks (optD a) (K.map kvD) = (K ++ [(B, a)]).map kvD := by
  rw [keyT_bd] at hk
  cases hk
  unfold putKs
  rw [getK_none h]
  simp [kvD]
structure FS (p s f w N : Nat) (rs : List Rw) (F : List Fd) (st : Store) (C : Nat → Nat → Int) (dn : Option Bd) (W : List Bd) (e : Nat) (P : Bd → Prop) : Prop where
  fam : Fam p s f w N rs F st C dn W e
  spr : Spr N rs F C dn P
  cnt : (e : Int) ≤ totC N rs.length C + (rs.length + 1 : Nat) * ((N + 1 : Nat) * 1)
  wle : W.length ≤ e
  wder : ∀ B ∈ W, DerB N rs F B
  cam : ∃ K : List (Bd × Option Bd), st[p + rs.length + 4]? = some (.dcT (K.map kvD)) ∧ Cam N rs F C dn P K
/-- what stands fast -/
structure Par (N : Nat) (rs : List Rw) (F : List Fd) : Prop where
  n1 : 1 ≤ N
  n12 : N ≤ 12
  m60 : rs.length ≤ 60 ∨ (rs.length ≤ 1200 ∧ (rs.length + 1) * ((N + 1) * 25) ≤ 130000)
  hrs : ∀ r ∈ rs, RwOk N r
  hF : ∀ f ∈ F, FdOk N rs.length f
  f40 : F.length ≤ 40
theorem Par.mM {N : Nat} {rs : List Rw} {F : List Fd} (h : Par N rs F) : rs.length ≤ 1200 := by
  rcases h.m60 with h | h <;> omega
theorem Par.big {N : Nat} {rs : List Rw} {F : List Fd} (h : Par N rs F) : (rs.length + 1) * ((N + 1) * 25) ≤ 130000 := by
  rcases h.m60 with q | q
  · have e2 : (rs.length + 1) * ((N + 1) * 25) ≤ 61 * (13 * 25) := Nat.mul_le_mul (by omega) (Nat.mul_le_mul (by have := h.n12; omega) (Nat.le_refl _))
    have e3 : (61 * (13 * 25) : Nat) = 19825 := by decide
    omega
  · exact q.2
section
variable {p s f w N e : Nat} {rs : List Rw} {F : List Fd} {st : Store} {C : Nat → Nat → Int} {dn : Option Bd} {W : List Bd} {P P' : Bd → Prop}
theorem cell_le (hp : Par N rs F) (h : Spr N rs F C dn P) : ∀ m, m ≤ rs.length → ∀ b, b ≤ N → C m b ≤ 24 := fun m hm b hb => by
  have h12 := hp.n12
  rcases h.low m hm b hb with q | q
  · omega
  · have := (q.size hp.hF hp.hrs).2; omega
theorem FS.e_le (hp : Par N rs F) (h : FS p s f w N rs F st C dn W e P) : e ≤ 130000 := by
  have h1 := tot_le (cell_le hp h.spr)
  have h2 := h.cnt
  have e1 : ((rs.length + 1 : Nat) : Int) * (((N + 1 : Nat) : Int) * 24) + ((rs.length + 1 : Nat) : Int) * (((N + 1 : Nat) : Int) * 1) = (((rs.length + 1) * ((N + 1) * 25) : Nat) : Int) := by
    push_cast
    rw [← Int.mul_add]
    congr 1
    omega
  have e2 := hp.big
  omega
theorem FS.sub (h : FS p s f w N rs F st C dn W e P) (hP : ∀ B, P B → P' B) (hP' : ∀ B, P' B → P B) : FS p s f w N rs F st C dn W e P' := ⟨h.fam, h.spr.sub hP, h.cnt, h.wle, h.wder, by
  obtain ⟨K, k1, k2⟩ := h.cam
  exact ⟨K, k1, k2.sub hP'⟩⟩
open Classical in
theorem put_full {B : Bd} {a : Option Bd} (hp : Par N rs F) (h : FS p s f w N rs F st C dn W e P) (hB : DerB N rs F B) (ha : (a = none ∧ B ∈ firstB N F) ∨ ∃ A, a = some A ∧ P A ∧ B ∈ bdsF N rs F A) :
    ∃ st' C' dn' W', gcH st (m_Family__m_put [.ref p, bdD B, optD a] st) = .ok .non st' ∧ FS p s f w N rs F st' C' dn' (W ++ W') (e + W'.length) (fun X => P X ∨ X ∈ W') ∧ SamF p rs.length w st st' ∧ leC C C' ∧ (dn' = none → dn = none ∧ B.k ≤ C' B.m B.b) := by
  obtain ⟨hm, hb⟩ := Der.at hp.hF hB
  by_cases c : dn = none ∧ C B.m B.b < B.k
  · obtain ⟨rfl, hk⟩ := c
    have he := h.e_le hp
    have hw := h.wle
    obtain ⟨st', e1, f1, s1, u1⟩ := put_keep (ah := optD a) h.fam hm hb hk (by omega) (by omega) (by have := hp.f40; omega)
    refine ⟨st', _, _, [B], by rw [e1]; exact gc_lenF rfl s1.1, ⟨f1, (h.spr.keep hB hk).sub fun X q => q.imp id (fun z => by simp [z]), ?_, by simp; omega, ?_, ?_⟩, s1, updC_le hk, fun _ => ⟨rfl, by rw [updC_at]; exact Int.le_refl _⟩⟩
    · have := tot_put (N := N) (M := rs.length) hm hb hk
      have := h.cnt
      simp only [List.length_singleton]
      omega
    · intro X hX
      rcases List.mem_append.mp hX with q | q
      · exact h.wder X q
      · rw [List.mem_singleton.mp q]; exact hB
    · obtain ⟨K, k1, k2⟩ := h.cam
      obtain ⟨ks, v1, v2⟩ := u1 _ k1
      exact ⟨K ++ [(B, a)], by rw [v2, putKs_new (k2.new hk) v1], k2.put hk ha⟩
  · have hk : dn ≠ none ∨ B.k ≤ C B.m B.b := by
      by_cases q : dn = none
      · right
        by_cases z : C B.m B.b < B.k
        · exact absurd ⟨q, z⟩ c
        · omega
      · exact .inl q
    refine ⟨st, C, dn, [], by rw [put_idle h.fam hm hb hk]; exact gcR_non, ?_, .refl, .refl, fun q => ⟨q, hk.resolve_left fun z => z q⟩⟩
    rw [List.append_nil]
    exact h.sub (fun X q => .inl q) fun X q => (by rcases q with q | q; exact q; cases q)
/-- all bounds of a list put, one by one -/
theorem puts_ok {Bs : List Bd} {B0 : Bd} {o1 o3 : Option D} (hp : Par N rs F) (h : FS p s f w N rs F st C dn W e P) (hB : ∀ B ∈ Bs, DerB N rs F B) (h0 : P B0) (hb0 : ∀ B ∈ Bs, B ∈ bdsF N rs F B0) :
    ∃ st' C' dn' W' o3', loopF (.name 3) (sDrop (eMeth "Family" "put" m_Family__m_put (eVar 0) (lCons (eVar 3) (lCons (eVar 2) lNil)))) (Bs.map bdD, []) (Bs.map bdD) [some (.ref p), o1, some (bdD B0), o3] st = .next [some (.ref p), o1, some (bdD B0), o3'] st' ∧
      FS p s f w N rs F st' C' dn' (W ++ W') (e + W'.length) (fun X => P X ∨ X ∈ W') ∧ SamF p rs.length w st st' ∧ leC C C' ∧ (dn' = none → dn = none ∧ ∀ B ∈ Bs, B.k ≤ C' B.m B.b) := by
  obtain ⟨e1, st', h1, o3', C', dn', W', rfl, h2, h3, h4, h5⟩ := loopF_next (g := (Bs.map bdD, [])) (ds := Bs.map bdD) (t := .name 3) (body := sDrop (eMeth "Family" "put" m_Family__m_put (eVar 0) (lCons (eVar 3) (lCons (eVar 2) lNil)))) (env := [some (.ref p), o1, some (bdD B0), o3]) (st := st) rfl
    (fun i env s1 => ∃ o3' C' dn' W', env = [some (.ref p), o1, some (bdD B0), o3'] ∧ FS p s f w N rs F s1 C' dn' (W ++ W') (e + W'.length) (fun X => P X ∨ X ∈ W') ∧ SamF p rs.length w st s1 ∧ leC C C' ∧ (dn' = none → dn = none ∧ ∀ j, j < i → ∀ B, Bs[j]? = some B → B.k ≤ C' B.m B.b))
    ⟨o3, C, dn, [], rfl, by rw [List.append_nil]; exact h.sub (fun X q => .inl q) fun X q => (by rcases q with q | q; exact q; cases q), .refl, .refl, fun q => ⟨q, fun j hj => by omega⟩⟩ fun i d env s1 hI hd => by
      obtain ⟨o3', C1, dn1, W1, rfl, h2, h3, h4, h5⟩ := hI
      rw [List.getElem?_map] at hd
      cases hri : Bs[i]? with
      | none => rw [hri] at hd; cases hd
      | some B =>
        rw [hri] at hd
        cases hd
        obtain ⟨s2, C2, dn2, W2, e2, g2, g3, g4, g5⟩ := put_full (a := some B0) hp h2 (hB B (List.mem_of_getElem? hri)) (.inr ⟨B0, rfl, .inl h0, hb0 B (List.mem_of_getElem? hri)⟩)
        have e2 : gcH s1 (m_Family__m_put [.ref p, bdD B, bdD B0] s1) = .ok .non s2 := e2
        have sf := h2.fam.self (x := "put") lf_put
        refine ⟨_, asgT_name _ _ _, [some (.ref p), o1, some (bdD B0), some (bdD B)], s2, .inl ?_, by simp, _, C2, dn2, W1 ++ W2, rfl, ?_, h3.trans g3, h4.trans g4, fun q => ?_⟩
        · simp [sf, e2]
        · rw [← List.append_assoc, List.length_append, ← Nat.add_assoc]
          exact g2.sub (fun X z => by
            rcases z with (z | z) | z
            · exact .inl z
            · exact .inr (List.mem_append_left _ z)
            · exact .inr (List.mem_append_right _ z)) fun X z => by
            rcases z with z | z
            · exact .inl (.inl z)
            · rcases List.mem_append.mp z with z | z
              · exact .inl (.inr z)
              · exact .inr z
        · obtain ⟨q1, q2⟩ := g5 q
          obtain ⟨q3, q4⟩ := h5 q1
          refine ⟨q3, fun j hj B' hB' => ?_⟩
          by_cases z : j = i
          · subst z
            rw [hri] at hB'
            cases hB'
            exact q2
          · exact Int.le_trans (q4 j (by omega) B' hB') (g4 _ _)
  refine ⟨st', C', dn', W', o3', h1, h2, h3, h4, fun q => ⟨(h5 q).1, fun B hB' => ?_⟩⟩
  obtain ⟨j, hj, rfl⟩ := List.getElem_of_mem hB'
  exact (h5 q).2 j (by simpa using hj) _ (List.getElem?_eq_getElem hj)
end
end TK

set_option Elab.async false
set_option linter.all false
set_option maxRecDepth 100000
set_option maxHeartbeats 4000000
namespace TK
open PySem PySem.Spec
open PyProof.Rows hiding St
open L2
theorem loopW_postF {c : BF} {body : SF} (I : Nat → AEnv → Store → Prop) (Q : AEnv → Store → Prop)
    (hs : ∀ m e s, I m e s → (c e s = .ok false s ∧ Q e s) ∨ (∃ m', m = m' + 1 ∧ c e s = .ok true s ∧ ∃ e' s', body e s = .next e' s' ∧ I m' e' s')) :
    ∀ n m e s, I m e s → m < n → ∃ e' s', loopW c body n e s = .next e' s' ∧ Q e' s'
  | 0, m, e, s, _, h => by omega
  | n + 1, m, e, s, hI, h => by
    rcases hs m e s hI with ⟨h1, h2⟩ | ⟨m', rfl, h1, e', s', h2, h3⟩
    · exact ⟨e, s, by simp [loopW, h1], h2⟩
    · obtain ⟨e2, s2, h4, h5⟩ := loopW_postF I Q hs n m' e' s' h3 (by omega)
      exact ⟨e2, s2, by simp [loopW, h1, h2, h4], h5⟩
theorem loopW_goF {c : BF} {body : SF} {n m : Nat} {env : AEnv} {st : Store} {r : RS} (hr : loopW c body n env st = r) (I : Nat → AEnv → Store → Prop) (Q : AEnv → Store → Prop) (h0 : I m env st) (hm : m < n)
    (hs : ∀ m e s, I m e s → (c e s = .ok false s ∧ Q e s) ∨ (∃ m', m = m' + 1 ∧ c e s = .ok true s ∧ ∃ e' s', body e s = .next e' s' ∧ I m' e' s')) : ∃ e s, r = .next e s ∧ Q e s := by
  subst hr
  exact loopW_postF I Q hs n m env st h0 hm

section
variable {p s f w N e : Nat} {rs : List Rw} {F : List Fd} {st : Store} {C : Nat → Nat → Int} {dn : Option Bd} {W : List Bd} {P P' : Bd → Prop}
/-- a new list of those that wait -/
theorem Fam.fresh (h : Fam p s f w N rs F st C dn W e) : Fam p s f st.length N rs F ((st ++ [AO.lst []]).set p (famO N s f (p + 1) (p + rs.length + 3) (p + rs.length + 4) (optD dn) st.length)) C dn [] e ∧ ((st ++ [AO.lst []]).set p (famO N s f (p + 1) (p + rs.length + 3) (p + rs.length + 4) (optD dn) st.length))[w]? = some (.lst (W.map bdD)) := by
  have hw := h.wp
  have hs := h.sp
  have hf := h.fp
  have lw := (List.getElem?_eq_some_iff.mp h.wai).1
  have k : ∀ i, i ≠ p → i < st.length → ((st ++ [AO.lst []]).set p (famO N s f (p + 1) (p + rs.length + 3) (p + rs.length + 4) (optD dn) st.length))[i]? = st[i]? := fun i h1 h2 => by
    rw [List.getElem?_set_ne (Ne.symm h1), List.getElem?_append_left h2]
  obtain ⟨kv1, l1, l2⟩ := h.lat
  obtain ⟨kv2, l3, l4⟩ := h.came
  refine ⟨⟨hs, hf, by omega, List.getElem?_set_self (by simp; omega), ?_, ?_, ⟨kv1, ?_, l2⟩, fun m hm => ?_, ?_, ⟨kv2, ?_, l4⟩, ?_⟩, ?_⟩
  · rw [k s (by omega) (by omega)]; exact h.stp
  · rw [k f (by omega) (by omega)]; exact h.fnd
  · rw [k (p + 1) (by omega) (by omega)]; exact l1
  · rw [k (p + 2 + m) (by omega) (by omega)]; exact h.row m hm
  · rw [k (p + rs.length + 3) (by omega) (by omega)]; exact h.cut
  · rw [k (p + rs.length + 4) (by omega) (by omega)]; exact l3
  · rw [List.getElem?_set_ne (by omega), List.getElem?_append_right (Nat.le_refl _)]; simp
  · rw [k w (by omega) lw]; exact h.wai
noncomputable def inBody : SF := (sFor (.name 2) (iSeqF (eVar 1)) (sFor (.name 3) (iLstF (lDrop (eCall m_bounds_from (lCons (eFld ["Family"] "offices" (eVar 0)) (lCons (eFld ["Family"] "steps" (eVar 0)) (lCons (eFld ["Family"] "latest" (eVar 0)) (lCons (eVar 2) lNil))))))) (sDrop (eMeth "Family" "put" m_Family__m_put (eVar 0) (lCons (eVar 3) (lCons (eVar 2) lNil))))))
theorem in_ok {w0 : Nat} {o2 o3 : Option D} (hp : Par N rs F) (h : FS p s f w N rs F st C dn [] e (fun X => X ∈ W)) (hw0 : st[w0]? = some (.lst (W.map bdD))) (hne : p + rs.length + 5 ≤ w0 ∧ w0 ≠ w) (hW : ∀ B ∈ W, DerB N rs F B) :
    ∃ st' C' dn' W' o2' o3', inBody [some (.ref p), some (.ref w0), o2, o3] st = .next [some (.ref p), some (.ref w0), o2', o3'] st' ∧ FS p s f w N rs F st' C' dn' W' (e + W'.length) (fun X => X ∈ W') ∧ SamF p rs.length w st st' ∧ leC C C' ∧ (dn' = none → dn = none) := by
  have sq : ∀ s1 : Store, s1[w0]? = st[w0]? → seqOf (.ref w0) s1 = some (W.map bdD) := fun s1 q => by rw [seqOf_ref, q, hw0]
  unfold inBody
  have e0 : iSeqF (eVar 1) [some (.ref p), some (.ref w0), o2, o3] st = .ok (W.map bdD, [(w0, W.map bdD)]) st := by
    simp [hw0]
  rw [sFor_ap, e0]
  simp only [sOf_ok]
  rw [if_pos (by simp [hw0])]
  generalize hq : loopF _ _ _ _ _ _ = r
  obtain ⟨e1, st', rfl, o2', o3', C', dn', W', rfl, h2, h3, h4, h9⟩ := loopF_next hq
    (fun i env s1 => ∃ o2' o3' C' dn' W', env = [some (.ref p), some (.ref w0), o2', o3'] ∧ FS p s f w N rs F s1 C' dn' W' (e + W'.length) (fun X => X ∈ W.drop i ∨ X ∈ W') ∧ SamF p rs.length w st s1 ∧ leC C C' ∧ (dn' = none → dn = none))
    ⟨o2, o3, C, dn, [], rfl, h.sub (fun X q => .inl q) fun X q => (by rcases q with q | q; exact q; cases q), .refl, .refl, id⟩ fun i d env s1 hI hd => by
      obtain ⟨o2', o3', C1, dn1, W1, rfl, h2, h3, h4, h9⟩ := hI
      rw [List.getElem?_map] at hd
      cases hri : W[i]? with
      | none => rw [hri] at hd; cases hd
      | some B =>
        rw [hri] at hd
        cases hd
        have hil : i < W.length := (List.getElem?_eq_some_iff.mp hri).1
        have hB := hW B (List.mem_of_getElem? hri)
        obtain ⟨kvs, hk1, hk2⟩ := h2.fam.lat
        have ob := h2.fam.at_
        have bf := bounds_from_ok (N := N) (rs := rs) (F := F) (B := B) (fr := lCons (eFld ["Family"] "offices" (eVar 0)) (lCons (eFld ["Family"] "steps" (eVar 0)) (lCons (eFld ["Family"] "latest" (eVar 0)) (lCons (eVar 2) lNil)))) (env := [some (.ref p), some (.ref w0), some (bdD B), o3']) (st := s1) (by simp [ob, lf_offices, lf_steps, lf_latest]) h2.fam.stp hk1 hk2 (Der.at hp.hF hB).1
        obtain ⟨s2, C2, dn2, W2, o4, l1, l2, l3, l4, l5⟩ := puts_ok (B0 := B) (o1 := some (.ref w0)) (o3 := o3') (Bs := bdsF N rs F B) hp h2 (fun B' hB' => bds_der hB hB') (.inl (by rw [List.drop_eq_getElem_cons hil, show W[i] = B from by rw [List.getElem?_eq_getElem hil] at hri; exact Option.some.inj hri]; simp)) (fun B' hB' => hB')
        have il : iLstF (lDrop (eCall m_bounds_from (lCons (eFld ["Family"] "offices" (eVar 0)) (lCons (eFld ["Family"] "steps" (eVar 0)) (lCons (eFld ["Family"] "latest" (eVar 0)) (lCons (eVar 2) lNil)))))) [some (.ref p), some (.ref w0), some (bdD B), o3'] s1 = .ok ((bdsF N rs F B).map bdD, []) s1 := by
          unfold iLstF
          rw [bf]; rfl
        refine ⟨_, asgT_name _ _ _, [some (.ref p), some (.ref w0), some (bdD B), o4], s2, .inl ?_, ?_, _, _, C2, dn2, W1 ++ W2, rfl, ?_, h3.trans l3, h4.trans l4, fun q => h9 (l5 q).1⟩
        · show sFor _ _ _ [some (.ref p), some (.ref w0), some (bdD B), o3'] s1 = _
          rw [sFor_ap, il]
          simp only [sOf_ok]
          rw [if_pos (by simp)]
          exact l1
        · have : s2[w0]? = st[w0]? := (l3.2 w0 (.inr hne)).trans (h3.2 w0 (.inr hne))
          have := sq s2 this
          simpa using this
        · rw [List.length_append, ← Nat.add_assoc]
          have dr : W.drop i = B :: W.drop (i + 1) := by
            rw [List.drop_eq_getElem_cons hil]
            congr 1
            have := List.getElem?_eq_getElem hil
            rw [this] at hri
            exact Option.some.inj hri
          have g : FS p s f w N rs F s2 C2 dn2 (W1 ++ W2) (e + W1.length + W2.length) (fun X => X = B ∨ (X ∈ W.drop (i + 1) ∨ X ∈ W1 ++ W2)) := l2.sub (fun X z => by
            rw [dr] at z
            rcases z with (z | z) | z
            · rcases List.mem_cons.mp z with q | q
              · exact .inl q
              · exact .inr (.inl q)
            · exact .inr (.inr (List.mem_append_left _ z))
            · exact .inr (.inr (List.mem_append_right _ z))) fun X z => by
            rw [dr]
            rcases z with z | z | z
            · exact .inl (.inl (by rw [z]; simp))
            · exact .inl (.inl (List.mem_cons_of_mem _ z))
            · rcases List.mem_append.mp z with z | z
              · exact .inl (.inr z)
              · exact .inr z
          exact ⟨g.fam, g.spr.done fun q => (l5 q).2, g.cnt, g.wle, g.wder, by
            obtain ⟨K, k1, k2⟩ := g.cam
            exact ⟨K, k1, k2.sub fun X z => .inr z⟩⟩
  refine ⟨st', C', dn', W', o2', o3', rfl, h2.sub (fun X z => ?_) (fun X z => .inr z), h3, h4, h9⟩
  rcases z with z | z
  · rw [List.drop_of_length_le (by simp)] at z; cases z
  · exact z
end
end TK

set_option Elab.async false
set_option linter.all false
set_option maxRecDepth 100000
set_option maxHeartbeats 4000000
namespace TK
open PySem PySem.Spec
open PyProof.Rows hiding St
open L2
section
variable {p s f w N e : Nat} {rs : List Rw} {F : List Fd} {st : Store} {C : Nat → Nat → Int} {dn : Option Bd} {W : List Bd} {P P' : Bd → Prop}
theorem spread_cut : m_Family__m_spread = runDef 4 (loopW (bAnd (bB (e2 gtD (eQ lenG (lRd (eFld ["Family"] "waiting" (eVar 0)))) (eC (.int 0)))) (bB (e2 isND (eFld ["Family"] "denied" (eVar 0)) (eC .non)))) (sSeq (sSet 1 (eFld ["Family"] "waiting" (eVar 0)))
    (sSeq (sFldA ["Family"] "waiting" (eVar 0) (eLst (lLst lNil))) inBody)) 1000000) := m_Family__m_spread_eq
theorem round_ok {o1 o2 o3 : Option D} (hp : Par N rs F) (h : FS p s f w N rs F st C dn W e (fun X => X ∈ W)) :
    ∃ st' C' dn' W' o2' o3', (sSeq (sSet 1 (eFld ["Family"] "waiting" (eVar 0))) (sSeq (sFldA ["Family"] "waiting" (eVar 0) (eLst (lLst lNil))) inBody)) [some (.ref p), o1, o2, o3] st = .next [some (.ref p), some (.ref w), o2', o3'] st' ∧
      FS p s f st.length N rs F st' C' dn' W' (e + W'.length) (fun X => X ∈ W') ∧ leC C C' ∧ (dn' = none → dn = none) ∧ st.length ≤ st'.length ∧ ∀ i, i < p → st'[i]? = st[i]? := by
  obtain ⟨f1, q1⟩ := h.fam.fresh
  have hw := h.fam.wp
  have lw := (List.getElem?_eq_some_iff.mp h.fam.wai).1
  have g : FS p s f st.length N rs F ((st ++ [AO.lst []]).set p (famO N s f (p + 1) (p + rs.length + 3) (p + rs.length + 4) (optD dn) st.length)) C dn [] e (fun X => X ∈ W) := ⟨f1, h.spr, h.cnt, Nat.zero_le _, fun B hB => (by cases hB), by
    obtain ⟨K, k1, k2⟩ := h.cam
    exact ⟨K, by rw [List.getElem?_set_ne (by omega), List.getElem?_append_left (List.getElem?_eq_some_iff.mp k1).1]; exact k1, k2⟩⟩
  obtain ⟨st', C', dn', W', o2', o3', e1, h2, h3, h4, h9⟩ := in_ok (o2 := o2) (o3 := o3) hp g q1 ⟨hw, by omega⟩ h.wder
  refine ⟨st', C', dn', W', o2', o3', ?_, h2, h4, h9, ?_, fun i hi => ?_⟩
  · have ob := h.fam.at_
    have lp := (List.getElem?_eq_some_iff.mp h.fam.obj).1
    have ob2 : (st ++ [AO.lst []])[p]? = some (.ins "Family" [("offices", .int N), ("steps", .ref s), ("finds", .ref f), ("latest", .ref (p + 1)), ("cuts", .ref (p + rs.length + 3)), ("came", .ref (p + rs.length + 4)), ("denied", optD dn), ("waiting", .ref w)]) := by rw [List.getElem?_append_left lp]; exact ob
    have z0 : 0 ≤ sizeLine := Nat.zero_le _
    have ef : (st ++ [AO.lst []]).set p (.ins "Family" [("offices", .int N), ("steps", .ref s), ("finds", .ref f), ("latest", .ref (p + 1)), ("cuts", .ref (p + rs.length + 3)), ("came", .ref (p + rs.length + 4)), ("denied", optD dn), ("waiting", .ref st.length)]) = (st ++ [AO.lst []]).set p (famO N s f (p + 1) (p + rs.length + 3) (p + rs.length + 4) (optD dn) st.length) := rfl
    simp [ob, lf_waiting, okIf_pos z0, ob2, pf_waiting, ef]
    exact e1
  · have := h3.1; simp at this; omega
  · rw [h3.2 i (.inl hi), List.getElem?_set_ne (by omega), List.getElem?_append_left (by omega)]
theorem spread_ok (hp : Par N rs F) (h : FS p s f w N rs F st C dn W e (fun X => X ∈ W)) :
    ∃ st' C' dn' W' e' w', m_Family__m_spread [.ref p] st = .ok .non st' ∧ FS p s f w' N rs F st' C' dn' W' e' (fun X => X ∈ W') ∧ (W' = [] ∨ dn' ≠ none) ∧ leC C C' ∧ (dn' = none → dn = none) ∧ st.length ≤ st'.length ∧ ∀ i, i < p → st'[i]? = st[i]? := by
  rw [spread_cut]
  simp only [runDef_ap]
  generalize hq : loopW _ _ _ _ _ = r
  obtain ⟨e1, st', rfl, o1, o2, o3, w', C', dn', W', e', rfl, h2, h3, h4, h9, h5, h6⟩ := loopW_goF hq
    (fun m env s1 => ∃ o1 o2 o3 w' C' dn' W' e', env = [some (.ref p), o1, o2, o3] ∧ FS p s f w' N rs F s1 C' dn' W' e' (fun X => X ∈ W') ∧ (W' = [] ∨ 140000 ≤ e' + m) ∧ leC C C' ∧ (dn' = none → dn = none) ∧ st.length ≤ s1.length ∧ ∀ i, i < p → s1[i]? = st[i]?)
    (fun env s1 => ∃ o1 o2 o3 w' C' dn' W' e', env = [some (.ref p), o1, o2, o3] ∧ FS p s f w' N rs F s1 C' dn' W' e' (fun X => X ∈ W') ∧ (W' = [] ∨ dn' ≠ none) ∧ leC C C' ∧ (dn' = none → dn = none) ∧ st.length ≤ s1.length ∧ ∀ i, i < p → s1[i]? = st[i]?)
    (m := 140000) ⟨none, none, none, w, C, dn, W, e, by simp, h, .inr (by omega), .refl, id, Nat.le_refl _, fun _ _ => rfl⟩ (by omega) fun m env s1 hI => by
      obtain ⟨o1, o2, o3, w', C1, dn1, W1, e1, rfl, h2, h3, h4, h9, h5, h6⟩ := hI
      have ob := h2.fam.at_
      have wa := h2.fam.wai
      by_cases c : W1 = []
      · refine .inl ⟨?_, o1, o2, o3, w', C1, dn1, W1, e1, rfl, h2, .inl c, h4, h9, h5, h6⟩
        subst c
        simp at wa
        simp [ob, lf_waiting, wa]
      · have c0 : (0 : Int) < (W1.length : Int) := by have := List.length_pos_iff.mpr c; omega
        cases dn1 with
        | some B0 =>
          refine .inl ⟨?_, o1, o2, o3, w', C1, _, W1, e1, rfl, h2, .inr (by simp), h4, h9, h5, h6⟩
          simp [ob, lf_waiting, lf_denied, wa, optD, bdD]
        | none =>
          have he := h2.e_le hp
          have hm := h3.resolve_left c
          obtain ⟨s2, C2, dn2, W2, o2', o3', r1, r2, r3, r9, r4, r5⟩ := round_ok (o1 := o1) (o2 := o2) (o3 := o3) hp h2
          refine .inr ⟨m - 1, by omega, ?_, _, s2, r1, _, _, _, _, C2, dn2, W2, _, rfl, r2, ?_, h4.trans r3, fun q => h9 (r9 q), Nat.le_trans h5 r4, fun i hi => (r5 i hi).trans (h6 i hi)⟩
          · have c1 : 0 < W1.length := by omega
            simp [ob, lf_waiting, lf_denied, wa, optD, c1]
          · by_cases z : W2 = []
            · exact .inl z
            · have := List.length_pos_iff.mpr z
              exact .inr (by omega)
  exact ⟨st', C', dn', W', e', w', rfl, h2, h3, h4, h9, h5, h6⟩
end
end TK

set_option Elab.async false
set_option linter.all false
set_option maxRecDepth 100000
set_option maxHeartbeats 4000000
namespace TK
open PySem PySem.Spec
open PyProof.Rows hiding St
open L2
theorem pn_offices (y : D) : putFD ("offices" : Str) y ([] : List (Str × D)) = [(("offices" : Str), y)] := by
  simp only [putFD]
theorem pn_steps (a y : D) : putFD ("steps" : Str) y [(("offices" : Str), a)] = [(("offices" : Str), a), (("steps" : Str), y)] := by
  have n0 : ¬ ("offices" : Str) = "steps" := by decide +kernel
  simp only [putFD, if_neg n0]
theorem pn_finds (a b y : D) : putFD ("finds" : Str) y [(("offices" : Str), a), (("steps" : Str), b)] = [(("offices" : Str), a), (("steps" : Str), b), (("finds" : Str), y)] := by
  have n0 : ¬ ("offices" : Str) = "finds" := by decide +kernel
  have n1 : ¬ ("steps" : Str) = "finds" := by decide +kernel
  simp only [putFD, if_neg n0, if_neg n1]
theorem pn_latest (a b c y : D) : putFD ("latest" : Str) y [(("offices" : Str), a), (("steps" : Str), b), (("finds" : Str), c)] = [(("offices" : Str), a), (("steps" : Str), b), (("finds" : Str), c), (("latest" : Str), y)] := by
  have n0 : ¬ ("offices" : Str) = "latest" := by decide +kernel
  have n1 : ¬ ("steps" : Str) = "latest" := by decide +kernel
  have n2 : ¬ ("finds" : Str) = "latest" := by decide +kernel
  simp only [putFD, if_neg n0, if_neg n1, if_neg n2]
theorem pn_cuts (a b c d y : D) : putFD ("cuts" : Str) y [(("offices" : Str), a), (("steps" : Str), b), (("finds" : Str), c), (("latest" : Str), d)] = [(("offices" : Str), a), (("steps" : Str), b), (("finds" : Str), c), (("latest" : Str), d), (("cuts" : Str), y)] := by
  have n0 : ¬ ("offices" : Str) = "cuts" := by decide +kernel
  have n1 : ¬ ("steps" : Str) = "cuts" := by decide +kernel
  have n2 : ¬ ("finds" : Str) = "cuts" := by decide +kernel
  have n3 : ¬ ("latest" : Str) = "cuts" := by decide +kernel
  simp only [putFD, if_neg n0, if_neg n1, if_neg n2, if_neg n3]
theorem pn_came (a b c d e y : D) : putFD ("came" : Str) y [(("offices" : Str), a), (("steps" : Str), b), (("finds" : Str), c), (("latest" : Str), d), (("cuts" : Str), e)] = [(("offices" : Str), a), (("steps" : Str), b), (("finds" : Str), c), (("latest" : Str), d), (("cuts" : Str), e), (("came" : Str), y)] := by
  have n0 : ¬ ("offices" : Str) = "came" := by decide +kernel
  have n1 : ¬ ("steps" : Str) = "came" := by decide +kernel
  have n2 : ¬ ("finds" : Str) = "came" := by decide +kernel
  have n3 : ¬ ("latest" : Str) = "came" := by decide +kernel
  have n4 : ¬ ("cuts" : Str) = "came" := by decide +kernel
  simp only [putFD, if_neg n0, if_neg n1, if_neg n2, if_neg n3, if_neg n4]
theorem pn_denied (a b c d e f y : D) : putFD ("denied" : Str) y [(("offices" : Str), a), (("steps" : Str), b), (("finds" : Str), c), (("latest" : Str), d), (("cuts" : Str), e), (("came" : Str), f)] = [(("offices" : Str), a), (("steps" : Str), b), (("finds" : Str), c), (("latest" : Str), d), (("cuts" : Str), e), (("came" : Str), f), (("denied" : Str), y)] := by
  have n0 : ¬ ("offices" : Str) = "denied" := by decide +kernel
  have n1 : ¬ ("steps" : Str) = "denied" := by decide +kernel
  have n2 : ¬ ("finds" : Str) = "denied" := by decide +kernel
  have n3 : ¬ ("latest" : Str) = "denied" := by decide +kernel
  have n4 : ¬ ("cuts" : Str) = "denied" := by decide +kernel
  have n5 : ¬ ("came" : Str) = "denied" := by decide +kernel
  simp only [putFD, if_neg n0, if_neg n1, if_neg n2, if_neg n3, if_neg n4, if_neg n5]
theorem pn_waiting (a b c d e f g y : D) : putFD ("waiting" : Str) y [(("offices" : Str), a), (("steps" : Str), b), (("finds" : Str), c), (("latest" : Str), d), (("cuts" : Str), e), (("came" : Str), f), (("denied" : Str), g)] = [(("offices" : Str), a), (("steps" : Str), b), (("finds" : Str), c), (("latest" : Str), d), (("cuts" : Str), e), (("came" : Str), f), (("denied" : Str), g), (("waiting" : Str), y)] := by
  have n0 : ¬ ("offices" : Str) = "waiting" := by decide +kernel
  have n1 : ¬ ("steps" : Str) = "waiting" := by decide +kernel
  have n2 : ¬ ("finds" : Str) = "waiting" := by decide +kernel
  have n3 : ¬ ("latest" : Str) = "waiting" := by decide +kernel
  have n4 : ¬ ("cuts" : Str) = "waiting" := by decide +kernel
  have n5 : ¬ ("came" : Str) = "waiting" := by decide +kernel
  have n6 : ¬ ("denied" : Str) = "waiting" := by decide +kernel
  simp only [putFD, if_neg n0, if_neg n1, if_neg n2, if_neg n3, if_neg n4, if_neg n5, if_neg n6]

noncomputable def firstFor : SF := (sFor (.name 4) (iLstF (lDrop (eCall m_first_bounds (lCons (eVar 1) (lCons (eVar 3) lNil))))) (sDrop (eMeth "Family" "put" m_Family__m_put (eVar 0) (lCons (eVar 4) (lCons (eC .non) lNil)))))
noncomputable def initRest : SF := (sSeq firstFor (sDrop (eMeth "Family" "spread" m_Family__m_spread (eVar 0) lNil)))
theorem init_cut : m_Family__init = runDef 6 (sSeq (sFldA ["Family"] "offices" (eVar 0) (eVar 1))
    (sSeq (sFldA ["Family"] "steps" (eVar 0) (eVar 2))
    (sSeq (sFldA ["Family"] "finds" (eVar 0) (eVar 3))
    (sSeq (sFldA ["Family"] "latest" (eVar 0) (eCall m_latest_shown (lCons (eVar 3) lNil)))
    (sSeq (sFldA ["Family"] "cuts" (eVar 0) (eLst (compF [5] (iRng1F (lCons (e2 addD (eQ lenG (lRd (eVar 2))) (eC (.int 1))) lNil)) (.name 5) bYes (eLst (lRep (lLst (lCons (e1 negD (eC (.int 1))) lNil)) (e2 addD (eVar 1) (eC (.int 1))))))))
    (sSeq (sFldA ["Family"] "came" (eVar 0) eDctT)
    (sSeq (sFldA ["Family"] "denied" (eVar 0) (eC .non))
    (sSeq (sFldA ["Family"] "waiting" (eVar 0) (eLst (lLst lNil))) initRest)))))))) := m_Family__init_eq
section
variable {p s f w N e n : Nat} {rs : List Rw} {F : List Fd} {st : Store} {C : Nat → Nat → Int} {dn : Option Bd} {W : List Bd} {P P' : Bd → Prop}
theorem FS.take (h : FS p s f w N rs F st C dn W e P) (h1 : p + rs.length + 5 ≤ n) (h2 : w < n) : FS p s f w N rs F (st.take n) C dn W e P := by
  have hs := h.fam.sp
  have hf := h.fam.fp
  have k : ∀ i, i < n → (st.take n)[i]? = st[i]? := fun i hi => List.getElem?_take_of_lt hi
  obtain ⟨kv1, l1, l2⟩ := h.fam.lat
  obtain ⟨kv2, l3, l4⟩ := h.fam.came
  refine ⟨⟨hs, hf, h.fam.wp, ?_, ?_, ?_, ⟨kv1, ?_, l2⟩, fun m hm => ?_, ?_, ⟨kv2, ?_, l4⟩, ?_⟩, h.spr, h.cnt, h.wle, h.wder, by
    obtain ⟨K, k1, k2⟩ := h.cam
    exact ⟨K, by rw [k _ (by omega)]; exact k1, k2⟩⟩
  · rw [k p (by omega)]; exact h.fam.obj
  · rw [k s (by omega)]; exact h.fam.stp
  · rw [k f (by omega)]; exact h.fam.fnd
  · rw [k (p + 1) (by omega)]; exact l1
  · rw [k (p + 2 + m) (by omega)]; exact h.fam.row m hm
  · rw [k (p + rs.length + 3) (by omega)]; exact h.fam.cut
  · rw [k (p + rs.length + 4) (by omega)]; exact l3
  · rw [k w h2]; exact h.fam.wai
theorem first_for (hp : Par N rs F) (h : FS p s f w N rs F st (fun _ _ => -1) none [] 0 (fun _ => False)) :
    ∃ st' C' dn' W' o4, firstFor [some (.ref p), some (.int N), some (.ref s), some (.ref f), none, none] st = .next [some (.ref p), some (.int N), some (.ref s), some (.ref f), o4, none] st' ∧
      FS p s f w N rs F st' C' dn' W' W'.length (fun X => X ∈ W') ∧ SamF p rs.length w st st' ∧ (dn' = none → ∀ B ∈ firstB N F, B.k ≤ C' B.m B.b) := by
  have fb := first_ok (N := N) (F := F) (f := f) (fr := lCons (eVar 1) (lCons (eVar 3) lNil)) (env := [some (.ref p), some (.int N), some (.ref s), some (.ref f), none, none]) (st := st) (by simp) h.fam.fnd (by have := hp.f40; omega) hp.n12
  unfold firstFor
  have il : iLstF (lDrop (eCall m_first_bounds (lCons (eVar 1) (lCons (eVar 3) lNil)))) [some (.ref p), some (.int N), some (.ref s), some (.ref f), none, none] st = .ok ((firstB N F).map bdD, []) st := by
    unfold iLstF
    rw [fb]; rfl
  rw [sFor_ap, il]
  simp only [sOf_ok]
  rw [if_pos (by simp)]
  generalize hq : loopF _ _ _ _ _ _ = r
  obtain ⟨e1, st', rfl, o4, C', dn', W', rfl, h2, h3, h4⟩ := loopF_next hq
    (fun i env s1 => ∃ o4 C' dn' W', env = [some (.ref p), some (.int N), some (.ref s), some (.ref f), o4, none] ∧ FS p s f w N rs F s1 C' dn' W' W'.length (fun X => X ∈ W') ∧ SamF p rs.length w st s1 ∧ (dn' = none → ∀ j, j < i → ∀ B, (firstB N F)[j]? = some B → B.k ≤ C' B.m B.b))
    ⟨none, _, none, [], rfl, h.sub (fun X q => q.elim) fun X q => (by cases q), .refl, fun _ j hj => by omega⟩ fun i d env s1 hI hd => by
      obtain ⟨o4, C1, dn1, W1, rfl, h2, h3, h5⟩ := hI
      rw [List.getElem?_map] at hd
      cases hri : (firstB N F)[i]? with
      | none => rw [hri] at hd; cases hd
      | some B =>
        rw [hri] at hd
        cases hd
        obtain ⟨s2, C2, dn2, W2, e2, g2, g3, g4, g5⟩ := put_full (a := none) hp h2 (first_der (List.mem_of_getElem? hri)) (.inl ⟨rfl, List.mem_of_getElem? hri⟩)
        have e2 : gcH s1 (m_Family__m_put [.ref p, bdD B, .non] s1) = .ok .non s2 := e2
        have sf := h2.fam.self (x := "put") lf_put
        refine ⟨_, asgT_name _ _ _, _, s2, .inl ?_, by simp, some (bdD B), C2, dn2, W1 ++ W2, rfl, ?_, h3.trans g3, fun q => ?_⟩
        · simp [sf, e2]
        · rw [List.length_append]
          exact g2.sub (fun X z => by
            rcases z with z | z
            · exact List.mem_append_left _ z
            · exact List.mem_append_right _ z) fun X z => List.mem_append.mp z
        · obtain ⟨q1, q2⟩ := g5 q
          intro j hj B' hB'
          by_cases z : j = i
          · subst z
            rw [hri] at hB'
            cases hB'
            exact q2
          · exact Int.le_trans (h5 q1 j (by omega) B' hB') (g4 _ _)
  refine ⟨st', C', dn', W', o4, rfl, h2, h3, fun q B hB' => ?_⟩
  obtain ⟨j, hj, rfl⟩ := List.getElem_of_mem hB'
  exact h4 q j (by simpa using hj) _ (List.getElem?_eq_getElem hj)
theorem rest_ok (hp : Par N rs F) (h : FS p s f w N rs F st (fun _ _ => -1) none [] 0 (fun _ => False)) :
    ∃ st' C' dn' W' e' w' o4, initRest [some (.ref p), some (.int N), some (.ref s), some (.ref f), none, none] st = .next [some (.ref p), some (.int N), some (.ref s), some (.ref f), o4, none] st' ∧
      FS p s f w' N rs F st' C' dn' W' e' (fun X => X ∈ W') ∧ (W' = [] ∨ dn' ≠ none) ∧ (dn' = none → ∀ B ∈ firstB N F, B.k ≤ C' B.m B.b) ∧ p < st'.length ∧ ∀ i, i < p → st'[i]? = st[i]? := by
  obtain ⟨s1, C1, dn1, W1, o4, e1, g1, g2, g3⟩ := first_for hp h
  obtain ⟨s2, C2, dn2, W2, e2, w2, q1, q2, q3, q4, q5, q6, q7⟩ := spread_ok hp g1
  have sf := g1.fam.self (x := "spread") lf_spread
  have lp1 := (List.getElem?_eq_some_iff.mp g1.fam.obj).1
  have lw1 := (List.getElem?_eq_some_iff.mp g1.fam.wai).1
  have wp1 := g1.fam.wp
  have fin : ∃ s3, gcH s1 (.ok .non s2) = .ok .non s3 ∧ FS p s f w2 N rs F s3 C2 dn2 W2 e2 (fun X => X ∈ W2) ∧ p < s3.length ∧ ∀ i, i < p → s3[i]? = s1[i]? := by
    rcases gc_casesF (st := s1) (st' := s2) (d := .non) rfl with z | ⟨t, z⟩
    · exact ⟨s2, z, q2, by omega, q7⟩
    · have hw2 : w2 < s1.length := by
        rcases t p lp1 with y | ⟨o, y, ho⟩
        · rw [q2.fam.obj, g1.fam.obj] at y
          have y : famO N s f (p + 1) (p + rs.length + 3) (p + rs.length + 4) (optD dn2) w2 = famO N s f (p + 1) (p + rs.length + 3) (p + rs.length + 4) (optD dn1) w := Option.some.inj y
          unfold famO at y
          simp at y
          omega
        · rw [q2.fam.obj] at y
          cases y
          simp [famO, closedO, closedF, closed] at ho
          omega
      refine ⟨_, z, q2.take (by omega) hw2, by rw [List.length_take]; omega, fun i hi => ?_⟩
      rw [List.getElem?_take_of_lt (by omega)]
      exact q7 i hi
  obtain ⟨s3, z1, z2, z3, z4⟩ := fin
  refine ⟨s3, C2, dn2, W2, e2, w2, o4, ?_, z2, q3, fun y B hB => Int.le_trans (g3 (q5 y) B hB) (q4 _ _), z3, fun i hi => (z4 i hi).trans (g2.2 i (.inl hi))⟩
  unfold initRest
  rw [sSeq_ap, e1]
  simp [sf, q1, z1]
end
end TK

set_option Elab.async false
set_option linter.all false
set_option maxRecDepth 100000
set_option maxHeartbeats 4000000
namespace TK
open PySem PySem.Spec
open PyProof.Rows hiding St
open L2
/-! # a family made -/
theorem gcR_newF {st : Store} {o : AO} (h : closedO st.length o = true) : gcH st (.ok (.ref st.length) (st ++ [o])) = .ok (.ref st.length) (st ++ [o]) := by
  have hc : closed st.length (.ref st.length) = false := by simp [closed]
  unfold gcH
  rw [hid_eq]
  unfold gcR
  simp [trim_app, hc, h]
theorem fld_fam {st0 X st : Store} {x : Str} {fs : List (Str × D)} {fe : EF} {d : D} {env : AEnv} (he : fe env st = .ok d (st0 ++ AO.ins "Family" fs :: X)) (hv : env[0]? = some (some (.ref st0.length))) (hl : fs.length < 1000) :
    sFldA ["Family"] x (eVar 0) fe env st = .next env (st0 ++ AO.ins "Family" (putFD x d fs) :: X) := by
  unfold sFldA
  simp [he, hv, hl]
section
variable {s f N : Nat} {rs : List Rw} {F : List Fd} {st0 : Store}
def rowM (N : Nat) : AO := .lst (List.replicate (N + 1) (.int (-1)))
noncomputable def cutsE : EF := (eLst (compF [5] (iRng1F (lCons (e2 addD (eQ lenG (lRd (eVar 2))) (eC (.int 1))) lNil)) (.name 5) bYes (eLst (lRep (lLst (lCons (e1 negD (eC (.int 1))) lNil)) (e2 addD (eVar 1) (eC (.int 1)))))))
theorem cutsE_ok {p : Nat} {st : Store} (hN : N ≤ 12) (hM : rs.length ≤ 2000) (hs : st[s]? = some (.lst (rs.map stpD))) :
    cutsE [some (.ref p), some (.int N), some (.ref s), some (.ref f), none, none] st = .ok (.ref (st.length + rs.length + 1)) (st ++ (List.replicate (rs.length + 1) (rowM N) ++ [.lst ((List.range (rs.length + 1)).map fun m => D.ref (st.length + m))])) := by
  have zM : rs.length + 1 ≤ sizeLine := szl (by omega)
  have z1 : 1 ≤ sizeLine := szl (by omega)
  have zN : N + 1 ≤ sizeLine := szl (by omega)
  have rg : ∀ s, rngR1 ((rs.length : Int) + 1) s = .ok (rangeD 0 (rs.length + 1), []) s := fun s => rngR_suc (by omega)
  have tn : ((N : Int) + 1).toNat = N + 1 := by omega
  unfold cutsE
  simp [hs, rg, okIf_pos zM]
  generalize hq : compL _ _ _ _ _ _ _ = r
  obtain ⟨ys, s1, rfl, rfl, rfl⟩ := compL_ok hq (fun i acc s1 => acc = (List.range i).map (fun m => D.ref (st.length + m)) ∧ s1 = st ++ List.replicate i (rowM N)) ⟨rfl, by simp⟩ fun i d acc s1 hI hd => by
    obtain ⟨rfl, rfl⟩ := hI
    have hr : okIf (-1000000 ≤ (N : Int) + 1 ∧ (N : Int) + 1 ≤ 1000000 ∧ ([D.int (-1)] : List D).length * ((N : Int) + 1).toNat ≤ sizeLine) (R.ok (List.replicate (N + 1) [D.int (-1)]).flatten (st ++ List.replicate i (rowM N))) = .ok (List.replicate (N + 1) (D.int (-1))) (st ++ List.replicate i (rowM N)) := by
      rw [okIf_pos ⟨by omega, by omega, by rw [tn]; simpa using zN⟩, List.flatten_replicate_singleton]
    refine ⟨_, asgT_name _ _ _, .inl ⟨.ref (st.length + i), _, _, rfl, ?_, by simp, ?_, rfl⟩⟩
    · simp only [tn] at hr
      simp [okIf_pos z1, tn]
      simp at hr
      rw [hr]
      simp [rowM, List.replicate_succ']
    · rw [List.range_succ]; simp
  simp
  omega

theorem rowC_m (m : Nat) : (rowC N (fun _ _ => -1) m).map D.int = List.replicate (N + 1) (.int (-1)) := by
  unfold rowC
  rw [List.map_map, List.eq_replicate_iff]
  refine ⟨by simp, fun d hd => ?_⟩
  obtain ⟨_, _, rfl⟩ := List.mem_map.mp hd
  rfl
theorem spr_start : Spr N rs F (fun _ _ => -1) none (fun _ => False) :=
  ⟨fun _ _ _ _ => .inl rfl, fun _ _ _ _ _ z => absurd rfl z, fun _ _ _ _ _ z => absurd rfl z, fun _ z => by cases z⟩
theorem init_ok (hp : Par N rs F) (hs : s < st0.length) (hf : f < st0.length) (q1 : st0[s]? = some (.lst (rs.map stpD))) (q2 : st0[f]? = some (.lst (F.map fdD))) :
    ∃ st' C dn W e w, m_Family__init [.ref st0.length, .int N, .ref s, .ref f] (st0 ++ [.ins "Family" []]) = .ok .non st' ∧ FS st0.length s f w N rs F st' C dn W e (fun X => X ∈ W) ∧ (W = [] ∨ dn ≠ none) ∧ (dn = none → ∀ B ∈ firstB N F, B.k ≤ C B.m B.b) ∧ st0.length < st'.length ∧ ∀ i, i < st0.length → st'[i]? = st0[i]? := by
  have hN := hp.n12
  have hM := hp.mM
  have z0 : 0 ≤ sizeLine := Nat.zero_le _
  have at_ : ∀ (a : AO) (X : Store) (i : Nat), i < st0.length → (st0 ++ a :: X)[i]? = st0[i]? := fun a X i hi => List.getElem?_append_left hi
  obtain ⟨kvs, l1, l2, l3⟩ := latest_ok (f := f) (F := F) (st := st0 ++ [AO.ins "Family" [("offices", .int N), ("steps", .ref s), ("finds", .ref f)]]) (by rw [at_ _ _ _ hf]; exact q2) (by have := hp.f40; omega)
  have g1 := gcR_newF (st := st0 ++ [AO.ins "Family" [("offices", .int N), ("steps", .ref s), ("finds", .ref f)]]) (o := .dct kvs) l3
  have h1 : sFldA ["Family"] "offices" (eVar 0) (eVar 1) [some (.ref st0.length), some (.int N), some (.ref s), some (.ref f), none, none] (st0 ++ [AO.ins "Family" []]) = .next [some (.ref st0.length), some (.int N), some (.ref s), some (.ref f), none, none] (st0 ++ [AO.ins "Family" [("offices", .int N)]]) := by
    rw [fld_fam (st0 := st0) (X := []) (fs := []) (d := .int N) (by simp) rfl (by simp), pn_offices]
  have h2 : sFldA ["Family"] "steps" (eVar 0) (eVar 2) [some (.ref st0.length), some (.int N), some (.ref s), some (.ref f), none, none] (st0 ++ [AO.ins "Family" [("offices", .int N)]]) = .next [some (.ref st0.length), some (.int N), some (.ref s), some (.ref f), none, none] (st0 ++ [AO.ins "Family" [("offices", .int N), ("steps", .ref s)]]) := by
    rw [fld_fam (st0 := st0) (X := []) (fs := [("offices", .int N)]) (d := .ref s) (by simp) rfl (by simp), pn_steps]
  have h3 : sFldA ["Family"] "finds" (eVar 0) (eVar 3) [some (.ref st0.length), some (.int N), some (.ref s), some (.ref f), none, none] (st0 ++ [AO.ins "Family" [("offices", .int N), ("steps", .ref s)]]) = .next [some (.ref st0.length), some (.int N), some (.ref s), some (.ref f), none, none] (st0 ++ [AO.ins "Family" [("offices", .int N), ("steps", .ref s), ("finds", .ref f)]]) := by
    rw [fld_fam (st0 := st0) (X := []) (fs := [("offices", .int N), ("steps", .ref s)]) (d := .ref f) (by simp) rfl (by simp), pn_finds]
  have h4 : sFldA ["Family"] "latest" (eVar 0) (eCall m_latest_shown (lCons (eVar 3) lNil)) [some (.ref st0.length), some (.int N), some (.ref s), some (.ref f), none, none] (st0 ++ [AO.ins "Family" [("offices", .int N), ("steps", .ref s), ("finds", .ref f)]]) = .next [some (.ref st0.length), some (.int N), some (.ref s), some (.ref f), none, none] (st0 ++ [AO.ins "Family" [("offices", .int N), ("steps", .ref s), ("finds", .ref f), ("latest", .ref (st0.length + 1))], .dct kvs]) := by
    rw [fld_fam (st0 := st0) (X := [.dct kvs]) (fs := [("offices", .int N), ("steps", .ref s), ("finds", .ref f)]) (d := .ref (st0.length + 1)) (by simp [l1]; simpa using g1) rfl (by simp), pn_latest]
  have ce := cutsE_ok (N := N) (rs := rs) (s := s) (f := f) (p := st0.length) (st := st0 ++ [AO.ins "Family" [("offices", .int N), ("steps", .ref s), ("finds", .ref f), ("latest", .ref (st0.length + 1))], .dct kvs]) hN (by omega) (by rw [at_ _ _ _ hs]; exact q1)
  simp only [List.length_append, List.length_cons, List.length_nil, Nat.zero_add, List.append_assoc, List.cons_append, List.nil_append] at ce
  have pe : ∀ m, st0.length + (1 + 1) + m = st0.length + 2 + m := fun m => by omega
  have pf : st0.length + (1 + 1) + rs.length + 1 = st0.length + rs.length + 3 := by omega
  simp only [pe, pf] at ce
  have h5 : sFldA ["Family"] "cuts" (eVar 0) cutsE [some (.ref st0.length), some (.int N), some (.ref s), some (.ref f), none, none] (st0 ++ [AO.ins "Family" [("offices", .int N), ("steps", .ref s), ("finds", .ref f), ("latest", .ref (st0.length + 1))], .dct kvs]) = .next [some (.ref st0.length), some (.int N), some (.ref s), some (.ref f), none, none] (st0 ++ AO.ins "Family" [("offices", .int N), ("steps", .ref s), ("finds", .ref f), ("latest", .ref (st0.length + 1)), ("cuts", .ref (st0.length + rs.length + 3))] :: .dct kvs :: (List.replicate (rs.length + 1) (rowM N) ++ [.lst ((List.range (rs.length + 1)).map fun m => D.ref (st0.length + 2 + m))])) := by
    rw [fld_fam (st0 := st0) (X := .dct kvs :: (List.replicate (rs.length + 1) (rowM N) ++ [.lst ((List.range (rs.length + 1)).map fun m => D.ref (st0.length + 2 + m))])) (fs := [("offices", .int N), ("steps", .ref s), ("finds", .ref f), ("latest", .ref (st0.length + 1))]) (d := .ref (st0.length + rs.length + 3)) ce rfl (by simp), pn_cuts]
  generalize hX : (List.replicate (rs.length + 1) (rowM N) ++ [AO.lst ((List.range (rs.length + 1)).map fun m => D.ref (st0.length + 2 + m))]) = X at h5
  have lX : X.length = rs.length + 2 := by rw [← hX]; simp
  have h6 : sFldA ["Family"] "came" (eVar 0) eDctT [some (.ref st0.length), some (.int N), some (.ref s), some (.ref f), none, none] (st0 ++ AO.ins "Family" [("offices", .int N), ("steps", .ref s), ("finds", .ref f), ("latest", .ref (st0.length + 1)), ("cuts", .ref (st0.length + rs.length + 3))] :: .dct kvs :: X) = .next [some (.ref st0.length), some (.int N), some (.ref s), some (.ref f), none, none] (st0 ++ AO.ins "Family" [("offices", .int N), ("steps", .ref s), ("finds", .ref f), ("latest", .ref (st0.length + 1)), ("cuts", .ref (st0.length + rs.length + 3)), ("came", .ref (st0.length + rs.length + 4))] :: .dct kvs :: (X ++ [.dcT []])) := by
    rw [fld_fam (st0 := st0) (X := .dct kvs :: (X ++ [.dcT []])) (fs := [("offices", .int N), ("steps", .ref s), ("finds", .ref f), ("latest", .ref (st0.length + 1)), ("cuts", .ref (st0.length + rs.length + 3))]) (d := .ref (st0.length + rs.length + 4)) (by simp [lX]; omega) rfl (by simp), pn_came]
  have h7 : sFldA ["Family"] "denied" (eVar 0) (eC .non) [some (.ref st0.length), some (.int N), some (.ref s), some (.ref f), none, none] (st0 ++ AO.ins "Family" [("offices", .int N), ("steps", .ref s), ("finds", .ref f), ("latest", .ref (st0.length + 1)), ("cuts", .ref (st0.length + rs.length + 3)), ("came", .ref (st0.length + rs.length + 4))] :: .dct kvs :: (X ++ [.dcT []])) = .next [some (.ref st0.length), some (.int N), some (.ref s), some (.ref f), none, none] (st0 ++ AO.ins "Family" [("offices", .int N), ("steps", .ref s), ("finds", .ref f), ("latest", .ref (st0.length + 1)), ("cuts", .ref (st0.length + rs.length + 3)), ("came", .ref (st0.length + rs.length + 4)), ("denied", .non)] :: .dct kvs :: (X ++ [.dcT []])) := by
    rw [fld_fam (st0 := st0) (X := .dct kvs :: (X ++ [.dcT []])) (fs := [("offices", .int N), ("steps", .ref s), ("finds", .ref f), ("latest", .ref (st0.length + 1)), ("cuts", .ref (st0.length + rs.length + 3)), ("came", .ref (st0.length + rs.length + 4))]) (d := .non) (by simp) rfl (by simp), pn_denied]
  have h8 : sFldA ["Family"] "waiting" (eVar 0) (eLst (lLst lNil)) [some (.ref st0.length), some (.int N), some (.ref s), some (.ref f), none, none] (st0 ++ AO.ins "Family" [("offices", .int N), ("steps", .ref s), ("finds", .ref f), ("latest", .ref (st0.length + 1)), ("cuts", .ref (st0.length + rs.length + 3)), ("came", .ref (st0.length + rs.length + 4)), ("denied", .non)] :: .dct kvs :: (X ++ [.dcT []])) = .next [some (.ref st0.length), some (.int N), some (.ref s), some (.ref f), none, none] (st0 ++ famO N s f (st0.length + 1) (st0.length + rs.length + 3) (st0.length + rs.length + 4) (optD none) (st0.length + rs.length + 5) :: .dct kvs :: (X ++ [.dcT [], .lst []])) := by
    rw [fld_fam (st0 := st0) (X := .dct kvs :: (X ++ [.dcT [], .lst []])) (fs := [("offices", .int N), ("steps", .ref s), ("finds", .ref f), ("latest", .ref (st0.length + 1)), ("cuts", .ref (st0.length + rs.length + 3)), ("came", .ref (st0.length + rs.length + 4)), ("denied", .non)]) (d := .ref (st0.length + rs.length + 5)) (by simp [lX, okIf_pos z0]; omega) rfl (by simp), pn_waiting]
    rfl
  generalize hs9 : st0 ++ famO N s f (st0.length + 1) (st0.length + rs.length + 3) (st0.length + rs.length + 4) (optD none) (st0.length + rs.length + 5) :: .dct kvs :: (X ++ [.dcT [], .lst []]) = s9 at h8
  have k9 : ∀ i, i < st0.length → s9[i]? = st0[i]? := fun i hi => by rw [← hs9]; exact at_ _ _ _ hi
  have p9 : ∀ i, s9[st0.length + i]? = (famO N s f (st0.length + 1) (st0.length + rs.length + 3) (st0.length + rs.length + 4) (optD none) (st0.length + rs.length + 5) :: .dct kvs :: (X ++ [.dcT [], .lst []]))[i]? := fun i => by
    rw [← hs9, List.getElem?_append_right (by omega)]
    congr 1
    omega
  have pX : ∀ i, s9[st0.length + 2 + i]? = (X ++ [.dcT [], .lst []])[i]? := fun i => by
    rw [Nat.add_assoc, p9, show 2 + i = i + 1 + 1 from by omega, List.getElem?_cons_succ, List.getElem?_cons_succ]
  have fs : FS st0.length s f (st0.length + rs.length + 5) N rs F s9 (fun _ _ => -1) none [] 0 (fun _ => False) := by
    refine ⟨⟨hs, hf, Nat.le_refl _, p9 0, by rw [k9 _ hs]; exact q1, by rw [k9 _ hf]; exact q2, ⟨kvs, p9 1, l2⟩, fun m hm => ?_, ?_, ⟨[], ?_, Nat.le_refl _⟩, ?_⟩, spr_start, by rw [tot_start, ← Int.mul_add, show ((N + 1 : Nat) : Int) * -1 + ((N + 1 : Nat) : Int) * 1 = 0 from by omega, Int.mul_zero]; exact Int.le_refl _, Nat.le_refl _, fun B hB => (by cases hB), ⟨[], ?_, ⟨fun i x h => (by simp at h), fun x h => (by cases h), fun i j x y h => (by simp at h), fun B h => h.elim, fun B h => (by cases h)⟩⟩⟩
    · rw [pX, List.getElem?_append_left (by omega), ← hX, List.getElem?_append_left (by simp; omega), List.getElem?_replicate, if_pos (by omega), rowC_m]
      rfl
    · rw [show st0.length + rs.length + 3 = st0.length + 2 + (rs.length + 1) from by omega, pX, List.getElem?_append_left (by omega), ← hX, List.getElem?_append_right (by simp)]
      simp
    · rw [show st0.length + rs.length + 4 = st0.length + 2 + (rs.length + 2) from by omega, pX, List.getElem?_append_right (by omega), lX]
      simp
    · rw [show st0.length + rs.length + 5 = st0.length + 2 + (rs.length + 3) from by omega, pX, List.getElem?_append_right (by omega), lX]
      simp
    · rw [show st0.length + rs.length + 4 = st0.length + 2 + (rs.length + 2) from by omega, pX, List.getElem?_append_right (by omega), lX]
      simp
  obtain ⟨st', C, dn, W, e, w, o4, r1, r2, r3, r4, r5, r6⟩ := rest_ok hp fs
  refine ⟨st', C, dn, W, e, w, ?_, r2, r3, r4, r5, fun i hi => (r6 i hi).trans (k9 i hi)⟩
  rw [init_cut]
  simp only [runDef_ap]
  show (match (sSeq _ _ : SF) [some (.ref st0.length), some (.int N), some (.ref s), some (.ref f), none, none] (st0 ++ [.ins "Family" []]) with | .next _ st' => R.ok D.non st' | .ret d st' => .ok d st' | .exc _ x st' => .exc x st' | _ => .bad) = _
  rw [sSeq_ap, h1, sThen_next, sSeq_ap, h2, sThen_next, sSeq_ap, h3, sThen_next, sSeq_ap, h4, sThen_next, sSeq_ap]
  rw [show (eLst (compF [5] (iRng1F (lCons (e2 addD (eQ lenG (lRd (eVar 2))) (eC (.int 1))) lNil)) (.name 5) bYes (eLst (lRep (lLst (lCons (e1 negD (eC (.int 1))) lNil)) (e2 addD (eVar 1) (eC (.int 1))))))) = cutsE from rfl]
  rw [h5, sThen_next, sSeq_ap, h6, sThen_next, sSeq_ap, h7, sThen_next, sSeq_ap, h8, sThen_next, r1]
end
end TK

set_option Elab.async false
set_option linter.all false
set_option maxRecDepth 100000
set_option maxHeartbeats 4000000
namespace TK
open PySem PySem.Spec
open PyProof.Rows hiding St
open L2
/-! # what is asked of a family -/
theorem lf_doing (a b c d e f g h : D) : List.lookup ("doing" : Str) [(("offices" : Str), a), (("steps" : Str), b), (("finds" : Str), c), (("latest" : Str), d), (("cuts" : Str), e), (("came" : Str), f), (("denied" : Str), g), (("waiting" : Str), h)] = none := by
  rw [List.lookup_cons, show (("doing" : Str) == "offices") = false from by decide +kernel, List.lookup_cons, show (("doing" : Str) == "steps") = false from by decide +kernel, List.lookup_cons, show (("doing" : Str) == "finds") = false from by decide +kernel, List.lookup_cons, show (("doing" : Str) == "latest") = false from by decide +kernel, List.lookup_cons, show (("doing" : Str) == "cuts") = false from by decide +kernel, List.lookup_cons, show (("doing" : Str) == "came") = false from by decide +kernel, List.lookup_cons, show (("doing" : Str) == "denied") = false from by decide +kernel, List.lookup_cons, show (("doing" : Str) == "waiting") = false from by decide +kernel]; rfl
theorem lf_chain (a b c d e f g h : D) : List.lookup ("chain" : Str) [(("offices" : Str), a), (("steps" : Str), b), (("finds" : Str), c), (("latest" : Str), d), (("cuts" : Str), e), (("came" : Str), f), (("denied" : Str), g), (("waiting" : Str), h)] = none := by
  rw [List.lookup_cons, show (("chain" : Str) == "offices") = false from by decide +kernel, List.lookup_cons, show (("chain" : Str) == "steps") = false from by decide +kernel, List.lookup_cons, show (("chain" : Str) == "finds") = false from by decide +kernel, List.lookup_cons, show (("chain" : Str) == "latest") = false from by decide +kernel, List.lookup_cons, show (("chain" : Str) == "cuts") = false from by decide +kernel, List.lookup_cons, show (("chain" : Str) == "came") = false from by decide +kernel, List.lookup_cons, show (("chain" : Str) == "denied") = false from by decide +kernel, List.lookup_cons, show (("chain" : Str) == "waiting") = false from by decide +kernel]; rfl

def Fits (N : Nat) (rs : List Rw) (F : List Fd) : Prop := ∃ fs, Good N rs F fs
def LisF (F : List Fd) (st : Store) (d : D) : Prop := d = .tup (F.map fdD) ∨ ∃ n, d = .ref n ∧ st[n]? = some (.lst (F.map fdD))
section
variable {l p s f w N e : Nat} {rs : List Rw} {F : List Fd} {st : Store} {d : D} {C : Nat → Nat → Int} {dn : Option Bd} {W : List Bd}
theorem LisF.seq (h : LisF F st d) : seqOf d st = some (F.map fdD) := by
  rcases h with rfl | ⟨n, rfl, h⟩
  · rfl
  · rw [seqOf_ref, h]
theorem LisF.app (h : LisF F st d) (X : Store) : LisF F (st ++ X) d := by
  rcases h with rfl | ⟨n, rfl, h⟩
  · exact .inl rfl
  · exact .inr ⟨n, rfl, by rw [List.getElem?_append_left (List.getElem?_eq_some_iff.mp h).1]; exact h⟩
theorem gc_back {st st' : Store} {d : D} (h : ∀ i, i < st.length → st'[i]? = st[i]?) (hd : closed st.length d = true) : gcH st (.ok d st') = .ok d st := by
  have ht : Trim st st' := fun i hi => .inl (h i hi)
  have hk : st'.take st.length = st := by
    apply List.ext_getElem?
    intro i
    by_cases hi : i < st.length
    · rw [List.getElem?_take_of_lt hi]; exact h i hi
    · rw [List.getElem?_eq_none (by simp; omega), List.getElem?_eq_none (by omega)]
  unfold gcH
  rw [hid_eq]
  unfold gcR
  simp [ht, hd, hk]
theorem gc_fam {st st' : Store} {t c g : Nat} {dd : D} (hk : st.length ≤ p) (ht : st.length ≤ t) (ho : st'[p]? = some (famO N s f t c g dd w)) : gcH st (.ok (.ref p) st') = .ok (.ref p) st' := by
  unfold gcH
  rw [hid_eq]
  unfold gcR
  by_cases z : Trim st st'
  · have hc : closed st.length (.ref p) = false := by simp [closed]; omega
    have ho2 : closedO st.length (famO N s f t c g dd w) = false := by
      rw [Bool.eq_false_iff]
      intro q
      simp [famO, closedO, closedF, closed] at q
      omega
    simp [z, hc, ho, ho2]
  · simp [z]
theorem fam_end (hp : Par N rs F) (h : FS p s f w N rs F st C dn W e (fun X => X ∈ W)) (hw : W = [] ∨ dn ≠ none) (hb : dn = none → ∀ B ∈ firstB N F, B.k ≤ C B.m B.b) : (dn = none ∧ Least N rs F C) ∨ (dn ≠ none ∧ ¬ Fits N rs F) := by
  cases dn with
  | none =>
    have hw : W = [] := hw.resolve_right fun z => z rfl
    subst hw
    exact .inl ⟨rfl, (h.spr.sub fun X z => by cases z).least hp.hF hp.hrs (hb rfl)⟩
  | some B =>
    refine .inr ⟨by simp, fun ⟨fs, g⟩ => ?_⟩
    obtain ⟨d1, d2⟩ := h.spr.den B rfl
    exact denied_none hp.hrs hp.hF d1 d2 g
theorem least_fits (hp : Par N rs F) (L : Least N rs F C) : Fits N rs F := ⟨_, doC_good hp.hrs hp.hF L⟩
/-- a family as it is made -/
structure Made (l N : Nat) (rs : List Rw) (F : List Fd) (st : Store) (d : D) (st' : Store) (C : Nat → Nat → Int) (dn : Option Bd) (W : List Bd) (e w : Nat) : Prop where
  run : m_family_of [.ref l, d] st = .ok (.ref (st.length + 2)) st'
  gc : ∀ s1 : Store, s1.length ≤ st.length + 2 → gcH s1 (.ok (.ref (st.length + 2)) st') = .ok (.ref (st.length + 2)) st'
  fs : FS (st.length + 2) st.length (st.length + 1) w N rs F st' C dn W e (fun X => X ∈ W)
  how : (dn = none ∧ Least N rs F C) ∨ (dn ≠ none ∧ ¬ Fits N rs F)
  old : ∀ i, i < st.length → st'[i]? = st[i]?
theorem family_ok (hp : Par N rs F) (h : st[l]? = some (logO N rs)) (hd : LisF F st d) : ∃ st' C dn W e w, Made l N rs F st d st' C dn W e w := by
  have hM := hp.mM
  have sl := steps_ok (fr := lCons (eVar 0) lNil) (env := [some (.ref l), some d]) (st := st) (by simp) h (by omega)
  obtain ⟨st', C, dn, W, e, w, r1, r2, r3, r4, r5, r6⟩ := init_ok (s := st.length) (f := st.length + 1) (st0 := st ++ [.lst (rs.map stpD), .lst (F.map fdD)]) hp (by simp) (by simp) (by simp) (by simp)
  have el : (st ++ [AO.lst (rs.map stpD), .lst (F.map fdD)]).length = st.length + 2 := by simp
  rw [el] at r1 r2 r5 r6
  have hg : ∀ s1 : Store, s1.length ≤ st.length + 2 → gcH s1 (.ok (.ref (st.length + 2)) st') = .ok (.ref (st.length + 2)) st' := fun s1 h1 => gc_fam h1 (by omega) r2.fam.obj
  have hg2 := hg (st ++ [AO.lst (rs.map stpD), .lst (F.map fdD)]) (by simp)
  unfold gcH at hg2
  rw [hid_eq] at hg2
  have sq := (hd.app [AO.lst (rs.map stpD)]).seq
  refine ⟨st', C, dn, W, e, w, ?_, hg, r2, fam_end hp r2 r3 r4, fun i hi => ?_⟩
  · rw [m_family_of_eq]
    have hfr : (lCons (eFld ["Log"] "offices" (eVar 0)) (lCons (eLst (lDrop (eCall m_steps_of (lCons (eVar 0) lNil)))) (lCons (eLst (lQ lstG (lRd (eVar 1)))) lNil))) [some (.ref l), some d] st = .ok [.int N, .ref st.length, .ref (st.length + 1)] (st ++ [AO.lst (rs.map stpD), .lst (F.map fdD)]) := by
      simp [log_at h, lkO, sl, sq]
    simp only [runDef_ap]
    show (match (sRet _ : SF) [some (.ref l), some d] st with | .next _ st' => R.ok D.non st' | .ret d st' => .ok d st' | .exc _ x st' => .exc x st' | _ => .bad) = _
    rw [sRet_ap]
    unfold eMake
    rw [hfr]
    simp only [R.bind_ok, el, r1, mkR]
    rw [hg2]
    rfl
  · rw [r6 i (by omega), List.getElem?_append_left hi]
open Classical in
theorem find_ok {f : Fd} (h : st[l]? = some (logO N rs)) (hf : FdOk N rs.length f) : m_is_find [.ref l, fdD f] st = .ok (.bl true) st := by
  obtain ⟨h1, h2, h3⟩ := hf
  have t : m_is_triple [fdD f] st = .ok (.bl true) st := by simp [m_is_triple_eq, fdD]
  have i1 : (f.m : Int) ≤ (rs.length : Int) := by omega
  have i2 : (f.o : Int) ≤ (N : Int) - 1 := by omega
  have i3 : (f.e : Int) ≤ (N : Int) - 1 := by omega
  simp [m_is_find_eq, t, fd0, fd1, fd2, log_at h, lkO, lkR, is_within_ok, i1, i2, i3]
theorem check_finds_ok (hp : Par N rs F) (h : st[l]? = some (logO N rs)) (hd : LisF F st d) : m_check_finds [.ref l, d] st = .ok .non st := by
  have h40 := hp.f40
  have zl : F.length ≤ sizeLine := szl (by omega)
  have n40 : ¬ (40 : Int) < (F.length : Int) := by omega
  have sq := hd.seq
  have li : m_is_listed [d] st = .ok (.bl true) st := by
    rcases hd with rfl | ⟨n, rfl, hn⟩
    · simp [m_is_listed_eq]
    · simp [m_is_listed_eq, hn]
  rw [m_check_finds_eq]
  have go : compF [2] (iSeqF (eVar 1)) (.name 2) bYes (eCall m_is_find (lCons (eVar 0) (lCons (eVar 2) lNil))) [some (.ref l), some d, none] st = .ok ((F.map fdD).map fun _ => D.bl true) st := by
    have it : ∃ g : Its, iSeqF (eVar 1) [some (.ref l), some d, none] st = .ok g st ∧ g.1 = F.map fdD ∧ gOK g st := by
      rcases hd with rfl | ⟨n, rfl, hn⟩
      · exact ⟨(F.map fdD, []), by simp, rfl, by simp⟩
      · exact ⟨(F.map fdD, [(n, F.map fdD)]), by simp [hn], rfl, by simp [hn]⟩
    obtain ⟨g, i1, i2, i3⟩ := it
    rw [compF_ap, i1]
    simp only [R.bind_ok]
    rw [okIf_pos ⟨i3, by rw [i2]; simpa using zl⟩, i2]
    generalize hq : compL _ _ _ _ _ _ _ = r1
    have := compL_mapE hq i3 (fun _ => true) (fun _ => D.bl true) fun d hd => by
      obtain ⟨f, hf, rfl⟩ := List.mem_map.mp hd
      exact ⟨_, asgT_name _ _ _, rfl, fun _ => by simp [find_ok h (hp.hF f hf)]⟩
    rw [this, map_true]
    rfl
  simp [li, sq, n40]
  have ag : allG (List.map ((fun _ => D.bl true) ∘ fdD) F) st = .ok (.bl true) st := by
    have := allG_true (F.map fdD) st
    rwa [List.map_map] at this
  simp at go
  simp [go, zl, ag]
open Classical in
end
end TK

set_option Elab.async false
set_option linter.all false
set_option maxRecDepth 100000
set_option maxHeartbeats 4000000
namespace TK
open PySem PySem.Spec
open PyProof.Rows hiding St
open L2
section
variable {l p s f w N e : Nat} {rs : List Rw} {F : List Fd} {st : Store} {d : D} {C C' : Nat → Nat → Int} {dn : Option Bd} {W : List Bd} {P : Bd → Prop} {fs : List Bool}
theorem doC_len : (doC N rs C).length = rs.length := by simp [doC]
theorem Least.uniq (hp : Par N rs F) (L : Least N rs F C) (L' : Least N rs F C') {m b : Nat} (hm : m ≤ rs.length) (hb : b ≤ N) : C m b = C' m b :=
  Int.le_antisymm ((L.der m hm b hb).le hp.hF L'.sol) ((L'.der m hm b hb).le hp.hF L.sol)
theorem Least.rowC (hp : Par N rs F) (L : Least N rs F C) (L' : Least N rs F C') {m : Nat} (hm : m ≤ rs.length) : rowC N C m = rowC N C' m := by
  unfold TK.rowC
  refine List.map_congr_left fun b hb => ?_
  have := List.mem_range.mp hb
  exact L.uniq hp L' hm (by omega)
theorem Least.doC (hp : Par N rs F) (L : Least N rs F C) (L' : Least N rs F C') : doC N rs C = doC N rs C' := by
  unfold TK.doC
  refine List.map_congr_left fun m hm => ?_
  have := List.mem_range.mp hm
  unfold flagC
  rw [L.rowC hp L' (m := m) (by omega), L.rowC hp L' (m := m + 1) (by omega)]
theorem fam_doing_ok (hp : Par N rs F) (h : FS p s f w N rs F st C dn W e P) : m_Family__m_doing [.ref p] st = .ok (.tup ((doC N rs C).map D.bl)) (st ++ [.lst ((doC N rs C).map D.bl)]) := by
  have hM := hp.mM
  have z0 : 0 ≤ sizeLine := Nat.zero_le _
  have l1 := (List.getElem?_eq_some_iff.mp h.fam.obj).1
  have l2 := (List.getElem?_eq_some_iff.mp h.fam.stp).1
  have l3 := (List.getElem?_eq_some_iff.mp h.fam.cut).1
  have ob : ∀ o : AO, (st ++ [o])[p]? = some (.ins "Family" [("offices", .int N), ("steps", .ref s), ("finds", .ref f), ("latest", .ref (p + 1)), ("cuts", .ref (p + rs.length + 3)), ("came", .ref (p + rs.length + 4)), ("denied", optD dn), ("waiting", .ref w)]) := fun o => by rw [List.getElem?_append_left l1]; exact h.fam.at_
  have sp : ∀ o : AO, (st ++ [o])[s]? = some (.lst (rs.map stpD)) := fun o => by rw [List.getElem?_append_left l2]; exact h.fam.stp
  have gc : ∀ (o : AO) (m : Nat), m ≤ rs.length → getD (.ref (p + rs.length + 3)) (.int m) (st ++ [o]) = .ok (.ref (p + 2 + m)) (st ++ [o]) := fun o m hm => by
    refine getD_r (k := m) (by rw [List.getElem?_append_left l3]; exact h.fam.cut) rfl ?_
    rw [List.getElem?_map, List.getElem?_range (by omega)]
    rfl
  have ro : ∀ (o : AO) (m : Nat), m ≤ rs.length → (st ++ [o])[p + 2 + m]? = some (.lst ((rowC N C m).map D.int)) := fun o m hm => by rw [List.getElem?_append_left (by omega)]; exact h.fam.row m hm
  have dl : (doC N rs C).length = rs.length := doC_len
  rw [m_Family__m_doing_eq]
  simp [okIf_pos z0, ob, lf_steps, sp]
  generalize hq : loopF _ _ _ _ _ _ = r
  obtain ⟨e1, s1, rfl, o2, o3, rfl, rfl⟩ := loopF_next hq (fun i env s1 => ∃ o2 o3, env = [some (.ref p), some (.ref st.length), o2, o3] ∧ s1 = st ++ [.lst (((doC N rs C).take i).map D.bl)]) ⟨none, none, rfl, by simp⟩ fun i d env s1 hI hd => by
    obtain ⟨o2, o3, rfl, rfl⟩ := hI
    obtain ⟨x, rfl, hx⟩ := enum_get hd
    rw [List.getElem?_map] at hx
    cases hri : rs[i]? with
    | none => rw [hri] at hx; cases hx
    | some r =>
      rw [hri] at hx
      cases hx
      have hil : i < rs.length := (List.getElem?_eq_some_iff.mp hri).1
      have dg := doC_get (N := N) (C := C) hri
      have et : (doC N rs C).take (i + 1) = (doC N rs C).take i ++ [flagC N C r i] := by rw [List.take_add_one, dg]; rfl
      have lt : ((doC N rs C).take i).length = i := by rw [List.length_take]; omega
      rw [et]
      simp only [Nat.zero_add]
      generalize (doC N rs C).take i = T at lt
      have a1 := gc (.lst (T.map D.bl)) i (by omega)
      have a2 := gc (.lst (T.map D.bl)) (i + 1) (by omega)
      have a2' : getD (.ref (p + rs.length + 3)) (.int ((i : Int) + 1)) (st ++ [.lst (T.map D.bl)]) = .ok (.ref (p + 2 + (i + 1))) (st ++ [.lst (T.map D.bl)]) := a2
      have ne := neD_refs (ro (.lst (T.map D.bl)) i (by omega)) (ro (.lst (T.map D.bl)) (i + 1) (by omega))
      have ap := app_last (st := st) (xs := T.map D.bl) (d := .bl (flagC N C r i)) (by have q : T.length + 1 ≤ sizeLine := szl (by omega); simp; omega)
      have o1 := ob (.lst (T.map D.bl))
      have s1 := sp (.lst ((T ++ [flagC N C r i]).map D.bl))
      refine ⟨[some (.ref p), some (.ref st.length), some (.int i), some (stpD r)], by simp, [some (.ref p), some (.ref st.length), some (.int i), some (stpD r)], st ++ [.lst ((T ++ [flagC N C r i]).map D.bl)], .inl ?_, by rw [gOK_cons]; exact ⟨by rw [seqOf_ref, s1], by simp⟩, _, _, rfl, rfl⟩
      rw [List.map_append, List.map_singleton]
      generalize hS : st ++ [AO.lst (T.map D.bl)] = S at a1 a2' ne ap o1
      by_cases c : r.f = true
      · have fc : flagC N C r i = true := by simp [flagC, c]
        rw [fc] at ap ⊢
        simp [sp2, c, ap, ← hS]
        rw [hS]
        simp [ap]
      · have c : r.f = false := by simpa using c
        have fc : flagC N C r i = decide (rowC N C i ≠ rowC N C (i + 1)) := by simp [flagC, c]
        rw [fc] at ap ⊢
        have il : isLst (.ref st.length) S = true := by rw [← hS]; simp
        simp [sp2, c, o1, lf_cuts, a1, a2', ne, il]
        simp at ap
        rw [ap]
        simp
  have tk : List.take (enumFrom 0 (rs.map stpD)).length ((doC N rs C).map D.bl) = (doC N rs C).map D.bl := List.take_of_length_le (by rw [enumFrom_len]; simp [dl])
  simp [tk]
theorem best_doing_ok (hp : Par N rs F) (h : st[l]? = some (logO N rs)) (hd : LisF F st d) : ∃ dd, gcH st (m_best_doing [.ref l, d] st) = .ok dd st ∧ ((∃ C, Least N rs F C ∧ dd = .tup ((doC N rs C).map D.bl)) ∨ (¬ Fits N rs F ∧ dd = .non)) := by
  obtain ⟨st', C, dn, W, e, w, g⟩ := family_ok hp h hd
  have ob := g.fs.fam.at_
  have gg := g.gc st (by omega)
  rcases g.how with ⟨rfl, L⟩ | ⟨hn, nf⟩
  · refine ⟨.tup ((doC N rs C).map D.bl), ?_, .inl ⟨C, L, rfl⟩⟩
    have sf := g.fs.fam.self (x := "doing") lf_doing
    have fd := fam_doing_ok hp g.fs
    have e1 : m_best_doing [.ref l, d] st = .ok (.tup ((doC N rs C).map D.bl)) st' := by
      rw [m_best_doing_eq]
      have g2 : gcH st' (.ok (.tup ((doC N rs C).map D.bl)) (st' ++ [.lst ((doC N rs C).map D.bl)])) = .ok (.tup ((doC N rs C).map D.bl)) st' := gcR_ok _ (by simp only [closed, bl_closed])
      generalize (doC N rs C).map D.bl = T at fd g2
      simp [g.run, gg, ob, lf_denied, optD, sf, fd, g2]
    rw [e1]
    exact gc_back g.old (by simp only [closed, bl_closed])
  · refine ⟨.non, ?_, .inr ⟨nf, rfl⟩⟩
    have e1 : m_best_doing [.ref l, d] st = .ok .non st' := by
      rw [m_best_doing_eq]
      cases dn with
      | none => exact absurd rfl hn
      | some B => simp [g.run, gg, ob, lf_denied, optD, bdD]
    rw [e1]
    exact gc_back g.old rfl
theorem doing_for_ok (hp : Par N rs F) (h : st[l]? = some (logO N rs)) (hd : LisF F st d) : ∃ dd, gcH st (m_doing_for [.ref l, d] st) = .ok dd st ∧ ((∃ C, Least N rs F C ∧ dd = .tup ((doC N rs C).map D.bl)) ∨ (¬ Fits N rs F ∧ dd = .non)) := by
  obtain ⟨dd, e1, e2⟩ := best_doing_ok hp h hd
  refine ⟨dd, ?_, e2⟩
  rw [m_doing_for_eq]
  have : gcH st (.ok dd st) = .ok dd st := gcR_same (by
    rcases e2 with ⟨C, _, rfl⟩ | ⟨_, rfl⟩
    · simp only [closed, bl_closed]
    · rfl)
  simp [check_finds_ok hp h hd, e1, this]
/-! ## whether finds are true -/
def trueB (N : Nat) (rs : List Rw) (fs : List Bool) (F : List Fd) : Bool := F.all fun f => decide ((ledS N rs fs f.m).getD f.o 0 = (f.e : Int))
theorem trueB_iff : trueB N rs fs F = true ↔ ∀ f ∈ F, (ledS N rs fs f.m).getD f.o 0 = (f.e : Int) := by
  unfold trueB
  simp only [List.all_eq_true, decide_eq_true_iff]
theorem good_iff : Good N rs F fs ↔ doOk rs fs ∧ trueB N rs fs F = true := by rw [trueB_iff]; rfl
def trD (N : Nat) (rs : List Rw) (fs : List Bool) (d : D) : D := match d with
  | .tup [.int m, .int o, .int e] => .bl (decide ((ledS N rs fs m.toNat).getD o.toNat 0 = e))
  | d => d
theorem led_at {q m : Nat} (h : st[q]? = some (.lst (ledL N rs fs (rs.length + 1)))) (hm : m ≤ rs.length) : getD (.ref q) (.int m) st = .ok (ledD N rs fs m) st := getD_r (k := m) h rfl (ledL_at (by omega))
theorem true_comp {a b q : Nat} {env : AEnv} {fe : EF} (hrs : ∀ r ∈ rs, RwOk N r) (hF : ∀ f ∈ F, FdOk N rs.length f) (hl : F.length ≤ 1000) (hd : LisF F st d) (he : ∀ x y z, fe ((((env.set a (some x)).set (a + 1) (some y)).set (a + 2) (some z))) st = .ok (.ref q) st)
    (hb : eVar b env st = .ok d st) (ha : a + 2 < env.length) (hq : st[q]? = some (.lst (ledL N rs fs (rs.length + 1)))) (hw : wipeE env [a, a + 1, a + 2] = env) :
    compF [a, a + 1, a + 2] (iSeqF (eVar b)) (.tup [(.name a), (.name (a + 1)), (.name (a + 2))]) bYes (e2 eqD (e2 getD (e2 getD fe (eVar a)) (eVar (a + 1))) (eVar (a + 2))) env st = .ok ((F.map fun f => decide ((ledS N rs fs f.m).getD f.o 0 = (f.e : Int))).map D.bl) st := by
  have zl : F.length ≤ sizeLine := szl (by omega)
  have it : ∃ g : Its, iSeqF (eVar b) env st = .ok g st ∧ g.1 = F.map fdD ∧ gOK g st := by
    rw [iSeqF_ap, hb]
    rcases hd with rfl | ⟨n, rfl, hn⟩
    · exact ⟨(F.map fdD, []), by simp, rfl, by simp⟩
    · exact ⟨(F.map fdD, [(n, F.map fdD)]), by simp [hn], rfl, by simp [hn]⟩
  obtain ⟨g, i1, i2, i3⟩ := it
  rw [compF_ap, i1]
  simp only [R.bind_ok]
  rw [okIf_pos ⟨i3, by rw [i2]; simpa using zl⟩, i2, hw]
  generalize hq2 : compL _ _ _ _ _ _ _ = r1
  have := compL_mapE hq2 i3 (fun _ => true) (trD N rs fs) fun d hd => by
    obtain ⟨f, hf, rfl⟩ := List.mem_map.mp hd
    obtain ⟨h1, h2, h3⟩ := hF f hf
    have eg : fdD f = .tup [.int f.m, .int f.o, .int f.e] := rfl
    refine ⟨((env.set a (some (.int f.m))).set (a + 1) (some (.int f.o))).set (a + 2) (some (.int f.e)), by rw [eg]; simp, rfl, fun _ => ?_⟩
    have v0 : (((env.set a (some (D.int f.m))).set (a + 1) (some (.int f.o))).set (a + 2) (some (.int f.e)))[a]? = some (some (.int f.m)) := by
      rw [List.getElem?_set_ne (by omega), List.getElem?_set_ne (by omega), List.getElem?_set_self (by omega)]
    have v1 : (((env.set a (some (D.int f.m))).set (a + 1) (some (.int f.o))).set (a + 2) (some (.int f.e)))[a + 1]? = some (some (.int f.o)) := by
      rw [List.getElem?_set_ne (by omega), List.getElem?_set_self (by simp; omega)]
    have v2 : (((env.set a (some (D.int f.m))).set (a + 1) (some (.int f.o))).set (a + 2) (some (.int f.e)))[a + 2]? = some (some (.int f.e)) := by
      rw [List.getElem?_set_self (by simp; omega)]
    have g1 := led_at (m := f.m) hq h1
    have g2 : getD (ledD N rs fs f.m) (.int f.o) st = .ok (.int ((ledS N rs fs f.m).getD f.o 0)) st := getD_i rfl (by rw [(ledS_row (N := N) (fs := fs) hrs f.m).1]; exact h2)
    rw [eg]
    simp only [e2_ap, he, R.bind_ok, eVar_ap, v0, v1, v2, g1, g2, eqD_int, trD]
    rfl
  rw [this, map_true, List.map_map, List.map_map]
  have e1 : (F.map (trD N rs fs ∘ fdD)) = F.map (D.bl ∘ fun f => decide ((ledS N rs fs f.m).getD f.o 0 = (f.e : Int))) := List.map_congr_left fun f _ => by simp [fdD, trD]
  rw [e1]
  rfl
theorem trueB_all : ((F.map fun f => decide ((ledS N rs fs f.m).getD f.o 0 = (f.e : Int))).all id) = trueB N rs fs F := by
  unfold trueB
  rw [List.all_map]
  rfl
theorem are_true_ok (hp : Par N rs F) (h : st[l]? = some (logO N rs)) (hd : LisF F st d) (ho : doOk rs fs) : gcH st (m_are_true [.ref l, d, .tup (fs.map D.bl)] st) = .ok (.bl (trueB N rs fs F)) st := by
  have hM := hp.mM
  have hl : lDrop (eCall m_led (lCons (eVar 0) (lCons (eVar 2) lNil))) [some (.ref l), some d, some (.tup (fs.map D.bl)), none, none, none, none] st = .ok (ledL N rs fs (rs.length + 1)) st :=
    lDrop_call (as := [.ref l, .tup (fs.map D.bl)]) (X := [.lst (ledL N rs fs (rs.length + 1))]) (by simp) (led_ok h hp.n12 (by omega) hp.hrs ho) (Nat.le_refl _) (by simp) (ledL_closed _ _)
  have tc := true_comp (a := 4) (b := 1) (q := st.length) (fs := fs) (st := st ++ [.lst (ledL N rs fs (rs.length + 1))]) (env := [some (.ref l), some d, some (.tup (fs.map D.bl)), some (.ref st.length), none, none, none]) (fe := eVar 3) hp.hrs hp.hF (by have := hp.f40; omega) (hd.app _) (fun x y z => by simp) (by simp) (by simp) (by simp) (by simp)
  have e1 : m_are_true [.ref l, d, .tup (fs.map D.bl)] st = .ok (.bl (trueB N rs fs F)) (st ++ [.lst (ledL N rs fs (rs.length + 1))]) := by
    rw [m_are_true_eq]
    simp only [runDef_ap]
    show (match (sSeq _ _ : SF) [some (.ref l), some d, some (.tup (fs.map D.bl)), none, none, none, none] st with | .next _ st' => R.ok D.non st' | .ret d st' => .ok d st' | .exc _ x st' => .exc x st' | _ => .bad) = _
    rw [sSeq_ap, sSet_ap, eLst_ap, hl]
    simp only [R.bind_ok, sOf_ok, sThen_next]
    show (match (sRet _ : SF) [some (.ref l), some d, some (.tup (fs.map D.bl)), some (.ref st.length), none, none, none] _ with | .next _ st' => R.ok D.non st' | .ret d st' => .ok d st' | .exc _ x st' => .exc x st' | _ => .bad) = _
    rw [sRet_ap, eQ_ap, tc, R.bind_ok, allG_bls, trueB_all]
    rfl
  rw [e1]
  exact gcR_ok _ rfl
theorem is_doing_for_ok (hp : Par N rs F) (h : st[l]? = some (logO N rs)) (hd : LisF F st d) (hl : fs.length = rs.length) : gcH st (m_is_doing_for [.ref l, d, .tup (fs.map D.bl)] st) = .ok (.bl (doB rs fs && trueB N rs fs F)) st := by
  have hM := hp.mM
  have e1 := is_doing_b (fs := fs) h (by omega) hl
  rw [m_is_doing_for_eq]
  by_cases c : doB rs fs = true
  · have e2 := are_true_ok hp h hd ((doB_iff hl).mp c)
    rw [c] at e1
    simp [check_finds_ok hp h hd, e1, e2, c]
  · have c : doB rs fs = false := by simpa using c
    rw [c] at e1
    simp [check_finds_ok hp h hd, e1, c]
end
end TK

set_option Elab.async false
set_option linter.all false
set_option maxRecDepth 100000
set_option maxHeartbeats 4000000
namespace TK
open PySem PySem.Spec
open PyProof.Rows hiding St
open L2
/-! # what the laws of finds draw -/
section
variable {st s1 : Store} {n N : Nat} {k : Int} {rs : List Rw} {F : List Fd} {fs : List Bool} {d : D}
theorem same_split {s' X s2 : Store} (hn : n < s'.length) (h : SameBut n (s' ++ X) s2) : ∃ s3, s2 = s3 ++ X ∧ SameBut n s' s3 := by
  refine ⟨s2.take s'.length, ?_, ?_⟩
  · have e : s2.drop s'.length = X := by
      apply List.ext_getElem?
      intro i
      rw [List.getElem?_drop, h.2 _ (by omega), List.getElem?_append_right (by omega)]
      congr 1
      omega
    rw [← e, List.take_append_drop]
  · have hl := h.1
    simp at hl
    refine ⟨by rw [List.length_take]; omega, fun i hi => ?_⟩
    by_cases q : i < s'.length
    · rw [List.getElem?_take_of_lt q, h.2 i hi, List.getElem?_append_left q]
    · rw [List.getElem?_eq_none (by simp; omega), List.getElem?_eq_none (by omega)]
/-- a draw, other objects behind -/
theorem draw_x {s : Int} {X : Store} (h : Dice n k st) (hk : k < 1000000000) (hs0 : 0 < s) (hs : s < 1000000000) :
    ∃ r st', gcH (st ++ X) (m__law_draw [.ref n, .int s] (st ++ X)) = .ok (.int r) (st' ++ X) ∧ 0 ≤ r ∧ r < s ∧ Dice n (k + 1) st' ∧ SameBut n st st' := by
  obtain ⟨r, s2, e, r0, r1, D1, S1⟩ := draw_ok (h.app X) hk hs0 hs
  obtain ⟨s3, rfl, S3⟩ := same_split h.lt S1
  refine ⟨r, s3, e, r0, r1, ?_, S3⟩
  have := D1.cut (st := st) h.lt ⟨by simp [S3.1], fun i hi hn => by rw [List.getElem?_append_left (by rw [S3.1]; exact hi)]; exact S3.2 i hn⟩
  rw [← S3.1] at this
  simpa using this
theorem rows_d_ok {N share : Int} {M : Nat} (h : Dice n k st) (hk : k < 10000) (h1 : 1 ≤ N) (h12 : N ≤ 12) (hM : M ≤ 1000) :
    ∃ rows st', gcH st (m__law_rows [.ref n, .int N, .int M, .int share] st) = .ok (.tup rows) st' ∧ (∀ d ∈ rows, RowD N d) ∧ rows.length ≤ M ∧ Dice n (k + 1 + 3 * M) st' ∧ SameBut n st st' := by
  have z0 : (0 : Nat) ≤ sizeLine := szl (by omega)
  by_cases e : N = 1
  · refine ⟨[], st, ?_, by simp, by simp, h.mono (by omega), .refl⟩
    rw [m__law_rows_eq]
    simp [e, okIf_pos z0]
    exact gcR_same rfl
  · obtain ⟨b, s2, hb, b0, b1, D1, S1⟩ := draw_ok (s := (M : Int) + 1) h (by omega) (by omega) (by omega)
    obtain ⟨m, rfl⟩ : ∃ m : Nat, b = m := ⟨b.toNat, by omega⟩
    have zM : m ≤ sizeLine := szl (by omega)
    rw [m__law_rows_eq]
    simp [hb, e, rngR_nat (n := m) (show m ≤ 1000000 by omega), okIf_pos zM]
    generalize hq : compL _ _ _ _ _ _ _ = r
    obtain ⟨ys, s, rfl, hy, hl, D2, N2⟩ := compL_ok hq (fun i acc s => (∀ d ∈ acc, RowD N d) ∧ acc.length = i ∧ Dice n (k + 1 + 3 * i) s ∧ Near n s2 s) ⟨by simp, rfl, by simpa using D1, .refl⟩ fun i d acc s hI hd => by
      obtain ⟨ha, hl, hD, hN⟩ := hI
      have hi : i < m := by
        rw [rangeD_get] at hd
        split at hd
        · assumption
        · cases hd
      obtain ⟨d', s', hd', hR, hD', hS'⟩ := row_ok (N := N) (share := share) hD (by omega) (by omega) h12
      refine ⟨_, asgT_name _ _ _, .inl ⟨d', s, s', rfl, by simp [hd'], by simp, fun y hy => ?_, by simp [hl], hD'.mono (by omega), hN.trans hS'.near⟩⟩
      rcases List.mem_append.mp hy with hy | hy
      · exact ha y hy
      · obtain rfl : y = d' := by simpa using hy
        exact hR
    have hl : ys.length = m := by simpa using hl
    have D2 : Dice n (k + 1 + 3 * m) s := by simpa using D2
    obtain ⟨s4, h4, D4, S4⟩ := gc_near (d := .tup ys) D2 h.lt (S1.near.trans N2) (by simp [closed, rowD_closed hy])
    exact ⟨ys, s4, by simp [h4], hy, by omega, D4.mono (by omega), S4⟩
theorem some_doing_ok (h : Dice n k st) (hk : k < 10000) (hM : rs.length ≤ 2000) :
    ∃ fs st', gcH st (m__law_some_doing [.ref n, .tup (rs.map rwD)] st) = .ok (.tup (fs.map D.bl)) st' ∧ doOk rs fs ∧ Dice n (k + rs.length) st' ∧ SameBut n st st' := by
  have zM : rs.length ≤ sizeLine := szl (by omega)
  rw [m__law_some_doing_eq]
  simp [okIf_pos zM]
  generalize hq : compL _ _ _ _ _ _ _ = r
  obtain ⟨ys, s, rfl, fs, rfl, hd, D2, N2⟩ := compL_ok hq (fun i acc s => ∃ fs : List Bool, acc = fs.map D.bl ∧ doOk (rs.take i) fs ∧ Dice n (k + i) s ∧ Near n st s) ⟨[], rfl, trivial, by simpa using h, .refl⟩ fun i d acc s hI hd => by
    obtain ⟨fs, rfl, hf, hD, hN⟩ := hI
    rw [List.getElem?_map] at hd
    cases hri : rs[i]? with
    | none => rw [hri] at hd; cases hd
    | some r =>
      rw [hri] at hd
      cases hd
      have hil : i < rs.length := (List.getElem?_eq_some_iff.mp hri).1
      have et : rs.take (i + 1) = rs.take i ++ [r] := by rw [List.take_add_one, hri]; rfl
      by_cases e : r.f = true
      · refine ⟨_, asgT_name _ _ _, .inl ⟨.bl true, s, s, rfl, by simp [rw2, e], by simp, fs ++ [true], by simp, ?_, hD.mono (by omega), hN⟩⟩
        rw [et]
        exact doOk_snoc (fun _ => rfl) hf
      · obtain ⟨z, s', hz, _, _, hD', hS'⟩ := draw_ok (s := 2) hD (by omega) (by omega) (by omega)
        refine ⟨_, asgT_name _ _ _, .inl ⟨.bl (decide (z = 0)), s, s', rfl, by simp [rw2, e, hz], by simp, fs ++ [decide (z = 0)], by simp, ?_, hD'.mono (by omega), hN.trans hS'.near⟩⟩
        rw [et]
        exact doOk_snoc (fun q => absurd q e) hf
  have hd : doOk rs fs := by simpa using hd
  have D2 : Dice n (k + rs.length) s := by simpa using D2
  obtain ⟨s4, h4, D4, S4⟩ := gc_near (d := .tup (fs.map D.bl)) D2 h.lt N2 (by simp only [closed, bl_closed])
  exact ⟨fs, s4, by simp [h4], hd, D4, S4⟩
theorem lDrop_diceF {fe : EF} {env : AEnv} {s1 s2 X : Store} {zs : List D} {q : Nat} (e : fe env s1 = .ok (.ref q) (s2 ++ X)) (hq : s2.length ≤ q) (hX : (s2 ++ X)[q]? = some (.lst zs)) (h : Dice n k s2) (hn : n < s1.length) (S : SameBut n s1 s2) (hc : closeds s1.length zs = true) : lDrop fe env s1 = .ok zs s2 := by
  have ht : Trim s1 (s2 ++ X) := fun i hi => by
    have hi2 : i < s2.length := by rw [S.1]; exact hi
    rw [List.getElem?_append_left hi2]
    by_cases e : i = n
    · subst e
      obtain ⟨c, cells, a, b, m, e, h0, hn1, hc, _⟩ := h
      refine .inr ⟨.lst [.ref c, .int a, .int b, .int m, .int e], ?_, ?_⟩
      · rw [h0]; exact dS_at hn1
      · simp [closedO, closeds, closed]; omega
    · exact .inl (S.2 i e)
  have e2 : (s2 ++ X).take s1.length = s2 := by rw [← S.1]; simp
  unfold lDrop
  rw [e]
  simp only
  rw [if_pos ⟨ht, by rw [← S.1]; exact hq⟩, hX]
  simp only [hc, if_true, e2]
theorem sheet_nat (hrs : ∀ r ∈ rs, RwOk N r) {o m : Nat} (ho : o < N) : ∃ v : Nat, (ledS N rs fs m).getD o 0 = v ∧ v < N := by
  have hr := ledS_row (N := N) (fs := fs) hrs m
  have hb := (ris_all hr.2).2
  have hl : o < (ledS N rs fs m).length := by rw [hr.1]; exact ho
  have e : (ledS N rs fs m).getD o 0 = (ledS N rs fs m)[o] := by rw [List.getD_eq_getElem?_getD, List.getElem?_eq_getElem hl]; rfl
  have := hb _ (List.getElem_mem hl)
  refine ⟨((ledS N rs fs m).getD o 0).toNat, by omega, by omega⟩
theorem law_ledF_ok (hN : N ≤ 12) (hM : rs.length ≤ 2000) (hrs : ∀ r ∈ rs, RwOk N r) (hd : doOk rs fs) :
    ∃ x, m__law_led [.int N, .tup (rs.map rwD), .tup (fs.map D.bl)] st = .ok (.ref st.length) (st ++ (.lst (ledL N rs fs (rs.length + 1)) :: x)) := by
  have z1 : 1 ≤ sizeLine := szl (by omega)
  have hr0 : rgOk 0 (N : Int) := by
    unfold rgOk
    have h2 : (2 : Int) ^ 62 = 4611686018427387904 := by decide
    rw [h2]
    omega
  have e0 : D.tup (rangeD 0 N) = ledD N rs fs 0 := by
    unfold ledD ledS rangeD
    rw [List.map_map]
    congr 1
    refine List.map_congr_left fun i _ => ?_
    simp
  rw [m__law_led_eq]
  simp [okIf_pos hr0, okIf_pos z1, e0]
  generalize hq : loopF _ _ _ _ _ _ = r
  obtain ⟨e, s, rfl, x, o4, o5, o6, rfl, rfl⟩ := loopF_next hq (fun i env s => ∃ x o4 o5 o6, env = [some (.int N), some (.tup (rs.map rwD)), some (.tup (fs.map D.bl)), some (.ref st.length), o4, o5, o6] ∧ s = st ++ (.lst (ledL N rs fs (i + 1)) :: x)) ⟨[], none, none, none, rfl, rfl⟩ fun i d env s hI hd' => by
    obtain ⟨x, o4, o5, o6, rfl, rfl⟩ := hI
    obtain ⟨f, r, rfl, hr, hf⟩ := zipD_getB hd hd'
    have hi : i < rs.length := (List.getElem?_eq_some_iff.mp hr).1
    obtain ⟨h1, h2, h3⟩ := hrs r (List.mem_of_getElem? hr)
    have hrow := (ledS_row (N := N) (fs := fs) hrs i).1
    have es := ledS_suc (N := N) hr hf
    have e2 : ledL N rs fs (i + 1 + 1) = ledL N rs fs (i + 1) ++ [ledD N rs fs (i + 1)] := ledL_suc (i + 1)
    have zl : (ledL N rs fs (i + 1)).length < sizeLine := by
      have q : (ledL N rs fs (i + 1)).length = i + 1 := by simp [ledL]
      have q2 : i + 1 + 1 ≤ sizeLine := szl (by omega)
      omega
    have hS : (st ++ (AO.lst (ledL N rs fs (i + 1)) :: x))[st.length]? = some (.lst (ledL N rs fs (i + 1))) := by simp
    have gl : getD (.ref st.length) (.int (-1)) (st ++ (AO.lst (ledL N rs fs (i + 1)) :: x)) = .ok (ledD N rs fs i) (st ++ (AO.lst (ledL N rs fs (i + 1)) :: x)) := by
      rw [getD_ref, seqOf_ref, hS]
      simp [ledL_suc, atI_last]
    have ga : ∀ o d, appendG (.ref st.length) [d] (st ++ (AO.lst (ledL N rs fs (i + 1)) :: x) ++ [o]) = .ok .non (st ++ (.lst (ledL N rs fs (i + 1) ++ [d]) :: (x ++ [o]))) := fun o d => by
      rw [appendG_ref (m := st.length) (xs := ledL N rs fs (i + 1)) (by rw [List.getElem?_append_left (by simp)]; exact hS) zl, set_mid]
    have hSo : ∀ o, (st ++ (AO.lst (ledL N rs fs (i + 1)) :: x) ++ [o])[st.length]? = some (.lst (ledL N rs fs (i + 1))) := fun o => by rw [List.getElem?_append_left (by simp)]; exact hS
    refine ⟨_, rfl, ?_⟩
    have ed : ledD N rs fs (i + 1) = .tup ((ledS N rs fs (i + 1)).map D.int) := rfl
    have ed0 : ledD N rs fs i = .tup ((ledS N rs fs i).map D.int) := rfl
    rw [e2, ed, es]
    rw [ed0] at gl
    clear e2 ed es ed0 hq e0 zl
    revert gl
    unfold cpL
    generalize ledS N rs fs i = xs at hrow
    intro gl
    have hx : ixN xs.length (r.x : Int) = some r.x := by
      unfold ixN
      rw [if_pos (by omega), if_pos (by omega)]
      simp
    have gy : ∀ s : Store, getD (.ref s.length) (.int r.y) (s ++ [.lst (xs.map D.int)]) = .ok (.int (xs.getD r.y 0)) (s ++ [.lst (xs.map D.int)]) := fun s =>
      getD_r (xs := xs.map D.int) (k := r.y) (by simp) rfl (by rw [List.getElem?_map, List.getElem?_eq_getElem (by omega), List.getD_eq_getElem?_getD, List.getElem?_eq_getElem (by omega)]; rfl)
    revert gy
    generalize xs.getD r.y 0 = v
    intro gy
    generalize hs' : st ++ (AO.lst (ledL N rs fs (i + 1)) :: x) = s at gl hS ga hSo
    cases f with
    | true =>
      refine ⟨[some (.int N), some (.tup (rs.map rwD)), some (.tup (fs.map D.bl)), some (.ref st.length), some (.bl true), some (rwD r), some (.ref s.length)], st ++ (.lst (ledL N rs fs (i + 1) ++ [.tup ((xs.set r.x v).map D.int)]) :: (x ++ [.lst ((xs.set r.x v).map D.int)])), .inl ?_, by simp, ?_⟩
      · simp [gl, rw0, rw1, gy, hx, hS, hSo, ga]
      · exact ⟨_, _, _, _, rfl, rfl⟩
    | false =>
      refine ⟨[some (.int N), some (.tup (rs.map rwD)), some (.tup (fs.map D.bl)), some (.ref st.length), some (.bl false), some (rwD r), some (.ref s.length)], st ++ (.lst (ledL N rs fs (i + 1) ++ [.tup (xs.map D.int)]) :: (x ++ [.lst (xs.map D.int)])), .inl ?_, by simp, ?_⟩
      · simp [gl, hS, hSo, ga]
      · exact ⟨_, _, _, _, rfl, rfl⟩
  exact ⟨x, by simp [zipD_lenD hd]⟩
theorem finds_ok {most odd : Nat} {fr : LF} {env : AEnv} (hfr : fr env st = .ok [.ref n, .int N, .tup (rs.map rwD), .int most, .int odd] st) (h : Dice n k st) (hk : k < 5000) (hN1 : 1 ≤ N) (hN : N ≤ 12) (hM : rs.length ≤ 2000) (hrs : ∀ r ∈ rs, RwOk N r) (hmo : most ≤ 100) (ho1 : 1 ≤ odd) (ho2 : odd ≤ 1000) :
    ∃ (F : List Fd) (st' : Store), lDrop (eCall m__law_finds fr) env st = .ok (F.map fdD) st' ∧ (∀ f ∈ F, FdOk N rs.length f) ∧ F.length ≤ most ∧ Dice n (k + rs.length + 1 + 4 * most) st' ∧ SameBut n st st' := by
  have z0 : 0 ≤ sizeLine := Nat.zero_le _
  have z3 : 3 ≤ sizeLine := szl (by omega)
  have ld2 : ∃ fs s1, lDrop (eCall m__law_led (lCons (eVar 1) (lCons (eVar 2) (lCons (eCall m__law_some_doing (lCons (eVar 0) (lCons (eVar 2) lNil))) lNil)))) [some (.ref n), some (.int N), some (.tup (rs.map rwD)), some (.int most), some (.int odd), none, none, none, none, none, none] st = .ok (ledL N rs fs (rs.length + 1)) s1 ∧ doOk rs fs ∧ Dice n (k + rs.length) s1 ∧ SameBut n st s1 := by
    obtain ⟨fs, s2, hfs, hdo, D2, S2⟩ := some_doing_ok (rs := rs) h (by omega) hM
    obtain ⟨x, hx⟩ := law_ledF_ok (st := s2) hN hM hrs hdo
    have e1 : eCall m__law_led (lCons (eVar 1) (lCons (eVar 2) (lCons (eCall m__law_some_doing (lCons (eVar 0) (lCons (eVar 2) lNil))) lNil))) [some (.ref n), some (.int N), some (.tup (rs.map rwD)), some (.int most), some (.int odd), none, none, none, none, none, none] st = .ok (.ref s2.length) (s2 ++ [.lst (ledL N rs fs (rs.length + 1))]) := by
      simp [hfs, hx]
      exact gcR_new _ [] (ledL_closed _ _) _ (by simp) (Nat.le_refl _)
    exact ⟨fs, s2, lDrop_diceF e1 (Nat.le_refl _) (by simp) D2 h.lt S2 (ledL_closed _ _), hdo, D2, S2⟩
  obtain ⟨fs, s1, ld, hdo, D1, S1⟩ := ld2
  obtain ⟨b, s2, hb, b0, b1, D2, S2⟩ := draw_x (X := [.lst (ledL N rs fs (rs.length + 1)), .lst []]) (s := (most : Int) + 1) D1 (by omega) (by omega) (by omega)
  obtain ⟨m, rfl⟩ : ∃ m : Nat, b = m := ⟨b.toNat, by omega⟩
  have e1 : ∃ (F : List Fd) (s3 : Store), m__law_finds [.ref n, .int N, .tup (rs.map rwD), .int most, .int odd] st = .ok (.ref (s3.length + 1)) (s3 ++ [.lst (ledL N rs fs (rs.length + 1)), .lst (F.map fdD)]) ∧ (∀ f ∈ F, FdOk N rs.length f) ∧ F.length ≤ most ∧ Dice n (k + rs.length + 1 + 4 * most) s3 ∧ SameBut n st s3 := by
    rw [m__law_finds_eq]
    simp [ld, okIf_pos z0, hb, rngR_nat (n := m) (show m ≤ 1000000 by omega)]
    generalize hq : loopF _ _ _ _ _ _ = r
    obtain ⟨e, s, rfl, F, s3, o7, o8, o9, o10, rfl, rfl, hF, hl, D3, S3⟩ := loopF_next hq (fun i env s => ∃ (F : List Fd) (s3 : Store) (o7 o8 o9 o10 : Option D), env = [some (.ref n), some (.int N), some (.tup (rs.map rwD)), some (.int most), some (.int odd), some (.ref s1.length), some (.ref (s1.length + 1)), o7, o8, o9, o10] ∧
        s = s3 ++ [.lst (ledL N rs fs (rs.length + 1)), .lst (F.map fdD)] ∧ (∀ f ∈ F, FdOk N rs.length f) ∧ F.length = i ∧ Dice n (k + rs.length + 1 + 4 * i) s3 ∧ SameBut n s1 s3) ⟨[], s2, none, none, none, none, rfl, rfl, by simp, rfl, D2.mono (by omega), S2⟩ fun i d env s hI hd => by
      obtain ⟨F, s3, o7, o8, o9, o10, rfl, rfl, hF, hl, D3, S3⟩ := hI
      have hi : i < m := by
        rw [rangeD_get] at hd
        split at hd
        · assumption
        · cases hd
      refine ⟨_, asgT_name _ _ _, ?_⟩
      obtain ⟨a, s4, ha, a0, a1, D4, S4⟩ := draw_x (X := [.lst (ledL N rs fs (rs.length + 1)), .lst (F.map fdD)]) (s := (rs.length : Int) + 1) D3 (by omega) (by omega) (by omega)
      obtain ⟨o, s5, ho, o0, o1, D5, S5⟩ := draw_x (X := [.lst (ledL N rs fs (rs.length + 1)), .lst (F.map fdD)]) (s := (N : Int)) D4 (by omega) (by omega) (by omega)
      obtain ⟨c, s6, hc, c0, c1, D6, S6⟩ := draw_x (X := [.lst (ledL N rs fs (rs.length + 1)), .lst (F.map fdD)]) (s := (odd : Int)) D5 (by omega) (by omega) (by omega)
      obtain ⟨a, rfl⟩ : ∃ x : Nat, a = x := ⟨a.toNat, by omega⟩
      obtain ⟨o, rfl⟩ : ∃ x : Nat, o = x := ⟨o.toNat, by omega⟩
      obtain ⟨v, hv, hvN⟩ := sheet_nat (fs := fs) hrs (o := o) (m := a) (by omega)
      have lq : ∀ s' : Store, s'.length = s1.length → (s' ++ [AO.lst (ledL N rs fs (rs.length + 1)), AO.lst (F.map fdD)])[s1.length]? = some (.lst (ledL N rs fs (rs.length + 1))) := fun s' e => by rw [List.getElem?_append_right (by omega)]; simp [e]
      have lf : ∀ s' : Store, s'.length = s1.length → (s' ++ [AO.lst (ledL N rs fs (rs.length + 1)), AO.lst (F.map fdD)])[s1.length + 1]? = some (.lst (F.map fdD)) := fun s' e => by rw [List.getElem?_append_right (by omega)]; simp [e]
      have l5 : s5.length = s1.length := by rw [S5.1, S4.1, S3.1]
      have l6 : s6.length = s1.length := by rw [S6.1, l5]
      have g1 := led_at (m := a) (lq s5 l5) (by omega)
      have g2 : ∀ s', getD (ledD N rs fs a) (.int o) s' = .ok (.int v) s' := fun s' => by rw [← hv]; exact getD_i rfl (by rw [(ledS_row (N := N) (fs := fs) hrs a).1]; omega)
      have zF : (F.map fdD).length < sizeLine := by have q : F.length + 1 ≤ sizeLine := szl (by omega); simp; omega
      have ap : ∀ (s' : Store) (f : Fd), s'.length = s1.length → appendG (.ref (s1.length + 1)) [.tup [.int f.m, .int f.o, .int f.e]] (s' ++ [.lst (ledL N rs fs (rs.length + 1)), .lst (F.map fdD)]) = .ok .non (s' ++ [.lst (ledL N rs fs (rs.length + 1)), .lst ((F ++ [f]).map fdD)]) := fun s' f e => by
        rw [appendG_ref (m := s1.length + 1) (lf s' e) zF, List.set_append_right _ _ (by omega), show s1.length + 1 - s'.length = 1 from by omega]
        simp [fdD]
      have il : ∀ s' : Store, s'.length = s1.length → isLst (.ref (s1.length + 1)) (s' ++ [.lst (ledL N rs fs (rs.length + 1)), .lst (F.map fdD)]) = true := fun s' e => by
        have := lf s' e
        simp only [isLst, this]
      by_cases cc : c = 0
      · obtain ⟨w, s7, hw, w0, w1, D7, S7⟩ := draw_x (X := [.lst (ledL N rs fs (rs.length + 1)), .lst (F.map fdD)]) (s := (N : Int)) D6 (by omega) (by omega) (by omega)
        obtain ⟨w, rfl⟩ : ∃ x : Nat, w = x := ⟨w.toNat, by omega⟩
        have l7 : s7.length = s1.length := by rw [S7.1, l6]
        have ap7 := ap s7 ⟨a, o, w⟩ l7
        have il7 := il s7 l7
        refine ⟨[some (.ref n), some (.int N), some (.tup (rs.map rwD)), some (.int most), some (.int odd), some (.ref s1.length), some (.ref (s1.length + 1)), some d, some (.int a), some (.int o), some (.int w)], s7 ++ [.lst (ledL N rs fs (rs.length + 1)), .lst ((F ++ [(⟨a, o, w⟩ : Fd)]).map fdD)], .inl ?_, by simp, F ++ [(⟨a, o, w⟩ : Fd)], s7, _, _, _, _, rfl, rfl, ?_, by simp [hl], D7.mono (by omega), ((S3.trans S4).trans S5).trans (S6.trans S7)⟩
        · simp [-List.map_append, ha, ho, g1, g2, hc, cc, hw, okIf_pos z3, ap7, il7]
        · intro f hf
          rcases List.mem_append.mp hf with hf | hf
          · exact hF f hf
          · rw [List.mem_singleton.mp hf]
            exact ⟨by simp; omega, by simp; omega, by simp; omega⟩
      · have ap6 := ap s6 ⟨a, o, v⟩ l6
        have il6 := il s6 l6
        refine ⟨[some (.ref n), some (.int N), some (.tup (rs.map rwD)), some (.int most), some (.int odd), some (.ref s1.length), some (.ref (s1.length + 1)), some d, some (.int a), some (.int o), some (.int v)], s6 ++ [.lst (ledL N rs fs (rs.length + 1)), .lst ((F ++ [(⟨a, o, v⟩ : Fd)]).map fdD)], .inl ?_, by simp, F ++ [(⟨a, o, v⟩ : Fd)], s6, _, _, _, _, rfl, rfl, ?_, by simp [hl], D6.mono (by omega), ((S3.trans S4).trans S5).trans S6⟩
        · simp [-List.map_append, ha, ho, g1, g2, hc, cc, okIf_pos z3, ap6, il6]
        · intro f hf
          rcases List.mem_append.mp hf with hf | hf
          · exact hF f hf
          · rw [List.mem_singleton.mp hf]
            exact ⟨by simp; omega, by simp; omega, by simp; omega⟩
    have hl : F.length = m := by simpa using hl
    have D3 : Dice n (k + rs.length + 1 + 4 * m) s3 := by simpa using D3
    exact ⟨F, s3, by simp [S3.1], hF, by omega, D3.mono (by omega), S1.trans S3⟩
  obtain ⟨F, s3, e1, hF, hl, D3, S3⟩ := e1
  have e2 : eCall m__law_finds fr env st = .ok (.ref s3.length) (s3 ++ [.lst (F.map fdD)]) := by
    rw [eCall_ap, hfr, R.bind_ok, e1]
    have ht : Trim st (s3 ++ [.lst (ledL N rs fs (rs.length + 1)), .lst (F.map fdD)]) := fun i hi => by
      have hi2 : i < s3.length := by rw [S3.1]; exact hi
      rw [List.getElem?_append_left hi2]
      by_cases e : i = n
      · subst e
        obtain ⟨c, cells, a, b, m, e, h0, hn1, hc, _⟩ := D3
        refine .inr ⟨.lst [.ref c, .int a, .int b, .int m, .int e], ?_, ?_⟩
        · rw [h0]; exact dS_at hn1
        · simp [closedO, closeds, closed]; omega
      · exact .inl (S3.2 i e)
    have hc : closed st.length (.ref (s3.length + 1)) = false := by simp [closed]; have := S3.1; omega
    unfold gcH
    rw [hid_eq]
    unfold gcR
    have e4 : (s3 ++ [AO.lst (ledL N rs fs (rs.length + 1)), AO.lst (F.map fdD)])[s3.length + 1]? = some (.lst (F.map fdD)) := by rw [List.getElem?_append_right (by omega)]; simp
    have e5 : (s3 ++ [AO.lst (ledL N rs fs (rs.length + 1)), AO.lst (F.map fdD)]).take st.length = s3 := by rw [← S3.1]; simp
    simp only [ht, if_true, hc, e4, e5]
    simp [closedO, fds_closed, S3.1]
  exact ⟨F, s3, lDrop_diceF e2 (Nat.le_refl _) (by simp) D3 h.lt S3 (fds_closed _ _), hF, hl, D3, S3⟩
end
end TK

set_option Elab.async false
set_option linter.all false
set_option maxRecDepth 100000
set_option maxHeartbeats 4000000
namespace TK
open PySem PySem.Spec
open PyProof.Rows hiding St
open L2
/-! # all doings in which finds are true, by the law -/
section
variable {st s1 : Store} {n N : Nat} {k : Int} {rs : List Rw} {F : List Fd} {fs : List Bool} {d : D}
/-- all doings, ascending -/
def dosL (rs : List Rw) : List (List Bool) := rs.foldl stepL [[]]
theorem dosL_mem {g : List Bool} : g ∈ dosL rs ↔ doOk rs g := by
  unfold dosL
  rw [dos_mem]
  constructor
  · rintro ⟨a, b, rfl, h, hb⟩
    obtain rfl : a = [] := by simpa using h
    simpa using hb
  · intro h
    exact ⟨[], g, rfl, by simp, h⟩
theorem dosL_len (hM : rs.length ≤ 10) : (dosL rs).length ≤ 1024 := by
  have h1 := dos_len rs [[]]
  have h2 := pow_small (a := rs.length) (b := 10) hM (by omega)
  simp only [List.length_cons, List.length_nil, Nat.mul_one] at h1
  unfold dosL
  omega
/-- the doings in which finds are true -/
def goodL (N : Nat) (rs : List Rw) (F : List Fd) : List (List Bool) := (dosL rs).filter fun fs => trueB N rs fs F
theorem goodL_mem : fs ∈ goodL N rs F ↔ Good N rs F fs := by
  unfold goodL
  rw [List.mem_filter, dosL_mem, good_iff]
theorem goodL_fits : Fits N rs F ↔ goodL N rs F ≠ [] := by
  constructor
  · rintro ⟨fs, h⟩ e
    have := goodL_mem.mpr h
    rw [e] at this
    cases this
  · intro h
    obtain ⟨fs, r, e⟩ := List.exists_cons_of_ne_nil h
    exact ⟨fs, goodL_mem.mp (by rw [e]; simp)⟩
def pgD (x : List Bool × Nat) : D := .tup [flD x.1, .ref x.2]
theorem pg_closed {j : Nat} : ∀ {qs : List (List Bool × Nat)}, closeds j (qs.map pgD) = true → ∀ x ∈ qs, x.2 < j
  | [], _, x, hx => by cases hx
  | q :: qs, h, x, hx => by
    simp only [List.map_cons, closeds, Bool.and_eq_true] at h
    rcases List.mem_cons.mp hx with rfl | hx
    · have := h.1
      simp [pgD, closed, closeds] at this
      exact this.2
    · exact pg_closed h.2 x hx
/-- the pairs stand in the store -/
structure Pgs (N : Nat) (rs : List Rw) (F : List Fd) (st : Store) (qs : List (List Bool × Nat)) : Prop where
  fst : qs.map Prod.fst = goodL N rs F
  snd : ∀ x ∈ qs, st[x.2]? = some (.lst (ledL N rs x.1 (rs.length + 1)))
end
end TK

set_option Elab.async false
set_option linter.all false
set_option maxRecDepth 100000
set_option maxHeartbeats 4000000
namespace TK
open PySem PySem.Spec
open PyProof.Rows hiding St
open L2
/-! # small tools of the laws of finds -/
section
variable {st s1 : Store} {n N : Nat} {k : Int} {rs : List Rw} {F G : List Fd} {fs gs : List Bool} {d : D}
theorem neD_bls (xs ys : List Bool) : neD (.tup (xs.map D.bl)) (.tup (ys.map D.bl)) st = .ok (.bl (decide (xs ≠ ys))) st := by
  unfold neD eqP
  rw [toP_bls, toP_bls]
  simp only [shaped_bls, and_self, if_true]
  show R.ok (D.bl (!PyData.eqvAll (pyB xs) (pyB ys))) st = _
  rw [eqv_bls]
  simp
theorem neD_non : neD .non .non st = .ok (.bl false) st := by
  unfold neD eqP
  rfl
theorem nin_bls {n : Nat} {fs : List Bool} {L : List (List Bool)} (h : st[n]? = some (.lst (L.map flD))) : ninD2 (.tup (fs.map D.bl)) (.ref n) st = .ok (.bl (!decide (fs ∈ L))) st := by
  have h' : st[n]? = some (.lst (L.map fun fs => D.tup (fs.map D.bl))) := h
  have e : toP st 50 (.ref n) = some (.list (L.map fun fs => PyData.tuple (pyB fs))) := by
    show (match seqOf (.ref n) st with
      | some ds => (ds.mapM (toP st 49)).map PyData.list
      | none => none) = _
    rw [seqOf_ref, h']
    simp only [mapM_bls (f := toP st 49) (fun fs => toP_bls fs 49) L]
    rfl
  show ninD (.tup (fs.map D.bl)) (.ref n) st = _
  unfold ninD inP
  rw [e, toP_bls]
  simp only [shaped_bls, shaped_blss, and_self, if_true]
  rw [any_bls]
theorem cut_map {α : Type} (g : α → D) (l : List α) (lo hi : Option Int) : ∃ l' : List α, cutD (l.map g) lo hi = l'.map g ∧ (∀ x ∈ l', x ∈ l) ∧ l'.length ≤ l.length := by
  unfold cutD
  refine ⟨(l.drop (HT.sIx (l.map g).length 0 lo)).take (HT.sIx (l.map g).length (l.map g).length hi - HT.sIx (l.map g).length 0 lo), by rw [List.map_take, List.map_drop], fun x hx => List.mem_of_mem_drop (List.mem_of_mem_take hx), ?_⟩
  rw [List.length_take, List.length_drop]
  omega
theorem Good.sub (hs : ∀ f ∈ G, f ∈ F) (h : Good N rs F fs) : Good N rs G fs := ⟨h.1, fun f hf => h.2 f (hs f hf)⟩
theorem Fits.sub (hs : ∀ f ∈ G, f ∈ F) (h : Fits N rs F) : Fits N rs G := by
  obtain ⟨fs, h⟩ := h
  exact ⟨fs, h.sub hs⟩
theorem Par.sub (hp : Par N rs F) (hs : ∀ f ∈ G, f ∈ F) (hl : G.length ≤ 40) : Par N rs G := ⟨hp.n1, hp.n12, hp.m60, hp.hrs, fun f hf => hp.hF f (hs f hf), hl⟩
theorem fits_eq (h1 : ∀ f ∈ G, f ∈ F) (h2 : ∀ f ∈ F, f ∈ G) : Fits N rs G ↔ Fits N rs F := ⟨.sub h2, .sub h1⟩
theorem pick4 {q : Nat} {i : Nat} {a b c e : Int} (h : st[q]? = some (.lst [.int a, .int b, .int c, .int e])) (hi : i < 4) (P : Int → Prop) (ha : P a) (hb : P b) (hc : P c) (he : P e) : ∃ v, getD (.ref q) (.int (i : Int)) st = .ok (.int v) st ∧ P v := by
  match i, hi with
  | 0, _ => exact ⟨a, getD_r h rfl rfl, ha⟩
  | 1, _ => exact ⟨b, getD_r h rfl rfl, hb⟩
  | 2, _ => exact ⟨c, getD_r h rfl rfl, hc⟩
  | 3, _ => exact ⟨e, getD_r h rfl rfl, he⟩
theorem law_flag_ok (a b : Bool) : gcH st (m__law_flag [.bl a, .bl b] st) = .ok (.bl (a == b)) st := by
  simp [m__law_flag_eq]
theorem goodL_len (hM : rs.length ≤ 10) : (goodL N rs F).length ≤ 1024 := Nat.le_trans (List.length_filter_le _ _) (dosL_len hM)
end
end TK

set_option Elab.async false
set_option linter.all false
set_option maxRecDepth 100000
set_option maxHeartbeats 4000000
namespace TK
open PySem PySem.Spec
open PyProof.Rows hiding St
open L2
/-! # finds that are untrue, beside those that are true -/
/-- one more find, each that makes a denial untrue -/
def othC (N : Nat) (d : Fd) : List Fd := ((List.range N).filter fun e => decide (e ≠ d.e)).map fun e => ⟨d.m, d.o, e⟩
def extC (N : Nat) (d : Fd) (G : List Fd) : List (List Fd) := (othC N d).map fun f => G ++ [f]
open Classical in
noncomputable def stepC (N : Nat) (rs : List Rw) (d : Fd) (cs : List (List Fd)) : List (List Fd) := ((cs.map (extC N d)).flatten).filter fun G => decide (Fits N rs G)
noncomputable def casC (N : Nat) (rs : List Rw) (Dn : List Fd) (cs : List (List Fd)) : List (List Fd) := Dn.foldl (fun cs d => stepC N rs d cs) cs
def Untrue (N : Nat) (rs : List Rw) (fs : List Bool) (Dn : List Fd) : Prop := ∀ d ∈ Dn, (ledS N rs fs d.m).getD d.o 0 ≠ (d.e : Int)
section
variable {st S : Store} {l n N q a c : Nat} {rs : List Rw} {F G Dn : List Fd} {fs : List Bool} {cs : List (List Fd)} {d dd : D} {f : Fd}
theorem othC_mem : f ∈ othC N d' ↔ f.m = d'.m ∧ f.o = d'.o ∧ f.e < N ∧ f.e ≠ d'.e := by
  unfold othC
  rw [List.mem_map]
  constructor
  · rintro ⟨e, he, rfl⟩
    rw [List.mem_filter, List.mem_range, decide_eq_true_iff] at he
    exact ⟨rfl, rfl, he.1, he.2⟩
  · rintro ⟨h1, h2, h3, h4⟩
    refine ⟨f.e, ?_, ?_⟩
    · rw [List.mem_filter, List.mem_range, decide_eq_true_iff]; exact ⟨h3, h4⟩
    · cases f; simp only at h1 h2; rw [h1, h2]
theorem othC_len {d' : Fd} : (othC N d').length ≤ N := by
  unfold othC
  rw [List.length_map]
  have := List.length_filter_le (fun e => decide (e ≠ d'.e)) (List.range N)
  simpa using this
/-- what the cases are -/
structure CasOk (N : Nat) (rs : List Rw) (F Dn : List Fd) (G : List Fd) : Prop where
  sub : ∀ f ∈ F, f ∈ G
  ok : ∀ f ∈ G, f ∈ F ∨ FdOk N rs.length f
  len : G.length = F.length + Dn.length
  den : ∀ d ∈ Dn, ∃ f ∈ G, f.m = d.m ∧ f.o = d.o ∧ f.e ≠ d.e
theorem cas_snoc (Dn : List Fd) (d' : Fd) (cs : List (List Fd)) : casC N rs (Dn ++ [d']) cs = stepC N rs d' (casC N rs Dn cs) := by
  unfold casC
  rw [List.foldl_append]
  rfl
theorem CasOk.step {d' : Fd} (h : CasOk N rs F Dn G) (hd : FdOk N rs.length d') (hf : f ∈ othC N d') : CasOk N rs F (Dn ++ [d']) (G ++ [f]) := by
  obtain ⟨h1, h2, h3, h4⟩ := othC_mem.mp hf
  obtain ⟨d1, d2, d3⟩ := hd
  refine ⟨fun g hg => List.mem_append_left _ (h.sub g hg), fun g hg => ?_, by simp [h.len]; omega, fun g hg => ?_⟩
  · rcases List.mem_append.mp hg with q | q
    · exact h.ok g q
    · rw [List.mem_singleton.mp q]; exact .inr ⟨by omega, by omega, h3⟩
  · rcases List.mem_append.mp hg with q | q
    · obtain ⟨x, hx, e⟩ := h.den g q
      exact ⟨x, List.mem_append_left _ hx, e⟩
    · rw [List.mem_singleton.mp q]; exact ⟨f, by simp, h1, h2, h4⟩
theorem cas_ok (hD : ∀ d ∈ Dn, FdOk N rs.length d) : ∀ i, i ≤ Dn.length → ∀ G ∈ casC N rs (Dn.take i) [F], CasOk N rs F (Dn.take i) G
  | 0, _ => fun G hG => by
    have : G = F := by simpa [casC] using hG
    subst this
    exact ⟨fun f h => h, fun f h => .inl h, by simp, fun d h => by simp at h⟩
  | i + 1, hi => fun G hG => by
    have ht : Dn.take (i + 1) = Dn.take i ++ [Dn[i]'(by omega)] := by rw [List.take_add_one, List.getElem?_eq_getElem (by omega)]; rfl
    rw [ht, cas_snoc] at hG
    rw [ht]
    unfold stepC at hG
    have hG := (List.mem_filter.mp hG).1
    obtain ⟨L, hL, hG⟩ := List.mem_flatten.mp hG
    obtain ⟨G0, hG0, rfl⟩ := List.mem_map.mp hL
    obtain ⟨f, hf, rfl⟩ := List.mem_map.mp hG
    exact (cas_ok hD i (by omega) G0 hG0).step (hD _ (List.getElem_mem (by omega))) hf
theorem cas_len : ∀ (Dn : List Fd) (cs : List (List Fd)), N ≤ 12 → (casC N rs Dn cs).length ≤ cs.length * 12 ^ Dn.length
  | [], cs, _ => by simp [casC]
  | d' :: Dn, cs, hN => by
    have h1 := cas_len Dn (stepC N rs d' cs) hN
    have h2 : (stepC N rs d' cs).length ≤ cs.length * 12 := by
      unfold stepC
      refine Nat.le_trans (List.length_filter_le _ _) ?_
      have : ∀ cs : List (List Fd), ((cs.map (extC N d')).flatten).length ≤ cs.length * 12 := by
        intro cs
        induction cs with
        | nil => simp
        | cons G cs ih =>
          rw [List.map_cons, List.flatten_cons, List.length_append]
          have h3 : (extC N d' G).length ≤ 12 := by unfold extC; rw [List.length_map]; exact Nat.le_trans othC_len hN
          rw [List.length_cons, Nat.succ_mul]
          omega
      exact this cs
    show (casC N rs Dn (stepC N rs d' cs)).length ≤ _
    rw [List.length_cons, Nat.pow_succ]
    calc (casC N rs Dn (stepC N rs d' cs)).length ≤ (stepC N rs d' cs).length * 12 ^ Dn.length := h1
      _ ≤ (cs.length * 12) * 12 ^ Dn.length := Nat.mul_le_mul_right _ h2
      _ = cs.length * (12 ^ Dn.length * 12) := by rw [Nat.mul_assoc, Nat.mul_comm 12]
open Classical in
theorem cas_all (hrs : ∀ r ∈ rs, RwOk N r) (hD : ∀ d ∈ Dn, FdOk N rs.length d) (hg : Good N rs F fs) (hu : Untrue N rs fs Dn) : ∀ i, i ≤ Dn.length → ∃ G ∈ casC N rs (Dn.take i) [F], Good N rs G fs
  | 0, _ => ⟨F, by simp [casC], hg⟩
  | i + 1, hi => by
    obtain ⟨G0, h0, g0⟩ := cas_all hrs hD hg hu i (by omega)
    have ht : Dn.take (i + 1) = Dn.take i ++ [Dn[i]'(by omega)] := by rw [List.take_add_one, List.getElem?_eq_getElem (by omega)]; rfl
    rw [ht, cas_snoc]
    have hm : Dn[i]'(by omega) ∈ Dn := List.getElem_mem (by omega)
    generalize Dn[i]'(by omega) = d' at hm
    obtain ⟨d1, d2, d3⟩ := hD d' hm
    obtain ⟨v, hv, hvN⟩ := sheet_nat (fs := fs) hrs (o := d'.o) (m := d'.m) d2
    have hn := hu d' hm
    rw [hv] at hn
    have gg : Good N rs (G0 ++ [⟨d'.m, d'.o, v⟩]) fs := ⟨g0.1, fun f hf => by
      rcases List.mem_append.mp hf with q | q
      · exact g0.2 f q
      · rw [List.mem_singleton.mp q]; exact hv⟩
    refine ⟨_, ?_, gg⟩
    unfold stepC
    refine List.mem_filter.mpr ⟨List.mem_flatten.mpr ⟨_, List.mem_map.mpr ⟨G0, h0, rfl⟩, List.mem_map.mpr ⟨⟨d'.m, d'.o, v⟩, othC_mem.mpr ⟨rfl, rfl, hvN, fun z => hn (by rw [show v = d'.e from z])⟩, rfl⟩⟩, ?_⟩
    exact decide_eq_true ⟨fs, gg⟩
theorem CasOk.par (hp : Par N rs F) (hl : F.length + Dn.length ≤ 40) (h : CasOk N rs F Dn G) : Par N rs G :=
  ⟨hp.n1, hp.n12, hp.m60, hp.hrs, fun f hf => (h.ok f hf).elim (hp.hF f) id, by rw [h.len]; exact hl⟩
theorem CasOk.untrue (h : CasOk N rs F Dn G) (hg : Good N rs G fs) : Good N rs F fs ∧ Untrue N rs fs Dn := by
  refine ⟨hg.sub h.sub, fun d' hd e => ?_⟩
  obtain ⟨f, hf, e1, e2, e3⟩ := h.den d' hd
  have := hg.2 f hf
  rw [e1, e2, e] at this
  exact e3 (by omega)
/-! ## lists of lists of finds in the store -/
def Rel (s : Store) (as : List Nat) (cs : List (List Fd)) : Prop := as.map (fun a => s[a]?) = cs.map fun G => some (AO.lst (G.map fdD))
theorem Rel.len {as : List Nat} (h : Rel S as cs) : as.length = cs.length := by
  have := congrArg List.length h
  simpa using this
theorem Rel.get {as : List Nat} (h : Rel S as cs) {i : Nat} {a : Nat} (ha : as[i]? = some a) : ∃ G, cs[i]? = some G ∧ S[a]? = some (.lst (G.map fdD)) := by
  have h1 := congrArg (fun L => L[i]?) h
  simp only [List.getElem?_map, ha, Option.map_some] at h1
  cases hc : cs[i]? with
  | none => rw [hc] at h1; cases h1
  | some G =>
    rw [hc] at h1
    simp only [Option.map_some, Option.some.injEq] at h1
    exact ⟨G, rfl, h1⟩
theorem Rel.lt {as : List Nat} (h : Rel S as cs) {a : Nat} (ha : a ∈ as) : a < S.length := by
  obtain ⟨i, hi, e⟩ := List.getElem_of_mem ha
  obtain ⟨G, _, h2⟩ := h.get (i := i) (a := a) (by rw [List.getElem?_eq_getElem hi, e])
  exact (List.getElem?_eq_some_iff.mp h2).1
theorem Rel.keep {as : List Nat} {s' : Store} (h : Rel S as cs) (k : ∀ a ∈ as, s'[a]? = S[a]?) : Rel s' as cs := by
  unfold Rel at h ⊢
  rw [← h]
  exact List.map_congr_left k
theorem Rel.grow {as : List Nat} (h : Rel S as cs) (X : Store) : Rel (S ++ X) as cs := h.keep fun a ha => List.getElem?_append_left (h.lt ha)
theorem Rel.app {as bs : List Nat} {ds : List (List Fd)} (h : Rel S as cs) (g : Rel S bs ds) : Rel S (as ++ bs) (cs ++ ds) := by
  unfold Rel at *
  rw [List.map_append, List.map_append, h, g]
/-- new lists, one behind the other -/
theorem Rel.new (L : List (List Fd)) (X : Store) : Rel (S ++ L.map (fun G => AO.lst (G.map fdD)) ++ X) ((List.range L.length).map fun j => S.length + j) L := by
  unfold Rel
  apply List.ext_getElem?
  intro i
  rw [List.map_map, List.getElem?_map, List.getElem?_map]
  by_cases hi : i < L.length
  · rw [List.getElem?_range hi, List.getElem?_eq_getElem hi]
    show some ((S ++ L.map (fun G => AO.lst (G.map fdD)) ++ X)[S.length + i]?) = _
    rw [List.append_assoc, List.getElem?_append_right (by omega), show S.length + i - S.length = i from by omega, List.getElem?_append_left (by simpa using hi), List.getElem?_map, List.getElem?_eq_getElem hi]
    rfl
  · rw [List.getElem?_eq_none (by simpa using hi), List.getElem?_eq_none (by omega)]
    rfl
theorem gcR_keepL {k : Nat} {o : AO} (x : Store) (hk : (st ++ x)[k]? = some o) (h1 : st.length ≤ k) (h2 : closedO st.length o = false) : gcH st (.ok (.ref k) (st ++ x)) = .ok (.ref k) (st ++ x) := by
  have hc : closed st.length (.ref k) = false := by simp [closed]; omega
  unfold gcH
  rw [hid_eq]
  unfold gcR
  simp [trim_app, hc, hk, h2]
def refs (as : List Nat) : List D := as.map D.ref
noncomputable def db0 : SF := (sDrop (eCall m_check_finds (lCons (eVar 0) (lCons (eVar 1) lNil))))
noncomputable def db1 : SF := (sDrop (eCall m_check_denials (lCons (eVar 0) (lCons (eVar 2) lNil))))
noncomputable def db2 : SF := (sSet 3 (eLst (lLst (lCons (eLst (lQ lstG (lRd (eVar 1)))) lNil))))
noncomputable def db4b : SF := (sSeq (sSet 6 (eCall m_best_doing (lCons (eVar 0) (lCons (eVar 5) lNil)))) (sIf (bB (e2 notND (eVar 6) (eC .non))) (sRet (eVar 6)) sNil))
noncomputable def db4 : SF := (sFor (.name 5) (iSeqF (eVar 3)) db4b)
noncomputable def ib0 : SF := (sDrop (eCall m_check_finds (lCons (eVar 0) (lCons (eVar 1) lNil))))
noncomputable def ib1 : SF := (sDrop (eCall m_check_denials (lCons (eVar 0) (lCons (eVar 2) lNil))))
noncomputable def ib2 : SF := (sIf (bOr (bNot (bTru (eCall m_is_doing (lCons (eVar 0) (lCons (eVar 3) lNil))))) (bNot (bTru (eCall m_are_true (lCons (eVar 0) (lCons (eVar 1) (lCons (eVar 3) lNil))))))) (sRet (eC (.bl false))) sNil)
noncomputable def ib3 : SF := (sRet (eNot (eQ anyG (compF [4] (iSeqF (eVar 2)) (.name 4) bYes (eCall m_are_true (lCons (eVar 0) (lCons (eLst (lLst (lCons (eVar 4) lNil))) (lCons (eVar 3) lNil))))))))
theorem is_doing_but_cut : m_is_doing_but = runDef 5 (sSeq ib0 (sSeq ib1 (sSeq ib2 ib3))) := m_is_doing_but_eq
theorem check_denials_ok (hp : Par N rs Dn) (h3 : Dn.length ≤ 3) (h : st[l]? = some (logO N rs)) (hd : LisF Dn st d) : m_check_denials [.ref l, d] st = .ok .non st := by
  have zl : Dn.length ≤ sizeLine := szl (by omega)
  have n3 : ¬ (3 : Int) < (Dn.length : Int) := by omega
  have sq := hd.seq
  have li : m_is_listed [d] st = .ok (.bl true) st := by
    rcases hd with rfl | ⟨n, rfl, hn⟩
    · simp [m_is_listed_eq]
    · simp [m_is_listed_eq, hn]
  rw [m_check_denials_eq]
  have go : compF [2] (iSeqF (eVar 1)) (.name 2) bYes (eCall m_is_find (lCons (eVar 0) (lCons (eVar 2) lNil))) [some (.ref l), some d, none] st = .ok ((Dn.map fdD).map fun _ => D.bl true) st := by
    have it : ∃ g : Its, iSeqF (eVar 1) [some (.ref l), some d, none] st = .ok g st ∧ g.1 = Dn.map fdD ∧ gOK g st := by
      rcases hd with rfl | ⟨n, rfl, hn⟩
      · exact ⟨(Dn.map fdD, []), by simp, rfl, by simp⟩
      · exact ⟨(Dn.map fdD, [(n, Dn.map fdD)]), by simp [hn], rfl, by simp [hn]⟩
    obtain ⟨g, i1, i2, i3⟩ := it
    rw [compF_ap, i1]
    simp only [R.bind_ok]
    rw [okIf_pos ⟨i3, by rw [i2]; simpa using zl⟩, i2]
    generalize hq : compL _ _ _ _ _ _ _ = r1
    have := compL_mapE hq i3 (fun _ => true) (fun _ => D.bl true) fun d hd => by
      obtain ⟨f, hf, rfl⟩ := List.mem_map.mp hd
      exact ⟨_, asgT_name _ _ _, rfl, fun _ => by simp [find_ok h (hp.hF f hf)]⟩
    rw [this, map_true]
    rfl
  simp [li, sq, n3]
  have ag : allG (List.map ((fun _ => D.bl true) ∘ fdD) Dn) st = .ok (.bl true) st := by
    have := allG_true (Dn.map fdD) st
    rwa [List.map_map] at this
  simp at go
  simp [go, zl, ag]
theorem flat_le {d' : Fd} (hN : N ≤ 12) : ∀ cs : List (List Fd), ((cs.map (extC N d')).flatten).length ≤ cs.length * 12
  | [] => by simp
  | G :: cs => by
    have ih := flat_le (d' := d') hN cs
    have h3 : (extC N d' G).length ≤ 12 := by unfold extC; rw [List.length_map]; exact Nat.le_trans othC_len hN
    rw [List.map_cons, List.flatten_cons, List.length_append, List.length_cons, Nat.succ_mul]
    omega
open Classical in
theorem loopF_retC {t : Tgt} {body : SF} {g : Its} {ds : List D} {env : AEnv} {r : RS} (hr : loopF t body g ds env st = r) (I : Nat → AEnv → Store → Prop) (Q : D → Store → Prop) (h0 : I 0 env st)
    (hs : ∀ i d env st, I i env st → ds[i]? = some d → ∃ env1, asgT t d env = some env1 ∧ ((∃ e s, body env1 st = .next e s ∧ gOK g s ∧ I (i + 1) e s) ∨ ∃ v s, body env1 st = .ret v s ∧ Q v s)) :
    (∃ e s, r = .next e s ∧ I ds.length e s) ∨ ∃ v s, r = .ret v s ∧ Q v s := by
  subst hr
  have key : ∀ (r : List D) (i : Nat), ds.drop i = r → i + r.length = ds.length → ∀ env st, I i env st → (∃ e s, loopF t body g r env st = .next e s ∧ I ds.length e s) ∨ ∃ v s, loopF t body g r env st = .ret v s ∧ Q v s := by
    intro r
    induction r with
    | nil =>
      intro i hd hl env st hi
      have e : i = ds.length := by simpa using hl
      exact .inl ⟨env, st, by simp [loopF], e ▸ hi⟩
    | cons d r ih =>
      intro i hd hl env st hi
      have hd0 : ds[i]? = some d := by
        have : (ds.drop i)[0]? = some d := by rw [hd]; rfl
        simpa using this
      obtain ⟨env1, ea, hb⟩ := hs i d env st hi hd0
      rcases hb with ⟨e, s, hb, hg, hI⟩ | ⟨v, s, hb, hq⟩
      · rcases ih (i + 1) (by rw [← List.drop_drop, hd]; rfl) (by simp at hl; omega) e s hI with ⟨e', s', h1, h2⟩ | ⟨v, s', h1, h2⟩
        · exact .inl ⟨e', s', by simp [loopF, ea, hb, hg, h1], h2⟩
        · exact .inr ⟨v, s', by simp [loopF, ea, hb, hg, h1], h2⟩
      · exact .inr ⟨v, s, by simp [loopF, ea, hb], hq⟩
  exact key ds 0 rfl (by simp) env st h0
theorem find_at {α : Type} {p : α → Bool} : ∀ {l : List α} {i : Nat} {a : α}, l[i]? = some a → p a = true → (∀ j b, j < i → l[j]? = some b → p b = false) → l.find? p = some a
  | x :: l, 0, a, h, hp, _ => by
    cases h
    simp [List.find?, hp]
  | x :: l, i + 1, a, h, hp, hb => by
    have h0 := hb 0 x (by omega) rfl
    rw [List.find?_cons_of_neg (by simp [h0])]
    exact find_at (i := i) (by simpa using h) hp fun j b hj e => hb (j + 1) b (by omega) (by simpa using e)
open Classical in
noncomputable def bestF (N : Nat) (rs : List Rw) (G : List Fd) : List Bool := if h : ∃ C, Least N rs G C then TK.doC N rs h.choose else []
open Classical in
noncomputable def resC (N : Nat) (rs : List Rw) (cs : List (List Fd)) : D := match cs.find? (fun G => decide (Fits N rs G)) with
  | some G => flD (bestF N rs G)
  | none => .non
theorem bestF_eq {C : Nat → Nat → Int} (hp : Par N rs G) (L : Least N rs G C) : bestF N rs G = TK.doC N rs C := by
  unfold bestF
  have h : ∃ C, Least N rs G C := ⟨C, L⟩
  rw [dif_pos h]
  exact h.choose_spec.doC hp L
open Classical in
/-! ## judged -/
theorem lis_one {S : Store} {f : Fd} {p : Nat} (h : S[p]? = some (.lst [fdD f])) : LisF [f] S (.ref p) := .inr ⟨p, rfl, h⟩
open Classical in
theorem is_doing_but_ok {d1 d2 : D} (hp : Par N rs F) (hD : ∀ d ∈ Dn, FdOk N rs.length d) (h3 : Dn.length ≤ 3) (hlog : S[l]? = some (logO N rs)) (h1 : LisF F S d1) (h2 : LisF Dn S d2) (ho : doOk rs fs) :
    gcH S (m_is_doing_but [.ref l, d1, d2, .tup (fs.map D.bl)] S) = .ok (.bl (trueB N rs fs F && Dn.all fun d => !trueB N rs fs [d])) S := by
  have hM := hp.mM
  have z1 : 1 ≤ sizeLine := szl (by omega)
  have zl : Dn.length ≤ sizeLine := szl (by omega)
  have hpD : Par N rs Dn := ⟨hp.n1, hp.n12, hp.m60, hp.hrs, hD, by omega⟩
  have hl := doOk_len ho
  have e1 := is_doing_b (fs := fs) hlog (by omega) hl
  rw [(doB_iff hl).mpr ho] at e1
  have e2 := are_true_ok hp hlog h1 ho
  have c1 := check_finds_ok hp hlog h1
  have c2 := check_denials_ok hpD h3 hlog h2
  have cc : ∃ X, compF [4] (iSeqF (eVar 2)) (.name 4) bYes (eCall m_are_true (lCons (eVar 0) (lCons (eLst (lLst (lCons (eVar 4) lNil))) (lCons (eVar 3) lNil)))) [some (.ref l), some d1, some d2, some (.tup (fs.map D.bl)), none] S = .ok ((Dn.map fun d => trueB N rs fs [d]).map D.bl) (S ++ X) := by
    have it : ∃ g : Its, iSeqF (eVar 2) [some (.ref l), some d1, some d2, some (.tup (fs.map D.bl)), none] S = .ok g S ∧ g.1 = Dn.map fdD ∧ ∀ X : Store, gOK g (S ++ X) := by
      rcases h2 with rfl | ⟨n, rfl, hn⟩
      · exact ⟨(Dn.map fdD, []), by simp, rfl, by simp⟩
      · have hn' : ∀ X : Store, (S ++ X)[n]? = some (.lst (Dn.map fdD)) := fun X => by rw [List.getElem?_append_left (List.getElem?_eq_some_iff.mp hn).1]; exact hn
        exact ⟨(Dn.map fdD, [(n, Dn.map fdD)]), by simp [hn], rfl, fun X => by rw [gOK_cons]; exact ⟨by rw [seqOf_ref, hn'], by simp⟩⟩
    obtain ⟨g, i1, i2, i3⟩ := it
    have i30 := i3 []
    rw [List.append_nil] at i30
    rw [compF_ap, i1]
    simp only [R.bind_ok]
    rw [okIf_pos ⟨i30, by rw [i2]; simpa using zl⟩, i2]
    generalize hr : compL _ _ _ _ _ _ _ = r
    obtain ⟨ys, s, rfl, X, rfl, rfl⟩ := compL_ok hr (fun i acc s => ∃ X, acc = ((Dn.take i).map fun d => trueB N rs fs [d]).map D.bl ∧ s = S ++ X) ⟨[], rfl, by simp⟩ fun i dd acc s hI hdd => by
      obtain ⟨X, rfl, rfl⟩ := hI
      rw [List.getElem?_map] at hdd
      cases hdi : Dn[i]? with
      | none => rw [hdi] at hdd; cases hdd
      | some d' =>
        rw [hdi] at hdd
        cases hdd
        have hd' := hD d' (List.mem_of_getElem? hdi)
        have hp1 : Par N rs [d'] := ⟨hp.n1, hp.n12, hp.m60, hp.hrs, fun f hf => by rw [List.mem_singleton.mp hf]; exact hd', by simp⟩
        have et : Dn.take (i + 1) = Dn.take i ++ [d'] := by rw [List.take_add_one, hdi]; rfl
        have hlog' : (S ++ X ++ [AO.lst [fdD d']])[l]? = some (logO N rs) := by rw [List.append_assoc, List.getElem?_append_left (List.getElem?_eq_some_iff.mp hlog).1]; exact hlog
        have at1 := are_true_ok hp1 hlog' (lis_one (f := d') (p := (S ++ X).length) List.getElem?_concat_length) ho
        refine ⟨_, asgT_name _ _ _, .inl ⟨.bl (trueB N rs fs [d']), S ++ X, S ++ X ++ [.lst [fdD d']], rfl, ?_, by rw [List.append_assoc]; exact i3 _, X ++ [.lst [fdD d']], by rw [et]; simp, by simp⟩⟩
        generalize S ++ X = S1 at *
        generalize fs.map D.bl = T at *
        simp [okIf_pos z1, at1]
    refine ⟨X, ?_⟩
    rw [List.length_map, List.take_length]
    rfl
  obtain ⟨X, cc⟩ := cc
  have bo : ∀ bs : List Bool, boolsOf (bs.map D.bl) = some bs := fun bs => by
    induction bs with
    | nil => rfl
    | cons b bs ih => simp [boolsOf, ih]
  have an : ∀ (bs : List Bool) s, anyG (bs.map D.bl) s = .ok (.bl (bs.any id)) s := fun bs s => by simp [anyG, bo]
  have ev : (!((Dn.map fun d => trueB N rs fs [d]).any id)) = Dn.all fun d => !trueB N rs fs [d] := by
    rw [List.any_map, List.not_any_eq_all_not]
    rfl
  by_cases ct : trueB N rs fs F = true
  · rw [ct] at e2 ⊢
    have run : m_is_doing_but [.ref l, d1, d2, .tup (fs.map D.bl)] S = .ok (.bl (Dn.all fun d => !trueB N rs fs [d])) (S ++ X) := by
      rw [is_doing_but_cut]
      simp only [runDef_ap]
      have ee : (List.map some [D.ref l, d1, d2, .tup (fs.map D.bl)] ++ List.replicate (5 - [D.ref l, d1, d2, .tup (fs.map D.bl)].length) none : AEnv) = [some (.ref l), some d1, some d2, some (.tup (fs.map D.bl)), none] := rfl
      have q0 : ib0 [some (.ref l), some d1, some d2, some (.tup (fs.map D.bl)), none] S = .next [some (.ref l), some d1, some d2, some (.tup (fs.map D.bl)), none] S := by unfold ib0; simp [c1]
      have q1 : ib1 [some (.ref l), some d1, some d2, some (.tup (fs.map D.bl)), none] S = .next [some (.ref l), some d1, some d2, some (.tup (fs.map D.bl)), none] S := by unfold ib1; simp [c2]
      have q2 : ib2 [some (.ref l), some d1, some d2, some (.tup (fs.map D.bl)), none] S = .next [some (.ref l), some d1, some d2, some (.tup (fs.map D.bl)), none] S := by
        unfold ib2
        generalize fs.map D.bl = T at *
        simp [e1, e2]
      have q3 : ib3 [some (.ref l), some d1, some d2, some (.tup (fs.map D.bl)), none] S = .ret (.bl (Dn.all fun d => !trueB N rs fs [d])) (S ++ X) := by
        unfold ib3
        rw [sRet_ap, eNot_ap, eQ_ap, cc]
        simp only [R.bind_ok, an]
        rw [← ev]
        simp
      rw [ee, sSeq_ap, q0, sThen_next, sSeq_ap, q1, sThen_next, sSeq_ap, q2, sThen_next, q3]
    rw [run, Bool.true_and]
    exact gcR_ok _ rfl
  · have ct : trueB N rs fs F = false := by simpa using ct
    rw [ct] at e2 ⊢
    rw [m_is_doing_but_eq]
    generalize fs.map D.bl = T at *
    simp [c1, c2, e1, e2]
end
end TK

set_option Elab.async false
set_option linter.all false
set_option maxRecDepth 100000
set_option maxHeartbeats 4000000
namespace TK
open PySem PySem.Spec
open PyProof.Rows hiding St
open L2
/-! # odd values: what kinds they are of -/
variable {st s1 s2 : Store} {n p q N L : Nat} {k : Int} {d : D} {ds : List D}
mutual
/-- all references in it stand in the store, and are lists, dicts or logs -/
def okT (st : Store) : D → Bool
  | .tup ds => okTs st ds
  | .ref m => match st[m]? with
    | some (.lst _) => true
    | some (.dct _) => true
    | some (.ins c _) => decide (c = "Log")
    | _ => false
  | .cls _ => false
  | _ => true
def okTs (st : Store) : List D → Bool
  | [] => true
  | d :: ds => okT st d && okTs st ds
end
theorem okTs_mem : ∀ {ds : List D}, okTs st ds = true ↔ ∀ d ∈ ds, okT st d = true
  | [] => by simp [okTs]
  | d :: ds => by simp [okTs, okTs_mem]
def Keeps (st s2 : Store) : Prop := ∀ m, okT st (.ref m) = true → okT s2 (.ref m) = true
mutual
theorem okT_keep (h : Keeps st s2) : ∀ d : D, okT st d = true → okT s2 d = true
  | .tup ds, e => by
    simp only [okT] at e ⊢
    exact okTs_keep h ds e
  | .ref m, e => h m e
  | .cls _, e => by simp [okT] at e
  | .non, _ => rfl
  | .bl _, _ => rfl
  | .int _, _ => rfl
  | .str _, _ => rfl
theorem okTs_keep (h : Keeps st s2) : ∀ ds : List D, okTs st ds = true → okTs s2 ds = true
  | [], _ => rfl
  | d :: ds, e => by
    simp only [okTs, Bool.and_eq_true] at e ⊢
    exact ⟨okT_keep h d e.1, okTs_keep h ds e.2⟩
end
theorem okT_ref_lt {m : Nat} (h : okT st (.ref m) = true) : m < st.length := by
  by_cases c : m < st.length
  · exact c
  · simp only [okT] at h
    rw [List.getElem?_eq_none (by omega)] at h
    cases h
mutual
theorem okT_closed : ∀ d : D, okT st d = true → closed st.length d = true
  | .tup ds, e => by
    simp only [okT] at e
    simp only [closed]
    exact okTs_closed ds e
  | .ref m, e => by
    have := okT_ref_lt e
    simp [closed, this]
  | .cls _, e => rfl
  | .non, _ => rfl
  | .bl _, _ => rfl
  | .int _, _ => rfl
  | .str _, _ => rfl
theorem okTs_closed : ∀ ds : List D, okTs st ds = true → closeds st.length ds = true
  | [], _ => rfl
  | d :: ds, e => by
    simp only [okTs, Bool.and_eq_true] at e
    simp only [closeds, Bool.and_eq_true]
    exact ⟨okT_closed d e.1, okTs_closed ds e.2⟩
end
theorem okT_ref {m : Nat} {o : AO} (h : s2[m]? = st[m]?) (e : okT st (.ref m) = true) : okT s2 (.ref m) = true := by
  simp only [okT] at e ⊢
  rw [h]; exact e
theorem keeps_app (x : Store) : Keeps st (st ++ x) := fun m e => by
  have := okT_ref_lt e
  exact okT_ref (o := .lst []) (List.getElem?_append_left this) e
theorem Keeps.trans (h : Keeps st s1) (g : Keeps s1 s2) : Keeps st s2 := fun m e => g m (h m e)
theorem dice_lst (h : Dice n k s2) : ∃ xs, s2[n]? = some (.lst xs) := by
  obtain ⟨c, cells, a, b, m, e, h0, hn, _⟩ := h
  exact ⟨_, by rw [h0]; exact dS_at hn⟩
theorem keeps_near (hs : Near n st s2) (D2 : Dice n k s2) : Keeps st s2 := fun m e => by
  by_cases c : m = n
  · subst c
    obtain ⟨xs, hx⟩ := dice_lst D2
    simp only [okT, hx]
  · exact okT_ref (o := .lst []) (hs.2 m (okT_ref_lt e) c) e
theorem okT_tup (h : ∀ d ∈ ds, okT st d = true) : okT st (.tup ds) = true := by
  simp only [okT]
  exact okTs_mem.mpr h
theorem okT_tup_mem (h : okT st (.tup ds) = true) : ∀ d ∈ ds, okT st d = true := by
  simp only [okT] at h
  exact okTs_mem.mp h
theorem okT_lst (h : st[L]? = some (.lst ds)) : okT st (.ref L) = true := by simp only [okT, h]
/-- the same, or a list or dict laid anew -/
def GcSame (d d' : D) : Prop := d' = d ∨ ∃ m, d' = .ref m
theorem gc_trim (D1 : Dice n k s1) (hn : n < st.length) (N1 : Near n st s1) : Trim st s1 := fun i hi => by
  by_cases e : i = n
  · subst e
    obtain ⟨c, cells, a, b, m, e, h0, hn1, hc, _⟩ := D1
    refine .inr ⟨.lst [.ref c, .int a, .int b, .int m, .int e], ?_, ?_⟩
    · rw [h0]; exact dS_at hn1
    · simp [closedO, closeds, closed]; omega
  · exact .inl (N1.2 i hi e)
theorem okT_take {L : Nat} : ∀ d : D, okT s1 d = true → closed L d = true → okT (s1.take L) d = true := by
  have Kt : ∀ m, m < L → okT s1 (.ref m) = true → okT (s1.take L) (.ref m) = true := fun m hm e => okT_ref (o := .lst []) (List.getElem?_take_of_lt hm) e
  intro d
  induction d using D.rec (motive_2 := fun ds => okTs s1 ds = true → closeds L ds = true → okTs (s1.take L) ds = true) with
  | nil => rfl
  | cons d ds h1 h2 a b =>
    simp only [okTs, closeds, Bool.and_eq_true] at a b ⊢
    exact ⟨h1 a.1 b.1, h2 a.2 b.2⟩
  | tup ds h =>
    intro a b
    simp only [okT, closed] at a b ⊢
    exact h a b
  | ref m =>
    intro a b
    simp only [closed, decide_eq_true_eq] at b
    exact Kt m b a
  | cls _ => intro a; simp [okT] at a
  | non => intros; rfl
  | bl _ => intros; rfl
  | int _ => intros; rfl
  | str _ => intros; rfl
theorem gc_core (ht : Trim st s1) (hl : st.length ≤ s1.length) (ok : okT s1 d = true) :
    ∃ d' s2, gcH st (.ok d s1) = .ok d' s2 ∧ okT s2 d' = true ∧ GcSame d d' ∧ (s2 = s1 ∨ s2 = s1.take st.length ∨ ∃ o, s2 = s1.take st.length ++ [o]) := by
  have e0 : gcH st (.ok d s1) = gcR st (.ok d s1) := by unfold gcH; rw [hid_eq]
  rw [e0]
  unfold gcR
  dsimp only
  rw [if_pos ht]
  by_cases hc : closed st.length d = true
  · rw [if_pos hc]
    exact ⟨d, _, rfl, okT_take d ok hc, .inl rfl, .inr (.inl rfl)⟩
  · rw [if_neg hc]
    have same : ∃ d' s2, R.ok d s1 = R.ok d' s2 ∧ okT s2 d' = true ∧ GcSame d d' ∧ (s2 = s1 ∨ s2 = s1.take st.length ∨ ∃ o, s2 = s1.take st.length ++ [o]) := ⟨d, s1, rfl, ok, .inl rfl, .inl rfl⟩
    cases d with
    | ref m =>
      simp only
      cases hm : s1[m]? with
      | none => exact same
      | some o =>
        simp only
        split
        · refine ⟨_, _, rfl, ?_, .inr ⟨_, rfl⟩, .inr (.inr ⟨o, rfl⟩)⟩
          simp only [okT, hm] at ok ⊢
          have hl : (s1.take st.length).length = st.length := by rw [List.length_take]; omega
          have e1 : (s1.take st.length ++ [o])[st.length]? = some o := by
            rw [List.getElem?_append_right (by omega), hl, Nat.sub_self]; rfl
          rw [e1]
          exact ok
        · exact same
    | _ => exact same
/-- what a call leaves, whatever it gives -/
theorem gc_any (D1 : Dice n k s1) (hn : n < st.length) (N1 : Near n st s1) (ok : okT s1 d = true) :
    ∃ d' s2, gcH st (.ok d s1) = .ok d' s2 ∧ Dice n k s2 ∧ Near n st s2 ∧ okT s2 d' = true ∧ GcSame d d' := by
  obtain ⟨d', s2, e, o2, g, hs⟩ := gc_core (gc_trim D1 hn N1) N1.1 ok
  have Nt : Near n st (s1.take st.length) := ⟨by rw [List.length_take]; have := N1.1; omega, fun i hi he => by rw [List.getElem?_take_of_lt hi]; exact N1.2 i hi he⟩
  refine ⟨d', s2, e, ?_, ?_, o2, g⟩
  · rcases hs with rfl | rfl | ⟨o, rfl⟩
    · exact D1
    · exact D1.cut hn N1
    · exact (D1.cut hn N1).app _
  · rcases hs with rfl | rfl | ⟨o, rfl⟩
    · exact N1
    · exact Nt
    · exact Nt.trans (.app _)
theorem gc_app {x : Store} (ok : okT (st ++ x) d = true) : ∃ d' y, gcH st (.ok d (st ++ x)) = .ok d' (st ++ y) ∧ okT (st ++ y) d' = true ∧ GcSame d d' := by
  obtain ⟨d', s2, e, o2, g, hs⟩ := gc_core (trim_app st x) (by simp) ok
  have et : (st ++ x).take st.length = st := by simp
  rcases hs with rfl | rfl | ⟨o, rfl⟩
  · exact ⟨d', x, e, o2, g⟩
  · refine ⟨d', [], ?_, ?_, g⟩
    · rw [List.append_nil]; rw [et] at e; exact e
    · rw [List.append_nil]; rw [et] at o2; exact o2
  · rw [et] at e o2
    exact ⟨d', [o], e, o2, g⟩
/-! ### isinstance of them -/
def isTy (T : String) : D → Bool
  | .non => subT [T] "NoneType"
  | .bl _ => subT [T] "bool"
  | .int _ => subT [T] "int"
  | .str _ => subT [T] "str"
  | .tup _ => subT [T] "tuple"
  | _ => false
theorem vIsi_ok {T : String} (h : okT st d = true) (h1 : subT [T] "list" = false) (h2 : subT [T] "dict" = false) : vIsiO "Log" T d st = .ok (.bl (isTy T d)) st := by
  cases d with
  | ref m =>
    simp only [okT] at h
    cases hm : st[m]? with
    | none => rw [hm] at h; cases h
    | some o =>
      rw [hm] at h
      cases o with
      | lst xs => rw [vIsiO_lst hm, h1]; rfl
      | dct kvs => rw [vIsiO_dct hm, h2]; rfl
      | rol xs => simp at h
      | dcT kvs => simp at h
      | ins c fs =>
        have hc : c = "Log" := by simpa using h
        subst hc
        rw [vIsiO_ins hm]; rfl
  | cls _ => simp [okT] at h
  | _ => rfl
end TK

set_option Elab.async false
set_option linter.all false
set_option maxRecDepth 100000
set_option maxHeartbeats 4000000
namespace TK
open PySem PySem.Spec
open PyProof.Rows hiding St
open L2
/-! # odd values: deep ones -/
variable {st s1 s2 : Store} {n p q N L : Nat} {k : Int} {d : D} {ds : List D} {rs : List Rw} {s : Bool} {fs : List Bool}
/-- a tuple of at most B -/
def tupLe (B : Nat) (d : D) : Prop := ∀ ds, d = .tup ds → ds.length ≤ B
theorem GcSame.tup {B : Nat} {d' : D} (g : GcSame d d') (h : tupLe B d) : tupLe B d' := fun ds e => by
  rcases g with rfl | ⟨m, rfl⟩
  · exact h ds e
  · cases e
theorem tl_of {B : Nat} {b : List D} (h : b.length ≤ B) : tupLe B (.tup b) := fun ds e => by cases e; exact h
theorem tl_mono {B C : Nat} {d : D} (h : tupLe B d) (hc : B ≤ C) : tupLe C d := fun ds e => Nat.le_trans (h ds e) hc
theorem oAt0 {S : Store} {o : AO} {X : Store} : (S ++ o :: X)[S.length]? = some o := by rw [List.getElem?_append_right (Nat.le_refl _), Nat.sub_self]; rfl
theorem oAt1 {S : Store} {o a : AO} {X : Store} : (S ++ a :: o :: X)[S.length + 1]? = some o := by
  rw [List.getElem?_append_right (by omega)]
  have : S.length + 1 - S.length = 1 := by omega
  rw [this]; rfl
theorem oAt2 {S : Store} {o a b : AO} {X : Store} : (S ++ a :: b :: o :: X)[S.length + 1 + 1]? = some o := by
  rw [List.getElem?_append_right (by omega)]
  have : S.length + 1 + 1 - S.length = 2 := by omega
  rw [this]; rfl
theorem deepA_ok {j : Nat} (hj : j < 4) : ∃ d x, gcH st (m__law_deep [.int j] st) = .ok d (st ++ x) ∧ okT (st ++ x) d = true ∧ tupLe 1 d := by
  have z1 : 1 ≤ sizeLine := szl (by omega)
  have z2 : 2 ≤ sizeLine := szl (by omega)
  have z3 : 3 ≤ sizeLine := szl (by omega)
  have rg : ∀ s, rngR1 36 s = .ok (rangeD 0 36, []) s := fun s => rngR1_eq (n := 36) rfl (by omega)
  suffices h : ∃ d x, m__law_deep [.int j] st = .ok d (st ++ x) ∧ okT (st ++ x) d = true ∧ tupLe 1 d by
    obtain ⟨d, x, e, ok, h1⟩ := h
    obtain ⟨d', y, e', ok', g⟩ := gc_app ok
    exact ⟨d', y, by rw [e]; exact e', ok', g.tup h1⟩
  obtain ⟨f0, hf0, ho0, ht0⟩ : ∃ f0, getD (.ref st.length) (.int (if 1 < (j : Int) then 1 else 0)) (st ++ [.lst [.non, .str "a"]]) = .ok f0 (st ++ [.lst [.non, .str "a"]]) ∧ okT (st ++ [AO.lst [.non, .str "a"]]) f0 = true ∧ tupLe 1 f0 := by
    by_cases c : 1 < (j : Int)
    · rw [if_pos c]
      exact ⟨.str "a", getD_r (k := 1) oAt0 rfl rfl, rfl, fun ds e => by cases e⟩
    · rw [if_neg c]
      exact ⟨.non, getD_r (k := 0) oAt0 rfl rfl, rfl, fun ds e => by cases e⟩
  have ib : ∀ b s, intG [.bl b] s = .ok (.int (if b then 1 else 0)) s := fun b s => by cases b <;> rfl
  rw [m__law_deep_eq]
  simp [okIf_pos z2, rg, ib, hf0]
  generalize hq : loopF _ _ _ _ _ _ = r
  obtain ⟨e, s', rfl, x, f, o2, rfl, rfl, ok, h1⟩ := loopF_next hq (fun i env s' => ∃ (x : Store) (f : D) (o2 : Option D), env = [some (.int j), some f, o2] ∧ s' = st ++ x ∧ okT (st ++ x) f = true ∧ tupLe 1 f)
    ⟨[.lst [.non, .str "a"]], f0, none, rfl, rfl, ho0, ht0⟩ fun i d env s' hI hd => by
    obtain ⟨x, f, o2, rfl, rfl, ok, h1⟩ := hI
    obtain ⟨rfl, hi⟩ := rangeD_get' hd
    generalize hS' : st ++ x = S at ok
    obtain ⟨jj, hjj, hj3⟩ : ∃ jj : Nat, (j : Int) % 3 = (jj : Int) ∧ jj < 3 := ⟨j % 3, by omega, by omega⟩
    have gg : ∀ (v : D) (i : Nat), ([D.tup [f], .ref S.length, .ref (S.length + 1)] : List D)[i]? = some v → getD (.ref (S.length + 1 + 1)) (.int (i : Int)) (S ++ [.lst [f], .dct [(.str "a", f)], .lst [.tup [f], .ref S.length, .ref (S.length + 1)]]) = .ok v (S ++ [.lst [f], .dct [(.str "a", f)], .lst [.tup [f], .ref S.length, .ref (S.length + 1)]]) :=
      fun v i hv => getD_r oAt2 rfl hv
    have ok3 := okT_keep (keeps_app [AO.lst [f], .dct [(.str "a", f)], .lst [.tup [f], .ref S.length, .ref (S.length + 1)]]) f ok
    have hx : ∀ Y : Store, S ++ Y = st ++ (x ++ Y) := fun Y => by rw [← hS', List.append_assoc]
    obtain ⟨v, hv, ov, hv1⟩ : ∃ v, ([D.tup [f], .ref S.length, .ref (S.length + 1)] : List D)[jj]? = some v ∧ okT (S ++ [AO.lst [f], .dct [(.str "a", f)], .lst [.tup [f], .ref S.length, .ref (S.length + 1)]]) v = true ∧ tupLe 1 v := by
      match jj, hj3 with
      | 0, _ => exact ⟨_, rfl, by simp only [okT, okTs, ok3, Bool.and_true, Bool.and_self], tl_of (by simp)⟩
      | 1, _ => exact ⟨_, rfl, okT_lst oAt0, (fun ds e => by cases e)⟩
      | 2, _ => exact ⟨_, rfl, by simp only [okT, oAt1], (fun ds e => by cases e)⟩
    have g := gg v jj hv
    refine ⟨_, asgT_name _ _ _, [some (.int j), some v, some (.int (i : Int))], _, .inl ?_, by simp, x ++ [AO.lst [f], .dct [(.str "a", f)], .lst [.tup [f], .ref S.length, .ref (S.length + 1)]], v, _, rfl, (hx _), by rw [← hx]; exact ov, hv1⟩
    simp [okIf_pos z1, okIf_pos z3, hjj, g]
  exact ⟨f, x, by simp, ok, h1⟩
/-! ### tests of all members -/
theorem all_compP {t : Tgt} {elt : EF} {env : AEnv} {v : Nat} {P : D → Bool} (ok : ∀ d ∈ ds, okT st d = true) (he : ∀ (d : D) (env1 : AEnv), okT st d = true → asgT t d env = some env1 → elt env1 st = .ok (.bl (P d)) st) (ht : t = .name v) :
    compL t bYes elt (ds, []) ds env st = .ok ((ds.map P).map D.bl) st := by
  subst ht
  have := compL_mapE (r := compL (.name v) bYes elt (ds, []) ds env st) rfl (by simp) (fun d => true) (fun d => .bl (P d)) fun d hd => ⟨_, asgT_name _ _ _, rfl, fun _ => he d _ (ok d hd) (asgT_name _ _ _)⟩
  rw [this, map_true, List.map_map]
  rfl
def isBl : D → Bool
  | .bl _ => true
  | _ => false
theorem all_bls : ∀ {ds : List D}, ds.all isBl = true → ∃ fs : List Bool, ds = fs.map D.bl
  | [], _ => ⟨[], rfl⟩
  | d :: ds, h => by
    simp only [List.all_cons, Bool.and_eq_true] at h
    obtain ⟨fs, rfl⟩ := all_bls h.2
    cases d with
    | bl b => exact ⟨b :: fs, rfl⟩
    | _ => simp [isBl] at h
theorem isTy_bool (d : D) : isTy "bool" d = isBl d := by cases d <;> rfl
theorem vIsi_bool (h : okT st d = true) : vIsiO "Log" "bool" d st = .ok (.bl (isBl d)) st := by rw [vIsi_ok h (by decide) (by decide), isTy_bool]
theorem is_flag_any (h : okT st d = true) : m_is_flag [d] st = .ok (.bl (isBl d)) st := by
  rw [m_is_flag_eq]
  simp [vIsi_bool h]
/-- a doing, whatever it is -/
def doAny (rs : List Rw) (d : D) : Prop := ∃ fs : List Bool, d = .tup (fs.map D.bl) ∧ doOk rs fs
theorem doAny_or (rs : List Rw) (d : D) : doAny rs d ∨ ¬ doAny rs d := Classical.em _
theorem is_doing_any (h : st[p]? = some (logO N rs)) (hM : rs.length ≤ 2000) (ok : okT st d = true) (hz : tupLe 10000 d) (hno : ¬ doAny rs d) : m_is_doing [.ref p, d] st = .ok (.bl false) st := by
  have v := vIsi_ok (T := "tuple") ok (by decide) (by decide)
  cases d with
  | tup ds =>
    have zc : ds.length ≤ sizeLine := szl (by have := hz _ rfl; omega)
    have okc := okT_tup_mem ok
    by_cases c : ds.length = rs.length
    · by_cases a : ds.all isBl = true
      · obtain ⟨fs, rfl⟩ := all_bls a
        have c' : fs.length = rs.length := by simpa using c
        rw [is_doing_b h hM c']
        by_cases e : doB rs fs = true
        · exact absurd ⟨fs, rfl, (doB_iff c').mp e⟩ hno
        · have e : doB rs fs = false := by simpa using e
          rw [e]
      · have a : ds.all isBl = false := by simpa using a
        rw [m_is_doing_eq]
        simp [subT, log_at h, lkR, c, okIf_pos (show rs.length ≤ sizeLine by rw [← c]; exact zc)]
        generalize hq : compL _ _ _ _ _ _ _ = r
        rw [all_compP (P := isBl) (v := 2) okc (fun d env1 hd he => by
          rw [asgT_name] at he
          cases he
          simp [is_flag_any hd]) rfl] at hq
        subst hq
        have e2 : ((ds.map isBl).all id) = false := by rw [List.all_map]; exact a
        simp [-List.map_map, allG_bls, e2]
    · have c2 : ¬ (ds.length : Int) = (rs.length : Int) := by omega
      rw [m_is_doing_eq]
      simp [log_at h, lkR, subT, c2]
  | _ => rw [m_is_doing_eq]; simp [v, isTy, subT]
theorem law_is_doing_b (hM : rs.length ≤ 2000) (hl : fs.length = rs.length) : m__law_is_doing [.tup (rs.map rwD), .tup (fs.map D.bl)] st = .ok (.bl (doB rs fs)) st := by
  have zM : rs.length ≤ sizeLine := szl (by omega)
  obtain ⟨bs, h1, h2, h3⟩ := zip_do hl
  simp [m__law_is_doing_eq, hl, okIf_pos zM, subT]
  generalize hq : compL _ _ _ _ _ _ _ = r
  have := compL_mapE hq (by simp) (fun d => true) (fun d => .bl true) fun d hd' => by
    obtain ⟨f, _, rfl⟩ := List.mem_map.mp hd'
    exact ⟨_, asgT_name _ _ _, rfl, fun _ => by simp [subT]⟩
  subst this
  rw [map_true]
  simp [-List.map_map, -List.getD_eq_getElem?_getD, allG_true, h2, okIf_pos zM]
  generalize hq : compL _ _ _ _ _ _ _ = r
  have := compL_mapE hq (by simp) (fun d => true) doCell fun d hd' => by
    obtain ⟨i, _, e⟩ := List.mem_map.mp hd'
    have e : D.tup [.bl (fs.getD i false), rwD (rs.getD i ⟨0, 0, false⟩)] = d := e
    revert e
    generalize fs.getD i false = f
    generalize rs.getD i _ = r
    intro e
    subst e
    refine ⟨_, rfl, rfl, fun _ => ?_⟩
    cases f with
    | true => simp [rwD, doCell]
    | false => simp [rw2]; simp [doCell, rwD]
  subst this
  rw [map_true, List.map_map]
  have e : (List.range rs.length).map (doCell ∘ fun (i : Nat) => D.tup [.bl (fs.getD i false), rwD (rs.getD i ⟨0, 0, false⟩)]) = bs.map D.bl := by
    rw [h3, List.map_map]
    rfl
  rw [e]
  simp [allG_bls, h1]
theorem law_is_doing_any (hM : rs.length ≤ 2000) (ok : okT st d = true) (hz : tupLe 10000 d) (hno : ¬ doAny rs d) : m__law_is_doing [.tup (rs.map rwD), d] st = .ok (.bl false) st := by
  have v := vIsi_ok (T := "tuple") ok (by decide) (by decide)
  cases d with
  | tup ds =>
    have zc : ds.length ≤ sizeLine := szl (by have := hz _ rfl; omega)
    have okc := okT_tup_mem ok
    by_cases c : ds.length = rs.length
    · by_cases a : ds.all isBl = true
      · obtain ⟨fs, rfl⟩ := all_bls a
        have c' : fs.length = rs.length := by simpa using c
        rw [law_is_doing_b hM c']
        by_cases e : doB rs fs = true
        · exact absurd ⟨fs, rfl, (doB_iff c').mp e⟩ hno
        · have e : doB rs fs = false := by simpa using e
          rw [e]
      · have a : ds.all isBl = false := by simpa using a
        rw [m__law_is_doing_eq]
        simp [subT, c, okIf_pos (show rs.length ≤ sizeLine by rw [← c]; exact zc)]
        generalize hq : compL _ _ _ _ _ _ _ = r
        rw [all_compP (P := isBl) (v := 2) okc (fun d env1 hd he => by
          rw [asgT_name] at he
          cases he
          simp [vIsi_bool hd]) rfl] at hq
        subst hq
        have e2 : ((ds.map isBl).all id) = false := by rw [List.all_map]; exact a
        simp [-List.map_map, allG_bls, e2]
    · have c2 : ¬ (ds.length : Int) = (rs.length : Int) := by omega
      rw [m__law_is_doing_eq]
      simp [subT, c2]
  | _ => rw [m__law_is_doing_eq]; simp [v, isTy, subT]
end TK

set_option Elab.async false
set_option linter.all false
set_option maxRecDepth 100000
set_option maxHeartbeats 4000000
namespace TK
open PySem PySem.Spec
open PyProof.Rows hiding St
open L2
/-! # what odd expressions give: rules, expression by expression -/
def Stab (n : Nat) (C : Store → Prop) : Prop := ∀ s s' k, Near n s s' → Dice n k s' → C s → C s'
def okE (s : Store) (env : AEnv) : Prop := ∀ d, some d ∈ env → okT s d = true
structure OS (n : Nat) (env : AEnv) (C : Store → Prop) (k : Int) (s : Store) : Prop where
  dice : Dice n k s
  env : okE s env
  ctx : C s
structure OX (n : Nat) (k : Int) (s s' : Store) : Prop where
  dice : Dice n k s'
  near : Near n s s'
section
variable {n m m2 B B2 c : Nat} {env : AEnv} {C : Store → Prop} {k k1 k2 : Int} {s s1 s2 : Store} {fe fa fb fc : EF} {fr fl : LF}
theorem OX.trans (h : OX n k1 s s1) (g : OX n k2 s1 s2) : OX n k2 s s2 := ⟨g.dice, h.near.trans g.near⟩
theorem OX.mono (h : OX n k1 s s1) (hk : k1 ≤ k2) : OX n k2 s s1 := ⟨h.dice.mono hk, h.near⟩
theorem OS.refl (h : OS n env C k s) : OX n k s s := ⟨h.dice, .refl⟩
theorem OX.keeps (h : OX n k s s1) : Keeps s s1 := keeps_near h.near h.dice
theorem OS.next (hC : Stab n C) (h : OS n env C k s) (x : OX n k1 s s1) : OS n env C k1 s1 :=
  ⟨x.dice, fun d hd => okT_keep x.keeps d (h.env d hd), hC _ _ _ x.near x.dice h.ctx⟩
theorem OS.app (h : OS n env C k s) (X : Store) : OX n k s (s ++ X) := ⟨h.dice.app X, .app X⟩
/-- some odd value; a tuple; a list's members; an index -/
def OE (n : Nat) (env : AEnv) (C : Store → Prop) (k k1 : Int) (B : Nat) (fe : EF) : Prop := ∀ s, OS n env C k s → ∃ d s', fe env s = .ok d s' ∧ okT s' d = true ∧ tupLe B d ∧ OX n k1 s s'
def OT (n : Nat) (env : AEnv) (C : Store → Prop) (k k1 : Int) (B : Nat) (fe : EF) : Prop := ∀ s, OS n env C k s → ∃ ds s', fe env s = .ok (.tup ds) s' ∧ okT s' (.tup ds) = true ∧ ds.length ≤ B ∧ OX n k1 s s'
def OL (n : Nat) (env : AEnv) (C : Store → Prop) (k k1 : Int) (B m : Nat) (fr : LF) : Prop := ∀ s, OS n env C k s → ∃ ds s', fr env s = .ok ds s' ∧ (∀ d ∈ ds, okT s' d = true ∧ tupLe B d) ∧ ds.length = m ∧ OX n k1 s s'
def OI (n : Nat) (env : AEnv) (C : Store → Prop) (k k1 : Int) (c : Nat) (fe : EF) : Prop := ∀ s, OS n env C k s → ∃ (r : Nat) (s' : Store), fe env s = .ok (.int (r : Int)) s' ∧ r < c ∧ OX n k1 s s'
theorem OE.mono (h : OE n env C k k1 B fe) (hB : B ≤ B2) (hk : k1 ≤ k2) : OE n env C k k2 B2 fe := fun s hs => by
  obtain ⟨d, s', e, o, t, x⟩ := h s hs
  exact ⟨d, s', e, o, tl_mono t hB, x.mono hk⟩
theorem od_tupE (h : OT n env C k k1 B2 fe) (hB : B2 ≤ B) : OE n env C k k1 B fe := fun s hs => by
  obtain ⟨ds, s', e, o, t, x⟩ := h s hs
  exact ⟨_, s', e, o, tl_of (by omega), x⟩
theorem od_idxE (h : OI n env C k k1 c fe) : OE n env C k k1 B fe := fun s hs => by
  obtain ⟨r, s', e, _, x⟩ := h s hs
  exact ⟨_, s', e, rfl, (fun ds q => by cases q), x⟩
theorem od_int {i : Int} : OE n env C k k B (eC (.int i)) := fun s hs => ⟨_, s, rfl, rfl, (fun ds q => by cases q), hs.refl⟩
theorem od_bl {i : Bool} : OE n env C k k B (eC (.bl i)) := fun s hs => ⟨_, s, rfl, rfl, (fun ds q => by cases q), hs.refl⟩
theorem od_non : OE n env C k k B (eC .non) := fun s hs => ⟨_, s, rfl, rfl, (fun ds q => by cases q), hs.refl⟩
theorem od_str {i : Str} : OE n env C k k B (eC (.str i)) := fun s hs => ⟨_, s, rfl, rfl, (fun ds q => by cases q), hs.refl⟩
theorem od_var {i : Nat} {d : D} (h : env[i]? = some (some d)) (hB : tupLe B d) : OE n env C k k B (eVar i) := fun s hs =>
  ⟨d, s, by simp [h], hs.env d (List.mem_of_getElem? h), hB, hs.refl⟩
theorem od_varT {i : Nat} {ds : List D} (h : env[i]? = some (some (.tup ds))) (hB : ds.length ≤ B) : OT n env C k k B (eVar i) := fun s hs =>
  ⟨ds, s, by simp [h], hs.env _ (List.mem_of_getElem? h), hB, hs.refl⟩
/-- told of the store at hand -/
theorem od_of (h : ∀ s, OS n env C k s → ∃ d, fe env s = .ok d s ∧ okT s d = true ∧ tupLe B d) : OE n env C k k B fe := fun s hs => by
  obtain ⟨d, e, o, t⟩ := h s hs
  exact ⟨d, s, e, o, t, hs.refl⟩
theorem od_ofT (h : ∀ s, OS n env C k s → ∃ ds, fe env s = .ok (.tup ds) s ∧ okT s (.tup ds) = true ∧ ds.length ≤ B) : OT n env C k k B fe := fun s hs => by
  obtain ⟨d, e, o, t⟩ := h s hs
  exact ⟨d, s, e, o, t, hs.refl⟩
theorem od_nil : OL n env C k k B 0 lNil := fun s hs => ⟨[], s, rfl, by simp, rfl, hs.refl⟩
theorem od_cons (hC : Stab n C) (h : OE n env C k k1 B fe) (hr : OL n env C k1 k2 B m fr) : OL n env C k k2 B (m + 1) (lCons fe fr) := fun s hs => by
  obtain ⟨d, s1, e1, o1, t1, x1⟩ := h s hs
  obtain ⟨ds, s2, e2, o2, l2, x2⟩ := hr s1 (hs.next hC x1)
  refine ⟨d :: ds, s2, by simp [e1, e2], fun y hy => ?_, by simp [l2], x1.trans x2⟩
  rcases List.mem_cons.mp hy with rfl | hy
  · exact ⟨okT_keep x2.keeps y o1, t1⟩
  · exact o2 y hy
theorem od_lst (h : OL n env C k k1 B m fr) (hm : m ≤ 100000) : OL n env C k k1 B m (lLst fr) := fun s hs => by
  obtain ⟨ds, s1, e, o, l, x⟩ := h s hs
  have z : ds.length ≤ sizeLine := szl (by omega)
  exact ⟨ds, s1, by simp [e, okIf_pos z], o, l, x⟩
theorem od_tup (h : OL n env C k k1 B m fr) (hm : m ≤ 100000) : OT n env C k k1 m (eTup fr) := fun s hs => by
  obtain ⟨ds, s1, e, o, l, x⟩ := h s hs
  have z : ds.length ≤ sizeLine := szl (by omega)
  exact ⟨ds, s1, by simp [e, okIf_pos z], okT_tup fun d hd => (o d hd).1, by omega, x⟩
/-- a new list -/
theorem od_new (hC : Stab n C) (h : OL n env C k k1 B m fl) : OE n env C k k1 B2 (eLst fl) := fun s hs => by
  obtain ⟨ds, s1, e, o, l, x⟩ := h s hs
  exact ⟨.ref s1.length, s1 ++ [.lst ds], by simp [e], okT_lst (ds := ds) (by simp), (fun ds q => by cases q), x.trans ((hs.next hC x).app _)⟩
theorem od_newL (hC : Stab n C) (h : OL n env C k k1 B m fr) (hm : m ≤ 100000) : OE n env C k k1 B (eLst (lLst fr)) := od_new hC (od_lst h hm)
theorem od_unit : OE n env C k k B (eTup lNil) := od_tupE (od_tup (B := B) od_nil (by omega)) (by omega)
theorem od_dct0 : OE n env C k k B eDct0 := fun s hs =>
  ⟨.ref s.length, s ++ [.dct []], rfl, by simp [okT], (fun ds q => by cases q), hs.app _⟩
theorem od_add (hC : Stab n C) (ha : OT n env C k k1 B fa) (hb : OT n env C k1 k2 B2 fb) (hB : B + B2 ≤ 100000) : OT n env C k k2 (B + B2) (e2 addD fa fb) := fun s hs => by
  obtain ⟨xs, s1, e1, o1, l1, x1⟩ := ha s hs
  obtain ⟨ys, s2, e2, o2, l2, x2⟩ := hb s1 (hs.next hC x1)
  have z : xs.length + ys.length ≤ sizeLine := szl (by omega)
  refine ⟨xs ++ ys, s2, by simp [e1, e2, okIf_pos z], okT_tup fun d hd => ?_, by simp; omega, x1.trans x2⟩
  rcases List.mem_append.mp hd with hd | hd
  · exact okT_tup_mem (okT_keep x2.keeps _ o1) d hd
  · exact okT_tup_mem o2 d hd
theorem od_sl {fo fp : OF} (ha : OT n env C k k1 B fa) (hl : ∀ s, ∃ lo, fo env s = .ok lo s) (hh : ∀ s, ∃ hi, fp env s = .ok hi s) : OT n env C k k1 B (eSl fa fo fp) := fun s hs => by
  obtain ⟨xs, s1, e1, o1, l1, x1⟩ := ha s hs
  obtain ⟨lo, h1⟩ := hl s1
  obtain ⟨hi, h2⟩ := hh s1
  exact ⟨cutD xs lo hi, s1, by simp [e1, h1, h2], okT_tup fun d hd => okT_tup_mem o1 d (cutD_mem hd), Nat.le_trans (cutD_len _ _ _) l1, x1⟩
theorem oo_none : ∀ s, ∃ lo, oNone env s = .ok lo s := fun s => ⟨_, rfl⟩
theorem oo_int {i : Int} : ∀ s, ∃ lo, oSome (eC (.int i)) env s = .ok lo s := fun s => ⟨_, rfl⟩
theorem oo_var {v : Nat} {i : Int} (h : env[v]? = some (some (.int i))) : ∀ s, ∃ lo, oSome (eVar v) env s = .ok lo s := fun s => ⟨some i, by simp [h]⟩
theorem oo_var1 {v : Nat} {i j : Int} (h : env[v]? = some (some (.int i))) : ∀ s, ∃ lo, oSome (e2 addD (eVar v) (eC (.int j))) env s = .ok lo s := fun s => ⟨some (i + j), by simp [h]⟩
theorem oo_neg {i : Int} : ∀ s, ∃ lo, oSome (e1 negD (eC (.int i))) env s = .ok lo s := fun s => ⟨some (-i), by simp⟩
theorem od_listT (hC : Stab n C) (ha : OT n env C k k1 B fa) (hB : B ≤ 100000) : OE n env C k k1 B2 (eLst (lQ lstG (lRd fa))) := fun s hs => by
  obtain ⟨xs, s1, e1, o1, l1, x1⟩ := ha s hs
  exact ⟨.ref s1.length, s1 ++ [.lst xs], by simp [e1, lstG], okT_lst (ds := xs) (by simp), (fun ds q => by cases q), x1.trans ((hs.next hC x1).app _)⟩
/-- a draw -/
theorem od_draw {h : Nat} {sides : Nat} (hn : env[h]? = some (some (.ref n))) (hc : ∀ s, fc env s = .ok (.int sides) s) (h0 : 0 < sides) (h1 : sides < 1000000) (hk : k < 1000000000) : OI n env C k (k + 1) sides (eCall m__law_draw (lCons (eVar h) (lCons fc lNil))) := fun s hs => by
  obtain ⟨r, s1, e, r0, r1, D1, S1⟩ := draw_ok (s := (sides : Int)) hs.dice hk (by omega) (by omega)
  obtain ⟨r, rfl⟩ : ∃ r' : Nat, r = r' := ⟨r.toNat, by omega⟩
  exact ⟨r, s1, by simp [hn, hc, e], by omega, D1, S1.near⟩
theorem od_deep (hC : Stab n C) (h : OI n env C k k1 4 fe) : OE n env C k k1 (B + 1) (eCall m__law_deep (lCons fe lNil)) := fun s hs => by
  obtain ⟨r, s1, e, hr, x1⟩ := h s hs
  obtain ⟨d, x, e2, o, t⟩ := deepA_ok (st := s1) hr
  exact ⟨d, s1 ++ x, by simp [e, e2], o, tl_mono t (by omega), x1.trans ((hs.next hC x1).app _)⟩
/-- one of a list just made -/
theorem od_pick (hC : Stab n C) (hl : OL n env C k k1 B m fl) (hi : OI n env (fun s => C s) k1 k2 m fb) : OE n env C k k2 B (e2 getD (eLst fl) fb) := fun s hs => by
  obtain ⟨ds, s1, e1, o1, l1, x1⟩ := hl s hs
  have h1 := hs.next hC x1
  have x2 := h1.app [.lst ds]
  obtain ⟨r, s2, e2, hr, x3⟩ := hi (s1 ++ [.lst ds]) (h1.next hC x2)
  have hlt := h1.dice.lt
  have hq : s2[s1.length]? = some (.lst ds) := by rw [x3.near.2 s1.length (by simp) (by omega)]; simp
  have hr' : r < ds.length := by omega
  have g : getD (.ref s1.length) (.int (r : Int)) s2 = .ok ds[r] s2 := getD_r (k := r) hq rfl (List.getElem?_eq_getElem hr')
  have hm := o1 ds[r] (List.getElem_mem hr')
  exact ⟨ds[r], s2, by simp [e1, e2, g], okT_keep (x2.trans x3).keeps _ hm.1, hm.2, x1.trans (x2.trans x3)⟩
theorem od_listL (hC : Stab n C) (hl : OL n env C k k1 B m fl) (hi : OI n env C k1 k2 m fb) : OE n env C k k2 B (e2 getD (eLst fl) fb) := od_pick hC hl hi
/-- what a variable's list holds -/
def holds (n L : Nat) (B m : Nat) (s : Store) : Prop := ∃ ds, s[L]? = some (.lst ds) ∧ (∀ d ∈ ds, okT s d = true ∧ tupLe B d) ∧ ds.length = m
theorem stab_holds {L : Nat} (hL : L ≠ n) : Stab n (holds n L B m) := fun s s' k N1 D1 ⟨ds, e, o, l⟩ =>
  ⟨ds, by rw [N1.2 L (List.getElem?_eq_some_iff.mp e).1 hL]; exact e, fun d hd => ⟨okT_keep (keeps_near N1 D1) d (o d hd).1, (o d hd).2⟩, l⟩
theorem stab_and {C2 : Store → Prop} (h : Stab n C) (g : Stab n C2) : Stab n (fun s => C s ∧ C2 s) := fun s s' k N1 D1 q => ⟨h s s' k N1 D1 q.1, g s s' k N1 D1 q.2⟩
theorem stab_at {L : Nat} {o : AO} (hL : L ≠ n) : Stab n (fun s => s[L]? = some o) := fun s s' k N1 D1 e => by
  show s'[L]? = some o
  have e : s[L]? = some o := e
  rw [N1.2 L (List.getElem?_eq_some_iff.mp e).1 hL]; exact e
theorem stab_true : Stab n (fun _ => True) := fun _ _ _ _ _ _ => trivial
/-- xs + [..] -/
theorem od_cat (hC : Stab n C) {i L : Nat} (h : env[i]? = some (some (.ref L))) (hL : L ≠ n) (hh : ∀ s, C s → holds n L B m s) (hr : OL n env C k k1 B m2 fr) (hm : m + m2 ≤ 100000) : OL n env C k k1 B (m + m2) (lCatE (eVar i) fr) := fun s hs => by
  obtain ⟨ds, s1, e1, o1, l1, x1⟩ := hr s hs
  have h1 := hs.next hC x1
  obtain ⟨es, q1, q2, q3⟩ := hh s1 h1.ctx
  have z : es.length + ds.length ≤ sizeLine := szl (by omega)
  refine ⟨es ++ ds, s1, by simp [h, e1, q1, okIf_pos z], fun d hd => ?_, by simp; omega, x1⟩
  rcases List.mem_append.mp hd with hd | hd
  · exact q2 d hd
  · exact o1 d hd
theorem dice_putD {st : Store} {L : Nat} {o : AO} (h : Dice n k st) (hL : n < L) : Dice n k (st.set L o) := by
  obtain ⟨c, cells, a, b, m, e, h0, hn, hc, hcell, hr⟩ := h
  refine ⟨c, cells, a, b, m, e, ?_, by simpa using hn, hc, ?_, hr⟩
  · unfold dS at h0 ⊢
    rw [List.set_comm _ _ (by omega), ← h0]
  · rw [List.getElem?_set_ne (by omega)]; exact hcell
/-- xs.append(..) -/
theorem od_append (hC : Stab n C) {i L : Nat} (h : env[i]? = some (some (.ref L))) (hL : n < L) (hh : ∀ s, C s → holds n L B m s) (he : OE n env C k k1 B fe) (hm : m < 100000) (s : Store) (hs : OS n env C k s) :
    ∃ s', sDrop (eM isLst appendG (eVar i) (lCons fe lNil)) env s = .next env s' ∧ holds n L B (m + 1) s' ∧ Dice n k1 s' ∧ s.length ≤ s'.length ∧ (∀ j, j < s.length → j ≠ n → j ≠ L → s'[j]? = s[j]?) ∧ Keeps s s' := by
  obtain ⟨es0, p1, _, _⟩ := hh s hs.ctx
  obtain ⟨d, s1, e1, o1, t1, x1⟩ := he s hs
  have h1 := hs.next hC x1
  obtain ⟨es, q1, q2, q3⟩ := hh s1 h1.ctx
  have zz : m + 1 ≤ sizeLine := szl (by omega)
  have ap := appendG_ref (m := L) (d := d) q1 (by omega)
  have Kp : Keeps s1 (s1.set L (.lst (es ++ [d]))) := fun j hj => by
    by_cases c : j = L
    · subst c
      have := okT_ref_lt hj
      simp [okT, List.getElem?_set_self this]
    · exact okT_ref (o := .lst []) (List.getElem?_set_ne (by omega)) hj
  refine ⟨s1.set L (.lst (es ++ [d])), ?_, ⟨es ++ [d], ?_, fun y hy => ?_, by simp [q3]⟩, ?_, by simp; exact x1.near.1, fun j hj hjn hjL => ?_, x1.keeps.trans Kp⟩
  · have il : isLst (.ref L) s = true := by simp [p1]
    simp [h, il, e1, ap]
  · rw [List.getElem?_set_self (List.getElem?_eq_some_iff.mp q1).1]
  · rcases List.mem_append.mp hy with hy | hy
    · exact ⟨okT_keep Kp y (q2 y hy).1, (q2 y hy).2⟩
    · rw [List.mem_singleton.mp hy]
      exact ⟨okT_keep Kp d o1, t1⟩
  · exact dice_putD h1.dice hL
  · rw [List.getElem?_set_ne (by omega)]
    exact x1.near.2 j hj hjn
theorem OS.ctxTo {C2 : Store → Prop} (h : OS n env C k s) (c : C2 s) : OS n env C2 k s := ⟨h.dice, h.env, c⟩
theorem okE_set {i : Nat} {d : D} (h : okE s env) (o : okT s d = true) : okE s (env.set i (some d)) := fun y hy => by
  rcases List.mem_or_eq_of_mem_set hy with hy | hy
  · exact h y hy
  · cases hy; exact o
theorem okE_keep (K : Keeps s s1) (h : okE s env) : okE s1 env := fun d hd => okT_keep K d (h d hd)
theorem od_set (hC : Stab n C) (h : OE n env C k k1 B fe) (i : Nat) (hs : OS n env C k s) : ∃ d s', sSet i fe env s = .next (env.set i (some d)) s' ∧ tupLe B d ∧ Near n s s' ∧ OS n (env.set i (some d)) C k1 s' := by
  obtain ⟨d, s1, e, o, t, x⟩ := h s hs
  have h1 := hs.next hC x
  exact ⟨d, s1, by simp [e], t, x.near, h1.dice, okE_set h1.env o, h1.ctx⟩
theorem od_setI (hC : Stab n C) (h : OI n env C k k1 c fe) (i : Nat) (hs : OS n env C k s) : ∃ (r : Nat) (s' : Store), sSet i fe env s = .next (env.set i (some (.int (r : Int)))) s' ∧ r < c ∧ Near n s s' ∧ OS n (env.set i (some (.int (r : Int)))) C k1 s' := by
  obtain ⟨r, s1, e, hr, x⟩ := h s hs
  have h1 := hs.next hC x
  exact ⟨r, s1, by simp [e], hr, x.near, h1.dice, okE_set h1.env rfl, h1.ctx⟩
theorem od_setNew (hC : Stab n C) (h : OL n env C k k1 B m fl) (i : Nat) (hs : OS n env C k s) : ∃ L s', sSet i (eLst fl) env s = .next (env.set i (some (.ref L))) s' ∧ s.length ≤ L ∧ Near n s s' ∧ OS n (env.set i (some (.ref L))) (holds n L B m) k1 s' := by
  obtain ⟨ds, s1, e, o, l, x⟩ := h s hs
  have h1 := hs.next hC x
  have x2 := h1.app [.lst ds]
  have h2 := h1.next hC x2
  have hat : (s1 ++ [AO.lst ds])[s1.length]? = some (.lst ds) := by simp
  exact ⟨s1.length, _, by simp [e], x.near.1, x.near.trans x2.near, h2.dice, okE_set h2.env (okT_lst hat), ⟨ds, hat, fun d hd => ⟨okT_keep x2.keeps d (o d hd).1, (o d hd).2⟩, l⟩⟩
/-- one of the list that a variable names -/
theorem od_get (hC : Stab n C) {i L : Nat} (h : env[i]? = some (some (.ref L))) (hh : ∀ s, C s → holds n L B m s) (hi : OI n env C k k1 m fb) : OE n env C k k1 B (e2 getD (eVar i) fb) := fun s hs => by
  obtain ⟨r, s1, e, hr, x⟩ := hi s hs
  obtain ⟨ds, q1, q2, q3⟩ := hh s1 (hs.next hC x).ctx
  have hr' : r < ds.length := by omega
  have g : getD (.ref L) (.int (r : Int)) s1 = .ok ds[r] s1 := getD_r (k := r) q1 rfl (List.getElem?_eq_getElem hr')
  have hm := q2 ds[r] (List.getElem_mem hr')
  exact ⟨ds[r], s1, by simp [h, e, g], hm.1, hm.2, x⟩
end
end TK

set_option Elab.async false
set_option linter.all false
set_option maxRecDepth 100000
set_option maxHeartbeats 4000000
namespace TK
open PySem PySem.Spec
open PyProof.Rows hiding St
open L2
/-! # doings judged, whatever they are -/
variable {st s s1 s2 : Store} {n p q l f u N L : Nat} {k : Int} {d : D} {ds : List D} {rs : List Rw} {F Dn : List Fd} {fs : List Bool}
noncomputable def bn0e : EF := (eCall m__law_draw (lCons (eVar 0) (lCons (e2 addD (eQ lenG (lRd (eVar 2))) (eC (.int 1))) lNil)))
noncomputable def bn0 : SF := (sSet 3 bn0e)
noncomputable def bn1e : EF := (e2 getD (eLst (lLst (lCons (eC (.int 0)) (lCons (eC (.int 1)) (lCons (eC .non) (lCons (eC (.str "True")) (lCons (eTup lNil) (lCons (eLst (lLst (lCons (eC (.bl true)) lNil))) (lCons (eCall m__law_deep (lCons (eCall m__law_draw (lCons (eVar 0) (lCons (eC (.int 4)) lNil))) lNil)) (lCons (eVar 1) lNil)))))))))) (eCall m__law_draw (lCons (eVar 0) (lCons (eC (.int 8)) lNil))))
noncomputable def bn1 : SF := (sSet 4 bn1e)
noncomputable def bn2l : LF := (lLst (lCons (e2 addD (e2 addD (eSl (eVar 2) oNone (oSome (eVar 3))) (eTup (lCons (eVar 4) lNil))) (eSl (eVar 2) (oSome (e2 addD (eVar 3) (eC (.int 1)))) oNone)) (lCons (e2 addD (e2 addD (eSl (eVar 2) oNone (oSome (eVar 3))) (eTup (lCons (eC (.bl true)) lNil))) (eSl (eVar 2) (oSome (eVar 3)) oNone)) (lCons (eSl (eVar 2) oNone (oSome (e1 negD (eC (.int 1))))) (lCons (e2 addD (eVar 2) (eTup (lCons (eC (.bl false)) lNil))) lNil)))))
noncomputable def bn2 : SF := (sSet 5 (eLst bn2l))
noncomputable def bn3l : LF := (lCatE (eVar 5) (lLst (lCons (eLst (lQ lstG (lRd (eVar 2)))) (lCons (e2 addD (eQ tupG (compF [6] (iSeqF (eSl (eVar 2) oNone (oSome (eC (.int 1))))) (.name 6) bYes (eNot (eVar 6)))) (eSl (eVar 2) (oSome (eC (.int 1))) oNone)) (lCons (eC .non) (lCons (eTup lNil) (lCons (eC (.int 0)) (lCons (eC (.bl true)) (lCons (eC (.str "doing")) (lCons eDct0 lNil))))))))))
noncomputable def bn3 : SF := (sSet 5 (eLst bn3l))
noncomputable def bn4l : LF := (lCatE (eVar 5) (lLst (lCons (eVar 1) (lCons (eTup (lCons (eVar 2) lNil)) lNil))))
noncomputable def bn4 : SF := (sSet 5 (eLst bn4l))
noncomputable def bn5e : EF := (eM isLst appendG (eVar 5) (lCons (eCall m__law_deep (lCons (eCall m__law_draw (lCons (eVar 0) (lCons (eC (.int 4)) lNil))) lNil)) lNil))
noncomputable def bn5 : SF := (sDrop bn5e)
noncomputable def bn6e : EF := (eM isLst appendG (eVar 5) (lCons (e2 addD (e2 addD (eSl (eVar 2) oNone (oSome (eVar 3))) (eQ tupG (compF [6] (iSeqF (eSl (eVar 2) (oSome (eVar 3)) (oSome (e2 addD (eVar 3) (eC (.int 1)))))) (.name 6) bYes (eNot (eVar 6))))) (eSl (eVar 2) (oSome (e2 addD (eVar 3) (eC (.int 1)))) oNone)) lNil))
noncomputable def bn6 : SF := (sDrop bn6e)
noncomputable def bn7e : EF := (e2 getD (eVar 5) (eCall m__law_draw (lCons (eVar 0) (lCons (eC (.int 16)) lNil))))
noncomputable def bn7 : SF := (sRet bn7e)
theorem bn_cut : m__law_bent = runDef 7 (sSeq bn0 (sSeq bn1 (sSeq bn2 (sSeq bn3 (sSeq bn4 (sSeq bn5 (sSeq bn6 bn7))))))) := m__law_bent_eq
theorem nots_ok {v : Nat} {env : AEnv} {fe : EF} {gs : List Bool} (hv : v < env.length) (hg : gs.length ≤ 100000) (he : fe env st = .ok (.tup (gs.map D.bl)) st) : eQ tupG (compF [v] (iSeqF fe) (.name v) bYes (eNot (eVar v))) env st = .ok (.tup ((gs.map (!·)).map D.bl)) st := by
  have zl : gs.length ≤ sizeLine := szl (by omega)
  rw [eQ_ap, compF_ap, iSeqF_ap, he]
  simp [okIf_pos zl]
  generalize hq : compL _ _ _ _ _ _ _ = r
  have hv' : v < (env.set v none).length := by simpa using hv
  generalize env.set v none = e1 at hq hv'
  have := compL_mapE hq (by simp) (fun d => true) (fun d => match d with | .bl b => .bl (!b) | d => d) fun d hd => by
    obtain ⟨b, _, rfl⟩ := List.mem_map.mp hd
    exact ⟨_, asgT_name _ _ _, rfl, fun _ => by simp [List.getElem?_set_self hv']⟩
  subst this
  rw [map_true, List.map_map]
  simp
theorem cut_bls (lo hi : Option Int) : ∃ gs : List Bool, cutD (fs.map D.bl) lo hi = gs.map D.bl ∧ gs.length ≤ fs.length := by
  refine ⟨(fs.drop (HT.sIx fs.length 0 lo)).take (HT.sIx fs.length fs.length hi - HT.sIx fs.length 0 lo), ?_, ?_⟩
  · unfold cutD
    rw [List.length_map, ← List.map_drop, ← List.map_take]
  · rw [List.length_take, List.length_drop]; omega
theorem ok_bls (gs : List Bool) : okT s (.tup (gs.map D.bl)) = true := okT_tup fun d hd => by
  obtain ⟨b, _, rfl⟩ := List.mem_map.mp hd
  rfl
theorem log_ok (hp : st[p]? = some (logO N rs)) : okT st (.ref p) = true := by
  simp only [okT]
  rw [log_at hp]
  simp
theorem dice_okT (D0 : Dice n k st) : okT st (.ref n) = true := by
  obtain ⟨xs, hx⟩ := dice_lst D0
  exact okT_lst hx
theorem bent_ok (D0 : Dice n k st) (hk : k < 80000) (hp : st[p]? = some (logO N rs)) (hf : fs.length ≤ 60) :
    ∃ d' s', gcH st (m__law_bent [.ref n, .ref p, .tup (fs.map D.bl)] st) = .ok d' s' ∧ okT s' d' = true ∧ tupLe 200 d' ∧ Dice n (k + 10) s' ∧ Near n st s' := by
  have fin : ∀ v s1, m__law_bent [.ref n, .ref p, .tup (fs.map D.bl)] st = .ok v s1 → okT s1 v = true → tupLe 200 v → Dice n (k + 10) s1 → Near n st s1 →
      ∃ d' s', gcH st (m__law_bent [.ref n, .ref p, .tup (fs.map D.bl)] st) = .ok d' s' ∧ okT s' d' = true ∧ tupLe 200 d' ∧ Dice n (k + 10) s' ∧ Near n st s' := fun v s1 e okv hv D1 N1 => by
    obtain ⟨d', s2, e2, D2, N2, ok2, g⟩ := gc_any D1 D0.lt N1 okv
    exact ⟨d', s2, by rw [e]; exact e2, ok2, g.tup hv, D2, N2⟩
  have hlt := D0.lt
  have zl : fs.length ≤ sizeLine := szl (by omega)
  have lenT : (fs.map D.bl).length = fs.length := List.length_map _
  have cb := @cut_bls fs
  have T0 := fun s => @ok_bls s fs
  obtain ⟨T, hT⟩ : ∃ T, T = fs.map D.bl := ⟨_, rfl⟩
  rw [← hT] at fin T0 lenT ⊢
  have I0 : OS n [some (.ref n), some (.ref p), some (.tup T), none, none, none, none] (fun _ => True) k st := by
    refine ⟨D0, fun d hd => ?_, trivial⟩
    simp at hd
    rcases hd with rfl | rfl | rfl
    · exact dice_okT D0
    · exact log_ok hp
    · exact T0 st
  have C0 : Stab n (fun _ => True) := stab_true
  -- where
  obtain ⟨a, t1, ge1, ha, N1, I1⟩ := od_setI (fe := bn0e) (c := fs.length + 1) C0 (od_draw (h := 0) (by rfl) (fun s => by simp [lenT]) (by omega) (by omega) (by omega)) 3 I0
  -- the item
  have J1 : OE n [some (.ref n), some (.ref p), some (.tup T), some (.int a), none, none, none] (fun _ => True) (k + 1) (k + 1 + 1 + 1) 5 bn1e := by
    unfold bn1e
    refine od_listL (m := 8) C0 (od_lst ?_ (by omega)) (od_draw (by rfl) (fun s => rfl) (by omega) (by omega) (by omega))
    repeat' (first | exact od_nil | apply od_cons C0 | exact od_int | exact od_bl | exact od_non | exact od_str | exact od_dct0 | apply od_newL C0 | exact od_deep C0 (od_draw (by rfl) (fun s => rfl) (by omega) (by omega) (by omega)) | exact od_unit | exact od_var (by rfl) (fun ds q => by cases q) | omega)
  obtain ⟨w, t2, ge2, hw, N2, I2⟩ := od_set C0 J1 4 I1
  -- the list
  have sl : ∀ {E : AEnv} {fo fp : OF} {kk : Int} {C : Store → Prop}, E[2]? = some (some (.tup T)) → (∀ s, ∃ lo, fo E s = .ok lo s) → (∀ s, ∃ hi, fp E s = .ok hi s) → OT n E C kk kk 60 (eSl (eVar 2) fo fp) := fun he h1 h2 => od_sl (od_varT he (by rw [lenT]; exact hf)) h1 h2
  have J2 : OL n [some (.ref n), some (.ref p), some (.tup T), some (.int a), some w, none, none] (fun _ => True) (k + 1 + 1 + 1) (k + 1 + 1 + 1) 200 4 bn2l := by
    unfold bn2l
    refine od_lst ?_ (by omega)
    refine od_cons C0 (od_tupE (od_add C0 (od_add C0 (sl rfl oo_none (oo_var rfl)) (od_tup (od_cons C0 (od_var rfl hw) od_nil) (by omega)) (by omega)) (sl rfl (oo_var1 rfl) oo_none) (by omega)) (by omega)) ?_
    refine od_cons C0 (od_tupE (od_add C0 (od_add C0 (sl rfl oo_none (oo_var rfl)) (od_tup (od_cons (B := 1) C0 od_bl od_nil) (by omega)) (by omega)) (sl rfl (oo_var rfl) oo_none) (by omega)) (by omega)) ?_
    refine od_cons C0 (od_tupE (sl rfl oo_none oo_neg) (by omega)) ?_
    exact od_cons C0 (od_tupE (od_add C0 (od_varT (B := 60) rfl (by omega)) (od_tup (od_cons (B := 1) C0 od_bl od_nil) (by omega)) (by omega)) (by omega)) od_nil
  obtain ⟨L, t3, ge3, hL, N3, I3⟩ := od_setNew C0 J2 5 I2
  have hLn : n < L := by have := (N1.trans N2).1; omega
  have C3 : Stab n (holds n L 200 4) := stab_holds (by omega)
  have nt : ∀ {E : AEnv} {fo fp : OF} {kk : Int} {C : Store → Prop}, E[2]? = some (some (.tup T)) → E.length = 7 → (∀ s, ∃ lo, fo E s = .ok lo s) → (∀ s, ∃ hi, fp E s = .ok hi s) → OT n E C kk kk 60 (eQ tupG (compF [6] (iSeqF (eSl (eVar 2) fo fp)) (.name 6) bYes (eNot (eVar 6)))) := fun {E fo fp kk C} he hl h1 h2 => od_ofT fun s hs => by
    obtain ⟨lo, q1⟩ := h1 s
    obtain ⟨hi, q2⟩ := h2 s
    obtain ⟨gs, g1, g2⟩ := cb lo hi
    rw [← hT] at g1
    refine ⟨(gs.map (!·)).map D.bl, nots_ok (by omega) (by omega) (by simp [he, q1, q2, g1]), ok_bls _, by simp; omega⟩
  have J3 : OL n [some (.ref n), some (.ref p), some (.tup T), some (.int a), some w, some (.ref L), none] (holds n L 200 4) (k + 1 + 1 + 1) (k + 1 + 1 + 1) 200 (4 + 8) bn3l := by
    unfold bn3l
    refine od_cat C3 (by rfl) (by omega) (fun s h => h) (od_lst ?_ (by omega)) (by omega)
    refine od_cons C3 (od_listT C3 (od_varT (B := 60) rfl (by omega)) (by omega)) ?_
    refine od_cons C3 (od_tupE (od_add C3 (nt rfl rfl oo_none oo_int) (sl rfl oo_int oo_none) (by omega)) (by omega)) ?_
    repeat' (first | exact od_nil | apply od_cons C3 | exact od_int | exact od_bl | exact od_non | exact od_str | exact od_dct0 | exact od_unit | omega)
  obtain ⟨L4, t4, ge4, hL4, N4, I4⟩ := od_setNew C3 J3 5 I3
  have C4 : Stab n (holds n L4 200 (4 + 8)) := stab_holds (by have := N3.1; have := (N1.trans N2).1; omega)
  have J4 : OL n [some (.ref n), some (.ref p), some (.tup T), some (.int a), some w, some (.ref L4), none] (holds n L4 200 (4 + 8)) (k + 1 + 1 + 1) (k + 1 + 1 + 1) 200 (4 + 8 + 2) bn4l := by
    unfold bn4l
    refine od_cat C4 (by rfl) (by have := N3.1; have := (N1.trans N2).1; omega) (fun s h => h) (od_lst ?_ (by omega)) (by omega)
    exact od_cons C4 (od_var (by rfl) (fun ds q => by cases q)) (od_cons C4 (od_tupE (od_tup (od_cons (B := 60) C4 (od_var rfl (tl_of (by omega))) od_nil) (by omega)) (by omega)) od_nil)
  obtain ⟨L5, t5, ge5, hL5, N5, I5⟩ := od_setNew C4 J4 5 I4
  have hs5 : st.length ≤ L5 := by have := (N1.trans N2).1; have := N3.1; have := N4.1; omega
  have C5 : Stab n (holds n L5 200 (4 + 8 + 2)) := stab_holds (by omega)
  have Nt5 : Near n st t5 := (((N1.trans N2).trans N3).trans N4).trans N5
  -- two more
  obtain ⟨t6, ge6, h6, D6, l6, k6, K6⟩ := od_append C5 (i := 5) (L := L5) (B := 200) (by rfl) (by omega) (fun s h => h) (od_deep (B := 199) C5 (od_draw (h := 0) (fc := eC (.int 4)) (by rfl) (fun s => rfl) (by omega) (by omega) (by omega))) (by omega) t5 I5
  have I6 : OS n [some (.ref n), some (.ref p), some (.tup T), some (.int a), some w, some (.ref L5), none] (holds n L5 200 (4 + 8 + 2 + 1)) (k + 1 + 1 + 1 + 1) t6 := ⟨D6, okE_keep K6 I5.env, h6⟩
  have C6 : Stab n (holds n L5 200 (4 + 8 + 2 + 1)) := stab_holds (by omega)
  have Nt6 : Near n st t6 := ⟨by have := Nt5.1; omega, fun i hi hn => (k6 i (by have := Nt5.1; omega) hn (by omega)).trans (Nt5.2 i hi hn)⟩
  have J7 : OE n [some (.ref n), some (.ref p), some (.tup T), some (.int a), some w, some (.ref L5), none] (holds n L5 200 (4 + 8 + 2 + 1)) (k + 1 + 1 + 1 + 1) (k + 1 + 1 + 1 + 1) 200 (e2 addD (e2 addD (eSl (eVar 2) oNone (oSome (eVar 3))) (eQ tupG (compF [6] (iSeqF (eSl (eVar 2) (oSome (eVar 3)) (oSome (e2 addD (eVar 3) (eC (.int 1)))))) (.name 6) bYes (eNot (eVar 6))))) (eSl (eVar 2) (oSome (e2 addD (eVar 3) (eC (.int 1)))) oNone)) :=
    od_tupE (od_add C6 (od_add C6 (sl rfl oo_none (oo_var rfl)) (nt rfl rfl (oo_var rfl) (oo_var1 rfl)) (by omega)) (sl rfl (oo_var1 rfl) oo_none) (by omega)) (by omega)
  obtain ⟨t7, ge7, h7, D7, l7, k7, K7⟩ := od_append C6 (i := 5) (L := L5) (B := 200) (by rfl) (by omega) (fun s h => h) J7 (by omega) t6 I6
  have I7 : OS n [some (.ref n), some (.ref p), some (.tup T), some (.int a), some w, some (.ref L5), none] (holds n L5 200 (4 + 8 + 2 + 1 + 1)) (k + 1 + 1 + 1 + 1) t7 := ⟨D7, okE_keep K7 I6.env, h7⟩
  have C7 : Stab n (holds n L5 200 (4 + 8 + 2 + 1 + 1)) := stab_holds (by omega)
  have Nt7 : Near n st t7 := ⟨by have := Nt6.1; omega, fun i hi hn => (k7 i (by have := Nt6.1; omega) hn (by omega)).trans (Nt6.2 i hi hn)⟩
  obtain ⟨v, t8, ge8, o8, tl8, X8⟩ := od_get C7 (i := 5) (L := L5) (B := 200) (by rfl) (fun s h => h) (od_draw (h := 0) (fc := eC (.int 16)) (by rfl) (fun s => rfl) (by omega) (by omega) (by omega)) t7 I7
  refine fin v t8 ?_ o8 tl8 (X8.dice.mono (by omega)) (Nt7.trans X8.near)
  rw [bn_cut]
  simp only [runDef_ap]
  have ee : (List.map some [D.ref n, .ref p, .tup T] ++ List.replicate (7 - [D.ref n, .ref p, .tup T].length) none : AEnv) = [some (.ref n), some (.ref p), some (.tup T), none, none, none, none] := rfl
  have q0 : bn0 [some (.ref n), some (.ref p), some (.tup T), none, none, none, none] st = _ := ge1
  have q1 : bn1 [some (.ref n), some (.ref p), some (.tup T), some (.int a), none, none, none] t1 = _ := ge2
  have q2 : bn2 [some (.ref n), some (.ref p), some (.tup T), some (.int a), some w, none, none] t2 = _ := ge3
  have q3 : bn3 [some (.ref n), some (.ref p), some (.tup T), some (.int a), some w, some (.ref L), none] t3 = _ := ge4
  have q4 : bn4 [some (.ref n), some (.ref p), some (.tup T), some (.int a), some w, some (.ref L4), none] t4 = _ := ge5
  have q5 : bn5 [some (.ref n), some (.ref p), some (.tup T), some (.int a), some w, some (.ref L5), none] t5 = _ := ge6
  have q6 : bn6 [some (.ref n), some (.ref p), some (.tup T), some (.int a), some w, some (.ref L5), none] t6 = _ := ge7
  have q7 : bn7 [some (.ref n), some (.ref p), some (.tup T), some (.int a), some w, some (.ref L5), none] t7 = .ret v t8 := by
    show sRet (e2 getD (eVar 5) (eCall m__law_draw (lCons (eVar 0) (lCons (eC (.int 16)) lNil)))) _ _ = _
    rw [sRet_ap, ge8]; rfl
  have fin2 : ∀ (r : RS), r = .ret v t8 → (match r with | .next _ st' => R.ok D.non st' | .ret d st' => .ok d st' | .exc _ x st' => .exc x st' | _ => .bad) = R.ok v t8 := fun r h => by rw [h]
  refine fin2 _ ?_
  rw [ee, sSeq_ap, q0]
  refine Eq.trans (sThen_next _ _ _) ?_
  rw [sSeq_ap]
  refine Eq.trans (congrArg (fun r => sThen r _) q1) ?_
  refine Eq.trans (sThen_next _ _ _) ?_
  rw [sSeq_ap]
  refine Eq.trans (congrArg (fun r => sThen r _) q2) ?_
  refine Eq.trans (sThen_next _ _ _) ?_
  rw [sSeq_ap]
  refine Eq.trans (congrArg (fun r => sThen r _) q3) ?_
  refine Eq.trans (sThen_next _ _ _) ?_
  rw [sSeq_ap]
  refine Eq.trans (congrArg (fun r => sThen r _) q4) ?_
  refine Eq.trans (sThen_next _ _ _) ?_
  rw [sSeq_ap]
  refine Eq.trans (congrArg (fun r => sThen r _) q5) ?_
  refine Eq.trans (sThen_next _ _ _) ?_
  rw [sSeq_ap]
  refine Eq.trans (congrArg (fun r => sThen r _) q6) ?_
  refine Eq.trans (sThen_next _ _ _) ?_
  exact q7
/-! ## judged -/
structure Wf34 (N : Nat) (rs : List Rw) (F Dn : List Fd) (l f u : Nat) (S : Store) : Prop where
  log : S[l]? = some (logO N rs)
  fnd : S[f]? = some (.lst (F.map fdD))
  den : S[u]? = some (.lst (Dn.map fdD))
theorem keepA {S X : Store} {q : Nat} {o : AO} (h : S[q]? = some o) : (S ++ X)[q]? = some o := by rw [List.getElem?_append_left (List.getElem?_eq_some_iff.mp h).1]; exact h
theorem Wf34.app {S : Store} (h : Wf34 N rs F Dn l f u S) (X : Store) : Wf34 N rs F Dn l f u (S ++ X) := ⟨keepA h.log, keepA h.fnd, keepA h.den⟩
theorem Wf34.near {S S' : Store} (h : Wf34 N rs F Dn l f u S) (hs : Near n S S') (h1 : l ≠ n) (h2 : f ≠ n) (h3 : u ≠ n) : Wf34 N rs F Dn l f u S' :=
  ⟨by rw [hs.2 l (List.getElem?_eq_some_iff.mp h.log).1 h1]; exact h.log, by rw [hs.2 f (List.getElem?_eq_some_iff.mp h.fnd).1 h2]; exact h.fnd, by rw [hs.2 u (List.getElem?_eq_some_iff.mp h.den).1 h3]; exact h.den⟩
theorem anyG_blA (bs : List Bool) (s : Store) : anyG (bs.map D.bl) s = .ok (.bl (bs.any id)) s := by
  have bo : ∀ bs : List Bool, boolsOf (bs.map D.bl) = some bs := fun bs => by
    induction bs with
    | nil => rfl
    | cons b bs ih => simp [boolsOf, ih]
  simp [anyG, bo]
theorem any_untrueA : ((Dn.map fun f => decide ((ledS N rs fs f.m).getD f.o 0 = (f.e : Int))).any id) = !(Dn.all fun d => !trueB N rs fs [d]) := by
  rw [List.any_map, List.not_all_eq_any_not]
  congr 1
  funext d
  simp [trueB]
theorem gc_lst2 {S X : Store} {a b : Bool} : gcH S (.ok (.ref (S ++ X).length) (S ++ X ++ [.lst [.bl a, .bl b]])) = .ok (.ref S.length) (S ++ [.lst [.bl a, .bl b]]) := by
  have e : S ++ X ++ [AO.lst [.bl a, .bl b]] = S ++ (X ++ [.lst [.bl a, .bl b]]) := by simp
  rw [e]
  exact gcR_new (ds := [.bl a, .bl b]) (X ++ [.lst [.bl a, .bl b]]) [] (by rfl) (S ++ X).length (by rw [← e]; simp) (by simp)
noncomputable def du0 : SF := (sIf (bNot (bTru (eCall m__law_is_doing (lCons (eVar 1) (lCons (eVar 4) lNil))))) (sRet (eLst (lLst (lCons (eC (.bl false)) (lCons (eC (.bl false)) lNil))))) sNil)
noncomputable def du1l : LF := (lDrop (eCall m__law_led (lCons (eVar 0) (lCons (eVar 1) (lCons (eVar 4) lNil)))))
noncomputable def du1 : SF := (sSet 5 (eLst du1l))
noncomputable def du2e : EF := (eQ allG (compF [7, 8, 9] (iSeqF (eVar 2)) (.tup [(.name 7), (.name 8), (.name 9)]) bYes (e2 eqD (e2 getD (e2 getD (eVar 5) (eVar 7)) (eVar 8)) (eVar 9))))
noncomputable def du2 : SF := (sSet 6 du2e)
noncomputable def du3e : EF := (eLst (lLst (lCons (eVar 6) (lCons (eAnd (eVar 6) (eNot (eQ anyG (compF [7, 8, 9] (iSeqF (eVar 3)) (.tup [(.name 7), (.name 8), (.name 9)]) bYes (e2 eqD (e2 getD (e2 getD (eVar 5) (eVar 7)) (eVar 8)) (eVar 9)))))) lNil))))
noncomputable def du3 : SF := (sRet du3e)
theorem du_cut : m__law_due = runDef 10 (sSeq du0 (sSeq du1 (sSeq du2 du3))) := m__law_due_eq
theorem law_due_yes {S : Store} {fr : LF} {env : AEnv} (hp : Par N rs F) (hpD : Par N rs Dn) (w : Wf34 N rs F Dn l f u S) (ho : doOk rs fs) (hf : fr env S = .ok [.int N, .tup (rs.map rwD), .ref f, .ref u, .tup (fs.map D.bl)] S) :
    lDrop (eCall m__law_due fr) env S = .ok [.bl (trueB N rs fs F), .bl (trueB N rs fs F && Dn.all fun d => !trueB N rs fs [d])] S := by
  have hM := hp.mM
  have z2 : 2 ≤ sizeLine := szl (by omega)
  have hl := doOk_len ho
  have hj := law_is_doing_b (st := S) (by omega) hl
  rw [(doB_iff hl).mpr ho] at hj
  obtain ⟨x, hx⟩ := law_ledF_ok (st := S) hp.n12 (by omega) hp.hrs ho
  have ld : lDrop (eCall m__law_led (lCons (eVar 0) (lCons (eVar 1) (lCons (eVar 4) lNil)))) [some (.int N), some (.tup (rs.map rwD)), some (.ref f), some (.ref u), some (.tup (fs.map D.bl)), none, none, none, none, none] S = .ok (ledL N rs fs (rs.length + 1)) S :=
    lDrop_call (as := [.int N, .tup (rs.map rwD), .tup (fs.map D.bl)]) (by simp) hx (Nat.le_refl _) (by simp) (ledL_closed _ _)
  obtain ⟨S1, hS1⟩ : ∃ S1, S1 = S ++ [AO.lst (ledL N rs fs (rs.length + 1))] := ⟨_, rfl⟩
  have w1 : Wf34 N rs F Dn l f u S1 := by rw [hS1]; exact w.app _
  have hq : S1[S.length]? = some (.lst (ledL N rs fs (rs.length + 1))) := by rw [hS1]; simp
  have tc := true_comp (a := 7) (b := 2) (q := S.length) (fs := fs) (st := S1) (env := [some (.int N), some (.tup (rs.map rwD)), some (.ref f), some (.ref u), some (.tup (fs.map D.bl)), some (.ref S.length), none, none, none, none]) (fe := eVar 5) hp.hrs hp.hF (by have := hp.f40; omega) (.inr ⟨f, rfl, w1.fnd⟩) (fun x y z => by simp) (by simp) (by simp) hq (by simp)
  have tc2 := true_comp (a := 7) (b := 3) (q := S.length) (fs := fs) (st := S1) (env := [some (.int N), some (.tup (rs.map rwD)), some (.ref f), some (.ref u), some (.tup (fs.map D.bl)), some (.ref S.length), some (.bl (trueB N rs fs F)), none, none, none]) (fe := eVar 5) hpD.hrs hpD.hF (by have := hpD.f40; omega) (.inr ⟨u, rfl, w1.den⟩) (fun x y z => by simp) (by simp) (by simp) hq (by simp)
  have q0 : du0 [some (.int N), some (.tup (rs.map rwD)), some (.ref f), some (.ref u), some (.tup (fs.map D.bl)), none, none, none, none, none] S = .next [some (.int N), some (.tup (rs.map rwD)), some (.ref f), some (.ref u), some (.tup (fs.map D.bl)), none, none, none, none, none] S := by
    unfold du0
    generalize fs.map D.bl = T at *
    simp [hj]
  have q1 : du1 [some (.int N), some (.tup (rs.map rwD)), some (.ref f), some (.ref u), some (.tup (fs.map D.bl)), none, none, none, none, none] S = .next [some (.int N), some (.tup (rs.map rwD)), some (.ref f), some (.ref u), some (.tup (fs.map D.bl)), some (.ref S.length), none, none, none, none] S1 := by
    unfold du1 du1l
    rw [sSet_ap, eLst_ap, ld, hS1]
    rfl
  have q2 : du2 [some (.int N), some (.tup (rs.map rwD)), some (.ref f), some (.ref u), some (.tup (fs.map D.bl)), some (.ref S.length), none, none, none, none] S1 = .next [some (.int N), some (.tup (rs.map rwD)), some (.ref f), some (.ref u), some (.tup (fs.map D.bl)), some (.ref S.length), some (.bl (trueB N rs fs F)), none, none, none] S1 := by
    unfold du2 du2e
    rw [sSet_ap, eQ_ap, tc, R.bind_ok, allG_bls, trueB_all]
    rfl
  have q3 : du3 [some (.int N), some (.tup (rs.map rwD)), some (.ref f), some (.ref u), some (.tup (fs.map D.bl)), some (.ref S.length), some (.bl (trueB N rs fs F)), none, none, none] S1 = .ret (.ref S1.length) (S1 ++ [.lst [.bl (trueB N rs fs F), .bl (trueB N rs fs F && Dn.all fun d => !trueB N rs fs [d])]]) := by
    have an : eNot (eQ anyG (compF [7, 8, 9] (iSeqF (eVar 3)) (.tup [(.name 7), (.name 8), (.name 9)]) bYes (e2 eqD (e2 getD (e2 getD (eVar 5) (eVar 7)) (eVar 8)) (eVar 9)))) [some (.int N), some (.tup (rs.map rwD)), some (.ref f), some (.ref u), some (.tup (fs.map D.bl)), some (.ref S.length), some (.bl (trueB N rs fs F)), none, none, none] S1 = .ok (.bl (Dn.all fun d => !trueB N rs fs [d])) S1 := by
      rw [eNot_ap, eQ_ap, tc2, R.bind_ok, anyG_blA, any_untrueA]
      simp
    unfold du3 du3e
    generalize fs.map D.bl = T at *
    generalize (Dn.all fun d => !trueB N rs fs [d]) = b at *
    cases ht : trueB N rs fs F
    · simp [okIf_pos z2]
    · rw [ht] at an
      revert an
      generalize eNot (eQ anyG (compF [7, 8, 9] (iSeqF (eVar 3)) (.tup [(.name 7), (.name 8), (.name 9)]) bYes (e2 eqD (e2 getD (e2 getD (eVar 5) (eVar 7)) (eVar 8)) (eVar 9)))) = NE
      intro an
      simp [an, okIf_pos z2]
  have e1 : m__law_due [.int N, .tup (rs.map rwD), .ref f, .ref u, .tup (fs.map D.bl)] S = .ok (.ref S1.length) (S1 ++ [.lst [.bl (trueB N rs fs F), .bl (trueB N rs fs F && Dn.all fun d => !trueB N rs fs [d])]]) := by
    have fin2 : ∀ (r : RS) {v : D} {t8 : Store}, r = .ret v t8 → (match r with | .next _ st' => R.ok D.non st' | .ret d st' => .ok d st' | .exc _ x st' => .exc x st' | _ => .bad) = R.ok v t8 := fun r _ _ h => by rw [h]
    rw [du_cut]
    simp only [runDef_ap]
    refine fin2 _ ?_
    have ee : (List.map some [D.int N, .tup (rs.map rwD), .ref f, .ref u, .tup (fs.map D.bl)] ++ List.replicate (10 - [D.int N, .tup (rs.map rwD), .ref f, .ref u, .tup (fs.map D.bl)].length) none : AEnv) = [some (.int N), some (.tup (rs.map rwD)), some (.ref f), some (.ref u), some (.tup (fs.map D.bl)), none, none, none, none, none] := rfl
    rw [ee, sSeq_ap, q0, sThen_next, sSeq_ap, q1, sThen_next, sSeq_ap, q2, sThen_next, q3]
  refine lDrop_ok ?_ (by rfl)
  rw [eCall_ap, hf, R.bind_ok, e1, hS1]
  exact gc_lst2
theorem law_due_no {S : Store} {fr : LF} {env : AEnv} {a1 a2 : D} (hM : rs.length ≤ 2000) (ok : okT S d = true) (hz : tupLe 10000 d) (hno : ¬ doAny rs d) (hf : fr env S = .ok [.int N, .tup (rs.map rwD), a1, a2, d] S) :
    lDrop (eCall m__law_due fr) env S = .ok [.bl false, .bl false] S := by
  have z2 : 2 ≤ sizeLine := szl (by omega)
  have hj := law_is_doing_any hM ok hz hno
  have e1 : m__law_due [.int N, .tup (rs.map rwD), a1, a2, d] S = .ok (.ref S.length) (S ++ [.lst [.bl false, .bl false]]) := by
    rw [m__law_due_eq]
    simp [hj, okIf_pos z2]
  refine lDrop_ok ?_ (by rfl)
  rw [eCall_ap, hf, R.bind_ok, e1]
  have := gc_lst2 (S := S) (X := []) (a := false) (b := false)
  simpa using this
open Classical in
theorem judge (hp : Par N rs F) (hpD : Par N rs Dn) (h3 : Dn.length ≤ 3) (hz : tupLe 200 d) : ∃ a b : Bool,
    (∀ (S : Store) (fr : LF) (env : AEnv), Wf34 N rs F Dn l f u S → okT S d = true → fr env S = .ok [.int N, .tup (rs.map rwD), .ref f, .ref u, d] S → lDrop (eCall m__law_due fr) env S = .ok [.bl a, .bl b] S) ∧
    (∀ S, Wf34 N rs F Dn l f u S → okT S d = true → gcH S (m_is_doing_for [.ref l, .ref f, d] S) = .ok (.bl a) S) ∧
    (∀ S, Wf34 N rs F Dn l f u S → okT S d = true → gcH S (m_is_doing_but [.ref l, .ref f, .ref u, d] S) = .ok (.bl b) S) := by
  have hM := hp.mM
  by_cases hy : doAny rs d
  · obtain ⟨fs, rfl, ho⟩ := hy
    have hl := doOk_len ho
    refine ⟨_, _, fun S fr env w ok hf => law_due_yes hp hpD w ho hf, fun S w ok => ?_, fun S w ok => is_doing_but_ok hp hpD.hF h3 w.log (.inr ⟨f, rfl, w.fnd⟩) (.inr ⟨u, rfl, w.den⟩) ho⟩
    have := is_doing_for_ok (fs := fs) hp w.log (.inr ⟨f, rfl, w.fnd⟩) hl
    rw [(doB_iff hl).mpr ho, Bool.true_and] at this
    exact this
  · have hz' : tupLe 10000 d := tl_mono hz (by omega)
    refine ⟨false, false, fun S fr env w ok hf => law_due_no (by omega) ok hz' hy hf, fun S w ok => ?_, fun S w ok => ?_⟩
    · have e1 := is_doing_any w.log (by omega) ok hz' hy
      rw [m_is_doing_for_eq]
      simp [check_finds_ok hp w.log (.inr ⟨f, rfl, w.fnd⟩), e1]
    · have e1 := is_doing_any w.log (by omega) ok hz' hy
      rw [m_is_doing_but_eq]
      simp [check_finds_ok hp w.log (.inr ⟨f, rfl, w.fnd⟩), check_denials_ok hpD h3 w.log (.inr ⟨u, rfl, w.den⟩), e1]
noncomputable def lw0e : EF := (eCall m__law_hand (lCons (eVar 0) lNil))
noncomputable def lw0 : SF := (sSet 1 lw0e)
noncomputable def lw1_0e : EF := (e2 addD (eC (.int 1)) (eCall m__law_draw (lCons (eVar 1) (lCons (eC (.int 6)) lNil))))
noncomputable def lw1_0 : SF := (sSet 3 lw1_0e)
noncomputable def lw1_1e : EF := (eCall m__law_rows (lCons (eVar 1) (lCons (eVar 3) (lCons (eC (.int 8)) (lCons (eC (.int 3)) lNil)))))
noncomputable def lw1_1 : SF := (sSet 4 lw1_1e)
noncomputable def lw1_2l : LF := (lDrop (eCall m__law_finds (lCons (eVar 1) (lCons (eVar 3) (lCons (eVar 4) (lCons (eC (.int 4)) (lCons (eC (.int 12)) lNil)))))))
noncomputable def lw1_2 : SF := (sSet 5 (eLst lw1_2l))
noncomputable def lw1_3l : LF := (lDrop (eCall m__law_finds (lCons (eVar 1) (lCons (eVar 3) (lCons (eVar 4) (lCons (eC (.int 3)) (lCons (eC (.int 2)) lNil)))))))
noncomputable def lw1_3 : SF := (sSet 6 (eLst lw1_3l))
noncomputable def lw1_4e : EF := (eMake "Log" m_Log__init (lCons (eVar 3) (lCons (eVar 4) lNil)))
noncomputable def lw1_4 : SF := (sSet 7 lw1_4e)
noncomputable def lw1_5e : EF := (eCall m_doing_for (lCons (eVar 7) (lCons (eVar 5) lNil)))
noncomputable def lw1_5 : SF := (sSet 8 lw1_5e)
noncomputable def lw1_6_0e : EF := (eCall m__law_some_doing (lCons (eVar 1) (lCons (eVar 4) lNil)))
noncomputable def lw1_6_0 : SF := (sSet 10 lw1_6_0e)
noncomputable def lw1_6_1 : SF := (sIf (bAnd (bB (e2 notND (eVar 8) (eC .non))) (bB (e2 gtD (eCall m__law_draw (lCons (eVar 1) (lCons (eC (.int 3)) lNil))) (eC (.int 0))))) (sSet 10 (eVar 8)) sNil)
noncomputable def lw1_6_2e : EF := (eVar 10)
noncomputable def lw1_6_2 : SF := (sSet 11 lw1_6_2e)
noncomputable def lw1_6_3 : SF := (sIf (bB (e2 gtD (eCall m__law_draw (lCons (eVar 1) (lCons (eC (.int 4)) lNil))) (eC (.int 0)))) (sSet 11 (eCall m__law_bent (lCons (eVar 1) (lCons (eVar 7) (lCons (eVar 10) lNil))))) sNil)
noncomputable def lw1_6_4l : LF := (lDrop (eCall m__law_due (lCons (eVar 3) (lCons (eVar 4) (lCons (eVar 5) (lCons (eVar 6) (lCons (eVar 11) lNil)))))))
noncomputable def lw1_6_4 : SF := (sSet 12 (eLst lw1_6_4l))
noncomputable def lw1_6_5 : SF := (sIf (bNot (bTru (eCall m__law_flag (lCons (eCall m_is_doing_for (lCons (eVar 7) (lCons (eVar 5) (lCons (eVar 11) lNil)))) (lCons (e2 getD (eVar 12) (eC (.int 0))) lNil))))) (sRet (eC (.bl false))) sNil)
noncomputable def lw1_6_6 : SF := (sIf (bNot (bTru (eCall m__law_flag (lCons (eCall m_is_doing_but (lCons (eVar 7) (lCons (eVar 5) (lCons (eVar 6) (lCons (eVar 11) lNil))))) (lCons (e2 getD (eVar 12) (eC (.int 1))) lNil))))) (sRet (eC (.bl false))) sNil)
noncomputable def lw1_6b : SF := (sSeq lw1_6_0 (sSeq lw1_6_1 (sSeq lw1_6_2 (sSeq lw1_6_3 (sSeq lw1_6_4 (sSeq lw1_6_5 lw1_6_6))))))
noncomputable def lw1_6 : SF := (sFor (.name 9) (iRng1F (lCons (eC (.int 6)) lNil)) lw1_6b)
noncomputable def lw1b : SF := (sSeq lw1_0 (sSeq lw1_1 (sSeq lw1_2 (sSeq lw1_3 (sSeq lw1_4 (sSeq lw1_5 lw1_6))))))
noncomputable def lw1 : SF := (sFor (.name 2) (iRng1F (lCons (eC (.int 4)) lNil)) lw1b)
noncomputable def lw2e : EF := (eC (.bl true))
noncomputable def lw2 : SF := (sRet lw2e)
theorem lw_cut : m_law = runDef 13 (sSeq lw0 (sSeq lw1 lw2)) := m_law_eq
/-- one judged thing -/
theorem turn_ok {S : Store} {o0 o2 o9 o10 o11 o12 : Option D} {got : D} (hp : Par N rs F) (hpD : Par N rs Dn) (h3 : Dn.length ≤ 3) (hM : rs.length ≤ 60) (hg : got = .non ∨ ∃ gs : List Bool, got = .tup (gs.map D.bl) ∧ gs.length ≤ 60)
    (D0 : Dice n k S) (hk : k < 9000) (w : Wf34 N rs F Dn l f u S) (h1 : l ≠ n) (h2 : f ≠ n) (h4 : u ≠ n) :
    ∃ p10 p11 p12 S', lw1_6b [o0, some (.ref n), o2, some (.int N), some (.tup (rs.map rwD)), some (.ref f), some (.ref u), some (.ref l), some got, o9, o10, o11, o12] S = .next [o0, some (.ref n), o2, some (.int N), some (.tup (rs.map rwD)), some (.ref f), some (.ref u), some (.ref l), some got, o9, p10, p11, p12] S' ∧ Dice n (k + rs.length + 20) S' ∧ Wf34 N rs F Dn l f u S' := by
  obtain ⟨gs, t1, hs, ho, D1, S1⟩ := some_doing_ok (rs := rs) D0 (by omega) (by omega)
  have hgl := doOk_len ho
  have q0 : lw1_6_0 [o0, some (.ref n), o2, some (.int N), some (.tup (rs.map rwD)), some (.ref f), some (.ref u), some (.ref l), some got, o9, o10, o11, o12] S = .next [o0, some (.ref n), o2, some (.int N), some (.tup (rs.map rwD)), some (.ref f), some (.ref u), some (.ref l), some got, o9, some (.tup (gs.map D.bl)), o11, o12] t1 := by
    unfold lw1_6_0 lw1_6_0e
    generalize gs.map D.bl = T at *
    simp [hs]
  have q1 : ∃ (es : List Bool) (t2 : Store), es.length ≤ 60 ∧ lw1_6_1 [o0, some (.ref n), o2, some (.int N), some (.tup (rs.map rwD)), some (.ref f), some (.ref u), some (.ref l), some got, o9, some (.tup (gs.map D.bl)), o11, o12] t1 = .next [o0, some (.ref n), o2, some (.int N), some (.tup (rs.map rwD)), some (.ref f), some (.ref u), some (.ref l), some got, o9, some (.tup (es.map D.bl)), o11, o12] t2 ∧ Dice n (k + rs.length + 1) t2 ∧ Near n S t2 := by
    rcases hg with rfl | ⟨es, rfl, hes⟩
    · refine ⟨gs, t1, by omega, ?_, D1.mono (by omega), S1.near⟩
      unfold lw1_6_1
      generalize gs.map D.bl = T at *
      simp
    · obtain ⟨z, t2, hz, z0, z1, D2, S2⟩ := draw_ok (s := 3) D1 (by omega) (by omega) (by omega)
      by_cases c : 0 < z
      · refine ⟨es, t2, hes, ?_, D2, S1.near.trans S2.near⟩
        unfold lw1_6_1
        generalize gs.map D.bl = T at *
        generalize es.map D.bl = T2 at *
        simp [hz, c, isNonD]
      · refine ⟨gs, t2, by omega, ?_, D2, S1.near.trans S2.near⟩
        unfold lw1_6_1
        generalize gs.map D.bl = T at *
        generalize es.map D.bl = T2 at *
        simp [hz, c, isNonD]
  obtain ⟨es, t2, hes, q1, D2, N2⟩ := q1
  have q2 : lw1_6_2 [o0, some (.ref n), o2, some (.int N), some (.tup (rs.map rwD)), some (.ref f), some (.ref u), some (.ref l), some got, o9, some (.tup (es.map D.bl)), o11, o12] t2 = .next [o0, some (.ref n), o2, some (.int N), some (.tup (rs.map rwD)), some (.ref f), some (.ref u), some (.ref l), some got, o9, some (.tup (es.map D.bl)), some (.tup (es.map D.bl)), o12] t2 := by
    unfold lw1_6_2 lw1_6_2e
    generalize es.map D.bl = T at *
    simp
  have w2 := w.near N2 h1 h2 h4
  obtain ⟨z, t3, hz, z0, z1, D3, S3⟩ := draw_ok (s := 4) D2 (by omega) (by omega) (by omega)
  have w3 := w2.near S3.near h1 h2 h4
  have q3 : ∃ (d : D) (t4 : Store), lw1_6_3 [o0, some (.ref n), o2, some (.int N), some (.tup (rs.map rwD)), some (.ref f), some (.ref u), some (.ref l), some got, o9, some (.tup (es.map D.bl)), some (.tup (es.map D.bl)), o12] t2 = .next [o0, some (.ref n), o2, some (.int N), some (.tup (rs.map rwD)), some (.ref f), some (.ref u), some (.ref l), some got, o9, some (.tup (es.map D.bl)), some d, o12] t4 ∧ okT t4 d = true ∧ tupLe 200 d ∧ Dice n (k + rs.length + 12) t4 ∧ Wf34 N rs F Dn l f u t4 := by
    by_cases c : 0 < z
    · obtain ⟨d, t4, hb, ok, tl, D4, N4⟩ := bent_ok D3 (by omega) w3.log hes
      refine ⟨d, t4, ?_, ok, tl, D4.mono (by omega), w3.near N4 h1 h2 h4⟩
      unfold lw1_6_3
      generalize es.map D.bl = T at *
      simp [hz, c, hb]
    · refine ⟨.tup (es.map D.bl), t3, ?_, ok_bls es, tl_of (by rw [List.length_map]; omega), D3.mono (by omega), w3⟩
      unfold lw1_6_3
      generalize es.map D.bl = T at *
      simp [hz, c]
  obtain ⟨d, t4, q3, ok4, tl, D4, w4⟩ := q3
  obtain ⟨a, b, j1, j2, j3⟩ := judge (l := l) (f := f) (u := u) hp hpD h3 tl
  have e4 := j1 t4 (lCons (eVar 3) (lCons (eVar 4) (lCons (eVar 5) (lCons (eVar 6) (lCons (eVar 11) lNil))))) [o0, some (.ref n), o2, some (.int N), some (.tup (rs.map rwD)), some (.ref f), some (.ref u), some (.ref l), some got, o9, some (.tup (es.map D.bl)), some d, o12] w4 ok4 (by simp)
  have w5 := w4.app [.lst [.bl a, .bl b]]
  have ok5 := okT_keep (keeps_app (st := t4) [AO.lst [.bl a, .bl b]]) d ok4
  have g2 := j2 _ w5 ok5
  have g3 := j3 _ w5 ok5
  have fl : ∀ (x : Bool) (s : Store), gcH s (m__law_flag [.bl x, .bl x] s) = .ok (.bl true) s := fun x s => by
    have : m__law_flag [.bl x, .bl x] s = .ok (.bl true) s := by
      rw [m__law_flag_eq]
      simp [subT]
    rw [this]
    exact gcR_same rfl
  have ga : ∀ S : Store, getD (.ref S.length) (.int 0) (S ++ [.lst [.bl a, .bl b]]) = .ok (.bl a) (S ++ [.lst [.bl a, .bl b]]) := fun S => getD_r (k := 0) oAt0 rfl rfl
  have gb : ∀ S : Store, getD (.ref S.length) (.int 1) (S ++ [.lst [.bl a, .bl b]]) = .ok (.bl b) (S ++ [.lst [.bl a, .bl b]]) := fun S => getD_r (k := 1) oAt0 rfl rfl
  refine ⟨some (.tup (es.map D.bl)), some d, some (.ref t4.length), t4 ++ [.lst [.bl a, .bl b]], ?_, (D4.app _).mono (by omega), w5⟩
  have q4 : lw1_6_4 [o0, some (.ref n), o2, some (.int N), some (.tup (rs.map rwD)), some (.ref f), some (.ref u), some (.ref l), some got, o9, some (.tup (es.map D.bl)), some d, o12] t4 = .next [o0, some (.ref n), o2, some (.int N), some (.tup (rs.map rwD)), some (.ref f), some (.ref u), some (.ref l), some got, o9, some (.tup (es.map D.bl)), some d, some (.ref t4.length)] (t4 ++ [.lst [.bl a, .bl b]]) := by
    unfold lw1_6_4 lw1_6_4l
    rw [sSet_ap, eLst_ap, e4]
    rfl
  have q5 : lw1_6_5 [o0, some (.ref n), o2, some (.int N), some (.tup (rs.map rwD)), some (.ref f), some (.ref u), some (.ref l), some got, o9, some (.tup (es.map D.bl)), some d, some (.ref t4.length)] (t4 ++ [.lst [.bl a, .bl b]]) = .next [o0, some (.ref n), o2, some (.int N), some (.tup (rs.map rwD)), some (.ref f), some (.ref u), some (.ref l), some got, o9, some (.tup (es.map D.bl)), some d, some (.ref t4.length)] (t4 ++ [.lst [.bl a, .bl b]]) := by
    unfold lw1_6_5
    generalize es.map D.bl = T at *
    simp [g2, ga, fl]
  have q6 : lw1_6_6 [o0, some (.ref n), o2, some (.int N), some (.tup (rs.map rwD)), some (.ref f), some (.ref u), some (.ref l), some got, o9, some (.tup (es.map D.bl)), some d, some (.ref t4.length)] (t4 ++ [.lst [.bl a, .bl b]]) = .next [o0, some (.ref n), o2, some (.int N), some (.tup (rs.map rwD)), some (.ref f), some (.ref u), some (.ref l), some got, o9, some (.tup (es.map D.bl)), some d, some (.ref t4.length)] (t4 ++ [.lst [.bl a, .bl b]]) := by
    unfold lw1_6_6
    generalize es.map D.bl = T at *
    simp [g3, gb, fl]
  unfold lw1_6b
  rw [sSeq_ap, q0, sThen_next, sSeq_ap, q1, sThen_next, sSeq_ap, q2, sThen_next, sSeq_ap, q3, sThen_next, sSeq_ap, q4, sThen_next, sSeq_ap, q5, sThen_next, q6]
theorem six_ok {S : Store} {o0 o2 o9 o10 o11 o12 : Option D} {got : D} (hp : Par N rs F) (hpD : Par N rs Dn) (h3 : Dn.length ≤ 3) (hM : rs.length ≤ 8) (hg : got = .non ∨ ∃ gs : List Bool, got = .tup (gs.map D.bl) ∧ gs.length ≤ 60)
    (D0 : Dice n k S) (hk : k < 8000) (w : Wf34 N rs F Dn l f u S) (h1 : l ≠ n) (h2 : f ≠ n) (h4 : u ≠ n) :
    ∃ p9 p10 p11 p12 S', lw1_6 [o0, some (.ref n), o2, some (.int N), some (.tup (rs.map rwD)), some (.ref f), some (.ref u), some (.ref l), some got, o9, o10, o11, o12] S = .next [o0, some (.ref n), o2, some (.int N), some (.tup (rs.map rwD)), some (.ref f), some (.ref u), some (.ref l), some got, p9, p10, p11, p12] S' ∧ Dice n (k + 200) S' := by
  have rg : ∀ s, rngR1 6 s = .ok (rangeD 0 6, []) s := fun s => rngR1_eq (n := 6) rfl (by omega)
  unfold lw1_6
  simp [rg]
  generalize hq : loopF _ _ _ _ _ _ = r
  obtain ⟨e, s', rfl, p9, p10, p11, p12, rfl, Dr, _⟩ := loopF_next hq (fun i env s => ∃ p9 p10 p11 p12, env = [o0, some (.ref n), o2, some (.int N), some (.tup (rs.map rwD)), some (.ref f), some (.ref u), some (.ref l), some got, p9, p10, p11, p12] ∧ Dice n (k + 30 * i) s ∧ Wf34 N rs F Dn l f u s) ⟨o9, o10, o11, o12, rfl, D0.mono (by omega), w⟩ fun i d env s hI hd => by
    obtain ⟨p9, p10, p11, p12, rfl, Di, wi⟩ := hI
    obtain ⟨rfl, hi⟩ := rangeD_get' hd
    obtain ⟨q10, q11, q12, S', e, DS, wS⟩ := turn_ok (o0 := o0) (o2 := o2) (o9 := some (.int (i : Int))) (o10 := p10) (o11 := p11) (o12 := p12) hp hpD h3 (by omega) hg Di (by omega) wi h1 h2 h4
    exact ⟨_, asgT_name _ _ _, _, _, .inl e, by simp, _, _, _, _, rfl, DS.mono (by omega), wS⟩
  rw [rangeD_lenS] at Dr
  exact ⟨_, _, _, _, _, rfl, Dr.mono (by omega)⟩
theorem law_thm : ∀ ns : List Int, ns.length ≤ 63 → ∃ st', m_law [.ref 0] [.rol (ns.map D.int)] = .ok (.bl true) st' := by
  intro ns hn
  obtain ⟨st0, hh, D0⟩ := hand_ok ns (by omega)
  have rg4 : ∀ s, rngR1 4 s = .ok (rangeD 0 4, []) s := fun s => rngR1_eq (n := 4) rfl (by omega)
  rw [lw_cut]
  unfold lw0 lw0e lw1 lw2 lw2e
  simp [hh, rg4]
  generalize hq : loopF _ _ _ _ _ _ = r
  obtain ⟨e, s', rfl, o2, o3, o4, o5, o6, o7, o8, o9, o10, o11, o12, rfl, _⟩ := loopF_next hq (fun i env s => ∃ o2 o3 o4 o5 o6 o7 o8 o9 o10 o11 o12, env = [some (.ref 0), some (.ref 2), o2, o3, o4, o5, o6, o7, o8, o9, o10, o11, o12] ∧ Dice 2 (500 * i) s) ⟨none, none, none, none, none, none, none, none, none, none, none, rfl, D0.mono (by omega)⟩ fun i d env s hI hd => by
    obtain ⟨o2, o3, o4, o5, o6, o7, o8, o9, o10, o11, o12, rfl, hD⟩ := hI
    obtain ⟨rfl, hi⟩ := rangeD_get' hd
    refine ⟨_, asgT_name _ _ _, ?_⟩
    obtain ⟨z, s1, hz, z0, z1, D1, _⟩ := draw_ok (s := 6) hD (by omega) (by omega) (by omega)
    obtain ⟨N, hN⟩ : ∃ N : Nat, 1 + z = N := ⟨(1 + z).toNat, by omega⟩
    obtain ⟨rows, s4, hr, hrd, hrl, D4, _⟩ := rows_d_ok (N := N) (M := 8) (share := 3) D1 (by omega) (by omega) (by omega) (by omega)
    obtain ⟨rs, rfl, hrs⟩ := rowsD_rw hrd
    have hrl : rs.length ≤ 8 := by simpa using hrl
    obtain ⟨F, s5, hF, hFd, hFl, D5, _⟩ := finds_ok (most := 4) (odd := 12) (st := s4) (n := 2) (rs := rs) (N := N) (fr := lCons (eVar 1) (lCons (eVar 3) (lCons (eVar 4) (lCons (eC (.int 4)) (lCons (eC (.int 12)) lNil))))) (env := [some (.ref 0), some (.ref 2), some (.int i), some (.int N), some (.tup (rs.map rwD)), o5, o6, o7, o8, o9, o10, o11, o12]) (by simp) D4 (by omega) (by omega) (by omega) (by omega) hrs (by omega) (by omega) (by omega)
    have D5a := D5.app [.lst (F.map fdD)]
    obtain ⟨Dn, s6, hDn, hDd, hDl, D6, S6⟩ := finds_ok (most := 3) (odd := 2) (st := s5 ++ [.lst (F.map fdD)]) (n := 2) (rs := rs) (N := N) (fr := lCons (eVar 1) (lCons (eVar 3) (lCons (eVar 4) (lCons (eC (.int 3)) (lCons (eC (.int 2)) lNil))))) (env := [some (.ref 0), some (.ref 2), some (.int i), some (.int N), some (.tup (rs.map rwD)), some (.ref s5.length), o6, o7, o8, o9, o10, o11, o12]) (by simp) D5a (by omega) (by omega) (by omega) (by omega) hrs (by omega) (by omega) (by omega)
    have l5 := D5.lt
    have hf6 : s6[s5.length]? = some (.lst (F.map fdD)) := by rw [S6.2 s5.length (by omega)]; simp
    have l6 := (List.getElem?_eq_some_iff.mp hf6).1
    have hp : Par N rs F := ⟨by omega, by omega, by omega, hrs, hFd, by omega⟩
    have hpD : Par N rs Dn := ⟨by omega, by omega, by omega, hrs, hDd, by omega⟩
    obtain ⟨S7, hS7⟩ : ∃ S7, S7 = s6 ++ [AO.lst (Dn.map fdD)] := ⟨_, rfl⟩
    have hu7 : S7[s6.length]? = some (.lst (Dn.map fdD)) := by rw [hS7]; simp
    have hf7 : S7[s5.length]? = some (.lst (F.map fdD)) := by rw [hS7]; exact keepA hf6
    have D7 : Dice 2 _ S7 := hS7 ▸ D6.app [.lst (Dn.map fdD)]
    have mk : eMake "Log" m_Log__init (lCons (eVar 3) (lCons (eVar 4) lNil)) [some (.ref 0), some (.ref 2), some (.int i), some (.int N), some (.tup (rs.map rwD)), some (.ref s5.length), some (.ref s6.length), o7, o8, o9, o10, o11, o12] S7 = .ok (.ref S7.length) (S7 ++ [logO N rs]) := log_make (by simp) (by omega) (by omega) (by omega) hrs
    have l7 : s6.length < S7.length := (List.getElem?_eq_some_iff.mp hu7).1
    have w8 : Wf34 N rs F Dn S7.length s5.length s6.length (S7 ++ [logO N rs]) := ⟨by simp, keepA hf7, keepA hu7⟩
    have D8 := D7.app [logO N rs]
    obtain ⟨got, hdo, hgot⟩ := doing_for_ok hp w8.log (.inr ⟨s5.length, rfl, w8.fnd⟩)
    have hg : got = .non ∨ ∃ gs : List Bool, got = .tup (gs.map D.bl) ∧ gs.length ≤ 60 := by
      rcases hgot with ⟨C, _, rfl⟩ | ⟨_, rfl⟩
      · exact .inr ⟨_, rfl, by rw [doC_len]; omega⟩
      · exact .inl rfl
    obtain ⟨p9, p10, p11, p12, S', ht, DT⟩ := six_ok (o0 := some (.ref 0)) (o2 := some (.int i)) (o9 := o9) (o10 := o10) (o11 := o11) (o12 := o12) hp hpD (by omega) hrl hg D8 (by omega) w8 (by omega) (by omega) (by omega)
    have hr8 : gcH s1 (m__law_rows [.ref 2, .int N, .int 8, .int 3] s1) = .ok (.tup (rs.map rwD)) s4 := hr
    refine ⟨_, _, .inl ?_, by simp, some (.int i), some (.int N), some (.tup (rs.map rwD)), some (.ref s5.length), some (.ref s6.length), some (.ref S7.length), some got, p9, p10, p11, p12, rfl, DT.mono (by omega)⟩
    unfold lw1b lw1_0 lw1_0e lw1_1 lw1_1e lw1_2 lw1_2l lw1_3 lw1_3l lw1_4 lw1_4e lw1_5 lw1_5e
    simp [hz, hN, hr8, hF, hDn, ← hS7, mk, hdo, ht]
  exact ⟨s', by simp⟩
end TK

set_option Elab.async false
set_option linter.all false
set_option maxRecDepth 100000
set_option maxHeartbeats 4000000
namespace TK
open PySem PySem.Spec
open PyProof.Rows hiding St
open L2
def tops (i : Nat) : Stmt := PySem.Challenge.pw_takenover_k34_doings_for_finds_judged.main.body.getD i (.Pass ⟨0, 0, 0, 0⟩)
abbrev s_is_integer : Stmt := tops 8
theorem sc_is_integer : FnScope ["thing"] ["thing"] (defScope s_is_integer) := ⟨rfl, rfl, rfl, by decide +kernel, rfl, by decide +kernel, by decide +kernel⟩
abbrev s_is_within : Stmt := tops 9
theorem sc_is_within : FnScope ["thing", "least", "most"] ["thing", "least", "most"] (defScope s_is_within) := ⟨rfl, rfl, rfl, by decide +kernel, rfl, by decide +kernel, by decide +kernel⟩
abbrev s_is_triple : Stmt := tops 11
theorem sc_is_triple : FnScope ["thing"] ["thing"] (defScope s_is_triple) := ⟨rfl, rfl, rfl, by decide +kernel, rfl, by decide +kernel, by decide +kernel⟩
abbrev s_is_flag : Stmt := tops 12
theorem sc_is_flag : FnScope ["thing"] ["thing"] (defScope s_is_flag) := ⟨rfl, rfl, rfl, by decide +kernel, rfl, by decide +kernel, by decide +kernel⟩
abbrev s_is_row : Stmt := tops 15
theorem sc_is_row : FnScope ["offices", "thing"] ["offices", "thing"] (defScope s_is_row) := ⟨rfl, rfl, rfl, by decide +kernel, rfl, by decide +kernel, by decide +kernel⟩
abbrev s_first_bad : Stmt := tops 16
theorem sc_first_bad : FnScope ["offices", "rows", "number", "row"] ["offices", "rows"] (defScope s_first_bad) := ⟨rfl, rfl, rfl, by decide +kernel, rfl, by decide +kernel, by decide +kernel⟩
abbrev s_Log__init : Stmt := inClass (tops 17) 0
theorem sc_Log__init : FnScope ["self", "offices", "rows", "wrong"] ["self", "offices", "rows"] (defScope s_Log__init) := ⟨rfl, rfl, rfl, by decide +kernel, rfl, by decide +kernel, by decide +kernel⟩
abbrev s_is_listed : Stmt := tops 10
theorem sc_is_listed : FnScope ["thing"] ["thing"] (defScope s_is_listed) := ⟨rfl, rfl, rfl, by decide +kernel, rfl, by decide +kernel, by decide +kernel⟩
abbrev s_is_find : Stmt := tops 28
theorem sc_is_find : FnScope ["log", "thing"] ["log", "thing"] (defScope s_is_find) := ⟨rfl, rfl, rfl, by decide +kernel, rfl, by decide +kernel, by decide +kernel⟩
abbrev s_check_finds : Stmt := tops 29
theorem sc_check_finds : FnScope ["log", "finds", "find"] ["log", "finds"] (defScope s_check_finds) := ⟨rfl, rfl, rfl, by decide +kernel, rfl, by decide +kernel, by decide +kernel⟩
abbrev s_Family__m_doing : Stmt := inClass (tops 38) 4
theorem sc_Family__m_doing : FnScope ["self", "found", "moment", "step"] ["self"] (defScope s_Family__m_doing) := ⟨rfl, rfl, rfl, by decide +kernel, rfl, by decide +kernel, by decide +kernel⟩
abbrev s_is_left : Stmt := tops 18
theorem sc_is_left : FnScope ["row"] ["row"] (defScope s_is_left) := ⟨rfl, rfl, rfl, by decide +kernel, rfl, by decide +kernel, by decide +kernel⟩
abbrev s_cut_of : Stmt := tops 19
theorem sc_cut_of : FnScope ["row"] ["row"] (defScope s_cut_of) := ⟨rfl, rfl, rfl, by decide +kernel, rfl, by decide +kernel, by decide +kernel⟩
abbrev s_step_of : Stmt := tops 30
theorem sc_step_of : FnScope ["row"] ["row"] (defScope s_step_of) := ⟨rfl, rfl, rfl, by decide +kernel, rfl, by decide +kernel, by decide +kernel⟩
abbrev s_steps_of : Stmt := tops 31
theorem sc_steps_of : FnScope ["log", "row"] ["log"] (defScope s_steps_of) := ⟨rfl, rfl, rfl, by decide +kernel, rfl, by decide +kernel, by decide +kernel⟩
abbrev s_latest_shown : Stmt := tops 34
theorem sc_latest_shown : FnScope ["finds", "found", "moment", "office", "edition"] ["finds"] (defScope s_latest_shown) := ⟨rfl, rfl, rfl, by decide +kernel, rfl, by decide +kernel, by decide +kernel⟩
abbrev s_first_bounds : Stmt := tops 35
theorem sc_first_bounds : FnScope ["offices", "finds", "found", "border", "moment", "office", "edition"] ["offices", "finds"] (defScope s_first_bounds) := ⟨rfl, rfl, rfl, by decide +kernel, rfl, by decide +kernel, by decide +kernel⟩
abbrev s_is_denied : Stmt := tops 36
theorem sc_is_denied : FnScope ["finds", "bound", "moment", "border", "cut", "find"] ["finds", "bound"] (defScope s_is_denied) := ⟨rfl, rfl, rfl, by decide +kernel, rfl, by decide +kernel, by decide +kernel⟩
abbrev s_Family__m_put : Stmt := inClass (tops 38) 1
theorem sc_Family__m_put : FnScope ["self", "bound", "ahead", "moment", "border", "cut"] ["self", "bound", "ahead"] (defScope s_Family__m_put) := ⟨rfl, rfl, rfl, by decide +kernel, rfl, by decide +kernel, by decide +kernel⟩
abbrev s_cut_on : Stmt := tops 32
theorem sc_cut_on : FnScope ["step", "cut"] ["step", "cut"] (defScope s_cut_on) := ⟨rfl, rfl, rfl, by decide +kernel, rfl, by decide +kernel, by decide +kernel⟩
abbrev s_cut_back : Stmt := tops 33
theorem sc_cut_back : FnScope ["step", "cut"] ["step", "cut"] (defScope s_cut_back) := ⟨rfl, rfl, rfl, by decide +kernel, rfl, by decide +kernel, by decide +kernel⟩
abbrev s_bounds_from : Stmt := tops 37
theorem sc_bounds_from : FnScope ["offices", "steps", "latest", "bound", "found", "moment", "border", "cut"] ["offices", "steps", "latest", "bound"] (defScope s_bounds_from) := ⟨rfl, rfl, rfl, by decide +kernel, rfl, by decide +kernel, by decide +kernel⟩
abbrev s_Family__m_spread : Stmt := inClass (tops 38) 2
theorem sc_Family__m_spread : FnScope ["self", "later", "bound", "more"] ["self"] (defScope s_Family__m_spread) := ⟨rfl, rfl, rfl, by decide +kernel, rfl, by decide +kernel, by decide +kernel⟩
abbrev s_Family__init : Stmt := inClass (tops 38) 0
theorem sc_Family__init : FnScope ["self", "offices", "steps", "finds", "bound", "moment"] ["self", "offices", "steps", "finds"] (defScope s_Family__init) := ⟨rfl, rfl, rfl, by decide +kernel, rfl, by decide +kernel, by decide +kernel⟩
abbrev s_family_of : Stmt := tops 39
theorem sc_family_of : FnScope ["log", "finds"] ["log", "finds"] (defScope s_family_of) := ⟨rfl, rfl, rfl, by decide +kernel, rfl, by decide +kernel, by decide +kernel⟩
abbrev s_best_doing : Stmt := tops 40
theorem sc_best_doing : FnScope ["log", "finds", "family"] ["log", "finds"] (defScope s_best_doing) := ⟨rfl, rfl, rfl, by decide +kernel, rfl, by decide +kernel, by decide +kernel⟩
abbrev s_doing_for : Stmt := tops 41
theorem sc_doing_for : FnScope ["log", "finds"] ["log", "finds"] (defScope s_doing_for) := ⟨rfl, rfl, rfl, by decide +kernel, rfl, by decide +kernel, by decide +kernel⟩
abbrev s_is_doing : Stmt := tops 22
theorem sc_is_doing : FnScope ["log", "thing", "flag", "row"] ["log", "thing"] (defScope s_is_doing) := ⟨rfl, rfl, rfl, by decide +kernel, rfl, by decide +kernel, by decide +kernel⟩
abbrev s_begun : Stmt := tops 20
theorem sc_begun : FnScope ["offices"] ["offices"] (defScope s_begun) := ⟨rfl, rfl, rfl, by decide +kernel, rfl, by decide +kernel, by decide +kernel⟩
abbrev s_copied : Stmt := tops 21
theorem sc_copied : FnScope ["editions", "row"] ["editions", "row"] (defScope s_copied) := ⟨rfl, rfl, rfl, by decide +kernel, rfl, by decide +kernel, by decide +kernel⟩
abbrev s_led : Stmt := tops 23
theorem sc_led : FnScope ["log", "doing", "found", "flag", "row"] ["log", "doing"] (defScope s_led) := ⟨rfl, rfl, rfl, by decide +kernel, rfl, by decide +kernel, by decide +kernel⟩
abbrev s_are_true : Stmt := tops 42
theorem sc_are_true : FnScope ["log", "finds", "doing", "rows", "moment", "office", "edition"] ["log", "finds", "doing"] (defScope s_are_true) := ⟨rfl, rfl, rfl, by decide +kernel, rfl, by decide +kernel, by decide +kernel⟩
abbrev s_is_doing_for : Stmt := tops 43
theorem sc_is_doing_for : FnScope ["log", "finds", "thing"] ["log", "finds", "thing"] (defScope s_is_doing_for) := ⟨rfl, rfl, rfl, by decide +kernel, rfl, by decide +kernel, by decide +kernel⟩
abbrev s_check_denials : Stmt := tops 46
theorem sc_check_denials : FnScope ["log", "denials", "find"] ["log", "denials"] (defScope s_check_denials) := ⟨rfl, rfl, rfl, by decide +kernel, rfl, by decide +kernel, by decide +kernel⟩
abbrev s_is_doing_but : Stmt := tops 47
theorem sc_is_doing_but : FnScope ["log", "finds", "denials", "thing", "denial"] ["log", "finds", "denials", "thing"] (defScope s_is_doing_but) := ⟨rfl, rfl, rfl, by decide +kernel, rfl, by decide +kernel, by decide +kernel⟩
abbrev s__law_hand : Stmt := tops 49
theorem sc__law_hand : FnScope ["_law_script", "_law_cells", "_law_cell"] ["_law_script"] (defScope s__law_hand) := ⟨rfl, rfl, rfl, by decide +kernel, rfl, by decide +kernel, by decide +kernel⟩
abbrev s__law_draw : Stmt := tops 50
theorem sc__law_draw : FnScope ["_law_hand_here", "_law_many", "_law_number", "_law_cell", "_law_digit"] ["_law_hand_here", "_law_many"] (defScope s__law_draw) := ⟨rfl, rfl, rfl, by decide +kernel, rfl, by decide +kernel, by decide +kernel⟩
abbrev s__law_row : Stmt := tops 51
theorem sc__law_row : FnScope ["_law_hand_here", "_law_offices", "_law_share", "_law_one", "_law_other"] ["_law_hand_here", "_law_offices", "_law_share"] (defScope s__law_row) := ⟨rfl, rfl, rfl, by decide +kernel, rfl, by decide +kernel, by decide +kernel⟩
abbrev s__law_rows : Stmt := tops 52
theorem sc__law_rows : FnScope ["_law_hand_here", "_law_offices", "_law_most", "_law_share", "_law_turn"] ["_law_hand_here", "_law_offices", "_law_most", "_law_share"] (defScope s__law_rows) := ⟨rfl, rfl, rfl, by decide +kernel, rfl, by decide +kernel, by decide +kernel⟩
abbrev s__law_some_doing : Stmt := tops 54
theorem sc__law_some_doing : FnScope ["_law_hand_here", "_law_rows_here", "_law_row_here"] ["_law_hand_here", "_law_rows_here"] (defScope s__law_some_doing) := ⟨rfl, rfl, rfl, by decide +kernel, rfl, by decide +kernel, by decide +kernel⟩
abbrev s__law_led : Stmt := tops 53
theorem sc__law_led : FnScope ["_law_offices", "_law_rows_here", "_law_doing", "_law_found", "_law_flag_here", "_law_row_here", "_law_now"] ["_law_offices", "_law_rows_here", "_law_doing"] (defScope s__law_led) := ⟨rfl, rfl, rfl, by decide +kernel, rfl, by decide +kernel, by decide +kernel⟩
abbrev s__law_finds : Stmt := tops 55
theorem sc__law_finds : FnScope ["_law_hand_here", "_law_offices", "_law_rows_here", "_law_most", "_law_odd", "_law_led_here", "_law_found", "_law_turn", "_law_moment", "_law_office", "_law_edition"] ["_law_hand_here", "_law_offices", "_law_rows_here", "_law_most", "_law_odd"] (defScope s__law_finds) := ⟨rfl, rfl, rfl, by decide +kernel, rfl, by decide +kernel, by decide +kernel⟩
abbrev s__law_flag : Stmt := tops 56
theorem sc__law_flag : FnScope ["_law_got", "_law_due_here"] ["_law_got", "_law_due_here"] (defScope s__law_flag) := ⟨rfl, rfl, rfl, by decide +kernel, rfl, by decide +kernel, by decide +kernel⟩
abbrev s__law_is_doing : Stmt := tops 58
theorem sc__law_is_doing : FnScope ["_law_rows_here", "_law_thing", "_law_flag_here", "_law_row_here"] ["_law_rows_here", "_law_thing"] (defScope s__law_is_doing) := ⟨rfl, rfl, rfl, by decide +kernel, rfl, by decide +kernel, by decide +kernel⟩
abbrev s__law_due : Stmt := tops 59
theorem sc__law_due : FnScope ["_law_offices", "_law_rows_here", "_law_finds_here", "_law_denials", "_law_thing", "_law_led_here", "_law_are_true", "_law_moment", "_law_office", "_law_edition"] ["_law_offices", "_law_rows_here", "_law_finds_here", "_law_denials", "_law_thing"] (defScope s__law_due) := ⟨rfl, rfl, rfl, by decide +kernel, rfl, by decide +kernel, by decide +kernel⟩
abbrev s__law_deep : Stmt := tops 57
theorem sc__law_deep : FnScope ["_law_kind", "_law_found", "_law_turn"] ["_law_kind"] (defScope s__law_deep) := ⟨rfl, rfl, rfl, by decide +kernel, rfl, by decide +kernel, by decide +kernel⟩
abbrev s__law_bent : Stmt := tops 60
theorem sc__law_bent : FnScope ["_law_hand_here", "_law_log", "_law_doing", "_law_at", "_law_item", "_law_odd", "_law_flag_here"] ["_law_hand_here", "_law_log", "_law_doing"] (defScope s__law_bent) := ⟨rfl, rfl, rfl, by decide +kernel, rfl, by decide +kernel, by decide +kernel⟩
abbrev s_law : Stmt := tops 61
theorem sc_law : FnScope ["_law_script", "_law_hand_here", "_law_turn", "_law_offices", "_law_rows_here", "_law_finds_here", "_law_denials", "_law_log", "_law_got", "_law_again", "_law_doing", "_law_thing", "_law_due_here"] ["_law_script"] (defScope s_law) := ⟨rfl, rfl, rfl, by decide +kernel, rfl, by decide +kernel, by decide +kernel⟩
structure Facts (G : GX) : Prop where
  z_abs : G.mg "abs" = none
  z_all : G.mg "all" = none
  z_any : G.mg "any" = none
  z_bool : G.mg "bool" = none
  z_enumerate : G.mg "enumerate" = none
  z_int : G.mg "int" = none
  z_isinstance : G.mg "isinstance" = none
  z_len : G.mg "len" = none
  z_list : G.mg "list" = none
  z_max : G.mg "max" = none
  z_range : G.mg "range" = none
  z_tuple : G.mg "tuple" = none
  z_zip : G.mg "zip" = none
  c_MOST_DENIALS : ConI G "MOST_DENIALS" 3
  c_MOST_FINDS : ConI G "MOST_FINDS" 40
  c_MOST_OFFICES : ConI G "MOST_OFFICES" 12
  c_MOST_ROWS : ConI G "MOST_ROWS" 60
  c_ON_LEFT : ConS G "ON_LEFT" "left"
  c_ON_RIGHT : ConS G "ON_RIGHT" "right"
  f_is_integer : FunF G "is_integer" s_is_integer
  f_is_within : FunF G "is_within" s_is_within
  f_is_triple : FunF G "is_triple" s_is_triple
  f_is_flag : FunF G "is_flag" s_is_flag
  f_is_row : FunF G "is_row" s_is_row
  f_first_bad : FunF G "first_bad" s_first_bad
  i_Log : ClsF G "Log" "Log.__init__" s_Log__init
  f_is_listed : FunF G "is_listed" s_is_listed
  f_is_find : FunF G "is_find" s_is_find
  f_check_finds : FunF G "check_finds" s_check_finds
  d_Family__m_doing : MetF G "Family" "doing" "Family.doing" s_Family__m_doing
  f_is_left : FunF G "is_left" s_is_left
  f_cut_of : FunF G "cut_of" s_cut_of
  f_step_of : FunF G "step_of" s_step_of
  f_steps_of : FunF G "steps_of" s_steps_of
  f_latest_shown : FunF G "latest_shown" s_latest_shown
  f_first_bounds : FunF G "first_bounds" s_first_bounds
  f_is_denied : FunF G "is_denied" s_is_denied
  d_Family__m_put : MetF G "Family" "put" "Family.put" s_Family__m_put
  f_cut_on : FunF G "cut_on" s_cut_on
  f_cut_back : FunF G "cut_back" s_cut_back
  f_bounds_from : FunF G "bounds_from" s_bounds_from
  d_Family__m_spread : MetF G "Family" "spread" "Family.spread" s_Family__m_spread
  i_Family : ClsF G "Family" "Family.__init__" s_Family__init
  f_family_of : FunF G "family_of" s_family_of
  f_best_doing : FunF G "best_doing" s_best_doing
  f_doing_for : FunF G "doing_for" s_doing_for
  f_is_doing : FunF G "is_doing" s_is_doing
  f_begun : FunF G "begun" s_begun
  f_copied : FunF G "copied" s_copied
  f_led : FunF G "led" s_led
  f_are_true : FunF G "are_true" s_are_true
  f_is_doing_for : FunF G "is_doing_for" s_is_doing_for
  f_check_denials : FunF G "check_denials" s_check_denials
  f_is_doing_but : FunF G "is_doing_but" s_is_doing_but
  f__law_hand : FunF G "_law_hand" s__law_hand
  f__law_draw : FunF G "_law_draw" s__law_draw
  f__law_row : FunF G "_law_row" s__law_row
  f__law_rows : FunF G "_law_rows" s__law_rows
  f__law_some_doing : FunF G "_law_some_doing" s__law_some_doing
  f__law_led : FunF G "_law_led" s__law_led
  f__law_finds : FunF G "_law_finds" s__law_finds
  f__law_flag : FunF G "_law_flag" s__law_flag
  f__law_is_doing : FunF G "_law_is_doing" s__law_is_doing
  f__law_due : FunF G "_law_due" s__law_due
  f__law_deep : FunF G "_law_deep" s__law_deep
  f__law_bent : FunF G "_law_bent" s__law_bent
  f_law : FunF G "law" s_law
  x_NoDenials : RaiF G "NoDenials"
  x_NoFinds : RaiF G "NoFinds"
  g_Log : InsG G "Log"
  a_Family : ClsA G "Family" ["came", "cuts", "denied", "finds", "latest", "offices", "steps", "waiting"]
  a_Log : ClsA G "Log" ["offices", "rows"]

section
variable {P : Program} {w : World} {G : GX} {base : Heap}
theorem ok_is_integer (T : Facts G)  : FnA G P w base 1 "is_integer" 1 m_is_integer := by
  rw [m_is_integer_eq]
  obtain ⟨f, fd, F, hm⟩ := T.f_is_integer
  exact FnA.of F sc_is_integer hm (F.binds (ps := ["thing"]) fun _ _ _ _ _ _ us hl => match us, hl with | [_], _ => rfl) (fun cdv A outer s H E c =>
    (ass_one (as_ret (ae_and (ae_isiO "int" T.g_Log T.z_isinstance (ae_var 0) (hmx := T.z_int)) (ae_one (ae_not (ae_isiO "bool" T.g_Log T.z_isinstance (ae_var 0) (hmx := T.z_bool))))))))

theorem ok_is_within (T : Facts G) (F_is_integer : FnA G P w base 1 "is_integer" 1 m_is_integer) : FnA G P w base 2 "is_within" 3 m_is_within := by
  rw [m_is_within_eq]
  obtain ⟨f, fd, F, hm⟩ := T.f_is_within
  exact FnA.of F sc_is_within hm (F.binds (ps := ["thing", "least", "most"]) fun _ _ _ _ _ _ us hl => match us, hl with | [_, _, _], _ => rfl) (fun cdv A outer s H E c =>
    (ass_one (as_ret (ae_and (ae_call F_is_integer c (aa_cons (ae_var 0) aa_nil) (lCons_len lNil_len)) (ae_one (ae_leLe (ae_var 1) (ae_var 0) (ae_var 2)))))))

theorem ok_is_triple (T : Facts G)  : FnA G P w base 1 "is_triple" 1 m_is_triple := by
  rw [m_is_triple_eq]
  obtain ⟨f, fd, F, hm⟩ := T.f_is_triple
  exact FnA.of F sc_is_triple hm (F.binds (ps := ["thing"]) fun _ _ _ _ _ _ us hl => match us, hl with | [_], _ => rfl) (fun cdv A outer s H E c =>
    (ass_one (as_ret (ae_and (ae_isiO "tuple" T.g_Log T.z_isinstance (ae_var 0) (hmx := T.z_tuple)) (ae_one (ae_eq c (ae_len T.z_len (aq_ofE (ae_var 0))) ae_int))))))

theorem ok_is_flag (T : Facts G)  : FnA G P w base 1 "is_flag" 1 m_is_flag := by
  rw [m_is_flag_eq]
  obtain ⟨f, fd, F, hm⟩ := T.f_is_flag
  exact FnA.of F sc_is_flag hm (F.binds (ps := ["thing"]) fun _ _ _ _ _ _ us hl => match us, hl with | [_], _ => rfl) (fun cdv A outer s H E c =>
    (ass_one (as_ret (ae_isiO "bool" T.g_Log T.z_isinstance (ae_var 0) (hmx := T.z_bool)))))

theorem ok_is_row (T : Facts G) (F_is_flag : FnA G P w base 1 "is_flag" 1 m_is_flag) (F_is_triple : FnA G P w base 1 "is_triple" 1 m_is_triple) (F_is_within : FnA G P w base 2 "is_within" 3 m_is_within) : FnA G P w base 3 "is_row" 2 m_is_row := by
  rw [m_is_row_eq]
  obtain ⟨f, fd, F, hm⟩ := T.f_is_row
  exact FnA.of F sc_is_row hm (F.binds (ps := ["offices", "thing"]) fun _ _ _ _ _ _ us hl => match us, hl with | [_, _], _ => rfl) (fun cdv A outer s H E c =>
    (ass_cons (as_if (at_w (aw_or (at_not (at_val (ae_call F_is_triple c (aa_cons (ae_var 1) aa_nil) (lCons_len lNil_len)))) (aw_or (at_not (at_val (ae_call F_is_within c (aa_cons (ae_get (ae_var 1) ae_int) (aa_cons ae_int (aa_cons (ae_sub (ae_var 0) ae_int) aa_nil))) (lCons_len (lCons_len (lCons_len lNil_len)))))) (aw_or1 (at_not (at_val (ae_call F_is_within c (aa_cons (ae_get (ae_var 1) ae_int) (aa_cons ae_int (aa_cons (ae_sub (ae_var 0) ae_int) aa_nil))) (lCons_len (lCons_len (lCons_len lNil_len)))))))))) (ass_one (as_ret ae_bl)) ass_nil)
    (ass_one (as_ret (ae_and (ae_eq c (ae_abs T.z_abs (aa_cons (ae_sub (ae_get (ae_var 1) ae_int) (ae_get (ae_var 1) ae_int)) aa_nil)) ae_int) (ae_one (ae_call F_is_flag c (aa_cons (ae_get (ae_var 1) ae_int) aa_nil) (lCons_len lNil_len))))))))

theorem ok_first_bad (T : Facts G) (F_is_row : FnA G P w base 3 "is_row" 2 m_is_row) : FnA G P w base 4 "first_bad" 2 m_first_bad := by
  rw [m_first_bad_eq]
  obtain ⟨f, fd, F, hm⟩ := T.f_first_bad
  exact FnA.of F sc_first_bad hm (F.binds (ps := ["offices", "rows"]) fun _ _ _ _ _ _ us hl => match us, hl with | [_, _], _ => rfl) (fun cdv A outer s H E c =>
    (ass_cons (as_for c (ai_enum T.z_enumerate (aa_cons (ae_var 1) aa_nil)) (ag_tup c.calm (ags_cons (ag_name c.nd 2) (ags_cons (ag_name c.nd 3) ags_nil))) (ass_one (as_if (at_not (at_val (ae_call F_is_row c (aa_cons (ae_var 0) (aa_cons (ae_var 3) aa_nil)) (lCons_len (lCons_len lNil_len))))) (ass_one (as_ret (ae_var 2))) ass_nil)))
    (ass_one (as_ret ae_non))))

theorem ok_Log__init (T : Facts G) (F_first_bad : FnA G P w base 4 "first_bad" 2 m_first_bad) (F_is_within : FnA G P w base 2 "is_within" 3 m_is_within) : MkA G P w base 5 "Log" 3 m_Log__init := by
  rw [m_Log__init_eq]
  exact MkA.of T.i_Log sc_Log__init (fun f fd F => F.binds (ps := ["self", "offices", "rows"]) fun _ _ _ _ _ _ us hl => match us, hl with | [_, _, _], _ => rfl) (fun f cdv A outer s H E c =>
    (ass_cons (as_if (at_not (at_val (ae_call F_is_within c (aa_cons (ae_var 1) (aa_cons ae_int (aa_cons (ae_conI T.c_MOST_OFFICES) aa_nil))) (lCons_len (lCons_len (lCons_len lNil_len)))))) (ass_one (as_never _)) ass_nil)
    (ass_cons (as_if (at_w (aw_or (at_not (at_val (ae_isiO "tuple" T.g_Log T.z_isinstance (ae_var 2) (hmx := T.z_tuple)))) (aw_or1 (at_gt (ae_len T.z_len (aq_ofE (ae_var 2))) (ae_conI T.c_MOST_ROWS))))) (ass_one (as_never _)) ass_nil)
    (ass_cons (as_set c 3 (ae_call F_first_bad c (aa_cons (ae_var 1) (aa_cons (ae_var 2) aa_nil)) (lCons_len (lCons_len lNil_len))))
    (ass_cons (as_if (at_notN (ae_var 3)) (ass_one (as_never _)) ass_nil)
    (ass_cons (as_fld ["Log"] (ae_var 0) (ae_var 1) (cls1 T.a_Log))
    (ass_one (as_fld ["Log"] (ae_var 0) (ae_var 2) (cls1 T.a_Log)))))))))

theorem ok_is_listed (T : Facts G)  : FnA G P w base 1 "is_listed" 1 m_is_listed := by
  rw [m_is_listed_eq]
  obtain ⟨f, fd, F, hm⟩ := T.f_is_listed
  exact FnA.of F sc_is_listed hm (F.binds (ps := ["thing"]) fun _ _ _ _ _ _ us hl => match us, hl with | [_], _ => rfl) (fun cdv A outer s H E c =>
    (ass_one (as_ret (ae_isi2 "list" "tuple" T.z_isinstance (ae_var 0) (hmx := T.z_list) (hmy := T.z_tuple)))))

theorem ok_is_find (T : Facts G) (F_is_triple : FnA G P w base 1 "is_triple" 1 m_is_triple) (F_is_within : FnA G P w base 2 "is_within" 3 m_is_within) : FnA G P w base 3 "is_find" 2 m_is_find := by
  rw [m_is_find_eq]
  obtain ⟨f, fd, F, hm⟩ := T.f_is_find
  exact FnA.of F sc_is_find hm (F.binds (ps := ["log", "thing"]) fun _ _ _ _ _ _ us hl => match us, hl with | [_, _], _ => rfl) (fun cdv A outer s H E c =>
    (ass_cons (as_if (at_w (aw_or (at_not (at_val (ae_call F_is_triple c (aa_cons (ae_var 1) aa_nil) (lCons_len lNil_len)))) (aw_or1 (at_not (at_val (ae_call F_is_within c (aa_cons (ae_get (ae_var 1) ae_int) (aa_cons ae_int (aa_cons (ae_len T.z_len (aq_ofE (ae_fld ["Log"] (ae_var 0) (cls1 T.a_Log)))) aa_nil))) (lCons_len (lCons_len (lCons_len lNil_len))))))))) (ass_one (as_ret ae_bl)) ass_nil)
    (ass_one (as_ret (ae_and (ae_call F_is_within c (aa_cons (ae_get (ae_var 1) ae_int) (aa_cons ae_int (aa_cons (ae_sub (ae_fld ["Log"] (ae_var 0) (cls1 T.a_Log)) ae_int) aa_nil))) (lCons_len (lCons_len (lCons_len lNil_len)))) (ae_one (ae_call F_is_within c (aa_cons (ae_get (ae_var 1) ae_int) (aa_cons ae_int (aa_cons (ae_sub (ae_fld ["Log"] (ae_var 0) (cls1 T.a_Log)) ae_int) aa_nil))) (lCons_len (lCons_len (lCons_len lNil_len))))))))))

theorem ok_check_finds (T : Facts G) (F_is_find : FnA G P w base 3 "is_find" 2 m_is_find) (F_is_listed : FnA G P w base 1 "is_listed" 1 m_is_listed) : FnA G P w base 4 "check_finds" 2 m_check_finds := by
  rw [m_check_finds_eq]
  obtain ⟨f, fd, F, hm⟩ := T.f_check_finds
  exact FnA.of F sc_check_finds hm (F.binds (ps := ["log", "finds"]) fun _ _ _ _ _ _ us hl => match us, hl with | [_, _], _ => rfl) (fun cdv A outer s H E c =>
    (ass_one (as_if (at_w (aw_or (at_not (at_val (ae_call F_is_listed c (aa_cons (ae_var 1) aa_nil) (lCons_len lNil_len)))) (aw_or (at_gt (ae_len T.z_len (aq_ofE (ae_var 1))) (ae_conI T.c_MOST_FINDS)) (aw_or1 (at_not (at_val (ae_all c T.z_all (am_ofL (al_comp c (ai_seq (ae_var 1)) [("find", 2)] (blkOk_by (N := ["log", "finds", "find"]) (sc := (defScope s_check_finds)) (by decide +kernel)) (fun _ _ _ _ _ => (ag_name (Ctx.blk c _ _ _ _ _).nd 2)) (fun _ _ _ _ _ => ats_nil) (fun _ _ _ _ _ => (ae_call F_is_find (Ctx.blk c _ _ _ _ _) (aa_cons (ae_var 0) (aa_cons (ae_var 2) aa_nil)) (lCons_len (lCons_len lNil_len))))))))))))) (ass_one (as_raise c T.x_NoFinds)) ass_nil)))

theorem ok_Family__m_doing (T : Facts G)  : DefA G P w base 1 "Family" "doing" 1 m_Family__m_doing := by
  rw [m_Family__m_doing_eq]
  exact DefA.of T.d_Family__m_doing sc_Family__m_doing (fun f fd F => F.binds (ps := ["self"]) fun _ _ _ _ _ _ us hl => match us, hl with | [_], _ => rfl) (fun f cdv A outer s H E c =>
    (ass_cons (as_set c 1 (ae_ofL (al_lst aa_nil)))
    (ass_cons (as_for c (ai_enum T.z_enumerate (aa_cons (ae_fld ["Family"] (ae_var 0) (cls1 T.a_Family)) aa_nil)) (ag_tup c.calm (ags_cons (ag_name c.nd 2) (ags_cons (ag_name c.nd 3) ags_nil))) (ass_one (as_expr (ae_append (ae_var 1) (aa_cons (ae_or (ae_get (ae_var 3) ae_int) (ae_one (ae_ne c (ae_get (ae_fld ["Family"] (ae_var 0) (cls1 T.a_Family)) (ae_var 2)) (ae_get (ae_fld ["Family"] (ae_var 0) (cls1 T.a_Family)) (ae_add (ae_var 2) ae_int))))) aa_nil)))))
    (ass_one (as_ret (ae_tuple T.z_tuple (aq_ofE (ae_var 1))))))))

theorem ok_is_left (T : Facts G)  : FnA G P w base 1 "is_left" 1 m_is_left := by
  rw [m_is_left_eq]
  obtain ⟨f, fd, F, hm⟩ := T.f_is_left
  exact FnA.of F sc_is_left hm (F.binds (ps := ["row"]) fun _ _ _ _ _ _ us hl => match us, hl with | [_], _ => rfl) (fun cdv A outer s H E c =>
    (ass_one (as_ret (ae_gt (ae_get (ae_var 0) ae_int) (ae_get (ae_var 0) ae_int)))))

theorem ok_cut_of (T : Facts G)  : FnA G P w base 1 "cut_of" 1 m_cut_of := by
  rw [m_cut_of_eq]
  obtain ⟨f, fd, F, hm⟩ := T.f_cut_of
  exact FnA.of F sc_cut_of hm (F.binds (ps := ["row"]) fun _ _ _ _ _ _ us hl => match us, hl with | [_], _ => rfl) (fun cdv A outer s H E c =>
    (ass_one (as_ret (ae_max2 c T.z_max (aa_cons (ae_get (ae_var 0) ae_int) (aa_cons (ae_get (ae_var 0) ae_int) aa_nil))))))

theorem ok_step_of (T : Facts G) (F_cut_of : FnA G P w base 1 "cut_of" 1 m_cut_of) (F_is_left : FnA G P w base 1 "is_left" 1 m_is_left) : FnA G P w base 2 "step_of" 1 m_step_of := by
  rw [m_step_of_eq]
  obtain ⟨f, fd, F, hm⟩ := T.f_step_of
  exact FnA.of F sc_step_of hm (F.binds (ps := ["row"]) fun _ _ _ _ _ _ us hl => match us, hl with | [_], _ => rfl) (fun cdv A outer s H E c =>
    (ass_one (as_ret (ae_tup (aa_cons (ae_if (at_val (ae_call F_is_left c (aa_cons (ae_var 0) aa_nil) (lCons_len lNil_len))) (ae_conS T.c_ON_LEFT) (ae_conS T.c_ON_RIGHT)) (aa_cons (ae_call F_cut_of c (aa_cons (ae_var 0) aa_nil) (lCons_len lNil_len)) (aa_cons (ae_get (ae_var 0) ae_int) aa_nil)))))))

theorem ok_steps_of (T : Facts G) (F_step_of : FnA G P w base 2 "step_of" 1 m_step_of) : FnA G P w base 3 "steps_of" 1 m_steps_of := by
  rw [m_steps_of_eq]
  obtain ⟨f, fd, F, hm⟩ := T.f_steps_of
  exact FnA.of F sc_steps_of hm (F.binds (ps := ["log"]) fun _ _ _ _ _ _ us hl => match us, hl with | [_], _ => rfl) (fun cdv A outer s H E c =>
    (ass_one (as_ret (ae_ofL (al_comp c (ai_seq (ae_fld ["Log"] (ae_var 0) (cls1 T.a_Log))) [("row", 1)] (blkOk_by (N := ["log", "row"]) (sc := (defScope s_steps_of)) (by decide +kernel)) (fun _ _ _ _ _ => (ag_name (Ctx.blk c _ _ _ _ _).nd 1)) (fun _ _ _ _ _ => ats_nil) (fun _ _ _ _ _ => (ae_call F_step_of (Ctx.blk c _ _ _ _ _) (aa_cons (ae_var 1) aa_nil) (lCons_len lNil_len))))))))

theorem ok_latest_shown (T : Facts G)  : FnA G P w base 1 "latest_shown" 1 m_latest_shown := by
  rw [m_latest_shown_eq]
  obtain ⟨f, fd, F, hm⟩ := T.f_latest_shown
  exact FnA.of F sc_latest_shown hm (F.binds (ps := ["finds"]) fun _ _ _ _ _ _ us hl => match us, hl with | [_], _ => rfl) (fun cdv A outer s H E c =>
    (ass_cons (as_set c 1 ae_dct0)
    (ass_cons (as_for c (ai_seq (ae_var 0)) (ag_tup c.calm (ags_cons (ag_name c.nd 2) (ags_cons (ag_name c.nd 3) (ags_cons (ag_name c.nd 4) ags_nil)))) (ass_one (as_dput c (ae_var 1) (ae_var 4) (ae_max2 c T.z_max (aa_cons (ae_var 2) (aa_cons (ae_dget c (ae_var 1) (ae_var 4) ae_int) aa_nil))))))
    (ass_one (as_ret (ae_var 1))))))

theorem ok_first_bounds (T : Facts G)  : FnA G P w base 1 "first_bounds" 2 m_first_bounds := by
  rw [m_first_bounds_eq]
  obtain ⟨f, fd, F, hm⟩ := T.f_first_bounds
  exact FnA.of F sc_first_bounds hm (F.binds (ps := ["offices", "finds"]) fun _ _ _ _ _ _ us hl => match us, hl with | [_, _], _ => rfl) (fun cdv A outer s H E c =>
    (ass_cons (as_setLc c 2 (ai_range1 T.z_range (aa_cons (ae_add (ae_var 0) ae_int) aa_nil)) [("border", 3)] (blkOk_by (N := ["offices", "finds", "found", "border", "moment", "office", "edition"]) (sc := (defScope s_first_bounds)) (by decide +kernel)) (fun _ _ _ _ _ => (ag_name (Ctx.blk c _ _ _ _ _).nd 3)) (fun _ _ _ _ _ => ats_nil) (fun _ _ _ _ _ => (ae_tup (aa_cons ae_int (aa_cons (ae_var 3) (aa_cons (ae_var 3) aa_nil))))) (sw_true rfl rfl rfl (by decide +kernel)))
    (ass_one (as_ret (ae_ofL (al_catE (ae_var 2) (am_ofL (al_comp c (ai_seq (ae_var 1)) [("moment", 4), ("office", 5), ("edition", 6)] (blkOk_by (N := ["offices", "finds", "found", "border", "moment", "office", "edition"]) (sc := (defScope s_first_bounds)) (by decide +kernel)) (fun _ _ _ _ _ => (ag_tup (Ctx.blk c _ _ _ _ _).calm (ags_cons (ag_name (Ctx.blk c _ _ _ _ _).nd 4) (ags_cons (ag_name (Ctx.blk c _ _ _ _ _).nd 5) (ags_cons (ag_name (Ctx.blk c _ _ _ _ _).nd 6) ags_nil))))) (fun _ _ _ _ _ => ats_nil) (fun _ _ _ _ _ => (ae_tup (aa_cons (ae_var 4) (aa_cons (ae_add (ae_var 6) ae_int) (aa_cons (ae_add (ae_var 5) ae_int) aa_nil)))))))))))))

theorem ok_is_denied (T : Facts G)  : FnA G P w base 1 "is_denied" 2 m_is_denied := by
  rw [m_is_denied_eq]
  obtain ⟨f, fd, F, hm⟩ := T.f_is_denied
  exact FnA.of F sc_is_denied hm (F.binds (ps := ["finds", "bound"]) fun _ _ _ _ _ _ us hl => match us, hl with | [_, _], _ => rfl) (fun cdv A outer s H E c =>
    (ass_cons (as_asg (ae_var 1) (ag_tup c.calm (ags_cons (ag_name c.nd 2) (ags_cons (ag_name c.nd 3) (ags_cons (ag_name c.nd 4) ags_nil)))))
    (ass_cons (as_if (at_w (aw_and (at_eq c (ae_var 2) ae_int) (aw_and1 (at_gt (ae_var 4) (ae_var 3))))) (ass_one (as_ret ae_bl)) ass_nil)
    (ass_one (as_ret (ae_any c T.z_any (am_ofL (al_comp c (ai_seq (ae_var 0)) [("find", 5)] (blkOk_by (N := ["finds", "bound", "moment", "border", "cut", "find"]) (sc := (defScope s_is_denied)) (by decide +kernel)) (fun _ _ _ _ _ => (ag_name (Ctx.blk c _ _ _ _ _).nd 5)) (fun _ _ _ _ _ => ats_nil) (fun _ _ _ _ _ => (ae_and (ae_eq (Ctx.blk c _ _ _ _ _) (ae_get (ae_var 5) ae_int) (ae_var 2)) (ae_and (ae_eq (Ctx.blk c _ _ _ _ _) (ae_get (ae_var 5) ae_int) (ae_var 3)) (ae_one (ae_gt (ae_var 4) (ae_get (ae_var 5) ae_int))))))))))))))

theorem ok_Family__m_put (T : Facts G) (F_is_denied : FnA G P w base 1 "is_denied" 2 m_is_denied) : DefA G P w base 2 "Family" "put" 3 m_Family__m_put := by
  rw [m_Family__m_put_eq]
  exact DefA.of T.d_Family__m_put sc_Family__m_put (fun f fd F => F.binds (ps := ["self", "bound", "ahead"]) fun _ _ _ _ _ _ us hl => match us, hl with | [_, _, _], _ => rfl) (fun f cdv A outer s H E c =>
    (ass_cons (as_asg (ae_var 1) (ag_tup c.calm (ags_cons (ag_name c.nd 3) (ags_cons (ag_name c.nd 4) (ags_cons (ag_name c.nd 5) ags_nil)))))
    (ass_one (as_if (at_w (aw_and (at_isN (ae_fld ["Family"] (ae_var 0) (cls1 T.a_Family))) (aw_and1 (at_gt (ae_var 5) (ae_get (ae_get (ae_fld ["Family"] (ae_var 0) (cls1 T.a_Family)) (ae_var 3)) (ae_var 4)))))) (ass_cons (as_sub (ae_get (ae_fld ["Family"] (ae_var 0) (cls1 T.a_Family)) (ae_var 3)) (ae_var 4) (ae_var 5))
    (ass_cons (as_dput c (ae_fld ["Family"] (ae_var 0) (cls1 T.a_Family)) (ae_var 1) (ae_var 2))
    (ass_cons (as_expr (ae_append (ae_fld ["Family"] (ae_var 0) (cls1 T.a_Family)) (aa_cons (ae_var 1) aa_nil)))
    (ass_one (as_if (at_val (ae_call F_is_denied c (aa_cons (ae_fld ["Family"] (ae_var 0) (cls1 T.a_Family)) (aa_cons (ae_var 1) aa_nil)) (lCons_len (lCons_len lNil_len)))) (ass_one (as_fld ["Family"] (ae_var 0) (ae_var 1) (cls1 T.a_Family))) ass_nil))))) ass_nil))))

theorem ok_cut_on (T : Facts G)  : FnA G P w base 1 "cut_on" 2 m_cut_on := by
  rw [m_cut_on_eq]
  obtain ⟨f, fd, F, hm⟩ := T.f_cut_on
  exact FnA.of F sc_cut_on hm (F.binds (ps := ["step", "cut"]) fun _ _ _ _ _ _ us hl => match us, hl with | [_, _], _ => rfl) (fun cdv A outer s H E c =>
    (ass_cons (as_if (at_w (aw_and (at_eq c (ae_get (ae_var 0) ae_int) (ae_conS T.c_ON_LEFT)) (aw_and1 (at_eq c (ae_get (ae_var 0) ae_int) (ae_var 1))))) (ass_one (as_ret (ae_sub (ae_var 1) ae_int))) ass_nil)
    (ass_cons (as_if (at_w (aw_and (at_eq c (ae_get (ae_var 0) ae_int) (ae_conS T.c_ON_RIGHT)) (aw_and (at_eq c (ae_get (ae_var 0) ae_int) (ae_var 1)) (aw_and1 (at_val (ae_get (ae_var 0) ae_int)))))) (ass_one (as_ret (ae_add (ae_var 1) ae_int))) ass_nil)
    (ass_one (as_ret (ae_var 1))))))

theorem ok_cut_back (T : Facts G)  : FnA G P w base 1 "cut_back" 2 m_cut_back := by
  rw [m_cut_back_eq]
  obtain ⟨f, fd, F, hm⟩ := T.f_cut_back
  exact FnA.of F sc_cut_back hm (F.binds (ps := ["step", "cut"]) fun _ _ _ _ _ _ us hl => match us, hl with | [_, _], _ => rfl) (fun cdv A outer s H E c =>
    (ass_cons (as_if (at_w (aw_and (at_eq c (ae_get (ae_var 0) ae_int) (ae_conS T.c_ON_RIGHT)) (aw_and1 (at_eq c (ae_get (ae_var 0) ae_int) (ae_sub (ae_var 1) ae_int))))) (ass_one (as_ret (ae_sub (ae_var 1) ae_int))) ass_nil)
    (ass_cons (as_if (at_w (aw_and (at_eq c (ae_get (ae_var 0) ae_int) (ae_conS T.c_ON_LEFT)) (aw_and (at_eq c (ae_get (ae_var 0) ae_int) (ae_var 1)) (aw_and1 (at_val (ae_get (ae_var 0) ae_int)))))) (ass_one (as_ret (ae_add (ae_var 1) ae_int))) ass_nil)
    (ass_one (as_ret (ae_var 1))))))

theorem ok_bounds_from (T : Facts G) (F_cut_back : FnA G P w base 1 "cut_back" 2 m_cut_back) (F_cut_on : FnA G P w base 1 "cut_on" 2 m_cut_on) : FnA G P w base 2 "bounds_from" 4 m_bounds_from := by
  rw [m_bounds_from_eq]
  obtain ⟨f, fd, F, hm⟩ := T.f_bounds_from
  exact FnA.of F sc_bounds_from hm (F.binds (ps := ["offices", "steps", "latest", "bound"]) fun _ _ _ _ _ _ us hl => match us, hl with | [_, _, _, _], _ => rfl) (fun cdv A outer s H E c =>
    (ass_cons (as_asg (ae_var 3) (ag_tup c.calm (ags_cons (ag_name c.nd 5) (ags_cons (ag_name c.nd 6) (ags_cons (ag_name c.nd 7) ags_nil)))))
    (ass_cons (as_set c 4 (ae_ofL (al_lst aa_nil)))
    (ass_cons (as_if (at_lt (ae_var 6) (ae_var 0)) (ass_cons (as_if (at_ge (ae_dget c (ae_var 2) (ae_var 6) (ae_neg ae_int)) (ae_var 5)) (ass_one (as_expr (ae_append (ae_var 4) (aa_cons (ae_tup (aa_cons (ae_var 5) (aa_cons (ae_add (ae_var 6) ae_int) (aa_cons (ae_add (ae_var 7) ae_int) aa_nil)))) aa_nil)))) ass_nil)
    (ass_one (as_expr (ae_append (ae_var 4) (aa_cons (ae_tup (aa_cons (ae_var 5) (aa_cons (ae_add (ae_var 6) ae_int) (aa_cons (ae_var 7) aa_nil)))) aa_nil))))) ass_nil)
    (ass_cons (as_if (at_lt (ae_var 5) (ae_len T.z_len (aq_ofE (ae_var 1)))) (ass_one (as_expr (ae_append (ae_var 4) (aa_cons (ae_tup (aa_cons (ae_add (ae_var 5) ae_int) (aa_cons (ae_var 6) (aa_cons (ae_call F_cut_on c (aa_cons (ae_get (ae_var 1) (ae_var 5)) (aa_cons (ae_var 7) aa_nil)) (lCons_len (lCons_len lNil_len))) aa_nil)))) aa_nil)))) ass_nil)
    (ass_cons (as_if (at_gt (ae_var 5) ae_int) (ass_one (as_expr (ae_append (ae_var 4) (aa_cons (ae_tup (aa_cons (ae_sub (ae_var 5) ae_int) (aa_cons (ae_var 6) (aa_cons (ae_call F_cut_back c (aa_cons (ae_get (ae_var 1) (ae_sub (ae_var 5) ae_int)) (aa_cons (ae_var 7) aa_nil)) (lCons_len (lCons_len lNil_len))) aa_nil)))) aa_nil)))) ass_nil)
    (ass_one (as_ret (ae_var 4)))))))))

theorem ok_Family__m_spread (T : Facts G) (F_Family__m_put : DefA G P w base 2 "Family" "put" 3 m_Family__m_put) (F_bounds_from : FnA G P w base 2 "bounds_from" 4 m_bounds_from) : DefA G P w base 3 "Family" "spread" 1 m_Family__m_spread := by
  rw [m_Family__m_spread_eq]
  exact DefA.of T.d_Family__m_spread sc_Family__m_spread (fun f fd F => F.binds (ps := ["self"]) fun _ _ _ _ _ _ us hl => match us, hl with | [_], _ => rfl) (fun f cdv A outer s H E c =>
    (ass_one (as_while c 1000000 (at_w (aw_and (at_gt (ae_len T.z_len (aq_ofE (ae_fld ["Family"] (ae_var 0) (cls1 T.a_Family)))) ae_int) (aw_and1 (at_isN (ae_fld ["Family"] (ae_var 0) (cls1 T.a_Family)))))) (ass_cons (as_set c 1 (ae_fld ["Family"] (ae_var 0) (cls1 T.a_Family)))
    (ass_cons (as_fld ["Family"] (ae_var 0) (ae_ofL (al_lst aa_nil)) (cls1 T.a_Family))
    (ass_one (as_for c (ai_seq (ae_var 1)) (ag_name c.nd 2) (ass_one (as_for c (ai_lst (al_drop (ae_call F_bounds_from c (aa_cons (ae_fld ["Family"] (ae_var 0) (cls1 T.a_Family)) (aa_cons (ae_fld ["Family"] (ae_var 0) (cls1 T.a_Family)) (aa_cons (ae_fld ["Family"] (ae_var 0) (cls1 T.a_Family)) (aa_cons (ae_var 2) aa_nil)))) (lCons_len (lCons_len (lCons_len (lCons_len lNil_len))))))) (ag_name c.nd 3) (ass_one (as_expr (ae_meth F_Family__m_put c (ae_var 0) (aa_cons (ae_var 3) (aa_cons (ae_var 2) aa_nil)) (lCons_len (lCons_len lNil_len))))))))))))))

theorem ok_Family__init (T : Facts G) (F_Family__m_put : DefA G P w base 2 "Family" "put" 3 m_Family__m_put) (F_Family__m_spread : DefA G P w base 3 "Family" "spread" 1 m_Family__m_spread) (F_first_bounds : FnA G P w base 1 "first_bounds" 2 m_first_bounds) (F_latest_shown : FnA G P w base 1 "latest_shown" 1 m_latest_shown) : MkA G P w base 4 "Family" 4 m_Family__init := by
  rw [m_Family__init_eq]
  exact MkA.of T.i_Family sc_Family__init (fun f fd F => F.binds (ps := ["self", "offices", "steps", "finds"]) fun _ _ _ _ _ _ us hl => match us, hl with | [_, _, _, _], _ => rfl) (fun f cdv A outer s H E c =>
    (ass_cons (as_fld ["Family"] (ae_var 0) (ae_var 1) (cls1 T.a_Family))
    (ass_cons (as_fld ["Family"] (ae_var 0) (ae_var 2) (cls1 T.a_Family))
    (ass_cons (as_fld ["Family"] (ae_var 0) (ae_var 3) (cls1 T.a_Family))
    (ass_cons (as_fld ["Family"] (ae_var 0) (ae_call F_latest_shown c (aa_cons (ae_var 3) aa_nil) (lCons_len lNil_len)) (cls1 T.a_Family))
    (ass_cons (as_fld ["Family"] (ae_var 0) (ae_ofL (al_comp c (ai_range1 T.z_range (aa_cons (ae_add (ae_len T.z_len (aq_ofE (ae_var 2))) ae_int) aa_nil)) [("moment", 5)] (blkOk_by (N := ["self", "offices", "steps", "finds", "bound", "moment"]) (sc := (defScope s_Family__init)) (by decide +kernel)) (fun _ _ _ _ _ => (ag_name (Ctx.blk c _ _ _ _ _).nd 5)) (fun _ _ _ _ _ => ats_nil) (fun _ _ _ _ _ => (ae_ofL (al_rep (al_lst (aa_cons (ae_neg ae_int) aa_nil)) (ae_add (ae_var 1) ae_int)))))) (cls1 T.a_Family))
    (ass_cons (as_fld ["Family"] (ae_var 0) ae_dctT (cls1 T.a_Family))
    (ass_cons (as_fld ["Family"] (ae_var 0) ae_non (cls1 T.a_Family))
    (ass_cons (as_fld ["Family"] (ae_var 0) (ae_ofL (al_lst aa_nil)) (cls1 T.a_Family))
    (ass_cons (as_for c (ai_lst (al_drop (ae_call F_first_bounds c (aa_cons (ae_var 1) (aa_cons (ae_var 3) aa_nil)) (lCons_len (lCons_len lNil_len))))) (ag_name c.nd 4) (ass_one (as_expr (ae_meth F_Family__m_put c (ae_var 0) (aa_cons (ae_var 4) (aa_cons ae_non aa_nil)) (lCons_len (lCons_len lNil_len))))))
    (ass_one (as_expr (ae_meth0 F_Family__m_spread c (ae_var 0))))))))))))))

theorem ok_family_of (T : Facts G) (F_Family__init : MkA G P w base 4 "Family" 4 m_Family__init) (F_steps_of : FnA G P w base 3 "steps_of" 1 m_steps_of) : FnA G P w base 6 "family_of" 2 m_family_of := by
  rw [m_family_of_eq]
  obtain ⟨f, fd, F, hm⟩ := T.f_family_of
  exact FnA.of F sc_family_of hm (F.binds (ps := ["log", "finds"]) fun _ _ _ _ _ _ us hl => match us, hl with | [_, _], _ => rfl) (fun cdv A outer s H E c =>
    (ass_one (as_ret (ae_make F_Family__init c (aa_cons (ae_fld ["Log"] (ae_var 0) (cls1 T.a_Log)) (aa_cons (ae_ofL (al_drop (ae_call F_steps_of c (aa_cons (ae_var 0) aa_nil) (lCons_len lNil_len)))) (aa_cons (ae_ofL (al_list T.z_list (aq_ofE (ae_var 1)))) aa_nil))) (lCons_len (lCons_len (lCons_len lNil_len)))))))

theorem ok_best_doing (T : Facts G) (F_Family__m_doing : DefA G P w base 1 "Family" "doing" 1 m_Family__m_doing) (F_family_of : FnA G P w base 6 "family_of" 2 m_family_of) : FnA G P w base 7 "best_doing" 2 m_best_doing := by
  rw [m_best_doing_eq]
  obtain ⟨f, fd, F, hm⟩ := T.f_best_doing
  exact FnA.of F sc_best_doing hm (F.binds (ps := ["log", "finds"]) fun _ _ _ _ _ _ us hl => match us, hl with | [_, _], _ => rfl) (fun cdv A outer s H E c =>
    (ass_cons (as_set c 2 (ae_call F_family_of c (aa_cons (ae_var 0) (aa_cons (ae_var 1) aa_nil)) (lCons_len (lCons_len lNil_len))))
    (ass_one (as_ret (ae_if (at_isN (ae_fld ["Family"] (ae_var 2) (cls1 T.a_Family))) (ae_meth0 F_Family__m_doing c (ae_var 2)) ae_non)))))

theorem ok_doing_for (T : Facts G) (F_best_doing : FnA G P w base 7 "best_doing" 2 m_best_doing) (F_check_finds : FnA G P w base 4 "check_finds" 2 m_check_finds) : FnA G P w base 8 "doing_for" 2 m_doing_for := by
  rw [m_doing_for_eq]
  obtain ⟨f, fd, F, hm⟩ := T.f_doing_for
  exact FnA.of F sc_doing_for hm (F.binds (ps := ["log", "finds"]) fun _ _ _ _ _ _ us hl => match us, hl with | [_, _], _ => rfl) (fun cdv A outer s H E c =>
    (ass_cons (as_expr (ae_call F_check_finds c (aa_cons (ae_var 0) (aa_cons (ae_var 1) aa_nil)) (lCons_len (lCons_len lNil_len))))
    (ass_one (as_ret (ae_call F_best_doing c (aa_cons (ae_var 0) (aa_cons (ae_var 1) aa_nil)) (lCons_len (lCons_len lNil_len)))))))

theorem ok_is_doing (T : Facts G) (F_is_flag : FnA G P w base 1 "is_flag" 1 m_is_flag) : FnA G P w base 2 "is_doing" 2 m_is_doing := by
  rw [m_is_doing_eq]
  obtain ⟨f, fd, F, hm⟩ := T.f_is_doing
  exact FnA.of F sc_is_doing hm (F.binds (ps := ["log", "thing"]) fun _ _ _ _ _ _ us hl => match us, hl with | [_, _], _ => rfl) (fun cdv A outer s H E c =>
    (ass_cons (as_if (at_w (aw_or (at_not (at_val (ae_isiO "tuple" T.g_Log T.z_isinstance (ae_var 1) (hmx := T.z_tuple)))) (aw_or (at_ne c (ae_len T.z_len (aq_ofE (ae_var 1))) (ae_len T.z_len (aq_ofE (ae_fld ["Log"] (ae_var 0) (cls1 T.a_Log))))) (aw_or1 (at_not (at_val (ae_all c T.z_all (am_ofL (al_comp c (ai_seq (ae_var 1)) [("flag", 2)] (blkOk_by (N := ["log", "thing", "flag", "row"]) (sc := (defScope s_is_doing)) (by decide +kernel)) (fun _ _ _ _ _ => (ag_name (Ctx.blk c _ _ _ _ _).nd 2)) (fun _ _ _ _ _ => ats_nil) (fun _ _ _ _ _ => (ae_call F_is_flag (Ctx.blk c _ _ _ _ _) (aa_cons (ae_var 2) aa_nil) (lCons_len lNil_len)))))))))))) (ass_one (as_ret ae_bl)) ass_nil)
    (ass_one (as_ret (ae_all c T.z_all (am_ofL (al_comp c (ai_zip T.z_zip (aa_cons (ae_var 1) (aa_cons (ae_fld ["Log"] (ae_var 0) (cls1 T.a_Log)) aa_nil))) [("flag", 2), ("row", 3)] (blkOk_by (N := ["log", "thing", "flag", "row"]) (sc := (defScope s_is_doing)) (by decide +kernel)) (fun _ _ _ _ _ => (ag_tup (Ctx.blk c _ _ _ _ _).calm (ags_cons (ag_name (Ctx.blk c _ _ _ _ _).nd 2) (ags_cons (ag_name (Ctx.blk c _ _ _ _ _).nd 3) ags_nil)))) (fun _ _ _ _ _ => ats_nil) (fun _ _ _ _ _ => (ae_or (ae_var 2) (ae_one (ae_not (ae_get (ae_var 3) ae_int))))))))))))

theorem ok_begun (T : Facts G)  : FnA G P w base 1 "begun" 1 m_begun := by
  rw [m_begun_eq]
  obtain ⟨f, fd, F, hm⟩ := T.f_begun
  exact FnA.of F sc_begun hm (F.binds (ps := ["offices"]) fun _ _ _ _ _ _ us hl => match us, hl with | [_], _ => rfl) (fun cdv A outer s H E c =>
    (ass_one (as_ret (ae_tupRng1 c T.z_tuple T.z_range (ae_var 0)))))

theorem ok_copied (T : Facts G)  : FnA G P w base 1 "copied" 2 m_copied := by
  rw [m_copied_eq]
  obtain ⟨f, fd, F, hm⟩ := T.f_copied
  exact FnA.of F sc_copied hm (F.binds (ps := ["editions", "row"]) fun _ _ _ _ _ _ us hl => match us, hl with | [_, _], _ => rfl) (fun cdv A outer s H E c =>
    (ass_one (as_ret (ae_add (ae_add (ae_slT (ae_var 0) ao_none (ao_some (ae_get (ae_var 1) ae_int))) (ae_tup (aa_cons (ae_get (ae_var 0) (ae_get (ae_var 1) ae_int)) aa_nil))) (ae_slT (ae_var 0) (ao_some (ae_add (ae_get (ae_var 1) ae_int) ae_int)) ao_none)))))

theorem ok_led (T : Facts G) (F_begun : FnA G P w base 1 "begun" 1 m_begun) (F_copied : FnA G P w base 1 "copied" 2 m_copied) : FnA G P w base 2 "led" 2 m_led := by
  rw [m_led_eq]
  obtain ⟨f, fd, F, hm⟩ := T.f_led
  exact FnA.of F sc_led hm (F.binds (ps := ["log", "doing"]) fun _ _ _ _ _ _ us hl => match us, hl with | [_, _], _ => rfl) (fun cdv A outer s H E c =>
    (ass_cons (as_set c 2 (ae_ofL (al_lst (aa_cons (ae_call F_begun c (aa_cons (ae_fld ["Log"] (ae_var 0) (cls1 T.a_Log)) aa_nil) (lCons_len lNil_len)) aa_nil))))
    (ass_cons (as_for c (ai_zip T.z_zip (aa_cons (ae_var 1) (aa_cons (ae_fld ["Log"] (ae_var 0) (cls1 T.a_Log)) aa_nil))) (ag_tup c.calm (ags_cons (ag_name c.nd 3) (ags_cons (ag_name c.nd 4) ags_nil))) (ass_one (as_expr (ae_append (ae_var 2) (aa_cons (ae_if (at_val (ae_var 3)) (ae_call F_copied c (aa_cons (ae_get (ae_var 2) (ae_neg ae_int)) (aa_cons (ae_var 4) aa_nil)) (lCons_len (lCons_len lNil_len))) (ae_get (ae_var 2) (ae_neg ae_int))) aa_nil)))))
    (ass_one (as_ret (ae_var 2))))))

theorem ok_are_true (T : Facts G) (F_led : FnA G P w base 2 "led" 2 m_led) : FnA G P w base 3 "are_true" 3 m_are_true := by
  rw [m_are_true_eq]
  obtain ⟨f, fd, F, hm⟩ := T.f_are_true
  exact FnA.of F sc_are_true hm (F.binds (ps := ["log", "finds", "doing"]) fun _ _ _ _ _ _ us hl => match us, hl with | [_, _, _], _ => rfl) (fun cdv A outer s H E c =>
    (ass_cons (as_set c 3 (ae_ofL (al_drop (ae_call F_led c (aa_cons (ae_var 0) (aa_cons (ae_var 2) aa_nil)) (lCons_len (lCons_len lNil_len))))))
    (ass_one (as_ret (ae_all c T.z_all (am_ofL (al_comp c (ai_seq (ae_var 1)) [("moment", 4), ("office", 5), ("edition", 6)] (blkOk_by (N := ["log", "finds", "doing", "rows", "moment", "office", "edition"]) (sc := (defScope s_are_true)) (by decide +kernel)) (fun _ _ _ _ _ => (ag_tup (Ctx.blk c _ _ _ _ _).calm (ags_cons (ag_name (Ctx.blk c _ _ _ _ _).nd 4) (ags_cons (ag_name (Ctx.blk c _ _ _ _ _).nd 5) (ags_cons (ag_name (Ctx.blk c _ _ _ _ _).nd 6) ags_nil))))) (fun _ _ _ _ _ => ats_nil) (fun _ _ _ _ _ => (ae_eq (Ctx.blk c _ _ _ _ _) (ae_get (ae_get (ae_var 3) (ae_var 4)) (ae_var 5)) (ae_var 6))))))))))

theorem ok_is_doing_for (T : Facts G) (F_are_true : FnA G P w base 3 "are_true" 3 m_are_true) (F_check_finds : FnA G P w base 4 "check_finds" 2 m_check_finds) (F_is_doing : FnA G P w base 2 "is_doing" 2 m_is_doing) : FnA G P w base 5 "is_doing_for" 3 m_is_doing_for := by
  rw [m_is_doing_for_eq]
  obtain ⟨f, fd, F, hm⟩ := T.f_is_doing_for
  exact FnA.of F sc_is_doing_for hm (F.binds (ps := ["log", "finds", "thing"]) fun _ _ _ _ _ _ us hl => match us, hl with | [_, _, _], _ => rfl) (fun cdv A outer s H E c =>
    (ass_cons (as_expr (ae_call F_check_finds c (aa_cons (ae_var 0) (aa_cons (ae_var 1) aa_nil)) (lCons_len (lCons_len lNil_len))))
    (ass_one (as_ret (ae_and (ae_call F_is_doing c (aa_cons (ae_var 0) (aa_cons (ae_var 2) aa_nil)) (lCons_len (lCons_len lNil_len))) (ae_one (ae_call F_are_true c (aa_cons (ae_var 0) (aa_cons (ae_var 1) (aa_cons (ae_var 2) aa_nil))) (lCons_len (lCons_len (lCons_len lNil_len))))))))))

theorem ok_check_denials (T : Facts G) (F_is_find : FnA G P w base 3 "is_find" 2 m_is_find) (F_is_listed : FnA G P w base 1 "is_listed" 1 m_is_listed) : FnA G P w base 4 "check_denials" 2 m_check_denials := by
  rw [m_check_denials_eq]
  obtain ⟨f, fd, F, hm⟩ := T.f_check_denials
  exact FnA.of F sc_check_denials hm (F.binds (ps := ["log", "denials"]) fun _ _ _ _ _ _ us hl => match us, hl with | [_, _], _ => rfl) (fun cdv A outer s H E c =>
    (ass_one (as_if (at_w (aw_or (at_not (at_val (ae_call F_is_listed c (aa_cons (ae_var 1) aa_nil) (lCons_len lNil_len)))) (aw_or (at_gt (ae_len T.z_len (aq_ofE (ae_var 1))) (ae_conI T.c_MOST_DENIALS)) (aw_or1 (at_not (at_val (ae_all c T.z_all (am_ofL (al_comp c (ai_seq (ae_var 1)) [("find", 2)] (blkOk_by (N := ["log", "denials", "find"]) (sc := (defScope s_check_denials)) (by decide +kernel)) (fun _ _ _ _ _ => (ag_name (Ctx.blk c _ _ _ _ _).nd 2)) (fun _ _ _ _ _ => ats_nil) (fun _ _ _ _ _ => (ae_call F_is_find (Ctx.blk c _ _ _ _ _) (aa_cons (ae_var 0) (aa_cons (ae_var 2) aa_nil)) (lCons_len (lCons_len lNil_len))))))))))))) (ass_one (as_raise c T.x_NoDenials)) ass_nil)))

theorem ok_is_doing_but (T : Facts G) (F_are_true : FnA G P w base 3 "are_true" 3 m_are_true) (F_check_denials : FnA G P w base 4 "check_denials" 2 m_check_denials) (F_check_finds : FnA G P w base 4 "check_finds" 2 m_check_finds) (F_is_doing : FnA G P w base 2 "is_doing" 2 m_is_doing) : FnA G P w base 5 "is_doing_but" 4 m_is_doing_but := by
  rw [m_is_doing_but_eq]
  obtain ⟨f, fd, F, hm⟩ := T.f_is_doing_but
  exact FnA.of F sc_is_doing_but hm (F.binds (ps := ["log", "finds", "denials", "thing"]) fun _ _ _ _ _ _ us hl => match us, hl with | [_, _, _, _], _ => rfl) (fun cdv A outer s H E c =>
    (ass_cons (as_expr (ae_call F_check_finds c (aa_cons (ae_var 0) (aa_cons (ae_var 1) aa_nil)) (lCons_len (lCons_len lNil_len))))
    (ass_cons (as_expr (ae_call F_check_denials c (aa_cons (ae_var 0) (aa_cons (ae_var 2) aa_nil)) (lCons_len (lCons_len lNil_len))))
    (ass_cons (as_if (at_w (aw_or (at_not (at_val (ae_call F_is_doing c (aa_cons (ae_var 0) (aa_cons (ae_var 3) aa_nil)) (lCons_len (lCons_len lNil_len))))) (aw_or1 (at_not (at_val (ae_call F_are_true c (aa_cons (ae_var 0) (aa_cons (ae_var 1) (aa_cons (ae_var 3) aa_nil))) (lCons_len (lCons_len (lCons_len lNil_len))))))))) (ass_one (as_ret ae_bl)) ass_nil)
    (ass_one (as_ret (ae_not (ae_any c T.z_any (am_ofL (al_comp c (ai_seq (ae_var 2)) [("denial", 4)] (blkOk_by (N := ["log", "finds", "denials", "thing", "denial"]) (sc := (defScope s_is_doing_but)) (by decide +kernel)) (fun _ _ _ _ _ => (ag_name (Ctx.blk c _ _ _ _ _).nd 4)) (fun _ _ _ _ _ => ats_nil) (fun _ _ _ _ _ => (ae_call F_are_true (Ctx.blk c _ _ _ _ _) (aa_cons (ae_var 0) (aa_cons (ae_ofL (al_lst (aa_cons (ae_var 4) aa_nil))) (aa_cons (ae_var 3) aa_nil))) (lCons_len (lCons_len (lCons_len lNil_len)))))))))))))))

theorem ok__law_hand (T : Facts G)  : FnA G P w base 1 "_law_hand" 1 m__law_hand := by
  rw [m__law_hand_eq]
  obtain ⟨f, fd, F, hm⟩ := T.f__law_hand
  exact FnA.of F sc__law_hand hm (F.binds (ps := ["_law_script"]) fun _ _ _ _ _ _ us hl => match us, hl with | [_], _ => rfl) (fun cdv A outer s H E c =>
    (ass_cons (as_setLc c 1 (ai_lst (al_slL (ae_var 0) ao_none (ao_some ae_int))) [("_law_cell", 2)] (blkOk_by (N := ["_law_script", "_law_cells", "_law_cell"]) (sc := (defScope s__law_hand)) (by decide +kernel)) (fun _ _ _ _ _ => (ag_name (Ctx.blk c _ _ _ _ _).nd 2)) (fun _ _ _ _ _ => ats_nil) (fun _ _ _ _ _ => (ae_abs T.z_abs (aa_cons (ae_int1 T.z_int (aa_cons (ae_var 2) aa_nil)) aa_nil))) (sw_true rfl rfl rfl (by decide +kernel)))
    (ass_one (as_ret (ae_ofL (al_lst (aa_cons (ae_var 1) (aa_cons ae_int (aa_cons ae_int (aa_cons (ae_add ae_int (ae_len T.z_len (aq_ofE (ae_var 1)))) (aa_cons ae_int aa_nil)))))))))))

theorem ok__law_draw (T : Facts G)  : FnA G P w base 1 "_law_draw" 2 m__law_draw := by
  rw [m__law_draw_eq]
  obtain ⟨f, fd, F, hm⟩ := T.f__law_draw
  exact FnA.of F sc__law_draw hm (F.binds (ps := ["_law_hand_here", "_law_many"]) fun _ _ _ _ _ _ us hl => match us, hl with | [_, _], _ => rfl) (fun cdv A outer s H E c =>
    (ass_cons (as_if (at_w (aw_and (at_eq c (ae_get (ae_var 0) ae_int) ae_int) (aw_and1 (at_lt (ae_get (ae_var 0) ae_int) (ae_len T.z_len (aq_ofE (ae_get (ae_var 0) ae_int))))))) (ass_cons (as_set c 3 (ae_get (ae_get (ae_var 0) ae_int) (ae_get (ae_var 0) ae_int)))
    (ass_cons (as_sub (ae_var 0) ae_int (ae_add (ae_get (ae_var 0) ae_int) ae_int))
    (ass_cons (as_sub (ae_var 0) ae_int (ae_mod (ae_int1 T.z_int (aa_cons (ae_add (ae_add (ae_mul (ae_get (ae_var 0) ae_int) ae_int) (ae_var 3)) ae_int) aa_nil)) ae_int))
    (ass_one (as_if (at_ge (ae_var 3) (ae_pow ae_int ae_int)) (ass_one (as_sub (ae_var 0) ae_int (ae_var 3))) ass_nil))))) ass_nil)
    (ass_cons (as_if (at_gt (ae_get (ae_var 0) ae_int) ae_int) (ass_cons (as_set c 4 (ae_mod (ae_int1 T.z_int (aa_cons (ae_get (ae_var 0) ae_int) aa_nil)) (ae_var 1)))
    (ass_cons (as_sub (ae_var 0) ae_int (ae_fdiv (ae_get (ae_var 0) ae_int) (ae_var 1)))
    (ass_one (as_ret (ae_var 4))))) ass_nil)
    (ass_cons (as_sub (ae_var 0) ae_int (ae_add (ae_get (ae_var 0) ae_int) ae_int))
    (ass_cons (as_set c 2 (ae_mod (ae_int1 T.z_int (aa_cons (ae_mul (ae_int1 T.z_int (aa_cons (ae_add (ae_get (ae_var 0) ae_int) (ae_mul ae_int (ae_get (ae_var 0) ae_int))) aa_nil)) ae_int) aa_nil)) ae_int))
    (ass_cons (as_set c 2 (ae_mod (ae_int1 T.z_int (aa_cons (ae_mul (ae_var 2) (ae_add (ae_fdiv (ae_var 2) ae_int) ae_int)) aa_nil)) ae_int))
    (ass_cons (as_set c 2 (ae_mod (ae_int1 T.z_int (aa_cons (ae_mul (ae_var 2) (ae_add (ae_fdiv (ae_var 2) ae_int) ae_int)) aa_nil)) ae_int))
    (ass_one (as_ret (ae_mod (ae_int1 T.z_int (aa_cons (ae_fdiv (ae_var 2) ae_int) aa_nil)) (ae_var 1)))))))))))

theorem ok__law_row (T : Facts G) (F__law_draw : FnA G P w base 1 "_law_draw" 2 m__law_draw) : FnA G P w base 2 "_law_row" 3 m__law_row := by
  rw [m__law_row_eq]
  obtain ⟨f, fd, F, hm⟩ := T.f__law_row
  exact FnA.of F sc__law_row hm (F.binds (ps := ["_law_hand_here", "_law_offices", "_law_share"]) fun _ _ _ _ _ _ us hl => match us, hl with | [_, _, _], _ => rfl) (fun cdv A outer s H E c =>
    (ass_cons (as_set c 3 (ae_call F__law_draw c (aa_cons (ae_var 0) (aa_cons (ae_var 1) aa_nil)) (lCons_len (lCons_len lNil_len))))
    (ass_cons (as_set c 4 (ae_sub (ae_add (ae_var 3) ae_int) (ae_mul ae_int (ae_call F__law_draw c (aa_cons (ae_var 0) (aa_cons ae_int aa_nil)) (lCons_len (lCons_len lNil_len))))))
    (ass_cons (as_if (at_w (aw_or (at_lt (ae_var 4) ae_int) (aw_or1 (at_eq c (ae_var 4) (ae_var 1))))) (ass_one (as_set c 4 (ae_sub (ae_mul ae_int (ae_var 3)) (ae_var 4)))) ass_nil)
    (ass_one (as_ret (ae_tup (aa_cons (ae_var 3) (aa_cons (ae_var 4) (aa_cons (ae_lt (ae_call F__law_draw c (aa_cons (ae_var 0) (aa_cons ae_int aa_nil)) (lCons_len (lCons_len lNil_len))) (ae_var 2)) aa_nil))))))))))

theorem ok__law_rows (T : Facts G) (F__law_draw : FnA G P w base 1 "_law_draw" 2 m__law_draw) (F__law_row : FnA G P w base 2 "_law_row" 3 m__law_row) : FnA G P w base 3 "_law_rows" 4 m__law_rows := by
  rw [m__law_rows_eq]
  obtain ⟨f, fd, F, hm⟩ := T.f__law_rows
  exact FnA.of F sc__law_rows hm (F.binds (ps := ["_law_hand_here", "_law_offices", "_law_most", "_law_share"]) fun _ _ _ _ _ _ us hl => match us, hl with | [_, _, _, _], _ => rfl) (fun cdv A outer s H E c =>
    (ass_cons (as_if (at_eq c (ae_var 1) ae_int) (ass_one (as_ret (ae_tup aa_nil))) ass_nil)
    (ass_one (as_ret (ae_tuple T.z_tuple (aq_ofL (al_comp c (ai_range1 T.z_range (aa_cons (ae_call F__law_draw c (aa_cons (ae_var 0) (aa_cons (ae_add (ae_var 2) ae_int) aa_nil)) (lCons_len (lCons_len lNil_len))) aa_nil)) [("_law_turn", 4)] (blkOk_by (N := ["_law_hand_here", "_law_offices", "_law_most", "_law_share", "_law_turn"]) (sc := (defScope s__law_rows)) (by decide +kernel)) (fun _ _ _ _ _ => (ag_name (Ctx.blk c _ _ _ _ _).nd 4)) (fun _ _ _ _ _ => ats_nil) (fun _ _ _ _ _ => (ae_call F__law_row (Ctx.blk c _ _ _ _ _) (aa_cons (ae_var 0) (aa_cons (ae_var 1) (aa_cons (ae_var 3) aa_nil))) (lCons_len (lCons_len (lCons_len lNil_len))))))))))))

theorem ok__law_some_doing (T : Facts G) (F__law_draw : FnA G P w base 1 "_law_draw" 2 m__law_draw) : FnA G P w base 2 "_law_some_doing" 2 m__law_some_doing := by
  rw [m__law_some_doing_eq]
  obtain ⟨f, fd, F, hm⟩ := T.f__law_some_doing
  exact FnA.of F sc__law_some_doing hm (F.binds (ps := ["_law_hand_here", "_law_rows_here"]) fun _ _ _ _ _ _ us hl => match us, hl with | [_, _], _ => rfl) (fun cdv A outer s H E c =>
    (ass_one (as_ret (ae_tuple T.z_tuple (aq_ofL (al_comp c (ai_seq (ae_var 1)) [("_law_row_here", 2)] (blkOk_by (N := ["_law_hand_here", "_law_rows_here", "_law_row_here"]) (sc := (defScope s__law_some_doing)) (by decide +kernel)) (fun _ _ _ _ _ => (ag_name (Ctx.blk c _ _ _ _ _).nd 2)) (fun _ _ _ _ _ => ats_nil) (fun _ _ _ _ _ => (ae_or (ae_get (ae_var 2) ae_int) (ae_one (ae_eq (Ctx.blk c _ _ _ _ _) (ae_call F__law_draw (Ctx.blk c _ _ _ _ _) (aa_cons (ae_var 0) (aa_cons ae_int aa_nil)) (lCons_len (lCons_len lNil_len))) ae_int))))))))))

theorem ok__law_led (T : Facts G)  : FnA G P w base 1 "_law_led" 3 m__law_led := by
  rw [m__law_led_eq]
  obtain ⟨f, fd, F, hm⟩ := T.f__law_led
  exact FnA.of F sc__law_led hm (F.binds (ps := ["_law_offices", "_law_rows_here", "_law_doing"]) fun _ _ _ _ _ _ us hl => match us, hl with | [_, _, _], _ => rfl) (fun cdv A outer s H E c =>
    (ass_cons (as_set c 3 (ae_ofL (al_lst (aa_cons (ae_tupRng1 c T.z_tuple T.z_range (ae_var 0)) aa_nil))))
    (ass_cons (as_for c (ai_zip T.z_zip (aa_cons (ae_var 2) (aa_cons (ae_var 1) aa_nil))) (ag_tup c.calm (ags_cons (ag_name c.nd 4) (ags_cons (ag_name c.nd 5) ags_nil))) (ass_cons (as_set c 6 (ae_ofL (al_list T.z_list (aq_ofE (ae_get (ae_var 3) (ae_neg ae_int))))))
    (ass_cons (as_if (at_val (ae_var 4)) (ass_one (as_sub (ae_var 6) (ae_get (ae_var 5) ae_int) (ae_get (ae_var 6) (ae_get (ae_var 5) ae_int)))) ass_nil)
    (ass_one (as_expr (ae_append (ae_var 3) (aa_cons (ae_tuple T.z_tuple (aq_ofE (ae_var 6))) aa_nil)))))))
    (ass_one (as_ret (ae_var 3))))))

theorem ok__law_finds (T : Facts G) (F__law_draw : FnA G P w base 1 "_law_draw" 2 m__law_draw) (F__law_led : FnA G P w base 1 "_law_led" 3 m__law_led) (F__law_some_doing : FnA G P w base 2 "_law_some_doing" 2 m__law_some_doing) : FnA G P w base 3 "_law_finds" 5 m__law_finds := by
  rw [m__law_finds_eq]
  obtain ⟨f, fd, F, hm⟩ := T.f__law_finds
  exact FnA.of F sc__law_finds hm (F.binds (ps := ["_law_hand_here", "_law_offices", "_law_rows_here", "_law_most", "_law_odd"]) fun _ _ _ _ _ _ us hl => match us, hl with | [_, _, _, _, _], _ => rfl) (fun cdv A outer s H E c =>
    (ass_cons (as_set c 5 (ae_ofL (al_drop (ae_call F__law_led c (aa_cons (ae_var 1) (aa_cons (ae_var 2) (aa_cons (ae_call F__law_some_doing c (aa_cons (ae_var 0) (aa_cons (ae_var 2) aa_nil)) (lCons_len (lCons_len lNil_len))) aa_nil))) (lCons_len (lCons_len (lCons_len lNil_len)))))))
    (ass_cons (as_set c 6 (ae_ofL (al_lst aa_nil)))
    (ass_cons (as_for c (ai_range1 T.z_range (aa_cons (ae_call F__law_draw c (aa_cons (ae_var 0) (aa_cons (ae_add (ae_var 3) ae_int) aa_nil)) (lCons_len (lCons_len lNil_len))) aa_nil)) (ag_name c.nd 7) (ass_cons (as_set c 8 (ae_call F__law_draw c (aa_cons (ae_var 0) (aa_cons (ae_add (ae_len T.z_len (aq_ofE (ae_var 2))) ae_int) aa_nil)) (lCons_len (lCons_len lNil_len))))
    (ass_cons (as_set c 9 (ae_call F__law_draw c (aa_cons (ae_var 0) (aa_cons (ae_var 1) aa_nil)) (lCons_len (lCons_len lNil_len))))
    (ass_cons (as_set c 10 (ae_get (ae_get (ae_var 5) (ae_var 8)) (ae_var 9)))
    (ass_cons (as_if (at_eq c (ae_call F__law_draw c (aa_cons (ae_var 0) (aa_cons (ae_var 4) aa_nil)) (lCons_len (lCons_len lNil_len))) ae_int) (ass_one (as_set c 10 (ae_call F__law_draw c (aa_cons (ae_var 0) (aa_cons (ae_var 1) aa_nil)) (lCons_len (lCons_len lNil_len))))) ass_nil)
    (ass_one (as_expr (ae_append (ae_var 6) (aa_cons (ae_tup (aa_cons (ae_var 8) (aa_cons (ae_var 9) (aa_cons (ae_var 10) aa_nil)))) aa_nil)))))))))
    (ass_one (as_ret (ae_var 6)))))))

theorem ok__law_flag (T : Facts G)  : FnA G P w base 1 "_law_flag" 2 m__law_flag := by
  rw [m__law_flag_eq]
  obtain ⟨f, fd, F, hm⟩ := T.f__law_flag
  exact FnA.of F sc__law_flag hm (F.binds (ps := ["_law_got", "_law_due_here"]) fun _ _ _ _ _ _ us hl => match us, hl with | [_, _], _ => rfl) (fun cdv A outer s H E c =>
    (ass_one (as_ret (ae_and (ae_isiO "bool" T.g_Log T.z_isinstance (ae_var 0) (hmx := T.z_bool)) (ae_one (ae_eq c (ae_var 0) (ae_var 1)))))))

theorem ok__law_is_doing (T : Facts G)  : FnA G P w base 1 "_law_is_doing" 2 m__law_is_doing := by
  rw [m__law_is_doing_eq]
  obtain ⟨f, fd, F, hm⟩ := T.f__law_is_doing
  exact FnA.of F sc__law_is_doing hm (F.binds (ps := ["_law_rows_here", "_law_thing"]) fun _ _ _ _ _ _ us hl => match us, hl with | [_, _], _ => rfl) (fun cdv A outer s H E c =>
    (ass_cons (as_if (at_w (aw_or (at_not (at_val (ae_isiO "tuple" T.g_Log T.z_isinstance (ae_var 1) (hmx := T.z_tuple)))) (aw_or (at_ne c (ae_len T.z_len (aq_ofE (ae_var 1))) (ae_len T.z_len (aq_ofE (ae_var 0)))) (aw_or1 (at_not (at_val (ae_all c T.z_all (am_ofL (al_comp c (ai_seq (ae_var 1)) [("_law_flag_here", 2)] (blkOk_by (N := ["_law_rows_here", "_law_thing", "_law_flag_here", "_law_row_here"]) (sc := (defScope s__law_is_doing)) (by decide +kernel)) (fun _ _ _ _ _ => (ag_name (Ctx.blk c _ _ _ _ _).nd 2)) (fun _ _ _ _ _ => ats_nil) (fun _ _ _ _ _ => (ae_isiO "bool" T.g_Log T.z_isinstance (ae_var 2) (hmx := T.z_bool)))))))))))) (ass_one (as_ret ae_bl)) ass_nil)
    (ass_one (as_ret (ae_all c T.z_all (am_ofL (al_comp c (ai_zip T.z_zip (aa_cons (ae_var 1) (aa_cons (ae_var 0) aa_nil))) [("_law_flag_here", 2), ("_law_row_here", 3)] (blkOk_by (N := ["_law_rows_here", "_law_thing", "_law_flag_here", "_law_row_here"]) (sc := (defScope s__law_is_doing)) (by decide +kernel)) (fun _ _ _ _ _ => (ag_tup (Ctx.blk c _ _ _ _ _).calm (ags_cons (ag_name (Ctx.blk c _ _ _ _ _).nd 2) (ags_cons (ag_name (Ctx.blk c _ _ _ _ _).nd 3) ags_nil)))) (fun _ _ _ _ _ => ats_nil) (fun _ _ _ _ _ => (ae_or (ae_var 2) (ae_one (ae_not (ae_get (ae_var 3) ae_int))))))))))))

theorem ok__law_due (T : Facts G) (F__law_is_doing : FnA G P w base 1 "_law_is_doing" 2 m__law_is_doing) (F__law_led : FnA G P w base 1 "_law_led" 3 m__law_led) : FnA G P w base 2 "_law_due" 5 m__law_due := by
  rw [m__law_due_eq]
  obtain ⟨f, fd, F, hm⟩ := T.f__law_due
  exact FnA.of F sc__law_due hm (F.binds (ps := ["_law_offices", "_law_rows_here", "_law_finds_here", "_law_denials", "_law_thing"]) fun _ _ _ _ _ _ us hl => match us, hl with | [_, _, _, _, _], _ => rfl) (fun cdv A outer s H E c =>
    (ass_cons (as_if (at_not (at_val (ae_call F__law_is_doing c (aa_cons (ae_var 1) (aa_cons (ae_var 4) aa_nil)) (lCons_len (lCons_len lNil_len))))) (ass_one (as_ret (ae_ofL (al_lst (aa_cons ae_bl (aa_cons ae_bl aa_nil)))))) ass_nil)
    (ass_cons (as_set c 5 (ae_ofL (al_drop (ae_call F__law_led c (aa_cons (ae_var 0) (aa_cons (ae_var 1) (aa_cons (ae_var 4) aa_nil))) (lCons_len (lCons_len (lCons_len lNil_len)))))))
    (ass_cons (as_set c 6 (ae_all c T.z_all (am_ofL (al_comp c (ai_seq (ae_var 2)) [("_law_moment", 7), ("_law_office", 8), ("_law_edition", 9)] (blkOk_by (N := ["_law_offices", "_law_rows_here", "_law_finds_here", "_law_denials", "_law_thing", "_law_led_here", "_law_are_true", "_law_moment", "_law_office", "_law_edition"]) (sc := (defScope s__law_due)) (by decide +kernel)) (fun _ _ _ _ _ => (ag_tup (Ctx.blk c _ _ _ _ _).calm (ags_cons (ag_name (Ctx.blk c _ _ _ _ _).nd 7) (ags_cons (ag_name (Ctx.blk c _ _ _ _ _).nd 8) (ags_cons (ag_name (Ctx.blk c _ _ _ _ _).nd 9) ags_nil))))) (fun _ _ _ _ _ => ats_nil) (fun _ _ _ _ _ => (ae_eq (Ctx.blk c _ _ _ _ _) (ae_get (ae_get (ae_var 5) (ae_var 7)) (ae_var 8)) (ae_var 9)))))))
    (ass_one (as_ret (ae_ofL (al_lst (aa_cons (ae_var 6) (aa_cons (ae_and (ae_var 6) (ae_one (ae_not (ae_any c T.z_any (am_ofL (al_comp c (ai_seq (ae_var 3)) [("_law_moment", 7), ("_law_office", 8), ("_law_edition", 9)] (blkOk_by (N := ["_law_offices", "_law_rows_here", "_law_finds_here", "_law_denials", "_law_thing", "_law_led_here", "_law_are_true", "_law_moment", "_law_office", "_law_edition"]) (sc := (defScope s__law_due)) (by decide +kernel)) (fun _ _ _ _ _ => (ag_tup (Ctx.blk c _ _ _ _ _).calm (ags_cons (ag_name (Ctx.blk c _ _ _ _ _).nd 7) (ags_cons (ag_name (Ctx.blk c _ _ _ _ _).nd 8) (ags_cons (ag_name (Ctx.blk c _ _ _ _ _).nd 9) ags_nil))))) (fun _ _ _ _ _ => ats_nil) (fun _ _ _ _ _ => (ae_eq (Ctx.blk c _ _ _ _ _) (ae_get (ae_get (ae_var 5) (ae_var 7)) (ae_var 8)) (ae_var 9))))))))) aa_nil))))))))))

theorem ok__law_deep (T : Facts G)  : FnA G P w base 1 "_law_deep" 1 m__law_deep := by
  rw [m__law_deep_eq]
  obtain ⟨f, fd, F, hm⟩ := T.f__law_deep
  exact FnA.of F sc__law_deep hm (F.binds (ps := ["_law_kind"]) fun _ _ _ _ _ _ us hl => match us, hl with | [_], _ => rfl) (fun cdv A outer s H E c =>
    (ass_cons (as_set c 1 (ae_get (ae_ofL (al_lst (aa_cons ae_non (aa_cons ae_str aa_nil)))) (ae_int1 T.z_int (aa_cons (ae_gt (ae_var 0) ae_int) aa_nil))))
    (ass_cons (as_for c (ai_range1 T.z_range (aa_cons ae_int aa_nil)) (ag_name c.nd 2) (ass_one (as_set c 1 (ae_get (ae_ofL (al_lst (aa_cons (ae_tup (aa_cons (ae_var 1) aa_nil)) (aa_cons (ae_ofL (al_lst (aa_cons (ae_var 1) aa_nil))) (aa_cons (ae_dct1 ae_str (ae_var 1)) aa_nil))))) (ae_mod (ae_int1 T.z_int (aa_cons (ae_var 0) aa_nil)) ae_int)))))
    (ass_one (as_ret (ae_var 1))))))

theorem ok__law_bent (T : Facts G) (F__law_deep : FnA G P w base 1 "_law_deep" 1 m__law_deep) (F__law_draw : FnA G P w base 1 "_law_draw" 2 m__law_draw) : FnA G P w base 2 "_law_bent" 3 m__law_bent := by
  rw [m__law_bent_eq]
  obtain ⟨f, fd, F, hm⟩ := T.f__law_bent
  exact FnA.of F sc__law_bent hm (F.binds (ps := ["_law_hand_here", "_law_log", "_law_doing"]) fun _ _ _ _ _ _ us hl => match us, hl with | [_, _, _], _ => rfl) (fun cdv A outer s H E c =>
    (ass_cons (as_set c 3 (ae_call F__law_draw c (aa_cons (ae_var 0) (aa_cons (ae_add (ae_len T.z_len (aq_ofE (ae_var 2))) ae_int) aa_nil)) (lCons_len (lCons_len lNil_len))))
    (ass_cons (as_set c 4 (ae_get (ae_ofL (al_lst (aa_cons ae_int (aa_cons ae_int (aa_cons ae_non (aa_cons ae_str (aa_cons (ae_tup aa_nil) (aa_cons (ae_ofL (al_lst (aa_cons ae_bl aa_nil))) (aa_cons (ae_call F__law_deep c (aa_cons (ae_call F__law_draw c (aa_cons (ae_var 0) (aa_cons ae_int aa_nil)) (lCons_len (lCons_len lNil_len))) aa_nil) (lCons_len lNil_len)) (aa_cons (ae_var 1) aa_nil)))))))))) (ae_call F__law_draw c (aa_cons (ae_var 0) (aa_cons ae_int aa_nil)) (lCons_len (lCons_len lNil_len)))))
    (ass_cons (as_set c 5 (ae_ofL (al_lst (aa_cons (ae_add (ae_add (ae_slT (ae_var 2) ao_none (ao_some (ae_var 3))) (ae_tup (aa_cons (ae_var 4) aa_nil))) (ae_slT (ae_var 2) (ao_some (ae_add (ae_var 3) ae_int)) ao_none)) (aa_cons (ae_add (ae_add (ae_slT (ae_var 2) ao_none (ao_some (ae_var 3))) (ae_tup (aa_cons ae_bl aa_nil))) (ae_slT (ae_var 2) (ao_some (ae_var 3)) ao_none)) (aa_cons (ae_slT (ae_var 2) ao_none (ao_some (ae_neg ae_int))) (aa_cons (ae_add (ae_var 2) (ae_tup (aa_cons ae_bl aa_nil))) aa_nil)))))))
    (ass_cons (as_set c 5 (ae_ofL (al_catE (ae_var 5) (am_ofL (al_lst (aa_cons (ae_ofL (al_list T.z_list (aq_ofE (ae_var 2)))) (aa_cons (ae_add (ae_tuple T.z_tuple (aq_ofL (al_comp c (ai_seq (ae_slT (ae_var 2) ao_none (ao_some ae_int))) [("_law_flag_here", 6)] (blkOk_by (N := ["_law_hand_here", "_law_log", "_law_doing", "_law_at", "_law_item", "_law_odd", "_law_flag_here"]) (sc := (defScope s__law_bent)) (by decide +kernel)) (fun _ _ _ _ _ => (ag_name (Ctx.blk c _ _ _ _ _).nd 6)) (fun _ _ _ _ _ => ats_nil) (fun _ _ _ _ _ => (ae_not (ae_var 6)))))) (ae_slT (ae_var 2) (ao_some ae_int) ao_none)) (aa_cons ae_non (aa_cons (ae_tup aa_nil) (aa_cons ae_int (aa_cons ae_bl (aa_cons ae_str (aa_cons ae_dct0 aa_nil)))))))))))))
    (ass_cons (as_set c 5 (ae_ofL (al_catE (ae_var 5) (am_ofL (al_lst (aa_cons (ae_var 1) (aa_cons (ae_tup (aa_cons (ae_var 2) aa_nil)) aa_nil)))))))
    (ass_cons (as_expr (ae_append (ae_var 5) (aa_cons (ae_call F__law_deep c (aa_cons (ae_call F__law_draw c (aa_cons (ae_var 0) (aa_cons ae_int aa_nil)) (lCons_len (lCons_len lNil_len))) aa_nil) (lCons_len lNil_len)) aa_nil)))
    (ass_cons (as_expr (ae_append (ae_var 5) (aa_cons (ae_add (ae_add (ae_slT (ae_var 2) ao_none (ao_some (ae_var 3))) (ae_tuple T.z_tuple (aq_ofL (al_comp c (ai_seq (ae_slT (ae_var 2) (ao_some (ae_var 3)) (ao_some (ae_add (ae_var 3) ae_int)))) [("_law_flag_here", 6)] (blkOk_by (N := ["_law_hand_here", "_law_log", "_law_doing", "_law_at", "_law_item", "_law_odd", "_law_flag_here"]) (sc := (defScope s__law_bent)) (by decide +kernel)) (fun _ _ _ _ _ => (ag_name (Ctx.blk c _ _ _ _ _).nd 6)) (fun _ _ _ _ _ => ats_nil) (fun _ _ _ _ _ => (ae_not (ae_var 6))))))) (ae_slT (ae_var 2) (ao_some (ae_add (ae_var 3) ae_int)) ao_none)) aa_nil)))
    (ass_one (as_ret (ae_get (ae_var 5) (ae_call F__law_draw c (aa_cons (ae_var 0) (aa_cons ae_int aa_nil)) (lCons_len (lCons_len lNil_len))))))))))))))

theorem ok_law (T : Facts G) (F_Log__init : MkA G P w base 5 "Log" 3 m_Log__init) (F__law_bent : FnA G P w base 2 "_law_bent" 3 m__law_bent) (F__law_draw : FnA G P w base 1 "_law_draw" 2 m__law_draw) (F__law_due : FnA G P w base 2 "_law_due" 5 m__law_due) (F__law_finds : FnA G P w base 3 "_law_finds" 5 m__law_finds) (F__law_flag : FnA G P w base 1 "_law_flag" 2 m__law_flag) (F__law_hand : FnA G P w base 1 "_law_hand" 1 m__law_hand) (F__law_rows : FnA G P w base 3 "_law_rows" 4 m__law_rows) (F__law_some_doing : FnA G P w base 2 "_law_some_doing" 2 m__law_some_doing) (F_doing_for : FnA G P w base 8 "doing_for" 2 m_doing_for) (F_is_doing_but : FnA G P w base 5 "is_doing_but" 4 m_is_doing_but) (F_is_doing_for : FnA G P w base 5 "is_doing_for" 3 m_is_doing_for) : FnA G P w base 9 "law" 1 m_law := by
  rw [m_law_eq]
  obtain ⟨f, fd, F, hm⟩ := T.f_law
  exact FnA.of F sc_law hm (F.binds (ps := ["_law_script"]) fun _ _ _ _ _ _ us hl => match us, hl with | [_], _ => rfl) (fun cdv A outer s H E c =>
    (ass_cons (as_set c 1 (ae_call F__law_hand c (aa_cons (ae_var 0) aa_nil) (lCons_len lNil_len)))
    (ass_cons (as_for c (ai_range1 T.z_range (aa_cons ae_int aa_nil)) (ag_name c.nd 2) (ass_cons (as_set c 3 (ae_add ae_int (ae_call F__law_draw c (aa_cons (ae_var 1) (aa_cons ae_int aa_nil)) (lCons_len (lCons_len lNil_len)))))
    (ass_cons (as_set c 4 (ae_call F__law_rows c (aa_cons (ae_var 1) (aa_cons (ae_var 3) (aa_cons ae_int (aa_cons ae_int aa_nil)))) (lCons_len (lCons_len (lCons_len (lCons_len lNil_len))))))
    (ass_cons (as_set c 5 (ae_ofL (al_drop (ae_call F__law_finds c (aa_cons (ae_var 1) (aa_cons (ae_var 3) (aa_cons (ae_var 4) (aa_cons ae_int (aa_cons ae_int aa_nil))))) (lCons_len (lCons_len (lCons_len (lCons_len (lCons_len lNil_len)))))))))
    (ass_cons (as_set c 6 (ae_ofL (al_drop (ae_call F__law_finds c (aa_cons (ae_var 1) (aa_cons (ae_var 3) (aa_cons (ae_var 4) (aa_cons ae_int (aa_cons ae_int aa_nil))))) (lCons_len (lCons_len (lCons_len (lCons_len (lCons_len lNil_len)))))))))
    (ass_cons (as_set c 7 (ae_make F_Log__init c (aa_cons (ae_var 3) (aa_cons (ae_var 4) aa_nil)) (lCons_len (lCons_len lNil_len))))
    (ass_cons (as_set c 8 (ae_call F_doing_for c (aa_cons (ae_var 7) (aa_cons (ae_var 5) aa_nil)) (lCons_len (lCons_len lNil_len))))
    (ass_one (as_for c (ai_range1 T.z_range (aa_cons ae_int aa_nil)) (ag_name c.nd 9) (ass_cons (as_set c 10 (ae_call F__law_some_doing c (aa_cons (ae_var 1) (aa_cons (ae_var 4) aa_nil)) (lCons_len (lCons_len lNil_len))))
    (ass_cons (as_if (at_w (aw_and (at_notN (ae_var 8)) (aw_and1 (at_gt (ae_call F__law_draw c (aa_cons (ae_var 1) (aa_cons ae_int aa_nil)) (lCons_len (lCons_len lNil_len))) ae_int)))) (ass_one (as_set c 10 (ae_var 8))) ass_nil)
    (ass_cons (as_set c 11 (ae_var 10))
    (ass_cons (as_if (at_gt (ae_call F__law_draw c (aa_cons (ae_var 1) (aa_cons ae_int aa_nil)) (lCons_len (lCons_len lNil_len))) ae_int) (ass_one (as_set c 11 (ae_call F__law_bent c (aa_cons (ae_var 1) (aa_cons (ae_var 7) (aa_cons (ae_var 10) aa_nil))) (lCons_len (lCons_len (lCons_len lNil_len)))))) ass_nil)
    (ass_cons (as_set c 12 (ae_ofL (al_drop (ae_call F__law_due c (aa_cons (ae_var 3) (aa_cons (ae_var 4) (aa_cons (ae_var 5) (aa_cons (ae_var 6) (aa_cons (ae_var 11) aa_nil))))) (lCons_len (lCons_len (lCons_len (lCons_len (lCons_len lNil_len)))))))))
    (ass_cons (as_if (at_not (at_val (ae_call F__law_flag c (aa_cons (ae_call F_is_doing_for c (aa_cons (ae_var 7) (aa_cons (ae_var 5) (aa_cons (ae_var 11) aa_nil))) (lCons_len (lCons_len (lCons_len lNil_len)))) (aa_cons (ae_get (ae_var 12) ae_int) aa_nil)) (lCons_len (lCons_len lNil_len))))) (ass_one (as_ret ae_bl)) ass_nil)
    (ass_one (as_if (at_not (at_val (ae_call F__law_flag c (aa_cons (ae_call F_is_doing_but c (aa_cons (ae_var 7) (aa_cons (ae_var 5) (aa_cons (ae_var 6) (aa_cons (ae_var 11) aa_nil)))) (lCons_len (lCons_len (lCons_len (lCons_len lNil_len))))) (aa_cons (ae_get (ae_var 12) ae_int) aa_nil)) (lCons_len (lCons_len lNil_len))))) (ass_one (as_ret ae_bl)) ass_nil)))))))))))))))))
    (ass_one (as_ret ae_bl)))))

end
end TK

set_option Elab.async false
set_option linter.all false
set_option maxRecDepth 100000
set_option maxHeartbeats 4000000
namespace TK
open PySem PySem.Spec
open PyProof.Rows hiding St
open L2
section
variable {P : Program} {w : World} {G : GX} {base : Heap}
theorem okx_law (T : Facts G) {f : Addr} {fd : FuncData} (F : Fun G.K "law" "law" s_law f fd) (F_Log__init : MkA G P w base 5 "Log" 3 m_Log__init) (F__law_bent : FnA G P w base 2 "_law_bent" 3 m__law_bent) (F__law_draw : FnA G P w base 1 "_law_draw" 2 m__law_draw) (F__law_due : FnA G P w base 2 "_law_due" 5 m__law_due) (F__law_finds : FnA G P w base 3 "_law_finds" 5 m__law_finds) (F__law_flag : FnA G P w base 1 "_law_flag" 2 m__law_flag) (F__law_hand : FnA G P w base 1 "_law_hand" 1 m__law_hand) (F__law_rows : FnA G P w base 3 "_law_rows" 4 m__law_rows) (F__law_some_doing : FnA G P w base 2 "_law_some_doing" 2 m__law_some_doing) (F_doing_for : FnA G P w base 8 "doing_for" 2 m_doing_for) (F_is_doing_but : FnA G P w base 5 "is_doing_but" 4 m_is_doing_but) (F_is_doing_for : FnA G P w base 5 "is_doing_for" 3 m_is_doing_for) : FnOk P w G.K G.mg base (L2.CX P w) 9 f fd ["_law_script"] (spA G m_law 1) := by
  rw [m_law_eq]
  exact FnOk.ofA F sc_law (fun cdv A outer s H E c =>
    (ass_cons (as_set c 1 (ae_call F__law_hand c (aa_cons (ae_var 0) aa_nil) (lCons_len lNil_len)))
    (ass_cons (as_for c (ai_range1 T.z_range (aa_cons ae_int aa_nil)) (ag_name c.nd 2) (ass_cons (as_set c 3 (ae_add ae_int (ae_call F__law_draw c (aa_cons (ae_var 1) (aa_cons ae_int aa_nil)) (lCons_len (lCons_len lNil_len)))))
    (ass_cons (as_set c 4 (ae_call F__law_rows c (aa_cons (ae_var 1) (aa_cons (ae_var 3) (aa_cons ae_int (aa_cons ae_int aa_nil)))) (lCons_len (lCons_len (lCons_len (lCons_len lNil_len))))))
    (ass_cons (as_set c 5 (ae_ofL (al_drop (ae_call F__law_finds c (aa_cons (ae_var 1) (aa_cons (ae_var 3) (aa_cons (ae_var 4) (aa_cons ae_int (aa_cons ae_int aa_nil))))) (lCons_len (lCons_len (lCons_len (lCons_len (lCons_len lNil_len)))))))))
    (ass_cons (as_set c 6 (ae_ofL (al_drop (ae_call F__law_finds c (aa_cons (ae_var 1) (aa_cons (ae_var 3) (aa_cons (ae_var 4) (aa_cons ae_int (aa_cons ae_int aa_nil))))) (lCons_len (lCons_len (lCons_len (lCons_len (lCons_len lNil_len)))))))))
    (ass_cons (as_set c 7 (ae_make F_Log__init c (aa_cons (ae_var 3) (aa_cons (ae_var 4) aa_nil)) (lCons_len (lCons_len lNil_len))))
    (ass_cons (as_set c 8 (ae_call F_doing_for c (aa_cons (ae_var 7) (aa_cons (ae_var 5) aa_nil)) (lCons_len (lCons_len lNil_len))))
    (ass_one (as_for c (ai_range1 T.z_range (aa_cons ae_int aa_nil)) (ag_name c.nd 9) (ass_cons (as_set c 10 (ae_call F__law_some_doing c (aa_cons (ae_var 1) (aa_cons (ae_var 4) aa_nil)) (lCons_len (lCons_len lNil_len))))
    (ass_cons (as_if (at_w (aw_and (at_notN (ae_var 8)) (aw_and1 (at_gt (ae_call F__law_draw c (aa_cons (ae_var 1) (aa_cons ae_int aa_nil)) (lCons_len (lCons_len lNil_len))) ae_int)))) (ass_one (as_set c 10 (ae_var 8))) ass_nil)
    (ass_cons (as_set c 11 (ae_var 10))
    (ass_cons (as_if (at_gt (ae_call F__law_draw c (aa_cons (ae_var 1) (aa_cons ae_int aa_nil)) (lCons_len (lCons_len lNil_len))) ae_int) (ass_one (as_set c 11 (ae_call F__law_bent c (aa_cons (ae_var 1) (aa_cons (ae_var 7) (aa_cons (ae_var 10) aa_nil))) (lCons_len (lCons_len (lCons_len lNil_len)))))) ass_nil)
    (ass_cons (as_set c 12 (ae_ofL (al_drop (ae_call F__law_due c (aa_cons (ae_var 3) (aa_cons (ae_var 4) (aa_cons (ae_var 5) (aa_cons (ae_var 6) (aa_cons (ae_var 11) aa_nil))))) (lCons_len (lCons_len (lCons_len (lCons_len (lCons_len lNil_len)))))))))
    (ass_cons (as_if (at_not (at_val (ae_call F__law_flag c (aa_cons (ae_call F_is_doing_for c (aa_cons (ae_var 7) (aa_cons (ae_var 5) (aa_cons (ae_var 11) aa_nil))) (lCons_len (lCons_len (lCons_len lNil_len)))) (aa_cons (ae_get (ae_var 12) ae_int) aa_nil)) (lCons_len (lCons_len lNil_len))))) (ass_one (as_ret ae_bl)) ass_nil)
    (ass_one (as_if (at_not (at_val (ae_call F__law_flag c (aa_cons (ae_call F_is_doing_but c (aa_cons (ae_var 7) (aa_cons (ae_var 5) (aa_cons (ae_var 6) (aa_cons (ae_var 11) aa_nil)))) (lCons_len (lCons_len (lCons_len (lCons_len lNil_len))))) (aa_cons (ae_get (ae_var 12) ae_int) aa_nil)) (lCons_len (lCons_len lNil_len))))) (ass_one (as_ret ae_bl)) ass_nil)))))))))))))))))
    (ass_one (as_ret ae_bl)))))
theorem okx_all (T : Facts G) {f : Addr} {fd : FuncData} (F : Fun G.K "law" "law" s_law f fd) : FnOk P w G.K G.mg base (L2.CX P w) 9 f fd ["_law_script"] (spA G m_law 1) := by
  have F_is_integer : FnA G P w base 1 "is_integer" 1 m_is_integer := ok_is_integer T 
  have F_is_within : FnA G P w base 2 "is_within" 3 m_is_within := ok_is_within T F_is_integer
  have F_is_triple : FnA G P w base 1 "is_triple" 1 m_is_triple := ok_is_triple T 
  have F_is_flag : FnA G P w base 1 "is_flag" 1 m_is_flag := ok_is_flag T 
  have F_is_row : FnA G P w base 3 "is_row" 2 m_is_row := ok_is_row T F_is_flag F_is_triple F_is_within
  have F_first_bad : FnA G P w base 4 "first_bad" 2 m_first_bad := ok_first_bad T F_is_row
  have F_Log__init : MkA G P w base 5 "Log" 3 m_Log__init := ok_Log__init T F_first_bad F_is_within
  have F_is_listed : FnA G P w base 1 "is_listed" 1 m_is_listed := ok_is_listed T 
  have F_is_find : FnA G P w base 3 "is_find" 2 m_is_find := ok_is_find T F_is_triple F_is_within
  have F_check_finds : FnA G P w base 4 "check_finds" 2 m_check_finds := ok_check_finds T F_is_find F_is_listed
  have F_Family__m_doing : DefA G P w base 1 "Family" "doing" 1 m_Family__m_doing := ok_Family__m_doing T 
  have F_is_left : FnA G P w base 1 "is_left" 1 m_is_left := ok_is_left T 
  have F_cut_of : FnA G P w base 1 "cut_of" 1 m_cut_of := ok_cut_of T 
  have F_step_of : FnA G P w base 2 "step_of" 1 m_step_of := ok_step_of T F_cut_of F_is_left
  have F_steps_of : FnA G P w base 3 "steps_of" 1 m_steps_of := ok_steps_of T F_step_of
  have F_latest_shown : FnA G P w base 1 "latest_shown" 1 m_latest_shown := ok_latest_shown T 
  have F_first_bounds : FnA G P w base 1 "first_bounds" 2 m_first_bounds := ok_first_bounds T 
  have F_is_denied : FnA G P w base 1 "is_denied" 2 m_is_denied := ok_is_denied T 
  have F_Family__m_put : DefA G P w base 2 "Family" "put" 3 m_Family__m_put := ok_Family__m_put T F_is_denied
  have F_cut_on : FnA G P w base 1 "cut_on" 2 m_cut_on := ok_cut_on T 
  have F_cut_back : FnA G P w base 1 "cut_back" 2 m_cut_back := ok_cut_back T 
  have F_bounds_from : FnA G P w base 2 "bounds_from" 4 m_bounds_from := ok_bounds_from T F_cut_back F_cut_on
  have F_Family__m_spread : DefA G P w base 3 "Family" "spread" 1 m_Family__m_spread := ok_Family__m_spread T F_Family__m_put F_bounds_from
  have F_Family__init : MkA G P w base 4 "Family" 4 m_Family__init := ok_Family__init T F_Family__m_put F_Family__m_spread F_first_bounds F_latest_shown
  have F_family_of : FnA G P w base 6 "family_of" 2 m_family_of := ok_family_of T F_Family__init F_steps_of
  have F_best_doing : FnA G P w base 7 "best_doing" 2 m_best_doing := ok_best_doing T F_Family__m_doing F_family_of
  have F_doing_for : FnA G P w base 8 "doing_for" 2 m_doing_for := ok_doing_for T F_best_doing F_check_finds
  have F_is_doing : FnA G P w base 2 "is_doing" 2 m_is_doing := ok_is_doing T F_is_flag
  have F_begun : FnA G P w base 1 "begun" 1 m_begun := ok_begun T 
  have F_copied : FnA G P w base 1 "copied" 2 m_copied := ok_copied T 
  have F_led : FnA G P w base 2 "led" 2 m_led := ok_led T F_begun F_copied
  have F_are_true : FnA G P w base 3 "are_true" 3 m_are_true := ok_are_true T F_led
  have F_is_doing_for : FnA G P w base 5 "is_doing_for" 3 m_is_doing_for := ok_is_doing_for T F_are_true F_check_finds F_is_doing
  have F_check_denials : FnA G P w base 4 "check_denials" 2 m_check_denials := ok_check_denials T F_is_find F_is_listed
  have F_is_doing_but : FnA G P w base 5 "is_doing_but" 4 m_is_doing_but := ok_is_doing_but T F_are_true F_check_denials F_check_finds F_is_doing
  have F__law_hand : FnA G P w base 1 "_law_hand" 1 m__law_hand := ok__law_hand T 
  have F__law_draw : FnA G P w base 1 "_law_draw" 2 m__law_draw := ok__law_draw T 
  have F__law_row : FnA G P w base 2 "_law_row" 3 m__law_row := ok__law_row T F__law_draw
  have F__law_rows : FnA G P w base 3 "_law_rows" 4 m__law_rows := ok__law_rows T F__law_draw F__law_row
  have F__law_some_doing : FnA G P w base 2 "_law_some_doing" 2 m__law_some_doing := ok__law_some_doing T F__law_draw
  have F__law_led : FnA G P w base 1 "_law_led" 3 m__law_led := ok__law_led T 
  have F__law_finds : FnA G P w base 3 "_law_finds" 5 m__law_finds := ok__law_finds T F__law_draw F__law_led F__law_some_doing
  have F__law_flag : FnA G P w base 1 "_law_flag" 2 m__law_flag := ok__law_flag T 
  have F__law_is_doing : FnA G P w base 1 "_law_is_doing" 2 m__law_is_doing := ok__law_is_doing T 
  have F__law_due : FnA G P w base 2 "_law_due" 5 m__law_due := ok__law_due T F__law_is_doing F__law_led
  have F__law_deep : FnA G P w base 1 "_law_deep" 1 m__law_deep := ok__law_deep T 
  have F__law_bent : FnA G P w base 2 "_law_bent" 3 m__law_bent := ok__law_bent T F__law_deep F__law_draw
  exact okx_law T F F_Log__init F__law_bent F__law_draw F__law_due F__law_finds F__law_flag F__law_hand F__law_rows F__law_some_doing F_doing_for F_is_doing_but F_is_doing_for
end
theorem all_mk {P : Program} {w : World} {K : PySem.W.Frag} {h : Heap} {mg : Str → Option Value} {fa : Addr} (X : K.In h) (N : h.Ns mainGlobals mg) (hfa : mg "law" = some (.ref fa)) (hk : noListK K = true) (hm : ∀ ns : List Int, ns.length ≤ 63 → ∃ st', m_law [.ref 0] [.rol (ns.map D.int)] = .ok (.bl true) st')
    (z_abs : PySem.W.nsIn K mainGlobals "abs" = some none)
    (z_all : PySem.W.nsIn K mainGlobals "all" = some none)
    (z_any : PySem.W.nsIn K mainGlobals "any" = some none)
    (z_bool : PySem.W.nsIn K mainGlobals "bool" = some none)
    (z_enumerate : PySem.W.nsIn K mainGlobals "enumerate" = some none)
    (z_int : PySem.W.nsIn K mainGlobals "int" = some none)
    (z_isinstance : PySem.W.nsIn K mainGlobals "isinstance" = some none)
    (z_len : PySem.W.nsIn K mainGlobals "len" = some none)
    (z_list : PySem.W.nsIn K mainGlobals "list" = some none)
    (z_max : PySem.W.nsIn K mainGlobals "max" = some none)
    (z_range : PySem.W.nsIn K mainGlobals "range" = some none)
    (z_tuple : PySem.W.nsIn K mainGlobals "tuple" = some none)
    (z_zip : PySem.W.nsIn K mainGlobals "zip" = some none)
    {ct_MOST_DENIALS : _} (c_MOST_DENIALS : PySem.W.nsIn K mainGlobals "MOST_DENIALS" = some (some (.int 3 ct_MOST_DENIALS)))
    {ct_MOST_FINDS : _} (c_MOST_FINDS : PySem.W.nsIn K mainGlobals "MOST_FINDS" = some (some (.int 40 ct_MOST_FINDS)))
    {ct_MOST_OFFICES : _} (c_MOST_OFFICES : PySem.W.nsIn K mainGlobals "MOST_OFFICES" = some (some (.int 12 ct_MOST_OFFICES)))
    {ct_MOST_ROWS : _} (c_MOST_ROWS : PySem.W.nsIn K mainGlobals "MOST_ROWS" = some (some (.int 60 ct_MOST_ROWS)))
    {ct_ON_LEFT : _} (c_ON_LEFT : PySem.W.nsIn K mainGlobals "ON_LEFT" = some (some (.str "left" ct_ON_LEFT)))
    {ct_ON_RIGHT : _} (c_ON_RIGHT : PySem.W.nsIn K mainGlobals "ON_RIGHT" = some (some (.str "right" ct_ON_RIGHT)))
    {f_is_integer : Addr} {od_is_integer an_is_integer : Option Addr} {sl_is_integer : Array (Option Value)} {oc_is_integer kV_is_integer dc_is_integer pm_is_integer cd_is_integer ct_is_integer : Value} (fa_is_integer : PySem.W.nsIn K mainGlobals "is_integer" = some (some (.ref f_is_integer))) (fl_is_integer : K.lookup f_is_integer = some ⟨oc_is_integer, od_is_integer, .func (PySem.W.fnOf "is_integer" "is_integer" (defArgs s_is_integer) (defBody s_is_integer) (defScope s_is_integer) .none kV_is_integer dc_is_integer pm_is_integer an_is_integer cd_is_integer ct_is_integer), sl_is_integer⟩) (fc_is_integer : PySem.W.codeIn K cd_is_integer "is_integer" = true) (fk_is_integer : PySem.W.keepIn K (.ref f_is_integer) = true)
    {f_is_within : Addr} {od_is_within an_is_within : Option Addr} {sl_is_within : Array (Option Value)} {oc_is_within kV_is_within dc_is_within pm_is_within cd_is_within ct_is_within : Value} (fa_is_within : PySem.W.nsIn K mainGlobals "is_within" = some (some (.ref f_is_within))) (fl_is_within : K.lookup f_is_within = some ⟨oc_is_within, od_is_within, .func (PySem.W.fnOf "is_within" "is_within" (defArgs s_is_within) (defBody s_is_within) (defScope s_is_within) .none kV_is_within dc_is_within pm_is_within an_is_within cd_is_within ct_is_within), sl_is_within⟩) (fc_is_within : PySem.W.codeIn K cd_is_within "is_within" = true) (fk_is_within : PySem.W.keepIn K (.ref f_is_within) = true)
    {f_is_triple : Addr} {od_is_triple an_is_triple : Option Addr} {sl_is_triple : Array (Option Value)} {oc_is_triple kV_is_triple dc_is_triple pm_is_triple cd_is_triple ct_is_triple : Value} (fa_is_triple : PySem.W.nsIn K mainGlobals "is_triple" = some (some (.ref f_is_triple))) (fl_is_triple : K.lookup f_is_triple = some ⟨oc_is_triple, od_is_triple, .func (PySem.W.fnOf "is_triple" "is_triple" (defArgs s_is_triple) (defBody s_is_triple) (defScope s_is_triple) .none kV_is_triple dc_is_triple pm_is_triple an_is_triple cd_is_triple ct_is_triple), sl_is_triple⟩) (fc_is_triple : PySem.W.codeIn K cd_is_triple "is_triple" = true) (fk_is_triple : PySem.W.keepIn K (.ref f_is_triple) = true)
    {f_is_flag : Addr} {od_is_flag an_is_flag : Option Addr} {sl_is_flag : Array (Option Value)} {oc_is_flag kV_is_flag dc_is_flag pm_is_flag cd_is_flag ct_is_flag : Value} (fa_is_flag : PySem.W.nsIn K mainGlobals "is_flag" = some (some (.ref f_is_flag))) (fl_is_flag : K.lookup f_is_flag = some ⟨oc_is_flag, od_is_flag, .func (PySem.W.fnOf "is_flag" "is_flag" (defArgs s_is_flag) (defBody s_is_flag) (defScope s_is_flag) .none kV_is_flag dc_is_flag pm_is_flag an_is_flag cd_is_flag ct_is_flag), sl_is_flag⟩) (fc_is_flag : PySem.W.codeIn K cd_is_flag "is_flag" = true) (fk_is_flag : PySem.W.keepIn K (.ref f_is_flag) = true)
    {f_is_row : Addr} {od_is_row an_is_row : Option Addr} {sl_is_row : Array (Option Value)} {oc_is_row kV_is_row dc_is_row pm_is_row cd_is_row ct_is_row : Value} (fa_is_row : PySem.W.nsIn K mainGlobals "is_row" = some (some (.ref f_is_row))) (fl_is_row : K.lookup f_is_row = some ⟨oc_is_row, od_is_row, .func (PySem.W.fnOf "is_row" "is_row" (defArgs s_is_row) (defBody s_is_row) (defScope s_is_row) .none kV_is_row dc_is_row pm_is_row an_is_row cd_is_row ct_is_row), sl_is_row⟩) (fc_is_row : PySem.W.codeIn K cd_is_row "is_row" = true) (fk_is_row : PySem.W.keepIn K (.ref f_is_row) = true)
    {f_first_bad : Addr} {od_first_bad an_first_bad : Option Addr} {sl_first_bad : Array (Option Value)} {oc_first_bad kV_first_bad dc_first_bad pm_first_bad cd_first_bad ct_first_bad : Value} (fa_first_bad : PySem.W.nsIn K mainGlobals "first_bad" = some (some (.ref f_first_bad))) (fl_first_bad : K.lookup f_first_bad = some ⟨oc_first_bad, od_first_bad, .func (PySem.W.fnOf "first_bad" "first_bad" (defArgs s_first_bad) (defBody s_first_bad) (defScope s_first_bad) .none kV_first_bad dc_first_bad pm_first_bad an_first_bad cd_first_bad ct_first_bad), sl_first_bad⟩) (fc_first_bad : PySem.W.codeIn K cd_first_bad "first_bad" = true) (fk_first_bad : PySem.W.keepIn K (.ref f_first_bad) = true)
    {C_Log fi_Log : Addr} {od_Log__init an_Log__init : Option Addr} {sl_Log__init : Array (Option Value)} {oc_Log__init kV_Log__init dc_Log__init pm_Log__init cd_Log__init ct_Log__init : Value} (ka_Log : PySem.W.nsIn K mainGlobals "Log" = some (some (.ref C_Log))) (ki_Log : PySem.W.findIn K (.ref C_Log) "__init__" = some (some (.ref fi_Log))) (kf_Log : PySem.W.isFn K (.ref fi_Log) = true) (kl_Log : K.lookup fi_Log = some ⟨oc_Log__init, od_Log__init, .func (PySem.W.fnOf "__init__" "Log.__init__" (defArgs s_Log__init) (defBody s_Log__init) (defScope s_Log__init) .none kV_Log__init dc_Log__init pm_Log__init an_Log__init cd_Log__init ct_Log__init), sl_Log__init⟩) (kc_Log : PySem.W.codeIn K cd_Log__init "Log.__init__" = true) (kk_Log : PySem.W.keepIn K (.ref fi_Log) = true) (km_Log : PySem.W.makesIn K C_Log = true) (kq_Log : PySem.W.keepIn K (.ref C_Log) = true) (kp_Log : PySem.W.plainGet K C_Log Str.empty = true) (kh_Log : PySem.W.hasDictIn K C_Log = true) (ko_Log : PySem.W.plainOver K C_Log = true) (ks_Log : PySem.W.findIn K (.ref C_Log) "__setattr__" = some (some (.builtin "object.__setattr__"))) (kn_Log_offices : PySem.W.findIn K (.ref C_Log) "offices" = some none) (kn_Log_rows : PySem.W.findIn K (.ref C_Log) "rows" = some none)
    {f_is_listed : Addr} {od_is_listed an_is_listed : Option Addr} {sl_is_listed : Array (Option Value)} {oc_is_listed kV_is_listed dc_is_listed pm_is_listed cd_is_listed ct_is_listed : Value} (fa_is_listed : PySem.W.nsIn K mainGlobals "is_listed" = some (some (.ref f_is_listed))) (fl_is_listed : K.lookup f_is_listed = some ⟨oc_is_listed, od_is_listed, .func (PySem.W.fnOf "is_listed" "is_listed" (defArgs s_is_listed) (defBody s_is_listed) (defScope s_is_listed) .none kV_is_listed dc_is_listed pm_is_listed an_is_listed cd_is_listed ct_is_listed), sl_is_listed⟩) (fc_is_listed : PySem.W.codeIn K cd_is_listed "is_listed" = true) (fk_is_listed : PySem.W.keepIn K (.ref f_is_listed) = true)
    {f_is_find : Addr} {od_is_find an_is_find : Option Addr} {sl_is_find : Array (Option Value)} {oc_is_find kV_is_find dc_is_find pm_is_find cd_is_find ct_is_find : Value} (fa_is_find : PySem.W.nsIn K mainGlobals "is_find" = some (some (.ref f_is_find))) (fl_is_find : K.lookup f_is_find = some ⟨oc_is_find, od_is_find, .func (PySem.W.fnOf "is_find" "is_find" (defArgs s_is_find) (defBody s_is_find) (defScope s_is_find) .none kV_is_find dc_is_find pm_is_find an_is_find cd_is_find ct_is_find), sl_is_find⟩) (fc_is_find : PySem.W.codeIn K cd_is_find "is_find" = true) (fk_is_find : PySem.W.keepIn K (.ref f_is_find) = true)
    {f_check_finds : Addr} {od_check_finds an_check_finds : Option Addr} {sl_check_finds : Array (Option Value)} {oc_check_finds kV_check_finds dc_check_finds pm_check_finds cd_check_finds ct_check_finds : Value} (fa_check_finds : PySem.W.nsIn K mainGlobals "check_finds" = some (some (.ref f_check_finds))) (fl_check_finds : K.lookup f_check_finds = some ⟨oc_check_finds, od_check_finds, .func (PySem.W.fnOf "check_finds" "check_finds" (defArgs s_check_finds) (defBody s_check_finds) (defScope s_check_finds) .none kV_check_finds dc_check_finds pm_check_finds an_check_finds cd_check_finds ct_check_finds), sl_check_finds⟩) (fc_check_finds : PySem.W.codeIn K cd_check_finds "check_finds" = true) (fk_check_finds : PySem.W.keepIn K (.ref f_check_finds) = true)
    {f_is_left : Addr} {od_is_left an_is_left : Option Addr} {sl_is_left : Array (Option Value)} {oc_is_left kV_is_left dc_is_left pm_is_left cd_is_left ct_is_left : Value} (fa_is_left : PySem.W.nsIn K mainGlobals "is_left" = some (some (.ref f_is_left))) (fl_is_left : K.lookup f_is_left = some ⟨oc_is_left, od_is_left, .func (PySem.W.fnOf "is_left" "is_left" (defArgs s_is_left) (defBody s_is_left) (defScope s_is_left) .none kV_is_left dc_is_left pm_is_left an_is_left cd_is_left ct_is_left), sl_is_left⟩) (fc_is_left : PySem.W.codeIn K cd_is_left "is_left" = true) (fk_is_left : PySem.W.keepIn K (.ref f_is_left) = true)
    {f_cut_of : Addr} {od_cut_of an_cut_of : Option Addr} {sl_cut_of : Array (Option Value)} {oc_cut_of kV_cut_of dc_cut_of pm_cut_of cd_cut_of ct_cut_of : Value} (fa_cut_of : PySem.W.nsIn K mainGlobals "cut_of" = some (some (.ref f_cut_of))) (fl_cut_of : K.lookup f_cut_of = some ⟨oc_cut_of, od_cut_of, .func (PySem.W.fnOf "cut_of" "cut_of" (defArgs s_cut_of) (defBody s_cut_of) (defScope s_cut_of) .none kV_cut_of dc_cut_of pm_cut_of an_cut_of cd_cut_of ct_cut_of), sl_cut_of⟩) (fc_cut_of : PySem.W.codeIn K cd_cut_of "cut_of" = true) (fk_cut_of : PySem.W.keepIn K (.ref f_cut_of) = true)
    {f_step_of : Addr} {od_step_of an_step_of : Option Addr} {sl_step_of : Array (Option Value)} {oc_step_of kV_step_of dc_step_of pm_step_of cd_step_of ct_step_of : Value} (fa_step_of : PySem.W.nsIn K mainGlobals "step_of" = some (some (.ref f_step_of))) (fl_step_of : K.lookup f_step_of = some ⟨oc_step_of, od_step_of, .func (PySem.W.fnOf "step_of" "step_of" (defArgs s_step_of) (defBody s_step_of) (defScope s_step_of) .none kV_step_of dc_step_of pm_step_of an_step_of cd_step_of ct_step_of), sl_step_of⟩) (fc_step_of : PySem.W.codeIn K cd_step_of "step_of" = true) (fk_step_of : PySem.W.keepIn K (.ref f_step_of) = true)
    {f_steps_of : Addr} {od_steps_of an_steps_of : Option Addr} {sl_steps_of : Array (Option Value)} {oc_steps_of kV_steps_of dc_steps_of pm_steps_of cd_steps_of ct_steps_of : Value} (fa_steps_of : PySem.W.nsIn K mainGlobals "steps_of" = some (some (.ref f_steps_of))) (fl_steps_of : K.lookup f_steps_of = some ⟨oc_steps_of, od_steps_of, .func (PySem.W.fnOf "steps_of" "steps_of" (defArgs s_steps_of) (defBody s_steps_of) (defScope s_steps_of) .none kV_steps_of dc_steps_of pm_steps_of an_steps_of cd_steps_of ct_steps_of), sl_steps_of⟩) (fc_steps_of : PySem.W.codeIn K cd_steps_of "steps_of" = true) (fk_steps_of : PySem.W.keepIn K (.ref f_steps_of) = true)
    {f_latest_shown : Addr} {od_latest_shown an_latest_shown : Option Addr} {sl_latest_shown : Array (Option Value)} {oc_latest_shown kV_latest_shown dc_latest_shown pm_latest_shown cd_latest_shown ct_latest_shown : Value} (fa_latest_shown : PySem.W.nsIn K mainGlobals "latest_shown" = some (some (.ref f_latest_shown))) (fl_latest_shown : K.lookup f_latest_shown = some ⟨oc_latest_shown, od_latest_shown, .func (PySem.W.fnOf "latest_shown" "latest_shown" (defArgs s_latest_shown) (defBody s_latest_shown) (defScope s_latest_shown) .none kV_latest_shown dc_latest_shown pm_latest_shown an_latest_shown cd_latest_shown ct_latest_shown), sl_latest_shown⟩) (fc_latest_shown : PySem.W.codeIn K cd_latest_shown "latest_shown" = true) (fk_latest_shown : PySem.W.keepIn K (.ref f_latest_shown) = true)
    {f_first_bounds : Addr} {od_first_bounds an_first_bounds : Option Addr} {sl_first_bounds : Array (Option Value)} {oc_first_bounds kV_first_bounds dc_first_bounds pm_first_bounds cd_first_bounds ct_first_bounds : Value} (fa_first_bounds : PySem.W.nsIn K mainGlobals "first_bounds" = some (some (.ref f_first_bounds))) (fl_first_bounds : K.lookup f_first_bounds = some ⟨oc_first_bounds, od_first_bounds, .func (PySem.W.fnOf "first_bounds" "first_bounds" (defArgs s_first_bounds) (defBody s_first_bounds) (defScope s_first_bounds) .none kV_first_bounds dc_first_bounds pm_first_bounds an_first_bounds cd_first_bounds ct_first_bounds), sl_first_bounds⟩) (fc_first_bounds : PySem.W.codeIn K cd_first_bounds "first_bounds" = true) (fk_first_bounds : PySem.W.keepIn K (.ref f_first_bounds) = true)
    {f_is_denied : Addr} {od_is_denied an_is_denied : Option Addr} {sl_is_denied : Array (Option Value)} {oc_is_denied kV_is_denied dc_is_denied pm_is_denied cd_is_denied ct_is_denied : Value} (fa_is_denied : PySem.W.nsIn K mainGlobals "is_denied" = some (some (.ref f_is_denied))) (fl_is_denied : K.lookup f_is_denied = some ⟨oc_is_denied, od_is_denied, .func (PySem.W.fnOf "is_denied" "is_denied" (defArgs s_is_denied) (defBody s_is_denied) (defScope s_is_denied) .none kV_is_denied dc_is_denied pm_is_denied an_is_denied cd_is_denied ct_is_denied), sl_is_denied⟩) (fc_is_denied : PySem.W.codeIn K cd_is_denied "is_denied" = true) (fk_is_denied : PySem.W.keepIn K (.ref f_is_denied) = true)
    {f_cut_on : Addr} {od_cut_on an_cut_on : Option Addr} {sl_cut_on : Array (Option Value)} {oc_cut_on kV_cut_on dc_cut_on pm_cut_on cd_cut_on ct_cut_on : Value} (fa_cut_on : PySem.W.nsIn K mainGlobals "cut_on" = some (some (.ref f_cut_on))) (fl_cut_on : K.lookup f_cut_on = some ⟨oc_cut_on, od_cut_on, .func (PySem.W.fnOf "cut_on" "cut_on" (defArgs s_cut_on) (defBody s_cut_on) (defScope s_cut_on) .none kV_cut_on dc_cut_on pm_cut_on an_cut_on cd_cut_on ct_cut_on), sl_cut_on⟩) (fc_cut_on : PySem.W.codeIn K cd_cut_on "cut_on" = true) (fk_cut_on : PySem.W.keepIn K (.ref f_cut_on) = true)
    {f_cut_back : Addr} {od_cut_back an_cut_back : Option Addr} {sl_cut_back : Array (Option Value)} {oc_cut_back kV_cut_back dc_cut_back pm_cut_back cd_cut_back ct_cut_back : Value} (fa_cut_back : PySem.W.nsIn K mainGlobals "cut_back" = some (some (.ref f_cut_back))) (fl_cut_back : K.lookup f_cut_back = some ⟨oc_cut_back, od_cut_back, .func (PySem.W.fnOf "cut_back" "cut_back" (defArgs s_cut_back) (defBody s_cut_back) (defScope s_cut_back) .none kV_cut_back dc_cut_back pm_cut_back an_cut_back cd_cut_back ct_cut_back), sl_cut_back⟩) (fc_cut_back : PySem.W.codeIn K cd_cut_back "cut_back" = true) (fk_cut_back : PySem.W.keepIn K (.ref f_cut_back) = true)
    {f_bounds_from : Addr} {od_bounds_from an_bounds_from : Option Addr} {sl_bounds_from : Array (Option Value)} {oc_bounds_from kV_bounds_from dc_bounds_from pm_bounds_from cd_bounds_from ct_bounds_from : Value} (fa_bounds_from : PySem.W.nsIn K mainGlobals "bounds_from" = some (some (.ref f_bounds_from))) (fl_bounds_from : K.lookup f_bounds_from = some ⟨oc_bounds_from, od_bounds_from, .func (PySem.W.fnOf "bounds_from" "bounds_from" (defArgs s_bounds_from) (defBody s_bounds_from) (defScope s_bounds_from) .none kV_bounds_from dc_bounds_from pm_bounds_from an_bounds_from cd_bounds_from ct_bounds_from), sl_bounds_from⟩) (fc_bounds_from : PySem.W.codeIn K cd_bounds_from "bounds_from" = true) (fk_bounds_from : PySem.W.keepIn K (.ref f_bounds_from) = true)
    {C_Family fi_Family : Addr} {od_Family__init an_Family__init : Option Addr} {sl_Family__init : Array (Option Value)} {oc_Family__init kV_Family__init dc_Family__init pm_Family__init cd_Family__init ct_Family__init : Value} (ka_Family : PySem.W.nsIn K mainGlobals "Family" = some (some (.ref C_Family))) (ki_Family : PySem.W.findIn K (.ref C_Family) "__init__" = some (some (.ref fi_Family))) (kf_Family : PySem.W.isFn K (.ref fi_Family) = true) (kl_Family : K.lookup fi_Family = some ⟨oc_Family__init, od_Family__init, .func (PySem.W.fnOf "__init__" "Family.__init__" (defArgs s_Family__init) (defBody s_Family__init) (defScope s_Family__init) .none kV_Family__init dc_Family__init pm_Family__init an_Family__init cd_Family__init ct_Family__init), sl_Family__init⟩) (kc_Family : PySem.W.codeIn K cd_Family__init "Family.__init__" = true) (kk_Family : PySem.W.keepIn K (.ref fi_Family) = true) (km_Family : PySem.W.makesIn K C_Family = true) (kq_Family : PySem.W.keepIn K (.ref C_Family) = true) (kp_Family : PySem.W.plainGet K C_Family Str.empty = true) (kh_Family : PySem.W.hasDictIn K C_Family = true) (ko_Family : PySem.W.plainOver K C_Family = true) (ks_Family : PySem.W.findIn K (.ref C_Family) "__setattr__" = some (some (.builtin "object.__setattr__"))) (kn_Family_came : PySem.W.findIn K (.ref C_Family) "came" = some none) (kn_Family_cuts : PySem.W.findIn K (.ref C_Family) "cuts" = some none) (kn_Family_denied : PySem.W.findIn K (.ref C_Family) "denied" = some none) (kn_Family_finds : PySem.W.findIn K (.ref C_Family) "finds" = some none) (kn_Family_latest : PySem.W.findIn K (.ref C_Family) "latest" = some none) (kn_Family_offices : PySem.W.findIn K (.ref C_Family) "offices" = some none) (kn_Family_steps : PySem.W.findIn K (.ref C_Family) "steps" = some none) (kn_Family_waiting : PySem.W.findIn K (.ref C_Family) "waiting" = some none)
    {f_family_of : Addr} {od_family_of an_family_of : Option Addr} {sl_family_of : Array (Option Value)} {oc_family_of kV_family_of dc_family_of pm_family_of cd_family_of ct_family_of : Value} (fa_family_of : PySem.W.nsIn K mainGlobals "family_of" = some (some (.ref f_family_of))) (fl_family_of : K.lookup f_family_of = some ⟨oc_family_of, od_family_of, .func (PySem.W.fnOf "family_of" "family_of" (defArgs s_family_of) (defBody s_family_of) (defScope s_family_of) .none kV_family_of dc_family_of pm_family_of an_family_of cd_family_of ct_family_of), sl_family_of⟩) (fc_family_of : PySem.W.codeIn K cd_family_of "family_of" = true) (fk_family_of : PySem.W.keepIn K (.ref f_family_of) = true)
    {f_best_doing : Addr} {od_best_doing an_best_doing : Option Addr} {sl_best_doing : Array (Option Value)} {oc_best_doing kV_best_doing dc_best_doing pm_best_doing cd_best_doing ct_best_doing : Value} (fa_best_doing : PySem.W.nsIn K mainGlobals "best_doing" = some (some (.ref f_best_doing))) (fl_best_doing : K.lookup f_best_doing = some ⟨oc_best_doing, od_best_doing, .func (PySem.W.fnOf "best_doing" "best_doing" (defArgs s_best_doing) (defBody s_best_doing) (defScope s_best_doing) .none kV_best_doing dc_best_doing pm_best_doing an_best_doing cd_best_doing ct_best_doing), sl_best_doing⟩) (fc_best_doing : PySem.W.codeIn K cd_best_doing "best_doing" = true) (fk_best_doing : PySem.W.keepIn K (.ref f_best_doing) = true)
    {f_doing_for : Addr} {od_doing_for an_doing_for : Option Addr} {sl_doing_for : Array (Option Value)} {oc_doing_for kV_doing_for dc_doing_for pm_doing_for cd_doing_for ct_doing_for : Value} (fa_doing_for : PySem.W.nsIn K mainGlobals "doing_for" = some (some (.ref f_doing_for))) (fl_doing_for : K.lookup f_doing_for = some ⟨oc_doing_for, od_doing_for, .func (PySem.W.fnOf "doing_for" "doing_for" (defArgs s_doing_for) (defBody s_doing_for) (defScope s_doing_for) .none kV_doing_for dc_doing_for pm_doing_for an_doing_for cd_doing_for ct_doing_for), sl_doing_for⟩) (fc_doing_for : PySem.W.codeIn K cd_doing_for "doing_for" = true) (fk_doing_for : PySem.W.keepIn K (.ref f_doing_for) = true)
    {f_is_doing : Addr} {od_is_doing an_is_doing : Option Addr} {sl_is_doing : Array (Option Value)} {oc_is_doing kV_is_doing dc_is_doing pm_is_doing cd_is_doing ct_is_doing : Value} (fa_is_doing : PySem.W.nsIn K mainGlobals "is_doing" = some (some (.ref f_is_doing))) (fl_is_doing : K.lookup f_is_doing = some ⟨oc_is_doing, od_is_doing, .func (PySem.W.fnOf "is_doing" "is_doing" (defArgs s_is_doing) (defBody s_is_doing) (defScope s_is_doing) .none kV_is_doing dc_is_doing pm_is_doing an_is_doing cd_is_doing ct_is_doing), sl_is_doing⟩) (fc_is_doing : PySem.W.codeIn K cd_is_doing "is_doing" = true) (fk_is_doing : PySem.W.keepIn K (.ref f_is_doing) = true)
    {f_begun : Addr} {od_begun an_begun : Option Addr} {sl_begun : Array (Option Value)} {oc_begun kV_begun dc_begun pm_begun cd_begun ct_begun : Value} (fa_begun : PySem.W.nsIn K mainGlobals "begun" = some (some (.ref f_begun))) (fl_begun : K.lookup f_begun = some ⟨oc_begun, od_begun, .func (PySem.W.fnOf "begun" "begun" (defArgs s_begun) (defBody s_begun) (defScope s_begun) .none kV_begun dc_begun pm_begun an_begun cd_begun ct_begun), sl_begun⟩) (fc_begun : PySem.W.codeIn K cd_begun "begun" = true) (fk_begun : PySem.W.keepIn K (.ref f_begun) = true)
    {f_copied : Addr} {od_copied an_copied : Option Addr} {sl_copied : Array (Option Value)} {oc_copied kV_copied dc_copied pm_copied cd_copied ct_copied : Value} (fa_copied : PySem.W.nsIn K mainGlobals "copied" = some (some (.ref f_copied))) (fl_copied : K.lookup f_copied = some ⟨oc_copied, od_copied, .func (PySem.W.fnOf "copied" "copied" (defArgs s_copied) (defBody s_copied) (defScope s_copied) .none kV_copied dc_copied pm_copied an_copied cd_copied ct_copied), sl_copied⟩) (fc_copied : PySem.W.codeIn K cd_copied "copied" = true) (fk_copied : PySem.W.keepIn K (.ref f_copied) = true)
    {f_led : Addr} {od_led an_led : Option Addr} {sl_led : Array (Option Value)} {oc_led kV_led dc_led pm_led cd_led ct_led : Value} (fa_led : PySem.W.nsIn K mainGlobals "led" = some (some (.ref f_led))) (fl_led : K.lookup f_led = some ⟨oc_led, od_led, .func (PySem.W.fnOf "led" "led" (defArgs s_led) (defBody s_led) (defScope s_led) .none kV_led dc_led pm_led an_led cd_led ct_led), sl_led⟩) (fc_led : PySem.W.codeIn K cd_led "led" = true) (fk_led : PySem.W.keepIn K (.ref f_led) = true)
    {f_are_true : Addr} {od_are_true an_are_true : Option Addr} {sl_are_true : Array (Option Value)} {oc_are_true kV_are_true dc_are_true pm_are_true cd_are_true ct_are_true : Value} (fa_are_true : PySem.W.nsIn K mainGlobals "are_true" = some (some (.ref f_are_true))) (fl_are_true : K.lookup f_are_true = some ⟨oc_are_true, od_are_true, .func (PySem.W.fnOf "are_true" "are_true" (defArgs s_are_true) (defBody s_are_true) (defScope s_are_true) .none kV_are_true dc_are_true pm_are_true an_are_true cd_are_true ct_are_true), sl_are_true⟩) (fc_are_true : PySem.W.codeIn K cd_are_true "are_true" = true) (fk_are_true : PySem.W.keepIn K (.ref f_are_true) = true)
    {f_is_doing_for : Addr} {od_is_doing_for an_is_doing_for : Option Addr} {sl_is_doing_for : Array (Option Value)} {oc_is_doing_for kV_is_doing_for dc_is_doing_for pm_is_doing_for cd_is_doing_for ct_is_doing_for : Value} (fa_is_doing_for : PySem.W.nsIn K mainGlobals "is_doing_for" = some (some (.ref f_is_doing_for))) (fl_is_doing_for : K.lookup f_is_doing_for = some ⟨oc_is_doing_for, od_is_doing_for, .func (PySem.W.fnOf "is_doing_for" "is_doing_for" (defArgs s_is_doing_for) (defBody s_is_doing_for) (defScope s_is_doing_for) .none kV_is_doing_for dc_is_doing_for pm_is_doing_for an_is_doing_for cd_is_doing_for ct_is_doing_for), sl_is_doing_for⟩) (fc_is_doing_for : PySem.W.codeIn K cd_is_doing_for "is_doing_for" = true) (fk_is_doing_for : PySem.W.keepIn K (.ref f_is_doing_for) = true)
    {f_check_denials : Addr} {od_check_denials an_check_denials : Option Addr} {sl_check_denials : Array (Option Value)} {oc_check_denials kV_check_denials dc_check_denials pm_check_denials cd_check_denials ct_check_denials : Value} (fa_check_denials : PySem.W.nsIn K mainGlobals "check_denials" = some (some (.ref f_check_denials))) (fl_check_denials : K.lookup f_check_denials = some ⟨oc_check_denials, od_check_denials, .func (PySem.W.fnOf "check_denials" "check_denials" (defArgs s_check_denials) (defBody s_check_denials) (defScope s_check_denials) .none kV_check_denials dc_check_denials pm_check_denials an_check_denials cd_check_denials ct_check_denials), sl_check_denials⟩) (fc_check_denials : PySem.W.codeIn K cd_check_denials "check_denials" = true) (fk_check_denials : PySem.W.keepIn K (.ref f_check_denials) = true)
    {f_is_doing_but : Addr} {od_is_doing_but an_is_doing_but : Option Addr} {sl_is_doing_but : Array (Option Value)} {oc_is_doing_but kV_is_doing_but dc_is_doing_but pm_is_doing_but cd_is_doing_but ct_is_doing_but : Value} (fa_is_doing_but : PySem.W.nsIn K mainGlobals "is_doing_but" = some (some (.ref f_is_doing_but))) (fl_is_doing_but : K.lookup f_is_doing_but = some ⟨oc_is_doing_but, od_is_doing_but, .func (PySem.W.fnOf "is_doing_but" "is_doing_but" (defArgs s_is_doing_but) (defBody s_is_doing_but) (defScope s_is_doing_but) .none kV_is_doing_but dc_is_doing_but pm_is_doing_but an_is_doing_but cd_is_doing_but ct_is_doing_but), sl_is_doing_but⟩) (fc_is_doing_but : PySem.W.codeIn K cd_is_doing_but "is_doing_but" = true) (fk_is_doing_but : PySem.W.keepIn K (.ref f_is_doing_but) = true)
    {f__law_hand : Addr} {od__law_hand an__law_hand : Option Addr} {sl__law_hand : Array (Option Value)} {oc__law_hand kV__law_hand dc__law_hand pm__law_hand cd__law_hand ct__law_hand : Value} (fa__law_hand : PySem.W.nsIn K mainGlobals "_law_hand" = some (some (.ref f__law_hand))) (fl__law_hand : K.lookup f__law_hand = some ⟨oc__law_hand, od__law_hand, .func (PySem.W.fnOf "_law_hand" "_law_hand" (defArgs s__law_hand) (defBody s__law_hand) (defScope s__law_hand) .none kV__law_hand dc__law_hand pm__law_hand an__law_hand cd__law_hand ct__law_hand), sl__law_hand⟩) (fc__law_hand : PySem.W.codeIn K cd__law_hand "_law_hand" = true) (fk__law_hand : PySem.W.keepIn K (.ref f__law_hand) = true)
    {f__law_draw : Addr} {od__law_draw an__law_draw : Option Addr} {sl__law_draw : Array (Option Value)} {oc__law_draw kV__law_draw dc__law_draw pm__law_draw cd__law_draw ct__law_draw : Value} (fa__law_draw : PySem.W.nsIn K mainGlobals "_law_draw" = some (some (.ref f__law_draw))) (fl__law_draw : K.lookup f__law_draw = some ⟨oc__law_draw, od__law_draw, .func (PySem.W.fnOf "_law_draw" "_law_draw" (defArgs s__law_draw) (defBody s__law_draw) (defScope s__law_draw) .none kV__law_draw dc__law_draw pm__law_draw an__law_draw cd__law_draw ct__law_draw), sl__law_draw⟩) (fc__law_draw : PySem.W.codeIn K cd__law_draw "_law_draw" = true) (fk__law_draw : PySem.W.keepIn K (.ref f__law_draw) = true)
    {f__law_row : Addr} {od__law_row an__law_row : Option Addr} {sl__law_row : Array (Option Value)} {oc__law_row kV__law_row dc__law_row pm__law_row cd__law_row ct__law_row : Value} (fa__law_row : PySem.W.nsIn K mainGlobals "_law_row" = some (some (.ref f__law_row))) (fl__law_row : K.lookup f__law_row = some ⟨oc__law_row, od__law_row, .func (PySem.W.fnOf "_law_row" "_law_row" (defArgs s__law_row) (defBody s__law_row) (defScope s__law_row) .none kV__law_row dc__law_row pm__law_row an__law_row cd__law_row ct__law_row), sl__law_row⟩) (fc__law_row : PySem.W.codeIn K cd__law_row "_law_row" = true) (fk__law_row : PySem.W.keepIn K (.ref f__law_row) = true)
    {f__law_rows : Addr} {od__law_rows an__law_rows : Option Addr} {sl__law_rows : Array (Option Value)} {oc__law_rows kV__law_rows dc__law_rows pm__law_rows cd__law_rows ct__law_rows : Value} (fa__law_rows : PySem.W.nsIn K mainGlobals "_law_rows" = some (some (.ref f__law_rows))) (fl__law_rows : K.lookup f__law_rows = some ⟨oc__law_rows, od__law_rows, .func (PySem.W.fnOf "_law_rows" "_law_rows" (defArgs s__law_rows) (defBody s__law_rows) (defScope s__law_rows) .none kV__law_rows dc__law_rows pm__law_rows an__law_rows cd__law_rows ct__law_rows), sl__law_rows⟩) (fc__law_rows : PySem.W.codeIn K cd__law_rows "_law_rows" = true) (fk__law_rows : PySem.W.keepIn K (.ref f__law_rows) = true)
    {f__law_some_doing : Addr} {od__law_some_doing an__law_some_doing : Option Addr} {sl__law_some_doing : Array (Option Value)} {oc__law_some_doing kV__law_some_doing dc__law_some_doing pm__law_some_doing cd__law_some_doing ct__law_some_doing : Value} (fa__law_some_doing : PySem.W.nsIn K mainGlobals "_law_some_doing" = some (some (.ref f__law_some_doing))) (fl__law_some_doing : K.lookup f__law_some_doing = some ⟨oc__law_some_doing, od__law_some_doing, .func (PySem.W.fnOf "_law_some_doing" "_law_some_doing" (defArgs s__law_some_doing) (defBody s__law_some_doing) (defScope s__law_some_doing) .none kV__law_some_doing dc__law_some_doing pm__law_some_doing an__law_some_doing cd__law_some_doing ct__law_some_doing), sl__law_some_doing⟩) (fc__law_some_doing : PySem.W.codeIn K cd__law_some_doing "_law_some_doing" = true) (fk__law_some_doing : PySem.W.keepIn K (.ref f__law_some_doing) = true)
    {f__law_led : Addr} {od__law_led an__law_led : Option Addr} {sl__law_led : Array (Option Value)} {oc__law_led kV__law_led dc__law_led pm__law_led cd__law_led ct__law_led : Value} (fa__law_led : PySem.W.nsIn K mainGlobals "_law_led" = some (some (.ref f__law_led))) (fl__law_led : K.lookup f__law_led = some ⟨oc__law_led, od__law_led, .func (PySem.W.fnOf "_law_led" "_law_led" (defArgs s__law_led) (defBody s__law_led) (defScope s__law_led) .none kV__law_led dc__law_led pm__law_led an__law_led cd__law_led ct__law_led), sl__law_led⟩) (fc__law_led : PySem.W.codeIn K cd__law_led "_law_led" = true) (fk__law_led : PySem.W.keepIn K (.ref f__law_led) = true)
    {f__law_finds : Addr} {od__law_finds an__law_finds : Option Addr} {sl__law_finds : Array (Option Value)} {oc__law_finds kV__law_finds dc__law_finds pm__law_finds cd__law_finds ct__law_finds : Value} (fa__law_finds : PySem.W.nsIn K mainGlobals "_law_finds" = some (some (.ref f__law_finds))) (fl__law_finds : K.lookup f__law_finds = some ⟨oc__law_finds, od__law_finds, .func (PySem.W.fnOf "_law_finds" "_law_finds" (defArgs s__law_finds) (defBody s__law_finds) (defScope s__law_finds) .none kV__law_finds dc__law_finds pm__law_finds an__law_finds cd__law_finds ct__law_finds), sl__law_finds⟩) (fc__law_finds : PySem.W.codeIn K cd__law_finds "_law_finds" = true) (fk__law_finds : PySem.W.keepIn K (.ref f__law_finds) = true)
    {f__law_flag : Addr} {od__law_flag an__law_flag : Option Addr} {sl__law_flag : Array (Option Value)} {oc__law_flag kV__law_flag dc__law_flag pm__law_flag cd__law_flag ct__law_flag : Value} (fa__law_flag : PySem.W.nsIn K mainGlobals "_law_flag" = some (some (.ref f__law_flag))) (fl__law_flag : K.lookup f__law_flag = some ⟨oc__law_flag, od__law_flag, .func (PySem.W.fnOf "_law_flag" "_law_flag" (defArgs s__law_flag) (defBody s__law_flag) (defScope s__law_flag) .none kV__law_flag dc__law_flag pm__law_flag an__law_flag cd__law_flag ct__law_flag), sl__law_flag⟩) (fc__law_flag : PySem.W.codeIn K cd__law_flag "_law_flag" = true) (fk__law_flag : PySem.W.keepIn K (.ref f__law_flag) = true)
    {f__law_is_doing : Addr} {od__law_is_doing an__law_is_doing : Option Addr} {sl__law_is_doing : Array (Option Value)} {oc__law_is_doing kV__law_is_doing dc__law_is_doing pm__law_is_doing cd__law_is_doing ct__law_is_doing : Value} (fa__law_is_doing : PySem.W.nsIn K mainGlobals "_law_is_doing" = some (some (.ref f__law_is_doing))) (fl__law_is_doing : K.lookup f__law_is_doing = some ⟨oc__law_is_doing, od__law_is_doing, .func (PySem.W.fnOf "_law_is_doing" "_law_is_doing" (defArgs s__law_is_doing) (defBody s__law_is_doing) (defScope s__law_is_doing) .none kV__law_is_doing dc__law_is_doing pm__law_is_doing an__law_is_doing cd__law_is_doing ct__law_is_doing), sl__law_is_doing⟩) (fc__law_is_doing : PySem.W.codeIn K cd__law_is_doing "_law_is_doing" = true) (fk__law_is_doing : PySem.W.keepIn K (.ref f__law_is_doing) = true)
    {f__law_due : Addr} {od__law_due an__law_due : Option Addr} {sl__law_due : Array (Option Value)} {oc__law_due kV__law_due dc__law_due pm__law_due cd__law_due ct__law_due : Value} (fa__law_due : PySem.W.nsIn K mainGlobals "_law_due" = some (some (.ref f__law_due))) (fl__law_due : K.lookup f__law_due = some ⟨oc__law_due, od__law_due, .func (PySem.W.fnOf "_law_due" "_law_due" (defArgs s__law_due) (defBody s__law_due) (defScope s__law_due) .none kV__law_due dc__law_due pm__law_due an__law_due cd__law_due ct__law_due), sl__law_due⟩) (fc__law_due : PySem.W.codeIn K cd__law_due "_law_due" = true) (fk__law_due : PySem.W.keepIn K (.ref f__law_due) = true)
    {f__law_deep : Addr} {od__law_deep an__law_deep : Option Addr} {sl__law_deep : Array (Option Value)} {oc__law_deep kV__law_deep dc__law_deep pm__law_deep cd__law_deep ct__law_deep : Value} (fa__law_deep : PySem.W.nsIn K mainGlobals "_law_deep" = some (some (.ref f__law_deep))) (fl__law_deep : K.lookup f__law_deep = some ⟨oc__law_deep, od__law_deep, .func (PySem.W.fnOf "_law_deep" "_law_deep" (defArgs s__law_deep) (defBody s__law_deep) (defScope s__law_deep) .none kV__law_deep dc__law_deep pm__law_deep an__law_deep cd__law_deep ct__law_deep), sl__law_deep⟩) (fc__law_deep : PySem.W.codeIn K cd__law_deep "_law_deep" = true) (fk__law_deep : PySem.W.keepIn K (.ref f__law_deep) = true)
    {f__law_bent : Addr} {od__law_bent an__law_bent : Option Addr} {sl__law_bent : Array (Option Value)} {oc__law_bent kV__law_bent dc__law_bent pm__law_bent cd__law_bent ct__law_bent : Value} (fa__law_bent : PySem.W.nsIn K mainGlobals "_law_bent" = some (some (.ref f__law_bent))) (fl__law_bent : K.lookup f__law_bent = some ⟨oc__law_bent, od__law_bent, .func (PySem.W.fnOf "_law_bent" "_law_bent" (defArgs s__law_bent) (defBody s__law_bent) (defScope s__law_bent) .none kV__law_bent dc__law_bent pm__law_bent an__law_bent cd__law_bent ct__law_bent), sl__law_bent⟩) (fc__law_bent : PySem.W.codeIn K cd__law_bent "_law_bent" = true) (fk__law_bent : PySem.W.keepIn K (.ref f__law_bent) = true)
    {f_law : Addr} {od_law an_law : Option Addr} {sl_law : Array (Option Value)} {oc_law kV_law dc_law pm_law cd_law ct_law : Value} (fa_law : PySem.W.nsIn K mainGlobals "law" = some (some (.ref f_law))) (fl_law : K.lookup f_law = some ⟨oc_law, od_law, .func (PySem.W.fnOf "law" "law" (defArgs s_law) (defBody s_law) (defScope s_law) .none kV_law dc_law pm_law an_law cd_law ct_law), sl_law⟩) (fc_law : PySem.W.codeIn K cd_law "law" = true) (fk_law : PySem.W.keepIn K (.ref f_law) = true)
    {fm_Family__m_doing : Addr} {od_Family__m_doing an_Family__m_doing : Option Addr} {sl_Family__m_doing : Array (Option Value)} {oc_Family__m_doing kV_Family__m_doing dc_Family__m_doing pm_Family__m_doing cd_Family__m_doing ct_Family__m_doing : Value} (mi_Family__m_doing : PySem.W.findIn K (.ref C_Family) "doing" = some (some (.ref fm_Family__m_doing))) (mf_Family__m_doing : PySem.W.isFn K (.ref fm_Family__m_doing) = true) (ml_Family__m_doing : K.lookup fm_Family__m_doing = some ⟨oc_Family__m_doing, od_Family__m_doing, .func (PySem.W.fnOf "doing" "Family.doing" (defArgs s_Family__m_doing) (defBody s_Family__m_doing) (defScope s_Family__m_doing) .none kV_Family__m_doing dc_Family__m_doing pm_Family__m_doing an_Family__m_doing cd_Family__m_doing ct_Family__m_doing), sl_Family__m_doing⟩) (mc_Family__m_doing : PySem.W.codeIn K cd_Family__m_doing "Family.doing" = true) (mk_Family__m_doing : PySem.W.keepIn K (.ref fm_Family__m_doing) = true)
    {fm_Family__m_put : Addr} {od_Family__m_put an_Family__m_put : Option Addr} {sl_Family__m_put : Array (Option Value)} {oc_Family__m_put kV_Family__m_put dc_Family__m_put pm_Family__m_put cd_Family__m_put ct_Family__m_put : Value} (mi_Family__m_put : PySem.W.findIn K (.ref C_Family) "put" = some (some (.ref fm_Family__m_put))) (mf_Family__m_put : PySem.W.isFn K (.ref fm_Family__m_put) = true) (ml_Family__m_put : K.lookup fm_Family__m_put = some ⟨oc_Family__m_put, od_Family__m_put, .func (PySem.W.fnOf "put" "Family.put" (defArgs s_Family__m_put) (defBody s_Family__m_put) (defScope s_Family__m_put) .none kV_Family__m_put dc_Family__m_put pm_Family__m_put an_Family__m_put cd_Family__m_put ct_Family__m_put), sl_Family__m_put⟩) (mc_Family__m_put : PySem.W.codeIn K cd_Family__m_put "Family.put" = true) (mk_Family__m_put : PySem.W.keepIn K (.ref fm_Family__m_put) = true)
    {fm_Family__m_spread : Addr} {od_Family__m_spread an_Family__m_spread : Option Addr} {sl_Family__m_spread : Array (Option Value)} {oc_Family__m_spread kV_Family__m_spread dc_Family__m_spread pm_Family__m_spread cd_Family__m_spread ct_Family__m_spread : Value} (mi_Family__m_spread : PySem.W.findIn K (.ref C_Family) "spread" = some (some (.ref fm_Family__m_spread))) (mf_Family__m_spread : PySem.W.isFn K (.ref fm_Family__m_spread) = true) (ml_Family__m_spread : K.lookup fm_Family__m_spread = some ⟨oc_Family__m_spread, od_Family__m_spread, .func (PySem.W.fnOf "spread" "Family.spread" (defArgs s_Family__m_spread) (defBody s_Family__m_spread) (defScope s_Family__m_spread) .none kV_Family__m_spread dc_Family__m_spread pm_Family__m_spread an_Family__m_spread cd_Family__m_spread ct_Family__m_spread), sl_Family__m_spread⟩) (mc_Family__m_spread : PySem.W.codeIn K cd_Family__m_spread "Family.spread" = true) (mk_Family__m_spread : PySem.W.keepIn K (.ref fm_Family__m_spread) = true)
    (jc_Log : PySem.W.findIn K (.ref C_Log) "__class__" = some (some (.builtin "object.__class__"))) (js_Log : PySem.W.specialIn K (.builtin "object.__class__") "__get__" = some (some (.builtin "getset_descriptor.__get__"))) (jt_Log : PySem.W.takesIn K (.builtin "object.__class__") = some true) (jm_Log : PySem.W.mroIn K C_Log (.type "object") = some true) (jb_Log : PySem.W.kitOne K (.ref C_Log) (.type "bool") = some false) (ji_Log : PySem.W.kitOne K (.ref C_Log) (.type "int") = some false) (ju_Log : PySem.W.kitOne K (.ref C_Log) (.type "str") = some false) (jp_Log : PySem.W.kitOne K (.ref C_Log) (.type "tuple") = some false) (jl_Log : PySem.W.kitOne K (.ref C_Log) (.type "list") = some false) (jd_Log : PySem.W.kitOne K (.ref C_Log) (.type "dict") = some false)
    {C_NoDenials : Addr} (xa_NoDenials : PySem.W.nsIn K mainGlobals "NoDenials" = some (some (.ref C_NoDenials))) (xe_NoDenials : PySem.W.excIn K C_NoDenials HandSPX.veTail "ValueError.__new__" = true) (xk_NoDenials : PySem.W.keepIn K (.ref C_NoDenials) = true) (xs_NoDenials : PySem.W.subIn K (.ref C_NoDenials) (.type "BaseException") = some true) (xt_NoDenials : PySem.W.typeIn K (.ref C_NoDenials) = some (.type "type"))
    {C_NoFinds : Addr} (xa_NoFinds : PySem.W.nsIn K mainGlobals "NoFinds" = some (some (.ref C_NoFinds))) (xe_NoFinds : PySem.W.excIn K C_NoFinds HandSPX.veTail "ValueError.__new__" = true) (xk_NoFinds : PySem.W.keepIn K (.ref C_NoFinds) = true) (xs_NoFinds : PySem.W.subIn K (.ref C_NoFinds) (.type "BaseException") = some true) (xt_NoFinds : PySem.W.typeIn K (.ref C_NoFinds) = some (.type "type")) :
    ∃ fd : FuncData, (∀ (s : Shared) (v : Value), BindsTo s fd ⟨[v], []⟩ [("_law_script", v)]) ∧ ∀ base : Heap, K.In base → base.Ns mainGlobals mg → FnOk P w K mg base (L2.CX P w) 9 fa fd ["_law_script"] (spEnd K 63) := by
  have e := hfa.symm.trans (PySem.W.mg_of X N fa_law)
  cases e
  have T : Facts ⟨K, mg⟩ := { z_abs := PySem.W.mg_none_of X N z_abs, z_all := PySem.W.mg_none_of X N z_all, z_any := PySem.W.mg_none_of X N z_any, z_bool := PySem.W.mg_none_of X N z_bool, z_enumerate := PySem.W.mg_none_of X N z_enumerate, z_int := PySem.W.mg_none_of X N z_int, z_isinstance := PySem.W.mg_none_of X N z_isinstance, z_len := PySem.W.mg_none_of X N z_len, z_list := PySem.W.mg_none_of X N z_list, z_max := PySem.W.mg_none_of X N z_max, z_range := PySem.W.mg_none_of X N z_range, z_tuple := PySem.W.mg_none_of X N z_tuple, z_zip := PySem.W.mg_none_of X N z_zip, c_MOST_DENIALS := ⟨_, PySem.W.mg_of X N c_MOST_DENIALS⟩, c_MOST_FINDS := ⟨_, PySem.W.mg_of X N c_MOST_FINDS⟩, c_MOST_OFFICES := ⟨_, PySem.W.mg_of X N c_MOST_OFFICES⟩, c_MOST_ROWS := ⟨_, PySem.W.mg_of X N c_MOST_ROWS⟩, c_ON_LEFT := ⟨_, PySem.W.mg_of X N c_ON_LEFT⟩, c_ON_RIGHT := ⟨_, PySem.W.mg_of X N c_ON_RIGHT⟩, f_is_integer := funF_of X N fa_is_integer fl_is_integer fc_is_integer fk_is_integer, f_is_within := funF_of X N fa_is_within fl_is_within fc_is_within fk_is_within, f_is_triple := funF_of X N fa_is_triple fl_is_triple fc_is_triple fk_is_triple, f_is_flag := funF_of X N fa_is_flag fl_is_flag fc_is_flag fk_is_flag, f_is_row := funF_of X N fa_is_row fl_is_row fc_is_row fk_is_row, f_first_bad := funF_of X N fa_first_bad fl_first_bad fc_first_bad fk_first_bad, i_Log := clsF_of X N ka_Log ki_Log kf_Log kl_Log kc_Log kk_Log km_Log kq_Log, a_Log := clsA_of X N ka_Log kp_Log kh_Log ko_Log ks_Log (fun f hf => by simp only [List.mem_cons, List.not_mem_nil, or_false] at hf; rcases hf with rfl | rfl; exact kn_Log_offices; exact kn_Log_rows), f_is_listed := funF_of X N fa_is_listed fl_is_listed fc_is_listed fk_is_listed, f_is_find := funF_of X N fa_is_find fl_is_find fc_is_find fk_is_find, f_check_finds := funF_of X N fa_check_finds fl_check_finds fc_check_finds fk_check_finds, f_is_left := funF_of X N fa_is_left fl_is_left fc_is_left fk_is_left, f_cut_of := funF_of X N fa_cut_of fl_cut_of fc_cut_of fk_cut_of, f_step_of := funF_of X N fa_step_of fl_step_of fc_step_of fk_step_of, f_steps_of := funF_of X N fa_steps_of fl_steps_of fc_steps_of fk_steps_of, f_latest_shown := funF_of X N fa_latest_shown fl_latest_shown fc_latest_shown fk_latest_shown, f_first_bounds := funF_of X N fa_first_bounds fl_first_bounds fc_first_bounds fk_first_bounds, f_is_denied := funF_of X N fa_is_denied fl_is_denied fc_is_denied fk_is_denied, f_cut_on := funF_of X N fa_cut_on fl_cut_on fc_cut_on fk_cut_on, f_cut_back := funF_of X N fa_cut_back fl_cut_back fc_cut_back fk_cut_back, f_bounds_from := funF_of X N fa_bounds_from fl_bounds_from fc_bounds_from fk_bounds_from, i_Family := clsF_of X N ka_Family ki_Family kf_Family kl_Family kc_Family kk_Family km_Family kq_Family, a_Family := clsA_of X N ka_Family kp_Family kh_Family ko_Family ks_Family (fun f hf => by simp only [List.mem_cons, List.not_mem_nil, or_false] at hf; rcases hf with rfl | rfl | rfl | rfl | rfl | rfl | rfl | rfl; exact kn_Family_came; exact kn_Family_cuts; exact kn_Family_denied; exact kn_Family_finds; exact kn_Family_latest; exact kn_Family_offices; exact kn_Family_steps; exact kn_Family_waiting), f_family_of := funF_of X N fa_family_of fl_family_of fc_family_of fk_family_of, f_best_doing := funF_of X N fa_best_doing fl_best_doing fc_best_doing fk_best_doing, f_doing_for := funF_of X N fa_doing_for fl_doing_for fc_doing_for fk_doing_for, f_is_doing := funF_of X N fa_is_doing fl_is_doing fc_is_doing fk_is_doing, f_begun := funF_of X N fa_begun fl_begun fc_begun fk_begun, f_copied := funF_of X N fa_copied fl_copied fc_copied fk_copied, f_led := funF_of X N fa_led fl_led fc_led fk_led, f_are_true := funF_of X N fa_are_true fl_are_true fc_are_true fk_are_true, f_is_doing_for := funF_of X N fa_is_doing_for fl_is_doing_for fc_is_doing_for fk_is_doing_for, f_check_denials := funF_of X N fa_check_denials fl_check_denials fc_check_denials fk_check_denials, f_is_doing_but := funF_of X N fa_is_doing_but fl_is_doing_but fc_is_doing_but fk_is_doing_but, f__law_hand := funF_of X N fa__law_hand fl__law_hand fc__law_hand fk__law_hand, f__law_draw := funF_of X N fa__law_draw fl__law_draw fc__law_draw fk__law_draw, f__law_row := funF_of X N fa__law_row fl__law_row fc__law_row fk__law_row, f__law_rows := funF_of X N fa__law_rows fl__law_rows fc__law_rows fk__law_rows, f__law_some_doing := funF_of X N fa__law_some_doing fl__law_some_doing fc__law_some_doing fk__law_some_doing, f__law_led := funF_of X N fa__law_led fl__law_led fc__law_led fk__law_led, f__law_finds := funF_of X N fa__law_finds fl__law_finds fc__law_finds fk__law_finds, f__law_flag := funF_of X N fa__law_flag fl__law_flag fc__law_flag fk__law_flag, f__law_is_doing := funF_of X N fa__law_is_doing fl__law_is_doing fc__law_is_doing fk__law_is_doing, f__law_due := funF_of X N fa__law_due fl__law_due fc__law_due fk__law_due, f__law_deep := funF_of X N fa__law_deep fl__law_deep fc__law_deep fk__law_deep, f__law_bent := funF_of X N fa__law_bent fl__law_bent fc__law_bent fk__law_bent, f_law := funF_of X N fa_law fl_law fc_law fk_law, d_Family__m_doing := metF_of X N ka_Family kp_Family kh_Family ko_Family ks_Family mi_Family__m_doing mf_Family__m_doing ml_Family__m_doing mc_Family__m_doing mk_Family__m_doing, d_Family__m_put := metF_of X N ka_Family kp_Family kh_Family ko_Family ks_Family mi_Family__m_put mf_Family__m_put ml_Family__m_put mc_Family__m_put mk_Family__m_put, d_Family__m_spread := metF_of X N ka_Family kp_Family kh_Family ko_Family ks_Family mi_Family__m_spread mf_Family__m_spread ml_Family__m_spread mc_Family__m_spread mk_Family__m_spread, g_Log := insG_of X N ka_Log kp_Log kh_Log ko_Log ks_Log jc_Log js_Log jt_Log jm_Log jb_Log ji_Log ju_Log jp_Log jl_Log jd_Log, x_NoDenials := raiF_of X N xa_NoDenials xe_NoDenials xk_NoDenials xs_NoDenials xt_NoDenials, x_NoFinds := raiF_of X N xa_NoFinds xe_NoFinds xk_NoFinds xs_NoFinds xt_NoFinds }
  have FL := fun_mk (st := s_law) fl_law fc_law fk_law
  exact ⟨_, fun s v => .of_eq rfl, fun base _ _ => FnOk.atEnd (okx_all (G := ⟨K, mg⟩) T FL) hk hm⟩
end TK
open PySem PySem.W PyProof.Rows
def TK.LawT : Prop := ∀ ns : List Int, ns.length ≤ 63 → ∃ st', TK.m_law [.ref 0] [.rol (ns.map TK.D.int)] = .ok (.bl true) st'
set_option maxHeartbeats 0 in
theorem PySem.Challenge.cw_takenover_k34_doings_for_finds_judged_holds : PySem.Challenge.rw_takenover_k34_doings_for_finds_judged.Holds := by
  w_on; o_law; k_head; (case hw => w_witness2)
  k_fill
  refine L2.walk_of (l := PySem.Challenge.rw_takenover_k34_doings_for_finds_judged) (n := 63) (k := 9) (x := "_law_script") (CX := fun w => L2.CX (PySem.Challenge.rw_takenover_k34_doings_for_finds_judged).prog w) (sp := fun w => TK.spEnd _ 63) rfl (by decide) rfl ⟨rfl, by decide, by decide⟩ (fun w h Y => PySem.W.kIn_of Y) ?F (fun _ _ a ns hl hO hS => ⟨a, ns, rfl, hl, hO, hS, fun _ => rfl⟩) (fun _ H s e s' z => TK.CX_no H s e s' z)
  case F =>
    intro w mg fa h KX G hmg
    refine' TK.all_mk KX G hmg ?hk TK.law_thm ?z_abs ?z_all ?z_any ?z_bool ?z_enumerate ?z_int ?z_isinstance ?z_len ?z_list ?z_max ?z_range ?z_tuple ?z_zip ?c_MOST_DENIALS ?c_MOST_FINDS ?c_MOST_OFFICES ?c_MOST_ROWS ?c_ON_LEFT ?c_ON_RIGHT ?fa_is_integer ?fl_is_integer ?fc_is_integer ?fk_is_integer ?fa_is_within ?fl_is_within ?fc_is_within ?fk_is_within ?fa_is_triple ?fl_is_triple ?fc_is_triple ?fk_is_triple ?fa_is_flag ?fl_is_flag ?fc_is_flag ?fk_is_flag ?fa_is_row ?fl_is_row ?fc_is_row ?fk_is_row ?fa_first_bad ?fl_first_bad ?fc_first_bad ?fk_first_bad ?ka_Log ?ki_Log ?kf_Log ?kl_Log ?kc_Log ?kk_Log ?km_Log ?kq_Log ?kp_Log ?kh_Log ?ko_Log ?ks_Log ?kn_Log_offices ?kn_Log_rows ?fa_is_listed ?fl_is_listed ?fc_is_listed ?fk_is_listed ?fa_is_find ?fl_is_find ?fc_is_find ?fk_is_find ?fa_check_finds ?fl_check_finds ?fc_check_finds ?fk_check_finds ?fa_is_left ?fl_is_left ?fc_is_left ?fk_is_left ?fa_cut_of ?fl_cut_of ?fc_cut_of ?fk_cut_of ?fa_step_of ?fl_step_of ?fc_step_of ?fk_step_of ?fa_steps_of ?fl_steps_of ?fc_steps_of ?fk_steps_of ?fa_latest_shown ?fl_latest_shown ?fc_latest_shown ?fk_latest_shown ?fa_first_bounds ?fl_first_bounds ?fc_first_bounds ?fk_first_bounds ?fa_is_denied ?fl_is_denied ?fc_is_denied ?fk_is_denied ?fa_cut_on ?fl_cut_on ?fc_cut_on ?fk_cut_on ?fa_cut_back ?fl_cut_back ?fc_cut_back ?fk_cut_back ?fa_bounds_from ?fl_bounds_from ?fc_bounds_from ?fk_bounds_from ?ka_Family ?ki_Family ?kf_Family ?kl_Family ?kc_Family ?kk_Family ?km_Family ?kq_Family ?kp_Family ?kh_Family ?ko_Family ?ks_Family ?kn_Family_came ?kn_Family_cuts ?kn_Family_denied ?kn_Family_finds ?kn_Family_latest ?kn_Family_offices ?kn_Family_steps ?kn_Family_waiting ?fa_family_of ?fl_family_of ?fc_family_of ?fk_family_of ?fa_best_doing ?fl_best_doing ?fc_best_doing ?fk_best_doing ?fa_doing_for ?fl_doing_for ?fc_doing_for ?fk_doing_for ?fa_is_doing ?fl_is_doing ?fc_is_doing ?fk_is_doing ?fa_begun ?fl_begun ?fc_begun ?fk_begun ?fa_copied ?fl_copied ?fc_copied ?fk_copied ?fa_led ?fl_led ?fc_led ?fk_led ?fa_are_true ?fl_are_true ?fc_are_true ?fk_are_true ?fa_is_doing_for ?fl_is_doing_for ?fc_is_doing_for ?fk_is_doing_for ?fa_check_denials ?fl_check_denials ?fc_check_denials ?fk_check_denials ?fa_is_doing_but ?fl_is_doing_but ?fc_is_doing_but ?fk_is_doing_but ?fa__law_hand ?fl__law_hand ?fc__law_hand ?fk__law_hand ?fa__law_draw ?fl__law_draw ?fc__law_draw ?fk__law_draw ?fa__law_row ?fl__law_row ?fc__law_row ?fk__law_row ?fa__law_rows ?fl__law_rows ?fc__law_rows ?fk__law_rows ?fa__law_some_doing ?fl__law_some_doing ?fc__law_some_doing ?fk__law_some_doing ?fa__law_led ?fl__law_led ?fc__law_led ?fk__law_led ?fa__law_finds ?fl__law_finds ?fc__law_finds ?fk__law_finds ?fa__law_flag ?fl__law_flag ?fc__law_flag ?fk__law_flag ?fa__law_is_doing ?fl__law_is_doing ?fc__law_is_doing ?fk__law_is_doing ?fa__law_due ?fl__law_due ?fc__law_due ?fk__law_due ?fa__law_deep ?fl__law_deep ?fc__law_deep ?fk__law_deep ?fa__law_bent ?fl__law_bent ?fc__law_bent ?fk__law_bent ?fa_law ?fl_law ?fc_law ?fk_law ?mi_Family__m_doing ?mf_Family__m_doing ?ml_Family__m_doing ?mc_Family__m_doing ?mk_Family__m_doing ?mi_Family__m_put ?mf_Family__m_put ?ml_Family__m_put ?mc_Family__m_put ?mk_Family__m_put ?mi_Family__m_spread ?mf_Family__m_spread ?ml_Family__m_spread ?mc_Family__m_spread ?mk_Family__m_spread ?jc_Log ?js_Log ?jt_Log ?jm_Log ?jb_Log ?ji_Log ?ju_Log ?jp_Log ?jl_Log ?jd_Log ?xa_NoDenials ?xe_NoDenials ?xk_NoDenials ?xs_NoDenials ?xt_NoDenials ?xa_NoFinds ?xe_NoFinds ?xk_NoFinds ?xs_NoFinds ?xt_NoFinds
    (case hk => kernel_rfl); (case z_abs => k_is); (case z_all => k_is); (case z_any => k_is); (case z_bool => k_is); (case z_enumerate => k_is); (case z_int => k_is); (case z_isinstance => k_is); (case z_len => k_is); (case z_list => k_is); (case z_max => k_is); (case z_range => k_is); (case z_tuple => k_is); (case z_zip => k_is); (case c_MOST_DENIALS => k_is); (case c_MOST_FINDS => k_is); (case c_MOST_OFFICES => k_is); (case c_MOST_ROWS => k_is); (case c_ON_LEFT => k_is); (case c_ON_RIGHT => k_is); (case fa_is_integer => k_is); (case fl_is_integer => k_is); (case fc_is_integer => k_is); (case fk_is_integer => k_is); (case fa_is_within => k_is); (case fl_is_within => k_is); (case fc_is_within => k_is); (case fk_is_within => k_is); (case fa_is_triple => k_is); (case fl_is_triple => k_is); (case fc_is_triple => k_is); (case fk_is_triple => k_is); (case fa_is_flag => k_is); (case fl_is_flag => k_is); (case fc_is_flag => k_is); (case fk_is_flag => k_is); (case fa_is_row => k_is); (case fl_is_row => k_is); (case fc_is_row => k_is); (case fk_is_row => k_is); (case fa_first_bad => k_is); (case fl_first_bad => k_is); (case fc_first_bad => k_is); (case fk_first_bad => k_is); (case ka_Log => k_is); (case ki_Log => k_is); (case kf_Log => k_is); (case kl_Log => k_is); (case kc_Log => k_is); (case kk_Log => k_is); (case km_Log => k_is); (case kq_Log => k_is); (case kp_Log => k_is); (case kh_Log => k_is); (case ko_Log => k_is); (case ks_Log => k_is); (case kn_Log_offices => k_is); (case kn_Log_rows => k_is); (case fa_is_listed => k_is); (case fl_is_listed => k_is); (case fc_is_listed => k_is); (case fk_is_listed => k_is); (case fa_is_find => k_is); (case fl_is_find => k_is); (case fc_is_find => k_is); (case fk_is_find => k_is); (case fa_check_finds => k_is); (case fl_check_finds => k_is); (case fc_check_finds => k_is); (case fk_check_finds => k_is); (case fa_is_left => k_is); (case fl_is_left => k_is); (case fc_is_left => k_is); (case fk_is_left => k_is); (case fa_cut_of => k_is); (case fl_cut_of => k_is); (case fc_cut_of => k_is); (case fk_cut_of => k_is); (case fa_step_of => k_is); (case fl_step_of => k_is); (case fc_step_of => k_is); (case fk_step_of => k_is); (case fa_steps_of => k_is); (case fl_steps_of => k_is); (case fc_steps_of => k_is); (case fk_steps_of => k_is); (case fa_latest_shown => k_is); (case fl_latest_shown => k_is); (case fc_latest_shown => k_is); (case fk_latest_shown => k_is); (case fa_first_bounds => k_is); (case fl_first_bounds => k_is); (case fc_first_bounds => k_is); (case fk_first_bounds => k_is); (case fa_is_denied => k_is); (case fl_is_denied => k_is); (case fc_is_denied => k_is); (case fk_is_denied => k_is); (case fa_cut_on => k_is); (case fl_cut_on => k_is); (case fc_cut_on => k_is); (case fk_cut_on => k_is); (case fa_cut_back => k_is); (case fl_cut_back => k_is); (case fc_cut_back => k_is); (case fk_cut_back => k_is); (case fa_bounds_from => k_is); (case fl_bounds_from => k_is); (case fc_bounds_from => k_is); (case fk_bounds_from => k_is); (case ka_Family => k_is); (case ki_Family => k_is); (case kf_Family => k_is); (case kl_Family => k_is); (case kc_Family => k_is); (case kk_Family => k_is); (case km_Family => k_is); (case kq_Family => k_is); (case kp_Family => k_is); (case kh_Family => k_is); (case ko_Family => k_is); (case ks_Family => k_is); (case kn_Family_came => k_is); (case kn_Family_cuts => k_is); (case kn_Family_denied => k_is); (case kn_Family_finds => k_is); (case kn_Family_latest => k_is); (case kn_Family_offices => k_is); (case kn_Family_steps => k_is); (case kn_Family_waiting => k_is); (case fa_family_of => k_is); (case fl_family_of => k_is); (case fc_family_of => k_is); (case fk_family_of => k_is); (case fa_best_doing => k_is); (case fl_best_doing => k_is); (case fc_best_doing => k_is); (case fk_best_doing => k_is); (case fa_doing_for => k_is); (case fl_doing_for => k_is); (case fc_doing_for => k_is); (case fk_doing_for => k_is); (case fa_is_doing => k_is); (case fl_is_doing => k_is); (case fc_is_doing => k_is); (case fk_is_doing => k_is); (case fa_begun => k_is); (case fl_begun => k_is); (case fc_begun => k_is); (case fk_begun => k_is); (case fa_copied => k_is); (case fl_copied => k_is); (case fc_copied => k_is); (case fk_copied => k_is); (case fa_led => k_is); (case fl_led => k_is); (case fc_led => k_is); (case fk_led => k_is); (case fa_are_true => k_is); (case fl_are_true => k_is); (case fc_are_true => k_is); (case fk_are_true => k_is); (case fa_is_doing_for => k_is); (case fl_is_doing_for => k_is); (case fc_is_doing_for => k_is); (case fk_is_doing_for => k_is); (case fa_check_denials => k_is); (case fl_check_denials => k_is); (case fc_check_denials => k_is); (case fk_check_denials => k_is); (case fa_is_doing_but => k_is); (case fl_is_doing_but => k_is); (case fc_is_doing_but => k_is); (case fk_is_doing_but => k_is); (case fa__law_hand => k_is); (case fl__law_hand => k_is); (case fc__law_hand => k_is); (case fk__law_hand => k_is); (case fa__law_draw => k_is); (case fl__law_draw => k_is); (case fc__law_draw => k_is); (case fk__law_draw => k_is); (case fa__law_row => k_is); (case fl__law_row => k_is); (case fc__law_row => k_is); (case fk__law_row => k_is); (case fa__law_rows => k_is); (case fl__law_rows => k_is); (case fc__law_rows => k_is); (case fk__law_rows => k_is); (case fa__law_some_doing => k_is); (case fl__law_some_doing => k_is); (case fc__law_some_doing => k_is); (case fk__law_some_doing => k_is); (case fa__law_led => k_is); (case fl__law_led => k_is); (case fc__law_led => k_is); (case fk__law_led => k_is); (case fa__law_finds => k_is); (case fl__law_finds => k_is); (case fc__law_finds => k_is); (case fk__law_finds => k_is); (case fa__law_flag => k_is); (case fl__law_flag => k_is); (case fc__law_flag => k_is); (case fk__law_flag => k_is); (case fa__law_is_doing => k_is); (case fl__law_is_doing => k_is); (case fc__law_is_doing => k_is); (case fk__law_is_doing => k_is); (case fa__law_due => k_is); (case fl__law_due => k_is); (case fc__law_due => k_is); (case fk__law_due => k_is); (case fa__law_deep => k_is); (case fl__law_deep => k_is); (case fc__law_deep => k_is); (case fk__law_deep => k_is); (case fa__law_bent => k_is); (case fl__law_bent => k_is); (case fc__law_bent => k_is); (case fk__law_bent => k_is); (case fa_law => k_is); (case fl_law => k_is); (case fc_law => k_is); (case fk_law => k_is); (case mi_Family__m_doing => k_is); (case mf_Family__m_doing => k_is); (case ml_Family__m_doing => k_is); (case mc_Family__m_doing => k_is); (case mk_Family__m_doing => k_is); (case mi_Family__m_put => k_is); (case mf_Family__m_put => k_is); (case ml_Family__m_put => k_is); (case mc_Family__m_put => k_is); (case mk_Family__m_put => k_is); (case mi_Family__m_spread => k_is); (case mf_Family__m_spread => k_is); (case ml_Family__m_spread => k_is); (case mc_Family__m_spread => k_is); (case mk_Family__m_spread => k_is); (case jc_Log => first | k_is | kernel_rfl); (case js_Log => first | k_is | kernel_rfl); (case jt_Log => first | k_is | kernel_rfl); (case jm_Log => first | k_is | kernel_rfl); (case jb_Log => first | k_is | kernel_rfl); (case ji_Log => first | k_is | kernel_rfl); (case ju_Log => first | k_is | kernel_rfl); (case jp_Log => first | k_is | kernel_rfl); (case jl_Log => first | k_is | kernel_rfl); (case jd_Log => first | k_is | kernel_rfl); (case xa_NoDenials => k_is); (case xe_NoDenials => kernel_rfl); (case xk_NoDenials => k_is); (case xs_NoDenials => k_is); (case xt_NoDenials => k_is); (case xa_NoFinds => k_is); (case xe_NoFinds => kernel_rfl); (case xk_NoFinds => k_is); (case xs_NoFinds => k_is); (case xt_NoFinds => k_is)
