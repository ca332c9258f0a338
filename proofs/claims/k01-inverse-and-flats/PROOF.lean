import PyProof.Rows.All
import PySem.Challenge.RW_boxlaws_k01_inverse_and_what_is_a_flat
import HandS.Iter
import HandS.Zip0
import PyProof.Draws
import HandS.TupMul
import PyProof.ListMulRoad
import PyProof.FactsAll.tuple_2
import HandS.ForMost
import HandS.TupAny
import HandS.Wide
import HandS.EndBits
import HandS.Evl
import HandS.IsInst
import HandS.Deep
import PyProof.ReprRoads
import HandS.Flow
import HandS.RaiseMore
import HandS.TryOnly
import HandS.Defaults
import HandS.Dict
import HandS.More
import HandS.Ends
import HandS.Head0
import HandS.Head1
import HandS.Head2
import HandS.HeadEnd
import HandS.HeadHook1
import HandS.HeadHook2
import HandS.HeadHook3
import HandS.HeadHook4
import PyProof.FitsInt
import PyProof.StrLawsRepr
import PyProof.AutoSeq1
import HandS.Style
import HandS.Text
import HandS.MapJoin
import HandS.TupLe
import KE.DataMinMax
import HandS.StrSplit
import PyProof.SumWalkG
import PyProof.Rows.SumAny
import HandS.ExcInit
import HandS.ExcField
import HandS.TryMany
import KE.KExcIs
import PyProof.EqAt
import PyProof.NeKinds
import PyProof.ReprHeadsEmpty
import HandS.Zip
set_option Elab.async false
set_option linter.all false
set_option maxRecDepth 100000
set_option maxHeartbeats 0
namespace Eng
open PySem PySem.Spec PyProof.Rows L2
open PySem.AutoSeq1 (wpAny_loadPart')
theorem draws_tup {prog : Program} {w : World} {A : Around} (hh : A.handled = none) (it t : Addr) (hne : t ≠ it) (items : Array Value) :
    Draws prog w A it [it, t] items.size (fun i v => items[i]? = some v) (fun i h => h.IsTupleIter it t i ∧ h.IsTuple t items) where
  live := fun _ _ st => let ⟨o, ho, _⟩ := st.1; ⟨o, ho⟩
  frame := fun _ _ _ st hk => ⟨st.1.at fun o e => hk it (by simp) o e, st.2.at fun o e => hk t (by simp) o e⟩
  item := fun i s Q E hi st hQ => by
    refine RZ.nextOf_tuple_item st.1 st.2 (x := items[i]) (by simp [hi]) fun h' hit' hs' => ?_
    exact hQ _ h' s.toks (by simp [hi]) ⟨hit', st.2.extBut hs'.extBut hne⟩ hs'
  done := fun s Q E st hE => RZ.nextOf_tuple_end hh st.1 st.2 (by simp) hE
theorem meets_enum_newT (l : Addr) (items : Array Value) (n : Nat) (dct : Option Addr) (sl : Array (Option Value)) :
    Meets (Builtin.«enumerate.__new__» ⟨[.type "enumerate", .ref l], []⟩) (fun _ R s => s.heap.get? l = some { cls := .type "tuple", dict := dct, data := .seq items n, slots := sl } ∧
      R (.ok (.ret (.ref (s.heap.push { cls := .type "tuple_iterator", data := .fields #[.ref l, .int 0 0] }).objs.size)))
        { s with heap := (s.heap.push { cls := .type "tuple_iterator", data := .fields #[.ref l, .int 0 0] }).push { cls := .type "enumerate", data := .fields #[.none, .bool false, .ref s.heap.objs.size, rawInt 0, .none, .none] } }) :=
  .of_wp fun prog w A R s h => by
    obtain ⟨hp, g, d, tk, os⟩ := s; obtain ⟨hl, h⟩ := h
    have hsub := sub_enumerate
    have hL : Heap.IsTuple (Shared.heap ⟨hp, g, d, tk, os⟩) l items := ⟨_, hl, rfl, n, rfl⟩
    wp_walk using wpAny_loadPart' hl
    refine wpAny_stack_any fun st => wpAny_pure ?_
    split
    · rename_i c _ _ _ _ _
      cases (c == Value.type "enumerate")
      · wp_walk using wpAny_loadPart' hl, wpAny_pyIter_tuple hL
        exact ⟨_, rfl, h⟩
      · wp_walk using wpAny_loadPart' hl, wpAny_pyIter_tuple hL
        exact ⟨_, rfl, h⟩
    · wp_walk using wpAny_loadPart' hl, wpAny_pyIter_tuple hL
      exact ⟨_, rfl, h⟩
section
variable {prog : Program} {w : World} {A : Around} {E : Value → Shared → Prop} {s : Shared}
theorem call_enum_tup {l : Addr} {items : Array Value} {Q : Value → Shared → Prop} (hL : s.heap.IsTuple l items)
    (h : ∀ h', IsEnum h' (s.heap.objs.size + 1) s.heap.objs.size 0 .none → h'.IsTupleIter s.heap.objs.size l 0 → h'.objs.size = s.heap.objs.size + 2 →
      (∀ b o, s.heap.get? b = some o → h'.get? b = some o) → Q (.ref (s.heap.objs.size + 1)) { s with heap := h' }) :
    wpAny (model prog w) A (call (.type "enumerate") [.ref l]) Q E s := by
  obtain ⟨⟨c, dct, dt, sl⟩, hl, hc, n, hd⟩ := hL
  replace hc : c = .type "tuple" := hc
  replace hd : dt = .seq items n := hd
  subst hc hd
  refine callType_new F.called_enumerate (by decide) (F.typeCall_enumerate_1 _) (F.newCall_enumerate_1 _) (fun obj => F.args_object_init_2 obj _) F.entry_enumerate_new
    (meets_enum_newT l items n dct sl) ⟨hl, ?_⟩
  have hz : (s.heap.push { cls := .type "tuple_iterator", data := .fields #[.ref l, .int 0 0] }).objs.size = s.heap.objs.size + 1 := Heap.size_push ..
  show _ ∧ _
  rw [hz]
  have he : IsEnum ((s.heap.push { cls := .type "tuple_iterator", data := .fields #[.ref l, .int 0 0] }).push
      { cls := .type "enumerate", data := .fields #[.none, .bool false, .ref s.heap.objs.size, rawInt 0, .none, .none] }) (s.heap.objs.size + 1) s.heap.objs.size 0 .none := by
    have := Heap.get?_push_size (s.heap.push { cls := .type "tuple_iterator", data := .fields #[.ref l, .int 0 0] })
      (o := { cls := .type "enumerate", data := .fields #[.none, .bool false, .ref s.heap.objs.size, rawInt 0, .none, .none] }) rfl
    rw [hz] at this; exact this
  refine ⟨⟨_, he, rfl⟩, h _ he ⟨_, Heap.get?_push_of_some _ (Heap.get?_push_size _ rfl), rfl, rfl⟩ (by rw [Heap.size_push, hz]) fun b o x => Heap.get?_push_of_some _ (Heap.get?_push_of_some _ x)⟩
end
/-- the tuple at a, each item in a new pair -/
def IteT (K : PySem.W.Frag) (a : Addr) : It :=
  ⟨fun i H => ∃ (xs : List V) (x : V), SqT K H a xs ∧ xs[i]? = some x, fun i H v H' => ∃ T x, v = .ref T ∧ H T = none ∧ H' = upd H T (.tup [.int (i : Nat), x]) ∧ ∀ xs, SqT K H a xs → xs[i]? = some x, fun i H => ∃ xs : List V, SqT K H a xs ∧ xs.length ≤ i⟩
theorem turn_enumT {P : Program} {w : World} {K : PySem.W.Frag} {elts : List Expr} {kk : Nat} {tpos : Pos} (a e it : Addr) (hai : a ≠ it) (hae : a ≠ e) :
    Turn P w K (.Tuple elts kk tpos) (IteT K a) [e, it] e (fun i h => (∃ old, IsEnum h e it ((i : Nat) : Int) old) ∧ h.IsTupleIter it a i ∧ e ≠ it) where
  mem := by simp
  obj := fun i h st b hb => by
    obtain ⟨⟨old, he⟩, ⟨o, ho, hc, hd⟩, _⟩ := st
    have e' : b = e ∨ b = it := by simpa using hb
    rcases e' with z | z
    · rw [z]; exact ⟨_, he, fun v q => nomatch q⟩
    · rw [z]; exact ⟨o, ho, fun v q => by rw [hd] at q; cases q⟩
  keep := fun i h h' st k => let ⟨⟨old, he⟩, hi, hne⟩ := st; ⟨⟨old, k e (by simp) _ he⟩, hi.at fun o q => k it (by simp) o q, hne⟩
  item := by
    intro X hP hw hK hc i pins s σ H E I hf st hg
    subst hP hw hK
    obtain ⟨⟨old, he⟩, hit, hne⟩ := st
    obtain ⟨xs, x, hq, hx⟩ := hg
    obtain ⟨its, rv, p, hz⟩ := I.tuple hq
    have p : s.heap.IsTuple a its.toArray := p
    obtain ⟨u, hu, ru⟩ := rv.get hx
    have hel : e < s.heap.objs.size := Heap.lt_size he
    have hil : it < s.heap.objs.size := by obtain ⟨_, q, _⟩ := hit; exact Heap.lt_size q
    have hilt : i < its.toArray.size := by
      have := (List.getElem?_eq_some_iff.mp hu).1
      simpa using this
    refine wpAny_pyNext_enum_itemD (draws_tup (A := X.A.in1) (show X.A.in1.handled = none from I.ok.hd hc) it a hai its.toArray) he ⟨hit, p⟩ hilt hne (by simp [hne, hae.symm]) fun u' h' tk hu' ho hst' hT hsz hk => ?_
    have eu : u' = u := by
      have h1 : its[i]? = some u' := by simpa using hu'
      rw [hu] at h1; exact (Option.some.inj h1).symm
    subst eu
    obtain ⟨hit', hp'⟩ := hst'
    refine ⟨_, rfl, wpAny_letOwnedTupleGo_enum (s := { s with heap := h', toks := tk + 1 }) ho fun h'' he' sb => ?_⟩
    have hT2 : h''.get? s.heap.objs.size = some { cls := .type "tuple", data := .seq #[.int i tk, u'] } := (sb.2 _ (Nat.ne_of_gt hel)).trans hT
    have new : ObjOk X.prog X.w (upd H s.heap.objs.size (.tup [.int (i : Nat), x])) h'' s.heap.objs.size (.tup [.int (i : Nat), x]) :=
      ⟨by show 2 ≤ sizeLine; decide, [.int i tk, u'], .cons ⟨_, rfl⟩ (.cons ru .nil), ⟨_, hT2, rfl, _, rfl⟩⟩
    have I1 : Inv X pins σ (upd H s.heap.objs.size (.tup [.int (i : Nat), x])) { s with heap := h'', toks := tk + 1 } :=
      I.turnedNew (ch := [e, it]) (fun b ob hb q => (sb.2 b (fun z => hb (by simp [z]))).trans (hk b ob (fun z => hb (by simp [z])) (fun z => hb (by simp [z])) q)) hf (Nat.le_refl _) new
    refine ⟨.ref s.heap.objs.size, _, I1, rfl, ⟨_, x, rfl, I.hok.fresh (Nat.le_refl _), rfl, fun ys hy => by rw [I.tuple_inj hy hq]; exact hx⟩, ⟨⟨u', ?_⟩, hit'.at fun o q => (sb.2 it (Ne.symm hne)).trans q, hne⟩, fun b hb => ?_⟩
    · have e1 : ((i + 1 : Nat) : Int) = (i : Int) + 1 := by omega
      rw [e1]; exact he'
    · have hb' : b < s.heap.objs.size := by
        have e' : b = e ∨ b = it := by simpa using hb
        rcases e' with z | z
        · rw [z]; exact hel
        · rw [z]; exact hil
      rw [upd_ne (Nat.ne_of_lt hb')]
      exact (hf b hb).1
  done := by
    intro X hP hw hK hc i pins s σ H E I hf st hg
    subst hP hw hK
    obtain ⟨⟨old, he⟩, hit, hne⟩ := st
    obtain ⟨xs, hq, hx⟩ := hg
    obtain ⟨its, rv, p, hz⟩ := I.tuple hq
    have p : s.heap.IsTuple a its.toArray := p
    obtain ⟨f0, f1, f2, f3, f4, f5⟩ := hf it (by simp)
    have hl := rv.length
    have D : Draws X.prog X.w X.A.in1 it [it, a] i (fun _ _ => True) (fun j h => j = i ∧ (h.IsTupleIter it a j ∧ h.IsTuple a its.toArray)) := {
      live := fun _ _ st => let ⟨o, ho, _⟩ := st.2.1; ⟨o, ho⟩
      frame := fun _ _ _ st hk => ⟨st.1, st.2.1.at fun o e => hk it (by simp) o e, st.2.2.at fun o e => hk a (by simp) o e⟩
      item := fun j s Q E hi st hQ => absurd st.1 (by omega)
      done := fun s Q E st hE => RZ.nextOf_tuple_end (A := X.A.in1) (show X.A.in1.handled = none from I.ok.hd hc) st.2.1 st.2.2 (by simp; omega) hE }
    exact wpAny_pyNext_enum_endD D he ⟨rfl, hit, p⟩ fun h' eb => ⟨rfl, I.turned (t' := s.toks) (fun b o hb q => eb b o hb q) f0 f1 f3 f4 f5⟩
  self := fun A i s Q E st h => let ⟨⟨_, he⟩, _⟩ := st; wpAny_pyIter_enum he h
/-- enumerate of a list or of a tuple -/
def iEnumA (K : PySem.W.Frag) (ta : TA) : TI := fun σ H R => ta σ H fun vs H1 => ∃ a xs, vs = [.ref a] ∧ ((SqL K H1 a xs ∧ R (Ite K a) H1) ∨ (SqT K H1 a xs ∧ R (IteT K a) H1))
theorem pi_enumA {X : Cx} {e : Expr} {ta : TA} {p pos tpos : Pos} {elts : List Expr} {kk : Nat} (hg : Gl X "enumerate") (hm : X.mg "enumerate" = none) (ha : PA X [e] ta) (hs : starEach [e] X.env = [(false, eval e X.env)] := by rfl) :
    PI X (.Tuple elts kk tpos) (.Call (.Name "enumerate" p) [e] [] pos) (iEnumA X.K ta) := by
  refine ⟨fun pins s σ H R I h => Call_ (ld_blt I hg hm boot_enumerate (PyProof.Rows.callWith_type1 (thn (ha.run pos pins s σ H _ I h) fun us s1 ⟨vs, H1, I1, r1, a, xs, ex, q1⟩ => ?_) hs rfl))⟩
  subst ex
  cases r1 with
  | cons r rr =>
    cases rr
    cases r
    have fps : ∀ b ∈ [s1.heap.objs.size + 1, s1.heap.objs.size], FpOk X pins H1 b := fun b hb => by
      have e' : b = s1.heap.objs.size + 1 ∨ b = s1.heap.objs.size := by simpa using hb
      have hle : s1.heap.objs.size ≤ b := by omega
      exact I1.fpOk hle (I1.hok.fresh hle)
    rcases q1 with ⟨hq, q⟩ | ⟨hq, q⟩
    · obtain ⟨its, rv, p', hz⟩ := I1.list hq
      exact call_enumerate_list p'.isList fun h' he hit hsz hk => wpAny_pyIter_enum he
        ⟨s1.heap.objs.size + 1, [s1.heap.objs.size + 1, s1.heap.objs.size], _, _, H1, rfl, I1.kept (t' := s1.toks) hk, turn_enum a (s1.heap.objs.size + 1) s1.heap.objs.size, ⟨⟨.none, he⟩, hit, Nat.succ_ne_self _⟩, fps, q⟩
    · obtain ⟨its, rv, p', hz⟩ := I1.tuple hq
      have ht : s1.heap.IsTuple a its.toArray := p'
      have hlt : a < s1.heap.objs.size := by obtain ⟨_, z, _⟩ := ht; exact Heap.lt_size z
      exact call_enum_tup ht fun h' he hit hsz hk => wpAny_pyIter_enum he
        ⟨s1.heap.objs.size + 1, [s1.heap.objs.size + 1, s1.heap.objs.size], _, _, H1, rfl, I1.kept (t' := s1.toks) hk, turn_enumT a (s1.heap.objs.size + 1) s1.heap.objs.size (Nat.ne_of_lt hlt) (Nat.ne_of_lt (Nat.lt_succ_of_lt hlt)), ⟨⟨.none, he⟩, hit, Nat.succ_ne_self _⟩, fps, q⟩
end Eng

namespace Eng
open PySem PySem.Spec PyProof.Rows L2
theorem mul_same (l : Addr) (items : Array Value) (n : Nat) (dd : Option Addr) (sl : Array (Option Value)) (x : Int) (u : Tok) (c0 : (decide (x < -(2 ^ 63)) || decide (x ≥ 2 ^ 63)) = false) (c1 : (items.isEmpty || x == 1) = true) :
    Meets (Builtin.«tuple.__mul__» ⟨[.ref l, .int x u], []⟩) (fun _ R s => s.heap.get? l = some { cls := .type "tuple", dict := dd, data := .seq items n, slots := sl } ∧ R (.ok (.ret (Value.ref l))) s) :=
  .of_wp fun prog w A R s h => by
    obtain ⟨hp, g, d, tk, os⟩ := s
    obtain ⟨hl, h⟩ := h
    have f1 := AutoSeq1.idx_int
    wp_walk using wpAny_loadPart' hl
    repeat (first
      | (refine wpAny_ite_false (decide_eq_false (by rw [c0]; exact Bool.false_ne_true)) ?_; wp_walk using wpAny_loadPart' hl)
      | (refine wpAny_ite_true (decide_eq_true (by rw [c1])) ?_; wp_walk using wpAny_loadPart' hl))
    exact ⟨_, rfl, h⟩
def rRep1 (K : PySem.W.Frag) : R2 := fun x y H Q => ∃ l k xs, x = .ref l ∧ y = .int k ∧ SqT K H l xs ∧ (xs = [] ∨ k = 1) ∧ (-(2 ^ 63) ≤ k ∧ k < 2 ^ 63) ∧ Q (.ref l) H
variable {X : Cx}
theorem op_rep1 : OpR X (binaryOp .Mult) (rRep1 X.K) := by
  intro pins s σ H x y v u Q I rx ry h
  obtain ⟨l, k, xs, rfl, rfl, hT, h1, h2, q⟩ := h
  cases rx
  obtain ⟨t, rfl⟩ := ry
  obtain ⟨its, r, ⟨⟨cls, dd, data, sl⟩, ho, hc, n, hd⟩, hs⟩ := I.tuple hT
  simp only at hc hd
  subst hc hd
  have c0 : (decide (k < -(2 ^ 63)) || decide (k ≥ 2 ^ 63)) = false := by
    rw [decide_eq_false (by omega), decide_eq_false (by omega)] <;> rfl
  have c1 : (its.toArray.isEmpty || k == 1) = true := by
    rcases h1 with z | z
    · subst z
      cases r
      rfl
    · subst z
      exact Bool.or_true _
  exact wpAny_binaryOp_repeat_ref (T := "tuple") (U := "int") (by decide) ⟨_, ho, rfl⟩ (fun s' => typeIs_int s' k t) noFill_tuple_mul F.fills_int_mul F.slot_int_rmul repeat_tuple F.slot_int_index.lookup
    (call_meets F.slot_int_rmul (typeIs_int s k t) F.entry_int_rmul (F.args_int_rmul_2 _ _) (int_rmul_tuple k t l its.toArray n dd sl)
      ⟨ho, rfl, ⟨_, ho, rfl⟩, call_meets F.slot_tuple_mul ⟨_, ho, rfl⟩ F.entry_tuple_mul (F.args_tuple_mul_2 _ _) (mul_same l its.toArray n dd sl k t c0 c1) ⟨ho, .ref l, H, I, rfl, q⟩⟩)
theorem mul_none (l : Addr) (items : Array Value) (n : Nat) (dd : Option Addr) (sl : Array (Option Value)) (x : Int) (u : Tok) (c0 : (decide (x < -(2 ^ 63)) || decide (x ≥ 2 ^ 63)) = false) (c1 : (items.isEmpty || x == 1) = false) (c2 : (decide (x ≤ 0) || items.isEmpty) = true) :
    Meets (Builtin.«tuple.__mul__» ⟨[.ref l, .int x u], []⟩) (fun _ R s => s.heap.get? l = some { cls := .type "tuple", dict := dd, data := .seq items n, slots := sl } ∧
      R (.ok (.ret (Value.ref s.heap.objs.size))) { s with heap := s.heap.push { cls := Value.type "tuple", data := Data.seq #[] }, toks := s.toks }) :=
  .of_wp fun prog w A R s h => by
    obtain ⟨hp, g, d, tk, os⟩ := s
    obtain ⟨hl, h⟩ := h
    have f1 := AutoSeq1.idx_int
    wp_walk using wpAny_loadPart' hl
    repeat (first
      | (refine wpAny_ite_false (decide_eq_false (by rw [c0]; exact Bool.false_ne_true)) ?_; wp_walk using wpAny_loadPart' hl)
      | (refine wpAny_ite_false (decide_eq_false (by rw [c1]; exact Bool.false_ne_true)) ?_; wp_walk using wpAny_loadPart' hl)
      | (refine wpAny_ite_true (decide_eq_true (by rw [c2])) ?_; wp_walk using wpAny_loadPart' hl))
    exact ⟨_, rfl, h⟩
def rRep0 (K : PySem.W.Frag) : R2 := fun x y H Q => ∃ l k xs, x = .ref l ∧ y = .int k ∧ SqT K H l xs ∧ xs ≠ [] ∧ k ≤ 0 ∧ -(2 ^ 63) ≤ k ∧ ∀ p, H p = none → Q (.ref p) (upd H p (.tup []))
theorem op_rep0 : OpR X (binaryOp .Mult) (rRep0 X.K) := by
  intro pins s σ H x y v u Q I rx ry h
  obtain ⟨l, k, xs, rfl, rfl, hT, h1, h2, h3, q⟩ := h
  cases rx
  obtain ⟨t, rfl⟩ := ry
  obtain ⟨its, r, ⟨⟨cls, dd, data, sl⟩, ho, hc, n, hd⟩, hs⟩ := I.tuple hT
  simp only at hc hd
  subst hc hd
  have c0 : (decide (k < -(2 ^ 63)) || decide (k ≥ 2 ^ 63)) = false := by
    rw [decide_eq_false (by omega), decide_eq_false (by omega)] <;> rfl
  have hi : its.toArray.isEmpty = false := by
    cases its with
    | nil => cases r; exact absurd rfl h1
    | cons a b => rfl
  have c1 : (its.toArray.isEmpty || k == 1) = false := by
    rw [hi, Bool.false_or]
    exact beq_eq_false_iff_ne.mpr (by omega)
  have c2 : (decide (k ≤ 0) || its.toArray.isEmpty) = true := by
    rw [decide_eq_true h2]; rfl
  exact wpAny_binaryOp_repeat_ref (T := "tuple") (U := "int") (by decide) ⟨_, ho, rfl⟩ (fun s' => typeIs_int s' k t) noFill_tuple_mul F.fills_int_mul F.slot_int_rmul repeat_tuple F.slot_int_index.lookup
    (call_meets F.slot_int_rmul (typeIs_int s k t) F.entry_int_rmul (F.args_int_rmul_2 _ _) (int_rmul_tuple k t l its.toArray n dd sl)
      ⟨ho, rfl, ⟨_, ho, rfl⟩, call_meets F.slot_tuple_mul ⟨_, ho, rfl⟩ F.entry_tuple_mul (F.args_tuple_mul_2 _ _) (mul_none l its.toArray n dd sl k t c0 c1 c2) ⟨ho,
        .ref s.heap.objs.size, _, I.laid (t' := s.toks) (o := .tup []) (fun b ob q => Heap.get?_push_of_some _ q) (Nat.le_refl _) ⟨Nat.zero_le _, [], .nil, IsTup.new _ _⟩, rfl, q _ (I.hok.fresh (Nat.le_refl _))⟩⟩)
end Eng

namespace Eng
open PySem PySem.Spec PyProof.Rows L2
open Evl (Ex)

inductive D where
  | non | bl (b : Bool) | int (i : Int) | str (x : Str) | tup (l : List D) | lst (l : List D) | dct (ks : List Key) (vs : List D) | obj (a : Addr)

inductive T (α : Type) where
  | ret (a : α) | fail | draw (n : Nat) (k : Nat → T α) | exc (c : Str) (d : List D)
namespace T
def bind {α β : Type} : T α → (α → T β) → T β
  | .ret a, f => f a
  | .fail, _ => .fail
  | .draw n k, f => .draw n fun i => bind (k i) f
  | .exc c d, _ => .exc c d
end T
instance : Monad T where
  pure := T.ret
  bind := T.bind
@[simp] theorem ret_bind {α β : Type} (a : α) (f : α → T β) : (T.ret a >>= f) = f a := rfl
@[simp] theorem pure_eq {α : Type} (a : α) : (pure a : T α) = T.ret a := rfl
@[simp] theorem fail_bind {α β : Type} (f : α → T β) : ((T.fail : T α) >>= f) = T.fail := rfl
@[simp] theorem draw_bind {α β : Type} (n : Nat) (k : Nat → T α) (f : α → T β) : (T.draw n k >>= f) = T.draw n fun i => k i >>= f := rfl
@[simp] theorem exc_bind {α β : Type} (c : Str) (d : List D) (f : α → T β) : ((T.exc c d : T α) >>= f) = T.exc c d := rfl
@[simp] theorem bind_ret {α : Type} (t : T α) : (t >>= T.ret) = t := by
  show T.bind t T.ret = t
  induction t with
  | ret a => rfl
  | fail => rfl
  | draw n k ih => show T.draw n (fun i => T.bind (k i) T.ret) = _; congr 1; funext i; exact ih i
  | exc c d => rfl
theorem bind_assoc' {α β γ : Type} (t : T α) (f : α → T β) (g : β → T γ) : (t >>= f) >>= g = t >>= fun a => f a >>= g := by
  show T.bind (T.bind t f) g = T.bind t fun a => T.bind (f a) g
  induction t with
  | ret a => rfl
  | fail => rfl
  | draw n k ih => show T.draw n (fun i => T.bind (T.bind (k i) f) g) = T.draw n _; congr 1; funext i; exact ih i
  | exc c d => rfl
/-- what holds at every end -/
def wp {α : Type} : T α → (α → Prop) → (Str → List D → Prop) → Prop
  | .ret a, Q, _ => Q a
  | .fail, _, _ => False
  | .draw n k, Q, E => 0 < n ∧ ∀ i, i < n → wp (k i) Q E
  | .exc c d, _, E => E c d
@[simp] theorem wp_ret {α : Type} {a : α} {Q : α → Prop} {E : Str → List D → Prop} : wp (T.ret a) Q E = Q a := rfl
@[simp] theorem wp_fail {α : Type} {Q : α → Prop} {E : Str → List D → Prop} : wp (T.fail : T α) Q E = False := rfl
theorem wp_bind {α β : Type} {t : T α} {f : α → T β} {Q : β → Prop} {E : Str → List D → Prop} : wp (t >>= f) Q E ↔ wp t (fun a => wp (f a) Q E) E := by
  show wp (T.bind t f) Q E ↔ _
  induction t with
  | ret a => exact Iff.rfl
  | fail => exact Iff.rfl
  | draw n k ih =>
    show (0 < n ∧ ∀ i, i < n → wp (T.bind (k i) f) Q E) ↔ (0 < n ∧ ∀ i, i < n → wp (k i) (fun a => wp (f a) Q E) E)
    exact and_congr Iff.rfl (forall_congr' fun i => imp_congr Iff.rfl (ih i))
  | exc c d => exact Iff.rfl
theorem wp_mono {α : Type} {t : T α} {Q Q' : α → Prop} {E E' : Str → List D → Prop} (h : wp t Q E) (hq : ∀ a, Q a → Q' a) (he : ∀ c d, E c d → E' c d) : wp t Q' E' := by
  induction t with
  | ret a => exact hq a h
  | fail => exact h
  | draw n k ih => exact ⟨h.1, fun i hi => ih i (h.2 i hi)⟩
  | exc c d => exact he c d h
theorem wp_imp {α : Type} {t : T α} {Q Q' : α → Prop} {E : Str → List D → Prop} (h : wp t Q E) (hq : ∀ a, Q a → Q' a) : wp t Q' E := wp_mono h hq fun _ _ x => x

inductive Sl where
  | un | val (d : D) | own (d : D)
abbrev Env := List Sl
def getV (env : Env) (i : Nat) : T D := match env[i]? with
  | some (.val d) => .ret d
  | _ => .fail
def getB (env : Env) (i : Nat) : T D := match env[i]? with
  | some (.val d) => .ret d
  | some (.own d) => .ret d
  | _ => .fail
/-- an owned thing is handed out: it changes no more -/
def frz (i : Nat) (env : Env) : Env := match env[i]? with
  | some (.own d) => env.set i (.val d)
  | _ => env
def frzs : List Nat → Env → Env
  | [], env => env
  | i :: r, env => frzs r (frz i env)

structure Act where
  F : Addr → Prop
  SI : Hp → Prop
  loc : ∀ H H' : Hp, (∀ a, F a → H' a = H a) → SI H → SI H'
  dom : ∀ H, SI H → ∀ a, F a → H a ≠ none
  G0 : Hp
  H0 : Hp
  E : Str → List D → Prop

variable {K : PySem.W.Frag} {A : Act} {G H G' H' G1 H1 G2 H2 : Hp}

mutual
inductive Rp (K : PySem.W.Frag) (G : Hp) : V → D → Prop
  | non : Rp K G .non .non
  | bl (b : Bool) : Rp K G (.bl b) (.bl b)
  | int (i : Int) : Rp K G (.int i) (.int i)
  | str (x : Str) : Rp K G (.str x) (.str x)
  | lst {a : Addr} {xs : List V} {ds : List D} : G a = some (.lst xs) → RpAll K G xs ds → Rp K G (.ref a) (.lst ds)
  | tup {a : Addr} {xs : List V} {ds : List D} : SqT K G a xs → RpAll K G xs ds → Rp K G (.ref a) (.tup ds)
  | dct {a : Addr} {ks : List Key} {xs : List V} {ds : List D} : G a = some (.dK (ks.zip xs)) → ks.length = xs.length → RpAll K G xs ds → Rp K G (.ref a) (.dct ks ds)
  | obj (a : Addr) : Rp K G (.ref a) (.obj a)
inductive RpAll (K : PySem.W.Frag) (G : Hp) : List V → List D → Prop
  | nil : RpAll K G [] []
  | cons {v : V} {vs : List V} {d : D} {ds : List D} : Rp K G v d → RpAll K G vs ds → RpAll K G (v :: vs) (d :: ds)
end
mutual
theorem Rp.mono (e : Ex G G') : ∀ {v : V} {d : D}, Rp K G v d → Rp K G' v d
  | _, _, .non => .non
  | _, _, .bl b => .bl b
  | _, _, .int i => .int i
  | _, _, .str x => .str x
  | _, _, .lst h r => .lst (e _ _ h) (RpAll.mono e r)
  | _, _, .tup h r => .tup (Evl.ex_t e h) (RpAll.mono e r)
  | _, _, .dct h l r => .dct (e _ _ h) l (RpAll.mono e r)
  | _, _, .obj a => .obj a
theorem RpAll.mono (e : Ex G G') : ∀ {vs : List V} {ds : List D}, RpAll K G vs ds → RpAll K G' vs ds
  | _, _, .nil => .nil
  | _, _, .cons h r => .cons (Rp.mono e h) (RpAll.mono e r)
end
theorem RpAll.length : ∀ {vs : List V} {ds : List D}, RpAll K G vs ds → vs.length = ds.length
  | _, _, .nil => rfl
  | _, _, .cons _ r => congrArg Nat.succ (RpAll.length r)
theorem RpAll.get : ∀ {vs : List V} {ds : List D} {i : Nat} {d : D}, RpAll K G vs ds → ds[i]? = some d → ∃ v, vs[i]? = some v ∧ Rp K G v d
  | _, _, _, _, .nil, e => by simp at e
  | _, _, 0, _, .cons h _, e => by simp at e; subst e; exact ⟨_, rfl, h⟩
  | _, _, i + 1, _, .cons _ r, e => by
    obtain ⟨v, h1, h2⟩ := RpAll.get (i := i) r (by simpa using e)
    exact ⟨v, by simpa using h1, h2⟩
theorem RpAll.getV : ∀ {vs : List V} {ds : List D} {i : Nat} {v : V}, RpAll K G vs ds → vs[i]? = some v → ∃ d, ds[i]? = some d ∧ Rp K G v d
  | _, _, _, _, .nil, e => by simp at e
  | _, _, 0, _, .cons h _, e => by simp at e; subst e; exact ⟨_, rfl, h⟩
  | _, _, i + 1, _, .cons _ r, e => by
    obtain ⟨v, h1, h2⟩ := RpAll.getV (i := i) r (by simpa using e)
    exact ⟨v, by simpa using h1, h2⟩
theorem RpAll.append : ∀ {vs us : List V} {ds es : List D}, RpAll K G vs ds → RpAll K G us es → RpAll K G (vs ++ us) (ds ++ es)
  | _, _, _, _, .nil, s => s
  | _, _, _, _, .cons h r, s => .cons h (RpAll.append r s)
theorem RpAll.take : ∀ {vs : List V} {ds : List D} (n : Nat), RpAll K G vs ds → RpAll K G (vs.take n) (ds.take n)
  | _, _, 0, _ => .nil
  | _, _, _ + 1, .nil => .nil
  | _, _, n + 1, .cons h r => .cons h (RpAll.take n r)
theorem RpAll.drop : ∀ {vs : List V} {ds : List D} (n : Nat), RpAll K G vs ds → RpAll K G (vs.drop n) (ds.drop n)
  | _, _, 0, r => r
  | _, _, _ + 1, .nil => .nil
  | _, _, n + 1, .cons _ r => RpAll.drop n r
theorem RpAll.set {v : V} {d : D} (h : Rp K G v d) : ∀ {vs : List V} {ds : List D} (i : Nat), RpAll K G vs ds → RpAll K G (vs.set i v) (ds.set i d)
  | _, _, _, .nil => .nil
  | _, _, 0, .cons _ r => .cons h r
  | _, _, i + 1, .cons q r => .cons q (RpAll.set h i r)
theorem RpAll.eraseIdx : ∀ {vs : List V} {ds : List D} (i : Nat), RpAll K G vs ds → RpAll K G (vs.eraseIdx i) (ds.eraseIdx i)
  | _, _, _, .nil => .nil
  | _, _, 0, .cons _ r => r
  | _, _, i + 1, .cons q r => .cons q (RpAll.eraseIdx i r)
theorem RpAll.rep (n : Nat) : ∀ {vs : List V} {ds : List D}, RpAll K G vs ds → RpAll K G (List.replicate n vs).flatten (List.replicate n ds).flatten := fun {vs ds} r => by
  induction n with
  | zero => exact .nil
  | succ n ih =>
    rw [List.replicate_succ, List.replicate_succ, List.flatten_cons, List.flatten_cons]
    exact r.append ih
theorem RpAll.ints : ∀ {vs : List V} {ns : List Int}, RpAll K G vs (ns.map D.int) → vs = ns.map V.int
  | _, [], .nil => rfl
  | _, n :: ns, .cons (.int _) r => by rw [RpAll.ints r]; rfl

/-- the state goes on: what was known stays known, what was there stays but for the draws' own -/
structure Ext (A : Act) (G H G' H' : Hp) : Prop where
  gg : Ex G G'
  gh : Ex G' H'
  keep : ∀ a o, ¬ A.F a → H a = some o → H' a = some o
  new : ∀ a o, G' a = some o → G a = some o ∨ H a = none
  si0 : A.SI H
  si : A.SI H'
theorem Ext.dn (e : Ext A G H G' H') {a : Addr} (h : H' a = none) : H a = none := by
  cases q : H a with
  | none => rfl
  | some o =>
    by_cases f : A.F a
    · exact absurd h (A.dom _ e.si a f)
    · rw [e.keep a o f q] at h; cases h
theorem Ext.trans (e : Ext A G H G1 H1) (e2 : Ext A G1 H1 G2 H2) : Ext A G H G2 H2 where
  gg := e.gg.trans e2.gg
  gh := e2.gh
  keep := fun a o f h => e2.keep a o f (e.keep a o f h)
  new := fun a o h => by
    rcases e2.new a o h with q | q
    · exact e.new a o q
    · exact .inr (e.dn q)
  si0 := e.si0
  si := e2.si
theorem Ext.refl' (e : Ext A G H G' H') : Ext A G' H' G' H' := ⟨Ex.refl _, e.gh, fun _ _ _ h => h, fun _ _ h => .inl h, e.si, e.si⟩
theorem Ext.refl0 (e : Ext A G H G' H') (g : Ex G H) : Ext A G H G H := ⟨Ex.refl _, g, fun _ _ _ h => h, fun _ _ h => .inl h, e.si0, e.si0⟩
/-- a state by itself -/
abbrev St1 (A : Act) (G H : Hp) : Prop := Ext A G H G H
theorem Ext.nf (s : St1 A G H) {p : Addr} (h : H p = none) : ¬ A.F p := fun f => A.dom _ s.si p f h
theorem Ex.upd1 {p : Addr} {o : HO} (e : Ex G H) (hp : H p = none) : Ex (upd G p o) (upd H p o) := fun a u h => by
  by_cases q : a = p
  · subst q; rw [upd_same] at h ⊢; exact h
  · rw [upd_ne q] at h ⊢; exact e a u h
theorem Ext.si_upd {p : Addr} {o : HO} (s : A.SI H) (hp : ¬ A.F p) : A.SI (upd H p o) := A.loc H _ (fun a f => by rw [upd_ne]; rintro rfl; exact hp f) s
/-- a new thing, known from now on -/
theorem Ext.alloc {p : Addr} {o : HO} (s : St1 A G H) (hp : H p = none) : Ext A G H (upd G p o) (upd H p o) where
  gg := Ex.new (by cases q : G p with | none => rfl | some u => rw [s.gh p u q] at hp; cases hp)
  gh := Ex.upd1 s.gh hp
  keep := fun a u f h => by rw [upd_ne (ne_of_none h hp)]; exact h
  new := fun a u h => by
    by_cases q : a = p
    · subst q; exact .inr hp
    · rw [upd_ne q] at h; exact .inl h
  si0 := s.si
  si := Ext.si_upd s.si (s.nf hp)
/-- a new thing, owned -/
theorem Ext.allocO {p : Addr} {o : HO} (s : St1 A G H) (hp : H p = none) : Ext A G H G (upd H p o) where
  gg := Ex.refl _
  gh := s.gh.trans (Ex.new hp)
  keep := fun a u f h => by rw [upd_ne (ne_of_none h hp)]; exact h
  new := fun a u h => .inl h
  si0 := s.si
  si := Ext.si_upd s.si (s.nf hp)
theorem Ext.gnone (s : St1 A G H) {p : Addr} (hp : H p = none) : G p = none := by
  cases q : G p with
  | none => rfl
  | some u => rw [s.gh p u q] at hp; cases hp
/-- an owned thing becomes known -/
theorem Ext.frz {p : Addr} {o : HO} (e : Ext A G H G' H') (h0 : H p = none) (h1 : H' p = some o) (hg : G' p = none) : Ext A G H (upd G' p o) H' where
  gg := e.gg.trans (Ex.new hg)
  gh := fun a u h => by
    by_cases q : a = p
    · subst q; rw [upd_same] at h; rw [h1]; exact h
    · rw [upd_ne q] at h; exact e.gh a u h
  keep := e.keep
  new := fun a u h => by
    by_cases q : a = p
    · subst q; exact .inr h0
    · rw [upd_ne q] at h; exact e.new a u h
  si0 := e.si0
  si := e.si

/-- an owned thing's object -/
inductive OwnAs (K : PySem.W.Frag) (G : Hp) : HO → D → Prop
  | lst {vs : List V} {ds : List D} : RpAll K G vs ds → OwnAs K G (.lst vs) (.lst ds)
  | dct {ks : List Key} {vs : List V} {ds : List D} : ks.length = vs.length → RpAll K G vs ds → OwnAs K G (.dK (ks.zip vs)) (.dct ks ds)
theorem OwnAs.mono {o : HO} {d : D} (e : Ex G G') (h : OwnAs K G o d) : OwnAs K G' o d := by
  cases h with
  | lst r => exact .lst (r.mono e)
  | dct l r => exact .dct l (r.mono e)
theorem OwnAs.rp {o : HO} {d : D} {p : Addr} (h : OwnAs K G o d) (hp : G p = some o) : Rp K G (.ref p) d := by
  cases h with
  | lst r => exact .lst hp r
  | dct l r => exact .dct hp l r
structure OwnOk (K : PySem.W.Frag) (A : Act) (G H : Hp) (p : Addr) (d : D) : Prop where
  at_ : ∃ o, H p = some o ∧ OwnAs K G o d
  gn : G p = none
  h0 : A.H0 p = none
  nf : ¬ A.F p
def SlOk (K : PySem.W.Frag) (A : Act) (G : Hp) (σ : L2.St) (H : Hp) (i : Nat) : Sl → Prop
  | .un => True
  | .val d => ∃ v, σ[i]? = some (some v) ∧ Rp K G v d
  | .own d => ∃ p, σ[i]? = some (some (.ref p)) ∧ OwnOk K A G H p d
structure Rel (K : PySem.W.Frag) (A : Act) (G : Hp) (σ : L2.St) (env : Env) (H : Hp) : Prop where
  e0 : Ext A A.G0 A.H0 G H
  gf : ∀ a, A.F a → G a = none
  len : env.length = σ.length
  sl : ∀ i s, env[i]? = some s → SlOk K A G σ H i s
  ap : ∀ (i j : Nat) (p : Addr) (d e : D), env[i]? = some (.own d) → env[j]? = some (.own e) → σ[i]? = some (some (.ref p)) → σ[j]? = some (some (.ref p)) → i = j
theorem Rel.st {σ : L2.St} {env : Env} (R : Rel K A G σ env H) : St1 A G H := R.e0.refl'
theorem OwnOk.ext {p : Addr} {d : D} (o : OwnOk K A G H p d) (e : Ext A G H G' H') : OwnOk K A G' H' p d := by
  obtain ⟨⟨u, h1, h2⟩, g, h0, nf⟩ := o
  refine ⟨⟨u, e.keep _ _ nf h1, h2.mono e.gg⟩, ?_, h0, nf⟩
  cases q : G' p with
  | none => rfl
  | some x =>
    rcases e.new p x q with z | z
    · rw [g] at z; cases z
    · rw [h1] at z; cases z
theorem Rel.ext {σ : L2.St} {env : Env} (R : Rel K A G σ env H) (e : Ext A G H G' H') : Rel K A G' σ env H' where
  e0 := R.e0.trans e
  gf := fun a f => by
    cases q : G' a with
    | none => rfl
    | some o =>
      rcases e.new a o q with z | z
      · rw [R.gf a f] at z; cases z
      · exact absurd z (A.dom _ e.si0 a f)
  len := R.len
  sl := fun i s h => by
    have q := R.sl i s h
    cases s with
    | un => trivial
    | val d => obtain ⟨v, h1, h2⟩ := q; exact ⟨v, h1, h2.mono e.gg⟩
    | own d => obtain ⟨p, h1, h2⟩ := q; exact ⟨p, h1, h2.ext e⟩
  ap := R.ap
end Eng

namespace Eng
open PySem PySem.Spec PyProof.Rows L2
open Evl (Ex)
variable {K : PySem.W.Frag} {A : Act} {G H G' H' G1 H1 G2 H2 : Hp}

mutual
def D.py : D → PyData
  | .non => .none
  | .bl b => .bool b
  | .int i => .int i
  | .str x => .str x
  | .tup l => .tuple (pyAll l)
  | .lst l => .list (pyAll l)
  | .dct _ _ => .none
  | .obj _ => .none
def pyAll : List D → List PyData
  | [] => []
  | d :: r => d.py :: pyAll r
end
mutual
/-- no dict, no handle within -/
def D.pure : D → Bool
  | .tup l => pureAll l
  | .lst l => pureAll l
  | .dct _ _ => false
  | .obj _ => false
  | _ => true
def pureAll : List D → Bool
  | [] => true
  | d :: r => d.pure && pureAll r
end
section
variable {X : Cx} {pins : List (Addr × Obj)} {σ : L2.St} {s : Shared}
mutual
theorem Rp.dp : ∀ (d : D) {v : V}, Rp K G v d → d.pure = true → Dp K G v d.py
  | .non, _, h, _ => by cases h; exact .non
  | .bl b, _, h, _ => by cases h; exact .bl b
  | .int i, _, h, _ => by cases h; exact .int i
  | .str x, _, h, _ => by cases h; exact .str x
  | .tup l, _, h, p => by
    cases h with
    | tup hs r => exact .tup hs (RpAll.dp l r p)
  | .lst l, _, h, p => by
    cases h with
    | lst hs r => exact .lst (SqL.of hs) (RpAll.dp l r p)
  | .dct _ _, _, _, p => by cases p
  | .obj _, _, _, p => by cases p
theorem RpAll.dp : ∀ (ds : List D) {vs : List V}, RpAll K G vs ds → pureAll ds = true → DpAll K G vs (pyAll ds)
  | [], _, h, _ => by cases h; exact .nil
  | d :: r, _, h, p => by
    have p' : (d.pure && pureAll r) = true := p
    rw [Bool.and_eq_true] at p'
    cases h with
    | cons h1 h2 => exact .cons (Rp.dp d h1 p'.1) (RpAll.dp r h2 p'.2)
end
end

inductive Rq (K : PySem.W.Frag) (A : Act) (G H : Hp) : V → D → Prop
  | of {v : V} {d : D} : Rp K G v d → Rq K A G H v d
  | own {p : Addr} {o : HO} {d : D} : H p = some o → ¬ A.F p → OwnAs K G o d → Rq K A G H (.ref p) d
theorem Rq.ext {v : V} {d : D} (h : Rq K A G H v d) (e : Ext A G H G' H') : Rq K A G' H' v d := by
  cases h with
  | of r => exact .of (r.mono e.gg)
  | own a b c => exact .own (e.keep _ _ b a) b (c.mono e.gg)
theorem Rq.lst {v : V} {ds : List D} (h : Rq K A G H v (.lst ds)) (g : Ex G H) : ∃ p vs, v = .ref p ∧ H p = some (.lst vs) ∧ RpAll K G vs ds := by
  cases h with
  | of r => cases r with | lst a b => exact ⟨_, _, rfl, g _ _ a, b⟩
  | own a b c => cases c with | lst r => exact ⟨_, _, rfl, a, r⟩
theorem Rq.tup {v : V} {ds : List D} (h : Rq K A G H v (.tup ds)) (g : Ex G H) : ∃ p vs, v = .ref p ∧ SqT K H p vs ∧ RpAll K G vs ds := by
  cases h with
  | of r => cases r with | tup a b => exact ⟨_, _, rfl, Evl.ex_t g a, b⟩
  | own a b c => cases c
theorem Rq.dct {v : V} {ks : List Key} {ds : List D} (h : Rq K A G H v (.dct ks ds)) (g : Ex G H) : ∃ p vs, v = .ref p ∧ H p = some (.dK (ks.zip vs)) ∧ ks.length = vs.length ∧ RpAll K G vs ds := by
  cases h with
  | of r => cases r with | dct a l b => exact ⟨_, _, rfl, g _ _ a, l, b⟩
  | own a b c => cases c with | dct l r => exact ⟨_, _, rfl, a, l, r⟩
theorem Rq.int {v : V} {i : Int} (h : Rq K A G H v (.int i)) : v = .int i := by
  cases h with
  | of r => cases r; rfl
  | own a b c => cases c
theorem Rq.bl {v : V} {i : Bool} (h : Rq K A G H v (.bl i)) : v = .bl i := by
  cases h with
  | of r => cases r; rfl
  | own a b c => cases c
theorem Rq.str {v : V} {i : Str} (h : Rq K A G H v (.str i)) : v = .str i := by
  cases h with
  | of r => cases r; rfl
  | own a b c => cases c
theorem Rq.non {v : V} (h : Rq K A G H v .non) : v = .non := by
  cases h with
  | of r => cases r; rfl
  | own a b c => cases c
theorem Rq.dp {v : V} {d : D} (h : Rq K A G H v d) (g : Ex G H) (p : d.pure = true) : Dp K H v d.py := by
  cases h with
  | of r => exact Rp.dp d (r.mono g) p
  | own a b c =>
    cases c with
    | lst r => exact .lst (SqL.of a) (RpAll.dp _ (r.mono g) p)
    | dct => cases p

section
variable {X : Cx}
theorem _root_.L2.PE.imp {e : Expr} {t t' : TE} (h : PE X e t) (i : ∀ σ H Q, t' σ H Q → t σ H Q) : PE X e t' := ⟨fun pins s σ H Q I q => h.run pins s σ H Q I (i σ H Q q)⟩
theorem _root_.L2.PT.imp {e : Expr} {t t' : TT} (h : PT X e t) (i : ∀ σ H Q, t' σ H Q → t σ H Q) : PT X e t' := ⟨fun pins s σ H Q I q => h.run pins s σ H Q I (i σ H Q q)⟩
theorem _root_.L2.PW.imp {e : Expr} {t t' : TT} (h : PW X e t) (i : ∀ σ H Q, t' σ H Q → t σ H Q) : PW X e t' := ⟨fun wh pins s σ H Q I q => h.run wh pins s σ H Q I (i σ H Q q)⟩
theorem _root_.L2.PA.imp {es : List Expr} {t t' : TA} (h : PA X es t) (i : ∀ σ H Q, t' σ H Q → t σ H Q) : PA X es t' := ⟨fun pos pins s σ H Q I q => h.run pos pins s σ H Q I (i σ H Q q)⟩
theorem _root_.L2.PK.imp {es : List Keyword} {t t' : TA} (h : PK X es t) (i : ∀ σ H Q, t' σ H Q → t σ H Q) : PK X es t' := ⟨fun pos pins s σ H Q I q => h.run pos pins s σ H Q I (i σ H Q q)⟩
theorem _root_.L2.PS.imp {st : Stmt} {t t' : TS} (h : PS X st t) (i : ∀ D σ H, t' D σ H → t D σ H) : PS X st t' := ⟨fun pins s σ H D I q => h.run pins s σ H D I (i D σ H q)⟩
theorem _root_.L2.PSs.imp {st : List Stmt} {t t' : TS} (h : PSs X st t) (i : ∀ D σ H, t' D σ H → t D σ H) : PSs X st t' := ⟨fun pins s σ H D I q => h.run pins s σ H D I (i D σ H q)⟩
theorem _root_.L2.PI.imp {tg iter : Expr} {t t' : TI} (h : PI X tg iter t) (i : ∀ σ H R, t' σ H R → t σ H R) : PI X tg iter t' := ⟨fun pins s σ H R I q => h.run pins s σ H R I (i σ H R q)⟩
theorem _root_.L2.PG.imp {tg : Expr} {t t' : TG} (h : PG X tg t) (i : ∀ v σ H Q, t' v σ H Q → t v σ H Q) : PG X tg t' := ⟨fun pins s σ H v u Q I r q => h.run pins s σ H v u Q I r (i v σ H Q q)⟩
end

/-- an expression that gives a datum -/
def rd (K : PySem.W.Frag) (A : Act) (w : Env → T D) : TE := fun σ H Q => ∃ G env, Rel K A G σ env H ∧ wp (w env) (fun d => ∀ v G' H', Ext A G H G' H' → Rp K G' v d → Q v H') A.E
/-- .. or a thing that is owned -/
def rdB (K : PySem.W.Frag) (A : Act) (w : Env → T D) : TE := fun σ H Q => ∃ G env, Rel K A G σ env H ∧ wp (w env) (fun d => ∀ v G' H', Ext A G H G' H' → Rq K A G' H' v d → Q v H') A.E
/-- .. a new list -/
def rdN (K : PySem.W.Frag) (A : Act) (w : Env → T (List D)) : TE := fun σ H Q => ∃ G env, Rel K A G σ env H ∧ wp (w env) (fun ds => ∀ p vs G' H', Ext A G H G' H' → H p = none → G' p = none → H' p = some (.lst vs) → RpAll K G' vs ds → Q (.ref p) H') A.E
/-- arguments: n of them -/
def rdA (K : PySem.W.Frag) (A : Act) (n : Nat) (w : Env → T (List D)) : TA := fun σ H Q => ∃ G env, Rel K A G σ env H ∧ wp (w env) (fun ds => ∀ vs G' H', Ext A G H G' H' → RpAll K G' vs ds → vs.length = n → Q vs H') A.E
/-- a test -/
def rdT (K : PySem.W.Frag) (A : Act) (w : Env → T Bool) : TT := fun σ H Q => ∃ G env, Rel K A G σ env H ∧ wp (w env) (fun b => ∀ G' H', Ext A G H G' H' → Q b H') A.E

theorem rdB_of {w : Env → T D} {σ : L2.St} {Q : VK} (h : rdB K A w σ H Q) : rd K A w σ H Q := by
  obtain ⟨G, env, R, h⟩ := h
  exact ⟨G, env, R, wp_imp h fun d q v G' H' e r => q v G' H' e (.of r)⟩
theorem rdN_of {w : Env → T (List D)} {σ : L2.St} {Q : VK} (h : rd K A (fun env => w env >>= fun ds => T.ret (D.lst ds)) σ H Q) : rdN K A w σ H Q := by
  obtain ⟨G, env, R, h⟩ := h
  refine ⟨G, env, R, wp_imp (wp_bind.mp h) fun ds q p vs G' H' e hp hg hl r => ?_⟩
  have e2 := e.frz hp hl hg
  exact q _ _ _ e2 (.lst upd_same (r.mono (Ex.new hg)))
section
variable {X : Cx} {e : Expr}
theorem toB {w : Env → T D} (h : PE X e (rd X.K A w)) : PE X e (rdB X.K A w) := h.imp fun _ _ _ => rdB_of
theorem toL {w : Env → T (List D)} (h : PE X e (rdN X.K A w)) : PE X e (rd X.K A (fun env => w env >>= fun ds => T.ret (D.lst ds))) := h.imp fun _ _ _ => rdN_of

theorem r_var (i : Nat) {x : Str} {pos : Pos} (hN : X.N[i]? = some x := by rfl) (hv : Vis X.env.scope x := by first | exact Or.inl rfl | exact Or.inr (Or.inl rfl) | exact Or.inr (Or.inr rfl)) (hd : (x == ("__debug__" : Str)) = false := by decide)
    (hcd : (x == ("__classdict__" : Str)) = false := by decide) : PE X (.Name x pos) (rd X.K A (fun env => getV env i)) := (pe_var hN hv hd hcd).imp fun σ H Q h => by
  obtain ⟨G, env, R, h⟩ := h
  dsimp only [getV] at h
  split at h
  · rename_i d e
    obtain ⟨v, h1, h2⟩ := R.sl i _ e
    exact ⟨v, h1, h v G H R.st h2⟩
  · exact h.elim
theorem r_varB (i : Nat) {x : Str} {pos : Pos} (hN : X.N[i]? = some x := by rfl) (hv : Vis X.env.scope x := by first | exact Or.inl rfl | exact Or.inr (Or.inl rfl) | exact Or.inr (Or.inr rfl)) (hd : (x == ("__debug__" : Str)) = false := by decide)
    (hcd : (x == ("__classdict__" : Str)) = false := by decide) : PE X (.Name x pos) (rdB X.K A (fun env => getB env i)) := (pe_var hN hv hd hcd).imp fun σ H Q h => by
  obtain ⟨G, env, R, h⟩ := h
  dsimp only [getB] at h
  split at h
  · rename_i d e
    obtain ⟨v, h1, h2⟩ := R.sl i _ e
    exact ⟨v, h1, h v G H R.st (.of h2)⟩
  · rename_i d e
    obtain ⟨p, h1, ⟨⟨o, h2, h3⟩, h4, h5, h6⟩⟩ := R.sl i _ e
    exact ⟨_, h1, h _ G H R.st (.own h2 h6 h3)⟩
  · exact h.elim
theorem tC_rd {v : V} {d : D} (hr : ∀ G, Rp X.K G v d) {σ : L2.St} {Q : VK} (h : rd X.K A (fun _ => T.ret d) σ H Q) : tC v σ H Q := by
  obtain ⟨G, env, R, h⟩ := h
  exact h v G H R.st (hr G)
theorem r_int {i j pos} : PE X (.Constant (.int i) j pos) (rd X.K A fun _ => T.ret (.int i)) := pe_int.imp fun _ _ _ => tC_rd fun _ => .int i
theorem r_bl {i j pos} : PE X (.Constant (.bool i) j pos) (rd X.K A fun _ => T.ret (.bl i)) := pe_bl.imp fun _ _ _ => tC_rd fun _ => .bl i
theorem r_str {i j pos} : PE X (.Constant (.str i) j pos) (rd X.K A fun _ => T.ret (.str i)) := pe_str.imp fun _ _ _ => tC_rd fun _ => .str i
theorem r_non {j pos} : PE X (.Constant .none j pos) (rd X.K A fun _ => T.ret .non) := pe_non.imp fun _ _ _ => tC_rd fun _ => .non
/-- a constant of the module -/
structure Gc (K : PySem.W.Frag) (mg : Str → Option Value) (x : Str) (d : D) : Prop where
  ex : ∃ v u, mg x = some u ∧ RelV v u ∧ ∀ G, Rp K G v d
theorem r_glob {x : Str} {pos : Pos} {d : D} (hg : Gl X x) (c : Gc X.K X.mg x d) (hd : (x == ("__debug__" : Str)) = false := by decide) : PE X (.Name x pos) (rd X.K A fun _ => T.ret d) := by
  obtain ⟨v, u, h1, h2, h3⟩ := c.ex
  exact (pe_glob hg h1 h2 hd).imp fun _ _ _ => tC_rd h3

def dNil : Env → T (List D) := fun _ => T.ret []
def dCons (w : Env → T D) (ws : Env → T (List D)) : Env → T (List D) := fun env => do
  let d ← w env
  let ds ← ws env
  T.ret (d :: ds)
theorem a_nil : PA X [] (rdA X.K A 0 dNil) := pa_nil.imp fun σ H Q h => by
  obtain ⟨G, env, R, h⟩ := h
  exact h [] G H R.st .nil rfl
theorem rdA_cons {n : Nat} {w : Env → T D} {ws : Env → T (List D)} {σ : L2.St} {Q : List V → Hp → Prop} (h : rdA K A (n + 1) (dCons w ws) σ H Q) : tCons (rd K A w) (rdA K A n ws) σ H Q := by
  obtain ⟨G, env, R, h⟩ := h
  refine ⟨G, env, R, wp_imp (wp_bind.mp h) fun d h1 v G1 H1 e1 r1 => ?_⟩
  refine ⟨G1, env, R.ext e1, wp_imp (wp_bind.mp h1) fun ds h2 vs G2 H2 e2 r2 l2 => ?_⟩
  exact h2 (v :: vs) G2 H2 (e1.trans e2) (.cons (r1.mono e2.gg) r2) (congrArg Nat.succ l2)
theorem a_cons {n : Nat} {es : List Expr} {w : Env → T D} {ws : Env → T (List D)} (h : PE X e (rd X.K A w)) (hr : PA X es (rdA X.K A n ws)) (hs : starEach (e :: es) X.env = (false, eval e X.env) :: starEach es X.env := by rfl) : PA X (e :: es) (rdA X.K A (n + 1) (dCons w ws)) :=
  (pa_cons h hr hs).imp fun _ _ _ => rdA_cons
theorem k_nil : PK X [] (rdA X.K A 0 dNil) := pk_nil.imp fun σ H Q h => by
  obtain ⟨G, env, R, h⟩ := h
  exact h [] G H R.st .nil rfl
theorem k_cons {n : Nat} {nm : Option Str} {kpos : Pos} {kws : List Keyword} {w : Env → T D} {ws : Env → T (List D)} (h : PE X e (rd X.K A w)) (hr : PK X kws (rdA X.K A n ws)) : PK X (⟨nm, e, kpos⟩ :: kws) (rdA X.K A (n + 1) (dCons w ws)) :=
  (pk_cons h hr).imp fun _ _ _ => rdA_cons
def dTup (ws : Env → T (List D)) : Env → T D := fun env => ws env >>= fun ds => T.ret (.tup ds)
theorem r_tup {n : Nat} {es : List Expr} {ws : Env → T (List D)} {x1 pos} (h : PA X es (rdA X.K A n ws)) (hn : n ≤ 1000 := by decide) : PE X (.Tuple es x1 pos) (rd X.K A (dTup ws)) := (pe_tup h).imp fun σ H Q h => by
  obtain ⟨G, env, R, h⟩ := h
  refine ⟨G, env, R, wp_imp (wp_bind.mp h) fun ds h1 vs G1 H1 e1 r1 l1 => ⟨by rw [l1]; exact Nat.le_of_lt (small1000 hn), fun p hp => ?_⟩⟩
  exact h1 _ _ _ (e1.trans (e1.refl'.alloc hp)) (.tup (SqT.of upd_same) (r1.mono (Ex.new (e1.refl'.gnone hp))))
theorem r_lst {n : Nat} {es : List Expr} {ws : Env → T (List D)} {pos} (h : PA X es (rdA X.K A n ws)) (hn : n ≤ 1000 := by decide) : PE X (.List es pos) (rdN X.K A ws) := (pe_lst h).imp fun σ H Q h => by
  obtain ⟨G, env, R, h⟩ := h
  refine ⟨G, env, R, wp_imp h fun ds h1 vs G1 H1 e1 r1 l1 => ⟨by rw [l1]; exact Nat.le_of_lt (small1000 hn), fun p hp => ?_⟩⟩
  exact h1 _ _ _ _ (e1.trans (e1.refl'.allocO hp)) (e1.dn hp) (e1.refl'.gnone hp) upd_same r1

def OpD (K : PySem.W.Frag) (A : Act) (r : R2) (f : D → D → T D) : Prop := ∀ (G H : Hp) (x y : V) (dx dy : D) (Q : VK), St1 A G H → Rq K A G H x dx → Rq K A G H y dy →
  wp (f dx dy) (fun d => ∀ v G' H', Ext A G H G' H' → Rp K G' v d → Q v H') A.E → r x y H Q
/-- .. that give a new list -/
def OpN (K : PySem.W.Frag) (A : Act) (r : R2) (f : D → D → T (List D)) : Prop := ∀ (G H : Hp) (x y : V) (dx dy : D) (Q : VK), St1 A G H → Rq K A G H x dx → Rq K A G H y dy →
  wp (f dx dy) (fun ds => ∀ p vs G' H', Ext A G H G' H' → H p = none → G' p = none → H' p = some (.lst vs) → RpAll K G' vs ds → Q (.ref p) H') A.E → r x y H Q
/-- .. that give a truth value -/
def OpC (K : PySem.W.Frag) (A : Act) (r : R2) (f : D → D → T Bool) : Prop := ∀ (G H : Hp) (x y : V) (dx dy : D) (Q : VK), St1 A G H → Rq K A G H x dx → Rq K A G H y dy →
  wp (f dx dy) (fun b => Q (.bl b) H) A.E → r x y H Q
def dB {α : Type} (f : D → D → T α) (wa wb : Env → T D) : Env → T α := fun env => do
  let x ← wa env
  let y ← wb env
  f x y
theorem tOp_D {r : R2} {f : D → D → T D} {wa wb : Env → T D} {σ : L2.St} {Q : VK} (hd : OpD K A r f) (h : rd K A (dB f wa wb) σ H Q) : tOp r (rdB K A wa) (rdB K A wb) σ H Q := by
  obtain ⟨G, env, R, h⟩ := h
  refine ⟨G, env, R, wp_imp (wp_bind.mp h) fun d h1 v G1 H1 e1 r1 => ?_⟩
  refine ⟨G1, env, R.ext e1, wp_imp (wp_bind.mp h1) fun d' h2 v' G2 H2 e2 r2 => ?_⟩
  exact hd G2 H2 v v' d d' Q e2.refl' (r1.ext e2) r2 (wp_imp h2 fun z h3 u G3 H3 e3 r3 => h3 u G3 H3 ((e1.trans e2).trans e3) r3)
theorem tOp_N {r : R2} {f : D → D → T (List D)} {wa wb : Env → T D} {σ : L2.St} {Q : VK} (hd : OpN K A r f) (h : rdN K A (dB f wa wb) σ H Q) : tOp r (rdB K A wa) (rdB K A wb) σ H Q := by
  obtain ⟨G, env, R, h⟩ := h
  refine ⟨G, env, R, wp_imp (wp_bind.mp h) fun d h1 v G1 H1 e1 r1 => ?_⟩
  refine ⟨G1, env, R.ext e1, wp_imp (wp_bind.mp h1) fun d' h2 v' G2 H2 e2 r2 => ?_⟩
  exact hd G2 H2 v v' d d' Q e2.refl' (r1.ext e2) r2 (wp_imp h2 fun z h3 p us G3 H3 e3 a b c r3 => h3 p us G3 H3 ((e1.trans e2).trans e3) (e1.dn (e2.dn a)) b c r3)
def dBl (w : Env → T Bool) : Env → T D := fun env => w env >>= fun b => T.ret (.bl b)
theorem tOp_C {r : R2} {f : D → D → T Bool} {wa wb : Env → T D} {σ : L2.St} {Q : VK} (hd : OpC K A r f) (h : rd K A (dBl (dB f wa wb)) σ H Q) : tOp r (rdB K A wa) (rdB K A wb) σ H Q := by
  obtain ⟨G, env, R, h⟩ := h
  have h := wp_bind.mp h
  refine ⟨G, env, R, wp_imp (wp_bind.mp h) fun d h1 v G1 H1 e1 r1 => ?_⟩
  refine ⟨G1, env, R.ext e1, wp_imp (wp_bind.mp h1) fun d' h2 v' G2 H2 e2 r2 => ?_⟩
  exact hd G2 H2 v v' d d' Q e2.refl' (r1.ext e2) r2 (wp_imp h2 fun b h3 => h3 _ _ _ (e1.trans e2) (.bl b))
theorem tOp_CT {r : R2} {f : D → D → T Bool} {wa wb : Env → T D} {σ : L2.St} {Q : Bool → Hp → Prop} (hd : OpC K A r f) (h : rdT K A (dB f wa wb) σ H Q) : tTest (tOp r (rdB K A wa) (rdB K A wb)) σ H Q := by
  obtain ⟨G, env, R, h⟩ := h
  refine ⟨G, env, R, wp_imp (wp_bind.mp h) fun d h1 v G1 H1 e1 r1 => ?_⟩
  refine ⟨G1, env, R.ext e1, wp_imp (wp_bind.mp h1) fun d' h2 v' G2 H2 e2 r2 => ?_⟩
  exact hd G2 H2 v v' d d' _ e2.refl' (r1.ext e2) r2 (wp_imp h2 fun b h3 => ⟨b, rfl, h3 _ _ (e1.trans e2)⟩)

variable {a b : Expr} {wa wb : Env → T D} {pos : Pos}
theorem r_bin {op : Operator} {r : R2} {f : D → D → T D} (ho : OpR X (binaryOp op) r) (hd : OpD X.K A r f) (ha : PE X a (rdB X.K A wa)) (hb : PE X b (rdB X.K A wb)) : PE X (.BinOp a op b pos) (rd X.K A (dB f wa wb)) :=
  (pe_op ho ha hb).imp fun _ _ _ => tOp_D hd
theorem r_binN {op : Operator} {r : R2} {f : D → D → T (List D)} (ho : OpR X (binaryOp op) r) (hd : OpN X.K A r f) (ha : PE X a (rdB X.K A wa)) (hb : PE X b (rdB X.K A wb)) : PE X (.BinOp a op b pos) (rdN X.K A (dB f wa wb)) :=
  (pe_op ho ha hb).imp fun _ _ _ => tOp_N hd
theorem r_cmp {op : CmpOp} {r : R2} {f : D → D → T Bool} (ho : OpR X (compareOp op) r) (hd : OpC X.K A r f) (ha : PE X a (rdB X.K A wa)) (hb : PE X b (rdB X.K A wb)) (hm : behindInMarks op b = false) : PE X (.Compare a [op] [b] pos) (rd X.K A (dBl (dB f wa wb))) :=
  (pe_cmpR ho ha hb hm).imp fun _ _ _ => tOp_C hd
theorem t_cmp {op : CmpOp} {r : R2} {f : D → D → T Bool} (ho : OpR X (compareOp op) r) (hd : OpC X.K A r f) (ha : PE X a (rdB X.K A wa)) (hb : PE X b (rdB X.K A wb)) (hm : behindInMarks op b = false) : PT X (.Compare a [op] [b] pos) (rdT X.K A (dB f wa wb)) :=
  (pt_cmpR ho ha hb hm).imp fun _ _ _ => tOp_CT hd
end
end Eng

namespace Eng
open PySem PySem.Spec PyProof.Rows L2
open Evl (Ex)
variable {K : PySem.W.Frag} {A : Act} {G H G' H' G1 H1 G2 H2 : Hp}

def addD : D → D → T D
  | .int i, .int j => .ret (.int (i + j))
  | .int i, .bl b => .ret (.int (i + b2i b))
  | .str i, .str j => if i.length + j.length ≤ sizeLine then .ret (.str (i ++ j)) else .fail
  | .lst xs, .lst ys => if xs.length + ys.length ≤ sizeLine then .ret (.lst (xs ++ ys)) else .fail
  | .tup xs, .tup ys => if xs.length + ys.length ≤ sizeLine then .ret (.tup (xs ++ ys)) else .fail
  | _, _ => .fail
def addN : D → D → T (List D)
  | .lst xs, .lst ys => if xs.length + ys.length ≤ sizeLine then .ret (xs ++ ys) else .fail
  | _, _ => .fail
abbrev rAddI : R2 := rI0 fun i j => .int (i + j)
abbrev rAddB : R2 := fun x y H Q => ∃ i k, x = .int i ∧ y = .bl k ∧ Q (.int (i + b2i k)) H
abbrev rAddS : R2 := fun x y H Q => ∃ i j, x = .str i ∧ y = .str j ∧ i.length + j.length ≤ sizeLine ∧ Q (.str (i ++ j)) H
def rAddAll (K : PySem.W.Frag) : R2 := fun x y H Q => rAddI x y H Q ∨ (rAddB x y H Q ∨ (rAddS x y H Q ∨ (rCat x y H Q ∨ rCatA K x y H Q)))
section
variable {X : Cx}
theorem op_addAll : OpR X (binaryOp .Add) (rAddAll X.K) := op_add.or (op_add_ib.or (op_add_str.or (op_cat.or op_catA)))
theorem opN_cat : OpN K A rCat addN := by
  intro G H x y dx dy Q s hx hy h
  unfold addN at h
  split at h
  · rename_i xs ys
    split at h
    · rename_i hl
      obtain ⟨p, vs, rfl, h1, h2⟩ := hx.lst s.gh
      obtain ⟨q, us, rfl, h3, h4⟩ := hy.lst s.gh
      exact ⟨p, q, vs, us, rfl, rfl, h1, h3, by rw [h2.length, h4.length]; exact hl, fun r hr => h r _ _ _ (s.allocO hr) hr (s.gnone hr) upd_same (h2.append h4)⟩
    · exact h.elim
  · exact h.elim
theorem opD_add : OpD K A (rAddAll K) addD := by
  intro G H x y dx dy Q s hx hy h
  unfold addD at h
  split at h
  · rename_i i j
    exact .inl ⟨i, j, hx.int, hy.int, h _ _ _ s (.int _)⟩
  · rename_i i j
    exact .inr (.inl ⟨i, j, hx.int, hy.bl, h _ _ _ s (.int _)⟩)
  · rename_i i j
    split at h
    · rename_i hl
      exact .inr (.inr (.inl ⟨i, j, hx.str, hy.str, hl, h _ _ _ s (.str _)⟩))
    · exact h.elim
  · rename_i xs ys
    split at h
    · rename_i hl
      obtain ⟨p, vs, rfl, h1, h2⟩ := hx.lst s.gh
      obtain ⟨q, us, rfl, h3, h4⟩ := hy.lst s.gh
      exact .inr (.inr (.inr (.inl ⟨p, q, vs, us, rfl, rfl, h1, h3, by rw [h2.length, h4.length]; exact hl, fun r hr => h _ _ _ (s.alloc hr) (.lst upd_same ((h2.append h4).mono (Ex.new (s.gnone hr))))⟩)))
    · exact h.elim
  · rename_i xs ys
    split at h
    · rename_i hl
      have tx : ∃ p vs, x = .ref p ∧ Rp K G x (.tup xs) ∧ SqT K H p vs ∧ RpAll K G vs xs := by
        obtain ⟨p, vs, e, h1, h2⟩ := hx.tup s.gh
        cases hx with
        | of r => exact ⟨p, vs, e, r, h1, h2⟩
        | own a b c => cases c
      have ty : ∃ p vs, y = .ref p ∧ Rp K G y (.tup ys) ∧ SqT K H p vs ∧ RpAll K G vs ys := by
        obtain ⟨p, vs, e, h1, h2⟩ := hy.tup s.gh
        cases hy with
        | of r => exact ⟨p, vs, e, r, h1, h2⟩
        | own a b c => cases c
      obtain ⟨p, vs, rfl, r1, h1, h2⟩ := tx
      obtain ⟨q, us, rfl, r2, h3, h4⟩ := ty
      refine .inr (.inr (.inr (.inr ⟨p, q, vs, us, rfl, rfl, h1, h3, by rw [h2.length, h4.length]; exact hl, fun e => ?_, fun _ e => ?_, fun _ _ r hr => ?_⟩)))
      · subst e
        cases h2
        exact h _ _ _ s r2
      · subst e
        cases h4
        rw [List.append_nil] at h
        exact h _ _ _ s r1
      · exact h _ _ _ (s.alloc hr) (.tup (SqT.of upd_same) ((h2.append h4).mono (Ex.new (s.gnone hr))))
    · exact h.elim
  · exact h.elim
end

def subD : D → D → T D
  | .int i, .int j => .ret (.int (i - j))
  | _, _ => .fail
theorem opD_sub : OpD K A (rI0 fun i j => .int (i - j)) subD := by
  intro G H x y dx dy Q s hx hy h
  unfold subD at h
  split at h
  · exact ⟨_, _, hx.int, hy.int, h _ _ _ s (.int _)⟩
  · exact h.elim
def mulOk (i j : Int) : Bool := decide (i.natAbs < 2 ^ 64) || (decide (j.natAbs < 2 ^ 64) || decide (i.natAbs.log2 + j.natAbs.log2 < 1000000))
def mulD : D → D → T D
  | .int i, .int j => if mulOk i j = true then .ret (.int (i * j)) else .fail
  | .lst xs, .int k => if -(2 ^ 63) ≤ k ∧ k < 2 ^ 63 ∧ xs.length * k.toNat ≤ sizeLine then .ret (.lst (List.replicate k.toNat xs).flatten) else .fail
  | .tup xs, .int k => if (xs = [] ∨ k = 1) ∧ -(2 ^ 63) ≤ k ∧ k < 2 ^ 63 then .ret (.tup xs) else if xs ≠ [] ∧ k ≤ 0 ∧ -(2 ^ 63) ≤ k then .ret (.tup []) else if xs ≠ [] ∧ 2 ≤ k ∧ k ≤ 1000 ∧ xs.length ≤ 1000 then .ret (.tup (List.replicate k.toNat xs).flatten) else .fail
  | _, _ => .fail
def mulN : D → D → T (List D)
  | .lst xs, .int k => if -(2 ^ 63) ≤ k ∧ k < 2 ^ 63 ∧ xs.length * k.toNat ≤ sizeLine then .ret (List.replicate k.toNat xs).flatten else .fail
  | _, _ => .fail
def rMulAll (K : PySem.W.Frag) : R2 := fun x y H Q => rI CMul (fun i j => .int (i * j)) x y H Q ∨ (rI CMulW (fun i j => .int (i * j)) x y H Q ∨ (rRep x y H Q ∨ (rRepT K x y H Q ∨ (rRep1 K x y H Q ∨ rRep0 K x y H Q))))
theorem op_mulAll {X : Cx} : OpR X (binaryOp .Mult) (rMulAll X.K) := op_mul.or (op_mulW.or (op_rep.or (op_repT.or (op_rep1.or op_rep0))))
theorem opN_rep : OpN K A rRep mulN := by
  intro G H x y dx dy Q s hx hy h
  unfold mulN at h
  split at h
  · rename_i xs k
    split at h
    · rename_i hl
      obtain ⟨p, vs, rfl, h1, h2⟩ := hx.lst s.gh
      exact ⟨p, k, vs, rfl, hy.int, h1, hl.1, hl.2.1, by rw [h2.length]; exact hl.2.2, fun r hr => h r _ _ _ (s.allocO hr) hr (s.gnone hr) upd_same (h2.rep _)⟩
    · exact h.elim
  · exact h.elim
theorem opD_mul : OpD K A (rMulAll K) mulD := by
  intro G H x y dx dy Q s hx hy h
  unfold mulD at h
  split at h
  · rename_i i j
    split at h
    · rename_i hm
      have q := h _ _ _ s (.int _)
      unfold mulOk at hm
      simp only [Bool.or_eq_true, decide_eq_true_eq] at hm
      rcases hm with hm | hm | hm
      · exact .inl ⟨i, j, hx.int, hy.int, .inl (by omega), q⟩
      · exact .inl ⟨i, j, hx.int, hy.int, .inr (by omega), q⟩
      · exact .inr (.inl ⟨i, j, hx.int, hy.int, hm, q⟩)
    · exact h.elim
  · rename_i xs k
    split at h
    · rename_i hl
      obtain ⟨p, vs, rfl, h1, h2⟩ := hx.lst s.gh
      exact .inr (.inr (.inl ⟨p, k, vs, rfl, hy.int, h1, hl.1, hl.2.1, by rw [h2.length]; exact hl.2.2, fun r hr => h _ _ _ (s.alloc hr) (.lst upd_same ((h2.rep _).mono (Ex.new (s.gnone hr))))⟩))
    · exact h.elim
  · rename_i xs k
    split at h
    · rename_i hl
      have hrp : Rp K G x (.tup xs) := by
        cases hx with
        | of rr => exact rr
        | own a b c => cases c
      obtain ⟨p, vs, rfl, h1, h2⟩ := hx.tup s.gh
      exact .inr (.inr (.inr (.inr (.inl ⟨p, k, vs, rfl, hy.int, h1, hl.1.imp (fun e => by subst e; cases h2; rfl) id, hl.2, h _ _ _ s hrp⟩))))
    · split at h
      · rename_i hl
        obtain ⟨p, vs, rfl, h1, h2⟩ := hx.tup s.gh
        exact .inr (.inr (.inr (.inr (.inr ⟨p, k, vs, rfl, hy.int, h1, fun e => hl.1 (by subst e; cases h2; rfl), hl.2.1, hl.2.2, fun r hr => h _ _ _ (s.alloc hr) (.tup (SqT.of upd_same) .nil)⟩))))
      split at h
      · rename_i hl
        obtain ⟨p, vs, rfl, h1, h2⟩ := hx.tup s.gh
        exact .inr (.inr (.inr (.inl ⟨p, k, vs, rfl, hy.int, h1, fun e => hl.1 (by subst e; cases h2; rfl), hl.2.1, hl.2.2.1, by rw [h2.length]; exact hl.2.2.2, fun r hr => h _ _ _ (s.alloc hr) (.tup (SqT.of upd_same) ((h2.rep _).mono (Ex.new (s.gnone hr))))⟩)))
      · exact h.elim
  · exact h.elim
def fdivD : D → D → T D
  | .int i, .int j => if 0 < j ∧ j < 1073741824 then .ret (.int (i / j)) else .fail
  | _, _ => .fail
theorem opD_fdiv : OpD K A (rI CDiv fun i j => .int (i / j)) fdivD := by
  intro G H x y dx dy Q s hx hy h
  unfold fdivD at h
  split at h
  · split at h
    · rename_i hc
      exact ⟨_, _, hx.int, hy.int, hc, h _ _ _ s (.int _)⟩
    · exact h.elim
  · exact h.elim
def modD : D → D → T D
  | .int i, .int j => if 0 < j then .ret (.int (i % j)) else .fail
  | _, _ => .fail
theorem opD_mod : OpD K A (rI (fun _ j => 0 < j) fun i j => .int (i % j)) modD := by
  intro G H x y dx dy Q s hx hy h
  unfold modD at h
  split at h
  · split at h
    · rename_i hc
      exact ⟨_, _, hx.int, hy.int, hc, h _ _ _ s (.int _)⟩
    · exact h.elim
  · exact h.elim
def powD : D → D → T D
  | .int i, .int j => if 0 ≤ j ∧ j ≤ 1000000 ∧ i.natAbs < 2 ^ 64 then .ret (.int (i ^ j.toNat)) else .fail
  | _, _ => .fail
theorem opD_pow : OpD K A (rI CPow fun i j => .int (i ^ j.toNat)) powD := by
  intro G H x y dx dy Q s hx hy h
  unfold powD at h
  split at h
  · split at h
    · rename_i hc
      exact ⟨_, _, hx.int, hy.int, hc, h _ _ _ s (.int _)⟩
    · exact h.elim
  · exact h.elim
def negD : D → T D
  | .int i => .ret (.int (-i))
  | _ => .fail

def ltD : D → D → T Bool
  | .int i, .int j => .ret (decide (i < j))
  | _, _ => .fail
def leD : D → D → T Bool
  | .int i, .int j => .ret (decide (i ≤ j))
  | _, _ => .fail
def gtD : D → D → T Bool
  | .int i, .int j => .ret (decide (j < i))
  | _, _ => .fail
def geD : D → D → T Bool
  | .int i, .int j => .ret (decide (j ≤ i))
  | _, _ => .fail
theorem opC_lt : OpC K A (rI0 fun i j => .bl (decide (i < j))) ltD := by
  intro G H x y dx dy Q s hx hy h
  unfold ltD at h
  split at h
  · exact ⟨_, _, hx.int, hy.int, h⟩
  · exact h.elim
theorem opC_le : OpC K A (rI0 fun i j => .bl (decide (i ≤ j))) leD := by
  intro G H x y dx dy Q s hx hy h
  unfold leD at h
  split at h
  · exact ⟨_, _, hx.int, hy.int, h⟩
  · exact h.elim
theorem opC_gt : OpC K A (rI0 fun i j => .bl (decide (j < i))) gtD := by
  intro G H x y dx dy Q s hx hy h
  unfold gtD at h
  split at h
  · exact ⟨_, _, hx.int, hy.int, h⟩
  · exact h.elim
theorem opC_ge : OpC K A (rI0 fun i j => .bl (decide (j ≤ i))) geD := by
  intro G H x y dx dy Q s hx hy h
  unfold geD at h
  split at h
  · exact ⟨_, _, hx.int, hy.int, h⟩
  · exact h.elim
/-- == of scalars that it tells apart as data does -/
def eqS : D → D → Option Bool
  | .non, .non => some true
  | .non, .int _ => some false
  | .int _, .non => some false
  | .non, .bl _ => some false
  | .bl _, .non => some false
  | .non, .str _ => some false
  | .str _, .non => some false
  | .int i, .int j => some (decide (i = j))
  | .bl i, .bl j => some (decide (i = j))
  | .str i, .str j => some (decide (i = j))
  | .int _, .str _ => some false
  | .str _, .int _ => some false
  | .bl _, .str _ => some false
  | .str _, .bl _ => some false
  | _, _ => none
/-- what == looks into -/
def D.okD (d : D) : Bool := d.pure && SeqAt.shaped d.py
def eqD (a b : D) : T Bool := match eqS a b with
  | some k => .ret k
  | none => if a.okD = true ∧ b.okD = true then .ret (PyData.eqv a.py b.py) else .fail
def neD (a b : D) : T Bool := match eqS a b with
  | some k => .ret (!k)
  | none => if a.okD = true ∧ b.okD = true then .ret (!PyData.eqv a.py b.py) else .fail
theorem eqS_ok {x y : V} {dx dy : D} {k : Bool} (hx : Rq K A G H x dx) (hy : Rq K A G H y dy) (h : eqS dx dy = some k) : scal x y = true ∧ decide (x = y) = k := by
  unfold eqS at h
  split at h <;> cases h <;> (first | (have e := hx.int; subst e) | (have e := hx.bl; subst e) | (have e := hx.str; subst e) | (have e := hx.non; subst e)) <;>
    (first | (have e := hy.int; subst e) | (have e := hy.bl; subst e) | (have e := hy.str; subst e) | (have e := hy.non; subst e)) <;> exact ⟨rfl, by simp⟩
def rEqAll (K : PySem.W.Frag) : R2 := fun x y H Q => rEq x y H Q ∨ rEqD K x y H Q
def rNeAll (K : PySem.W.Frag) : R2 := fun x y H Q => rNe x y H Q ∨ rNeD K x y H Q
theorem op_eqAll {X : Cx} (hu : X.A.units + 64 < cLine) : OpR X (compareOp .Eq) (rEqAll X.K) := op_eq.or (op_eqD hu)
theorem op_neAll {X : Cx} (hu : X.A.units + 64 < cLine) : OpR X (compareOp .NotEq) (rNeAll X.K) := op_ne.or (op_neD hu)
theorem okD_pure {d : D} (h : d.okD = true) : d.pure = true ∧ SeqAt.shaped d.py = true := Bool.and_eq_true_iff.mp h
theorem opC_eq : OpC K A (rEqAll K) eqD := by
  intro G H x y dx dy Q s hx hy h
  unfold eqD at h
  split at h
  · rename_i k e
    obtain ⟨h1, h2⟩ := eqS_ok hx hy e
    exact .inl ⟨h1, by rw [h2]; exact h⟩
  · split at h
    · rename_i hk
      obtain ⟨p1, p2⟩ := okD_pure hk.1
      obtain ⟨p3, p4⟩ := okD_pure hk.2
      exact .inr ⟨_, _, hx.dp s.gh p1, hy.dp s.gh p3, p2, p4, h⟩
    · exact h.elim
theorem opC_ne : OpC K A (rNeAll K) neD := by
  intro G H x y dx dy Q s hx hy h
  unfold neD at h
  split at h
  · rename_i k e
    obtain ⟨h1, h2⟩ := eqS_ok hx hy e
    exact .inl ⟨h1, by rw [h2]; exact h⟩
  · split at h
    · rename_i hk
      obtain ⟨p1, p2⟩ := okD_pure hk.1
      obtain ⟨p3, p4⟩ := okD_pure hk.2
      exact .inr ⟨_, _, hx.dp s.gh p1, hy.dp s.gh p3, p2, p4, h⟩
    · exact h.elim
/-- is None -/
def D.isNon : D → Bool
  | .non => true
  | _ => false
def isNoneD (a b : D) : T Bool := match b with
  | .non => .ret a.isNon
  | _ => .fail
def notNoneD (a b : D) : T Bool := match b with
  | .non => .ret (!a.isNon)
  | _ => .fail
theorem Rq.none_iff {x : V} {d : D} (h : Rq K A G H x d) : decide (x = .non) = d.isNon := by
  cases h with
  | of r => cases r <;> simp [D.isNon]
  | own a b c => cases c <;> simp [D.isNon]
theorem opC_isN : OpC K A (fun x y H Q => y = .non ∧ Q (.bl (decide (x = .non))) H) isNoneD := by
  intro G H x y dx dy Q s hx hy h
  unfold isNoneD at h
  split at h
  · exact ⟨hy.non, by rw [hx.none_iff]; exact h⟩
  · exact h.elim
theorem opC_notN : OpC K A (fun x y H Q => y = .non ∧ Q (.bl (!decide (x = .non))) H) notNoneD := by
  intro G H x y dx dy Q s hx hy h
  unfold notNoneD at h
  split at h
  · exact ⟨hy.non, by rw [hx.none_iff]; exact h⟩
  · exact h.elim

def D.flat : D → Bool
  | .non => true
  | .bl _ => true
  | .int _ => true
  | .str _ => true
  | _ => false
/-- == of flat things -/
def eqF : D → D → Bool
  | .non, .non => true
  | .bl a, .bl b => a == b
  | .bl a, .int b => (if a then 1 else 0) == b
  | .int a, .bl b => a == (if b then 1 else 0)
  | .int a, .int b => a == b
  | .str a, .str b => a == b
  | _, _ => false
def itemsOf : D → Option (List D)
  | .lst l => some l
  | .tup l => some l
  | _ => none
def inD (a b : D) : T Bool := match itemsOf b with
  | some l => if a.flat = true ∧ l.all D.flat = true then .ret (l.any fun e => eqF e a) else if a.okD = true ∧ b.okD = true then .ret (l.any fun e => PyData.eqv e.py a.py) else .fail
  | none => (match a, b with
    | .str i, .str j => .ret (!(Builtin.Str.occurrences j i 0 j.length 1).isEmpty)
    | _, _ => .fail)
def notInD (a b : D) : T Bool := inD a b >>= fun k => .ret (!k)
theorem Rp.flatV {v : V} {d : D} (h : Rp K G v d) (f : d.flat = true) : flatV v = true := by
  cases h <;> first | rfl | cases f
theorem RpAll.flatV : ∀ {vs : List V} {ds : List D}, RpAll K G vs ds → ds.all D.flat = true → vs.all L2.flatV = true
  | _, _, .nil, _ => rfl
  | _, _, .cons h r, f => by
    rw [List.all_cons, Bool.and_eq_true] at f
    rw [List.all_cons, h.flatV f.1, RpAll.flatV r f.2] <;> rfl
theorem Rp.eqF {v u : V} {d e : D} (h : Rp K G v d) (h' : Rp K G u e) (f : d.flat = true) (f' : e.flat = true) : eqV v u = eqF d e := by
  cases h <;> cases h' <;> first | rfl | cases f | cases f'
theorem RpAll.inV {u : V} {e : D} (h' : Rp K G u e) (f' : e.flat = true) : ∀ {vs : List V} {ds : List D}, RpAll K G vs ds → ds.all D.flat = true → L2.inV u vs = ds.any fun d => Eng.eqF d e
  | _, _, .nil, _ => rfl
  | _, _, .cons h r, f => by
    rw [List.all_cons, Bool.and_eq_true] at f
    unfold L2.inV
    rw [List.any_cons, List.any_cons, h.eqF h' f.1 f']
    have := RpAll.inV h' f' r f.2
    unfold L2.inV at this
    rw [this]
theorem pyAll_any (x : PyData) : ∀ (l : List D), (pyAll l).any (fun z => PyData.eqv z x) = l.any fun e => PyData.eqv e.py x
  | [] => rfl
  | d :: r => by
    show (PyData.eqv d.py x || (pyAll r).any _) = _
    rw [pyAll_any x r] <;> rfl
/-- x in t, t a tuple of data of any depth -/
def rInDT (K : PySem.W.Frag) (neg : Bool) : R2 := fun x y H Q => ∃ d ds, Dp K H x d ∧ Dp K H y (.tuple ds) ∧ SeqAt.shaped d = true ∧ SeqAt.shaped (.tuple ds) = true ∧ Q (.bl (if neg then !ds.any fun z => PyData.eqv z d else ds.any fun z => PyData.eqv z d)) H
section
variable {X : Cx}
theorem op_inDT (hu : X.A.units + 65 < cLine) : OpR X (compareOp .In) (rInDT X.K false) := by
  intro pins s σ H x y v u Q I rx ry h
  obtain ⟨d, ds, hd, he, sd, se, q⟩ := h
  obtain ⟨as, r1⟩ := Dp.reads I d x v hd rx
  obtain ⟨bs, r2⟩ := Dp.reads I (.tuple ds) y u he ry
  exact SeqAt.in_tuple_reads r2 r1 (SeqAt.canLay_of_shaped se) (SeqAt.canLay_of_shaped sd) (room_in_shaped sd hu) ⟨.bl _, H, I, rfl, q⟩
theorem op_notInDT (hu : X.A.units + 65 < cLine) : OpR X (compareOp .NotIn) (rInDT X.K true) := by
  intro pins s σ H x y v u Q I rx ry h
  obtain ⟨d, ds, hd, he, sd, se, q⟩ := h
  obtain ⟨as, r1⟩ := Dp.reads I d x v hd rx
  obtain ⟨bs, r2⟩ := Dp.reads I (.tuple ds) y u he ry
  exact SeqAt.notIn_tuple_reads r2 r1 (SeqAt.canLay_of_shaped se) (SeqAt.canLay_of_shaped sd) (room_in_shaped sd hu) ⟨.bl _, H, I, rfl, q⟩
end
abbrev rInS (neg : Bool) : R2 := fun x y H Q => ∃ i j, x = .str i ∧ y = .str j ∧ Q (.bl (if neg then !(!(Builtin.Str.occurrences j i 0 j.length 1).isEmpty) else !(Builtin.Str.occurrences j i 0 j.length 1).isEmpty)) H
def rInAll (K : PySem.W.Frag) : R2 := fun x y H Q => rIn K false x y H Q ∨ (rInD K x y H Q ∨ (rInDT K false x y H Q ∨ rInS false x y H Q))
def rNotInAll (K : PySem.W.Frag) : R2 := fun x y H Q => rIn K true x y H Q ∨ (rNotInD K x y H Q ∨ (rInDT K true x y H Q ∨ rInS true x y H Q))
theorem op_inAll {X : Cx} (hu : X.A.units + 65 < cLine) : OpR X (compareOp .In) (rInAll X.K) := op_in_seq.or ((op_inD hu).or ((op_inDT hu).or op_in_str))
theorem op_notInAll {X : Cx} (hu : X.A.units + 65 < cLine) : OpR X (compareOp .NotIn) (rNotInAll X.K) := op_notIn_seq.or ((op_notInD hu).or ((op_notInDT hu).or op_notIn_str))
theorem inD_cases {x y : V} {dx dy : D} {R : Bool → Prop} {E : Str → List D → Prop} (s : St1 A G H) (hx : Rq K A G H x dx) (hy : Rq K A G H y dy) (h : wp (inD dx dy) R E) :
    (∃ p xs k, y = .ref p ∧ (SqL K H p xs ∨ SqT K H p xs) ∧ flatV x = true ∧ xs.all flatV = true ∧ inV x xs = k ∧ R k) ∨
    (∃ d ds, Dp K H x d ∧ Dp K H y (.list ds) ∧ SeqAt.shaped d = true ∧ SeqAt.shaped (.list ds) = true ∧ R (ds.any fun z => PyData.eqv z d)) ∨
    (∃ d ds, Dp K H x d ∧ Dp K H y (.tuple ds) ∧ SeqAt.shaped d = true ∧ SeqAt.shaped (.tuple ds) = true ∧ R (ds.any fun z => PyData.eqv z d)) ∨
    (∃ i j, x = .str i ∧ y = .str j ∧ R (!(Builtin.Str.occurrences j i 0 j.length 1).isEmpty)) := by
  unfold inD at h
  split at h
  · rename_i l hl
    split at h
    · rename_i hf
      left
      have hxr : Rp K G x dx := by
        cases hx with
        | of r => exact r
        | own a b c => cases c <;> cases hf.1
      cases dy with
      | lst l' =>
        cases hl
        obtain ⟨p, vs, rfl, h1, h2⟩ := hy.lst s.gh
        exact ⟨p, vs, _, rfl, .inl (SqL.of h1), hxr.flatV hf.1, h2.flatV hf.2, h2.inV hxr hf.1 hf.2, h⟩
      | tup l' =>
        cases hl
        obtain ⟨p, vs, rfl, h1, h2⟩ := hy.tup s.gh
        exact ⟨p, vs, _, rfl, .inr h1, hxr.flatV hf.1, h2.flatV hf.2, h2.inV hxr hf.1 hf.2, h⟩
      | _ => cases hl
    · split at h
      · rename_i hk
        obtain ⟨p1, p2⟩ := okD_pure hk.1
        obtain ⟨p3, p4⟩ := okD_pure hk.2
        have d1 := hx.dp s.gh p1
        have d2 := hy.dp s.gh p3
        cases dy with
        | lst l' =>
          cases hl
          exact .inr (.inl ⟨_, _, d1, d2, p2, p4, by rw [pyAll_any]; exact h⟩)
        | tup l' =>
          cases hl
          exact .inr (.inr (.inl ⟨_, _, d1, d2, p2, p4, by rw [pyAll_any]; exact h⟩))
        | _ => cases hl
      · exact h.elim
  · split at h
    · exact .inr (.inr (.inr ⟨_, _, hx.str, hy.str, h⟩))
    · exact h.elim
theorem opC_in : OpC K A (rInAll K) inD := by
  intro G H x y dx dy Q s hx hy h
  rcases inD_cases s hx hy h with ⟨p, xs, k, h1, h2, h3, h4, h5, h6⟩ | ⟨d, ds, h1, h2, h3, h4, h5⟩ | ⟨d, ds, h1, h2, h3, h4, h5⟩ | ⟨i, j, h1, h2, h3⟩
  · exact .inl ⟨p, xs, h1, h2, h3, h4, by rw [if_neg Bool.false_ne_true, h5]; exact h6⟩
  · exact .inr (.inl ⟨d, ds, h1, h2, h3, h4, h5⟩)
  · exact .inr (.inr (.inl ⟨d, ds, h1, h2, h3, h4, by rw [if_neg Bool.false_ne_true]; exact h5⟩))
  · exact .inr (.inr (.inr ⟨i, j, h1, h2, by rw [if_neg Bool.false_ne_true]; exact h3⟩))
theorem opC_notIn : OpC K A (rNotInAll K) notInD := by
  intro G H x y dx dy Q s hx hy h
  unfold notInD at h
  rcases inD_cases s hx hy (wp_bind.mp h) with ⟨p, xs, k, h1, h2, h3, h4, h5, h6⟩ | ⟨d, ds, h1, h2, h3, h4, h5⟩ | ⟨d, ds, h1, h2, h3, h4, h5⟩ | ⟨i, j, h1, h2, h3⟩
  · exact .inl ⟨p, xs, h1, h2, h3, h4, by rw [if_pos rfl, h5]; exact h6⟩
  · exact .inr (.inl ⟨d, ds, h1, h2, h3, h4, h5⟩)
  · exact .inr (.inr (.inl ⟨d, ds, h1, h2, h3, h4, by rw [if_pos rfl]; exact h5⟩))
  · exact .inr (.inr (.inr ⟨i, j, h1, h2, by rw [if_pos rfl]; exact h3⟩))

def truthD : D → T Bool
  | .non => .ret false
  | .bl b => .ret b
  | .int i => .ret (i != 0)
  | .str x => if x.length ≤ sizeLine then .ret ((x.length : Int) != 0) else .fail
  | .tup l => .ret (!l.isEmpty)
  | .lst l => .ret (!l.isEmpty)
  | .dct ks _ => .ret (!ks.isEmpty)
  | .obj _ => .fail
theorem isEmpty_rp {vs : List V} {ds : List D} (r : RpAll K G vs ds) : vs.isEmpty = ds.isEmpty := by cases r <;> rfl
theorem tru_of {x : V} {d : D} {R : Bool → Prop} {E : Str → List D → Prop} (s : St1 A G H) (hx : Rq K A G H x d) (h : wp (truthD d) R E) : ∃ k, TruV K x H k ∧ R k := by
  cases d with
  | non => rw [hx.non]; exact ⟨_, rfl, h⟩
  | bl b => rw [hx.bl]; exact ⟨_, rfl, h⟩
  | int i => rw [hx.int]; exact ⟨_, rfl, h⟩
  | str z =>
    rw [hx.str]
    have h : wp (if z.length ≤ sizeLine then T.ret ((z.length : Int) != 0) else T.fail) R E := h
    split at h
    · rename_i hl; exact ⟨_, ⟨hl, rfl⟩, h⟩
    · exact h.elim
  | tup l =>
    obtain ⟨p, vs, rfl, h1, h2⟩ := hx.tup s.gh
    exact ⟨_, .inr (.inl ⟨vs, h1, rfl⟩), by rw [isEmpty_rp h2]; exact h⟩
  | lst l =>
    obtain ⟨p, vs, rfl, h1, h2⟩ := hx.lst s.gh
    exact ⟨_, .inl ⟨vs, SqL.of h1, rfl⟩, by rw [isEmpty_rp h2]; exact h⟩
  | dct ks ds =>
    obtain ⟨p, vs, rfl, h1, h2, h3⟩ := hx.dct s.gh
    refine ⟨_, .inr (.inr ⟨_, h1, rfl⟩), ?_⟩
    have e : (ks.zip vs).isEmpty = ks.isEmpty := by
      cases ks with
      | nil => rfl
      | cons k r => cases vs with | nil => cases h2 | cons v r' => rfl
    rw [e]
    exact h
  | obj a => exact h.elim
end Eng

namespace Eng
open PySem PySem.Spec PyProof.Rows L2
open Evl (Ex)
variable {K : PySem.W.Frag} {A : Act} {G H G' H' G1 H1 G2 H2 : Hp}
section
variable {X : Cx} {a b c e : Expr} {wa wb wc w : Env → T D} {ta tb tc : Env → T Bool} {pos : Pos} {rest : List Expr}

def dU {α : Type} (f : D → T α) (w : Env → T D) : Env → T α := fun env => w env >>= f
theorem r_neg (h : PE X a (rdB X.K A wa)) : PE X (.UnaryOp .USub a pos) (rd X.K A (dU negD wa)) := (pe_un un_neg h).imp fun σ H Q h => by
  obtain ⟨G, env, R, h⟩ := h
  refine ⟨G, env, R, wp_imp (wp_bind.mp h) fun d h1 v G1 H1 e1 r1 => ?_⟩
  unfold negD at h1
  split at h1
  · exact ⟨_, r1.int, h1 _ _ _ e1 (.int _)⟩
  · exact h1.elim
theorem t_truth (h : PE X a (rdB X.K A wa)) (he : ∀ whole, isTrue a X.env whole = (do let v ← whole; standAt a.pos; holding [v] (truthy v)) := by intro _; rfl) : PT X a (rdT X.K A (dU truthD wa)) := (pt_truth h he).imp fun σ H Q h => by
  obtain ⟨G, env, R, h⟩ := h
  refine ⟨G, env, R, wp_imp (wp_bind.mp h) fun d h1 v G1 H1 e1 r1 => ?_⟩
  exact tru_of e1.refl' r1 (wp_imp h1 fun b q => q _ _ e1)
def dNot (t : Env → T Bool) : Env → T Bool := fun env => t env >>= fun b => T.ret (!b)
theorem t_not (h : PT X a (rdT X.K A ta)) : PT X (.UnaryOp .Not a pos) (rdT X.K A (dNot ta)) := (pt_not h).imp fun σ H Q h => by
  obtain ⟨G, env, R, h⟩ := h
  exact ⟨G, env, R, wp_imp (wp_bind.mp h) fun b h1 G1 H1 e1 => h1 _ _ e1⟩
def dAnd (t u : Env → T Bool) : Env → T Bool := fun env => t env >>= fun b => if b = true then u env else T.ret false
def dOr (t u : Env → T Bool) : Env → T Bool := fun env => t env >>= fun b => if b = true then T.ret true else u env
theorem t_and1 (h : PT X a (rdT X.K A ta)) : PW X (.BoolOp .And [a] pos) (rdT X.K A ta) := pw_and1 h
theorem t_or1 (h : PT X a (rdT X.K A ta)) : PW X (.BoolOp .Or [a] pos) (rdT X.K A ta) := pw_or1 h
theorem t_and (h : PT X a (rdT X.K A ta)) (h2 : PW X (.BoolOp .And (b :: rest) pos) (rdT X.K A tb)) : PW X (.BoolOp .And (a :: b :: rest) pos) (rdT X.K A (dAnd ta tb)) := (pw_and h h2).imp fun σ H Q h => by
  obtain ⟨G, env, R, h⟩ := h
  refine ⟨G, env, R, wp_imp (wp_bind.mp h) fun b h1 G1 H1 e1 => ?_⟩
  cases b with
  | true => exact ⟨G1, env, R.ext e1, wp_imp h1 fun b q G2 H2 e2 => q _ _ (e1.trans e2)⟩
  | false => exact h1 _ _ e1
theorem t_or (h : PT X a (rdT X.K A ta)) (h2 : PW X (.BoolOp .Or (b :: rest) pos) (rdT X.K A tb)) : PW X (.BoolOp .Or (a :: b :: rest) pos) (rdT X.K A (dOr ta tb)) := (pw_or h h2).imp fun σ H Q h => by
  obtain ⟨G, env, R, h⟩ := h
  refine ⟨G, env, R, wp_imp (wp_bind.mp h) fun b h1 G1 H1 e1 => ?_⟩
  cases b with
  | true => exact h1 _ _ e1
  | false => exact ⟨G1, env, R.ext e1, wp_imp h1 fun b q G2 H2 e2 => q _ _ (e1.trans e2)⟩
theorem t_pw {e : Expr} (h : PW X e (rdT X.K A ta)) : PT X e (rdT X.K A ta) := h.pt
def dAndV (w u : Env → T D) : Env → T D := fun env => w env >>= fun d => truthD d >>= fun b => if b = true then u env else T.ret d
def dOrV (w u : Env → T D) : Env → T D := fun env => w env >>= fun d => truthD d >>= fun b => if b = true then T.ret d else u env
theorem r_one {op} (h : PE X a (rd X.K A wa)) : PE X (.BoolOp op [a] pos) (rd X.K A wa) := pe_one h
theorem r_and (h : PE X a (rd X.K A wa)) (h2 : PE X (.BoolOp .And (b :: rest) pos) (rd X.K A wb)) : PE X (.BoolOp .And (a :: b :: rest) pos) (rd X.K A (dAndV wa wb)) := (pe_andT h h2).imp fun σ H Q h => by
  obtain ⟨G, env, R, h⟩ := h
  refine ⟨G, env, R, wp_imp (wp_bind.mp h) fun d h1 v G1 H1 e1 r1 => ?_⟩
  obtain ⟨k, h2, h3⟩ := tru_of e1.refl' (.of r1) (wp_bind.mp h1)
  refine ⟨k, h2, ?_⟩
  cases k with
  | true => exact ⟨G1, env, R.ext e1, wp_imp h3 fun d q v G2 H2 e2 => q _ _ _ (e1.trans e2)⟩
  | false => exact h3 _ _ _ e1 r1
theorem r_or (h : PE X a (rd X.K A wa)) (h2 : PE X (.BoolOp .Or (b :: rest) pos) (rd X.K A wb)) : PE X (.BoolOp .Or (a :: b :: rest) pos) (rd X.K A (dOrV wa wb)) := (pe_orT h h2).imp fun σ H Q h => by
  obtain ⟨G, env, R, h⟩ := h
  refine ⟨G, env, R, wp_imp (wp_bind.mp h) fun d h1 v G1 H1 e1 r1 => ?_⟩
  obtain ⟨k, h2, h3⟩ := tru_of e1.refl' (.of r1) (wp_bind.mp h1)
  refine ⟨k, h2, ?_⟩
  cases k with
  | true => exact h3 _ _ _ e1 r1
  | false => exact ⟨G1, env, R.ext e1, wp_imp h3 fun d q v G2 H2 e2 => q _ _ _ (e1.trans e2)⟩
def dNotV (w : Env → T D) : Env → T D := fun env => w env >>= fun d => truthD d >>= fun b => T.ret (.bl (!b))
theorem r_not (h : PE X a (rdB X.K A wa)) : PE X (.UnaryOp .Not a pos) (rd X.K A (dNotV wa)) := (pe_notT h).imp fun σ H Q h => by
  obtain ⟨G, env, R, h⟩ := h
  refine ⟨G, env, R, wp_imp (wp_bind.mp h) fun d h1 v G1 H1 e1 r1 => ?_⟩
  obtain ⟨k, h2, h3⟩ := tru_of e1.refl' r1 (wp_bind.mp h1)
  exact ⟨k, h2, h3 _ _ _ e1 (.bl _)⟩
def dIf {α : Type} (t : Env → T Bool) (w u : Env → T α) : Env → T α := fun env => t env >>= fun b => if b = true then w env else u env
theorem r_if (h : PT X c (rdT X.K A tc)) (ha : PE X a (rd X.K A wa)) (hb : PE X b (rd X.K A wb)) : PE X (.IfExp c a b pos) (rd X.K A (dIf tc wa wb)) := (pe_ifExp h ha hb).imp fun σ H Q h => by
  obtain ⟨G, env, R, h⟩ := h
  refine ⟨G, env, R, wp_imp (wp_bind.mp h) fun b h1 G1 H1 e1 => ?_⟩
  cases b with
  | true => exact ⟨G1, env, R.ext e1, wp_imp h1 fun d q v G2 H2 e2 => q _ _ _ (e1.trans e2)⟩
  | false => exact ⟨G1, env, R.ext e1, wp_imp h1 fun d q v G2 H2 e2 => q _ _ _ (e1.trans e2)⟩

def dChain (f g : D → D → T Bool) (wa wb wc : Env → T D) : Env → T Bool := fun env => do
  let x ← wa env
  let y ← wb env
  let k ← f x y
  if k = true then (do
    let z ← wc env
    g y z) else T.ret false
theorem t_chain {op op' : CmpOp} {r r' : R2} {f g : D → D → T Bool} (ho : OpR X (compareOp op) r) (ho' : OpR X (compareOp op') r') (hf : OpC X.K A r f) (hg : OpC X.K A r' g) (ha : PE X a (rdB X.K A wa)) (hb : PE X b (rdB X.K A wb)) (hc : PE X c (rdB X.K A wc))
    (hm : lastMarks [op, op'] [b, c] = false := by with_unfolding_all rfl) : PT X (.Compare a [op, op'] [b, c] pos) (rdT X.K A (dChain f g wa wb wc)) := (pt_chain ho ho' ha hb hc hm).imp fun σ H Q h => by
  obtain ⟨G, env, R, h⟩ := h
  refine ⟨G, env, R, wp_imp (wp_bind.mp h) fun x h1 v1 G1 H1 e1 r1 => ?_⟩
  refine ⟨G1, env, R.ext e1, wp_imp (wp_bind.mp h1) fun y h2 v2 G2 H2 e2 r2 => ?_⟩
  refine hf G2 H2 v1 v2 x y _ e2.refl' (r1.ext e2) r2 (wp_imp (wp_bind.mp h2) fun k h3 => ⟨k, rfl, ?_⟩)
  cases k with
  | true =>
    refine ⟨G2, env, (R.ext e1).ext e2, wp_imp (wp_bind.mp h3) fun z h4 v3 G3 H3 e3 r3 => ?_⟩
    exact hg G3 H3 v2 v3 y z _ e3.refl' (r2.ext e3) r3 (wp_imp h4 fun b q => ⟨b, rfl, q _ _ ((e1.trans e2).trans e3)⟩)
  | false => exact ⟨false, rfl, h3 _ _ (e1.trans e2)⟩
theorem r_chain {op op' : CmpOp} {r r' : R2} {f g : D → D → T Bool} (ho : OpR X (compareOp op) r) (ho' : OpR X (compareOp op') r') (hf : OpC X.K A r f) (hg : OpC X.K A r' g) (ha : PE X a (rdB X.K A wa)) (hb : PE X b (rdB X.K A wb)) (hc : PE X c (rdB X.K A wc))
    (hm : lastMarks [op, op'] [b, c] = false := by with_unfolding_all rfl) : PE X (.Compare a [op, op'] [b, c] pos) (rd X.K A (dBl (dChain f g wa wb wc))) := (pe_chain ho ho' ha hb hc hm).imp fun σ H Q h => by
  obtain ⟨G, env, R, h⟩ := h
  have h := wp_bind.mp h
  refine ⟨G, env, R, wp_imp (wp_bind.mp h) fun x h1 v1 G1 H1 e1 r1 => ?_⟩
  refine ⟨G1, env, R.ext e1, wp_imp (wp_bind.mp h1) fun y h2 v2 G2 H2 e2 r2 => ?_⟩
  refine hf G2 H2 v1 v2 x y _ e2.refl' (r1.ext e2) r2 (wp_imp (wp_bind.mp h2) fun k h3 => ⟨k, rfl, ?_⟩)
  cases k with
  | true =>
    refine ⟨G2, env, (R.ext e1).ext e2, wp_imp (wp_bind.mp h3) fun z h4 v3 G3 H3 e3 r3 => ?_⟩
    exact hg G3 H3 v2 v3 y z _ e3.refl' (r2.ext e3) r3 (wp_imp h4 fun b q => q _ _ _ ((e1.trans e2).trans e3) (.bl b))
  | false => exact h3 _ _ _ (e1.trans e2) (.bl _)

def ixD : D → D → T D
  | .lst l, .int i => (match atI l i with
    | some d => .ret d
    | none => .fail)
  | .tup l, .int i => (match atI l i with
    | some d => .ret d
    | none => .fail)
  | .str z, .int i => if z.length ≤ sizeLine then (match atI z.cps.toList i with
    | some c => .ret (.str ⟨#[c]⟩)
    | none => .fail) else .fail
  | _, _ => .fail
theorem RpAll.atI {vs : List V} {ds : List D} {i : Int} {d : D} (r : RpAll K G vs ds) (h : L2.atI ds i = some d) : ∃ v, L2.atI vs i = some v ∧ Rp K G v d := by
  unfold L2.atI at h ⊢
  rw [r.length]
  cases q : ixN ds.length i with
  | none => rw [q] at h; cases h
  | some j =>
    rw [q] at h
    exact r.get h
theorem opD_ix : OpD K A (rIx K) ixD := by
  intro G H x y dx dy Q s hx hy h
  unfold ixD at h
  split at h
  · split at h
    · rename_i d e
      obtain ⟨p, vs, rfl, h1, h2⟩ := hx.lst s.gh
      obtain ⟨v, h3, h4⟩ := h2.atI e
      exact .inl ⟨p, vs, _, v, rfl, hy.int, SqL.of h1, h3, h _ _ _ s h4⟩
    · exact h.elim
  · split at h
    · rename_i d e
      obtain ⟨p, vs, rfl, h1, h2⟩ := hx.tup s.gh
      obtain ⟨v, h3, h4⟩ := h2.atI e
      exact .inr (.inl ⟨p, vs, _, v, rfl, hy.int, h1, h3, h _ _ _ s h4⟩)
    · exact h.elim
  · split at h
    · rename_i hl
      split at h
      · rename_i c e
        exact .inr (.inr ⟨_, _, c, hx.str, hy.int, hl, e, h _ _ _ s (.str _)⟩)
      · exact h.elim
    · exact h.elim
  · exact h.elim
theorem r_ix (ha : PE X a (rdB X.K A wa)) (hb : PE X b (rdB X.K A wb)) (hs : PlainIx b := by intro _ _; rfl) : PE X (.Subscript a b pos) (rd X.K A (dB ixD wa wb)) := (pe_ix ix_seq ha hb hs).imp fun _ _ _ => tOp_D opD_ix

def rdO (K : PySem.W.Frag) (A : Act) (w : Env → T (Option Int)) : TO := fun σ H Q => ∃ G env, Rel K A G σ env H ∧ wp (w env) (fun o => ∀ G' H', Ext A G H G' H' → Q o H') A.E
def dNo : Env → T (Option Int) := fun _ => T.ret none
def asInt : D → T Int
  | .int i => .ret i
  | _ => .fail
def dSome (w : Env → T D) : Env → T (Option Int) := fun env => w env >>= fun d => asInt d >>= fun i => T.ret (some i)
theorem o_none : PO X none (rdO X.K A dNo) := ⟨fun pins s σ H Q I h => by
  obtain ⟨G, env, R, h⟩ := h
  exact po_none.run pins s σ H Q I (h G H R.st)⟩
theorem o_some (h : PE X a (rdB X.K A wa)) : PO X (some a) (rdO X.K A (dSome wa)) := ⟨fun pins s σ H Q I hw => by
  obtain ⟨G, env, R, hw⟩ := hw
  refine (po_some h).run pins s σ H Q I ⟨G, env, R, wp_imp (wp_bind.mp hw) fun d h1 v G1 H1 e1 r1 => ?_⟩
  unfold asInt at h1
  split at h1
  · exact ⟨_, r1.int, h1 _ _ e1⟩
  · exact h1.elim⟩
def cutD (xs : List D) (lo hi : Option Int) : List D := (xs.drop (HT.sIx xs.length 0 lo)).take (HT.sIx xs.length xs.length hi - HT.sIx xs.length 0 lo)
theorem RpAll.cut {vs : List V} {ds : List D} (r : RpAll K G vs ds) (lo hi : Option Int) : RpAll K G (cutV vs lo hi) (cutD ds lo hi) := by
  unfold cutV cutD
  rw [r.length]
  exact (r.drop _).take _
def slD (x : D) (lo hi : Option Int) : T D := match x with
  | .lst l => .ret (.lst (cutD l lo hi))
  | .tup l => .ret (.tup (cutD l lo hi))
  | .str z => if z.length ≤ sizeLine then .ret (.str (cutS z lo hi)) else .fail
  | _ => .fail
def slN (x : D) (lo hi : Option Int) : T (List D) := match x with
  | .lst l => .ret (cutD l lo hi)
  | _ => .fail
def dSl {α : Type} (f : D → Option Int → Option Int → T α) (w : Env → T D) (l u : Env → T (Option Int)) : Env → T α := fun env => do
  let x ← w env
  let lo ← l env
  let hi ← u env
  f x lo hi
def rSlAll (K : PySem.W.Frag) : V → Option Int → Option Int → Hp → VK → Prop := fun x lo hi H Q => rSlL K x lo hi H Q ∨ (rSlA K x lo hi H Q ∨ rSlS x lo hi H Q)
theorem sl_all : SlR X (rSlAll X.K) := sl_list.or (sl_tupA.or sl_str)
variable {lo hi : Option Expr} {tl tu : Env → T (Option Int)} {p2 : Pos}
theorem r_slice (ha : PE X a (rdB X.K A wa)) (hl : PO X lo (rdO X.K A tl)) (hu : PO X hi (rdO X.K A tu)) : PE X (.Subscript a (.Slice lo hi none p2) pos) (rd X.K A (dSl slD wa tl tu)) := (pe_slice sl_all ha hl hu).imp fun σ H Q h => by
  obtain ⟨G, env, R, h⟩ := h
  refine ⟨G, env, R, wp_imp (wp_bind.mp h) fun x h1 v G1 H1 e1 r1 => ?_⟩
  refine ⟨G1, env, R.ext e1, wp_imp (wp_bind.mp h1) fun l h2 G2 H2 e2 => ?_⟩
  refine ⟨G2, env, (R.ext e1).ext e2, wp_imp (wp_bind.mp h2) fun u h3 G3 H3 e3 => ?_⟩
  have r3 := (r1.ext e2).ext e3
  have ee := (e1.trans e2).trans e3
  have s := e3.refl'
  cases x with
  | lst d =>
    obtain ⟨p, vs, rfl, q1, q2⟩ := r3.lst s.gh
    exact .inl ⟨p, vs, rfl, SqL.of q1, fun r hr => h3 _ _ _ (ee.trans (s.alloc hr)) (.lst upd_same ((q2.cut l u).mono (Ex.new (s.gnone hr))))⟩
  | tup d =>
    have hr : ∃ p vs, v = .ref p ∧ Rp X.K G3 v (.tup d) ∧ SqT X.K H3 p vs ∧ RpAll X.K G3 vs d := by
      obtain ⟨p, vs, e, q1, q2⟩ := r3.tup s.gh
      cases r3 with
      | of r => exact ⟨p, vs, e, r, q1, q2⟩
      | own a b c => cases c
    obtain ⟨p, vs, rfl, r, q1, q2⟩ := hr
    refine .inr (.inl ⟨p, vs, rfl, q1, fun hw => ?_, fun hw r hr => h3 _ _ _ (ee.trans (s.alloc hr)) (.tup (SqT.of upd_same) ((q2.cut l u).mono (Ex.new (s.gnone hr))))⟩)
    have h3 : ∀ v G' H', Ext A G H G' H' → Rp X.K G' v (.tup (cutD d l u)) → Q v H' := h3
    have e : cutD d l u = d := by
      unfold cutD
      rw [← q2.length, hw.1, hw.2, List.drop_zero, q2.length, Nat.sub_zero, List.take_length]
    rw [e] at h3
    exact h3 _ _ _ ee r
  | str z =>
    have h3 : wp (if z.length ≤ sizeLine then T.ret (D.str (cutS z l u)) else T.fail) _ _ := h3
    split at h3
    · rename_i hz
      exact .inr (.inr ⟨z, r3.str, hz, h3 _ _ _ ee (.str _)⟩)
    · exact h3.elim
  | _ => exact h3.elim
theorem r_sliceN (ha : PE X a (rdB X.K A wa)) (hl : PO X lo (rdO X.K A tl)) (hu : PO X hi (rdO X.K A tu)) : PE X (.Subscript a (.Slice lo hi none p2) pos) (rdN X.K A (dSl slN wa tl tu)) := (pe_slice sl_list ha hl hu).imp fun σ H Q h => by
  obtain ⟨G, env, R, h⟩ := h
  refine ⟨G, env, R, wp_imp (wp_bind.mp h) fun x h1 v G1 H1 e1 r1 => ?_⟩
  refine ⟨G1, env, R.ext e1, wp_imp (wp_bind.mp h1) fun l h2 G2 H2 e2 => ?_⟩
  refine ⟨G2, env, (R.ext e1).ext e2, wp_imp (wp_bind.mp h2) fun u h3 G3 H3 e3 => ?_⟩
  have r3 := (r1.ext e2).ext e3
  have ee := (e1.trans e2).trans e3
  have s := e3.refl'
  cases x with
  | lst d =>
    obtain ⟨p, vs, rfl, q1, q2⟩ := r3.lst s.gh
    exact ⟨p, vs, rfl, SqL.of q1, fun r hr => h3 _ _ _ _ (ee.trans (s.allocO hr)) (ee.dn hr) (s.gnone hr) upd_same (q2.cut l u)⟩
  | _ => exact h3.elim

/-- arguments that are read only -/
def rdAB (K : PySem.W.Frag) (A : Act) (w : Env → T (List D)) : TA := fun σ H Q => ∃ G env, Rel K A G σ env H ∧ wp (w env) (fun ds => ∀ vs G' H', Ext A G H G' H' → Paired (Rq K A G' H') vs ds → Q vs H') A.E
theorem b_nil : PA X [] (rdAB X.K A dNil) := pa_nil.imp fun σ H Q h => by
  obtain ⟨G, env, R, h⟩ := h
  exact h [] G H R.st .nil
theorem Paired.ext {vs : List V} {ds : List D} (e : Ext A G H G' H') (h : Paired (Rq K A G H) vs ds) : Paired (Rq K A G' H') vs ds := Paired.mapP h fun _ _ r => r.ext e
theorem b_cons {es : List Expr} {ws : Env → T (List D)} (h : PE X e (rdB X.K A w)) (hr : PA X es (rdAB X.K A ws)) (hs : starEach (e :: es) X.env = (false, eval e X.env) :: starEach es X.env := by rfl) : PA X (e :: es) (rdAB X.K A (dCons w ws)) :=
  (pa_cons h hr hs).imp fun σ H Q h => by
    obtain ⟨G, env, R, h⟩ := h
    refine ⟨G, env, R, wp_imp (wp_bind.mp h) fun d h1 v G1 H1 e1 r1 => ?_⟩
    refine ⟨G1, env, R.ext e1, wp_imp (wp_bind.mp h1) fun ds h2 vs G2 H2 e2 r2 => ?_⟩
    exact h2 (v :: vs) G2 H2 (e1.trans e2) (.cons (r1.ext e2) r2)
abbrev RL := List V → Hp → VK → Prop
def CaD (K : PySem.W.Frag) (A : Act) (r : RL) (f : List D → T D) : Prop := ∀ (G H : Hp) (vs : List V) (ds : List D) (Q : VK), St1 A G H → Paired (Rq K A G H) vs ds →
  wp (f ds) (fun d => ∀ v G' H', Ext A G H G' H' → Rp K G' v d → Q v H') A.E → r vs H Q
def CaN (K : PySem.W.Frag) (A : Act) (r : RL) (f : List D → T (List D)) : Prop := ∀ (G H : Hp) (vs : List V) (ds : List D) (Q : VK), St1 A G H → Paired (Rq K A G H) vs ds →
  wp (f ds) (fun ds => ∀ p vs G' H', Ext A G H G' H' → H p = none → G' p = none → H' p = some (.lst vs) → RpAll K G' vs ds → Q (.ref p) H') A.E → r vs H Q
def dC {α : Type} (f : List D → T α) (ws : Env → T (List D)) : Env → T α := fun env => ws env >>= f
theorem tCB_D {r : RL} {f : List D → T D} {ws : Env → T (List D)} {σ : L2.St} {Q : VK} (hd : CaD K A r f) (h : rd K A (dC f ws) σ H Q) : tCB r (rdAB K A ws) σ H Q := by
  obtain ⟨G, env, R, h⟩ := h
  refine ⟨G, env, R, wp_imp (wp_bind.mp h) fun ds h1 vs G1 H1 e1 r1 => ?_⟩
  exact hd G1 H1 vs ds Q e1.refl' r1 (wp_imp h1 fun d q v G2 H2 e2 => q v G2 H2 (e1.trans e2))
theorem tCB_N {r : RL} {f : List D → T (List D)} {ws : Env → T (List D)} {σ : L2.St} {Q : VK} (hd : CaN K A r f) (h : rdN K A (dC f ws) σ H Q) : tCB r (rdAB K A ws) σ H Q := by
  obtain ⟨G, env, R, h⟩ := h
  refine ⟨G, env, R, wp_imp (wp_bind.mp h) fun ds h1 vs G1 H1 e1 r1 => ?_⟩
  exact hd G1 H1 vs ds Q e1.refl' r1 (wp_imp h1 fun d q p us G2 H2 e2 a b c => q p us G2 H2 (e1.trans e2) (e1.dn a) b c)
variable {x : Str} {p : Pos} {es : List Expr} {ws : Env → T (List D)} {id T' : String} {r : RL}
theorem r_callB {f : List D → T D} (hc : CallR X (.builtin id) r) (hd : CaD X.K A r f) (hg : Gl X x) (hm : X.mg x = none) (hv : bootBuiltins x = some (.builtin id)) (ha : PA X (e :: es) (rdAB X.K A ws)) (hn : x ≠ "__name__" := by decide) (hdb : (x == ("__debug__" : Str)) = false := by decide)
    (he : starEach (e :: es) X.env = (false, eval e X.env) :: starEach es X.env := by rfl) (hpl : (backTo pos (starEach es X.env)).any (·.1) = false := by rfl) : PE X (.Call (.Name x p) (e :: es) [] pos) (rd X.K A (dC f ws)) := (pe_callB hc hg hm hv ha hn hdb he hpl).imp fun _ _ _ => tCB_D hd
theorem r_callBN {f : List D → T (List D)} (hc : CallR X (.builtin id) r) (hd : CaN X.K A r f) (hg : Gl X x) (hm : X.mg x = none) (hv : bootBuiltins x = some (.builtin id)) (ha : PA X (e :: es) (rdAB X.K A ws)) (hn : x ≠ "__name__" := by decide) (hdb : (x == ("__debug__" : Str)) = false := by decide)
    (he : starEach (e :: es) X.env = (false, eval e X.env) :: starEach es X.env := by rfl) (hpl : (backTo pos (starEach es X.env)).any (·.1) = false := by rfl) : PE X (.Call (.Name x p) (e :: es) [] pos) (rdN X.K A (dC f ws)) := (pe_callB hc hg hm hv ha hn hdb he hpl).imp fun _ _ _ => tCB_N hd
theorem r_callT {f : List D → T D} (hc : CallR X (.type T') r) (hd : CaD X.K A r f) (hg : Gl X x) (hm : X.mg x = none) (hv : bootBuiltins x = some (.type T')) (ha : PA X (e :: es) (rdAB X.K A ws)) (hn : x ≠ "__name__" := by decide) (hdb : (x == ("__debug__" : Str)) = false := by decide)
    (he : starEach (e :: es) X.env = (false, eval e X.env) :: starEach es X.env := by rfl) (hpl : (backTo pos (starEach es X.env)).any (·.1) = false := by rfl) : PE X (.Call (.Name x p) (e :: es) [] pos) (rd X.K A (dC f ws)) := (pe_callTy hc hg hm hv ha hn hdb he hpl).imp fun _ _ _ => tCB_D hd
theorem r_callTN {f : List D → T (List D)} (hc : CallR X (.type T') r) (hd : CaN X.K A r f) (hg : Gl X x) (hm : X.mg x = none) (hv : bootBuiltins x = some (.type T')) (ha : PA X (e :: es) (rdAB X.K A ws)) (hn : x ≠ "__name__" := by decide) (hdb : (x == ("__debug__" : Str)) = false := by decide)
    (he : starEach (e :: es) X.env = (false, eval e X.env) :: starEach es X.env := by rfl) (hpl : (backTo pos (starEach es X.env)).any (·.1) = false := by rfl) : PE X (.Call (.Name x p) (e :: es) [] pos) (rdN X.K A (dC f ws)) := (pe_callTy hc hg hm hv ha hn hdb he hpl).imp fun _ _ _ => tCB_N hd
end

theorem Paired.one {F : V → D → Prop} {vs : List V} {d : D} (h : Paired F vs [d]) : ∃ v, vs = [v] ∧ F v d := by
  cases h with
  | cons r t => cases t; exact ⟨_, rfl, r⟩
theorem Paired.two {F : V → D → Prop} {vs : List V} {d e : D} (h : Paired F vs [d, e]) : ∃ v u, vs = [v, u] ∧ F v d ∧ F u e := by
  cases h with
  | cons r t => cases t with | cons r' t' => cases t'; exact ⟨_, _, rfl, r, r'⟩
def lenD : List D → T D
  | [.lst l] => .ret (.int l.length)
  | [.tup l] => .ret (.int l.length)
  | [.str z] => if z.length ≤ sizeLine then .ret (.int z.length) else .fail
  | _ => .fail
theorem ca_len : CaD K A (fun xs H Q => ∃ x n, xs = [x] ∧ LenV K x H n ∧ Q (.int n) H) lenD := by
  intro G H vs ds Q s hp h
  unfold lenD at h
  split at h
  · obtain ⟨v, rfl, r⟩ := Paired.one hp
    obtain ⟨p, us, rfl, h1, h2⟩ := r.lst s.gh
    exact ⟨_, _, rfl, .inl ⟨us, SqL.of h1, rfl⟩, by rw [h2.length]; exact h _ _ _ s (.int _)⟩
  · obtain ⟨v, rfl, r⟩ := Paired.one hp
    obtain ⟨p, us, rfl, h1, h2⟩ := r.tup s.gh
    exact ⟨_, _, rfl, .inr ⟨us, h1, rfl⟩, by rw [h2.length]; exact h _ _ _ s (.int _)⟩
  · obtain ⟨v, rfl, r⟩ := Paired.one hp
    split at h
    · rename_i hz
      rw [r.str]
      exact ⟨_, _, rfl, ⟨hz, rfl⟩, h _ _ _ s (.int _)⟩
    · exact h.elim
  · exact h.elim
def absD : List D → T D
  | [.int i] => .ret (.int (if i < 0 then -i else i))
  | _ => .fail
theorem ca_abs : CaD K A (fun xs H Q => ∃ i, xs = [.int i] ∧ Q (.int (if i < 0 then -i else i)) H) absD := by
  intro G H vs ds Q s hp h
  unfold absD at h
  split at h
  · obtain ⟨v, rfl, r⟩ := Paired.one hp
    rw [r.int]
    exact ⟨_, rfl, h _ _ _ s (.int _)⟩
  · exact h.elim
def max2D : List D → T D
  | [.int i, .int j] => .ret (.int (if j > i then j else i))
  | _ => .fail
def min2D : List D → T D
  | [.int i, .int j] => .ret (.int (if j < i then j else i))
  | _ => .fail
theorem ca_max2 : CaD K A (fun xs H Q => ∃ i j, xs = [.int i, .int j] ∧ Q (.int (if j > i then j else i)) H) max2D := by
  intro G H vs ds Q s hp h
  unfold max2D at h
  split at h
  · obtain ⟨v, u, rfl, r, r2⟩ := Paired.two hp
    rw [r.int, r2.int]
    exact ⟨_, _, rfl, h _ _ _ s (.int _)⟩
  · exact h.elim
theorem ca_min2 : CaD K A (fun xs H Q => ∃ i j, xs = [.int i, .int j] ∧ Q (.int (if j < i then j else i)) H) min2D := by
  intro G H vs ds Q s hp h
  unfold min2D at h
  split at h
  · obtain ⟨v, u, rfl, r, r2⟩ := Paired.two hp
    rw [r.int, r2.int]
    exact ⟨_, _, rfl, h _ _ _ s (.int _)⟩
  · exact h.elim
def intD : List D → T D
  | [.int i] => .ret (.int i)
  | [.bl k] => .ret (.int (if k then 1 else 0))
  | _ => .fail
theorem ca_int : CaD K A (fun xs H Q => (∃ i, xs = [.int i] ∧ Q (.int i) H) ∨ ∃ k, xs = [.bl k] ∧ Q (.int (if k then 1 else 0)) H) intD := by
  intro G H vs ds Q s hp h
  unfold intD at h
  split at h
  · obtain ⟨v, rfl, r⟩ := Paired.one hp
    rw [r.int]
    exact .inl ⟨_, rfl, h _ _ _ s (.int _)⟩
  · obtain ⟨v, rfl, r⟩ := Paired.one hp
    rw [r.bl]
    exact .inr ⟨_, rfl, h _ _ _ s (.int _)⟩
  · exact h.elim
def listN : List D → T (List D)
  | [.lst l] => .ret l
  | [.tup l] => .ret l
  | _ => .fail
theorem ca_list : CaN K A (fun xs H Q => ∃ p ys, xs = [.ref p] ∧ (SqL K H p ys ∨ SqT K H p ys) ∧ ∀ l, H l = none → Q (.ref l) (upd H l (.lst ys))) listN := by
  intro G H vs ds Q s hp h
  unfold listN at h
  split at h
  · obtain ⟨v, rfl, r⟩ := Paired.one hp
    obtain ⟨p, us, rfl, h1, h2⟩ := r.lst s.gh
    exact ⟨p, us, rfl, .inl (SqL.of h1), fun r hr => h r _ _ _ (s.allocO hr) hr (s.gnone hr) upd_same h2⟩
  · obtain ⟨v, rfl, r⟩ := Paired.one hp
    obtain ⟨p, us, rfl, h1, h2⟩ := r.tup s.gh
    exact ⟨p, us, rfl, .inr h1, fun r hr => h r _ _ _ (s.allocO hr) hr (s.gnone hr) upd_same h2⟩
  · exact h.elim
def tupleD : List D → T D
  | [.lst l] => .ret (.tup l)
  | [.tup l] => .ret (.tup l)
  | _ => .fail
theorem ca_tuple : CaD K A (fun xs H Q => ∃ p ys, xs = [.ref p] ∧ ((SqL K H p ys ∧ ∀ l, H l = none → Q (.ref l) (upd H l (.tup ys))) ∨ (SqT K H p ys ∧ Q (.ref p) H))) tupleD := by
  intro G H vs ds Q s hp h
  unfold tupleD at h
  split at h
  · obtain ⟨v, rfl, r⟩ := Paired.one hp
    obtain ⟨p, us, rfl, h1, h2⟩ := r.lst s.gh
    exact ⟨p, us, rfl, .inl ⟨SqL.of h1, fun r hr => h _ _ _ (s.alloc hr) (.tup (SqT.of upd_same) (h2.mono (Ex.new (s.gnone hr))))⟩⟩
  · obtain ⟨v, rfl, r⟩ := Paired.one hp
    rename_i l'
    have hr : ∃ p us, v = .ref p ∧ SqT K H p us ∧ Rp K G v (.tup l') := by
      obtain ⟨p, us, e, h1, h2⟩ := r.tup s.gh
      cases r with
      | of r => exact ⟨p, us, e, h1, r⟩
      | own a b c => cases c
    obtain ⟨p, us, rfl, h1, h2⟩ := hr
    exact ⟨p, us, rfl, .inr ⟨h1, h _ _ _ s h2⟩⟩
  · exact h.elim
/-- the ints of a list -/
def intsOf : List D → Option (List Int)
  | [] => some []
  | .int i :: r => (intsOf r).map (i :: ·)
  | _ :: _ => none
theorem intsOf_eq : ∀ {l : List D} {ns : List Int}, intsOf l = some ns → l = ns.map D.int
  | [], ns, h => by cases h; rfl
  | d :: r, ns, h => by
    cases d with
    | int i =>
      unfold intsOf at h
      cases q : intsOf r with
      | none => rw [q] at h; cases h
      | some m =>
        rw [q] at h
        cases h
        rw [intsOf_eq q] <;> rfl
    | _ => cases h
@[simp] theorem intsOf_map (ns : List Int) : intsOf (ns.map D.int) = some ns := by
  induction ns with
  | nil => rfl
  | cons n r ih => show (intsOf (r.map D.int)).map (n :: ·) = _; rw [ih] <;> rfl
def sumD : List D → T D
  | [.lst l] => (match intsOf l with
    | some ns => .ret (.int ns.sum)
    | none => .fail)
  | _ => .fail
theorem ca_sum : CaD K A (rSum K) sumD := by
  intro G H vs ds Q s hp h
  unfold sumD at h
  split at h
  · split at h
    · rename_i ns e
      obtain ⟨v, rfl, r⟩ := Paired.one hp
      have e := intsOf_eq e
      subst e
      obtain ⟨p, us, rfl, h1, h2⟩ := r.lst s.gh
      have e := h2.ints
      subst e
      exact ⟨p, ns, rfl, SqL.of h1, h _ _ _ s (.int _)⟩
    · exact h.elim
  · exact h.elim
def boolsOf : List D → Option (List Bool)
  | [] => some []
  | .bl i :: r => (boolsOf r).map (i :: ·)
  | _ :: _ => none
theorem boolsOf_eq : ∀ {l : List D} {ns : List Bool}, boolsOf l = some ns → l = ns.map D.bl
  | [], ns, h => by cases h; rfl
  | d :: r, ns, h => by
    cases d with
    | bl i =>
      unfold boolsOf at h
      cases q : boolsOf r with
      | none => rw [q] at h; cases h
      | some m =>
        rw [q] at h
        cases h
        rw [boolsOf_eq q] <;> rfl
    | _ => cases h
@[simp] theorem boolsOf_map (ns : List Bool) : boolsOf (ns.map D.bl) = some ns := by
  induction ns with
  | nil => rfl
  | cons n r ih => show (boolsOf (r.map D.bl)).map (n :: ·) = _; rw [ih] <;> rfl
theorem RpAll.bools : ∀ {vs : List V} {ns : List Bool}, RpAll K G vs (ns.map D.bl) → vs = ns.map V.bl
  | _, [], .nil => rfl
  | _, n :: ns, .cons (.bl _) r => by rw [RpAll.bools r]; rfl
def allD : List D → T D
  | [.lst l] => (match boolsOf l with
    | some ns => .ret (.bl (ns.all id))
    | none => .fail)
  | _ => .fail
def anyD : List D → T D
  | [.lst l] => (match boolsOf l with
    | some ns => .ret (.bl (ns.any id))
    | none => .fail)
  | _ => .fail
theorem ca_all : CaD K A (rAll K) allD := by
  intro G H vs ds Q s hp h
  unfold allD at h
  split at h
  · split at h
    · rename_i ns e
      obtain ⟨v, rfl, r⟩ := Paired.one hp
      have e := boolsOf_eq e
      subst e
      obtain ⟨p, us, rfl, h1, h2⟩ := r.lst s.gh
      have e := h2.bools
      subst e
      exact ⟨p, ns, rfl, SqL.of h1, h _ _ _ s (.bl _)⟩
    · exact h.elim
  · exact h.elim
theorem ca_any : CaD K A (rAny K) anyD := by
  intro G H vs ds Q s hp h
  unfold anyD at h
  split at h
  · split at h
    · rename_i ns e
      obtain ⟨v, rfl, r⟩ := Paired.one hp
      have e := boolsOf_eq e
      subst e
      obtain ⟨p, us, rfl, h1, h2⟩ := r.lst s.gh
      have e := h2.bools
      subst e
      exact ⟨p, ns, rfl, SqL.of h1, h _ _ _ s (.bl _)⟩
    · exact h.elim
  · exact h.elim

def D.showOk (d : D) : Bool := d.pure && (d.py.showable && (decide (d.py.shown.length ≤ sizeLine) && decide (d.py.depth ≤ 64)))
def reprD : List D → T D
  | [d] => if d.showOk = true then .ret (.str d.py.shown) else .fail
  | _ => .fail
def rRepr (K : PySem.W.Frag) : RL := fun xs H Q => ∃ x d, xs = [x] ∧ Dp K H x d ∧ d.showable = true ∧ d.shown.length ≤ sizeLine ∧ d.depth ≤ 64 ∧ d.hasDict = false ∧ Q (.str d.shown) H
theorem call_repr {X : Cx} (hg : X.A.guards = some []) (hu : X.A.units + 66 < cLine) : CallR X (.builtin "repr") (rRepr X.K) := by
  intro pins s σ H xs us Q I r h
  obtain ⟨x, d, rfl, hd, hs, hz, hdp, hnd, q⟩ := h
  obtain ⟨u, rfl, ru⟩ := vals1 r
  obtain ⟨as, rr⟩ := Dp.reads I d x u hd ru
  cases rr with
  | none => exact PySem.P.repr_of_none ⟨.str _, H, I.tok _, ⟨_, rfl⟩, q⟩
  | bool b => exact PySem.P.repr_of_bool ⟨.str _, H, I.tok _, ⟨_, rfl⟩, q⟩
  | int i t => exact PySem.P.repr_of_int (by simpa [PyData.showable] using hs) ⟨.str _, H, I.tok _, ⟨_, rfl⟩, q⟩
  | str z t => exact PySem.P.repr_of_str ⟨.str _, H, I.tok _, ⟨_, rfl⟩, q⟩ (by simpa only [PyData.shown] using hz)
  | list a1 a2 a3 a4 => exact repr_of_reads' (Reads.list a1 a2 a3 a4) hs (PyData.noDict_hsm hnd) hg (by omega) (fun _ _ e => e) (fun h' u tk hk => ⟨.str _, H, I.kept hk, ⟨_, rfl⟩, q⟩) hz
  | tuple a1 a2 a3 a4 => exact repr_of_reads' (Reads.tuple a1 a2 a3 a4) hs (PyData.noDict_hsm hnd) hg (by omega) (fun _ _ e => e) (fun h' u tk hk => ⟨.str _, H, I.kept hk, ⟨_, rfl⟩, q⟩) hz
  | dict => simp [PyData.hasDict] at hnd
mutual
theorem py_nodict : ∀ d : D, d.pure = true → d.py.hasDict = false
  | .non, _ => rfl
  | .bl _, _ => rfl
  | .int _, _ => rfl
  | .str _, _ => rfl
  | .tup l, h => pyAll_nodict l h
  | .lst l, h => pyAll_nodict l h
  | .dct _ _, h => by cases h
  | .obj _, h => by cases h
theorem pyAll_nodict : ∀ l : List D, pureAll l = true → PyData.hasDictAll (pyAll l) = false
  | [], _ => rfl
  | d :: r, h => by
    have h' : (d.pure && pureAll r) = true := h
    rw [Bool.and_eq_true] at h'
    show (d.py.hasDict || PyData.hasDictAll (pyAll r)) = false
    rw [py_nodict d h'.1, pyAll_nodict r h'.2] <;> rfl
end
theorem ca_repr : CaD K A (rRepr K) reprD := by
  intro G H vs ds Q s hp h
  unfold reprD at h
  split at h
  · split at h
    · rename_i d hk
      obtain ⟨v, rfl, r⟩ := Paired.one hp
      unfold D.showOk at hk
      simp only [Bool.and_eq_true, decide_eq_true_eq] at hk
      obtain ⟨h1, h2, h3, h4⟩ := hk
      exact ⟨v, _, rfl, r.dp s.gh h1, h2, h3, h4, py_nodict d h1, h _ _ _ s (.str _)⟩
    · exact h.elim
  · exact h.elim
end Eng

namespace Eng
open PySem PySem.Spec PyProof.Rows L2
open Evl (Ex)
variable {K : PySem.W.Frag} {A : Act} {G H G' H' G1 H1 G2 H2 : Hp}

theorem Rel.set {σ : L2.St} {env : Env} (R : Rel K A G σ env H) {i : Nat} {v : V} {d : D} (h : Rp K G v d) : Rel K A G (σ.set i (some v)) (env.set i (.val d)) H where
  e0 := R.e0
  gf := R.gf
  len := by rw [List.length_set, List.length_set]; exact R.len
  sl := fun j s hj => by
    by_cases e : i = j
    · subst e
      rw [List.getElem?_set_self'] at hj
      cases q : env[i]? with
      | none => rw [q] at hj; cases hj
      | some u =>
        rw [q] at hj
        cases hj
        have hi : i < σ.length := by rw [← R.len]; exact (List.getElem?_eq_some_iff.mp q).1
        exact ⟨v, by rw [List.getElem?_set_self hi], h⟩
    · rw [List.getElem?_set_ne e] at hj
      have z := R.sl j s hj
      cases s with
      | un => trivial
      | val d' => obtain ⟨u, h1, h2⟩ := z; exact ⟨u, by rw [List.getElem?_set_ne e]; exact h1, h2⟩
      | own d' => obtain ⟨u, h1, h2⟩ := z; exact ⟨u, by rw [List.getElem?_set_ne e]; exact h1, h2⟩
  ap := fun j k p d' e' hj hk h1 h2 => by
    have nj : i ≠ j := fun e => by
      subst e
      rw [List.getElem?_set_self'] at hj
      cases q : env[i]? with
      | none => rw [q] at hj; cases hj
      | some u => rw [q] at hj; cases hj
    have nk : i ≠ k := fun e => by
      subst e
      rw [List.getElem?_set_self'] at hk
      cases q : env[i]? with
      | none => rw [q] at hk; cases hk
      | some u => rw [q] at hk; cases hk
    rw [List.getElem?_set_ne nj] at hj h1
    rw [List.getElem?_set_ne nk] at hk h2
    exact R.ap j k p d' e' hj hk h1 h2
theorem Rel.setO {σ : L2.St} {env : Env} (R : Rel K A G σ env H) {i : Nat} {p : Addr} {d : D} (h : OwnOk K A G H p d) (hf : ∀ (j : Nat) (e : D), env[j]? = some (.own e) → σ[j]? ≠ some (some (.ref p))) : Rel K A G (σ.set i (some (.ref p))) (env.set i (.own d)) H where
  e0 := R.e0
  gf := R.gf
  len := by rw [List.length_set, List.length_set]; exact R.len
  sl := fun j s hj => by
    by_cases e : i = j
    · subst e
      rw [List.getElem?_set_self'] at hj
      cases q : env[i]? with
      | none => rw [q] at hj; cases hj
      | some u =>
        rw [q] at hj
        cases hj
        have hi : i < σ.length := by rw [← R.len]; exact (List.getElem?_eq_some_iff.mp q).1
        exact ⟨p, by rw [List.getElem?_set_self hi], h⟩
    · rw [List.getElem?_set_ne e] at hj
      have z := R.sl j s hj
      cases s with
      | un => trivial
      | val d' => obtain ⟨u, h1, h2⟩ := z; exact ⟨u, by rw [List.getElem?_set_ne e]; exact h1, h2⟩
      | own d' => obtain ⟨u, h1, h2⟩ := z; exact ⟨u, by rw [List.getElem?_set_ne e]; exact h1, h2⟩
  ap := fun j k q d' e' hj hk h1 h2 => by
    have at_ : ∀ (m : Nat) (f : D), i ≠ m → (env.set i (.own d))[m]? = some (.own f) → (σ.set i (some (.ref p)))[m]? = some (some (.ref q)) → env[m]? = some (.own f) ∧ σ[m]? = some (some (.ref q)) := fun m f e a b => by
      rw [List.getElem?_set_ne e] at a b
      exact ⟨a, b⟩
    have self : ∀ (f : D), (env.set i (.own d))[i]? = some (.own f) → (σ.set i (some (.ref p)))[i]? = some (some (.ref q)) → q = p := fun f a b => by
      rw [List.getElem?_set_self'] at a b
      cases z : σ[i]? with
      | none => rw [z] at b; cases b
      | some u => rw [z] at b; cases b; rfl
    by_cases ej : i = j
    · subst ej
      by_cases ek : i = k
      · exact ek
      · have := self _ hj h1
        subst this
        obtain ⟨a, b⟩ := at_ k e' ek hk h2
        exact absurd b (hf k e' a)
    · by_cases ek : i = k
      · subst ek
        have := self _ hk h2
        subst this
        obtain ⟨a, b⟩ := at_ j d' ej hj h1
        exact absurd b (hf j d' a)
      · obtain ⟨a, b⟩ := at_ j d' ej hj h1
        obtain ⟨a', b'⟩ := at_ k e' ek hk h2
        exact R.ap j k q d' e' a a' b b'
/-- a new owned thing is no other one -/
theorem Rel.fresh {σ : L2.St} {env : Env} (R : Rel K A G σ env H) {p : Addr} (hp : H p = none) : ∀ (j : Nat) (e : D), env[j]? = some (.own e) → σ[j]? ≠ some (some (.ref p)) := fun j e h z => by
  obtain ⟨q, h1, ⟨⟨o, h2, _⟩, _⟩⟩ := R.sl j _ h
  rw [h1] at z
  cases z
  rw [hp] at h2
  cases h2
theorem Rel.h0 {σ : L2.St} {env : Env} (R : Rel K A G σ env H) {p : Addr} (hp : H p = none) : A.H0 p = none := R.e0.dn hp
/-- an owned thing in slot i becomes known -/
theorem Rel.frz1 {σ : L2.St} {env : Env} (R : Rel K A G σ env H) (i : Nat) : ∃ G', Ex G G' ∧ Rel K A G' σ (Eng.frz i env) H := by
  unfold Eng.frz
  split
  · rename_i d hd
    obtain ⟨p, h1, ⟨⟨o, h2, h3⟩, h4, h5, h6⟩⟩ := R.sl i _ hd
    have ex : Ex G (upd G p o) := Ex.new h4
    have hlt : i < env.length := (List.getElem?_eq_some_iff.mp hd).1
    refine ⟨upd G p o, ex, ⟨R.e0.frz h5 h2 h4, fun a f => ?_, by rw [List.length_set]; exact R.len, fun j s hj => ?_, fun j k q d' e' hj hk a b => ?_⟩⟩
    · rw [upd_ne (by rintro rfl; exact h6 f)]
      exact R.gf a f
    · by_cases e : i = j
      · subst e
        rw [List.getElem?_set_self hlt] at hj
        cases hj
        exact ⟨_, h1, (h3.mono ex).rp upd_same⟩
      · rw [List.getElem?_set_ne e] at hj
        have z := R.sl j s hj
        cases s with
        | un => trivial
        | val d' => obtain ⟨u, a, b⟩ := z; exact ⟨u, a, b.mono ex⟩
        | own d' =>
          obtain ⟨q, a, ⟨⟨o', b, c⟩, d1, d2, d3⟩⟩ := z
          have hne : q ≠ p := fun z => by
            subst z
            exact e (R.ap i j q d d' hd hj h1 a)
          exact ⟨q, a, ⟨⟨o', b, c.mono ex⟩, by rw [upd_ne hne]; exact d1, d2, d3⟩⟩
    · have nj : i ≠ j := fun e => by subst e; rw [List.getElem?_set_self hlt] at hj; cases hj
      have nk : i ≠ k := fun e => by subst e; rw [List.getElem?_set_self hlt] at hk; cases hk
      rw [List.getElem?_set_ne nj] at hj
      rw [List.getElem?_set_ne nk] at hk
      exact R.ap j k q d' e' hj hk a b
  · exact ⟨G, Ex.refl _, R⟩
theorem Rel.frzs : ∀ (is : List Nat) {G : Hp} {σ : L2.St} {env : Env}, Rel K A G σ env H → ∃ G', Ex G G' ∧ Rel K A G' σ (Eng.frzs is env) H
  | [], G, _, _, R => ⟨G, Ex.refl _, R⟩
  | i :: r, G, _, _, R => by
    obtain ⟨G1, e1, R1⟩ := R.frz1 i
    obtain ⟨G2, e2, R2⟩ := Rel.frzs r R1
    exact ⟨G2, e1.trans e2, R2⟩
/-- an owned thing changes -/
theorem Rel.mut {σ : L2.St} {env : Env} (R : Rel K A G σ env H) {i : Nat} {p : Addr} {d d' : D} {o' : HO} (hi : env[i]? = some (.own d)) (hp : σ[i]? = some (some (.ref p))) (ho : OwnAs K G o' d') : Rel K A G σ (env.set i (.own d')) (upd H p o') := by
  obtain ⟨q, h1, ⟨⟨o, h2, h3⟩, h4, h5, h6⟩⟩ := R.sl i _ hi
  rw [hp] at h1
  cases h1
  have hlt : i < env.length := (List.getElem?_eq_some_iff.mp hi).1
  refine ⟨⟨R.e0.gg, fun a u h => ?_, fun a u f h => ?_, R.e0.new, R.e0.si0, Ext.si_upd R.e0.si h6⟩, R.gf, by rw [List.length_set]; exact R.len, fun j s hj => ?_, fun j k q d1 d2 hj hk a b => ?_⟩
  · rw [upd_ne (ne_of_none h h4)]; exact R.e0.gh a u h
  · rw [upd_ne (ne_of_none h h5)]; exact R.e0.keep a u f h
  · by_cases e : i = j
    · subst e
      rw [List.getElem?_set_self hlt] at hj
      cases hj
      exact ⟨p, hp, ⟨⟨o', upd_same, ho⟩, h4, h5, h6⟩⟩
    · rw [List.getElem?_set_ne e] at hj
      have z := R.sl j s hj
      cases s with
      | un => trivial
      | val d1 => exact z
      | own d1 =>
        obtain ⟨q, a, ⟨⟨o1, b, c⟩, f1, f2, f3⟩⟩ := z
        have hne : q ≠ p := fun z => by
          subst z
          exact e (R.ap i j q d d1 hi hj hp a)
        exact ⟨q, a, ⟨⟨o1, by rw [upd_ne hne]; exact b, c⟩, f1, f2, f3⟩⟩
  · have key : ∀ (m : Nat) (f : D), (env.set i (.own d'))[m]? = some (.own f) → ∃ g, env[m]? = some (.own g) := fun m f h => by
      by_cases e : i = m
      · subst e; exact ⟨_, hi⟩
      · rw [List.getElem?_set_ne e] at h; exact ⟨_, h⟩
    obtain ⟨g1, q1⟩ := key j d1 hj
    obtain ⟨g2, q2⟩ := key k d2 hk
    exact R.ap j k q g1 g2 q1 q2 a b

inductive Out where
  | nx (env : Env) | rt (d : D) | bk (env : Env) | ct (env : Env)
def EndOk (K : PySem.W.Frag) (A : Act) (G : Hp) (Dn : Ends) : Out → Prop
  | .nx env => ∀ σ G' H', Ex G G' → Rel K A G' σ env H' → Dn.nx σ H'
  | .bk env => ∀ σ G' H', Ex G G' → Rel K A G' σ env H' → Dn.bk σ H'
  | .ct env => ∀ σ G' H', Ex G G' → Rel K A G' σ env H' → Dn.ct σ H'
  | .rt d => ∀ v G' H', Ext A A.G0 A.H0 G' H' → Rp K G' v d → Dn.rt v H'
theorem EndOk.mono {Dn : Ends} {o : Out} (e : Ex G G') (h : EndOk K A G Dn o) : EndOk K A G' Dn o := by
  cases o with
  | nx env => exact fun σ G2 H2 e2 R => h σ G2 H2 (e.trans e2) R
  | bk env => exact fun σ G2 H2 e2 R => h σ G2 H2 (e.trans e2) R
  | ct env => exact fun σ G2 H2 e2 R => h σ G2 H2 (e.trans e2) R
  | rt d => exact h
def rdS (K : PySem.W.Frag) (A : Act) (w : Env → T Out) : TS := fun Dn σ H => ∃ G env, Rel K A G σ env H ∧ wp (w env) (EndOk K A G Dn) A.E
section
variable {X : Cx} {a b c e : Expr} {wa wb wc w : Env → T D} {ta tb tc : Env → T Bool} {pos pos' : Pos} {x : Str} {ws1 ws2 : Env → T Out} {s1 s2 : List Stmt} {st : Stmt}
/-- things handed out ahead of a statement -/
def dF (is : List Nat) (w : Env → T Out) : Env → T Out := fun env => w (frzs is env)
theorem rdS_frz (is : List Nat) {Dn : Ends} {σ : L2.St} (h : rdS K A (dF is ws1) Dn σ H) : rdS K A ws1 Dn σ H := by
  obtain ⟨G, env, R, h⟩ := h
  obtain ⟨G', e, R'⟩ := R.frzs is
  exact ⟨G', _, R', wp_imp h fun o q => q.mono e⟩
theorem s_frz (is : List Nat) (h : PS X st (rdS X.K A ws1)) : PS X st (rdS X.K A (dF is ws1)) := h.imp fun _ _ _ => rdS_frz is
def dSkip : Env → T Out := fun env => T.ret (.nx env)
def dSeq (w u : Env → T Out) : Env → T Out := fun env => w env >>= fun o => match o with
  | .nx env' => u env'
  | o => T.ret o
theorem ss_nil : PSs X [] (rdS X.K A dSkip) := pss_nil.imp fun Dn σ H h => by
  obtain ⟨G, env, R, h⟩ := h
  exact h σ G H (Ex.refl _) R
theorem rdS_seq {Dn : Ends} {σ : L2.St} (h : rdS K A (dSeq ws1 ws2) Dn σ H) : tSeq (rdS K A ws1) (rdS K A ws2) Dn σ H := by
  obtain ⟨G, env, R, h⟩ := h
  refine ⟨G, env, R, wp_imp (wp_bind.mp h) fun o q => ?_⟩
  cases o with
  | nx env' => exact fun σ' G' H' e R' => ⟨G', env', R', wp_imp q fun o q => q.mono e⟩
  | rt d => exact q
  | bk env' => exact q
  | ct env' => exact q
theorem ss_cons (h1 : PS X st (rdS X.K A ws1)) (h2 : PSs X s2 (rdS X.K A ws2)) : PSs X (st :: s2) (rdS X.K A (dSeq ws1 ws2)) := (pss_cons h1 h2).imp fun _ _ _ => rdS_seq
theorem ss_one (h1 : PS X st (rdS X.K A ws1)) : PSs X [st] (rdS X.K A ws1) := pss_one h1
theorem s_pass : PS X (.Pass pos) (rdS X.K A dSkip) := ps_pass.imp fun Dn σ H h => by
  obtain ⟨G, env, R, h⟩ := h
  exact h σ G H (Ex.refl _) R
def dBrk : Env → T Out := fun env => T.ret (.bk env)
def dCnt : Env → T Out := fun env => T.ret (.ct env)
theorem s_brk : PS X (.Break pos) (rdS X.K A dBrk) := ps_break.imp fun Dn σ H h => by
  obtain ⟨G, env, R, h⟩ := h
  exact h σ G H (Ex.refl _) R
theorem s_cnt : PS X (.Continue pos) (rdS X.K A dCnt) := ps_continue.imp fun Dn σ H h => by
  obtain ⟨G, env, R, h⟩ := h
  exact h σ G H (Ex.refl _) R
theorem s_never : PS X st (rdS X.K A fun _ => T.fail) := ps_never.imp fun Dn σ H h => by
  obtain ⟨G, env, R, h⟩ := h
  exact h
/-- what is not to be reached -/
theorem s_none {w : Env → T Out} : PSs X s1 (rdS X.K A fun _ => T.fail) := pss_never.imp fun Dn σ H h => by
  obtain ⟨G, env, R, h⟩ := h
  exact h
def dDrop (w : Env → T D) : Env → T Out := fun env => w env >>= fun _ => T.ret (.nx env)
theorem s_expr (he : PE X e (rd X.K A w)) (hs : swapsWith e none pos.line X.env = pure false := by rfl) : PS X (.Expr e pos) (rdS X.K A (dDrop w)) := (ps_expr he hs).imp fun Dn σ H h => by
  obtain ⟨G, env, R, h⟩ := h
  refine ⟨G, env, R, wp_imp (wp_bind.mp h) fun d h1 v G1 H1 e1 r1 => ?_⟩
  exact h1 σ G1 H1 e1.gg (R.ext e1)
def dRet (w : Env → T D) : Env → T Out := fun env => w env >>= fun d => T.ret (.rt d)
theorem s_ret (he : PE X e (rd X.K A w)) : PS X (.Return (some e) pos) (rdS X.K A (dRet w)) := (ps_ret he).imp fun Dn σ H h => by
  obtain ⟨G, env, R, h⟩ := h
  refine ⟨G, env, R, wp_imp (wp_bind.mp h) fun d h1 v G1 H1 e1 r1 => ?_⟩
  exact h1 v G1 H1 (R.e0.trans e1) r1
def dRetN : Env → T Out := fun _ => T.ret (.rt .non)
theorem s_retN : PS X (.Return none pos) (rdS X.K A dRetN) := ps_retN.imp fun Dn σ H h => by
  obtain ⟨G, env, R, h⟩ := h
  exact h .non G H R.e0 .non
theorem s_if (hc : PT X c (rdT X.K A tc)) (ha : PSs X s1 (rdS X.K A ws1)) (hb : PSs X s2 (rdS X.K A ws2)) : PS X (.If c s1 s2 pos) (rdS X.K A (dIf tc ws1 ws2)) := (ps_if hc ha hb).imp fun Dn σ H h => by
  obtain ⟨G, env, R, h⟩ := h
  refine ⟨G, env, R, wp_imp (wp_bind.mp h) fun b h1 G1 H1 e1 => ?_⟩
  cases b with
  | true => exact ⟨G1, env, R.ext e1, wp_imp h1 fun o q => q.mono e1.gg⟩
  | false => exact ⟨G1, env, R.ext e1, wp_imp h1 fun o q => q.mono e1.gg⟩
def dSet (i : Nat) (w : Env → T D) : Env → T Out := fun env => w env >>= fun d => T.ret (.nx (env.set i (.val d)))
theorem rdS_set {i : Nat} {Dn : Ends} {σ : L2.St} (h : rdS K A (dSet i w) Dn σ H) : tAsg (rd K A w) (gName i) Dn σ H := by
  obtain ⟨G, env, R, h⟩ := h
  refine ⟨G, env, R, wp_imp (wp_bind.mp h) fun d h1 v G1 H1 e1 r1 => ?_⟩
  exact h1 _ G1 H1 e1.gg ((R.ext e1).set r1)
theorem s_set (i : Nat) (hN : X.N.Nodup) (hi : X.N[i]? = some x) (hx : Loc X.env.scope x) (he : PE X e (rd X.K A w)) (hs : swapsWith e (some (.Name x pos')) pos.line X.env = pure false := by rfl) (hf : X.fn x = true ∨ X.env.scope.names.lookup x = some .local := by first | exact .inl rfl | exact .inr rfl | assumption) :
    PS X (.Assign [.Name x pos'] e pos) (rdS X.K A (dSet i w)) := (ps_set hN hi hx he hs hf).imp fun _ _ _ => rdS_set
/-- a new list is owned by the name -/
def dOwn (i : Nat) (w : Env → T (List D)) : Env → T Out := fun env => w env >>= fun ds => T.ret (.nx (env.set i (.own (.lst ds))))
theorem rdS_own {i : Nat} {w : Env → T (List D)} {Dn : Ends} {σ : L2.St} (h : rdS K A (dOwn i w) Dn σ H) : tAsg (rdN K A w) (gName i) Dn σ H := by
  obtain ⟨G, env, R, h⟩ := h
  refine ⟨G, env, R, wp_imp (wp_bind.mp h) fun ds h1 p vs G1 H1 e1 hp hg hl r1 => ?_⟩
  exact h1 _ G1 H1 e1.gg ((R.ext e1).setO ⟨⟨_, hl, .lst r1⟩, hg, R.h0 hp, R.st.nf hp⟩ (R.fresh hp))
theorem s_own (i : Nat) {w : Env → T (List D)} (hN : X.N.Nodup) (hi : X.N[i]? = some x) (hx : Loc X.env.scope x) (he : PE X e (rdN X.K A w)) (hs : swapsWith e (some (.Name x pos')) pos.line X.env = pure false := by rfl) (hf : X.fn x = true ∨ X.env.scope.names.lookup x = some .local := by first | exact .inl rfl | exact .inr rfl | assumption) :
    PS X (.Assign [.Name x pos'] e pos) (rdS X.K A (dOwn i w)) := (ps_set hN hi hx he hs hf).imp fun _ _ _ => rdS_own

def ownL (env : Env) (i : Nat) : T (List D) := match env[i]? with
  | some (.own (.lst l)) => .ret l
  | _ => .fail
theorem ownL_wp {env : Env} {i : Nat} {Q : List D → Prop} {E : Str → List D → Prop} (h : wp (ownL env i) Q E) : ∃ l, env[i]? = some (.own (.lst l)) ∧ Q l := by
  unfold ownL at h
  split at h
  · rename_i l e; exact ⟨l, e, h⟩
  · exact h.elim
theorem Rel.ownL {σ : L2.St} {env : Env} {i : Nat} {l : List D} (R : Rel K A G σ env H) (h : env[i]? = some (.own (.lst l))) : ∃ p vs, σ[i]? = some (some (.ref p)) ∧ H p = some (.lst vs) ∧ RpAll K G vs l := by
  obtain ⟨p, h1, ⟨⟨o, h2, h3⟩, _⟩⟩ := R.sl i _ h
  cases h3 with
  | lst r => exact ⟨p, _, h1, h2, r⟩
def dApp (i : Nat) (w : Env → T D) : Env → T Out := fun env => do
  let l ← ownL env i
  let d ← w env
  if l.length < sizeLine then T.ret (.nx (env.set i (.own (.lst (l ++ [d]))))) else T.fail
theorem s_app (i : Nat) {apos p : Pos} (hN : X.N[i]? = some x) (hv : Vis X.env.scope x) (he : PE X e (rd X.K A w)) (hd : (x == ("__debug__" : Str)) = false := by decide) (hcd : (x == ("__classdict__" : Str)) = false := by decide)
    (hbase : attributeBase (.Name x p) "append" X.env (eval (.Name x p) X.env) = eval (.Name x p) X.env := by rfl)
    (hfew : ((backTo pos (starEach [e] X.env)).all (fun x => !x.1) && (backToKw pos (keywordEach [] X.env)).all (fun x => x.1.isSome) && decide (([e] : List Expr).length + ([] : List Keyword).length + (if ([] : List Keyword).isEmpty then 0 else 1) < 30)) = true := by rfl)
    (hline : (apos.endLine == pos.line) = true := by rfl) (hs : starEach [e] X.env = (false, eval e X.env) :: starEach [] X.env := by rfl) :
    PS X (.Expr (.Call (.Attribute (.Name x p) "append" apos) [e] [] pos) pos') (rdS X.K A (dApp i w)) :=
  (ps_expr (pe_bm PySem.F.plainAttrs_list PySem.F.slot_list_append PySem.F.type_list_append mt_append (pe_var hN hv hd hcd) (pa_cons he pa_nil hs) hbase hfew hline hs rfl) rfl).imp fun Dn σ H h => by
    obtain ⟨G, env, R, h⟩ := h
    obtain ⟨l, hl, h0⟩ := ownL_wp (wp_bind.mp h)
    obtain ⟨p, vs, h1, h2, h3⟩ := R.ownL hl
    refine ⟨.ref p, h1, .inl ⟨rfl, vs, SqL.of h2⟩, G, env, R, wp_imp (wp_bind.mp h0) fun d q v G1 H1 e1 r1 => ?_⟩
    have R1 := R.ext e1
    obtain ⟨p', vs', h1', h2', h3'⟩ := R1.ownL hl
    rw [h1] at h1'
    cases h1'
    split at q
    · rename_i hlt
      refine ⟨p, vs', v, rfl, rfl, h2', by rw [h3'.length]; exact hlt, ?_⟩
      exact q σ G1 _ e1.gg (R1.mut hl h1 (.lst (h3'.append (.cons r1 .nil))))
    · exact q.elim
/-- xs[i] = e: e first, then the list, then the place -/
def dSetIx (i : Nat) (w u : Env → T D) : Env → T Out := fun env => do
  let d ← w env
  let l ← ownL env i
  let k ← u env >>= asInt
  match ixN l.length k with
  | some j => T.ret (.nx (env.set i (.own (.lst (l.set j d)))))
  | none => T.fail
theorem s_setIx (i : Nat) {ie : Expr} {u : Env → T D} {p spos : Pos} (hN : X.N[i]? = some x) (hv : Vis X.env.scope x) (he : PE X e (rd X.K A w)) (hu : PE X ie (rdB X.K A u)) (hd : (x == ("__debug__" : Str)) = false := by decide) (hcd : (x == ("__classdict__" : Str)) = false := by decide)
    (hs : swapsWithSole [.Subscript (.Name x p) ie spos] e pos.line X.env = pure false := by rfl) (hw : swappedStores [.Subscript (.Name x p) ie spos] e X.env = pure none := by rfl)
    (h1 : (assignEach [.Subscript (.Name x p) ie spos] X.env).map (·.2) = [assign (.Subscript (.Name x p) ie spos) X.env] := by rfl)
    (ha : ∀ v, assign (.Subscript (.Name x p) ie spos) X.env v = (do
      let ov ← holding [v] (eval (.Name x p) X.env)
      let iv ← holding [v, ov] (eval ie X.env)
      standAt spos
      holding [v, ov, iv] (setItem ov iv v)
      release [v, ov, iv] []) := by intro _; rfl) : PS X (.Assign [.Subscript (.Name x p) ie spos] e pos) (rdS X.K A (dSetIx i w u)) :=
  (ps_asg he (pg_sub (pe_var hN hv hd hcd) hu set_list ha) hs hw h1).imp fun Dn σ H h => by
    obtain ⟨G, env, R, h⟩ := h
    refine ⟨G, env, R, wp_imp (wp_bind.mp h) fun d q v G1 H1 e1 r1 => ?_⟩
    obtain ⟨l, hl, q⟩ := ownL_wp (wp_bind.mp q)
    have R1 := R.ext e1
    obtain ⟨p, vs, h1, h2, h3⟩ := R1.ownL hl
    refine ⟨.ref p, h1, G1, env, R1, wp_imp (wp_bind.mp (wp_bind.mp q)) fun dk q iv G2 H2 e2 r2 => ?_⟩
    unfold asInt at q
    split at q
    · rename_i k
      have R2 := R1.ext e2
      obtain ⟨p', vs', h1', h2', h3'⟩ := R2.ownL hl
      rw [h1] at h1'
      cases h1'
      have q : wp (match ixN l.length k with | some j => T.ret (Out.nx (env.set i (.own (.lst (l.set j d))))) | none => T.fail) (EndOk X.K A G Dn) A.E := q
      split at q
      · rename_i j hj
        exact ⟨p, vs', k, j, rfl, r2.int, h2', by rw [h3'.length]; exact hj, q σ G2 _ (e1.gg.trans e2.gg) (R2.mut hl h1 (.lst (h3'.set (r1.mono e2.gg) j)))⟩
      · exact q.elim
    · exact q.elim

def rdG (K : PySem.W.Frag) (A : Act) (ts : List Nat) (f : D → Env → Option Env) : TG := fun v σ H Q => ∃ G env d env', Rel K A G σ env H ∧ Rp K G v d ∧ f d env = some env' ∧
  ∀ σ', (∀ j, j ∉ ts → σ'[j]? = σ[j]?) → σ'.length = σ.length → Rel K A G σ' env' H → Q σ' H
def tgName (i : Nat) : D → Env → Option Env := fun d env => some (env.set i (.val d))
theorem g_name (i : Nat) (hN : X.N.Nodup) (hi : X.N[i]? = some x) (hx : Loc X.env.scope x) (hf : X.fn x = true ∨ X.env.scope.names.lookup x = some .local := by first | exact .inl rfl | exact .inr rfl | assumption) : PG X (.Name x pos) (rdG X.K A [i] (tgName i)) :=
  (pg_name hN hi hx hf).imp fun v σ H Q h => by
    obtain ⟨G, env, d, env', R, r, e, h⟩ := h
    cases e
    exact h _ (fun j hj => List.getElem?_set_ne (by rintro rfl; exact hj List.mem_cons_self)) List.length_set (R.set r)
/-- targets one after another -/
def rdGs (K : PySem.W.Frag) (A : Act) (ts : List Nat) (f : List D → Env → Option Env) : TGs := fun vs σ H Q => ∃ G env ds env', Rel K A G σ env H ∧ RpAll K G vs ds ∧ f ds env = some env' ∧
  ∀ σ', (∀ j, j ∉ ts → σ'[j]? = σ[j]?) → σ'.length = σ.length → Rel K A G σ' env' H → Q σ' H
def tgNil : List D → Env → Option Env := fun ds env => match ds with
  | [] => some env
  | _ => none
def tgCons (f : D → Env → Option Env) (g : List D → Env → Option Env) : List D → Env → Option Env := fun ds env => match ds with
  | d :: r => (f d env).bind (g r)
  | [] => none
theorem gs_nil : PGs X [] (rdGs X.K A [] tgNil) := ⟨fun pins s σ H vs us Q I r h => by
  obtain ⟨G, env, ds, env', R, ra, e, h⟩ := h
  unfold tgNil at e
  split at e
  · cases e
    cases ra
    exact pgs_nil.run pins s σ H [] us Q I r ⟨rfl, h σ (fun _ _ => rfl) rfl R⟩
  · cases e⟩
theorem gs_cons {es : List Expr} {ts us : List Nat} {f : D → Env → Option Env} {g : List D → Env → Option Env} (h1 : PG X e (rdG X.K A ts f)) (h2 : PGs X es (rdGs X.K A us g))
    (hs : (assignEach (e :: es) X.env).map (·.2) = assign e X.env :: (assignEach es X.env).map (·.2) := by rfl) : PGs X (e :: es) (rdGs X.K A (ts ++ us) (tgCons f g)) := ⟨fun pins s σ H vs ws Q I r h => by
  obtain ⟨G, env, ds, env', R, ra, e, h⟩ := h
  unfold tgCons at e
  split at e
  · rename_i d ds'
    cases ra with
    | cons r1 r2 =>
      obtain ⟨env1, e1, e2⟩ := Option.bind_eq_some_iff.mp e
      refine (pgs_cons h1 h2 hs).run pins s σ H _ ws Q I r ⟨_, _, rfl, G, env, d, env1, R, r1, e1, fun σ1 k1 l1 R1 => ⟨G, env1, ds', env', R1, r2, e2, fun σ2 k2 l2 R2 => h σ2 (fun j hj => ?_) (l2.trans l1) R2⟩⟩
      rw [k2 j (fun z => hj (List.mem_append_right _ z)), k1 j (fun z => hj (List.mem_append_left _ z))]
  · cases e⟩
def tgTup (g : List D → Env → Option Env) (n : Nat) : D → Env → Option Env := fun d env => match d with
  | .tup l => if l.length = n then g l env else none
  | .lst l => if l.length = n then g l env else none
  | _ => none
theorem pg_any {es : List Expr} {k : Nat} {n : Nat} {t : TGs} (hc : X.calm = true) (h : PGs X es t)
    (hn : (assignEach es X.env).length = n := by rfl) (hst : (assignEach es X.env).findIdx? (·.1) = none := by rfl) : PG X (.Tuple es k pos) (fun v σ H Q => gTup X.K n t v σ H Q ∨ gLst X.K n t v σ H Q) :=
  ⟨fun pins s σ H v u Q I r q => q.elim (fun q => (pg_tup hc h hn hst).run pins s σ H v u Q I r q) fun q => (pg_lst hc h hn hst).run pins s σ H v u Q I r q⟩
theorem g_tup {es : List Expr} {k : Nat} {n : Nat} {ts : List Nat} {g : List D → Env → Option Env} (hc : X.calm = true) (h : PGs X es (rdGs X.K A ts g))
    (hn : (assignEach es X.env).length = n := by rfl) (hst : (assignEach es X.env).findIdx? (·.1) = none := by rfl) : PG X (.Tuple es k pos) (rdG X.K A ts (tgTup g n)) := (pg_any hc h hn hst).imp fun v σ H Q h => by
  obtain ⟨G, env, d, env', R, r, e, h⟩ := h
  unfold tgTup at e
  split at e
  · rename_i l
    split at e
    · rename_i hl
      cases r with
      | tup h1 h2 => exact .inl ⟨_, _, rfl, Evl.ex_t R.st.gh h1, by rw [h2.length]; exact hl, G, env, l, env', R, h2, e, h⟩
    · cases e
  · rename_i l
    split at e
    · rename_i hl
      cases r with
      | lst h1 h2 => exact .inr ⟨_, _, rfl, SqL.of (R.st.gh _ _ h1), by rw [h2.length]; exact hl, G, env, l, env', R, h2, e, h⟩
    · cases e
  · cases e
/-- target = value -/
def dAsg (f : D → Env → Option Env) (w : Env → T D) : Env → T Out := fun env => w env >>= fun d => match f d env with
  | some env' => T.ret (.nx env')
  | none => T.fail
theorem s_asg {tg : Expr} {ts : List Nat} {f : D → Env → Option Env} (he : PE X e (rd X.K A w)) (hg : PG X tg (rdG X.K A ts f)) (hs : swapsWithSole [tg] e pos.line X.env = pure false := by rfl) (hw : swappedStores [tg] e X.env = pure none := by rfl)
    (h1 : (assignEach [tg] X.env).map (·.2) = [assign tg X.env] := by rfl) : PS X (.Assign [tg] e pos) (rdS X.K A (dAsg f w)) := (ps_asg he hg hs hw h1).imp fun Dn σ H h => by
  obtain ⟨G, env, R, h⟩ := h
  refine ⟨G, env, R, wp_imp (wp_bind.mp h) fun d q v G1 H1 e1 r1 => ?_⟩
  split at q
  · rename_i env' e
    exact ⟨G1, env, d, env', R.ext e1, r1, e, fun σ' _ _ R' => q σ' G1 H1 e1.gg R'⟩
  · exact q.elim
/-- a, b = x, y of plain local names -/
def dPar (i j : Nat) (ws : Env → T (List D)) : Env → T Out := fun env => ws env >>= fun ds => match ds with
  | [d, e] => T.ret (.nx ((env.set i (.val d)).set j (.val e)))
  | _ => T.fail
theorem s_par (i j : Nat) {y : Str} {ws : Env → T (List D)} {px py pt : Pos} {kt k2 : Nat} {pt2 : Pos} (hc : X.calm = true) (hN : X.N.Nodup) (hi : X.N[i]? = some x) (hj : X.N[j]? = some y) (hij : i ≠ j)
    (hx : X.env.scope.names.lookup x = some .local) (hy : X.env.scope.names.lookup y = some .local) (ha : PA X [a, b] (rdA X.K A 2 ws))
    (hw : swappedStores [.Tuple [.Name x px, .Name y py] kt pt] (.Tuple [a, b] k2 pt2) X.env = pure (some [x, y]))
    (hs : swapsWithSole [.Tuple [.Name x px, .Name y py] kt pt] (.Tuple [a, b] k2 pt2) pos.line X.env = pure false := by rfl) :
    PS X (.Assign [.Tuple [.Name x px, .Name y py] kt pt] (.Tuple [a, b] k2 pt2) pos) (rdS X.K A (dPar i j ws)) := (ps_par hc hN hi hj hij hx hy ha hw hs).imp fun Dn σ H h => by
  obtain ⟨G, env, R, h⟩ := h
  refine ⟨G, env, R, wp_imp (wp_bind.mp h) fun ds q vs G1 H1 e1 r1 l1 => ?_⟩
  split at q
  · rename_i d e
    cases r1 with
    | cons ra rb =>
      cases rb with
      | cons rb rc =>
        cases rc
        exact ⟨_, _, rfl, q _ G1 H1 e1.gg (((R.ext e1).set ra).set rb)⟩
  · exact q.elim

structure Yld (K : PySem.W.Frag) (A : Act) (J : It) (G : Hp) (Sr : Hp → Prop) (ds : List D) : Prop where
  go : ∀ (i : Nat) H1, Sr H1 → i < ds.length → J.go i H1
  stop : ∀ (i : Nat) H1, Sr H1 → ds.length ≤ i → J.stop i H1
  item : ∀ (i : Nat) d G1 H1 x H2, Ex G G1 → St1 A G1 H1 → Sr H1 → ds[i]? = some d → J.yld i H1 x H2 → ∃ G2, Ext A G1 H1 G2 H2 ∧ Rp K G2 x d
/-- for a loop: the source stands as long as what is known stands -/
def rdI (K : PySem.W.Frag) (A : Act) (w : Env → T (List D)) : TI := fun σ H R => ∃ G env, Rel K A G σ env H ∧ wp (w env) (fun ds => ∀ J G' H', Ext A G H G' H' → (∃ Sr, Yld K A J G' Sr ds ∧ ∀ H1, Ex G' H1 → Sr H1) → ds.length ≤ sizeLine → R J H') A.E
/-- for a comprehension: .. as long as the state goes on -/
def rdIB (K : PySem.W.Frag) (A : Act) (w : Env → T (List D)) : TI := fun σ H R => ∃ G env, Rel K A G σ env H ∧ wp (w env) (fun ds => ∀ J G' H', Ext A G H G' H' → (∃ Sr, Yld K A J G' Sr ds ∧ ∀ G1 H1, Ext A G' H' G1 H1 → Sr H1) → ds.length ≤ sizeLine → R J H') A.E
theorem _root_.L2.PI.hok {tg iter : Expr} {wi : TI} (h : PI X tg iter wi) : PI X tg iter (fun σ H R => wi σ H fun J H1 => (∃ h, HOk X.prog X.w H1 h ∧ X.K.In h) → R J H1) := ⟨fun pins s σ H R I q =>
  thn (h.run pins s σ H _ I q) fun v s1 h1 => thn h1 fun itv s2 h2 => by
    obtain ⟨it, fp, tn, J, H', e, I', T, st, f, r⟩ := h2
    exact ⟨it, fp, tn, J, H', e, I', T, st, f, r ⟨_, I'.hok, I'.kIn⟩⟩⟩
theorem sqT_len {a : Addr} {xs : List V} {P : Program} {w : World} {h : Heap} (o : HOk P w H h) (k : K.In h) (s : SqT K H a xs) : xs.length ≤ sizeLine := by
  rcases s with s | ⟨ob, its, n, hk, hc, hd, hz, r⟩
  · exact (s.ok o).1
  · have := r.length
    simp only [Array.length_toList] at this
    omega
theorem yld_list {a : Addr} {vs : List V} {ds : List D} (r : RpAll K G vs ds) : Yld K A (Itl K a) G (fun H => SqL K H a vs) ds where
  go := fun i H1 h hi => ⟨vs, vs[i]'(by rw [r.length]; exact hi), h, by simp⟩
  stop := fun i H1 h hi => ⟨vs, h, by rw [r.length]; exact hi⟩
  item := fun i d G1 H1 x H2 e s h hd y => by
    obtain ⟨rfl, y⟩ := y
    obtain ⟨v, h1, h2⟩ := r.get hd
    have := y vs h
    rw [h1] at this
    cases this
    exact ⟨G1, s, h2.mono e⟩
theorem yld_tup {a : Addr} {vs : List V} {ds : List D} (r : RpAll K G vs ds) : Yld K A (Itt K a) G (fun H => SqT K H a vs) ds where
  go := fun i H1 h hi => ⟨vs, vs[i]'(by rw [r.length]; exact hi), h, by simp⟩
  stop := fun i H1 h hi => ⟨vs, h, by rw [r.length]; exact hi⟩
  item := fun i d G1 H1 x H2 e s h hd y => by
    obtain ⟨rfl, y⟩ := y
    obtain ⟨v, h1, h2⟩ := r.get hd
    have := y vs h
    rw [h1] at this
    cases this
    exact ⟨G1, s, h2.mono e⟩
def rangeD (lo : Int) (n : Nat) : List D := (List.range n).map fun (i : Nat) => D.int (lo + (i : Int))
@[simp] theorem rangeD_length (lo : Int) (n : Nat) : (rangeD lo n).length = n := by unfold rangeD; rw [List.length_map, List.length_range]
theorem yld_range (lo : Int) (n : Nat) : Yld K A (Itr lo n) G (fun _ => True) (rangeD lo n) where
  go := fun i H1 h hi => by rw [rangeD_length] at hi; exact hi
  stop := fun i H1 h hi => by rw [rangeD_length] at hi; exact hi
  item := fun i d G1 H1 x H2 e s h hd y => by
    obtain ⟨rfl, rfl⟩ := y
    unfold rangeD at hd
    rw [List.getElem?_map] at hd
    cases q : (List.range n)[i]? with
    | none => rw [q] at hd; cases hd
    | some j =>
      rw [q] at hd
      have hj : j = i := by
        rw [List.getElem?_range (by have := (List.getElem?_eq_some_iff.mp q).1; simpa using this)] at q
        cases q; rfl
      subst hj
      cases hd
      exact ⟨G1, s, .int _⟩
def enumD (l : List D) : List D := (l.zipIdx).map fun p => D.tup [.int (p.2 : Nat), p.1]
@[simp] theorem enumD_length (l : List D) : (enumD l).length = l.length := by unfold enumD; rw [List.length_map, List.length_zipIdx]
theorem enumD_get {l : List D} {i : Nat} {d : D} (h : (enumD l)[i]? = some d) : ∃ x, l[i]? = some x ∧ d = .tup [.int (i : Nat), x] := by
  unfold enumD at h
  rw [List.getElem?_map, List.getElem?_zipIdx] at h
  cases q : l[i]? with
  | none => rw [q] at h; cases h
  | some x => rw [q] at h; cases h; exact ⟨x, rfl, by simp⟩
theorem yld_enum {a : Addr} {vs : List V} {ds : List D} (r : RpAll K G vs ds) : Yld K A (Ite K a) G (fun H => SqL K H a vs) (enumD ds) where
  go := fun i H1 h hi => ⟨vs, vs[i]'(by rw [r.length]; simpa using hi), h, by simp⟩
  stop := fun i H1 h hi => ⟨vs, h, by rw [r.length]; simpa using hi⟩
  item := fun i d G1 H1 x H2 e s h hd y => by
    obtain ⟨T, u, rfl, hT, rfl, y⟩ := y
    obtain ⟨z, hz, rfl⟩ := enumD_get hd
    obtain ⟨v, h1, h2⟩ := r.get hz
    have := y vs h
    rw [h1] at this
    cases this
    exact ⟨_, s.alloc hT, .tup (SqT.of upd_same) (.cons (.int _) (.cons ((h2.mono e).mono (Ex.new (s.gnone hT))) .nil))⟩
def zipD (l m : List D) : List D := (l.zip m).map fun p => D.tup [p.1, p.2]
theorem zipD_length (l m : List D) : (zipD l m).length = min l.length m.length := by unfold zipD; rw [List.length_map, List.length_zip]
theorem zipD_get {l m : List D} {i : Nat} {d : D} (h : (zipD l m)[i]? = some d) : ∃ x y, l[i]? = some x ∧ m[i]? = some y ∧ d = .tup [x, y] := by
  unfold zipD at h
  rw [List.getElem?_map] at h
  cases q : (l.zip m)[i]? with
  | none => rw [q] at h; cases h
  | some p =>
    rw [q] at h
    cases h
    obtain ⟨h1, h2⟩ := List.getElem?_zip_eq_some.mp q
    exact ⟨_, _, h1, h2, rfl⟩
theorem yld_zip {a b : Addr} {vs us : List V} {ds es : List D} (r : RpAll K G vs ds) (r2 : RpAll K G us es) : Yld K A (Itz K a b) G (fun H => SqL K H a vs ∧ SqL K H b us) (zipD ds es) where
  go := fun i H1 h hi => by
    rw [zipD_length] at hi
    exact ⟨vs, us, vs[i]'(by rw [r.length]; omega), us[i]'(by rw [r2.length]; omega), h.1, h.2, by simp, by simp⟩
  stop := fun i H1 h hi => by
    rw [zipD_length] at hi
    refine ⟨vs, us, h.1, h.2, ?_⟩
    rw [r.length, r2.length]
    omega
  item := fun i d G1 H1 x H2 e s h hd y => by
    obtain ⟨T, u, v, rfl, hT, rfl, y1, y2⟩ := y
    obtain ⟨z, z2, hz, hz2, rfl⟩ := zipD_get hd
    obtain ⟨v', h1, h2⟩ := r.get hz
    obtain ⟨u', h3, h4⟩ := r2.get hz2
    have q1 := y1 vs h.1
    have q2 := y2 us h.2
    rw [h1] at q1
    rw [h3] at q2
    cases q1
    cases q2
    exact ⟨_, s.alloc hT, .tup (SqT.of upd_same) (.cons ((h2.mono e).mono (Ex.new (s.gnone hT))) (.cons ((h4.mono e).mono (Ex.new (s.gnone hT))) .nil))⟩
end
end Eng

namespace Eng
open PySem PySem.Spec PyProof.Rows L2
open Evl (Ex)
variable {K : PySem.W.Frag} {A : Act} {G H G' H' G1 H1 G2 H2 : Hp}
section
variable {X : Cx} {a b c e : Expr} {wa wb wc w : Env → T D} {ta tb tc : Env → T Bool} {pos pos' : Pos} {x : Str} {ws1 ws2 : Env → T Out} {s1 s2 : List Stmt} {st : Stmt} {tg : Expr}

def iAny (K : PySem.W.Frag) (tl : TE) : TI := fun σ H R => tl σ H fun x H1 => (∃ a xs, x = .ref a ∧ SqL K H1 a xs ∧ R (Itl K a) H1) ∨ (∃ a xs, x = .ref a ∧ SqT K H1 a xs ∧ R (Itt K a) H1) ∨ ∃ z, x = .str z ∧ R (Its z) H1
theorem pi_any {l : Expr} {tl : TE} (hl : PE X l tl) : PI X tg l (iAny X.K tl) := by
  refine ⟨fun pins s σ H R I h => ?_⟩
  refine thn (hl.run pins s σ H _ I h) fun v s1 ⟨x, H1, I1, r1, q1⟩ => ?_
  rcases q1 with ⟨a, xs, e, hq, q⟩ | ⟨a, xs, e, hq, q⟩ | ⟨z, e, q⟩
  · subst e
    cases r1
    obtain ⟨its, rv, p, hz⟩ := I1.list hq
    refine wpAny_pyIter_list p.isList ?_
    refine ⟨s1.heap.objs.size, [s1.heap.objs.size], _, _, H1, rfl, I1.kept (t' := s1.toks) fun b o e => Heap.get?_push_of_some _ e, turn_list a _, ⟨_, Heap.get?_push_size _ rfl, rfl, rfl⟩, fun b hb => ?_, q⟩
    have e : b = s1.heap.objs.size := by simpa using hb
    subst e
    exact I1.fpOk (Nat.le_refl _) (I1.hok.fresh (Nat.le_refl _))
  · subst e
    cases r1
    obtain ⟨its, rv, p, hz⟩ := I1.tuple hq
    refine wpAny_pyIter_tuple (show s1.heap.IsTuple a its.toArray from p) ?_
    refine ⟨s1.heap.objs.size, [s1.heap.objs.size], _, _, H1, rfl, I1.kept (t' := s1.toks) fun b o e => Heap.get?_push_of_some _ e, turn_tuple a _, ⟨_, Heap.get?_push_size _ rfl, rfl, rfl⟩, fun b hb => ?_, q⟩
    have e : b = s1.heap.objs.size := by simpa using hb
    subst e
    exact I1.fpOk (Nat.le_refl _) (I1.hok.fresh (Nat.le_refl _))
  · subst e
    obtain ⟨t, rfl⟩ := r1
    cases ha : z.cps.all (· < 128)
    · exact wpAny_pyIter_wide ha (pi_one (tk := s1.toks) I1 _ (turn_str _ z t "str_iterator" (.inr rfl)) ⟨_, Heap.get?_push_size _ rfl, rfl, rfl⟩ q)
    · exact wpAny_pyIter_ascii ha (pi_one (tk := s1.toks) I1 _ (turn_str _ z t "str_ascii_iterator" (.inl rfl)) ⟨_, Heap.get?_push_size _ rfl, rfl, rfl⟩ q)
def charsD (z : Str) : List D := z.cps.toList.map fun c => D.str ⟨#[c]⟩
theorem yld_str (z : Str) : Yld K A (Its z) G (fun _ => True) (charsD z) where
  go := fun i H1 h hi => by unfold charsD at hi; rw [List.length_map, Array.length_toList] at hi; exact hi
  stop := fun i H1 h hi => by unfold charsD at hi; rw [List.length_map, Array.length_toList] at hi; exact hi
  item := fun i d G1 H1 x H2 e s h hd y => by
    obtain ⟨rfl, c, hc, rfl⟩ := y
    unfold charsD at hd
    rw [List.getElem?_map, Array.getElem?_toList, hc] at hd
    cases hd
    exact ⟨G1, s, .str _⟩
def itemsD : D → T (List D)
  | .lst l => .ret l
  | .tup l => .ret l
  | .str z => if z.length ≤ sizeLine then .ret (charsD z) else .fail
  | _ => .fail
theorem items_any {v : V} {d : D} {R : It → Hp → Prop} {E : Str → List D → Prop} {P : Program} {w : World} {hp : Heap} (ok : HOk P w H hp) (hk : K.In hp) (s : St1 A G H) (r : Rq K A G H v d)
    (h : wp (itemsD d) (fun ds => ∀ J, (∃ Sr, Yld K A J G Sr ds ∧ (∀ G1 H1, Ext A G H G1 H1 → Sr H1) ∧ (Rp K G v d → ∀ H1, Ex G H1 → Sr H1)) → ds.length ≤ sizeLine → R J H) E) :
    (∃ a xs, v = .ref a ∧ SqL K H a xs ∧ R (Itl K a) H) ∨ (∃ a xs, v = .ref a ∧ SqT K H a xs ∧ R (Itt K a) H) ∨ ∃ z, v = .str z ∧ R (Its z) H := by
  cases d with
  | lst l =>
    have hq := r
    obtain ⟨p, vs, rfl, h1, h2⟩ := r.lst s.gh
    have hz : l.length ≤ sizeLine := by rw [← h2.length]; exact (ok p _ h1).1
    refine .inl ⟨p, vs, rfl, SqL.of h1, h _ ⟨_, yld_list h2, fun G1 H1 e => ?_, fun rp H1 e => ?_⟩ hz⟩
    · cases hq with
      | of rr => cases rr with | lst a b => exact SqL.of (e.gh _ _ (e.gg _ _ (by rw [a]; have := s.gh _ _ a; rw [h1] at this; exact this.symm)))
      | own a b c => rw [h1] at a; cases a; exact SqL.of (e.keep _ _ b h1)
    · cases rp with
      | lst a b =>
        have := s.gh _ _ a
        rw [h1] at this
        cases this
        exact SqL.of (e _ _ a)
  | tup l =>
    have hq := r
    obtain ⟨p, vs, e0, h1, h2⟩ := r.tup s.gh
    have hz : l.length ≤ sizeLine := by rw [← h2.length]; exact sqT_len ok hk h1
    have hrp : Rp K G v (.tup l) := by
      cases hq with
      | of rr => exact rr
      | own a b c => cases c
    subst e0
    cases hrp with
    | @tup _ vs' _ ha hb =>
      have stay : ∀ H1, Ex G H1 → SqT K H1 p vs' := fun H1 e => Evl.ex_t e ha
      exact .inr (.inl ⟨p, vs', rfl, Evl.ex_t s.gh ha, h _ ⟨_, yld_tup hb, fun G1 H1 e => stay H1 (e.gg.trans e.gh), fun _ H1 e => stay H1 e⟩ hz⟩)
  | str z =>
    have h : wp (if z.length ≤ sizeLine then T.ret (charsD z) else T.fail) _ _ := h
    split at h
    · rename_i hz
      exact .inr (.inr ⟨z, r.str, h _ ⟨_, yld_str z, fun _ _ _ => trivial, fun _ _ _ => trivial⟩ (by unfold charsD; rw [List.length_map, Array.length_toList]; exact hz)⟩)
    · exact h.elim
  | _ => exact h.elim
theorem i_seq {l : Expr} (hl : PE X l (rd X.K A w)) : PI X tg l (rdI X.K A (dU itemsD w)) := by
  refine ⟨fun pins s σ H R I h => ?_⟩
  obtain ⟨G, env, Re, h⟩ := h
  refine (pi_any (tg := tg) (tl := fun σ H Q => rd X.K A w σ H fun v H1 => (∃ hp, HOk X.prog X.w H1 hp ∧ X.K.In hp) → Q v H1) ⟨fun pins s σ H Q I q => ?_⟩).run pins s σ H R I ?_
  · exact thn (hl.run pins s σ H _ I q) fun u s1 ⟨v, H1, I1, r1, q1⟩ => ⟨v, H1, I1, r1, q1 ⟨_, I1.hok, I1.kIn⟩⟩
  · refine ⟨G, env, Re, wp_imp (wp_bind.mp h) fun d q v G1 H1 e1 r1 ⟨hp, ok, hk⟩ => ?_⟩
    exact items_any ok hk e1.refl' (.of r1) (wp_imp q fun ds q J ⟨Sr, y, _, k⟩ hz => q J G1 H1 e1 ⟨Sr, y, k r1⟩ hz)
theorem i_seqB {l : Expr} (hl : PE X l (rdB X.K A w)) : PI X tg l (rdIB X.K A (dU itemsD w)) := by
  refine ⟨fun pins s σ H R I h => ?_⟩
  obtain ⟨G, env, Re, h⟩ := h
  refine (pi_any (tg := tg) (tl := fun σ H Q => rdB X.K A w σ H fun v H1 => (∃ hp, HOk X.prog X.w H1 hp ∧ X.K.In hp) → Q v H1) ⟨fun pins s σ H Q I q => ?_⟩).run pins s σ H R I ?_
  · exact thn (hl.run pins s σ H _ I q) fun u s1 ⟨v, H1, I1, r1, q1⟩ => ⟨v, H1, I1, r1, q1 ⟨_, I1.hok, I1.kIn⟩⟩
  · refine ⟨G, env, Re, wp_imp (wp_bind.mp h) fun d q v G1 H1 e1 r1 ⟨hp, ok, hk⟩ => ?_⟩
    exact items_any ok hk e1.refl' r1 (wp_imp q fun ds q J ⟨Sr, y, k, _⟩ hz => q J G1 H1 e1 ⟨Sr, y, k⟩ hz)

def range1 : List D → T (List D)
  | [.int j] => if j ≤ 16777216 ∧ -(2 ^ 62) ≤ j then .ret (rangeD 0 j.toNat) else .fail
  | _ => .fail
def range2 : List D → T (List D)
  | [.int i, .int j] => if -(2 ^ 62) ≤ i ∧ i < 2 ^ 62 ∧ -(2 ^ 62) ≤ j ∧ j < 2 ^ 62 ∧ (j - i).toNat ≤ 16777216 then .ret (rangeD i (j - i).toNat) else .fail
  | _ => .fail
variable {p : Pos} {wsl : Env → T (List D)}
theorem rdI_B {wl : Env → T (List D)} {σ : L2.St} {R : It → Hp → Prop} (h : rdIB K A wl σ H R) : rdI K A wl σ H R := by
  obtain ⟨G, env, Re, h⟩ := h
  exact ⟨G, env, Re, wp_imp h fun ds q J G' H' e ⟨Sr, y, k⟩ hz => q J G' H' e ⟨Sr, y, fun G1 H1 e2 => k H1 (e2.gg.trans e2.gh)⟩ hz⟩
theorem toIB {iter : Expr} {wl : Env → T (List D)} (h : PI X tg iter (rdI X.K A wl)) : PI X tg iter (rdIB X.K A wl) := h.imp fun _ _ _ => rdI_B
theorem i_range1 (hg : Gl X "range") (hm : X.mg "range" = none) (ha : PA X [a] (rdAB X.K A wsl)) (hs : starEach [a] X.env = [(false, eval a X.env)] := by rfl) : PI X tg (.Call (.Name "range" p) [a] [] pos) (rdI X.K A (dC range1 wsl)) :=
  (pi_range1 hg hm ha hs).imp fun σ H R h => by
    obtain ⟨G, env, Re, h⟩ := h
    refine ⟨G, env, Re, wp_imp (wp_bind.mp h) fun ds q vs G1 H1 e1 r1 => ?_⟩
    unfold range1 at q
    split at q
    · rename_i j
      obtain ⟨v, rfl, r⟩ := Paired.one r1
      split at q
      · rename_i hj
        exact ⟨j, by rw [r.int], hj.2, by omega, q _ G1 H1 e1 ⟨_, yld_range 0 j.toNat, fun _ _ => trivial⟩ (by rw [rangeD_length, sizeLine_eq]; omega)⟩
      · exact q.elim
    · exact q.elim
theorem i_range2 (hg : Gl X "range") (hm : X.mg "range" = none) (ha : PA X [a, b] (rdAB X.K A wsl)) (hs : starEach [a, b] X.env = [(false, eval a X.env), (false, eval b X.env)] := by rfl) (hs2 : starEach [b] X.env = [(false, eval b X.env)] := by rfl) : PI X tg (.Call (.Name "range" p) [a, b] [] pos) (rdI X.K A (dC range2 wsl)) :=
  (pi_range2 hg hm ha hs hs2).imp fun σ H R h => by
    obtain ⟨G, env, Re, h⟩ := h
    refine ⟨G, env, Re, wp_imp (wp_bind.mp h) fun ds q vs G1 H1 e1 r1 => ?_⟩
    unfold range2 at q
    split at q
    · rename_i i j
      obtain ⟨v, u, rfl, r, r2⟩ := Paired.two r1
      split at q
      · rename_i hj
        exact ⟨i, j, by rw [r.int, r2.int], ⟨hj.1, hj.2.1, hj.2.2.1, hj.2.2.2.1⟩, q _ G1 H1 e1 ⟨_, yld_range i _, fun _ _ => trivial⟩ (by rw [rangeD_length, sizeLine_eq]; omega)⟩
      · exact q.elim
    · exact q.elim
def enumOf : List D → T (List D)
  | [.lst l] => .ret (enumD l)
  | [.tup l] => .ret (enumD l)
  | _ => .fail
theorem yld_enumT {a : Addr} {vs : List V} {ds : List D} (r : RpAll K G vs ds) : Yld K A (IteT K a) G (fun H => SqT K H a vs) (enumD ds) where
  go := fun i H1 h hi => ⟨vs, vs[i]'(by rw [r.length]; simpa using hi), h, by simp⟩
  stop := fun i H1 h hi => ⟨vs, h, by rw [r.length]; simpa using hi⟩
  item := fun i d G1 H1 x H2 e s h hd y => by
    obtain ⟨T, u, rfl, hT, rfl, y⟩ := y
    obtain ⟨z, hz, rfl⟩ := enumD_get hd
    obtain ⟨v, h1, h2⟩ := r.get hz
    have := y vs h
    rw [h1] at this
    cases this
    exact ⟨_, s.alloc hT, .tup (SqT.of upd_same) (.cons (.int _) (.cons ((h2.mono e).mono (Ex.new (s.gnone hT))) .nil))⟩
def zipOf : List D → T (List D)
  | [.lst l, .lst m] => .ret (zipD l m)
  | _ => .fail
variable {elts : List Expr} {kk : Nat} {tpos : Pos}
theorem Rq.stayL {v : V} {ds : List D} {pp : Addr} {vs : List V} (r : Rq K A G H (.ref pp) (.lst ds)) (h1 : H pp = some (.lst vs)) (s : St1 A G H) (e : Ext A G H G1 H1) : SqL K H1 pp vs := by
  cases r with
  | of rr => cases rr with | lst a b =>
    have := s.gh _ _ a
    rw [h1] at this
    cases this
    exact SqL.of (e.gh _ _ (e.gg _ _ a))
  | own a b c => rw [h1] at a; cases a; exact SqL.of (e.keep _ _ b h1)
theorem Rp.stayL {ds : List D} {pp : Addr} {vs : List V} (r : Rp K G (.ref pp) (.lst ds)) (h1 : H pp = some (.lst vs)) (g : Ex G H) (e : Ex G H1) : SqL K H1 pp vs := by
  cases r with
  | lst a b =>
    have := g _ _ a
    rw [h1] at this
    cases this
    exact SqL.of (e _ _ a)
theorem i_enumB (hg : Gl X "enumerate") (hm : X.mg "enumerate" = none) (ha : PA X [a] (rdAB X.K A wsl)) (hs : starEach [a] X.env = [(false, eval a X.env)] := by rfl) :
    PI X (.Tuple elts kk tpos) (.Call (.Name "enumerate" p) [a] [] pos) (rdIB X.K A (dC enumOf wsl)) := ((pi_enumA hg hm ha hs).hok).imp fun σ H R h => by
  obtain ⟨G, env, Re, h⟩ := h
  refine ⟨G, env, Re, wp_imp (wp_bind.mp h) fun ds q vs G1 H1 e1 r1 => ?_⟩
  unfold enumOf at q
  split at q
  · rename_i l
    obtain ⟨v, rfl, r⟩ := Paired.one r1
    obtain ⟨pp, us, rfl, h1, h2⟩ := r.lst e1.gh
    refine ⟨pp, us, rfl, .inl ⟨SqL.of h1, fun ⟨hp, ok, hk⟩ => q _ G1 H1 e1 ⟨_, yld_enum h2, fun G2 H2 e2 => r.stayL (v := .non) h1 e1.refl' e2⟩ ?_⟩⟩
    rw [enumD_length, ← h2.length]
    exact (ok pp _ h1).1
  · rename_i l
    obtain ⟨v, rfl, r⟩ := Paired.one r1
    cases r with
    | of r =>
      cases r with
      | @tup pp us _ a b =>
        refine ⟨pp, us, rfl, .inr ⟨Evl.ex_t e1.gh a, fun ⟨hp, ok, hk⟩ => q _ G1 H1 e1 ⟨_, yld_enumT b, fun G2 H2 e2 => Evl.ex_t (e2.gg.trans e2.gh) a⟩ ?_⟩⟩
        rw [enumD_length, ← b.length]
        exact sqT_len ok hk (Evl.ex_t e1.gh a)
    | own a b c => cases c
  · exact q.elim
theorem i_zipB (hg : Gl X "zip") (hm : X.mg "zip" = none) (ha : PA X [a, b] (rdAB X.K A wsl)) (hs : starEach [a, b] X.env = (false, eval a X.env) :: starEach [b] X.env := by rfl) (hpl : (backTo pos (starEach [b] X.env)).any (·.1) = false := by rfl) :
    PI X (.Tuple elts kk tpos) (.Call (.Name "zip" p) [a, b] [] pos) (rdIB X.K A (dC zipOf wsl)) := ((pi_zip hg hm ha hs hpl).hok).imp fun σ H R h => by
  obtain ⟨G, env, Re, h⟩ := h
  refine ⟨G, env, Re, wp_imp (wp_bind.mp h) fun ds q vs G1 H1 e1 r1 => ?_⟩
  unfold zipOf at q
  split at q
  · rename_i l m
    obtain ⟨v, u, rfl, r, r2⟩ := Paired.two r1
    obtain ⟨pp, us, rfl, h1, h2⟩ := r.lst e1.gh
    obtain ⟨pq, us2, rfl, h3, h4⟩ := r2.lst e1.gh
    refine ⟨pp, pq, us, us2, rfl, SqL.of h1, SqL.of h3, fun ⟨hp, ok, hk⟩ => q _ G1 H1 e1 ⟨_, yld_zip h2 h4, fun G2 H2 e2 => ⟨r.stayL (v := .non) h1 e1.refl' e2, r2.stayL (v := .non) h3 e1.refl' e2⟩⟩ ?_⟩
    rw [zipD_length, ← h2.length]
    exact Nat.le_trans (Nat.min_le_left _ _) (ok pp _ h1).1
  · exact q.elim
theorem i_enum {n : Nat} (hg : Gl X "enumerate") (hm : X.mg "enumerate" = none) (ha : PA X [a] (rdA X.K A n wsl)) (hs : starEach [a] X.env = [(false, eval a X.env)] := by rfl) :
    PI X (.Tuple elts kk tpos) (.Call (.Name "enumerate" p) [a] [] pos) (rdI X.K A (dC enumOf wsl)) := ((pi_enumA hg hm ha hs).hok).imp fun σ H R h => by
  obtain ⟨G, env, Re, h⟩ := h
  refine ⟨G, env, Re, wp_imp (wp_bind.mp h) fun ds q vs G1 H1 e1 r1 l1 => ?_⟩
  unfold enumOf at q
  split at q
  · rename_i l
    cases r1 with
    | cons r rr =>
      cases rr
      have r' := r
      cases r with
      | @lst pp us _ a b =>
        have h1 := e1.gh _ _ a
        refine ⟨pp, us, rfl, .inl ⟨SqL.of h1, fun ⟨hp, ok, hk⟩ => q _ G1 H1 e1 ⟨_, yld_enum b, fun H2 e2 => r'.stayL h1 e1.gh e2⟩ ?_⟩⟩
        rw [enumD_length, ← b.length]
        exact (ok pp _ h1).1
  · rename_i l
    cases r1 with
    | cons r rr =>
      cases rr
      cases r with
      | @tup pp us _ a b =>
        refine ⟨pp, us, rfl, .inr ⟨Evl.ex_t e1.gh a, fun ⟨hp, ok, hk⟩ => q _ G1 H1 e1 ⟨_, yld_enumT b, fun H2 e2 => Evl.ex_t e2 a⟩ ?_⟩⟩
        rw [enumD_length, ← b.length]
        exact sqT_len ok hk (Evl.ex_t e1.gh a)
  · exact q.elim
theorem i_zip {n : Nat} (hg : Gl X "zip") (hm : X.mg "zip" = none) (ha : PA X [a, b] (rdA X.K A n wsl)) (hs : starEach [a, b] X.env = (false, eval a X.env) :: starEach [b] X.env := by rfl) (hpl : (backTo pos (starEach [b] X.env)).any (·.1) = false := by rfl) :
    PI X (.Tuple elts kk tpos) (.Call (.Name "zip" p) [a, b] [] pos) (rdI X.K A (dC zipOf wsl)) := ((pi_zip hg hm ha hs hpl).hok).imp fun σ H R h => by
  obtain ⟨G, env, Re, h⟩ := h
  refine ⟨G, env, Re, wp_imp (wp_bind.mp h) fun ds q vs G1 H1 e1 r1 l1 => ?_⟩
  unfold zipOf at q
  split at q
  · rename_i l m
    cases r1 with
    | cons r rr =>
      cases rr with
      | cons r2 rr =>
        cases rr
        have r' := r
        have r2' := r2
        cases r with
        | @lst pp us _ a b =>
          cases r2 with
          | @lst pq us2 _ a2 b2 =>
            have h1 := e1.gh _ _ a
            have h2 := e1.gh _ _ a2
            refine ⟨pp, pq, us, us2, rfl, SqL.of h1, SqL.of h2, fun ⟨hp, ok, hk⟩ => q _ G1 H1 e1 ⟨_, yld_zip b b2, fun H2 e2 => ⟨r'.stayL h1 e1.gh e2, r2'.stayL h2 e1.gh e2⟩⟩ ?_⟩
            rw [zipD_length, ← b.length]
            exact Nat.le_trans (Nat.min_le_left _ _) (ok pp _ h1).1
  · exact q.elim

def forT (f : D → Env → Option Env) (body : Env → T Out) : List D → Env → T Out
  | [], env => T.ret (.nx env)
  | d :: r, env => match f d env with
    | none => T.fail
    | some env1 => body env1 >>= fun o => match o with
      | .nx env2 => forT f body r env2
      | .ct env2 => forT f body r env2
      | .bk env2 => T.ret (.nx env2)
      | .rt d => T.ret (.rt d)
def dFor (wi : Env → T (List D)) (f : D → Env → Option Env) (body : Env → T Out) : Env → T Out := fun env => wi env >>= fun ds => forT f body ds env
theorem s_for {iter : Expr} {wi : Env → T (List D)} {ts : List Nat} {f : D → Env → Option Env} (hp : PassesOwn (model X.prog X.w) X.A X.env X.xe) (hc : X.calm = true) (hi : PI X tg iter (rdI X.K A wi)) (hg : PG X tg (rdG X.K A ts f)) (hb : PSs X s1 (rdS X.K A ws1))
    (hs : ∀ x, foldedSetIterable iter X.env x = pure x := by intro _; rfl) : PS X (.For tg iter s1 [] pos) (rdS X.K A (dFor wi f ws1)) := (ps_for hp hc hi hg hb hs).imp fun Dn σ H h => by
  obtain ⟨G, env, Re, h⟩ := h
  refine ⟨G, env, Re, wp_imp (wp_bind.mp h) fun ds q J G1 H1 e1 ⟨Sr, y, st⟩ hz => ?_⟩
  refine ⟨fun i m σ' H' => m = ds.length - i ∧ i ≤ ds.length ∧ ∃ G' env', Ex G1 G' ∧ Rel X.K A G' σ' env' H' ∧ wp (forT f ws1 (ds.drop i) env') (EndOk X.K A G' Dn) A.E,
    ⟨ds.length, rfl, Nat.zero_le _, G1, env, Ex.refl _, Re.ext e1, wp_imp q fun o q => q.mono e1.gg⟩, ?_⟩
  rintro i m σ' H' ⟨rfl, hi, G', env', ex, R', h'⟩
  have sr : Sr H' := st H' (ex.trans R'.st.gh)
  by_cases hlt : i < ds.length
  · have ed : ds.drop i = ds[i] :: ds.drop (i + 1) := List.drop_eq_getElem_cons hlt
    rw [ed] at h'
    refine .inr ⟨y.go i H' sr hlt, fun σ2 H2 => ∃ G2 env2, Ex G1 G2 ∧ Rel X.K A G2 σ2 env2 H2 ∧ wp (forT f ws1 (ds.drop (i + 1)) env2) (EndOk X.K A G2 Dn) A.E,
      fun σ2 H2 hN => ⟨ds.length - (i + 1), by omega, rfl, hlt, hN⟩, fun x H2 hy => ?_⟩
    obtain ⟨G2, e2, r2⟩ := y.item i ds[i] G' H' x H2 ex R'.st sr (by simp) hy
    have R2 := R'.ext e2
    have h' : wp (match f ds[i] env' with
      | none => T.fail
      | some env1 => ws1 env1 >>= fun o => match o with
        | .nx env2 => forT f ws1 (ds.drop (i + 1)) env2
        | .ct env2 => forT f ws1 (ds.drop (i + 1)) env2
        | .bk env2 => T.ret (.nx env2)
        | .rt d => T.ret (.rt d)) (EndOk X.K A G' Dn) A.E := h'
    split at h'
    · exact h'.elim
    · rename_i env1 ef
      refine ⟨G2, env', ds[i], env1, R2, r2, ef, fun σ3 _ _ R3 => ⟨G2, env1, R3, wp_imp (wp_bind.mp h') fun o q => ?_⟩⟩
      cases o with
      | nx env2 => exact fun σ4 G4 H4 e4 R4 => ⟨G4, env2, (ex.trans e2.gg).trans e4, R4, wp_imp q fun o q => q.mono (e2.gg.trans e4)⟩
      | ct env2 => exact fun σ4 G4 H4 e4 R4 => ⟨G4, env2, (ex.trans e2.gg).trans e4, R4, wp_imp q fun o q => q.mono (e2.gg.trans e4)⟩
      | bk env2 => exact fun σ4 G4 H4 e4 R4 => q σ4 G4 H4 (e2.gg.trans e4) R4
      | rt d => exact q
  · have ei : i = ds.length := by omega
    subst ei
    rw [List.drop_length] at h'
    exact .inl ⟨y.stop _ H' sr (Nat.le_refl _), h' σ' G' H' (Ex.refl _) R'⟩

def whileT (t : Env → T Bool) (body : Env → T Out) : Nat → Env → T Out
  | 0, _ => T.fail
  | n + 1, env => t env >>= fun b => if b = true then body env >>= fun o => match o with
      | .nx env2 => whileT t body n env2
      | .ct env2 => whileT t body n env2
      | .bk env2 => T.ret (.nx env2)
      | .rt d => T.ret (.rt d)
    else T.ret (.nx env)
theorem s_while (n : Nat) (hp : PassesOwn (model X.prog X.w) X.A X.env X.xe) (hc : PT X c (rdT X.K A tc)) (hb : PSs X s1 (rdS X.K A ws1)) : PS X (.While c s1 [] pos) (rdS X.K A (whileT tc ws1 n)) := (ps_while hp hc hb).imp fun Dn σ H h => by
  obtain ⟨G, env, Re, h⟩ := h
  refine ⟨fun m σ' H' => ∃ G' env', Ex G G' ∧ Rel X.K A G' σ' env' H' ∧ wp (whileT tc ws1 m env') (EndOk X.K A G' Dn) A.E, ⟨n, G, env, Ex.refl _, Re, h⟩, ?_⟩
  rintro m σ' H' ⟨G', env', ex, R', h'⟩
  cases m with
  | zero => exact h'.elim
  | succ m =>
    refine ⟨G', env', R', wp_imp (wp_bind.mp h') fun b q G1 H1 e1 => ?_⟩
    cases b with
    | true =>
      refine ⟨fun σ2 H2 => ∃ G2 env2, Ex G G2 ∧ Rel X.K A G2 σ2 env2 H2 ∧ wp (whileT tc ws1 m env2) (EndOk X.K A G2 Dn) A.E, fun σ2 H2 hN => ⟨m, Nat.lt_succ_self m, hN⟩, G1, env', R'.ext e1, ?_⟩
      refine wp_imp (wp_bind.mp (show wp (ws1 env' >>= fun o => match o with
        | .nx env2 => whileT tc ws1 m env2
        | .ct env2 => whileT tc ws1 m env2
        | .bk env2 => T.ret (.nx env2)
        | .rt d => T.ret (.rt d)) (EndOk X.K A G' Dn) A.E from q)) fun o q => ?_
      cases o with
      | nx env2 => exact fun σ4 G4 H4 e4 R4 => ⟨G4, env2, (ex.trans e1.gg).trans e4, R4, wp_imp q fun o q => q.mono (e1.gg.trans e4)⟩
      | ct env2 => exact fun σ4 G4 H4 e4 R4 => ⟨G4, env2, (ex.trans e1.gg).trans e4, R4, wp_imp q fun o q => q.mono (e1.gg.trans e4)⟩
      | bk env2 => exact fun σ4 G4 H4 e4 R4 => q σ4 G4 H4 (e1.gg.trans e4) R4
      | rt d => exact q
    | false => exact q σ' G1 H1 e1.gg (R'.ext e1)
end
end Eng

namespace Eng
open PySem PySem.Spec PyProof.Rows L2
open Evl (Ex)
variable {K : PySem.W.Frag} {A : Act} {G H G' H' G1 H1 G2 H2 : Hp}

def wipeE (env : Env) : List Nat → Env
  | [] => env
  | v :: vs => (wipeE env vs).set v .un
theorem Rel.un {σ : L2.St} {env : Env} (R : Rel K A G σ env H) (i : Nat) : Rel K A G (σ.set i none) (env.set i .un) H where
  e0 := R.e0
  gf := R.gf
  len := by rw [List.length_set, List.length_set]; exact R.len
  sl := fun j s hj => by
    by_cases e : i = j
    · subst e
      rw [List.getElem?_set_self'] at hj
      cases q : env[i]? with
      | none => rw [q] at hj; cases hj
      | some u => rw [q] at hj; cases hj; trivial
    · rw [List.getElem?_set_ne e] at hj
      have z := R.sl j s hj
      cases s with
      | un => trivial
      | val d' => obtain ⟨u, h1, h2⟩ := z; exact ⟨u, by rw [List.getElem?_set_ne e]; exact h1, h2⟩
      | own d' => obtain ⟨u, h1, h2⟩ := z; exact ⟨u, by rw [List.getElem?_set_ne e]; exact h1, h2⟩
  ap := fun j k p d' e' hj hk h1 h2 => by
    have nj : i ≠ j := fun e => by
      subst e
      rw [List.getElem?_set_self'] at hj
      cases q : env[i]? with
      | none => rw [q] at hj; cases hj
      | some u => rw [q] at hj; cases hj
    have nk : i ≠ k := fun e => by
      subst e
      rw [List.getElem?_set_self'] at hk
      cases q : env[i]? with
      | none => rw [q] at hk; cases hk
      | some u => rw [q] at hk; cases hk
    rw [List.getElem?_set_ne nj] at hj h1
    rw [List.getElem?_set_ne nk] at hk h2
    exact R.ap j k p d' e' hj hk h1 h2
theorem Rel.wipe {σ : L2.St} {env : Env} (R : Rel K A G σ env H) : ∀ vs : List Nat, Rel K A G (L2.wipe σ vs) (wipeE env vs) H
  | [] => R
  | v :: vs => (Rel.wipe R vs).un v
theorem wipe_get (σ : L2.St) (j : Nat) : ∀ vs : List Nat, (L2.wipe σ vs)[j]? = if j ∈ vs then (if j < σ.length then some none else none) else σ[j]?
  | [] => by simp [L2.wipe]
  | v :: vs => by
    unfold L2.wipe
    have l := wipe_length σ vs
    by_cases e : v = j
    · subst e
      rw [if_pos List.mem_cons_self]
      by_cases hl : v < σ.length
      · rw [if_pos hl, List.getElem?_set_self (by rw [l]; exact hl)]
      · rw [if_neg hl, List.getElem?_eq_none (by rw [List.length_set, l]; omega)]
    · rw [List.getElem?_set_ne e, wipe_get σ j vs]
      by_cases hm : j ∈ vs
      · rw [if_pos hm, if_pos (List.mem_cons_of_mem _ hm)]
      · rw [if_neg hm, if_neg (fun z => (List.mem_cons.mp z).elim (fun z => e z.symm) hm)]
theorem wipe_eq {σ τ : L2.St} {ts vs : List Nat} (hl : σ.length = τ.length) (h : ∀ j, j ∉ ts → σ[j]? = (L2.wipe τ vs)[j]?) (hs : ∀ j ∈ ts, j ∈ vs) : L2.wipe σ vs = L2.wipe τ vs := by
  apply List.ext_getElem?
  intro j
  rw [wipe_get, wipe_get]
  by_cases hj : j ∈ vs
  · rw [if_pos hj, if_pos hj, hl]
  · rw [if_neg hj, if_neg hj, h j fun z => hj (hs j z), wipe_get, if_neg hj]

def compT {α : Type} (f : D → Env → Option Env) (t : Env → T Bool) (w : Env → T α) (env : Env) : List D → T (List α)
  | [] => T.ret []
  | d :: r => match f d env with
    | none => T.fail
    | some env1 => t env1 >>= fun b => if b = true then (w env1 >>= fun y => compT f t w env r >>= fun ys => T.ret (y :: ys)) else compT f t w env r
def dComp (wi : Env → T (List D)) (f : D → Env → Option Env) (t : Env → T Bool) (w : Env → T D) (vs : List Nat) : Env → T (List D) := fun env => wi env >>= fun ds => compT f t w (wipeE env vs) ds
theorem tLc_N {wi : Env → T (List D)} {f : D → Env → Option Env} {t : Env → T Bool} {w : Env → T D} {ts vs : List Nat} {σ : L2.St} {Q : VK} (hs : ∀ j ∈ ts, j ∈ vs) (h : rdN K A (dComp wi f t w vs) σ H Q) :
    tLc (rdIB K A wi) (rdG K A ts f) (rdT K A t) (rd K A w) vs σ H Q := by
  obtain ⟨G, env, Re, h⟩ := h
  refine ⟨G, env, Re, wp_imp (wp_bind.mp h) fun ds q J G1 H1 e1 ⟨Sr, y, st⟩ hz Dl hD => ?_⟩
  have nfD : ¬ A.F Dl := e1.refl'.nf hD
  refine ⟨fun i m H' => m = ds.length - i ∧ i ≤ ds.length ∧ ∃ G' accV accD, Ext A G1 H1 G' H' ∧ G' Dl = none ∧ H' Dl = some (.lst accV) ∧ RpAll K G' accV accD ∧ accD.length ≤ i ∧
      wp (compT f t w (wipeE env vs) (ds.drop i)) (fun rest => ∀ p vs G'' H'', Ext A G H G'' H'' → H p = none → G'' p = none → H'' p = some (.lst vs) → RpAll K G'' vs (accD ++ rest) → Q (.ref p) H'') A.E,
    ⟨ds.length, rfl, Nat.zero_le _, G1, [], [], e1.refl'.allocO hD, e1.refl'.gnone hD, upd_same, .nil, Nat.zero_le _, wp_imp q fun rest q => q⟩, ?_⟩
  rintro i m H' ⟨rfl, hi, G', accV, accD, e', gD, hDl, ra, la, h'⟩
  have sr : Sr H' := st G' H' e'
  have R' : Rel K A G' σ env H' := (Re.ext e1).ext e'
  by_cases hlt : i < ds.length
  · have ed : ds.drop i = ds[i] :: ds.drop (i + 1) := List.drop_eq_getElem_cons hlt
    rw [ed] at h'
    refine .inr ⟨y.go i H' sr hlt, fun H2 => ∃ G' accV accD, Ext A G1 H1 G' H2 ∧ G' Dl = none ∧ H2 Dl = some (.lst accV) ∧ RpAll K G' accV accD ∧ accD.length ≤ i + 1 ∧
      wp (compT f t w (wipeE env vs) (ds.drop (i + 1))) (fun rest => ∀ p vs G'' H'', Ext A G H G'' H'' → H p = none → G'' p = none → H'' p = some (.lst vs) → RpAll K G'' vs (accD ++ rest) → Q (.ref p) H'') A.E,
      fun H2 hN => ⟨ds.length - (i + 1), by omega, rfl, hlt, hN⟩, fun x H2 hy => ?_⟩
    obtain ⟨G2, e2, r2⟩ := y.item i ds[i] G' H' x H2 e'.gg R'.st sr (by simp) hy
    have R2 := (R'.ext e2).wipe vs
    have h' : wp (match f ds[i] (wipeE env vs) with
      | none => T.fail
      | some env1 => t env1 >>= fun b => if b = true then (w env1 >>= fun y => compT f t w (wipeE env vs) (ds.drop (i + 1)) >>= fun ys => T.ret (y :: ys)) else compT f t w (wipeE env vs) (ds.drop (i + 1))) _ A.E := h'
    have stay : ∀ {G3 H3}, Ext A G' H' G3 H3 → G3 Dl = none ∧ H3 Dl = some (.lst accV) := fun {G3 H3} e3 => by
      refine ⟨?_, e3.keep _ _ nfD hDl⟩
      cases q : G3 Dl with
      | none => rfl
      | some u =>
        rcases e3.new _ _ q with z | z
        · rw [gD] at z; cases z
        · rw [hDl] at z; cases z
    split at h'
    · exact h'.elim
    · rename_i env1 ef
      refine ⟨G2, _, ds[i], env1, R2, r2, ef, fun σ3 k3 l3 R3 => ⟨wipe_eq (by rw [l3, wipe_length]) k3 hs, G2, env1, R3, wp_imp (wp_bind.mp h') fun b q G3 H3 e3 => ?_⟩⟩
      cases b with
      | true =>
        refine ⟨G3, env1, R3.ext e3, wp_imp (wp_bind.mp (show wp (w env1 >>= fun y => compT f t w (wipeE env vs) (ds.drop (i + 1)) >>= fun ys => T.ret (y :: ys)) _ A.E from q)) fun d q v G4 H4 e4 r4 => ?_⟩
        have e5 := (e2.trans e3).trans e4
        obtain ⟨s1, s2⟩ := stay e5
        refine ⟨accV, s2, by rw [ra.length]; omega, G4, accV ++ [v], accD ++ [d], ?_, s1, upd_same, (ra.mono e5.gg).append (.cons r4 .nil), by rw [List.length_append]; simpa using la, wp_imp (wp_bind.mp q) fun rest q p us G5 H5 a1 a2 a3 a4 a5 => q p us G5 H5 a1 a2 a3 a4 (by rw [List.append_assoc] at a5; exact a5)⟩
        have e6 := e'.trans e5
        refine ⟨e6.gg, fun a u hu => ?_, fun a u hf hu => ?_, e6.new, e6.si0, Ext.si_upd e6.si nfD⟩
        · rw [upd_ne (ne_of_none hu s1)]; exact e6.gh a u hu
        · rw [upd_ne (ne_of_none hu hD)]; exact e6.keep a u hf hu
      | false =>
        have e5 := e2.trans e3
        obtain ⟨s1, s2⟩ := stay e5
        exact ⟨G3, accV, accD, e'.trans e5, s1, s2, ra.mono e5.gg, Nat.le_succ_of_le la, q⟩
  · have ei : i = ds.length := by omega
    subst ei
    rw [List.drop_length] at h'
    refine .inl ⟨y.stop _ H' sr (Nat.le_refl _), ?_⟩
    exact h' Dl accV G' H' (e1.trans e') (e1.dn hD) gD hDl (by rw [List.append_nil]; exact ra)
section
variable {X : Cx} {a b c e : Expr} {w : Env → T D} {pos pos' : Pos} {x : Str}
theorem _root_.L2.PTs.imp {ifs : List Expr} {t t' : TT} (h : PTs X ifs t) (i : ∀ σ H Q, t' σ H Q → t σ H Q) : PTs X ifs t' := ⟨fun pins s σ H Q I q => h.run pins s σ H Q I (i σ H Q q)⟩
theorem ts_nil : PTs X [] (rdT X.K A fun _ => T.ret true) := pts_nil.imp fun σ H Q h => by
  obtain ⟨G, env, R, h⟩ := h
  exact h G H R.st
theorem ts_one {t : Env → T Bool} (h : PT X c (rdT X.K A t)) : PTs X [c] (rdT X.K A t) := pts_one h
theorem r_lc {elt tg iter : Expr} {ifs : List Expr} {scope : Scope} {own : List (Str × Nat)} {wi : Env → T (List D)} {f : D → Env → Option Env} {t : Env → T Bool} {ts : List Nat} (hc : X.calm = true) (hN : X.N.Nodup) (ok : BlkOk X.N X.env.scope scope own) (hi : PI X tg iter (rdIB X.K A wi)) (hts : ∀ j ∈ ts, j ∈ own.map (·.2))
    (hg : ∀ (s : Shared) (H : Hp) (C : Addr) (cl : List (Str × Addr)) (fp : List Addr), PG (X.blk s H scope (compEnvC scope cl C X.env) fp) tg (rdG X.K A ts f)) (ht : ∀ (s : Shared) (H : Hp) (C : Addr) (cl : List (Str × Addr)) (fp : List Addr), PTs (X.blk s H scope (compEnvC scope cl C X.env) fp) ifs (rdT X.K A t))
    (he : ∀ (s : Shared) (H : Hp) (C : Addr) (cl : List (Str × Addr)) (fp : List Addr), PE (X.blk s H scope (compEnvC scope cl C X.env) fp) elt (rd X.K A w)) (hs : ∀ x, foldedSetIterable iter X.env x = pure x := by intro _; rfl) :
    PE X (.ListComp elt [⟨tg, iter, ifs, 0⟩] scope pos) (rdN X.K A (dComp wi f t w (own.map (·.2)))) := (pe_lc hc hN hi ok hg ht he hs).imp fun _ _ _ => tLc_N hts
/-- y = [..] on one line, y a local name -/
theorem s_ownLc (i : Nat) {y : Str} {py : Pos} {spos : Pos} {elt tg iter : Expr} {ifs : List Expr} {scope : Scope} {own : List (Str × Nat)} {wi : Env → T (List D)} {f : D → Env → Option Env} {t : Env → T Bool} {ts : List Nat} (hc : X.calm = true) (hN : X.N.Nodup) (hy : X.N[i]? = some y) (hyl : X.env.scope.names.lookup y = some .local)
    (hsw : swapsWith (.ListComp elt [⟨tg, iter, ifs, 0⟩] scope pos) (some (.Name y py)) spos.line X.env = pure true) (ok : BlkOk X.N X.env.scope scope own) (hi : PI X tg iter (rdIB X.K A wi)) (hts : ∀ j ∈ ts, j ∈ own.map (·.2))
    (hg : ∀ (s : Shared) (H : Hp) (C : Addr) (cl : List (Str × Addr)) (fp : List Addr), PG (X.blk s H scope (compEnvC scope cl C X.env) fp) tg (rdG X.K A ts f)) (ht : ∀ (s : Shared) (H : Hp) (C : Addr) (cl : List (Str × Addr)) (fp : List Addr), PTs (X.blk s H scope (compEnvC scope cl C X.env) fp) ifs (rdT X.K A t))
    (he : ∀ (s : Shared) (H : Hp) (C : Addr) (cl : List (Str × Addr)) (fp : List Addr), PE (X.blk s H scope (compEnvC scope cl C X.env) fp) elt (rd X.K A w)) (hs : ∀ x, foldedSetIterable iter X.env x = pure x := by intro _; rfl) :
    PS X (.Assign [.Name y py] (.ListComp elt [⟨tg, iter, ifs, 0⟩] scope pos) spos) (rdS X.K A (dOwn i (dComp wi f t w (own.map (·.2))))) := (ps_setLc hc hN hy hyl hsw hi ok hg ht he hs).imp fun Dn σ H h => tLc_N (Q := fun x H1 => gName i x σ H1 Dn.nx) hts (by
  obtain ⟨G, env, R, h⟩ := h
  refine ⟨G, env, R, wp_imp (wp_bind.mp h) fun ds h1 p vs G1 H1 e1 hp hg hl r1 => ?_⟩
  exact h1 _ G1 H1 e1.gg ((R.ext e1).setO ⟨⟨_, hl, .lst r1⟩, hg, R.h0 hp, R.st.nf hp⟩ (R.fresh hp)))
end
end Eng

namespace Eng
open PySem PySem.Spec PyProof.Rows L2
open Evl (Ex)
/-- FnOk where no guarded built-in runs around -/
structure FnG (P : Program) (w : World) (K : PySem.W.Frag) (mg : Str → Option Value) (base : Heap) (k : Nat) (f : Addr) (fd : FuncData) (ps : List Str) (sp : Sp) : Prop where
  len : ∀ vs H Q E, sp vs H Q E → vs.length = ps.length
  run : ∀ (A : Around) (outer : List PySem.Env) (s : Shared) (H : Hp) (args : Args) (us : List Value) (vs : List V) (Q : VK) (E : XK), Room k A → A.guards = some [] → Env0 P w K mg base A outer s H → BindsTo s fd args (ps.zip us) → Vals vs us → sp vs H Q E →
    codeAny (model P w) A (.call (.ref f) args) (CR CX0 outer P w H s Q E) s
theorem FnG.mono {P : Program} {w : World} {K : PySem.W.Frag} {mg : Str → Option Value} {base : Heap} {j k : Nat} {f : Addr} {fd : FuncData} {ps : List Str} {sp : Sp} (F : FnG P w K mg base j f fd ps sp) (h : j ≤ k) : FnG P w K mg base k f fd ps sp :=
  ⟨F.len, fun A outer s H args us vs Q E hr => F.run A outer s H args us vs Q E (hr.mono h)⟩
theorem fnG_of {P : Program} {w : World} {K : PySem.W.Frag} {mg : Str → Option Value} {base : Heap} {k : Nat} {f : Addr} {name qual : Str} {params : Arguments} {body : List Stmt} {scope : Scope} {dV kV doc pm cdv ct oc : Value} {an od : Option Addr}
    {osl : Array (Option Value)} {N ps : List Str} {sp : Sp} (lk : K.lookup f = some ⟨oc, od, .func (PySem.W.fnOf name qual params body scope dV kV doc pm an cdv ct), osl⟩) (hcd : PySem.W.codeIn K cdv qual = true) (S : FnScope N ps scope)
    (len : ∀ vs H Q E, sp vs H Q E → vs.length = ps.length)
    (hbody : ∀ (A : Around) (outer : List PySem.Env) (s : Shared) (H : Hp) (vs : List V) (Q : VK) (E : XK), Room k (A.deeper (envOfC qual scope s.heap.objs.size f cdv)) → A.guards = some [] → sp vs H Q E →
      ∃ t, PSs (cxOf CX0 P w K mg base N qual scope f cdv A outer s H E).nox body t ∧ t { nx := fun _ H' => Q .non H', rt := Q } (L2.start N vs) H) :
    FnG P w K mg base (k + 1) f (PySem.W.fnOf name qual params body scope dV kV doc pm an cdv ct) ps sp := by
  refine ⟨len, fun A outer s H args us vs Q E hr hgd e0 hb r hsp => ?_⟩
  have hl := len _ _ _ _ hsp
  have KX : K.In s.heap := e0.mod.kin.keeps fun b o e => (e0.bs b o e).1
  have lim : s.heap.NoLimit := e0.mod.nolimit.keeps fun b o e => (e0.bs b o e).1
  have hkind : ∀ y ∈ ps.zip us, scope.names.lookup y.1 = some .local ∨ (scope.names.lookup y.1 = some .cell ∧ ((cellsFrom (s.heap.objs.size + 1) scope.names []).lookup y.1).isSome = true) := fun ⟨n, v⟩ hy => by
    rcases S.par n (List.of_mem_zip hy).1 with q | q
    · exact .inl q
    · exact .inr ⟨q, PySem.W.cellsFrom_some _ _ _ (.inl q)⟩
  refine codeAny_call_function hr.depth (KX _ _ lk) rfl S.co S.gen rfl (PySem.W.codeRec_of KX hcd) (hb _ _ _ _ ?_)
  refine wpAny_newFunctionEnv_cells S.kind hkind fun env he s1 x => ?_
  subst he
  refine ⟨lim.keeps x.toInCall.keep, codeAny_func ?_⟩
  obtain ⟨t, ht, hq⟩ := hbody A outer s H vs Q E (hr.deeper _) hgd hsp
  have I : Inv (cxOf CX0 P w K mg base N qual scope f cdv A outer s H E) [] (L2.start N vs) H s1 := inv_start S hr.hd e0 hl r x
  refine wpAny_mono (ht.nox.run [] s1 (L2.start N vs) H _ I hq) (fun fl s' hs => ?_) fun e s' hs => hs
  have fin : ∀ {σ' : L2.St} {H' : Hp} {v : V} {u : Value}, Inv (cxOf CX0 P w K mg base N qual scope f cdv A outer s H E) [] σ' H' s' → RelV v u → Q v H' → CE outer P w H s Q u s' :=
    fun {σ' H' v u} J rv q => ⟨v, H', J.os, J.bare, J.base, J.hok, rv, q⟩
  cases fl with
  | ret u =>
    obtain ⟨v, σ', H', J, rv, q⟩ := hs
    exact fin J rv q
  | next =>
    obtain ⟨σ', H', J, q⟩ := hs
    exact fin (v := V.non) (u := Value.none) J rfl q
  | brk =>
    obtain ⟨_, _, _, q⟩ := hs
    exact False.elim q
  | cont =>
    obtain ⟨_, _, _, q⟩ := hs
    exact False.elim q

abbrev APr := (Addr → Prop) → (Hp → Prop) → Prop
def spG (K : PySem.W.Frag) (PX : APr) (np : Nat) (fT : List D → T D) : Sp := fun vs H Q _ => vs.length = np ∧ ∃ (A : Act) (G : Hp) (ds : List D), PX A.F A.SI ∧ St1 A G H ∧ (∀ a, A.F a → G a = none) ∧ RpAll K G vs ds ∧
  wp (fT ds) (fun d => ∀ v G' H', Ext A G H G' H' → Rp K G' v d → Q v H') (fun _ _ => False)
/-- a def of the text, its function upon data -/
structure DefG (P : Program) (w : World) (K : PySem.W.Frag) (mg : Str → Option Value) (base : Heap) (PX : APr) (k : Nat) (x : Str) (st : Stmt) (ps : List Str) (fT : List D → T D) : Prop where
  ex : ∃ f fd, mg x = some (.ref f) ∧ FunD K x x (defArgs st) (defBody st) (defScope st) [] [] f fd ∧ FnG P w K mg base k f fd ps (spG K PX ps.length fT)
  bn : ∀ (kV doc pm : Value) (an : Option Addr) (cdv ct : Value) (us : List Value), us.length = ps.length → bindArgs (PySem.W.fnOf x x (defArgs st) (defBody st) (defScope st) .none kV doc pm an cdv ct) ⟨us, []⟩ = pure (ps.zip us)
theorem DefG.mono {P : Program} {w : World} {K : PySem.W.Frag} {mg : Str → Option Value} {base : Heap} {PX : APr} {j k : Nat} {x : Str} {st : Stmt} {ps : List Str} {fT : List D → T D} (F : DefG P w K mg base PX j x st ps fT) (h : j ≤ k) : DefG P w K mg base PX k x st ps fT := by
  obtain ⟨f, fd, h1, h2, h3⟩ := F.ex
  exact ⟨⟨f, fd, h1, h2, h3.mono h⟩, F.bn⟩
/-- where a def stands: a fact of the head -/
structure At (K : PySem.W.Frag) (mg : Str → Option Value) (x : Str) (st : Stmt) : Prop where
  ex : ∃ f fd, mg x = some (.ref f) ∧ FunD K x x (defArgs st) (defBody st) (defScope st) [] [] f fd
def startE (n : Nat) (ds : List D) : Env := ds.map Sl.val ++ List.replicate (n - ds.length) Sl.un
def bodyT (n : Nat) (w : Env → T Out) (ds : List D) : T D := w (startE n ds) >>= fun o => match o with
  | .nx _ => T.ret .non
  | .rt d => T.ret d
  | _ => T.fail
section
variable {P : Program} {w : World} {K : PySem.W.Frag} {mg : Str → Option Value} {base : Heap} {PX : APr}
theorem rel_start {A : Act} {G H : Hp} {N : List Str} {vs : List V} {ds : List D} (s : St1 A G H) (e0 : A.G0 = G) (e1 : A.H0 = H) (hf : ∀ a, A.F a → G a = none) (r : RpAll K G vs ds) (hl : vs.length ≤ N.length) : Rel K A G (L2.start N vs) (startE N.length ds) H where
  e0 := by rw [e0, e1]; exact s
  gf := hf
  len := by
    unfold startE L2.start
    rw [List.length_append, List.length_append, List.length_map, List.length_map, List.length_replicate, List.length_replicate, r.length]
  sl := fun i sl h => by
    unfold startE at h
    unfold L2.start
    by_cases hi : i < ds.length
    · rw [List.getElem?_append_left (by simpa using hi), List.getElem?_map] at h
      cases q : ds[i]? with
      | none => rw [q] at h; cases h
      | some d =>
        rw [q] at h
        cases h
        obtain ⟨v, h1, h2⟩ := r.get q
        exact ⟨v, by rw [List.getElem?_append_left (by rw [List.length_map, r.length]; exact hi), List.getElem?_map, h1] <;> rfl, h2⟩
    · rw [List.getElem?_append_right (by simpa using hi), List.getElem?_replicate] at h
      split at h
      · cases h; trivial
      · cases h
  ap := fun i j p d e hi => by
    exfalso
    unfold startE at hi
    by_cases hl : i < ds.length
    · rw [List.getElem?_append_left (by simpa using hl), List.getElem?_map] at hi
      cases q : ds[i]? with
      | none => rw [q] at hi; cases hi
      | some d => rw [q] at hi; cases hi
    · rw [List.getElem?_append_right (by simpa using hl), List.getElem?_replicate] at hi
      split at hi <;> cases hi
/-- THE RULE for a def -/
theorem DefG.mk' {k : Nat} {x : Str} {st : Stmt} {N ps : List Str} {wb : Env → T Out} (at_ : At K mg x st) (S : FnScope N ps (defScope st))
    (bn : ∀ (kV doc pm : Value) (an : Option Addr) (cdv ct : Value) (us : List Value), us.length = ps.length → bindArgs (PySem.W.fnOf x x (defArgs st) (defBody st) (defScope st) .none kV doc pm an cdv ct) ⟨us, []⟩ = pure (ps.zip us))
    (hbody : ∀ (f : Addr) (cdv : Value) (Ar : Around) (outer : List PySem.Env) (s : Shared) (H : Hp) (E : XK), Room k (Ar.deeper (envOfC x (defScope st) s.heap.objs.size f cdv)) → (Ar.deeper (envOfC x (defScope st) s.heap.objs.size f cdv)).guards = some [] →
      ∀ A : Act, PX A.F A.SI → (∀ c d, ¬ A.E c d) → PSs (cxOf CX0 P w K mg base N x (defScope st) f cdv Ar outer s H E).nox (defBody st) (rdS K A wb)) :
    DefG P w K mg base PX (k + 1) x st ps (bodyT N.length wb) := by
  obtain ⟨f, fd, h1, F⟩ := at_.ex
  refine ⟨⟨f, fd, h1, F, ?_⟩, bn⟩
  obtain ⟨oc, od, dV, kV, doc, pm, an, cdv, ct, osl, rfl, lk, hcd, _, _⟩ := F.ex
  refine fnG_of lk hcd S (fun vs H Q E h => h.1) fun Ar outer s H vs Q E hr hg h => ?_
  obtain ⟨hl, A, G, ds, pa, s1, hf, r, hw⟩ := h
  have hpl : ps.length ≤ N.length := by have := congrArg List.length S.pre; rw [List.length_take] at this; omega
  refine ⟨_, hbody f cdv Ar outer s H E hr hg ⟨A.F, A.SI, A.loc, A.dom, G, H, fun _ _ => False⟩ pa (fun _ _ h => h), G, startE N.length ds,
    rel_start ⟨s1.gg, s1.gh, s1.keep, s1.new, s1.si0, s1.si⟩ rfl rfl hf r (by rw [hl]; exact hpl), ?_⟩
  refine wp_mono (wp_bind.mp hw) (fun o q => ?_) fun _ _ h => h
  cases o with
  | nx env => exact fun σ' G' H' e R => q .non G' H' ⟨R.e0.gg, R.e0.gh, R.e0.keep, R.e0.new, R.e0.si0, R.e0.si⟩ .non
  | rt d => exact fun v G' H' e r => q v G' H' ⟨e.gg, e.gh, e.keep, e.new, e.si0, e.si⟩ r
  | bk env => exact q.elim
  | ct env => exact q.elim
/-- nothing is promised -/
theorem DefG.zero {x : Str} {st : Stmt} {ps : List Str} (at_ : At K mg x st)
    (bn : ∀ (kV doc pm : Value) (an : Option Addr) (cdv ct : Value) (us : List Value), us.length = ps.length → bindArgs (PySem.W.fnOf x x (defArgs st) (defBody st) (defScope st) .none kV doc pm an cdv ct) ⟨us, []⟩ = pure (ps.zip us)) :
    DefG P w K mg base PX 0 x st ps (fun _ => T.fail) := by
  obtain ⟨f, fd, h1, F⟩ := at_.ex
  refine ⟨⟨f, fd, h1, F, ⟨fun vs H Q E h => h.1, fun A outer s H args us vs Q E hr hg e0 hb r hsp => ?_⟩⟩, bn⟩
  obtain ⟨_, _, _, _, _, _, _, _, h⟩ := hsp
  exact h.elim
/-- another function upon data with the same ends -/
theorem DefG.as {k : Nat} {x : Str} {st : Stmt} {ps : List Str} {fT gT : List D → T D} (F : DefG P w K mg base PX k x st ps fT) (h : ∀ ds (Q : D → Prop), wp (gT ds) Q (fun _ _ => False) → wp (fT ds) Q (fun _ _ => False)) : DefG P w K mg base PX k x st ps gT := by
  obtain ⟨f, fd, h1, h2, h3⟩ := F.ex
  refine ⟨⟨f, fd, h1, h2, ⟨fun vs H Q E h => h.1, fun A outer s H args us vs Q E hr hg e0 hb r hsp => h3.run A outer s H args us vs Q E hr hg e0 hb r ?_⟩⟩, F.bn⟩
  obtain ⟨a, A, G, ds, b, c, d, e, f⟩ := hsp
  exact ⟨a, A, G, ds, b, c, d, e, h _ _ f⟩
end

/-- the parameters' values, of the written ones and the keywords' -/
def pick {α : Type} (o : List Nat) (l : List α) : List α := o.filterMap (l[·]?)
theorem Vals.pick {vs : List V} {us : List Value} (r : Vals vs us) : ∀ o : List Nat, Vals (Eng.pick o vs) (Eng.pick o us)
  | [] => .nil
  | i :: o => by
    unfold Eng.pick
    rw [List.filterMap_cons, List.filterMap_cons]
    cases q : vs[i]? with
    | none => rw [r.none_of q]; exact Vals.pick r o
    | some v =>
      obtain ⟨u, h1, h2⟩ := r.get q
      rw [h1]
      exact .cons h2 (Vals.pick r o)
theorem RpAll.pick {K : PySem.W.Frag} {G : Hp} {vs : List V} {ds : List D} (r : RpAll K G vs ds) : ∀ o : List Nat, RpAll K G (Eng.pick o vs) (Eng.pick o ds)
  | [] => .nil
  | i :: o => by
    unfold Eng.pick
    rw [List.filterMap_cons, List.filterMap_cons]
    cases q : vs[i]? with
    | none =>
      have : ds[i]? = none := by
        rw [List.getElem?_eq_none_iff] at q ⊢
        rw [← r.length]; exact q
      rw [this]
      exact RpAll.pick r o
    | some v =>
      obtain ⟨d, h1, h2⟩ := r.getV q
      rw [h1]
      exact .cons h2 (RpAll.pick r o)
structure KwB (x : Str) (st : Stmt) (ps : List Str) (n : Nat) (ks : List Str) (o : List Nat) : Prop where
  to : ∀ (kV doc pm : Value) (an : Option Addr) (cdv ct : Value) (us ws : List Value), us.length = n → ws.length = ks.length →
    bindArgs (PySem.W.fnOf x x (defArgs st) (defBody st) (defScope st) .none kV doc pm an cdv ct) ⟨us, ks.zip ws⟩ = pure (ps.zip (pick o (us ++ ws)))
section
variable {X : Cx} {A : Act} {PX : APr} {k m n : Nat} {x : Str} {st : Stmt} {ps ks : List Str} {fT : List D → T D} {p pos apos : Pos} {e : Expr} {es : List Expr} {kws : List Keyword} {ws zs : Env → T (List D)} {o : List Nat}
theorem run_fnG {f : Addr} {fd : FuncData} {sp : Sp} {args : Args} {pins : List (Addr × Obj)} {σ : L2.St} {H : Hp} {s : Shared} {Q : VK} {us : List Value} {vs : List V} {E : XK} (F : FnG X.prog X.w X.K X.mg X.base k f fd ps sp) (hr : Room k X.A) (hg : X.A.guards = some [])
    (I : Inv X pins σ H s) (hb : BindsTo s fd args (ps.zip us)) (r : Vals vs us) (h : sp vs H Q E) : wpAny (model X.prog X.w) X.A (call (.ref f) args.pos args.kw) (EP X pins σ Q) X.xe s := by
  refine wpAny_call (codeAny_mono (F.run X.A X.stack s H args us vs Q E hr hg I.env0 hb r h) fun r s' hq => ?_)
  cases r with
  | error e => exact hq.elim
  | ok fl =>
    cases fl with
    | ret u => exact I.after hq
    | next => exact False.elim hq
    | brk => exact False.elim hq
    | cont => exact False.elim hq
theorem spG_of {G H : Hp} {vs : List V} {ds : List D} {Q : VK} {E : XK} (hA : PX A.F A.SI) (hE : ∀ c d, ¬ A.E c d) (s : St1 A G H) (hf : ∀ a, A.F a → G a = none) (r : RpAll X.K G vs ds) (hl : vs.length = n)
    (h : wp (fT ds) (fun d => ∀ v G' H', Ext A G H G' H' → Rp X.K G' v d → Q v H') A.E) : spG X.K PX n fT vs H Q E :=
  ⟨hl, A, G, ds, hA, s, hf, r, wp_mono h (fun _ q => q) fun c d z => hE c d z⟩
theorem r_call (F : DefG X.prog X.w X.K X.mg X.base PX k x st ps fT) (hr : Room k X.A) (hgd : X.A.guards = some []) (hA : PX A.F A.SI) (hE : ∀ c d, ¬ A.E c d) (hg : Gl X x) (ha : PA X (e :: es) (rdA X.K A ps.length ws)) (hdb : (x == ("__debug__" : Str)) = false := by decide)
    (he : starEach (e :: es) X.env = (false, eval e X.env) :: starEach es X.env := by rfl) (hpl : (backTo pos (starEach es X.env)).any (·.1) = false := by rfl) : PE X (.Call (.Name x p) (e :: es) [] pos) (rd X.K A (dC fT ws)) := by
  obtain ⟨f, fd, hm, FD, FG⟩ := F.ex
  refine ⟨fun pins s σ H Q I h => ?_⟩
  obtain ⟨G, env, R, h⟩ := h
  refine wpAny_Call_Name_kw (ld_glob I hg hm ?_ hdb)
  refine PySem.W.callWith_K (h₀ := X.base) I.ok.mod.kin FD.kp (thn (ha.run pos pins s σ H _ I ⟨G, env, R, wp_imp (wp_bind.mp h) fun ds q vs G1 H1 e1 r1 l1 => (⟨ds, G1, R.ext e1, r1, l1, wp_imp q fun d q v G2 H2 e2 => q v G2 H2 (e1.trans e2)⟩ :
    ∃ ds G1, Rel X.K A G1 σ env H1 ∧ RpAll X.K G1 vs ds ∧ vs.length = ps.length ∧ wp (fT ds) (fun d => ∀ v G2 H2, Ext A G1 H1 G2 H2 → Rp X.K G2 v d → Q v H2) A.E)⟩) fun us s1 ⟨vs, H1, I1, r, ds, G1, R1, r1, l1, q⟩ => ⟨I1.kIn, ?_⟩) he hpl
  refine run_fnG (E := fun _ _ _ => False) (args := ⟨us, []⟩) FG hr hgd I1 ?_ r (spG_of hA hE R1.st R1.gf r1 l1 q)
  exact (FD.bindsN F.bn) s1 us I1.kIn (by rw [List.append_nil, ← r.length, l1]) |> fun z => by simpa using z
theorem r_call0 (F : DefG X.prog X.w X.K X.mg X.base PX k x st ps fT) (hr : Room k X.A) (hgd : X.A.guards = some []) (hA : PX A.F A.SI) (hE : ∀ c d, ¬ A.E c d) (hg : Gl X x) (hp : ps = []) (hdb : (x == ("__debug__" : Str)) = false := by decide) :
    PE X (.Call (.Name x p) [] [] pos) (rd X.K A (fun _ => fT [])) := by
  subst hp
  obtain ⟨f, fd, hm, FD, FG⟩ := F.ex
  refine ⟨fun pins s σ H Q I h => ?_⟩
  obtain ⟨G, env, R, h⟩ := h
  refine wpAny_Call_Name_kw (ld_glob I hg hm ?_ hdb)
  refine PySem.W.callWith_K0 I.kIn FD.kp (run_fnG (E := fun _ _ _ => False) (args := ⟨[], []⟩) (us := []) FG hr hgd I ?_ .nil (spG_of hA hE R.st R.gf .nil rfl h))
  exact (FD.bindsN F.bn) s [] I.kIn rfl |> fun z => by simpa using z
/-- f(e, .., k = v, ..) -/
def dCK (f : List D → T D) (o : List Nat) (ws zs : Env → T (List D)) : Env → T D := fun env => ws env >>= fun us => zs env >>= fun vs => f (pick o (us ++ vs))
theorem bindsK {x : Str} {st : Stmt} {f : Addr} {fd : FuncData} {K : PySem.W.Frag} (FD : FunD K x x (defArgs st) (defBody st) (defScope st) [] [] f fd) (B : KwB x st ps n ks o) (s : Shared) (us ws : List Value) (h1 : us.length = n) (h2 : ws.length = ks.length) : BindsTo s fd ⟨us, ks.zip ws⟩ (ps.zip (pick o (us ++ ws))) := by
  obtain ⟨oc, od, dV, kV, doc, pm, an, cdv, ct, osl, rfl, lk, hcd, hD, hK⟩ := FD.ex
  rcases hD with ⟨_, rfl⟩ | ⟨e, _⟩
  · exact .of_eq (B.to kV doc pm an cdv ct us ws h1 h2)
  · exact absurd rfl e
theorem r_callK (F : DefG X.prog X.w X.K X.mg X.base PX k x st ps fT) (B : KwB x st ps n ks o) (hr : Room k X.A) (hgd : X.A.guards = some []) (hA : PX A.F A.SI) (hE : ∀ c d, ¬ A.E c d) (hg : Gl X x) (ha : PA X (e :: es) (rdA X.K A n ws)) (hk : PK X kws (rdA X.K A m zs)) (hm0 : m = ks.length) (ho : ∀ l : List V, l.length = n + m → (pick o l).length = ps.length)
    (hall : (backToKw pos (keywordEach kws X.env)).all (·.1.isSome) = true := by rfl) (hks : (backToKw pos (keywordEach kws X.env)).filterMap (·.1) = ks := by rfl)
    (hdb : (x == ("__debug__" : Str)) = false := by decide) (he : starEach (e :: es) X.env = (false, eval e X.env) :: starEach es X.env := by rfl)
    (hpl : ((backTo pos (starEach (e :: es) X.env)).any (·.1) || (backToKw pos (keywordEach kws X.env)).any (·.1.isNone)) = false := by rfl) : PE X (.Call (.Name x p) (e :: es) kws pos) (rd X.K A (dCK fT o ws zs)) := by
  obtain ⟨f, fd, hm, FD, FG⟩ := F.ex
  refine ⟨fun pins s σ H Q I h => ?_⟩
  obtain ⟨G, env, R, h⟩ := h
  refine wpAny_Call_Name_kw (ld_glob I hg hm ?_ hdb)
  refine PySem.W.callWith_KW (h₀ := X.base) I.ok.mod.kin FD.kp hall (thn (ha.run pos pins s σ H _ I ⟨G, env, R, wp_imp (wp_bind.mp h) fun ds q vs G1 H1 e1 r1 l1 => (⟨ds, G1, R.ext e1, r1, l1, wp_imp (wp_bind.mp q) fun es q => wp_imp q fun d q v G2 H2 e2 => q v G2 H2 (e1.trans e2)⟩ :
    ∃ ds G1, Rel X.K A G1 σ env H1 ∧ RpAll X.K G1 vs ds ∧ vs.length = n ∧ wp (zs env) (fun es => wp (fT (pick o (ds ++ es))) (fun d => ∀ v G2 H2, Ext A G1 H1 G2 H2 → Rp X.K G2 v d → Q v H2) A.E) A.E)⟩) fun us s1 ⟨vs, H1, I1, r, ds, G1, R1, r1, l1, q⟩ => ?_) hpl he
  refine thn (hk.run pos pins s1 σ H1 _ I1 ⟨G1, env, R1, wp_imp q fun es q us G2 H2 e2 r2 l2 => (⟨es, G2, R1.ext e2, r1.mono e2.gg, r2, l2, wp_imp q fun d q v G3 H3 e3 => q v G3 H3 (e2.trans e3)⟩ :
    ∃ es G2, Rel X.K A G2 σ env H2 ∧ RpAll X.K G2 vs ds ∧ RpAll X.K G2 us es ∧ us.length = m ∧ wp (fT (pick o (ds ++ es))) (fun d => ∀ v G3 H3, Ext A G2 H2 G3 H3 → Rp X.K G3 v d → Q v H3) A.E)⟩) fun wsv s2 ⟨zv, H2, I2, rz, es, G2, R2, r2, r3, l2, q⟩ => ⟨I2.kIn, ?_⟩
  rw [hks]
  refine run_fnG (E := fun _ _ _ => False) (args := ⟨us, ks.zip wsv⟩) (us := pick o (us ++ wsv)) (vs := pick o (vs ++ zv)) FG hr hgd I2 ?_ (Eng.Vals.pick (Vals.append r rz) o) (spG_of hA hE R2.st R2.gf ((r2.append r3).pick o) (ho _ (by rw [List.length_append, l1, l2])) q)
  exact bindsK FD B s2 us wsv (by rw [← r.length, l1]) (by rw [← rz.length, l2, hm0])
theorem r_callK0 (F : DefG X.prog X.w X.K X.mg X.base PX k x st ps fT) (B : KwB x st ps 0 ks o) (hr : Room k X.A) (hgd : X.A.guards = some []) (hA : PX A.F A.SI) (hE : ∀ c d, ¬ A.E c d) (hg : Gl X x) (hk : PK X kws (rdA X.K A m zs)) (hm0 : m = ks.length) (ho : ∀ l : List V, l.length = 0 + m → (pick o l).length = ps.length)
    (hall : (backToKw pos (keywordEach kws X.env)).all (·.1.isSome) = true := by rfl) (hks : (backToKw pos (keywordEach kws X.env)).filterMap (·.1) = ks := by rfl)
    (hdb : (x == ("__debug__" : Str)) = false := by decide)
    (hpl : ((backTo pos (starEach [] X.env)).any (·.1) || (backToKw pos (keywordEach kws X.env)).any (·.1.isNone)) = false := by rfl) : PE X (.Call (.Name x p) [] kws pos) (rd X.K A (dCK fT o dNil zs)) := by
  obtain ⟨f, fd, hm, FD, FG⟩ := F.ex
  refine ⟨fun pins s σ H Q I h => ?_⟩
  obtain ⟨G, env, R, h⟩ := h
  refine wpAny_Call_Name_kw (ld_glob I hg hm ?_ hdb)
  have h := wp_bind.mp (show wp (zs env >>= fun vs => fT (pick o ([] ++ vs))) _ _ from h)
  refine PySem.W.callWith_KW0 (h₀ := X.base) I.ok.mod.kin FD.kp hall (thn (hk.run pos pins s σ H _ I ⟨G, env, R, wp_imp h fun es q us G2 H2 e2 r2 l2 => (⟨es, G2, R.ext e2, r2, l2, wp_imp q fun d q v G3 H3 e3 => q v G3 H3 (e2.trans e3)⟩ :
    ∃ es G2, Rel X.K A G2 σ env H2 ∧ RpAll X.K G2 us es ∧ us.length = m ∧ wp (fT (pick o ([] ++ es))) (fun d => ∀ v G3 H3, Ext A G2 H2 G3 H3 → Rp X.K G3 v d → Q v H3) A.E)⟩) fun wsv s2 ⟨zv, H2, I2, rz, es, G2, R2, r3, l2, q⟩ => ⟨I2.kIn, ?_⟩) hpl
  rw [hks]
  refine run_fnG (E := fun _ _ _ => False) (args := ⟨[], ks.zip wsv⟩) (us := pick o ([] ++ wsv)) (vs := pick o ([] ++ zv)) FG hr hgd I2 ?_ (Vals.pick rz o) (spG_of hA hE R2.st R2.gf (RpAll.pick r3 o) (ho _ (by show zv.length = 0 + m; omega)) q)
  exact bindsK FD B s2 [] wsv rfl (by rw [← rz.length, l2, hm0])
end
end Eng

namespace Eng
open PySem PySem.Spec PyProof.Rows L2
open Evl (Ex)
section
variable {P : Program} {w : World} {K : PySem.W.Frag} {mg : Str → Option Value} {base : Heap} {PX : APr}
/-- a def walked by hand -/
theorem DefG.mkRaw {k : Nat} {x : Str} {st : Stmt} {N ps : List Str} {fT : List D → T D} (at_ : At K mg x st) (S : FnScope N ps (defScope st))
    (bn : ∀ (kV doc pm : Value) (an : Option Addr) (cdv ct : Value) (us : List Value), us.length = ps.length → bindArgs (PySem.W.fnOf x x (defArgs st) (defBody st) (defScope st) .none kV doc pm an cdv ct) ⟨us, []⟩ = pure (ps.zip us))
    (hbody : ∀ (f : Addr) (cdv : Value) (Ar : Around) (outer : List PySem.Env) (s : Shared) (H : Hp) (E : XK), Room k (Ar.deeper (envOfC x (defScope st) s.heap.objs.size f cdv)) → (Ar.deeper (envOfC x (defScope st) s.heap.objs.size f cdv)).guards = some [] →
      ∀ (A : Act) (G : Hp) (vs : List V) (ds : List D) (Q : VK), PX A.F A.SI → St1 A G H → (∀ a, A.F a → G a = none) → RpAll K G vs ds → vs.length = ps.length →
        wp (fT ds) (fun d => ∀ v G' H', Ext A G H G' H' → Rp K G' v d → Q v H') (fun _ _ => False) →
        ∃ t, PSs (cxOf CX0 P w K mg base N x (defScope st) f cdv Ar outer s H E).nox (defBody st) t ∧ t { nx := fun _ H' => Q .non H', rt := Q } (L2.start N vs) H) :
    DefG P w K mg base PX (k + 1) x st ps fT := by
  obtain ⟨f, fd, h1, F⟩ := at_.ex
  refine ⟨⟨f, fd, h1, F, ?_⟩, bn⟩
  obtain ⟨oc, od, dV, kV, doc, pm, an, cdv, ct, osl, rfl, lk, hcd, _, _⟩ := F.ex
  refine fnG_of lk hcd S (fun vs H Q E h => h.1) fun Ar outer s H vs Q E hr hg h => ?_
  obtain ⟨hl, A, G, ds, pa, s1, hf, r, hw⟩ := h
  exact hbody f cdv Ar outer s H E hr hg A G vs ds Q pa s1 hf r hl hw
end
variable {K : PySem.W.Frag} {A : Act} {G H G' H' : Hp}
/-- only what the draws own has changed, or is new -/
theorem Ext.upF (s : St1 A G H) (hf : ∀ a, A.F a → G a = none) (hk : ∀ a o, ¬ A.F a → H a = some o → H' a = some o) (si : A.SI H') : Ext A G H G H' where
  gg := Ex.refl _
  gh := fun a o h => hk a o (fun f => by rw [hf a f] at h; cases h) (s.gh a o h)
  keep := hk
  new := fun _ _ h => .inl h
  si0 := s.si
  si := si
def drawT (a0 : Addr) : List D → T D
  | [.obj a, .int n] => if a = a0 ∧ 0 < n ∧ n < 1073741824 then .draw n.toNat fun i => .ret (.int i) else .fail
  | _ => .fail
theorem drawT_wp {a0 : Addr} {ds : List D} {Q : D → Prop} {E : Str → List D → Prop} (h : wp (drawT a0 ds) Q E) : ∃ n : Int, ds = [.obj a0, .int n] ∧ 0 < n ∧ n < 1073741824 ∧ ∀ i : Int, 0 ≤ i → i < n → Q (.int i) := by
  unfold drawT at h
  split at h
  · split at h
    · rename_i a n c
      obtain ⟨rfl, c1, c2⟩ := c
      refine ⟨n, rfl, c1, c2, fun i h0 h1 => ?_⟩
      have : Q (.int ((i.toNat : Nat) : Int)) := h.2 i.toNat (by omega)
      rw [Int.toNat_of_nonneg h0] at this
      exact this
    · exact h.elim
  · exact h.elim
theorem RpAll.two {vs : List V} {a : Addr} {n : Int} (r : RpAll K G vs [.obj a, .int n]) : vs = [.ref a, .int n] := by
  cases r with
  | cons h r =>
    cases r with
    | cons h2 r =>
      cases r
      cases h
      cases h2
      rfl

def Spr1 (a0 a1 a2 : Addr) (H : Hp) : Prop := ∃ (ds cs : List Int) (st tn : Int), H a0 = some (.dK [(.inr "deep", .ref a1), (.inr "cells", .ref a2), (.inr "stir", .int st), (.inr "turn", .int tn)]) ∧ H a1 = some (.lst (ds.map V.int)) ∧ H a2 = some (.lst (cs.map V.int)) ∧ cs ≠ [] ∧ st.natAbs < 2 ^ 64
def F3 (a0 a1 a2 : Addr) : Addr → Prop := fun a => a = a0 ∨ a = a1 ∨ a = a2
def PX1 (a0 a1 a2 : Addr) : APr := fun F SI => (F = F3 a0 a1 a2 ∧ SI = Spr1 a0 a1 a2) ∧ a1 ≠ a2
theorem dp_ints (ds : List Int) : DpAll K H (ds.map V.int) (ds.map PyData.int) := by
  induction ds with
  | nil => exact .nil
  | cons d r ih => exact .cons (.int d) ih
theorem shaped_ints (ds : List Int) : SeqAt.shaped (.list (ds.map PyData.int)) = true := by
  have h1 : PyData.canLayAll0 (ds.map PyData.int) = true := by
    induction ds with
    | nil => rfl
    | cons d r ih => rw [List.map_cons, PyData.canLayAll0.eq_def]; exact Bool.and_eq_true_iff.mpr ⟨rfl, ih⟩
  have h2 : PyData.depthAll (ds.map PyData.int) = 0 := by
    clear h1
    induction ds with
    | nil => rfl
    | cons d r ih => rw [List.map_cons, PyData.depthAll.eq_def]; show max 0 _ = 0; rw [ih]; rfl
  unfold SeqAt.shaped
  rw [PyData.canLay0.eq_def, PyData.depth.eq_def]
  show (PyData.canLayAll0 _ && decide (PyData.depthAll _ + 1 ≤ 64)) = true
  rw [h1, h2]; rfl
theorem eqv_nil (ds : List PyData) : PyData.eqv (.list ds) (.list []) = ds.isEmpty := by cases ds <;> rfl
theorem upd_keep {F : Addr → Prop} {p : Addr} {o : HO} (hp : F p) : ∀ a u, ¬ F a → H a = some u → upd H p o a = some u := fun a u f h => by
  rw [upd_ne (by rintro rfl; exact f hp)]; exact h
theorem new_keep {F : Addr → Prop} {p : Addr} {o : HO} (hp : H p = none) : ∀ a u, ¬ F a → H a = some u → upd H p o a = some u := fun a u f h => by
  rw [upd_ne (ne_of_none h hp)]; exact h
theorem keep_tr {F : Addr → Prop} {H1 H2 : Hp} (h1 : ∀ a u, ¬ F a → H a = some u → H1 a = some u) (h2 : ∀ a u, ¬ F a → H1 a = some u → H2 a = some u) : ∀ a u, ¬ F a → H a = some u → H2 a = some u := fun a u f h => h2 a u f (h1 a u f h)
theorem last_int {ds : List Int} (h : ds ≠ []) : ∃ l c, ds = l ++ [c] := ⟨ds.dropLast, ds.getLast h, (List.dropLast_concat_getLast h).symm⟩
theorem atI_last (l : List Int) (c : Int) : atI ((l ++ [c]).map V.int) (-1) = some (.int c) := by
  unfold atI ixN
  rw [List.length_map, List.length_append, List.length_singleton, if_neg (by omega), if_pos (by omega)]
  show ((l ++ [c]).map V.int)[(-1 + ((l.length + 1 : Nat) : Int)).toNat]? = _
  rw [show (-1 + ((l.length + 1 : Nat) : Int)).toNat = l.length by omega, List.getElem?_map, List.getElem?_append_right (Nat.le_refl _), Nat.sub_self]
  rfl
theorem ixN_last (l : List Int) (c : Int) : ixN ((l ++ [c]).map V.int).length (-1) = some l.length := by
  unfold ixN
  rw [List.length_map, List.length_append, List.length_singleton, if_neg (by omega), if_pos (by omega)]
  exact congrArg some (by omega)
theorem set_last (l : List Int) (c e : Int) : ((l ++ [c]).map V.int).set l.length (.int e) = (l ++ [e]).map V.int := by
  rw [List.map_append, List.map_append, List.set_append_right _ _ (by rw [List.length_map]; exact Nat.le_refl _), List.length_map, Nat.sub_self]
  rfl
theorem pop_last (l : List Int) (c : Int) : ((l ++ [c]).map V.int)[((l ++ [c]).map V.int).length - 1]? = some (.int c) := by
  rw [List.length_map, List.length_append, List.length_singleton, Nat.add_sub_cancel, List.getElem?_map, List.getElem?_append_right (Nat.le_refl _), Nat.sub_self]
  rfl
theorem drop_last (l : List Int) (c : Int) : ((l ++ [c]).map V.int).dropLast = l.map V.int := by
  rw [List.map_append]; exact List.dropLast_concat
theorem at_mod {cs : List Int} (t : Int) (h : cs ≠ []) : ∃ c : Int, atI (cs.map V.int) (t % ((cs.map V.int).length : Int)) = some (.int c) := by
  have hl : 0 < (cs.length : Int) := by
    have := List.length_pos_iff.mpr h
    omega
  have h0 := Int.emod_nonneg t (show (cs.length : Int) ≠ 0 by omega)
  have h1 := Int.emod_lt_of_pos t hl
  rw [List.length_map]
  have hb : (t % (cs.length : Int)).toNat < cs.length := by omega
  refine ⟨cs[(t % (cs.length : Int)).toNat], ?_⟩
  unfold atI ixN
  rw [List.length_map, if_pos h0, if_pos h1]
  show (cs.map V.int)[(t % (cs.length : Int)).toNat]? = _
  rw [List.getElem?_map, List.getElem?_eq_getElem hb]
  rfl
theorem mod_small (x : Int) {m : Int} (h : 0 < m) (h2 : m ≤ 2 ^ 64) : -2 ^ 64 < x % m ∧ x % m < 2 ^ 64 := by
  have h0 := Int.emod_nonneg x (show m ≠ 0 by omega)
  have h1 := Int.emod_lt_of_pos x h
  exact ⟨by omega, by omega⟩
end Eng

namespace Eng
open PySem PySem.Spec PyProof.Rows L2
open Evl (Ex)
def asObj (a : Addr) (l : List D) : D → T (List D)
  | .obj b => if b = a then .ret l else .fail
  | _ => .fail
section
variable {X : Cx} {A : Act} {asc : Addr} {ns : List Int} {a : Expr} {wa : Env → T D} {p2 pos : Pos}
theorem r_script {j : Nat} {pj : Pos} (hA : ∀ H, A.SI H → SqL X.K H asc (ns.map V.int)) (ha : PE X a (rd X.K A wa)) : PE X (.Subscript a (.Slice none (some (.Constant (.int 63) j pj)) none p2) pos) (rdN X.K A (dU (asObj asc ((ns.take 63).map D.int)) wa)) := (pe_slice sl_list ha po_none (po_some pe_int)).imp fun σ H Q h => by
  obtain ⟨G, env, R, h⟩ := h
  refine ⟨G, env, R, wp_imp (wp_bind.mp h) fun d q v G1 H1 e1 r1 => ?_⟩
  cases d with
  | obj b =>
    have q2 : wp (if b = asc then T.ret ((ns.take 63).map D.int) else T.fail) _ _ := q
    split at q2
    · rename_i hb
      subst hb
      cases r1
      refine ⟨63, rfl, b, _, rfl, hA _ e1.si, fun r hr => ?_⟩
      refine q2 r _ _ _ (e1.trans (e1.refl'.allocO hr)) (e1.dn hr) (e1.refl'.gnone hr) upd_same ?_
      have e : cutV (ns.map V.int) none (some 63) = ((ns.take 63).map V.int) := by
        unfold cutV
        rw [HT.sIx_none, show HT.sIx (ns.map V.int).length (ns.map V.int).length (some 63) = min 63 (ns.map V.int).length from HT.sIx_nat _ _ 63]
        rw [List.drop_zero, Nat.sub_zero, List.map_take, ← List.take_take, List.take_length]
      rw [e]
      clear q2 q h
      induction ns.take 63 with
      | nil => exact .nil
      | cons x l ih => exact .cons (.int x) ih
    · exact q2.elim
  | _ => exact q.elim
end
section
variable {X : Cx} {A : Act}
abbrev KW := List (Key × (Env → T D))
def trsOf (K : PySem.W.Frag) (A : Act) (l : KW) : List (TE × TE) := l.map fun kw => (tC (kV kw.1), rd K A kw.2)
def dAll : List (Env → T D) → Env → T (List D)
  | [] => dNil
  | w :: r => dCons w (dAll r)
theorem tPairs_of {K : PySem.W.Frag} : ∀ (l : KW) (σ : L2.St) (H : Hp) (Q : List (V × V) → Hp → Prop) (G : Hp) (env : Env), Rel K A G σ env H →
    wp (dAll (l.map (·.2)) env) (fun ds => ∀ vs G' H', Ext A G H G' H' → RpAll K G' vs ds → vs.length = l.length → Q ((l.map fun kw => kV kw.1).zip vs) H') A.E → tPairs (trsOf K A l) σ H Q
  | [], σ, H, Q, G, env, R, h => h [] G H R.st .nil rfl
  | (k, w) :: l, σ, H, Q, G, env, R, h => by
    refine ⟨G, env, R, wp_imp (wp_bind.mp h) fun d h1 v G1 H1 e1 r1 => ?_⟩
    refine tPairs_of l σ H1 _ G1 env (R.ext e1) (wp_imp (wp_bind.mp h1) fun ds h2 vs G2 H2 e2 r2 l2 => ?_)
    exact h2 (v :: vs) G2 H2 (e1.trans e2) (.cons (r1.mono e2.gg) r2) (congrArg Nat.succ l2)
theorem dd_nil {pos : Pos} : PPs X pos [] [] (trsOf X.K A []) := pps_nil
theorem dd_str {pos : Pos} {k : Str} {j : Nat} {pk : Pos} {v : Expr} {w : Env → T D} {ks : List (Option Expr)} {vs : List Expr} {l : KW} (hv : PE X v (rd X.K A w)) (h : PPs X pos ks vs (trsOf X.K A l)) : PPs X pos (some (.Constant (.str k) j pk) :: ks) (v :: vs) (trsOf X.K A ((.inr k, w) :: l)) :=
  pps_cons pe_str hv h
theorem dd_int {pos : Pos} {k : Int} {j : Nat} {pk : Pos} {v : Expr} {w : Env → T D} {ks : List (Option Expr)} {vs : List Expr} {l : KW} (hv : PE X v (rd X.K A w)) (h : PPs X pos ks vs (trsOf X.K A l)) : PPs X pos (some (.Constant (.int k) j pk) :: ks) (v :: vs) (trsOf X.K A ((.inl k, w) :: l)) :=
  pps_cons pe_int hv h
theorem putK_new (kvs : List (Key × V)) (k : Key) (v : V) (h : k ∉ kvs.map (·.1)) : putK kvs k v = kvs ++ [(k, v)] := by
  unfold putK
  rw [if_neg]
  intro z
  rw [List.any_eq_true] at z
  obtain ⟨x, h1, h2⟩ := z
  exact h (List.mem_map.mpr ⟨x, h1, of_decide_eq_true h2⟩)
theorem mergeK_nd : ∀ (more kvs : List (Key × V)), ((kvs ++ more).map (·.1)).Nodup → mergeK kvs more = kvs ++ more
  | [], kvs, _ => by rw [List.append_nil]; rfl
  | (k, v) :: more, kvs, h => by
    have e : mergeK kvs ((k, v) :: more) = mergeK (putK kvs k v) more := rfl
    rw [e, putK_new kvs k v, mergeK_nd more]
    · rw [List.append_assoc]; rfl
    · rw [List.append_assoc]; exact h
    · intro z
      rw [List.map_append, List.nodup_append] at h
      exact h.2.2 k z k (by simp) rfl
theorem zip_fst {α β : Type} : ∀ (l : List α) (m : List β), l.length = m.length → (l.zip m).map (·.1) = l
  | [], _, _ => rfl
  | _ :: _, [], h => by cases h
  | a :: l, b :: m, h => by rw [List.zip_cons_cons, List.map_cons, zip_fst l m (Nat.succ.inj h)]
theorem zip_map1 {α β γ : Type} (f : α → γ) : ∀ (l : List α) (m : List β), (l.zip m).map (fun p => (f p.1, p.2)) = (l.map f).zip m
  | [], _ => rfl
  | _ :: _, [] => rfl
  | a :: l, b :: m => by rw [List.zip_cons_cons, List.map_cons, List.map_cons, List.zip_cons_cons, zip_map1 f l m]
/-- {k: v, ..} -/
def dDct (l : KW) : Env → T D := fun env => dAll (l.map (·.2)) env >>= fun ds => T.ret (.dct (l.map (·.1)) ds)
theorem r_dct {pos : Pos} {keys : List (Option Expr)} {values : List Expr} (l : KW) (h : PPs X pos keys values (trsOf X.K A l)) (h1 : (keys.all fun x => x.isSome) = true) (h2 : keys.length = values.length) (h3 : keys ≠ []) (h4 : keys.length ≤ 15) (h5 : l.length ≤ 15) (h6 : (l.map (·.1)).Nodup) :
    PE X (.Dict keys values pos) (rd X.K A (dDct l)) := (pe_disp h h1 h2 h3 h4).imp fun σ H Q q => by
  obtain ⟨G, env, R, q⟩ := q
  intro p hp
  have e1 : Ext A G H G (upd H p (.dK [])) := R.st.allocO hp
  refine tPairs_of l σ _ _ G env (R.ext e1) (wp_imp (wp_bind.mp q) fun ds h vs G2 H2 e2 r2 l2 => ?_)
  have nf := R.st.nf hp
  have gp : G2 p = none := by
    cases z : G2 p with
    | none => rfl
    | some o =>
      rcases e2.new p o z with y | y
      · rw [R.st.gnone hp] at y; cases y
      · rw [upd_same] at y; cases y
  have hp2 : H2 p = some (.dK []) := e2.keep p _ nf upd_same
  refine ⟨hp2, (l.map (·.1)).zip vs, ?_, ?_, ?_⟩
  · rw [zip_map1, List.map_map]; rfl
  · rw [List.length_zip, List.length_map]; omega
  rw [mergeK_nd _ [] (by rw [List.nil_append, zip_fst _ _ (by rw [List.length_map, l2])]; exact h6), List.nil_append]
  have gu : ∀ u, Ex G2 (upd G2 p u) := fun u => Ex.new gp
  refine h (.ref p) (upd G2 p (.dK ((l.map (·.1)).zip vs))) _ ⟨e2.gg.trans (gu _), fun b o hb => ?_, fun b o f hb => ?_, fun b o hb => ?_, R.st.si, Ext.si_upd e2.si nf⟩ (.dct upd_same (by rw [List.length_map, l2]) (r2.mono (gu _)))
  · by_cases z : b = p
    · subst z; rw [upd_same] at hb ⊢; exact hb
    · rw [upd_ne z] at hb ⊢; exact e2.gh b o hb
  · rw [upd_ne (ne_of_none hb hp)]
    exact (e1.trans e2).keep b o f hb
  · by_cases z : b = p
    · subst z; exact .inr hp
    · rw [upd_ne z] at hb; exact (e1.trans e2).new b o hb
end
end Eng

namespace Eng
open PySem PySem.Spec PyProof.Rows L2
open Evl (Ex)
def cst (d : D) : Env → T D := fun _ => T.ret d
def gV (i : Nat) : Env → T D := fun env => getV env i
def gB (i : Nat) : Env → T D := fun env => getB env i
def dLst (w : Env → T (List D)) : Env → T D := fun env => w env >>= fun ds => T.ret (D.lst ds)
theorem pickLen {α : Type} (o : List Nat) {n m : Nat} (h : (o.length == m && o.all fun i => decide (i < n)) = true) : ∀ l : List α, l.length = n → (pick o l).length = m := fun l hl => by
  obtain ⟨h2, h3⟩ := Bool.and_eq_true_iff.mp h
  rw [← eq_of_beq h2]
  have key : ∀ i ∈ o, i < l.length := fun i hi => by rw [hl]; exact of_decide_eq_true (List.all_eq_true.mp h3 i hi)
  clear h h2 h3
  unfold pick
  induction o with
  | nil => rfl
  | cons i r ih =>
    rw [List.filterMap_cons, List.getElem?_eq_getElem (key i (by simp))]
    exact congrArg Nat.succ (ih fun j hj => key j (by simp [hj]))
section
variable {X : Cx} {A : Act} {e a : Expr} {wa wb : Env → T D} {pos p : Pos}
theorem toD {w : Env → T (List D)} (h : PE X e (rdN X.K A w)) : PE X e (rd X.K A (dLst w)) := toL h
theorem locT {N : List Str} {s : Shared} {H : Hp} {scope : Scope} {env : PySem.Env} {fp : List Addr} {x : Str} (h : scope.names.lookup x = some .local ∨ scope.names.lookup x = some .cell := by first | exact .inl rfl | exact .inr rfl) (he : env.scope = scope := by rfl) : Loc env.scope x := by
  rw [he]; exact h
def D.tyN : D → Option String
  | .non => some "NoneType"
  | .bl _ => some "bool"
  | .int _ => some "int"
  | .str _ => some "str"
  | .tup _ => some "tuple"
  | .lst _ => some "list"
  | .dct _ _ => some "dict"
  | .obj _ => none
def isiD (t : String) : D → T D := fun d => match d.tyN with
  | some s => (match kitB s t with
    | some r => T.ret (.bl r)
    | none => T.fail)
  | none => T.fail
theorem sqT_ty {K : PySem.W.Frag} {H : Hp} {a : Addr} {xs : List V} (h : SqT K H a xs) : TyX K H (.ref a) (.type "tuple") := by
  rcases h with h | ⟨o, its, n, h1, h2, _⟩
  · rcases h with h | ⟨o, h⟩
    · exact .base (.tup h)
    · exact .fTuple h
  · exact .kTuple h1 h2
theorem Rq.ty {K : PySem.W.Frag} {G H : Hp} {v : V} {d : D} {s : String} (h : Rq K A G H v d) (g : Ex G H) (e : d.tyN = some s) : TyX K H v (.type s) := by
  cases d with
  | non => cases e; rw [h.non]; exact .base .non
  | bl b => cases e; rw [h.bl]; exact .base (.bl b)
  | int i => cases e; rw [h.int]; exact .base (.int i)
  | str z => cases e; rw [h.str]; exact .base (.str z)
  | tup l => cases e; obtain ⟨p, vs, rfl, h1, _⟩ := h.tup g; exact sqT_ty h1
  | lst l => cases e; obtain ⟨p, vs, rfl, h1, _⟩ := h.lst g; exact .base (.lst h1)
  | dct ks l => cases e; obtain ⟨p, vs, rfl, h1, _⟩ := h.dct g; exact .base (.dK h1)
  | obj b => cases e
theorem r_isi {x : Str} {t : String} {px : Pos} (hg : Gl X "isinstance") (hm : X.mg "isinstance" = none) (hg2 : Gl X x) (hm2 : X.mg x = none) (hv2 : bootBuiltins x = some (.type t)) (ha : PE X a (rdB X.K A wa)) (hn : x ≠ "__name__" := by decide) (hd : (x == ("__debug__" : Str)) = false := by decide)
    (he : starEach [a, .Name x px] X.env = (false, eval a X.env) :: starEach [.Name x px] X.env := by rfl) (he2 : starEach [.Name x px] X.env = (false, eval (.Name x px) X.env) :: starEach [] X.env := by rfl) (hpl : (backTo pos (starEach [.Name x px] X.env)).any (·.1) = false := by rfl) :
    PE X (.Call (.Name "isinstance" p) [a, .Name x px] [] pos) (rd X.K A (dU (isiD t) wa)) :=
  (pe_callB call_isi hg hm (by decide +kernel) (pa_cons ha (pa_cons (pe_bltn hg2 hm2 hv2 (v := .ty t) rfl hn hd) pa_nil he2) he) (by decide) (by decide) he hpl).imp fun σ H Q h => by
  obtain ⟨G, env, R, h⟩ := h
  refine ⟨G, env, R, wp_imp (wp_bind.mp h) fun d q v G1 H1 e1 r1 => ?_⟩
  unfold isiD at q
  split at q
  · rename_i s hs
    split at q
    · rename_i r hr
      exact ⟨_, _, _, _, r, rfl, .ty t, r1.ty e1.gh hs, kit_ty hr, q _ G1 H1 e1 (.bl r)⟩
    · exact q.elim
  · exact q.elim
end
mutual
def chkV (K : PySem.W.Frag) : Value → D → Bool
  | .none, .non => true
  | .bool b, .bl c => b == c
  | .int i _, .int j => decide (i = j)
  | .str x _, .str y => decide (x = y)
  | .ref a, .tup ds => (match K.lookup a with
    | some ⟨.type c, _, .seq its _, _⟩ => decide (c = "tuple") && (decide (its.size ≤ sizeLine) && chkVs K its.toList ds)
    | _ => false)
  | _, _ => false
def chkVs (K : PySem.W.Frag) : List Value → List D → Bool
  | [], [] => true
  | u :: us, d :: ds => chkV K u d && chkVs K us ds
  | _, _ => false
end
mutual
theorem chkV_ok {K : PySem.W.Frag} : ∀ (d : D) {u : Value}, chkV K u d = true → ∃ v, RelV v u ∧ ∀ G, Rp K G v d
  | .non, u, h => by
    cases u <;> first | exact ⟨.non, rfl, fun _ => .non⟩ | (unfold chkV at h; cases h)
  | .bl c, u, h => by
    cases u <;> first | (rename_i b; unfold chkV at h; have e : b = c := eq_of_beq h; subst e; exact ⟨.bl b, rfl, fun _ => .bl b⟩) | (unfold chkV at h; cases h)
  | .int j, u, h => by
    cases u <;> first | (rename_i i t; unfold chkV at h; have e : i = j := of_decide_eq_true h; subst e; exact ⟨.int i, ⟨t, rfl⟩, fun _ => .int i⟩) | (unfold chkV at h; cases h)
  | .str j, u, h => by
    cases u <;> first | (rename_i i t; unfold chkV at h; have e : i = j := of_decide_eq_true h; subst e; exact ⟨.str i, ⟨t, rfl⟩, fun _ => .str i⟩) | (unfold chkV at h; cases h)
  | .tup ds, u, h => by
    cases u with
    | ref a =>
      unfold chkV at h
      cases q : K.lookup a with
      | none => rw [q] at h; cases h
      | some o =>
        obtain ⟨oc, od, dt, sl⟩ := o
        rw [q] at h
        cases oc with
        | type c =>
          cases dt with
          | seq its n =>
            obtain ⟨h1, h2⟩ := He.ba (show (decide (c = "tuple") && (decide (its.size ≤ sizeLine) && chkVs K its.toList ds)) = true from h)
            obtain ⟨h3, h4⟩ := He.ba h2
            obtain ⟨vs, r1, r2⟩ := chkVs_ok ds h4
            exact ⟨.ref a, rfl, fun G => .tup (.inr ⟨_, its, n, q, congrArg Value.type (of_decide_eq_true h1), rfl, of_decide_eq_true h3, r1⟩) (r2 G)⟩
          | _ => cases h
        | _ => cases dt <;> cases h
    | _ => unfold chkV at h; cases h
  | .lst _, u, h => by cases u <;> (unfold chkV at h; cases h)
  | .dct _ _, u, h => by cases u <;> (unfold chkV at h; cases h)
  | .obj _, u, h => by cases u <;> (unfold chkV at h; cases h)
theorem chkVs_ok {K : PySem.W.Frag} : ∀ (ds : List D) {us : List Value}, chkVs K us ds = true → ∃ vs, Vals vs us ∧ ∀ G, RpAll K G vs ds
  | [], us, h => by
    cases us with
    | nil => exact ⟨[], .nil, fun _ => .nil⟩
    | cons u us => unfold chkVs at h; cases h
  | d :: ds, us, h => by
    cases us with
    | nil => unfold chkVs at h; cases h
    | cons u us =>
      unfold chkVs at h
      obtain ⟨h1, h2⟩ := He.ba h
      obtain ⟨v, r1, r2⟩ := chkV_ok d h1
      obtain ⟨vs, r3, r4⟩ := chkVs_ok ds h2
      exact ⟨v :: vs, .cons r1 r3, fun G => .cons (r2 G) (r4 G)⟩
end
/-- the module's name x stands for d -/
def chkG (K : PySem.W.Frag) (x : Str) (d : D) : Bool := match PySem.W.nsIn K mainGlobals x with
  | some (some u) => chkV K u d
  | _ => false
theorem chkG_ok {K : PySem.W.Frag} {h : Heap} {mg : Str → Option Value} {x : Str} {d : D} (X : K.In h) (G : h.Ns mainGlobals mg) (c : chkG K x d = true) : Gc K mg x d := by
  unfold chkG at c
  split at c
  · rename_i u e
    obtain ⟨v, r1, r2⟩ := chkV_ok d c
    exact ⟨v, u, PySem.W.mg_of X G e, r1, r2⟩
  · cases c
/-- a dict of the module with text keys -/
def chkEs (K : PySem.W.Frag) : List DictEntry → List (Str × D) → Bool
  | [], [] => true
  | e :: es, t :: ts => (match e.key with
    | .str x _ => decide (x = t.1)
    | _ => false) && (chkV K e.val t.2 && chkEs K es ts)
  | _, _ => false
theorem chkEs_ok {K : PySem.W.Frag} : ∀ (ts : List (Str × D)) {es : List DictEntry}, chkEs K es ts = true → ∀ z : Str,
    (∃ e v d, es.find? (·.key.isStr z) = some e ∧ ts.lookup z = some d ∧ RelV v e.val ∧ ∀ G, Rp K G v d) ∨ (es.find? (·.key.isStr z) = none ∧ ts.lookup z = none ∧ es.any (·.refKey) = false)
  | [], es, h, z => by
    cases es with
    | nil => exact .inr ⟨rfl, rfl, rfl⟩
    | cons e es => unfold chkEs at h; cases h
  | t :: ts, es, h, z => by
    cases es with
    | nil => unfold chkEs at h; cases h
    | cons e es =>
      unfold chkEs at h
      obtain ⟨h1, h2⟩ := He.ba h
      obtain ⟨h3, h4⟩ := He.ba h2
      cases ek : e.key with
      | str x tk =>
        rw [ek] at h1
        have ex : x = t.1 := of_decide_eq_true h1
        obtain ⟨tx, td⟩ := t
        subst ex
        have fe : (e :: es).find? (·.key.isStr z) = if x == z then some e else es.find? (·.key.isStr z) := by
          rw [List.find?_cons, ek]
          show (match x == z with | true => some e | false => _) = _
          cases x == z <;> rfl
        have le : ((x, td) :: ts).lookup z = if z == x then some td else ts.lookup z := by
          rw [List.lookup_cons]
          cases z == x <;> rfl
        by_cases hz : x = z
        · subst hz
          obtain ⟨v, r1, r2⟩ := chkV_ok td h3
          refine .inl ⟨e, v, td, ?_, ?_, r1, r2⟩
          · rw [fe, if_pos (beq_self_eq_true x)]
          · rw [le, if_pos (beq_self_eq_true x)]
        · have n1 : ¬ (x == z) = true := fun q => hz (eq_of_beq q)
          have n2 : ¬ (z == x) = true := fun q => hz (eq_of_beq q).symm
          rw [fe, le, if_neg n1, if_neg n2]
          rcases chkEs_ok ts h4 z with q | ⟨q1, q2, q3⟩
          · exact .inl q
          · refine .inr ⟨q1, q2, ?_⟩
            rw [List.any_cons, q3]
            unfold DictEntry.refKey
            rw [ek]; rfl
      | _ => rw [ek] at h1; cases h1
def chkD (K : PySem.W.Frag) (x : Str) (ts : List (Str × D)) : Bool := match PySem.W.nsIn K mainGlobals x with
  | some (some (.ref a)) => (match K.lookup a with
    | some ⟨_, _, .dict es _, _⟩ => chkEs K es.toList ts && decide (a = He.ga K x)
    | _ => false)
  | _ => false
/-- a dict of the module: what it holds -/
structure Kd (K : PySem.W.Frag) (w : World) (mg : Str → Option Value) (x : Str) (ts : List (Str × D)) : Prop where
  ex : ∃ a es n, mg x = some (.ref a) ∧ KDict K w a es n ∧ ∀ z : Str, (∃ u v d, PySem.W.nsIn K a z = some (some u) ∧ ts.lookup z = some d ∧ RelV v u ∧ ∀ G, Rp K G v d) ∨ (PySem.W.nsIn K a z = some none ∧ ts.lookup z = none)
theorem chkD_ok {K : PySem.W.Frag} {w : World} {h : Heap} {mg : Str → Option Value} {x : Str} {ts : List (Str × D)} (X : K.In h) (G : h.Ns mainGlobals mg) (t : ∃ es n, KDict K w (He.ga K x) es n) (c : chkD K x ts = true) : Kd K w mg x ts := by
  unfold chkD at c
  split at c
  · rename_i a e
    split at c
    · rename_i oc od es0 n0 sl q
      obtain ⟨c1, c2⟩ := He.ba c
      obtain rfl : a = He.ga K x := of_decide_eq_true c2
      obtain ⟨es, n, kd⟩ := t
      have q2 := kd.at_
      rw [q] at q2
      cases q2
      refine ⟨_, es0, n0, PySem.W.mg_of X G e, kd, fun z => ?_⟩
      have hn : PySem.W.nsIn K (He.ga K x) z = (match es0.toList.find? (·.key.isStr z) with
        | some e => some (some e.val)
        | none => if es0.toList.any (·.refKey) then none else some none) := by
        unfold PySem.W.nsIn
        rw [kd.at_]
        dsimp only
        cases es0.toList.find? (·.key.isStr z) <;> rfl
      rcases chkEs_ok ts c1 z with ⟨e2, v, d, h1, h2, h3, h4⟩ | ⟨h1, h2, h3⟩
      · exact .inl ⟨e2.val, v, d, by rw [hn, h1], h2, h3, h4⟩
      · exact .inr ⟨by rw [hn, h1, h3]; rfl, h2⟩
    · cases c
  · cases c
def kget (ts : List (Str × D)) (x y : D) : T D := match x with
  | .str z => T.ret ((ts.lookup z).getD y)
  | _ => T.fail
section
variable {X : Cx} {A : Act} {e f : Expr} {we wf : Env → T D} {p apos cpos : Pos} {x : Str} {ts : List (Str × D)}
/-- D.get(k, y) of such a dict -/
theorem r_kget2 (kd : Kd X.K X.w X.mg x ts) (hg : Gl X x) (he : PE X e (rd X.K A we)) (hf : PE X f (rd X.K A wf)) (m : M2 X (.Name x p) "get" apos e f cpos := by exact ⟨rfl, rfl, rfl, rfl⟩) (hd : (x == ("__debug__" : Str)) = false := by decide) :
    PE X (.Call (.Attribute (.Name x p) "get" apos) [e, f] [] cpos) (rd X.K A (dB (kget ts) we wf)) := by
  obtain ⟨a, es, n, h1, h2, h3⟩ := kd.ex
  refine ⟨fun pins s σ H Q I h => ?_⟩
  obtain ⟨G, env, R, h⟩ := h
  refine wpAny_Call_method m.base m.few m.line PySem.F.plainAttrs_dict PySem.F.slot_dict_get PySem.F.type_dict_get (ld_glob I hg h1 ⟨kd_type h2 I, (PySem.W.mapOf_K (prog := X.prog) (w := X.w) I.kIn h2.at_ h2.lit).noDict, ?_⟩ hd)
  rw [m.trees]
  refine Calls.callWith_builtin rfl (Calls.evalArgs_plain (Calls.spliced_cons (thn (he.run pins s σ H _ I ⟨G, env, R, wp_imp (wp_bind.mp h) fun d q v G1 H1 e1 r1 => (⟨d, G1, e1, r1, q⟩ : ∃ d G1, Ext A G H G1 H1 ∧ Rp X.K G1 v d ∧ wp (wf env >>= fun y => kget ts d y) (fun d => ∀ v G' H', Ext A G H G' H' → Rp X.K G' v d → Q v H') A.E)⟩) fun u1 s1 ⟨v, H1, I1, rv, d, G1, e1, r1, q⟩ =>
    Calls.spliced_cons (thn (hf.run pins s1 σ H1 _ I1 ⟨G1, env, R.ext e1, wp_imp (wp_bind.mp q) fun d2 q v2 G2 H2 e2 r2 => (⟨d2, G2, e2, r2, q⟩ : ∃ d2 G2, Ext A G1 H1 G2 H2 ∧ Rp X.K G2 v2 d2 ∧ wp (kget ts d d2) (fun d => ∀ v G' H', Ext A G H G' H' → Rp X.K G' v d → Q v H') A.E)⟩) fun u2 s2 ⟨v2, H2, I2, rv2, d2, G2, e2, r2, q⟩ => Calls.spliced_nil ?_))))
  cases d with
  | str z =>
    have q : ∀ v G' H', Ext A G H G' H' → Rp X.K G' v ((ts.lookup z).getD d2) → Q v H' := q
    cases r1
    obtain ⟨tk, rfl⟩ := rv
    refine call_meetsIn PySem.F.slot_dict_get (kd_type h2 I2) PySem.F.entry_dict_get (PySem.F.args_dict_get_3 _ _ _) (meets_dict_get_default (strKind X.prog X.w) a (strKind_is X.prog X.w z tk) h2.low u2) ⟨_, PySem.W.mapOf_K (prog := X.prog) I2.kIn h2.at_ h2.lit, ?_⟩
    rcases h3 z with ⟨u, v0, d0, g1, g2, g3, g4⟩ | ⟨g1, g2⟩
    · rw [PySem.W.find_K h2.at_ g1]
      rw [g2] at q
      exact ⟨v0, H2, I2.tok _, g3, q v0 G2 H2 (e1.trans e2) (g4 G2)⟩
    · rw [PySem.W.find_K h2.at_ g1]
      rw [g2] at q
      exact ⟨v2, H2, I2.tok _, rv2, q v2 G2 H2 (e1.trans e2) r2⟩
  | _ => exact q.elim
end
end Eng

namespace Eng
open PySem PySem.Spec PyProof.Rows L2
open Evl (Ex)
theorem hr64 {k : Nat} {A : Around} (h : Room k A) : A.units + 64 < cLine := by have := h.un; omega
theorem hr65 {k : Nat} {A : Around} (h : Room k A) : A.units + 65 < cLine := by have := h.un; omega
theorem hr66 {k : Nat} {A : Around} (h : Room k A) : A.units + 66 < cLine := by have := h.un; omega
/-- the heap that tracks the script alone, or nothing -/
structure Start (P : Program) (w : World) (K : PySem.W.Frag) (s : Shared) (a : Addr) (ns : List Int) (H : Hp) : Prop where
  only : Only H
  seq : SqL K H a (ns.map V.int)
  ok : HOk P w H s.heap
  at_ : ∀ b, H b ≠ none → b = a
  out : H a ≠ none → K.lookup a = none
theorem start_ex {P : Program} {w : World} {K : PySem.W.Frag} {s : Shared} {a : Addr} {vs : List Value} {ns : List Int} (KX : K.In s.heap) (ha : s.heap.get? a = some { cls := .type "list", data := .seq vs.toArray }) (hi : IntsAre vs ns) (hl : ns.length ≤ sizeLine) : ∃ H, Start P w K s a ns H := by
  have rv := vals_ints hi
  have ln : vs.toArray.size ≤ sizeLine := by rw [List.size_toArray, hi.length]; exact hl
  cases hk : K.lookup a with
  | some o =>
    obtain rfl := Option.some.inj (ha.symm.trans (KX a o hk))
    exact ⟨fun _ => none, fun _ => .inl rfl, .inr ⟨_, vs.toArray, _, hk, rfl, rfl, rfl, ln, rv⟩, (fun _ _ z => nomatch z), fun _ z => (z rfl).elim, fun z => (z rfl).elim⟩
  | none =>
    refine ⟨fun b => if b = a then some (.frz { cls := .type "list", data := .seq vs.toArray } (.lst (ns.map V.int))) else none, fun b => ?_, .inl (.inr ⟨_, if_pos rfl⟩), fun b u z => ?_, fun b z => Classical.byContradiction fun q => z (if_neg q), fun _ => hk⟩
    · by_cases q : b = a
      · exact .inr ⟨_, _, if_pos q⟩
      · exact .inl (if_neg q)
    · by_cases q : b = a
      · subst q
        obtain rfl := Option.some.inj ((if_pos rfl).symm.trans z)
        exact ⟨ha, by rw [List.length_map]; exact hl, vs, _, rv, ha⟩
      · have z' := (if_neg q).symm.trans z
        cases z'
theorem law_callG {P : Program} {w : World} {K : PySem.W.Frag} {mg mb : Str → Option Value} {k : Nat} {fa a : Addr} {fd : FuncData} {x : Str} {sp : Sp} {s : Shared} {vs : List Value} {ns : List Int}
    (KX : K.In s.heap) (hns : s.heap.Ns mainGlobals mg) (hb : s.heap.Ns builtinsNs mb) (hbb : ∀ x : Str, x ≠ "__name__" → mb x = bootBuiltins x) (hlim : s.heap.NoLimit) (hg : s.gens = #[])
    (ha : s.heap.get? a = some { cls := .type "list", data := .seq vs.toArray }) (hi : IntsAre vs ns) (hl : ns.length ≤ sizeLine) (hr : Room k callerA)
    (F : ∀ base : Heap, FnG P w K mg base k fa fd [x] sp) (hbind : ∀ (s : Shared) (u : Value), BindsTo s fd ⟨[u], []⟩ [(x, u)])
    (hsp : ∀ H : Hp, SqL K H a (ns.map V.int) → sp [.ref a] H (fun v _ => v = .bl true) fun _ _ _ => False) :
    codeAny (model P w) callerA (.call (.ref fa) ⟨[.ref a], []⟩) (fun r s' => r = .ok (.ret (.bool true)) ∧ OldK s.heap s'.heap ∧ s'.os = s.os ∧ AllBare s'.gens) s := by
  obtain ⟨H, S⟩ := start_ex (P := P) (w := w) KX ha hi hl
  have free : ∀ {b : Addr} {o : Obj}, s.heap.get? b = some o → b ≠ a → (hidT s.heap H).get? b = some o := fun {b o} e n => hidT_get e (Classical.byContradiction fun z => n (S.at_ b z))
  have notA : ∀ {b : Addr} {o : Obj} {es : Array DictEntry} {ep : Nat}, s.heap.get? b = some o → o.data = .dict es ep → b ≠ a := fun {b o es ep} e d z => by
    subst z
    obtain rfl := Option.some.inj (ha.symm.trans e)
    cases d
  have ns' : ∀ {b : Addr} {m : Str → Option Value}, s.heap.Ns b m → (hidT s.heap H).Ns b m := fun {b m} q => by
    obtain ⟨o, es, ep, e, d, r⟩ := q
    exact ⟨o, es, ep, free e (notA e d), d, r⟩
  have kin : K.In (hidT s.heap H) := fun b o e => by
    cases q : H b with
    | none => exact hidT_get (KX b o e) q
    | some u =>
      obtain rfl := S.at_ b (by rw [q]; exact fun z => nomatch z)
      rw [S.out (by rw [q]; exact fun z => nomatch z)] at e
      cases e
  obtain ⟨mc, l1, l2⟩ := hlim
  have env0 : Env0 P w K mg (hidT s.heap H) callerA [] s H := ⟨rfl, ⟨kin, ns' hns, ⟨mb, ns' hb, hbb⟩, ⟨mc, ns' l1, l2⟩⟩, fun b o e => of_hidT e, Nat.le_of_eq (hidT_size _ _), trivial, (fun b q => nomatch q), S.ok, .of_eq hg⟩
  refine codeAny_mono ((F (hidT s.heap H)).run callerA [] s H ⟨[.ref a], []⟩ [.ref a] [.ref a] _ _ hr rfl env0 (hbind s (.ref a)) (.cons rfl .nil) (hsp H S.seq)) fun r s' h => ?_
  match r, h with
  | .error e, h => exact False.elim h
  | .ok .next, h => exact False.elim h
  | .ok .brk, h => exact False.elim h
  | .ok .cont, h => exact False.elim h
  | .ok (.ret u), h =>
    obtain ⟨v, H', os, bare, un, ok', rv, q⟩ := h
    obtain rfl : v = .bl true := q
    obtain rfl : u = Value.bool true := rv
    refine ⟨rfl, OldK.of_keep fun b o e => ?_, os, bare⟩
    rcases S.only b with z | ⟨ob, xs, z⟩
    · exact un.keep b o e z (fun q => nomatch q) (fun q => nomatch q)
    · have z2 := un.frzs b ob _ z
      have e1 := (S.ok b _ z).1
      rw [e] at e1
      cases e1
      exact (ok' b _ z2).1
def spLaw (K : PySem.W.Frag) (n : Nat) : Sp := fun vs H Q _ => ∃ (a : Addr) (ns : List Int), vs = [.ref a] ∧ ns.length ≤ n ∧ SqL K H a (ns.map V.int) ∧ ∀ H', Q (.bl true) H'
def PXc (K : PySem.W.Frag) (asc : Addr) (ns : List Int) : APr := fun _ SI => ∀ H, SI H → SqL K H asc (ns.map V.int)
/-- the state in which the creator is called -/
theorem actC {K : PySem.W.Frag} {H : Hp} {asc : Addr} {ns : List Int} (h : SqL K H asc (ns.map V.int)) : ∃ A : Act, PXc K asc ns A.F A.SI ∧ (∀ c d, ¬ A.E c d) ∧ A.G0 = (fun _ => none) ∧ A.H0 = H ∧ A.SI H := by
  rcases h with h | h
  · refine ⟨⟨fun a => a = asc, fun H => Rd H asc (.lst (ns.map V.int)), fun H1 H2 e s => ?_, fun H1 s a f => ?_, fun _ => none, H, fun _ _ => False⟩, fun H1 s => .inl s, fun _ _ z => z, rfl, rfl, h⟩
    · unfold Rd at *
      rw [e asc rfl]; exact s
    · have f : a = asc := f
      subst f
      intro z
      rcases s with s | ⟨o, s⟩ <;> (rw [z] at s; cases s)
  · exact ⟨⟨fun _ => False, fun _ => SqL K H asc (ns.map V.int), fun _ _ _ s => s, fun _ _ _ f => f.elim, fun _ => none, H, fun _ _ => False⟩, fun H1 s => .inr h, fun _ _ z => z, rfl, rfl, .inr h⟩
section
variable {X : Cx}
theorem pe_ex {ι : Type} {e : Expr} {C : ι → Prop} {t : ι → TE} (h : ∀ i, C i → PE X e (t i)) : PE X e (fun σ H Q => ∃ i, C i ∧ t i σ H Q) := ⟨fun pins s σ H Q I q => by
  obtain ⟨i, c, q⟩ := q
  exact (h i c).run pins s σ H Q I q⟩
theorem pss_ex {ι : Type} {e : List Stmt} {C : ι → Prop} {t : ι → TS} (h : ∀ i, C i → PSs X e (t i)) : PSs X e (fun D σ H => ∃ i, C i ∧ t i D σ H) := ⟨fun pins s σ H D I q => by
  obtain ⟨i, c, q⟩ := q
  exact (h i c).run pins s σ H D I q⟩
end
section
variable {K : PySem.W.Frag} {J : Type} {PX : J → APr} {hd : J → Addr}
/-- from the creator's answer the draws' own -/
def MadeOf (K : PySem.W.Frag) (PX : J → APr) (hd : J → Addr) (d : D) : Prop := ∀ (G H : Hp) (v : V), Ex G H → Rp K G v d → ∃ (j : J) (F : Addr → Prop) (SI : Hp → Prop), v = .ref (hd j) ∧ PX j F SI ∧ SI H ∧ (∀ H1 H2 : Hp, (∀ a, F a → H2 a = H1 a) → SI H1 → SI H2) ∧ ∀ H1, SI H1 → ∀ a, F a → H1 a ≠ none
def tCr (K : PySem.W.Frag) (cr : Addr → List Int → List D → T D) : TE := fun σ H Q => ∃ p : Act × Addr × List Int, (PXc K p.2.1 p.2.2 p.1.F p.1.SI ∧ ∀ c d, ¬ p.1.E c d) ∧ rd K p.1 (dC (cr p.2.1 p.2.2) (dCons (gV 0) dNil)) σ H Q
def tRest (K : PySem.W.Frag) (PX : J → APr) (hd : J → Addr) (w : Addr → Env → T Out) : TS := fun Dn σ H => ∃ p : Act × J, (PX p.2 p.1.F p.1.SI ∧ ∀ c d, ¬ p.1.E c d) ∧ rdS K p.1 (w (hd p.2)) Dn σ H
def lawE (n : Nat) (a0 : Addr) : Env := (List.replicate n Sl.un).set 1 (.val (.obj a0))
theorem law_sem {N : List Str} {m : Nat} {cr : Addr → List Int → List D → T D} {w : Addr → Env → T Out} {vs : List V} {H : Hp} {Q : VK} {E : XK} (hN : 0 < N.length)
    (hmade : ∀ (a : Addr) (ns : List Int), ns.length ≤ m → wp (cr a ns [.obj a]) (MadeOf K PX hd) (fun _ _ => False)) (fin : ∀ a0 : Addr, wp (w a0 (lawE N.length a0)) (fun o => o = .rt (.bl true)) (fun _ _ => False)) (h : spLaw K m vs H Q E) :
    tSeq (tAsg (tCr K cr) (gName 1)) (tRest K PX hd w) { nx := fun _ H' => Q .non H', rt := Q } (L2.start N vs) H := by
  obtain ⟨a, ns, rfl, hl, hS, q⟩ := h
  obtain ⟨A, h1, h2, h3, h4, h5⟩ := actC hS
  have s0 : St1 A (fun _ => none) H := ⟨Ex.refl _, (fun _ _ z => nomatch z), fun _ _ _ z => z, fun _ _ z => .inl z, h5, h5⟩
  refine ⟨(A, a, ns), ⟨h1, h2⟩, fun _ => none, startE N.length [.obj a], rel_start s0 h3 h4 (fun _ _ => rfl) (.cons (.obj a) .nil) hN, ?_⟩
  show wp (dC (cr a ns) (dCons (gV 0) dNil) (startE N.length [.obj a])) _ A.E
  have e : dC (cr a ns) (dCons (gV 0) dNil) (startE N.length [.obj a]) = cr a ns [.obj a] := by
    unfold dC dCons gV getV startE
    rfl
  rw [e]
  refine wp_mono (hmade a ns hl) (fun d hd v G' H' e1 r => ?_) fun _ _ z => z.elim
  obtain ⟨j, F, SI, rfl, p1, p2, p3, p4⟩ := hd G' H' v e1.gh r
  refine ⟨(⟨F, SI, p3, p4, fun _ => none, H', fun _ _ => False⟩, j), ⟨p1, fun _ _ z => z⟩, fun _ => none, lawE N.length (_), ⟨⟨Ex.refl _, (fun _ _ z => nomatch z), fun _ _ _ z => z, fun _ _ z => .inl z, p2, p2⟩, fun _ _ => rfl, ?_, ?_, ?_⟩, wp_mono (fin _) (fun o ho => ?_) fun _ _ z => z⟩
  · unfold lawE L2.start
    simp only [List.length_set, List.length_replicate, List.length_append, List.length_map, List.length_singleton]
    omega
  · intro i s hi
    unfold lawE at hi
    by_cases h : i = 1
    · subst h
      rw [List.getElem?_set_self'] at hi
      rw [List.getElem?_replicate] at hi
      split at hi
      · rename_i hh
        cases hi
        refine ⟨_, List.getElem?_set_self ?_, .obj _⟩
        unfold L2.start
        simp only [List.length_append, List.length_map, List.length_replicate, List.length_singleton]
        omega
      · cases hi
    · rw [List.getElem?_set_ne (Ne.symm h), List.getElem?_replicate] at hi
      split at hi
      · cases hi; trivial
      · cases hi
  · intro i k p d e hi
    exfalso
    unfold lawE at hi
    by_cases h : i = 1
    · subst h
      rw [List.getElem?_set_self', List.getElem?_replicate] at hi
      split at hi <;> cases hi
    · rw [List.getElem?_set_ne (Ne.symm h), List.getElem?_replicate] at hi
      split at hi <;> cases hi
  · subst ho
    exact fun v G2 H2 e2 r2 => by cases r2; exact q H2
end
section
variable {P : Program} {w : World} {K : PySem.W.Frag} {mg : Str → Option Value} {base : Heap}
/-- THE RULE for the law's def -/
theorem law_fn {J : Type} {PX : J → APr} {hd : J → Addr} {k m : Nat} {f : Addr} {x : Str} {fd : FuncData} {st : Stmt} {N ps : List Str} {cr : Addr → List Int → List D → T D} {wl : Addr → Env → T Out} (hp : ps.length = 1) (F : FunD K x x (defArgs st) (defBody st) (defScope st) [] [] f fd) (S : FnScope N ps (defScope st)) (hN : 0 < N.length)
    (hmade : ∀ (a : Addr) (ns : List Int), ns.length ≤ m → wp (cr a ns [.obj a]) (MadeOf K PX hd) (fun _ _ => False)) (fin : ∀ a0 : Addr, wp (wl a0 (lawE N.length a0)) (fun o => o = .rt (.bl true)) (fun _ _ => False))
    (hbody : ∀ (f : Addr) (cdv : Value) (Ar : Around) (outer : List PySem.Env) (s : Shared) (H : Hp) (E : XK), Room k (Ar.deeper (envOfC x (defScope st) s.heap.objs.size f cdv)) → (Ar.deeper (envOfC x (defScope st) s.heap.objs.size f cdv)).guards = some [] →
      PSs (cxOf CX0 P w K mg base N x (defScope st) f cdv Ar outer s H E).nox (defBody st) (tSeq (tAsg (tCr K cr) (gName 1)) (tRest K PX hd wl))) :
    FnG P w K mg base (k + 1) f fd ps (spLaw K m) := by
  obtain ⟨oc, od, dV, kV, doc, pm, an, cdv, ct, osl, rfl, lk, hcd, _, _⟩ := F.ex
  refine fnG_of lk hcd S (fun vs H Q E h => ?_) fun Ar outer s H vs Q E hr hg h => ⟨_, hbody f cdv Ar outer s H E hr hg, law_sem hN hmade fin h⟩
  obtain ⟨a, ns, rfl, _⟩ := h
  exact hp.symm
end
/-- the end: the goal behind head_any -/
theorem walk_ofG {l : PySem.W.OpenLaw} {n k : Nat} {q : Program} {loose : List Str} {XP : (Str → Option Value) → Heap → Prop} {YP : World → Heap → Prop} {d : DefRec} {x : Str}
    (hn : l.most = some n) (hn2 : n ≤ sizeLine) (hdf : d.params.defaults = []) (hr : Room k callerA)
    (F : ∀ (w : World) (mg : Str → Option Value) (fa : Addr) (h : Heap), YP w h → h.Ns mainGlobals mg → mg d.name = some (.ref fa) →
      ∃ (K : PySem.W.Frag) (fd : FuncData), K.In h ∧ (∀ (s : Shared) (u : Value), BindsTo s fd ⟨[u], []⟩ [(x, u)]) ∧ ∀ base : Heap, FnG l.prog w K mg base k fa fd [x] (spLaw K n)) :
    PySem.W.WalkO q loose XP YP l.row.toRowW d [] (fun f vs => PySem.call f vs) := by
  refine Att.attach_call hn hdf fun w s₀ s₁ mg mb fa o pm cd doc a vs ns G Y ho hd hcd hmg hobj hints hlen hg => ?_
  obtain ⟨K, fd, KX, hb, hF⟩ := F w mg fa _ Y G.T.g hmg
  exact law_callG KX G.T.g G.T.b G.T.builtins G.T.nolimit hg hobj hints (Nat.le_trans hlen hn2) hr hF hb fun H hS => ⟨a, ns, rfl, hlen, hS, fun _ => rfl⟩
end Eng

namespace Eng
open PySem PySem.Spec PyProof.Rows L2
section
variable {w w1 w2 : Env → T D} {ws : Env → T (List D)} {u v : Env → T Out} {t t1 t2 : Env → T Bool} {env : Env}
@[simp] theorem ap_cst (d : D) : cst d env = T.ret d := rfl
@[simp] theorem ap_gV (i : Nat) : gV i env = getV env i := rfl
@[simp] theorem ap_gB (i : Nat) : gB i env = getB env i := rfl
@[simp] theorem ap_dLst {w : Env → T (List D)} : dLst w env = w env >>= fun ds => T.ret (D.lst ds) := rfl
@[simp] theorem ap_dNil : dNil env = T.ret [] := rfl
@[simp] theorem ap_dCons : dCons w ws env = w env >>= fun d => ws env >>= fun ds => T.ret (d :: ds) := rfl
@[simp] theorem ap_dTup : dTup ws env = ws env >>= fun ds => T.ret (.tup ds) := rfl
@[simp] theorem ap_dB {α : Type} (f : D → D → T α) : dB f w1 w2 env = w1 env >>= fun x => w2 env >>= fun y => f x y := rfl
@[simp] theorem ap_dBl : dBl t env = t env >>= fun b => T.ret (.bl b) := rfl
@[simp] theorem ap_dU {α : Type} (f : D → T α) : dU f w env = w env >>= f := rfl
@[simp] theorem ap_dC {α : Type} (f : List D → T α) : dC f ws env = ws env >>= f := rfl
@[simp] theorem ap_dCK (f : List D → T D) (o : List Nat) (zs : Env → T (List D)) : dCK f o ws zs env = ws env >>= fun us => zs env >>= fun vs => f (pick o (us ++ vs)) := rfl
@[simp] theorem ap_dNot : dNot t env = t env >>= fun b => T.ret (!b) := rfl
@[simp] theorem ap_dAnd : dAnd t1 t2 env = t1 env >>= fun b => if b = true then t2 env else T.ret false := rfl
@[simp] theorem ap_dOr : dOr t1 t2 env = t1 env >>= fun b => if b = true then T.ret true else t2 env := rfl
@[simp] theorem ap_dAndV : dAndV w1 w2 env = w1 env >>= fun d => truthD d >>= fun b => if b = true then w2 env else T.ret d := rfl
@[simp] theorem ap_dOrV : dOrV w1 w2 env = w1 env >>= fun d => truthD d >>= fun b => if b = true then T.ret d else w2 env := rfl
@[simp] theorem ap_dNotV : dNotV w env = w env >>= fun d => truthD d >>= fun b => T.ret (.bl (!b)) := rfl
@[simp] theorem ap_dIf {α : Type} (a b : Env → T α) : dIf t a b env = t env >>= fun c => if c = true then a env else b env := rfl
@[simp] theorem ap_dSeq : dSeq u v env = u env >>= fun o => match o with
  | .nx env' => v env'
  | o => T.ret o := rfl
@[simp] theorem ap_dSkip : dSkip env = T.ret (.nx env) := rfl
@[simp] theorem ap_dF (is : List Nat) : dF is u env = u (frzs is env) := rfl
@[simp] theorem ap_dRet : dRet w env = w env >>= fun d => T.ret (.rt d) := rfl
@[simp] theorem ap_dRetN : dRetN env = T.ret (.rt .non) := rfl
@[simp] theorem ap_dSet (i : Nat) : dSet i w env = w env >>= fun d => T.ret (.nx (env.set i (.val d))) := rfl
@[simp] theorem ap_dOwn (i : Nat) : dOwn i ws env = ws env >>= fun ds => T.ret (.nx (env.set i (.own (.lst ds)))) := rfl
@[simp] theorem ap_dDrop : dDrop w env = w env >>= fun _ => T.ret (.nx env) := rfl
@[simp] theorem ap_dFor (wi : Env → T (List D)) (f : D → Env → Option Env) : dFor wi f u env = wi env >>= fun ds => forT f u ds env := rfl
@[simp] theorem ap_dComp (wi : Env → T (List D)) (f : D → Env → Option Env) (vs : List Nat) : dComp wi f t w vs env = wi env >>= fun ds => compT f t w (wipeE env vs) ds := rfl
@[simp] theorem ap_dBrk : dBrk env = T.ret (.bk env) := rfl
@[simp] theorem ap_dCnt : dCnt env = T.ret (.ct env) := rfl
end
@[simp] theorem getV_zero (d : D) (r : Env) : getV (.val d :: r) 0 = T.ret d := rfl
@[simp] theorem getV_succ (s : Sl) (r : Env) (i : Nat) : getV (s :: r) (i + 1) = getV r i := rfl
@[simp] theorem getB_zero (d : D) (r : Env) : getB (.val d :: r) 0 = T.ret d := rfl
@[simp] theorem getB_zeroO (d : D) (r : Env) : getB (.own d :: r) 0 = T.ret d := rfl
@[simp] theorem getB_succ (s : Sl) (r : Env) (i : Nat) : getB (s :: r) (i + 1) = getB r i := rfl
@[simp] theorem ownL_zero (l : List D) (r : Env) : ownL (.own (.lst l) :: r) 0 = T.ret l := rfl
@[simp] theorem ownL_succ (s : Sl) (r : Env) (i : Nat) : ownL (s :: r) (i + 1) = ownL r i := rfl
@[simp] theorem tgName_ap (i : Nat) (d : D) (env : Env) : tgName i d env = some (env.set i (.val d)) := rfl
@[simp] theorem forT_nil (f : D → Env → Option Env) (b : Env → T Out) (env : Env) : forT f b [] env = T.ret (.nx env) := rfl
/-- a loop that goes through -/
theorem forT_fold {S : Type} (mk : S → Env) (step : S → D → S) {f : D → Env → Option Env} {b : Env → T Out} : ∀ (ds : List D) (s : S), (∀ s d, d ∈ ds → ∃ e, f d (mk s) = some e ∧ b e = T.ret (.nx (mk (step s d)))) → forT f b ds (mk s) = T.ret (.nx (mk (ds.foldl step s)))
  | [], s, _ => rfl
  | d :: r, s, h => by
    obtain ⟨e, h1, h2⟩ := h s d (by simp)
    show (match f d (mk s) with
      | none => T.fail
      | some env1 => b env1 >>= fun o => match o with
        | .nx env2 => forT f b r env2
        | .ct env2 => forT f b r env2
        | .bk env2 => T.ret (.nx env2)
        | .rt d => T.ret (.rt d)) = _
    rw [h1]
    show (b e >>= _) = _
    rw [h2]
    exact forT_fold mk step r _ fun s d hd => h s d (by simp [hd])
/-- a comprehension that makes a datum of each -/
theorem compT_map {α : Type} (p : D → Bool) (y : D → α) {f : D → Env → Option Env} {t : Env → T Bool} {w : Env → T α} {env : Env} : ∀ (ds : List D), (∀ d, d ∈ ds → ∃ e, f d env = some e ∧ t e = T.ret (p d) ∧ (p d = true → w e = T.ret (y d))) → compT f t w env ds = T.ret ((ds.filter p).map y)
  | [], _ => rfl
  | d :: r, h => by
    obtain ⟨e, h1, h2, h3⟩ := h d (by simp)
    have ih := compT_map p y r fun d hd => h d (by simp [hd])
    show (match f d env with
    | none => T.fail
    | some env1 => t env1 >>= fun b => if b = true then (w env1 >>= fun y => compT f t w env r >>= fun ys => T.ret (y :: ys)) else compT f t w env r) = _
    rw [h1]
    show (t e >>= _) = _
    rw [h2]
    show (if p d = true then _ else _) = _
    cases hp : p d with
    | true => rw [if_pos rfl, h3 hp, ret_bind, ih, ret_bind, List.filter_cons_of_pos hp, List.map_cons]
    | false => rw [if_neg (by simp), ih, List.filter_cons_of_neg (by simp [hp])]
theorem compT_ints {α : Type} (p : Int → Bool) (y : Int → α) {f : D → Env → Option Env} {t : Env → T Bool} {w : Env → T α} {env : Env} : ∀ (ns : List Int), (∀ n, n ∈ ns → ∃ e, f (.int n) env = some e ∧ t e = T.ret (p n) ∧ (p n = true → w e = T.ret (y n))) → compT f t w env (ns.map D.int) = T.ret ((ns.filter p).map y)
  | [], _ => rfl
  | d :: r, h => by
    obtain ⟨e, h1, h2, h3⟩ := h d (by simp)
    have ih := compT_ints p y r fun d hd => h d (by simp [hd])
    show (match f (.int d) env with
    | none => T.fail
    | some env1 => t env1 >>= fun b => if b = true then (w env1 >>= fun y => compT f t w env (r.map D.int) >>= fun ys => T.ret (y :: ys)) else compT f t w env (r.map D.int)) = _
    rw [h1]
    show (t e >>= _) = _
    rw [h2]
    show (if p d = true then _ else _) = _
    cases hp : p d with
    | true => rw [if_pos rfl, h3 hp, ret_bind, ih, ret_bind, List.filter_cons_of_pos hp, List.map_cons]
    | false => rw [if_neg (by simp), ih, List.filter_cons_of_neg (by simp [hp])]
@[simp] theorem add_ii (i j : Int) : addD (.int i) (.int j) = T.ret (.int (i + j)) := rfl
@[simp] theorem sub_ii (i j : Int) : subD (.int i) (.int j) = T.ret (.int (i - j)) := rfl
@[simp] theorem lt_ii (i j : Int) : ltD (.int i) (.int j) = T.ret (decide (i < j)) := rfl
@[simp] theorem le_ii (i j : Int) : leD (.int i) (.int j) = T.ret (decide (i ≤ j)) := rfl
@[simp] theorem gt_ii (i j : Int) : gtD (.int i) (.int j) = T.ret (decide (j < i)) := rfl
@[simp] theorem ge_ii (i j : Int) : geD (.int i) (.int j) = T.ret (decide (j ≤ i)) := rfl
@[simp] theorem eq_ii (i j : Int) : eqD (.int i) (.int j) = T.ret (decide (i = j)) := rfl
@[simp] theorem ne_ii (i j : Int) : neD (.int i) (.int j) = T.ret (!decide (i = j)) := rfl
@[simp] theorem abs_i (i : Int) : absD [.int i] = T.ret (.int (if i < 0 then -i else i)) := rfl
@[simp] theorem int_i (i : Int) : intD [.int i] = T.ret (.int i) := rfl
@[simp] theorem int_b (b : Bool) : intD [.bl b] = T.ret (.int (if b then 1 else 0)) := rfl
@[simp] theorem len_l (l : List D) : lenD [.lst l] = T.ret (.int l.length) := rfl
@[simp] theorem len_t (l : List D) : lenD [.tup l] = T.ret (.int l.length) := rfl
@[simp] theorem items_l (l : List D) : itemsD (.lst l) = T.ret l := rfl
@[simp] theorem items_t (l : List D) : itemsD (.tup l) = T.ret l := rfl
@[simp] theorem truth_b (b : Bool) : truthD (.bl b) = T.ret b := rfl
@[simp] theorem asObj_self (a : Addr) (l : List D) : asObj a l (.obj a) = T.ret l := by
  show (if a = a then _ else _) = _
  rw [if_pos rfl]
theorem mul_small (i j : Int) (h : i.natAbs < 2 ^ 64 ∨ j.natAbs < 2 ^ 64) : mulD (.int i) (.int j) = T.ret (.int (i * j)) := by
  show (if mulOk i j = true then _ else _) = _
  rw [if_pos]
  unfold mulOk
  rcases h with h | h <;> simp [h]
theorem mod_pos (i j : Int) (h : 0 < j) : modD (.int i) (.int j) = T.ret (.int (i % j)) := by
  unfold modD
  simp [h]
theorem rpAll_ints {K : PySem.W.Frag} {G : Hp} {vs : List V} {ns : List Int} (r : RpAll K G vs (ns.map D.int)) : vs = ns.map V.int := r.ints
theorem made1 {K : PySem.W.Frag} {ds cs : List Int} {st tn : Int} (h : ds.length < cs.length) (hs : st.natAbs < 2 ^ 64) : MadeOf K (fun (j : Addr × Addr × Addr) => PX1 j.1 j.2.1 j.2.2) (fun j => j.1) (.dct [.inr "deep", .inr "cells", .inr "stir", .inr "turn"] [.lst (ds.map D.int), .lst (cs.map D.int), .int st, .int tn]) := by
  intro G H v g r
  cases r with
  | dct e l r =>
    cases r with
    | cons r1 r =>
    cases r with
    | cons r2 r =>
    cases r with
    | cons r3 r =>
    cases r with
    | cons r4 r =>
    cases r
    cases r3
    cases r4
    cases r1 with
    | lst e1 q1 =>
    cases r2 with
    | lst e2 q2 =>
    rename_i a0 a1 xs1 a2 xs2
    have x1 := rpAll_ints q1
    have x2 := rpAll_ints q2
    subst x1 x2
    refine ⟨(a0, a1, a2), F3 a0 a1 a2, Spr1 a0 a1 a2, rfl, ⟨⟨rfl, rfl⟩, ?_⟩, ⟨ds, cs, st, tn, g _ _ e, g _ _ e1, g _ _ e2, ?_, hs⟩, ?_, ?_⟩
    · intro z
      have z : a1 = a2 := z
      subst z
      rw [e1] at e2
      have := congrArg List.length (HO.lst.inj (Option.some.inj e2))
      simp only [List.length_map] at this
      omega
    · rintro rfl
      simp at h
    · rintro H1 H2 hf ⟨ds, cs, st, tn, g0, g1, g2, g3, g4⟩
      exact ⟨ds, cs, st, tn, by rw [hf a0 (.inl rfl)]; exact g0, by rw [hf a1 (.inr (.inl rfl))]; exact g1, by rw [hf a2 (.inr (.inr rfl))]; exact g2, g3, g4⟩
    · rintro H1 ⟨ds, cs, st, tn, g0, g1, g2, g3, g4⟩ a (rfl | rfl | rfl)
      · rw [g0]; exact fun z => nomatch z
      · rw [g1]; exact fun z => nomatch z
      · rw [g2]; exact fun z => nomatch z
end Eng

namespace Eng
open PySem PySem.Spec PyProof.Rows L2
mutual
/-- fit to be shown -/
def D.fit : D → Bool
  | .non | .bl _ => true
  | .int i => decide (i.natAbs.log2 < 1920)
  | .str x => x.cps.toList.all fun c => decide (c < 16 ^ 8)
  | .tup l | .lst l => fitAll l
  | .dct _ _ | .obj _ => false
def fitAll : List D → Bool
  | [] => true
  | d :: r => d.fit && fitAll r
end
mutual
def D.rz : D → Nat
  | .non => 4
  | .bl _ => 5
  | .int _ => 1921
  | .str x => 10 * x.length + 2
  | .tup l | .lst l => rzAll l + 4
  | .dct _ _ | .obj _ => 0
def rzAll : List D → Nat
  | [] => 0
  | d :: r => d.rz + 2 + rzAll r
end
mutual
def D.dep : D → Nat
  | .tup l | .lst l => depAll l + 1
  | _ => 0
def depAll : List D → Nat
  | [] => 0
  | d :: r => max d.dep (depAll r)
end
theorem reprText_le (x : Str) (h : x.cps.toList.all (fun c => decide (c < 16 ^ 8)) = true) : (reprText x).length ≤ 10 * x.length + 2 := by
  show ((x.cps.foldl (fun out c => out ++ (Builtin.Str.reprChar (reprQuote x) c).toArray) #[reprQuote x]).push (reprQuote x)).size ≤ 10 * x.cps.size + 2
  rw [Array.size_push, ← Array.foldl_toList, show x.cps.size = x.cps.toList.length from Array.length_toList.symm]
  have key : ∀ (l : List Nat) (acc : Array Nat), l.all (fun c => decide (c < 16 ^ 8)) = true → (l.foldl (fun out c => out ++ (Builtin.Str.reprChar (reprQuote x) c).toArray) acc).size ≤ acc.size + 10 * l.length := by
    intro l
    induction l with
    | nil => intro acc _; exact Nat.le_refl _
    | cons c r ih =>
      intro acc hl
      rw [List.all_cons, Bool.and_eq_true] at hl
      have h1 := ih (acc ++ (Builtin.Str.reprChar (reprQuote x) c).toArray) hl.2
      have h2 := PySem.StrLaws.reprChar_len (reprQuote x) c (of_decide_eq_true hl.1)
      rw [List.foldl_cons]
      simp only [Array.size_append, List.size_toArray] at h1
      rw [List.length_cons]
      omega
  have := key x.cps.toList #[reprQuote x] h
  have e : (#[reprQuote x] : Array Nat).size = 1 := rfl
  rw [e] at this
  omega
theorem listText_le (ts : List Str) : (listText ts).length ≤ piled ts + 4 := by
  unfold listText
  rw [strLen_append]
  have e : ((("]" : String) : Str)).length = 1 := rfl
  rw [e]
  cases ts with
  | nil => show 1 + 1 ≤ _; omega
  | cons t r =>
    have h := textFrom_length_pos r 1 (("[" : Str) ++ (if (0 : Nat) > 0 then ", " else "" : String) ++ t) (Nat.succ_pos 0)
    have e2 : (textFrom 0 "[" (t :: r)) = textFrom 1 (("[" : Str) ++ (if (0 : Nat) > 0 then ", " else "" : String) ++ t) r := rfl
    rw [e2, h, strLen_append, strLen_append, piled_cons]
    have e3 : ((("[" : String) : Str)).length = 1 := rfl
    have e4 : (((if (0 : Nat) > 0 then ", " else "" : String) : Str)).length = 0 := rfl
    rw [e3, e4]
    omega
theorem tupleText_le (ts : List Str) : (tupleText ts).length ≤ piled ts + 4 := by
  unfold tupleText
  rw [strLen_append, strLen_append]
  have e : ((("(" : String) : Str)).length = 1 := rfl
  have e2 : (((if ts.length == 1 then ",)" else ")" : String) : Str)).length ≤ 2 := by
    split <;> decide
  rw [e]
  cases ts with
  | nil => have : (Str.join ", " []).length = 0 := rfl; rw [this]; omega
  | cons t r =>
    have := join_length_add (t :: r) (by simp)
    omega
mutual
theorem shown_le : ∀ d : D, d.fit = true → d.py.shown.length ≤ d.rz
  | .non, _ => by decide
  | .bl b, _ => by cases b <;> decide
  | .int i, h => by
    have h' : i.natAbs.log2 < 1920 := of_decide_eq_true h
    have := int_text_length_le (k := 1920) (by decide) h'
    show (Str.ofString (toString i)).length ≤ 1921
    rw [PySem.ofString_length]
    exact this
  | .str x, h => reprText_le x h
  | .tup l, h => by
    have := shownAll_le l h
    exact Nat.le_trans (tupleText_le _) (by show _ ≤ rzAll l + 4; omega)
  | .lst l, h => by
    have := shownAll_le l h
    exact Nat.le_trans (listText_le _) (by show _ ≤ rzAll l + 4; omega)
  | .dct _ _, h => by cases h
  | .obj _, h => by cases h
theorem shownAll_le : ∀ l : List D, fitAll l = true → piled (PyData.shownAll (pyAll l)) ≤ rzAll l
  | [], _ => Nat.zero_le _
  | d :: r, h => by
    obtain ⟨h1, h2⟩ := Bool.and_eq_true_iff.mp (show (d.fit && fitAll r) = true from h)
    have a := shown_le d h1
    have b := shownAll_le r h2
    show piled (d.py.shown :: PyData.shownAll (pyAll r)) ≤ d.rz + 2 + rzAll r
    rw [piled_cons]
    omega
end
mutual
theorem fit_pure : ∀ d : D, d.fit = true → d.pure = true ∧ d.py.showable = true ∧ d.py.depth = d.dep
  | .non, _ => ⟨rfl, rfl, rfl⟩
  | .bl b, _ => ⟨rfl, rfl, rfl⟩
  | .int i, h => ⟨rfl, h, rfl⟩
  | .str x, _ => ⟨rfl, rfl, rfl⟩
  | .tup l, h => by
    obtain ⟨a, b, c⟩ := fitAll_pure l h
    exact ⟨a, b, by show PyData.depth (.tuple (pyAll l)) = depAll l + 1; rw [PyData.depth.eq_def]; exact congrArg (· + 1) c⟩
  | .lst l, h => by
    obtain ⟨a, b, c⟩ := fitAll_pure l h
    exact ⟨a, b, by show PyData.depth (.list (pyAll l)) = depAll l + 1; rw [PyData.depth.eq_def]; exact congrArg (· + 1) c⟩
  | .dct _ _, h => by cases h
  | .obj _, h => by cases h
theorem fitAll_pure : ∀ l : List D, fitAll l = true → pureAll l = true ∧ PyData.showableAll (pyAll l) = true ∧ PyData.depthAll (pyAll l) = depAll l
  | [], _ => ⟨rfl, rfl, rfl⟩
  | d :: r, h => by
    obtain ⟨h1, h2⟩ := Bool.and_eq_true_iff.mp (show (d.fit && fitAll r) = true from h)
    obtain ⟨a1, b1, c1⟩ := fit_pure d h1
    obtain ⟨a2, b2, c2⟩ := fitAll_pure r h2
    exact ⟨by show (d.pure && pureAll r) = true; rw [a1, a2]; rfl, by show (d.py.showable && PyData.showableAll (pyAll r)) = true; rw [b1, b2]; rfl, by
      show PyData.depthAll (d.py :: pyAll r) = max d.dep (depAll r)
      rw [PyData.depthAll.eq_def]
      show max d.py.depth _ = _
      rw [c1, c2]⟩
end
theorem repr_fit {d : D} (h : d.fit = true) (hz : d.rz ≤ 16777216) (hd : d.dep ≤ 64) : reprD [d] = T.ret (.str d.py.shown) := by
  obtain ⟨a, b, c⟩ := fit_pure d h
  show (if d.showOk = true then _ else _) = _
  rw [if_pos]
  unfold D.showOk
  rw [a, b, c, decide_eq_true hd, decide_eq_true (Nat.le_trans (shown_le d h) (by rw [sizeLine_eq]; exact hz))]
  rfl
theorem eq_ss (x y : Str) : eqD (.str x) (.str y) = T.ret (decide (x = y)) := rfl
theorem ne_ss (x y : Str) : neD (.str x) (.str y) = T.ret (!decide (x = y)) := rfl
theorem wp_draw {a0 : Addr} {n : Int} {Q : D → Prop} {E : Str → List D → Prop} (h0 : 0 < n) (h1 : n < 1073741824) (h : ∀ i : Nat, (i : Int) < n → Q (.int i)) : wp (drawT a0 [.obj a0, .int n]) Q E := by
  show wp (if _ then _ else _) Q E
  rw [if_pos ⟨rfl, h0, h1⟩]
  exact ⟨by omega, fun i hi => h i (by omega)⟩
theorem wp_forT {Q : Out → Prop} {E : Str → List D → Prop} (Inv : Env → Prop) {f : D → Env → Option Env} {b : Env → T Out} : ∀ (ds : List D), (∀ d, d ∈ ds → ∀ env, Inv env → ∃ e, f d env = some e ∧ wp (b e) (fun o => match o with
    | .nx e' => Inv e'
    | .ct e' => Inv e'
    | .bk e' => Q (.nx e')
    | .rt d => Q (.rt d)) E) → (∀ env, Inv env → Q (.nx env)) → ∀ env, Inv env → wp (forT f b ds env) Q E
  | [], _, hq, env, hi => hq env hi
  | d :: r, h, hq, env, hi => by
    obtain ⟨e, h1, h2⟩ := h d (by simp) env hi
    have ih := wp_forT Inv r (fun d hd => h d (by simp [hd])) hq
    show wp (match f d env with
      | none => T.fail
      | some env1 => b env1 >>= fun o => match o with
        | .nx env2 => forT f b r env2
        | .ct env2 => forT f b r env2
        | .bk env2 => T.ret (.nx env2)
        | .rt d => T.ret (.rt d)) Q E
    rw [h1]
    refine wp_bind.mpr (wp_imp h2 fun o ho => ?_)
    cases o with
    | nx e' => exact ih e' ho
    | ct e' => exact ih e' ho
    | bk e' => exact ho
    | rt d => exact ho
/-- a loop that goes through, by what holds -/
theorem forT_inv (Inv : Env → Prop) {f : D → Env → Option Env} {b : Env → T Out} : ∀ (ds : List D), (∀ d, d ∈ ds → ∀ env, Inv env → ∃ e e', f d env = some e ∧ b e = T.ret (.nx e') ∧ Inv e') → ∀ env, Inv env → ∃ e', forT f b ds env = T.ret (.nx e') ∧ Inv e'
  | [], _, env, hi => ⟨env, rfl, hi⟩
  | d :: r, h, env, hi => by
    obtain ⟨e, e', h1, h2, h3⟩ := h d (by simp) env hi
    obtain ⟨e2, h4, h5⟩ := forT_inv Inv r (fun d hd => h d (by simp [hd])) e' h3
    refine ⟨e2, ?_, h5⟩
    show (match f d env with
      | none => T.fail
      | some env1 => b env1 >>= fun o => match o with
        | .nx env2 => forT f b r env2
        | .ct env2 => forT f b r env2
        | .bk env2 => T.ret (.nx env2)
        | .rt d => T.ret (.rt d)) = _
    rw [h1]
    show (b e >>= _) = _
    rw [h2]
    exact h4
theorem mem_rangeD {d : D} {lo : Int} {n : Nat} (h : d ∈ rangeD lo n) : ∃ i : Nat, i < n ∧ d = .int (lo + (i : Int)) := by
  unfold rangeD at h
  obtain ⟨i, h1, h2⟩ := List.mem_map.mp h
  exact ⟨i, List.mem_range.mp h1, h2.symm⟩
theorem wp_eq {α : Type} {t : T α} {x : α} {Q : α → Prop} {E : Str → List D → Prop} (h : t = T.ret x) (q : Q x) : wp t Q E := by rw [h]; exact q
@[irreducible] def wq {α : Type} (t : T α) (Q : α → Prop) (E : Str → List D → Prop) : Prop := wp t Q E
theorem wq_wp {α : Type} {t : T α} {Q : α → Prop} {E : Str → List D → Prop} : wq t Q E ↔ wp t Q E := by unfold wq; exact Iff.rfl
@[simp] theorem wq_ret {α : Type} {a : α} {Q : α → Prop} {E : Str → List D → Prop} : wq (T.ret a) Q E ↔ Q a := wq_wp
theorem wq_bind {α β : Type} {t : T α} {f : α → T β} {Q : β → Prop} {E : Str → List D → Prop} : wq (t >>= f) Q E ↔ wq t (fun a => wq (f a) Q E) E := by
  rw [wq_wp, wp_bind, wq_wp]
  exact ⟨fun h => wp_imp h fun _ q => wq_wp.mpr q, fun h => wp_imp h fun _ q => wq_wp.mp q⟩
theorem wq_imp {α : Type} {t : T α} {Q Q' : α → Prop} {E : Str → List D → Prop} (h : wq t Q E) (hq : ∀ a, Q a → Q' a) : wq t Q' E := wq_wp.mpr (wp_imp (wq_wp.mp h) hq)
theorem wq_draw {a0 : Addr} {n : Int} {Q : D → Prop} {E : Str → List D → Prop} (h0 : 0 < n) (h1 : n < 1073741824) (h : ∀ i : Nat, (i : Int) < n → Q (.int i)) : wq (drawT a0 [.obj a0, .int n]) Q E := wq_wp.mpr (wp_draw h0 h1 h)
theorem wq_forT {Q : Out → Prop} {E : Str → List D → Prop} (Inv : Env → Prop) {f : D → Env → Option Env} {b : Env → T Out} (ds : List D) (h : ∀ d, d ∈ ds → ∀ env, Inv env → ∃ e, f d env = some e ∧ wq (b e) (fun o => match o with
    | .nx e' => Inv e'
    | .ct e' => Inv e'
    | .bk e' => Q (.nx e')
    | .rt d => Q (.rt d)) E) (hq : ∀ env, Inv env → Q (.nx env)) (env : Env) (hi : Inv env) : wq (forT f b ds env) Q E :=
  wq_wp.mpr (wp_forT Inv ds (fun d hd env hi => by
    obtain ⟨e, h1, h2⟩ := h d hd env hi
    exact ⟨e, h1, wq_wp.mp h2⟩) hq env hi)
theorem wq_eq {α : Type} {t : T α} {x : α} {Q : α → Prop} {E : Str → List D → Prop} (h : t = T.ret x) (q : Q x) : wq t Q E := by rw [h]; exact wq_ret.mpr q
def dfOf (x : Str) (st : Stmt) : He.DefD := ⟨(x, none), x, x, defArgs st, defBody st, defScope st, [], []⟩
theorem at_of {K : PySem.W.Frag} {h : Heap} {mg : Str → Option Value} {fa : List He.Fa} {fn : List He.DefD} {x : Str} {st : Stmt} (X : K.In h) (G : h.Ns mainGlobals mg) (c : He.SaysD fa fn K) (i j : Nat) (h1 : fa[i]? = some (.glo x)) (h2 : fn[j]? = some (dfOf x st)) : At K mg x st := by
  obtain ⟨fd, F⟩ := c.def_ j (d := dfOf x st) h2
  exact ⟨⟨_, fd, He.glo_ok X G (c.fact i h1), F⟩⟩
end Eng

namespace Eng
open PySem PySem.Spec PyProof.Rows L2
open Evl (Ex)
theorem ext_tup (l : Addr) (items : Array Value) (n : Nat) (b : Addr) (items2 : Array Value) (n2 : Nat) (od : Option Addr) (sl : Array (Option Value)) (hs0 : ¬(!items.isEmpty && Builtin.List.listTooLong (items.size + items2.size)) = true) (hs1 : items.size ≤ sizeLine) (hs2 : items.size + items2.size ≤ sizeLine + 1) :
    Meets (Builtin.«list.extend» ⟨[.ref l, .ref b], []⟩) (fun _ R s => s.heap.get? l = some { cls := .type "list", dict := none, data := .seq items n, slots := #[] } ∧ s.heap.get? b = some { cls := .type "tuple", dict := od, data := .seq items2 n2, slots := sl } ∧ R (.ok (.ret Value.none)) { s with heap := s.heap.update l (Obj.mapSeq fun x => x ++ items2), toks := s.toks }) :=
  .of_wp fun prog w A R st q => by
    rcases st with ⟨hp, ge, dr, tk, sys⟩
    obtain ⟨atl, atb, q⟩ := q
    have i1 := PySem.AutoSeq1.idx_int
    have i2 := PySem.AutoSeq1.sub_tuple_tuple
    have i3 := PySem.AutoSeq1.sub_list_list
    have i4 := PySem.AutoSeq1.sub_tuple_list
    have i5 := PySem.AutoSeq1.sub_list_tuple
    have room : (items ++ items2).size ≤ sizeLine + 1 := by
      rw [Array.size_append]
      exact hs2
    wp_walk using (wpAny_updateSeq atl rfl (hz := hs1) (_hz' := room)), PySem.AutoSeq1.wpAny_loadPart' atl, PySem.AutoSeq1.wpAny_loadPart' atb
    exact ⟨_, rfl, q⟩
def rExtT (K : PySem.W.Frag) : V → List V → Hp → VK → Prop := fun x vs H Q => ∃ l b xs zs, x = .ref l ∧ vs = [.ref b] ∧ H l = some (.lst xs) ∧ SqT K H b zs ∧ xs.length + zs.length ≤ sizeLine ∧ Q .non (upd H l (.lst (xs ++ zs)))
theorem mt_extT {X : Cx} : MtM X "list.extend" (rExtT X.K) := by
  intro pins s σ H x vs v us Q I rx rv h
  obtain ⟨l, b, xs, zs, rfl, rfl, hH, hB, hz, q⟩ := h
  cases rx
  obtain ⟨u, rfl, ru⟩ := rv.one
  cases ru
  obtain ⟨z, its, n, r, hl, e⟩ := I.lstM hH
  obtain ⟨its2, r2, pl, hz2⟩ := I.tuple hB
  obtain ⟨o, ho, hc, n2, hd⟩ := pl
  obtain ⟨oc, od, dt, sl⟩ := o
  obtain rfl : oc = .type "tuple" := hc
  obtain rfl : dt = .seq its2.toArray n2 := hd
  have l1 := r.length
  have l2 := r2.length
  have room : its.toArray.size + its2.toArray.size ≤ sizeLine := by rw [List.size_toArray, List.size_toArray]; omega
  have shut : ¬ (!its.toArray.isEmpty && Builtin.List.listTooLong (its.toArray.size + its2.toArray.size)) = true := by
    rw [notLongL room, Bool.and_false]
    exact Bool.false_ne_true
  refine call_meets PySem.F.slot_list_extend ⟨_, e, rfl⟩ PySem.F.entry_list_extend (PySem.F.args_list_extend_2 _ _)
    (ext_tup l its.toArray n b its2.toArray n2 od sl shut (by rw [List.size_toArray]; omega) (by omega)) ⟨e, ho, ?_⟩
  refine ⟨.non, _, I.lset (its' := its ++ its2) hH e (by simp) (r.append r2) ?_, rfl, q⟩
  rw [List.length_append]
  omega
section
variable {K : PySem.W.Frag} {A : Act} {X : Cx} {a b c e : Expr} {w : Env → T D} {pos pos' : Pos} {x : Str}
def dExt (i : Nat) (w : Env → T D) : Env → T Out := fun env => do
  let l ← ownL env i
  let d ← w env
  match d with
  | .lst r => if l.length + r.length ≤ sizeLine then T.ret (.nx (env.set i (.own (.lst (l ++ r))))) else T.fail
  | .tup r => if l.length + r.length ≤ sizeLine then T.ret (.nx (env.set i (.own (.lst (l ++ r))))) else T.fail
  | _ => T.fail
theorem s_ext (i : Nat) {apos p : Pos} (hN : X.N[i]? = some x) (hv : Vis X.env.scope x) (he : PE X e (rd X.K A w)) (hd : (x == ("__debug__" : Str)) = false := by decide) (hcd : (x == ("__classdict__" : Str)) = false := by decide)
    (hbase : attributeBase (.Name x p) "extend" X.env (eval (.Name x p) X.env) = eval (.Name x p) X.env := by rfl)
    (hfew : ((backTo pos (starEach [e] X.env)).all (fun x => !x.1) && (backToKw pos (keywordEach [] X.env)).all (fun x => x.1.isSome) && decide (([e] : List Expr).length + ([] : List Keyword).length + (if ([] : List Keyword).isEmpty then 0 else 1) < 30)) = true := by rfl)
    (hline : (apos.endLine == pos.line) = true := by rfl) (hs : starEach [e] X.env = (false, eval e X.env) :: starEach [] X.env := by rfl) :
    PS X (.Expr (.Call (.Attribute (.Name x p) "extend" apos) [e] [] pos) pos') (rdS X.K A (dExt i w)) :=
  (ps_expr (pe_bm PySem.F.plainAttrs_list PySem.F.slot_list_extend PySem.F.type_list_extend (MtR.or (X := X) mt_extend mt_extT) (pe_var hN hv hd hcd) (pa_cons he pa_nil hs) hbase hfew hline hs rfl) rfl).imp fun Dn σ H h => by
    obtain ⟨G, env, R, h⟩ := h
    obtain ⟨l, hl, h0⟩ := ownL_wp (wp_bind.mp h)
    obtain ⟨p, vs, h1, h2, h3⟩ := R.ownL hl
    refine ⟨.ref p, h1, .inl ⟨rfl, vs, SqL.of h2⟩, G, env, R, wp_imp (wp_bind.mp h0) fun d q v G1 H1 e1 r1 => ?_⟩
    have R1 := R.ext e1
    obtain ⟨p', vs', h1', h2', h3'⟩ := R1.ownL hl
    rw [h1] at h1'
    cases h1'
    cases d with
    | lst r =>
      have q : wp (if l.length + r.length ≤ sizeLine then T.ret (.nx (env.set i (.own (.lst (l ++ r))))) else T.fail) (EndOk X.K A G Dn) A.E := q
      split at q
      · rename_i hlt
        cases r1 with
        | lst g1 g2 => exact .inl ⟨p, _, vs', _, rfl, rfl, h2', R1.st.gh _ _ g1, by rw [h3'.length, g2.length]; exact hlt, q σ G1 _ e1.gg (R1.mut hl h1 (.lst (h3'.append g2)))⟩
      · exact q.elim
    | tup r =>
      have q : wp (if l.length + r.length ≤ sizeLine then T.ret (.nx (env.set i (.own (.lst (l ++ r))))) else T.fail) (EndOk X.K A G Dn) A.E := q
      split at q
      · rename_i hlt
        cases r1 with
        | tup g1 g2 => exact .inr ⟨p, _, vs', _, rfl, rfl, h2', Evl.ex_t R1.st.gh g1, by rw [h3'.length, g2.length]; exact hlt, q σ G1 _ e1.gg (R1.mut hl h1 (.lst (h3'.append g2)))⟩
      · exact q.elim
    | _ => exact q.elim
def dPar3 (i j k : Nat) (ws : Env → T (List D)) : Env → T Out := fun env => ws env >>= fun ds => match ds with
  | [d, e, f] => T.ret (.nx (((env.set i (.val d)).set j (.val e)).set k (.val f)))
  | _ => T.fail
theorem s_par3 (i j k : Nat) {y z : Str} {ws : Env → T (List D)} {px py pz pt : Pos} {kt k2 : Nat} {pt2 : Pos} (hc : X.calm = true) (hN : X.N.Nodup) (hi : X.N[i]? = some x) (hj : X.N[j]? = some y) (hk : X.N[k]? = some z) (hij : i ≠ j) (hik : i ≠ k) (hjk : j ≠ k)
    (hx : X.env.scope.names.lookup x = some .local) (hy : X.env.scope.names.lookup y = some .local) (hz : X.env.scope.names.lookup z = some .local) (ha : PA X [a, b, c] (rdA X.K A 3 ws))
    (hw : swappedStores [.Tuple [.Name x px, .Name y py, .Name z pz] kt pt] (.Tuple [a, b, c] k2 pt2) X.env = pure (some [x, y, z]))
    (hs : swapsWithSole [.Tuple [.Name x px, .Name y py, .Name z pz] kt pt] (.Tuple [a, b, c] k2 pt2) pos.line X.env = pure false := by rfl) :
    PS X (.Assign [.Tuple [.Name x px, .Name y py, .Name z pz] kt pt] (.Tuple [a, b, c] k2 pt2) pos) (rdS X.K A (dPar3 i j k ws)) := (ps_par3 hc hN hi hj hk hij hik hjk hx hy hz ha hw hs).imp fun Dn σ H h => by
  obtain ⟨G, env, R, h⟩ := h
  refine ⟨G, env, R, wp_imp (wp_bind.mp h) fun ds q vs G1 H1 e1 r1 l1 => ?_⟩
  split at q
  · cases r1 with
    | cons ra rb =>
      cases rb with
      | cons rb rc =>
        cases rc with
        | cons rc rd =>
          cases rd
          exact ⟨_, _, _, rfl, q _ G1 H1 e1.gg ((((R.ext e1).set ra).set rb).set rc)⟩
  · exact q.elim
end
end Eng

namespace Eng
open PySem PySem.Spec PyProof.Rows L2
open Evl (Ex)
section
variable {K : PySem.W.Frag} {A : Act} {X : Cx} {a b c e : Expr} {w we wa wb : Env → T D} {pos pos' p : Pos} {x : Str} {ts : List (Str × D)}
def kixD (ts : List (Str × D)) : D → T D
  | .str z => (match ts.lookup z with
    | some d => T.ret d
    | none => T.fail)
  | _ => T.fail
theorem r_kix (kd : Kd X.K X.w X.mg x ts) (hg : Gl X x) (he : PE X e (rd X.K A we)) (hs : PlainIx e := by intro _ _; rfl) (hd : (x == ("__debug__" : Str)) = false := by decide) : PE X (.Subscript (.Name x p) e pos) (rd X.K A (dU (kixD ts) we)) := by
  obtain ⟨q, es, n, h1, h2, h3⟩ := kd.ex
  refine (pe_ix ix_kdict (pe_glob (v := .ref q) hg h1 rfl hd) he hs).imp fun σ H Q h => ?_
  obtain ⟨G, env, R, h⟩ := h
  refine ⟨G, env, R, wp_imp (wp_bind.mp h) fun d h v G1 H1 e1 r1 => ?_⟩
  cases d with
  | str z =>
    have h : wp (match ts.lookup z with | some d => T.ret d | none => T.fail) _ A.E := h
    cases r1
    rcases h3 z with ⟨u, v, d, g1, g2, g3, g4⟩ | ⟨g1, g2⟩
    · rw [g2] at h
      exact ⟨q, z, v, rfl, rfl, ⟨es, n, u, h2.at_, h2.lit, g1, g3⟩, h v G1 H1 e1 (g4 G1)⟩
    · rw [g2] at h
      exact h.elim
  | _ => exact h.elim
def kinD (ts : List (Str × D)) : D → T Bool
  | .str z => T.ret (ts.lookup z).isSome
  | _ => T.fail
def knotD (ts : List (Str × D)) : D → T Bool
  | .str z => T.ret (!(ts.lookup z).isSome)
  | _ => T.fail
theorem kin_run {Q : V → Hp → Prop} {σ : L2.St} {H : Hp} {q : Addr} {k : Bool → Bool} (h3 : ∀ z : Str, (∃ u v d, PySem.W.nsIn X.K q z = some (some u) ∧ ts.lookup z = some d ∧ RelV v u ∧ ∀ G, Rp X.K G v d) ∨ (PySem.W.nsIn X.K q z = some none ∧ ts.lookup z = none)) (z : Str) (h : Q (.bl (k (ts.lookup z).isSome)) H) :
    ∃ (z' : Str) (r : Option Value), (V.str z) = .str z' ∧ (V.ref q) = .ref q ∧ PySem.W.nsIn X.K q z' = some r ∧ Q (.bl (k r.isSome)) H := by
  rcases h3 z with ⟨u, v, d, g1, g2, g3, g4⟩ | ⟨g1, g2⟩
  · rw [g2] at h
    exact ⟨z, some u, rfl, rfl, g1, h⟩
  · rw [g2] at h
    exact ⟨z, none, rfl, rfl, g1, h⟩
theorem t_kin (kd : Kd X.K X.w X.mg x ts) (hg : Gl X x) (he : PE X e (rd X.K A we)) (hd : (x == ("__debug__" : Str)) = false := by decide) : PT X (.Compare e [.In] [.Name x p] pos) (rdT X.K A (dU (kinD ts) we)) := by
  obtain ⟨q, es, n, h1, h2, h3⟩ := kd.ex
  refine (pt_cmpR (op_in_kd h2) he (pe_glob (v := .ref q) hg h1 rfl hd) rfl).imp fun σ H Q h => ?_
  obtain ⟨G, env, R, h⟩ := h
  refine ⟨G, env, R, wp_imp (wp_bind.mp h) fun d h v G1 H1 e1 r1 => ?_⟩
  cases d with
  | str z =>
    have h : ∀ G' H', Ext A G H G' H' → Q (ts.lookup z).isSome H' := h
    cases r1
    exact kin_run (σ := σ) (k := fun b => b) (Q := fun v H' => ∃ k, v = .bl k ∧ Q k H') h3 z ⟨_, rfl, h _ _ e1⟩
  | _ => exact h.elim
theorem t_knot (kd : Kd X.K X.w X.mg x ts) (hg : Gl X x) (he : PE X e (rd X.K A we)) (hd : (x == ("__debug__" : Str)) = false := by decide) : PT X (.Compare e [.NotIn] [.Name x p] pos) (rdT X.K A (dU (knotD ts) we)) := by
  obtain ⟨q, es, n, h1, h2, h3⟩ := kd.ex
  refine (pt_cmpR (op_notIn_kd h2) he (pe_glob (v := .ref q) hg h1 rfl hd) rfl).imp fun σ H Q h => ?_
  obtain ⟨G, env, R, h⟩ := h
  refine ⟨G, env, R, wp_imp (wp_bind.mp h) fun d h v G1 H1 e1 r1 => ?_⟩
  cases d with
  | str z =>
    have h : ∀ G' H', Ext A G H G' H' → Q (!(ts.lookup z).isSome) H' := h
    cases r1
    exact kin_run (σ := σ) (k := fun b => !b) (Q := fun v H' => ∃ k, v = .bl k ∧ Q k H') h3 z ⟨_, rfl, h _ _ e1⟩
  | _ => exact h.elim
def isBlD (a b : D) : T Bool := match a, b with
  | .bl i, .bl j => T.ret (decide (i = j))
  | _, _ => T.fail
def notBlD (a b : D) : T Bool := match a, b with
  | .bl i, .bl j => T.ret (!decide (i = j))
  | _, _ => T.fail
theorem opC_isBl : OpC K A (fun x y H Q => ∃ a b, x = .bl a ∧ y = .bl b ∧ Q (.bl (decide (a = b))) H) isBlD := by
  intro G H x y dx dy Q s hx hy h
  unfold isBlD at h
  split at h
  · exact ⟨_, _, hx.bl, hy.bl, h⟩
  · exact h.elim
theorem opC_notBl : OpC K A (fun x y H Q => ∃ a b, x = .bl a ∧ y = .bl b ∧ Q (.bl (!decide (a = b))) H) notBlD := by
  intro G H x y dx dy Q s hx hy h
  unfold notBlD at h
  split at h
  · exact ⟨_, _, hx.bl, hy.bl, h⟩
  · exact h.elim
def isTop (m : Int) (ns : List Int) : Bool := decide (m ∈ ns) && ns.all fun y => decide (y ≤ m)
def maxI : List Int → Int
  | [] => 0
  | [x] => x
  | x :: r => if x ≤ maxI r then maxI r else x
def minI : List Int → Int
  | [] => 0
  | [x] => x
  | x :: r => if minI r ≤ x then minI r else x
theorem maxI_le : ∀ (ns : List Int) (y : Int), y ∈ ns → y ≤ maxI ns
  | [], y, h => by cases h
  | [x], y, h => by simp at h; subst h; exact Int.le_refl _
  | x :: z :: r, y, h => by
    have ih := maxI_le (z :: r)
    show y ≤ if x ≤ maxI (z :: r) then maxI (z :: r) else x
    rcases List.mem_cons.mp h with rfl | h
    · split <;> omega
    · have := ih y h
      split <;> omega
theorem minI_le : ∀ (ns : List Int) (y : Int), y ∈ ns → minI ns ≤ y
  | [], y, h => by cases h
  | [x], y, h => by simp at h; subst h; exact Int.le_refl _
  | x :: z :: r, y, h => by
    have ih := minI_le (z :: r)
    show (if minI (z :: r) ≤ x then minI (z :: r) else x) ≤ y
    rcases List.mem_cons.mp h with rfl | h
    · split <;> omega
    · have := ih y h
      split <;> omega
theorem maxI_mem : ∀ (ns : List Int), ns ≠ [] → maxI ns ∈ ns
  | [], h => absurd rfl h
  | [x], _ => by simp [maxI]
  | x :: z :: r, _ => by
    have ih := maxI_mem (z :: r) (by simp)
    show (if x ≤ maxI (z :: r) then maxI (z :: r) else x) ∈ x :: z :: r
    split
    · exact List.mem_cons_of_mem _ ih
    · exact List.mem_cons_self
theorem minI_mem : ∀ (ns : List Int), ns ≠ [] → minI ns ∈ ns
  | [], h => absurd rfl h
  | [x], _ => by simp [minI]
  | x :: z :: r, _ => by
    have ih := minI_mem (z :: r) (by simp)
    show (if minI (z :: r) ≤ x then minI (z :: r) else x) ∈ x :: z :: r
    split
    · exact List.mem_cons_of_mem _ ih
    · exact List.mem_cons_self
def maxLD : List D → T D
  | [.lst l] => (match intsOf l with
    | some ns => if ns = [] then T.fail else T.ret (.int (maxI ns))
    | none => T.fail)
  | _ => T.fail
def minLD : List D → T D
  | [.lst l] => (match intsOf l with
    | some ns => if ns = [] then T.fail else T.ret (.int (minI ns))
    | none => T.fail)
  | _ => T.fail
theorem ca_maxL : CaD K A (rMax K) maxLD := by
  intro G H vs ds Q s hp h
  unfold maxLD at h
  split at h
  · obtain ⟨v, rfl, r⟩ := Paired.one hp
    split at h
    · rename_i ns hn
      split at h
      · exact h.elim
      · rename_i hne
        obtain ⟨p, us, rfl, h1, h2⟩ := r.lst s.gh
        rw [intsOf_eq hn] at h2
        have e := h2.ints
        subst e
        refine ⟨p, ns, rfl, SqL.of h1, List.length_pos_iff.mpr hne, fun m hm hall => ?_⟩
        have e : m = maxI ns := Int.le_antisymm (maxI_le ns m hm) (hall _ (maxI_mem ns hne))
        rw [e]
        exact h _ _ _ s (.int _)
    · exact h.elim
  · exact h.elim
theorem ca_minL : CaD K A (rMin K) minLD := by
  intro G H vs ds Q s hp h
  unfold minLD at h
  split at h
  · obtain ⟨v, rfl, r⟩ := Paired.one hp
    split at h
    · rename_i ns hn
      split at h
      · exact h.elim
      · rename_i hne
        obtain ⟨p, us, rfl, h1, h2⟩ := r.lst s.gh
        rw [intsOf_eq hn] at h2
        have e := h2.ints
        subst e
        refine ⟨p, ns, rfl, SqL.of h1, List.length_pos_iff.mpr hne, fun m hm hall => ?_⟩
        have e : m = minI ns := Int.le_antisymm (hall _ (minI_mem ns hne)) (minI_le ns m hm)
        rw [e]
        exact h _ _ _ s (.int _)
    · exact h.elim
  · exact h.elim
end
end Eng

namespace Eng
open PySem PySem.Spec PyProof.Rows L2
open Evl (Ex)
theorem depthAll_ints (ns : List Int) : PyData.depthAll (ns.map PyData.int) = 0 := by
  induction ns with
  | nil => rfl
  | cons d r ih => rw [List.map_cons, PyData.depthAll.eq_def]; show max 0 _ = 0; rw [ih]; rfl
theorem alike_ints (ns : List Int) : PySem.W.AlikeAll (ns.map PyData.int) := by
  refine ⟨fun x hx y hy => ?_, fun x hx => ?_⟩
  · obtain ⟨i, _, rfl⟩ := List.mem_map.mp hx
    obtain ⟨j, _, rfl⟩ := List.mem_map.mp hy
    rfl
  · obtain ⟨i, _, rfl⟩ := List.mem_map.mp hx
    exact fun z => nomatch z
def rMaxT (K : PySem.W.Frag) : List V → Hp → VK → Prop := fun vs H Q => ∃ (a : Addr) (n : Int) (ns : List Int), vs = [V.ref a] ∧ SqT K H a ((n :: ns).map V.int) ∧ Q (.int (ns.foldl max n)) H
def rMinT (K : PySem.W.Frag) : List V → Hp → VK → Prop := fun vs H Q => ∃ (a : Addr) (n : Int) (ns : List Int), vs = [V.ref a] ∧ SqT K H a ((n :: ns).map V.int) ∧ Q (.int (ns.foldl min n)) H
theorem tup_reads {X : Cx} {pins : List (Addr × Obj)} {σ : L2.St} {H : Hp} {s : Shared} (I : Inv X pins σ H s) {a : Addr} {ns : List Int} (h : SqT X.K H a (ns.map V.int)) : ∃ vs as, s.heap.IsTuple a vs ∧ ReadsAll s.heap vs.toList (ns.map PyData.int) as := by
  obtain ⟨as, rr⟩ := Dp.reads I (.tuple (ns.map PyData.int)) (.ref a) (.ref a) (.tup h (dp_ints ns)) rfl
  cases rr with
  | tuple h1 h2 h3 h4 => exact ⟨_, _, ⟨_, h1, h2, _, h3⟩, h4⟩
theorem cr_maxT {X : Cx} (hc : X.calm = true) (hu : X.A.units + 64 < cLine) : CallR X (.builtin "max") (rMaxT X.K) := by
  intro pins s σ H vs us Q I r h
  obtain ⟨a, n, ns, rfl, hs, q⟩ := h
  obtain ⟨ws, as, h1, h2⟩ := tup_reads I hs
  rw [Vals.ref1 r]
  refine PySem.W.max_tuple_data (x := .int n) (xs := ns.map PyData.int) (I.ok.hd hc) h1 h2 (alike_ints (n :: ns)) (by show X.A.units + 1 + PyData.depthAll ((n :: ns).map PyData.int) < cLine; rw [depthAll_ints]; omega) fun i v h' tk bs _ hr hk => ?_
  rw [PySem.W.maxD_ints] at hr
  cases hr
  exact ⟨.int _, H, I.kept hk, ⟨_, rfl⟩, q⟩
theorem cr_minT {X : Cx} (hc : X.calm = true) (hu : X.A.units + 64 < cLine) : CallR X (.builtin "min") (rMinT X.K) := by
  intro pins s σ H vs us Q I r h
  obtain ⟨a, n, ns, rfl, hs, q⟩ := h
  obtain ⟨ws, as, h1, h2⟩ := tup_reads I hs
  rw [Vals.ref1 r]
  refine PySem.W.min_tuple_data (x := .int n) (xs := ns.map PyData.int) (I.ok.hd hc) h1 h2 (alike_ints (n :: ns)) (by show X.A.units + 1 + PyData.depthAll ((n :: ns).map PyData.int) < cLine; rw [depthAll_ints]; omega) fun i v h' tk bs _ hr hk => ?_
  rw [PySem.W.minD_ints] at hr
  cases hr
  exact ⟨.int _, H, I.kept hk, ⟨_, rfl⟩, q⟩
section
variable {K : PySem.W.Frag} {A : Act} {X : Cx} {a b c e : Expr} {w we wa wb : Env → T D} {pos pos' p apos : Pos} {x : Str}
def maxTD : List D → T D
  | [.tup l] => (match intsOf l with
    | some (n :: ns) => T.ret (D.int (ns.foldl max n))
    | _ => T.fail)
  | _ => T.fail
def minTD : List D → T D
  | [.tup l] => (match intsOf l with
    | some (n :: ns) => T.ret (D.int (ns.foldl min n))
    | _ => T.fail)
  | _ => T.fail
/-- of a list or a tuple -/
def maxD1 : List D → T D
  | [.tup l] => maxTD [.tup l]
  | ds => maxLD ds
def minD1 : List D → T D
  | [.tup l] => minTD [.tup l]
  | ds => minLD ds
theorem ca_maxT {G H : Hp} {v : V} {l : List D} {Q : VK} (s : St1 A G H) (r : Rq K A G H v (.tup l)) (h : wp (maxTD [.tup l]) (fun d => ∀ v G' H', Ext A G H G' H' → Rp K G' v d → Q v H') A.E) : rMaxT K [v] H Q := by
  have h : wp (match intsOf l with | some (n :: ns) => T.ret (D.int (ns.foldl max n)) | _ => T.fail) _ A.E := h
  split at h
  · rename_i n ns hn
    obtain ⟨p, us, rfl, h1, h2⟩ := r.tup s.gh
    rw [intsOf_eq hn] at h2
    have e := h2.ints
    subst e
    exact ⟨p, n, ns, rfl, h1, h _ _ _ s (.int _)⟩
  · exact h.elim
theorem ca_minT {G H : Hp} {v : V} {l : List D} {Q : VK} (s : St1 A G H) (r : Rq K A G H v (.tup l)) (h : wp (minTD [.tup l]) (fun d => ∀ v G' H', Ext A G H G' H' → Rp K G' v d → Q v H') A.E) : rMinT K [v] H Q := by
  have h : wp (match intsOf l with | some (n :: ns) => T.ret (D.int (ns.foldl min n)) | _ => T.fail) _ A.E := h
  split at h
  · rename_i n ns hn
    obtain ⟨p, us, rfl, h1, h2⟩ := r.tup s.gh
    rw [intsOf_eq hn] at h2
    have e := h2.ints
    subst e
    exact ⟨p, n, ns, rfl, h1, h _ _ _ s (.int _)⟩
  · exact h.elim
theorem ca_max1 : CaD K A (fun vs H Q => rMax K vs H Q ∨ rMaxT K vs H Q) maxD1 := by
  intro G H vs ds Q s hp h
  unfold maxD1 at h
  split at h
  · obtain ⟨v, rfl, r⟩ := Paired.one hp
    exact .inr (ca_maxT s r h)
  · exact .inl (ca_maxL G H vs ds Q s hp h)
theorem ca_min1 : CaD K A (fun vs H Q => rMin K vs H Q ∨ rMinT K vs H Q) minD1 := by
  intro G H vs ds Q s hp h
  unfold minD1 at h
  split at h
  · obtain ⟨v, rfl, r⟩ := Paired.one hp
    exact .inr (ca_minT s r h)
  · exact .inl (ca_minL G H vs ds Q s hp h)
theorem call_or {u : Value} {r r' : RL} (h : CallR X u r) (h' : CallR X u r') : CallR X u (fun vs H Q => r vs H Q ∨ r' vs H Q) := fun pins s σ H vs us Q I rv q => by
  rcases q with q | q
  · exact h pins s σ H vs us Q I rv q
  · exact h' pins s σ H vs us Q I rv q
def strsOf : List D → Option (List Str)
  | [] => some []
  | .str x :: r => (strsOf r).map (x :: ·)
  | _ :: _ => none
theorem strsOf_eq : ∀ {l : List D} {ns : List Str}, strsOf l = some ns → l = ns.map D.str
  | [], ns, h => by cases h; rfl
  | d :: r, ns, h => by
    cases d with
    | str x =>
      have h : (strsOf r).map (x :: ·) = some ns := h
      cases q : strsOf r with
      | none => rw [q] at h; cases h
      | some ms =>
        rw [q] at h
        cases h
        rw [strsOf_eq q]; rfl
    | _ => cases h
theorem RpAll.strs {G : Hp} : ∀ {vs : List V} {ns : List Str}, RpAll K G vs (ns.map D.str) → vs = ns.map V.str
  | _, [], .nil => rfl
  | _, n :: ns, .cons (.str _) r => by rw [RpAll.strs r]; rfl
theorem rpAll_strs {G : Hp} : ∀ ns : List Str, RpAll K G (ns.map V.str) (ns.map D.str)
  | [] => .nil
  | n :: ns => .cons (.str n) (rpAll_strs ns)
def splitN (x y : D) : T (List D) := match x, y with
  | .str a, .str b => if (b.length == 0) = false ∧ a.length + 2 ≤ sizeLine then T.ret ((Txt.split a b).map D.str) else T.fail
  | _, _ => T.fail
def joinD (x y : D) : T D := match x, y with
  | .str a, .lst l => (match strsOf l with
    | some ys => if (ys.map (·.length)).sum + ys.length * a.length ≤ 16777216 then T.ret (.str (Txt.join a ys)) else T.fail
    | none => T.fail)
  | .str a, .tup l => (match strsOf l with
    | some ys => if (ys.map (·.length)).sum + ys.length * a.length ≤ 16777216 then T.ret (.str (Txt.join a ys)) else T.fail
    | none => T.fail)
  | _, _ => T.fail
end
end Eng

namespace Eng
open PySem PySem.Spec PyProof.Rows L2
open Evl (Ex)
def Spr2 (a0 a1 a2 : Addr) (H : Hp) : Prop := ∃ (ds cs : List Int) (sm tn : Int), H a0 = some (.lst [.ref a1, .ref a2, .int sm, .int tn]) ∧ H a1 = some (.lst (ds.map V.int)) ∧ H a2 = some (.lst (cs.map V.int)) ∧ cs ≠ []
def PX2 (a0 a1 a2 : Addr) : APr := fun F SI => (F = F3 a0 a1 a2 ∧ SI = Spr2 a0 a1 a2) ∧ a1 ≠ a2
theorem ints_ne {ds : List Int} {a : Addr} {r : List V} : ds.map V.int ≠ .ref a :: r := by
  cases ds with
  | nil => exact fun z => nomatch z
  | cons d r => exact fun z => nomatch z
theorem spr2_ne {H : Hp} {a0 a1 : Addr} {x : Addr} {r : List V} {ds : List Int} (h0 : H a0 = some (.lst (.ref x :: r))) (h1 : H a1 = some (.lst (ds.map V.int))) : a0 ≠ a1 := by
  rintro rfl
  rw [h0] at h1
  exact ints_ne (HO.lst.inj (Option.some.inj h1)).symm
theorem made2 {K : PySem.W.Frag} {ds cs : List Int} {sm tn : Int} (h : ds.length < cs.length) : MadeOf K (fun (j : Addr × Addr × Addr) => PX2 j.1 j.2.1 j.2.2) (fun j => j.1) (.lst [.lst (ds.map D.int), .lst (cs.map D.int), .int sm, .int tn]) := by
  intro G H v g r
  cases r with
  | lst e r =>
    cases r with
    | cons r1 r =>
    cases r with
    | cons r2 r =>
    cases r with
    | cons r3 r =>
    cases r with
    | cons r4 r =>
    cases r
    cases r3
    cases r4
    cases r1 with
    | lst e1 q1 =>
    cases r2 with
    | lst e2 q2 =>
    rename_i a0 a1 xs1 a2 xs2
    have x1 := rpAll_ints q1
    have x2 := rpAll_ints q2
    subst x1 x2
    refine ⟨(a0, a1, a2), F3 a0 a1 a2, Spr2 a0 a1 a2, rfl, ⟨⟨rfl, rfl⟩, ?_⟩, ⟨ds, cs, sm, tn, g _ _ e, g _ _ e1, g _ _ e2, ?_⟩, ?_, ?_⟩
    · intro z
      have z : a1 = a2 := z
      subst z
      rw [e1] at e2
      have := congrArg List.length (HO.lst.inj (Option.some.inj e2))
      simp only [List.length_map] at this
      omega
    · rintro rfl
      simp at h
    · rintro H1 H2 hf ⟨ds, cs, sm, tn, g0, g1, g2, g3⟩
      exact ⟨ds, cs, sm, tn, by rw [hf a0 (.inl rfl)]; exact g0, by rw [hf a1 (.inr (.inl rfl))]; exact g1, by rw [hf a2 (.inr (.inr rfl))]; exact g2, g3⟩
    · rintro H1 ⟨ds, cs, sm, tn, g0, g1, g2, g3⟩ a (rfl | rfl | rfl)
      · rw [g0]; exact fun z => nomatch z
      · rw [g1]; exact fun z => nomatch z
      · rw [g2]; exact fun z => nomatch z
theorem atI_0 {α : Type} (x : α) (r : List α) : atI (x :: r) 0 = some x := by
  unfold atI ixN
  rw [if_pos (by decide), if_pos (by rw [List.length_cons]; omega)]
  rfl
theorem ixN_0 {n : Nat} (h : 0 < n) : ixN n 0 = some 0 := by
  unfold ixN
  rw [if_pos (by decide), if_pos (by omega)]
  rfl
theorem sq4 (a b c d : V) : (atI [a, b, c, d] 0 = some a ∧ atI [a, b, c, d] 1 = some b) ∧ (atI [a, b, c, d] 2 = some c ∧ atI [a, b, c, d] 3 = some d) := ⟨⟨rfl, rfl⟩, rfl, rfl⟩
end Eng

namespace Eng
open PySem PySem.Spec PyProof.Rows L2
open Evl (Ex)
theorem sum_tup {prog : Program} {w : World} {A : Around} {E : Value → Shared → Prop} {s : Shared} {l : Addr} {its : List Value} {ns : List Int} {Q : Value → Shared → Prop} (hh : A.handled = none) (hl : s.heap.IsTuple l its.toArray) (hi : IntsAre its ns)
    (h : ∀ h' tk t', (∀ b o, s.heap.get? b = some o → h'.get? b = some o) → Q (.int ns.sum t') { s with heap := h', toks := tk }) : wpAny (model prog w) A (call (.builtin "sum") [.ref l]) Q E s := by
  obtain ⟨xs, e⟩ := hi.allInts.items
  have hn : numsOf (intItems xs).toList = ns := by rw [← e]; exact hi.numsOf
  rw [nums_intItems] at hn
  rw [e] at hl
  have hlt : l < s.heap.objs.size := by
    obtain ⟨_, z, _⟩ := hl
    exact Heap.lt_size z
  refine call_sum_walkG (wpAny_pyIter_tuple hl ?_)
  refine ⟨_, _, _, _, _, _, numAt xs, rfl, Walks.tuple (A := A.in1) hh _ l (Nat.ne_of_lt hlt) (intItems xs), ⟨⟨_, Heap.get?_push_size _ rfl, rfl, rfl⟩, hl.push _⟩, fun b hb => ?_, (fun _ _ => intItems_at), fun h' tk t' hk => ?_⟩
  · show b < (s.heap.push _).objs.size
    rw [Heap.size_push]
    rcases List.mem_cons.mp hb with rfl | hb
    · exact Nat.lt_succ_self _
    · rcases List.mem_cons.mp hb with rfl | hb
      · exact Nat.lt_succ_of_lt hlt
      · cases hb
  · have old : ∀ b o, s.heap.get? b = some o → h'.get? b = some o := fun b o z => hk b o (fun hm => by
      rcases List.mem_cons.mp hm with q | hm
      · have := Heap.lt_size z
        rw [q] at this
        exact Nat.lt_irrefl _ this
      · cases hm) (Heap.get?_push_of_some _ z)
    have := h h' tk t' old
    rw [← hn] at this
    rw [preSum_eq]
    rw [List.take_of_length_le (by simp [intItems])]
    exact this
def rSumT (K : PySem.W.Frag) : List V → Hp → VK → Prop := fun vs H Q => ∃ (a : Addr) (ns : List Int), vs = [V.ref a] ∧ SqT K H a (ns.map V.int) ∧ Q (.int ns.sum) H
theorem cr_sumT {X : Cx} (hc : X.calm = true) : CallR X (.builtin "sum") (rSumT X.K) := by
  intro pins s σ H vs us Q I r h
  obtain ⟨a, ns, rfl, hs, q⟩ := h
  obtain ⟨its, rv, hl, _⟩ := I.tuple hs
  rw [Vals.ref1 r]
  exact sum_tup (I.ok.hd hc) hl rv.ints fun h' tk t' hk => ⟨.int _, H, I.kept hk, ⟨_, rfl⟩, q⟩
def sum1D : List D → T D
  | [.tup l] => (match intsOf l with
    | some ns => T.ret (.int ns.sum)
    | none => T.fail)
  | ds => sumD ds
theorem ca_sum1 {K : PySem.W.Frag} {A : Act} : CaD K A (fun vs H Q => rSum K vs H Q ∨ rSumT K vs H Q) sum1D := by
  intro G H vs ds Q s hp h
  unfold sum1D at h
  split at h
  · obtain ⟨v, rfl, r⟩ := Paired.one hp
    split at h
    · rename_i ns hn
      obtain ⟨p, us, rfl, h1, h2⟩ := r.tup s.gh
      rw [intsOf_eq hn] at h2
      have e := h2.ints
      subst e
      exact .inr ⟨p, ns, rfl, h1, h _ _ _ s (.int _)⟩
    · exact h.elim
  · exact .inl (ca_sum G H vs ds Q s hp h)
end Eng

namespace Eng
open PySem PySem.Spec PyProof.Rows L2
open Evl (Ex)
/-- what is handed to a name: a value, a new list of its own -/
inductive Ag where
  | v (d : D) | n (l : List D)
def Ag.sl : Ag → Sl
  | .v d => .val d
  | .n l => .own (.lst l)
variable {K : PySem.W.Frag} {A : Act} {G H G' H' : Hp}
/-- Hs: the heap ahead of them all; os: the new lists' places -/
inductive AgAll (K : PySem.W.Frag) (Hs G H : Hp) : List V → List Ag → List Addr → Prop
  | nil : AgAll K Hs G H [] [] []
  | v {x : V} {vs : List V} {d : D} {as : List Ag} {os : List Addr} : Rp K G x d → AgAll K Hs G H vs as os → AgAll K Hs G H (x :: vs) (.v d :: as) os
  | n {p : Addr} {us vs : List V} {l : List D} {as : List Ag} {os : List Addr} : Hs p = none → G p = none → H p = some (.lst us) → RpAll K G us l → p ∉ os → AgAll K Hs G H vs as os → AgAll K Hs G H (.ref p :: vs) (.n l :: as) (p :: os)
theorem AgAll.weak {Hs Hs2 : Hp} {vs : List V} {as : List Ag} {os : List Addr} (h : AgAll K Hs2 G H vs as os) (e : ∀ p, Hs2 p = none → Hs p = none) : AgAll K Hs G H vs as os := by
  induction h with
  | nil => exact .nil
  | v r _ ih => exact .v r ih
  | n a b c d f _ ih => exact .n (e _ a) b c d f ih
theorem AgAll.new {Hs : Hp} {vs : List V} {as : List Ag} {os : List Addr} (h : AgAll K Hs G H vs as os) : ∀ p ∈ os, Hs p = none := by
  induction h with
  | nil => exact fun p q => nomatch q
  | v _ _ ih => exact ih
  | n a _ _ _ _ _ ih =>
    intro p hp
    rcases List.mem_cons.mp hp with rfl | hp
    · exact a
    · exact ih p hp
def rdM (K : PySem.W.Frag) (A : Act) (n : Nat) (w : Env → T (List Ag)) : TA := fun σ H Q => ∃ G env, Rel K A G σ env H ∧ wp (w env) (fun as => ∀ vs os G' H', Ext A G H G' H' → AgAll K H G' H' vs as os → vs.length = n → Q vs H') A.E
def mNil : Env → T (List Ag) := fun _ => T.ret []
def mV (w : Env → T D) (ws : Env → T (List Ag)) : Env → T (List Ag) := fun env => w env >>= fun d => ws env >>= fun as => T.ret (.v d :: as)
def mN (w : Env → T (List D)) (ws : Env → T (List Ag)) : Env → T (List Ag) := fun env => w env >>= fun l => ws env >>= fun as => T.ret (.n l :: as)
theorem gone_stays {p : Addr} {o : HO} (e : Ext A G H G' H') (h : G p = none) (hp : H p = some o) : G' p = none := by
  cases q : G' p with
  | none => rfl
  | some u =>
    rcases e.new p u q with z | z
    · rw [h] at z; cases z
    · rw [hp] at z; cases z
section
variable {X : Cx} {e a b c : Expr} {es : List Expr} {n : Nat} {w : Env → T D} {wl : Env → T (List D)} {ws : Env → T (List Ag)} {x : Str} {pos : Pos}
theorem m_nil : PA X [] (rdM X.K A 0 mNil) := pa_nil.imp fun σ H Q h => by
  obtain ⟨G, env, R, h⟩ := h
  exact h [] [] G H R.st .nil rfl
theorem m_v (h : PE X e (rd X.K A w)) (hr : PA X es (rdM X.K A n ws)) (hs : starEach (e :: es) X.env = (false, eval e X.env) :: starEach es X.env := by rfl) : PA X (e :: es) (rdM X.K A (n + 1) (mV w ws)) :=
  (pa_cons h hr hs).imp fun σ H Q h => by
  obtain ⟨G, env, R, h⟩ := h
  refine ⟨G, env, R, wp_imp (wp_bind.mp h) fun d h1 v G1 H1 e1 r1 => ?_⟩
  refine ⟨G1, env, R.ext e1, wp_imp (wp_bind.mp h1) fun as h2 vs os G2 H2 e2 r2 l2 => ?_⟩
  exact h2 (v :: vs) os G2 H2 (e1.trans e2) (.v (r1.mono e2.gg) (r2.weak fun p hp => e1.dn hp)) (congrArg Nat.succ l2)
theorem m_n (h : PE X e (rdN X.K A wl)) (hr : PA X es (rdM X.K A n ws)) (hs : starEach (e :: es) X.env = (false, eval e X.env) :: starEach es X.env := by rfl) : PA X (e :: es) (rdM X.K A (n + 1) (mN wl ws)) :=
  (pa_cons h hr hs).imp fun σ H Q h => by
  obtain ⟨G, env, R, h⟩ := h
  refine ⟨G, env, R, wp_imp (wp_bind.mp h) fun l h1 p us G1 H1 e1 hp hg hl r1 => ?_⟩
  refine ⟨G1, env, R.ext e1, wp_imp (wp_bind.mp h1) fun as h2 vs os G2 H2 e2 r2 l2 => ?_⟩
  refine h2 (.ref p :: vs) (p :: os) G2 H2 (e1.trans e2) (.n hp (gone_stays e2 hg hl) (e2.keep p _ (R.st.nf hp) hl) (r1.mono e2.gg) (fun hm => ?_) (r2.weak fun p hp => e1.dn hp)) (congrArg Nat.succ l2)
  have := r2.new p hm
  rw [hl] at this
  cases this
def setM : List Nat → List Ag → Env → Env
  | i :: is, a :: as, env => setM is as (env.set i a.sl)
  | _, _, env => env
def setS : List Nat → List V → L2.St → L2.St
  | i :: is, v :: vs, σ => setS is vs (σ.set i (some v))
  | _, _, σ => σ
/-- owned things' places outside what is still to be set -/
theorem Rel.setM {Hs : Hp} {A : Act} {vs : List V} {as : List Ag} {os : List Addr} (g : AgAll K Hs G H vs as os) : ∀ (is : List Nat) (σ : L2.St) (env : Env), Rel K A G σ env H → (∀ p ∈ os, A.H0 p = none ∧ ¬ A.F p) → (∀ (j : Nat) (e : D) (p : Addr), p ∈ os → env[j]? = some (.own e) → σ[j]? ≠ some (some (.ref p))) →
    Rel K A G (setS is vs σ) (Eng.setM is as env) H := by
  induction g with
  | nil => intro is σ env R _ _; cases is <;> exact R
  | v r _ ih =>
    intro is σ env R h0 hn
    cases is with
    | nil => exact R
    | cons i is =>
      refine ih is _ _ (R.set r) h0 fun j e p hp he => ?_
      by_cases q : i = j
      · subst q
        rw [List.getElem?_set_self'] at he
        cases z : env[i]? with
        | none => rw [z] at he; cases he
        | some u => rw [z] at he; cases he
      · rw [List.getElem?_set_ne q] at he ⊢
        exact hn j e p hp he
  | @n p us vs l as os ha hb hc hd hf _ ih =>
    intro is σ env R h0 hn
    cases is with
    | nil => exact R
    | cons i is =>
      have ho := h0 p (by simp)
      refine ih is _ _ (R.setO ⟨⟨_, hc, .lst hd⟩, hb, ho.1, ho.2⟩ fun j e he => hn j e p (by simp) he) (fun q hq => h0 q (by simp [hq])) fun j e q hq he => ?_
      by_cases z : i = j
      · subst z
        intro hs
        by_cases hi : i < σ.length
        · rw [List.getElem?_set_self hi] at hs
          cases hs
          exact hf hq
        · rw [List.getElem?_eq_none (by rw [List.length_set]; omega)] at hs
          cases hs
      · rw [List.getElem?_set_ne z] at he ⊢
        exact hn j e q (by simp [hq]) he
/-- a, b = x, y with new lists among them -/
def dParM (is : List Nat) (ws : Env → T (List Ag)) : Env → T Out := fun env => ws env >>= fun as => T.ret (.nx (Eng.setM is as env))
theorem relM {σ : L2.St} {env : Env} {H1 G1 : Hp} {vs : List V} {as : List Ag} {os : List Addr} (is : List Nat) (R : Rel K A G σ env H) (e : Ext A G H G1 H1) (g : AgAll K H G1 H1 vs as os) : Rel K A G1 (setS is vs σ) (Eng.setM is as env) H1 := by
  refine Rel.setM g is σ env (R.ext e) (fun p hp => ⟨R.h0 (g.new p hp), R.st.nf (g.new p hp)⟩) fun j d p hp he hs => ?_
  exact R.fresh (g.new p hp) j d he hs
theorem s_parM (i j : Nat) {y : Str} {px py pt : Pos} {kt k2 : Nat} {pt2 : Pos} (hc : X.calm = true) (hN : X.N.Nodup) (hi : X.N[i]? = some x) (hj : X.N[j]? = some y) (hij : i ≠ j)
    (hx : X.env.scope.names.lookup x = some .local) (hy : X.env.scope.names.lookup y = some .local) (ha : PA X [a, b] (rdM X.K A 2 ws))
    (hw : swappedStores [.Tuple [.Name x px, .Name y py] kt pt] (.Tuple [a, b] k2 pt2) X.env = pure (some [x, y]))
    (hs : swapsWithSole [.Tuple [.Name x px, .Name y py] kt pt] (.Tuple [a, b] k2 pt2) pos.line X.env = pure false := by rfl) :
    PS X (.Assign [.Tuple [.Name x px, .Name y py] kt pt] (.Tuple [a, b] k2 pt2) pos) (rdS X.K A (dParM [i, j] ws)) := (ps_par hc hN hi hj hij hx hy ha hw hs).imp fun Dn σ H h => by
  obtain ⟨G, env, R, h⟩ := h
  refine ⟨G, env, R, wp_imp (wp_bind.mp h) fun as q vs os G1 H1 e1 r1 l1 => ?_⟩
  match vs, l1, r1 with
  | [u, v], _, r1 => exact ⟨u, v, rfl, q _ G1 H1 e1.gg (relM [i, j] R e1 r1)⟩
theorem s_par3M (i j k : Nat) {y z : Str} {px py pz pt : Pos} {kt k2 : Nat} {pt2 : Pos} (hc : X.calm = true) (hN : X.N.Nodup) (hi : X.N[i]? = some x) (hj : X.N[j]? = some y) (hk : X.N[k]? = some z) (hij : i ≠ j) (hik : i ≠ k) (hjk : j ≠ k)
    (hx : X.env.scope.names.lookup x = some .local) (hy : X.env.scope.names.lookup y = some .local) (hz : X.env.scope.names.lookup z = some .local) (ha : PA X [a, b, c] (rdM X.K A 3 ws))
    (hw : swappedStores [.Tuple [.Name x px, .Name y py, .Name z pz] kt pt] (.Tuple [a, b, c] k2 pt2) X.env = pure (some [x, y, z]))
    (hs : swapsWithSole [.Tuple [.Name x px, .Name y py, .Name z pz] kt pt] (.Tuple [a, b, c] k2 pt2) pos.line X.env = pure false := by rfl) :
    PS X (.Assign [.Tuple [.Name x px, .Name y py, .Name z pz] kt pt] (.Tuple [a, b, c] k2 pt2) pos) (rdS X.K A (dParM [i, j, k] ws)) := (ps_par3 hc hN hi hj hk hij hik hjk hx hy hz ha hw hs).imp fun Dn σ H h => by
  obtain ⟨G, env, R, h⟩ := h
  refine ⟨G, env, R, wp_imp (wp_bind.mp h) fun as q vs os G1 H1 e1 r1 l1 => ?_⟩
  match vs, l1, r1 with
  | [u, v, t], _, r1 => exact ⟨u, v, t, rfl, q _ G1 H1 e1.gg (relM [i, j, k] R e1 r1)⟩
end
theorem AgAll.heap {Hs H2 : Hp} {vs : List V} {as : List Ag} {os : List Addr} (h : AgAll K Hs G H vs as os) (e : ∀ p o, H p = some o → H2 p = some o) : AgAll K Hs G H2 vs as os := by
  induction h with
  | nil => exact .nil
  | v r _ ih => exact .v r ih
  | n a b c d f _ ih => exact .n a b (e _ _ c) d f ih
section
variable {X : Cx} {e : Expr} {es ns : List Expr} {n : Nat} {ws : Env → T (List Ag)} {pos pt pt2 : Pos}
def tgsN (is : List Nat) : TGs := fun vs σ H Q => vs.length = is.length ∧ Q (setS is vs σ) H
theorem gn_nil : PGs X [] (tgsN []) := ⟨fun pins s σ H vs us Q I r h => by
  obtain ⟨h1, h2⟩ := h
  have e : vs = [] := List.length_eq_zero_iff.mp h1
  subst e
  exact pgs_nil.run pins s σ H [] us Q I r ⟨rfl, h2⟩⟩
theorem gn_cons {i : Nat} {is : List Nat} (h1 : PG X e (gName i)) (h2 : PGs X es (tgsN is)) (hs : (assignEach (e :: es) X.env).map (·.2) = assign e X.env :: (assignEach es X.env).map (·.2) := by rfl) : PGs X (e :: es) (tgsN (i :: is)) := ⟨fun pins s σ H vs us Q I r h => by
  obtain ⟨h3, h4⟩ := h
  cases vs with
  | nil => cases h3
  | cons v vs => exact (pgs_cons h1 h2 hs).run pins s σ H _ us Q I r ⟨v, vs, rfl, Nat.succ.inj h3, h4⟩⟩
/-- names, cells among them, = a written tuple -/
theorem s_asgM {is : List Nat} {k k2 : Nat} (hc : X.calm = true) (ha : PA X es (rdM X.K A n ws)) (hg : PGs X ns (tgsN is)) (hln : is.length = n := by rfl) (hn2 : n ≤ 1000 := by decide) (hn : (assignEach ns X.env).length = n := by rfl) (hst : (assignEach ns X.env).findIdx? (·.1) = none := by rfl)
    (hs : swapsWithSole [.Tuple ns k pt] (.Tuple es k2 pt2) pos.line X.env = pure false := by rfl) (hw : swappedStores [.Tuple ns k pt] (.Tuple es k2 pt2) X.env = pure none := by rfl) :
    PS X (.Assign [.Tuple ns k pt] (.Tuple es k2 pt2) pos) (rdS X.K A (dParM is ws)) := (ps_asg (pe_tup ha) (pg_tup hc hg hn hst) hs hw).imp fun Dn σ H h => by
  obtain ⟨G, env, R, h⟩ := h
  refine ⟨G, env, R, wp_imp (wp_bind.mp h) fun as q vs os G1 H1 e1 r1 l1 => ⟨by rw [l1]; exact Nat.le_of_lt (small1000 hn2), fun p hp => ?_⟩⟩
  have e2 : Ext A G H G1 (upd H1 p (.tup vs)) := e1.trans (e1.refl'.allocO hp)
  have r2 : AgAll X.K H G1 (upd H1 p (.tup vs)) vs as os := r1.heap fun b o hb => by rw [upd_ne (ne_of_none hb hp)]; exact hb
  exact ⟨p, vs, rfl, SqT.of upd_same, l1, by rw [l1, hln], q _ G1 _ e2.gg (relM is R e2 r2)⟩
end
end Eng

namespace Eng
open PySem PySem.Spec PyProof.Rows L2
theorem compT_all {α β : Type} (e : α → D) (y : α → β) {f : D → Env → Option Env} {t : Env → T Bool} {w : Env → T β} {env : Env} : ∀ (l : List α), (∀ a, a ∈ l → ∃ env1, f (e a) env = some env1 ∧ t env1 = T.ret true ∧ w env1 = T.ret (y a)) → compT f t w env (l.map e) = T.ret (l.map y)
  | [], _ => rfl
  | a :: r, h => by
    obtain ⟨e1, h1, h2, h3⟩ := h a (by simp)
    have ih := compT_all e y r fun d hd => h d (by simp [hd])
    show (match f (e a) env with
    | none => T.fail
    | some env1 => t env1 >>= fun b => if b = true then (w env1 >>= fun y => compT f t w env (r.map e) >>= fun ys => T.ret (y :: ys)) else compT f t w env (r.map e)) = _
    rw [h1]
    show (t e1 >>= _) = _
    rw [h2]
    rw [ret_bind, if_pos rfl, h3, ret_bind, ih, ret_bind, List.map_cons]
theorem compT_sel {α β : Type} (e : α → D) (p : α → Bool) (y : α → β) {f : D → Env → Option Env} {t : Env → T Bool} {w : Env → T β} {env : Env} : ∀ (l : List α), (∀ a, a ∈ l → ∃ env1, f (e a) env = some env1 ∧ t env1 = T.ret (p a) ∧ (p a = true → w env1 = T.ret (y a))) → compT f t w env (l.map e) = T.ret ((l.filter p).map y)
  | [], _ => rfl
  | a :: r, h => by
    obtain ⟨e1, h1, h2, h3⟩ := h a (by simp)
    have ih := compT_sel e p y r fun d hd => h d (by simp [hd])
    show (match f (e a) env with
    | none => T.fail
    | some env1 => t env1 >>= fun b => if b = true then (w env1 >>= fun y => compT f t w env (r.map e) >>= fun ys => T.ret (y :: ys)) else compT f t w env (r.map e)) = _
    rw [h1]
    show (t e1 >>= _) = _
    rw [h2, ret_bind]
    cases hp : p a with
    | true => rw [if_pos rfl, h3 hp, ret_bind, ih, ret_bind, List.filter_cons_of_pos hp, List.map_cons]
    | false => rw [if_neg (by simp), ih, List.filter_cons_of_neg (by simp [hp])]
theorem sum1_ints (ns : List Int) : sum1D [.lst (ns.map D.int)] = T.ret (.int ns.sum) := by
  show sumD [.lst (ns.map D.int)] = _
  show (match intsOf (ns.map D.int) with | some ns => T.ret (D.int ns.sum) | none => T.fail) = _
  rw [intsOf_map]
theorem ix_last (l : List D) (d : D) : ixD (.lst (l ++ [d])) (.int (-1)) = T.ret d := by
  show (match atI (l ++ [d]) (-1) with | some d => T.ret d | none => T.fail) = _
  have e : atI (l ++ [d]) (-1) = some d := by
    unfold atI ixN
    rw [if_neg (by decide), if_pos (by rw [List.length_append, List.length_singleton]; omega)]
    show (l ++ [d])[(-1 + ((l ++ [d]).length : Int)).toNat]? = _
    rw [show (-1 + ((l ++ [d]).length : Int)).toNat = l.length by rw [List.length_append, List.length_singleton]; omega, List.getElem?_append_right (Nat.le_refl _), Nat.sub_self]
    rfl
  rw [e]
theorem ix_zero (d : D) (l : List D) : ixD (.lst (d :: l)) (.int 0) = T.ret d := by
  show (match atI (d :: l) 0 with | some d => T.ret d | none => T.fail) = _
  rw [atI_0]
theorem neg_1 : negD (.int 1) = T.ret (.int (-1)) := rfl
end Eng

namespace Eng
open PySem PySem.Spec PyProof.Rows L2
mutual
def D.lay : D → Bool
  | .non | .bl _ | .int _ => true
  | .str x => PyData.strOk x
  | .tup l | .lst l => layAll l
  | .dct _ _ | .obj _ => false
def layAll : List D → Bool
  | [] => true
  | d :: r => d.lay && layAll r
end
mutual
theorem lay_py : ∀ d : D, d.lay = true → d.pure = true ∧ d.py.canLay0 = true ∧ d.py.depth = d.dep
  | .non, _ => ⟨rfl, rfl, rfl⟩
  | .bl b, _ => ⟨rfl, rfl, rfl⟩
  | .int i, _ => ⟨rfl, rfl, rfl⟩
  | .str x, h => ⟨rfl, h, rfl⟩
  | .tup l, h => by
    obtain ⟨a, b, c⟩ := layAll_py l h
    exact ⟨a, b, by show PyData.depth (.tuple (pyAll l)) = depAll l + 1; rw [PyData.depth.eq_def]; exact congrArg (· + 1) c⟩
  | .lst l, h => by
    obtain ⟨a, b, c⟩ := layAll_py l h
    exact ⟨a, b, by show PyData.depth (.list (pyAll l)) = depAll l + 1; rw [PyData.depth.eq_def]; exact congrArg (· + 1) c⟩
  | .dct _ _, h => by cases h
  | .obj _, h => by cases h
theorem layAll_py : ∀ l : List D, layAll l = true → pureAll l = true ∧ PyData.canLayAll0 (pyAll l) = true ∧ PyData.depthAll (pyAll l) = depAll l
  | [], _ => ⟨rfl, rfl, rfl⟩
  | d :: r, h => by
    obtain ⟨h1, h2⟩ := Bool.and_eq_true_iff.mp (show (d.lay && layAll r) = true from h)
    obtain ⟨a1, b1, c1⟩ := lay_py d h1
    obtain ⟨a2, b2, c2⟩ := layAll_py r h2
    exact ⟨by show (d.pure && pureAll r) = true; rw [a1, a2]; rfl, by show (d.py.canLay0 && PyData.canLayAll0 (pyAll r)) = true; rw [b1, b2]; rfl, by
      show PyData.depthAll (d.py :: pyAll r) = max d.dep (depAll r)
      rw [PyData.depthAll.eq_def]
      show max d.py.depth _ = _
      rw [c1, c2]⟩
end
theorem okD_of {d : D} (h : d.lay = true) (hd : d.dep ≤ 64) : d.okD = true := by
  obtain ⟨a, b, c⟩ := lay_py d h
  unfold D.okD SeqAt.shaped
  rw [a, b, c, decide_eq_true hd]
  rfl
theorem pyAll_empty (l : List D) : (pyAll l).isEmpty = l.isEmpty := by cases l <;> rfl
theorem eq_nil {l : List D} (h : layAll l = true) (hd : depAll l < 64) : eqD (.lst l) (.lst []) = T.ret l.isEmpty := by
  have h1 : (D.lst l).okD = true := okD_of h hd
  have h2 : (D.lst []).okD = true := rfl
  show (if (D.lst l).okD = true ∧ (D.lst []).okD = true then T.ret (PyData.eqv (.list (pyAll l)) (.list [])) else T.fail) = _
  rw [if_pos ⟨h1, h2⟩]
  rw [eqv_nil, pyAll_empty]
theorem ne_nil' {l : List D} (h : layAll l = true) (hd : depAll l < 64) : neD (.lst l) (.lst []) = T.ret (!l.isEmpty) := by
  have h1 : (D.lst l).okD = true := okD_of h hd
  have h2 : (D.lst []).okD = true := rfl
  show (if (D.lst l).okD = true ∧ (D.lst []).okD = true then T.ret (!PyData.eqv (.list (pyAll l)) (.list [])) else T.fail) = _
  rw [if_pos ⟨h1, h2⟩]
  rw [eqv_nil, pyAll_empty]
end Eng

namespace Eng
open PySem PySem.Spec PyProof.Rows L2
section
variable {w : Env → T D} {ws : Env → T (List D)} {env : Env}
@[simp] theorem ap_dParM (is : List Nat) (ws : Env → T (List Ag)) : dParM is ws env = ws env >>= fun as => T.ret (.nx (Eng.setM is as env)) := rfl
@[simp] theorem ap_mNil : mNil env = T.ret [] := rfl
@[simp] theorem ap_mV (ws : Env → T (List Ag)) : mV w ws env = w env >>= fun d => ws env >>= fun as => T.ret (.v d :: as) := rfl
@[simp] theorem ap_mN (w : Env → T (List D)) (ws : Env → T (List Ag)) : mN w ws env = w env >>= fun l => ws env >>= fun as => T.ret (.n l :: as) := rfl
@[simp] theorem ap_dAsg (f : D → Env → Option Env) : dAsg f w env = w env >>= fun d => match f d env with
  | some env' => T.ret (.nx env')
  | none => T.fail := rfl
@[simp] theorem ap_dPar (i j : Nat) : dPar i j ws env = ws env >>= fun ds => match ds with
  | [d, e] => T.ret (.nx ((env.set i (.val d)).set j (.val e)))
  | _ => T.fail := rfl
@[simp] theorem ap_dPar3 (i j k : Nat) : dPar3 i j k ws env = ws env >>= fun ds => match ds with
  | [d, e, f] => T.ret (.nx (((env.set i (.val d)).set j (.val e)).set k (.val f)))
  | _ => T.fail := rfl
@[simp] theorem ap_dApp (i : Nat) : dApp i w env = ownL env i >>= fun l => w env >>= fun d => if l.length < sizeLine then T.ret (.nx (env.set i (.own (.lst (l ++ [d]))))) else T.fail := rfl
@[simp] theorem ap_dExt (i : Nat) : dExt i w env = ownL env i >>= fun l => w env >>= fun d => match d with
  | .lst r => if l.length + r.length ≤ sizeLine then T.ret (.nx (env.set i (.own (.lst (l ++ r))))) else T.fail
  | .tup r => if l.length + r.length ≤ sizeLine then T.ret (.nx (env.set i (.own (.lst (l ++ r))))) else T.fail
  | _ => T.fail := rfl
@[simp] theorem ap_dNo : dNo env = T.ret none := rfl
@[simp] theorem ap_dSome : dSome w env = w env >>= fun d => asInt d >>= fun i => T.ret (some i) := rfl
@[simp] theorem ap_asInt (i : Int) : asInt (.int i) = T.ret i := rfl
@[simp] theorem ap_dSl {α : Type} (f : D → Option Int → Option Int → T α) (l u : Env → T (Option Int)) : dSl f w l u env = w env >>= fun x => l env >>= fun lo => u env >>= fun hi => f x lo hi := rfl
end
/-- a loop by its turns -/
theorem wq_forT_ix {Q : Out → Prop} {E : Str → List D → Prop} (Inv : Nat → Env → Prop) {f : D → Env → Option Env} {b : Env → T Out} : ∀ (ds : List D) (k : Nat), (∀ i d, ds[i]? = some d → ∀ env, Inv (k + i) env → ∃ e, f d env = some e ∧ wq (b e) (fun o => match o with
    | .nx e' => Inv (k + i + 1) e'
    | .ct e' => Inv (k + i + 1) e'
    | .bk e' => Q (.nx e')
    | .rt d => Q (.rt d)) E) → (∀ env, Inv (k + ds.length) env → Q (.nx env)) → ∀ env, Inv k env → wq (forT f b ds env) Q E
  | [], k, _, hq, env, hi => by
    rw [forT_nil, wq_ret]
    exact hq env hi
  | d :: r, k, h, hq, env, hi => by
    obtain ⟨e, h1, h2⟩ := h 0 d rfl env hi
    have ih := wq_forT_ix (Q := Q) (E := E) Inv (f := f) (b := b) r (k + 1) (fun i d hd env hi => by
      have := h (i + 1) d (by simpa using hd) env (by rw [show k + (i + 1) = k + 1 + i by omega]; exact hi)
      rw [show k + 1 + i + 1 = k + (i + 1) + 1 by omega]
      exact this) (fun env hi => hq env (by rw [List.length_cons, show k + (r.length + 1) = k + 1 + r.length by omega]; exact hi))
    have e1 : forT f b (d :: r) env = (match f d env with
      | none => T.fail
      | some env1 => b env1 >>= fun o => match o with
        | .nx env2 => forT f b r env2
        | .ct env2 => forT f b r env2
        | .bk env2 => T.ret (.nx env2)
        | .rt d => T.ret (.rt d)) := rfl
    rw [e1, h1]
    refine wq_bind.mpr (wq_imp h2 fun o ho => ?_)
    cases o with
    | nx e' => exact ih e' ho
    | ct e' => exact ih e' ho
    | bk e' => exact wq_ret.mpr ho
    | rt d => exact wq_ret.mpr ho
theorem forT_cons {f : D → Env → Option Env} {b : Env → T Out} {d : D} {r : List D} {env e : Env} (h : f d env = some e) : forT f b (d :: r) env = b e >>= fun o => match o with
    | .nx env2 => forT f b r env2
    | .ct env2 => forT f b r env2
    | .bk env2 => T.ret (.nx env2)
    | .rt d => T.ret (.rt d) := by
  show (match f d env with
      | none => T.fail
      | some env1 => b env1 >>= fun o => match o with
        | .nx env2 => forT f b r env2
        | .ct env2 => forT f b r env2
        | .bk env2 => T.ret (.nx env2)
        | .rt d => T.ret (.rt d)) = _
  rw [h]
theorem range1_nat (n : Nat) (h : n ≤ 16777216) : range1 [.int (n : Int)] = T.ret (rangeD 0 n) := by
  show (if _ then _ else _) = _
  rw [if_pos ⟨by omega, by omega⟩, Int.toNat_natCast]
theorem rangeD_get {n i : Nat} {d : D} (h : (rangeD 0 n)[i]? = some d) : i < n ∧ d = .int (i : Int) := by
  unfold rangeD at h
  rw [List.getElem?_map] at h
  by_cases hi : i < n
  · rw [List.getElem?_range hi] at h
    simp only [Option.map_some, Option.some.injEq, Int.zero_add] at h
    exact ⟨hi, h.symm⟩
  · rw [List.getElem?_eq_none (by rw [List.length_range]; omega)] at h
    cases h
theorem layAll_of {α : Type} (f : α → D) : ∀ (l : List α), (∀ a ∈ l, (f a).lay = true) → layAll (l.map f) = true
  | [], _ => rfl
  | a :: r, h => by
    show ((f a).lay && layAll (r.map f)) = true
    rw [h a (by simp), layAll_of f r fun a ha => h a (by simp [ha])]; rfl
theorem depAll_of {α : Type} (f : α → D) (n : Nat) : ∀ (l : List α), (∀ a ∈ l, (f a).dep ≤ n) → depAll (l.map f) ≤ n
  | [], _ => Nat.zero_le _
  | a :: r, h => by
    show max (f a).dep (depAll (r.map f)) ≤ n
    exact Nat.max_le.mpr ⟨h a (by simp), depAll_of f n r fun a ha => h a (by simp [ha])⟩
theorem fitAll_of {α : Type} (f : α → D) : ∀ (l : List α), (∀ a ∈ l, (f a).fit = true) → fitAll (l.map f) = true
  | [], _ => rfl
  | a :: r, h => by
    show ((f a).fit && fitAll (r.map f)) = true
    rw [h a (by simp), fitAll_of f r fun a ha => h a (by simp [ha])]; rfl
theorem rzAll_of {α : Type} (f : α → D) (n : Nat) : ∀ (l : List α), (∀ a ∈ l, (f a).rz ≤ n) → rzAll (l.map f) ≤ l.length * (n + 2)
  | [], _ => Nat.zero_le _
  | a :: r, h => by
    show (f a).rz + 2 + rzAll (r.map f) ≤ _
    have h1 := h a (by simp)
    have h2 := rzAll_of f n r fun a ha => h a (by simp [ha])
    rw [List.length_cons, Nat.succ_mul]
    omega
/-- a draw -/
theorem wq_drawN {α : Type} {a0 : Addr} {n : Int} {f : D → T α} {Q : α → Prop} {E : Str → List D → Prop} (h0 : 0 < n) (h1 : n < 1073741824) (h : ∀ i : Nat, (i : Int) < n → wq (f (.int i)) Q E) : wq (drawT a0 [.obj a0, .int n] >>= f) Q E := wq_bind.mpr (wq_draw h0 h1 h)
theorem wq_seq {u v : Env → T Out} {env : Env} {Q : Out → Prop} {E : Str → List D → Prop} (P : Env → Prop) (h : wq (u env) (fun o => match o with
    | .nx e => P e
    | .rt d => Q (.rt d)
    | .bk e => Q (.bk e)
    | .ct e => Q (.ct e)) E) (h2 : ∀ e, P e → wq (v e) Q E) : wq (dSeq u v env) Q E := by
  rw [ap_dSeq]
  refine wq_bind.mpr (wq_imp h fun o ho => ?_)
  cases o with
  | nx e => exact h2 e ho
  | rt d => exact wq_ret.mpr ho
  | bk e => exact wq_ret.mpr ho
  | ct e => exact wq_ret.mpr ho
theorem wq_body {n : Nat} {w : Env → T Out} {ds : List D} {Q : D → Prop} {E : Str → List D → Prop} (h : wq (w (startE n ds)) (fun o => match o with
    | .nx _ => Q .non
    | .rt d => Q d
    | _ => False) E) : wq (bodyT n w ds) Q E := by
  unfold bodyT
  refine wq_bind.mpr (wq_imp h fun o ho => ?_)
  cases o with
  | nx e => exact wq_ret.mpr ho
  | rt d => exact wq_ret.mpr ho
  | bk e => exact ho.elim
  | ct e => exact ho.elim
theorem wq_if {α : Type} {t : Env → T Bool} {a b : Env → T α} {env : Env} {c : Bool} {Q : α → Prop} {E : Str → List D → Prop} (h : t env = T.ret c) (h1 : c = true → wq (a env) Q E) (h2 : c = false → wq (b env) Q E) : wq (dIf t a b env) Q E := by
  rw [ap_dIf, h, ret_bind]
  cases c with
  | true => rw [if_pos rfl]; exact h1 rfl
  | false => rw [if_neg (by simp)]; exact h2 rfl
theorem wq_use {α β : Type} {t : T α} {f : α → T β} {P : α → Prop} {Q : β → Prop} {E : Str → List D → Prop} (h : wq t P E) (hq : ∀ a, P a → wq (f a) Q E) : wq (t >>= f) Q E := wq_bind.mpr (wq_imp h hq)
end Eng

namespace Eng
open PySem PySem.Spec PyProof.Rows L2
theorem walk_ofGK {l : PySem.W.OpenLaw} {n k : Nat} {q : Program} {loose : List Str} {XP : (Str → Option Value) → Heap → Prop} {YP : World → Heap → Prop} {d : DefRec} {K : Params → PySem.W.Frag} {x : Str}
    (hn : l.most = some n) (hn2 : n ≤ sizeLine) (hdf : d.params.defaults = []) (hr : Room k callerA) (hY : ∀ (w : World) (h : Heap), YP w h → (K w.params).In h)
    (F : ∀ (w : World) (mg : Str → Option Value) (fa : Addr) (h : Heap), (K w.params).In h → h.Ns mainGlobals mg → mg d.name = some (.ref fa) →
      ∃ fd : FuncData, (∀ (s : Shared) (u : Value), BindsTo s fd ⟨[u], []⟩ [(x, u)]) ∧ ∀ base : Heap, FnG l.prog w (K w.params) mg base k fa fd [x] (spLaw (K w.params) n)) :
    PySem.W.WalkO q loose XP YP l.row.toRowW d [] (fun f vs => PySem.call f vs) :=
  walk_ofG hn hn2 hdf hr fun w mg fa h Y G e => by
    obtain ⟨fd, h1, h2⟩ := F w mg fa h (hY w h Y) G e
    exact ⟨K w.params, fd, hY w h Y, h1, h2⟩
end Eng

namespace Eng
open PySem PySem.Spec PyProof.Rows L2
section
variable {K : PySem.W.Frag} {A : Act} {X : Cx} {a b c e : Expr} {w : Env → T D} {pos pos' : Pos} {x : Str}
def dIns (i : Nat) (ws : Env → T (List D)) : Env → T Out := fun env => do
  let l ← ownL env i
  let ds ← ws env
  match ds with
  | [.int j, y] => if l.length < sizeLine ∧ 0 ≤ j ∧ j < 2 ^ 63 then T.ret (.nx (env.set i (.own (.lst (l.take j.toNat ++ [y] ++ l.drop j.toNat))))) else T.fail
  | _ => T.fail
theorem s_ins (i : Nat) {apos p : Pos} {ws : Env → T (List D)} (hN : X.N[i]? = some x) (hv : Vis X.env.scope x) (ha : PA X [a, b] (rdA X.K A 2 ws)) (hd : (x == ("__debug__" : Str)) = false := by decide) (hcd : (x == ("__classdict__" : Str)) = false := by decide)
    (hbase : attributeBase (.Name x p) "insert" X.env (eval (.Name x p) X.env) = eval (.Name x p) X.env := by rfl)
    (hfew : ((backTo pos (starEach [a, b] X.env)).all (fun x => !x.1) && (backToKw pos (keywordEach [] X.env)).all (fun x => x.1.isSome) && decide (([a, b] : List Expr).length + ([] : List Keyword).length + (if ([] : List Keyword).isEmpty then 0 else 1) < 30)) = true := by rfl)
    (hline : (apos.endLine == pos.line) = true := by rfl) (hs : starEach [a, b] X.env = (false, eval a X.env) :: starEach [b] X.env := by rfl) (hpl : (backTo pos (starEach [b] X.env)).any (·.1) = false := by rfl) :
    PS X (.Expr (.Call (.Attribute (.Name x p) "insert" apos) [a, b] [] pos) pos') (rdS X.K A (dIns i ws)) :=
  (ps_expr (pe_bm PySem.F.plainAttrs_list PySem.F.slot_list_insert PySem.F.type_list_insert (mt_insert (X := X)) (pe_var hN hv hd hcd) ha hbase hfew hline hs hpl) rfl).imp fun Dn σ H h => by
    obtain ⟨G, env, R, h⟩ := h
    obtain ⟨l, hl, h0⟩ := ownL_wp (wp_bind.mp h)
    obtain ⟨p, vs, h1, h2, h3⟩ := R.ownL hl
    refine ⟨.ref p, h1, .inl ⟨rfl, vs, SqL.of h2⟩, G, env, R, wp_imp (wp_bind.mp h0) fun ds q us G1 H1 e1 r1 l1 => ?_⟩
    have R1 := R.ext e1
    obtain ⟨p', vs', h1', h2', h3'⟩ := R1.ownL hl
    rw [h1] at h1'
    cases h1'
    split at q
    · rename_i j y
      split at q
      · rename_i hc
        cases r1 with
        | cons ra rb =>
        cases rb with
        | cons rb rc =>
        cases rc
        cases ra
        exact ⟨p, vs', j, _, rfl, rfl, h2', by rw [h3'.length]; exact hc.1, hc.2.1, hc.2.2, q σ G1 _ e1.gg (R1.mut hl h1 (.lst (((h3'.take _).append (.cons rb .nil)).append (h3'.drop _))))⟩
      · exact q.elim
    · exact q.elim
@[simp] theorem ap_dIns (i : Nat) (ws : Env → T (List D)) (env : Env) : dIns i ws env = ownL env i >>= fun l => ws env >>= fun ds => match ds with
  | [.int j, y] => if l.length < sizeLine ∧ 0 ≤ j ∧ j < 2 ^ 63 then T.ret (.nx (env.set i (.own (.lst (l.take j.toNat ++ [y] ++ l.drop j.toNat))))) else T.fail
  | _ => T.fail := rfl
end
end Eng

namespace Eng
open PySem PySem.Spec PyProof.Rows L2
def asStr : D → T Str
  | .str a => T.ret a
  | _ => T.fail
def dStr {α : Type} (f : Str → D → T α) (wa wb : Env → T D) : Env → T α := fun env => wa env >>= fun x => asStr x >>= fun a => wb env >>= fun y => f a y
def splitS (x : Str) : D → T (List D)
  | .str y => if (y.length == 0) = false ∧ x.length + 2 ≤ sizeLine then T.ret ((Txt.split x y).map D.str) else T.fail
  | _ => T.fail
def joinL (a : Str) (l : List D) : T D := match strsOf l with
  | some ys => if (ys.map (·.length)).sum + ys.length * a.length ≤ 16777216 then T.ret (.str (Txt.join a ys)) else T.fail
  | none => T.fail
def joinS (a : Str) : D → T D
  | .lst l => joinL a l
  | .tup l => joinL a l
  | _ => T.fail
section
variable {K : PySem.W.Frag} {A : Act} {X : Cx} {a b : Expr} {wa wb : Env → T D} {pos apos : Pos}
theorem rpAll_str {G : Hp} : ∀ ns : List Str, RpAll K G (ns.map V.str) (ns.map D.str)
  | [] => .nil
  | n :: ns => .cons (.str n) (rpAll_str ns)
theorem r_split (ho : PE X a (rdB X.K A wa)) (he : PE X b (rdB X.K A wb)) (hs : starEach [b] X.env = [(false, eval b X.env)] := by rfl) (hbase : attributeBase a "split" X.env (eval a X.env) = eval a X.env := by rfl) (hline : (apos.endLine == pos.line) = true := by rfl) :
    PE X (.Call (.Attribute a "split" apos) [b] [] pos) (rdN X.K A (dStr splitS wa wb)) := (pe_split ho he hs hbase hline).imp fun σ H Q h => by
  obtain ⟨G, env, R, h⟩ := h
  refine ⟨G, env, R, wp_imp (wp_bind.mp h) fun x h1 v G1 H1 e1 r1 => ?_⟩
  cases x with
  | str x =>
    have e0 := r1.str
    subst e0
    refine ⟨⟨x, rfl⟩, G1, env, R.ext e1, wp_imp (wp_bind.mp h1) fun y h2 u G2 H2 e2 r2 => ?_⟩
    cases y with
    | str y =>
      have e3 := r2.str
      subst e3
      have h2 : wp (if (y.length == 0) = false ∧ x.length + 2 ≤ sizeLine then T.ret ((Txt.split x y).map D.str) else T.fail) _ _ := h2
      split at h2
      · rename_i hc
        have s := e2.refl'
        exact ⟨x, y, rfl, rfl, hc.1, hc.2, fun p hp => h2 _ _ _ _ ((e1.trans e2).trans (s.allocO hp)) ((e1.trans e2).dn hp) (s.gnone hp) upd_same (rpAll_str _)⟩
      · exact h2.elim
    | _ => exact h2.elim
  | _ => exact h1.elim
theorem r_join (ho : PE X a (rdB X.K A wa)) (he : PE X b (rdB X.K A wb)) (hs : starEach [b] X.env = [(false, eval b X.env)] := by rfl) (hbase : attributeBase a "join" X.env (eval a X.env) = eval a X.env := by rfl) (hline : (apos.endLine == pos.line) = true := by rfl) :
    PE X (.Call (.Attribute a "join" apos) [b] [] pos) (rd X.K A (dStr joinS wa wb)) := (pe_join ho he hs hbase hline).imp fun σ H Q h => by
  obtain ⟨G, env, R, h⟩ := h
  refine ⟨G, env, R, wp_imp (wp_bind.mp h) fun x h1 v G1 H1 e1 r1 => ?_⟩
  cases x with
  | str x =>
    have e0 := r1.str
    subst e0
    refine ⟨⟨x, rfl⟩, G1, env, R.ext e1, wp_imp (wp_bind.mp h1) fun y h2 u G2 H2 e2 r2 => ?_⟩
    have s := e2.refl'
    have key : ∀ (l : List D) (p : Addr) (vs : List V), u = .ref p → (SqL X.K H2 p vs ∨ SqT X.K H2 p vs) → RpAll X.K G2 vs l → wp (joinL x l) (fun d => ∀ v G' H', Ext A G H G' H' → Rp X.K G' v d → Q v H') A.E → ∃ (a : Str) (p : Addr), ∃ ys : List Str, V.str x = .str a ∧ [u] = [V.ref p] ∧ (SqL X.K H2 p (ys.map V.str) ∨ SqT X.K H2 p (ys.map V.str)) ∧ (ys.map (·.length)).sum + ys.length * a.length ≤ 16777216 ∧ Q (.str (Txt.join a ys)) H2 := by
      intro l p vs hu hq hr h3
      subst hu
      unfold joinL at h3
      split at h3
      · rename_i ys hys
        have el := strsOf_eq hys
        subst el
        have ev := RpAll.strs hr
        subst ev
        split at h3
        · rename_i hz
          exact ⟨x, p, ys, rfl, rfl, hq, hz, h3 _ _ _ (e1.trans e2) (.str _)⟩
        · exact h3.elim
      · exact h3.elim
    cases y with
    | lst l =>
      obtain ⟨p, vs, e, q1, q2⟩ := r2.lst s.gh
      exact key l p vs e (.inl (SqL.of q1)) q2 h2
    | tup l =>
      obtain ⟨p, vs, e, q1, q2⟩ := r2.tup s.gh
      exact key l p vs e (.inr q1) q2 h2
    | _ => exact h2.elim
  | _ => exact h1.elim
@[simp] theorem ap_dStr {α : Type} (f : Str → D → T α) (env : Env) : dStr f wa wb env = wa env >>= fun x => asStr x >>= fun a => wb env >>= fun y => f a y := rfl
@[simp] theorem asStr_s (a : Str) : asStr (.str a) = T.ret a := rfl
end
end Eng

namespace Eng
open PySem PySem.Spec PyProof.Rows L2
def keyOf : D → Option Key
  | .str z => some (.inr z)
  | .int i => some (.inl i)
  | _ => none
def findKD : List Key → List D → Key → Option D
  | k :: ks, d :: ds, x => if k = x then some d else findKD ks ds x
  | _, _, _ => none
def dixD : D → D → T D
  | .dct ks vs, y => (match keyOf y with
    | some k => (match findKD ks vs k with
      | some d => T.ret d
      | none => T.fail)
    | none => T.fail)
  | _, _ => T.fail
section
variable {K : PySem.W.Frag} {A : Act} {X : Cx} {a b : Expr} {wa wb : Env → T D} {pos : Pos}
theorem find_val {G : Hp} : ∀ {ks : List Key} {xs : List V} {ds : List D} {k : Key} {d : D}, ks.length = xs.length → RpAll K G xs ds → findKD ks ds k = some d → ∃ v, valV (ks.zip xs) k = some v ∧ Rp K G v d
  | [], _, _, _, _, _, _, h => by cases h
  | k :: ks, [], _, _, _, hl, _, _ => by cases hl
  | k :: ks, x :: xs, _, x', d, hl, .cons (d := d0) (ds := ds) r rr, h => by
    have h : (if k = x' then some d0 else findKD ks ds x') = some d := h
    unfold valV
    rw [List.zip_cons_cons, List.find?_cons]
    by_cases e : k = x'
    · rw [if_pos e] at h
      cases h
      subst e
      exact ⟨x, by simp, r⟩
    · rw [if_neg e] at h
      obtain ⟨v, h1, h2⟩ := find_val (by simpa using hl) rr h
      refine ⟨v, ?_, h2⟩
      simp only [decide_eq_false e]
      exact h1
theorem r_dix (hu : X.A.units + 64 < cLine) (ha : PE X a (rdB X.K A wa)) (hb : PE X b (rd X.K A wb)) (hs : NoSl b := by intro _ _; rfl) : PE X (.Subscript a b pos) (rd X.K A (dB dixD wa wb)) := (pe_dget (by omega) ha hb hs).imp fun σ H Q h => by
  obtain ⟨G, env, R, h⟩ := h
  refine ⟨G, env, R, wp_imp (wp_bind.mp h) fun x h1 v G1 H1 e1 r1 => ?_⟩
  refine ⟨G1, env, R.ext e1, wp_imp (wp_bind.mp h1) fun y h2 u G2 H2 e2 r2 => ?_⟩
  unfold dixD at h2
  split at h2
  · rename_i _ _ ks vs
    split at h2
    · rename_i k hk
      split at h2
      · rename_i d hd
        have r3 := r1.ext e2
        have hkV : u = kV k := by
          unfold keyOf at hk
          split at hk
          · cases hk; cases r2; rfl
          · cases hk; cases r2; rfl
          · cases hk
        have main : ∀ (p : Addr) (xs : List V), v = .ref p → H2 p = some (.dK (ks.zip xs)) → ks.length = xs.length → RpAll X.K G2 xs vs → ∃ a v', v = .ref a ∧ DGet H2 a u (some v') ∧ Q v' H2 := by
          intro p xs e hp hl hr
          obtain ⟨w, w1, w2⟩ := find_val hl hr hd
          refine ⟨p, w, e, ?_, h2 w G2 H2 (e1.trans e2) w2⟩
          rw [hkV]
          have := DGet.k (k := k) hp
          rw [w1] at this
          exact this
        cases r3 with
        | of r =>
          cases r with
          | dct g1 g2 g3 => exact main _ _ rfl ((e1.trans e2).gh _ _ g1) g2 g3
        | own g1 g2 g3 =>
          cases g3 with
          | dct g4 g5 => exact main _ _ rfl g1 g4 g5
      · exact h2.elim
    · exact h2.elim
  · exact h2.elim
end
end Eng

namespace Eng
open PySem PySem.Spec PyProof.Rows L2
open Evl (Ex)
def keyPy : Key → PyData
  | .inl i => .int i
  | .inr x => .str x
def D.scal : D → Bool
  | .non => true
  | .bl _ => true
  | .int _ => true
  | .str _ => true
  | _ => false
mutual
def D.py2 : D → PyData
  | .non => .none
  | .bl b => .bool b
  | .int i => .int i
  | .str x => .str x
  | .tup l => .tuple (py2All l)
  | .lst l => .list (pyAll l)
  | .dct ks vs => .dict ((ks.map keyPy).zip (pyAll vs))
  | .obj _ => .none
def py2All : List D → List PyData
  | [] => []
  | d :: r => d.py2 :: py2All r
end
mutual
def D.pure2 : D → Bool
  | .tup l => pure2All l
  | .lst l => pureAll l
  | .dct ks vs => decide (ks.length = vs.length) && vs.all D.scal
  | .obj _ => false
  | _ => true
def pure2All : List D → Bool
  | [] => true
  | d :: r => d.pure2 && pure2All r
end
theorem pyAll_len : ∀ l : List D, (pyAll l).length = l.length
  | [] => rfl
  | d :: r => congrArg Nat.succ (pyAll_len r)
section
variable {X : Cx} {pins : List (Addr × Obj)} {σ : L2.St} {s : Shared} {H G : Hp}
theorem keys_read {h : Heap} {P : Program} {w : World} : ∀ {es : List DictEntry} {kvs : List (Key × Value)}, Pairs (mixKind P w) es kvs → ReadsAll h (es.map (·.key)) (kvs.map fun p => keyPy p.1) []
  | _, _, .nil => .nil
  | e :: es, kv :: kvs, .cons hk hv r => by
    have ih := keys_read (h := h) r
    have hk : keyIs kv.1 e.key = true := hk
    rcases keyIs_shape hk with ⟨i, t, e1, e2⟩ | ⟨x, t, e1, e2⟩
    · have : ReadsAll h (e.key :: es.map (·.key)) (keyPy kv.1 :: kvs.map fun p => keyPy p.1) ([] ++ []) := .cons (by rw [e1, e2]; exact .int i t) ih
      exact this
    · have : ReadsAll h (e.key :: es.map (·.key)) (keyPy kv.1 :: kvs.map fun p => keyPy p.1) ([] ++ []) := .cons (by rw [e1, e2]; exact .str x t) ih
      exact this
theorem scals_read {K : PySem.W.Frag} {h : Heap} : ∀ {ds : List D} {vs : List V} {us : List Value}, RpAll K G vs ds → ds.all D.scal = true → Vals vs us → ReadsAll h us (pyAll ds) []
  | [], _, _, hr, _, r => by
    cases hr; cases r
    exact .nil
  | d :: ds, _, _, hr, p, r => by
    rw [List.all_cons, Bool.and_eq_true] at p
    cases hr with
    | cons h1 h2 =>
      cases r with
      | cons r1 r2 =>
        have ih := scals_read (h := h) h2 p.2 r2
        refine ReadsAll.cons (as := []) (bs := []) ?_ ih
        cases h1 with
        | non => cases r1; exact .none
        | bl b => cases r1; exact .bool b
        | int i => obtain ⟨t, rfl⟩ := r1; exact .int i t
        | str x => obtain ⟨t, rfl⟩ := r1; exact .str x t
        | lst => cases p.1
        | tup => cases p.1
        | dct => cases p.1
        | obj => cases p.1
theorem vals_of {P : Program} {w : World} : ∀ {es : List DictEntry} {kvs : List (Key × Value)}, Pairs (mixKind P w) es kvs → es.map (·.val) = kvs.map (·.2)
  | _, _, .nil => rfl
  | _, _, .cons _ hv r => by rw [List.map_cons, List.map_cons, hv, vals_of r]
theorem kv_split : ∀ {ks : List Key} {xs : List V} {vs : List (Key × Value)}, ks.length = xs.length → KV (ks.zip xs) vs → vs.map (·.1) = ks ∧ Vals xs (vs.map (·.2))
  | [], [], _, _, h => by cases h; exact ⟨rfl, .nil⟩
  | [], _ :: _, _, hl, _ => by cases hl
  | _ :: _, [], _, hl, _ => by cases hl
  | k :: ks, x :: xs, _, hl, h => by
    cases h with
    | cons h1 h2 =>
      obtain ⟨a, b⟩ := kv_split (Nat.succ.inj hl) h2
      exact ⟨by rw [List.map_cons, a, ← h1.1], .cons h1.2 b⟩
theorem dct_read (I : Inv X pins σ H s) (g : Ex G H) {a : Addr} {ks : List Key} {xs : List V} {ds : List D} (hG : G a = some (.dK (ks.zip xs))) (hl : ks.length = xs.length) (hr : RpAll X.K G xs ds) (p : ds.all D.scal = true) :
    ∃ as, Reads s.heap (.ref a) (D.dct ks ds).py2 as ∧ sysModules ∉ as := by
  obtain ⟨_, hs, vs, kv, o, es, ep, ho, hx, hd, _, hp, _⟩ := dk_of I.hok (g _ _ hG)
  obtain ⟨k1, k2⟩ := kv_split hl kv
  have hne : sysModules ≠ a := fun z => by rw [← z] at hs; simp at hs
  have e1 : ((ks.map keyPy).zip (pyAll ds)).map (·.1) = vs.map fun p => keyPy p.1 := by
    rw [← k1, List.map_map]
    refine List.map_fst_zip ?_
    rw [pyAll_len, List.length_map, ← hr.length, ← hl, ← k1, List.length_map]
    exact Nat.le_refl _
  have e2 : ((ks.map keyPy).zip (pyAll ds)).map (·.2) = pyAll ds := by
    refine List.map_snd_zip ?_
    rw [pyAll_len, List.length_map, ← hr.length, ← hl]
    exact Nat.le_refl _
  have h1 := keys_read (h := s.heap) hp
  have h2 := scals_read (h := s.heap) hr p k2
  refine ⟨[a] ++ [], Reads.dict (as := []) (bs := []) ho hx.1 hd ?_ ?_, by simpa using hne⟩
  · rw [e1]; exact h1
  · rw [e2, vals_of hp]; exact h2
mutual
theorem rk (I : Inv X pins σ H s) (g : Ex G H) : ∀ (d : D) {v : V} {u : Value}, Rp X.K G v d → d.pure2 = true → RelV v u → d.py2.showable = true → d.py2.shown.length ≤ sizeLine →
    ∃ as bs, Reads s.heap u d.py2 as ∧ ReadAtMost s.heap d.py2.depth bs ∧ ReprK X.prog X.w bs s.heap d.py2.depth u d.py2.shown
  | .non, _, _, h, _, r, hs, hz => by
    cases h; cases r
    obtain ⟨bs, a, b⟩ := ReprK.of_reads (prog := X.prog) (w := X.w) (h₀ := s.heap) Reads.none hs (fun z => by cases z) hz
    exact ⟨_, bs, Reads.none, a, b⟩
  | .bl b, _, _, h, _, r, hs, hz => by
    cases h; cases r
    obtain ⟨bs, a, c⟩ := ReprK.of_reads (prog := X.prog) (w := X.w) (h₀ := s.heap) (Reads.bool b) hs (fun z => by cases z) hz
    exact ⟨_, bs, Reads.bool b, a, c⟩
  | .int i, _, _, h, _, r, hs, hz => by
    cases h
    obtain ⟨t, rfl⟩ := r
    obtain ⟨bs, a, c⟩ := ReprK.of_reads (prog := X.prog) (w := X.w) (h₀ := s.heap) (Reads.int i t) hs (fun z => by cases z) hz
    exact ⟨_, bs, Reads.int i t, a, c⟩
  | .str x, _, _, h, _, r, hs, hz => by
    cases h
    obtain ⟨t, rfl⟩ := r
    obtain ⟨bs, a, c⟩ := ReprK.of_reads (prog := X.prog) (w := X.w) (h₀ := s.heap) (Reads.str x t) hs (fun z => by cases z) hz
    exact ⟨_, bs, Reads.str x t, a, c⟩
  | .lst l, _, _, h, p, r, hs, hz => by
    have hp : Dp X.K H _ (D.lst l).py := Rp.dp (.lst l) (h.mono g) p
    obtain ⟨as, rr⟩ := Dp.reads I _ _ _ hp r
    obtain ⟨bs, a, c⟩ := ReprK.of_reads (prog := X.prog) (w := X.w) (h₀ := s.heap) rr hs (PyData.noDict_hsm (py_nodict (.lst l) p)) hz
    exact ⟨_, bs, rr, a, c⟩
  | .dct ks ds, _, _, h, p, r, hs, hz => by
    have p : (decide (ks.length = ds.length) && ds.all D.scal) = true := p
    rw [Bool.and_eq_true] at p
    cases h with
    | dct hG hl hr =>
      cases r
      obtain ⟨as, rr, hn⟩ := dct_read I g hG hl hr p.2
      obtain ⟨bs, a, c⟩ := ReprK.of_reads (prog := X.prog) (w := X.w) (h₀ := s.heap) rr hs (fun _ => hn) hz
      exact ⟨_, bs, rr, a, c⟩
  | .tup l, _, _, h, p, r, hs, hz => by
    cases h with
    | tup ht ha =>
      cases r
      obtain ⟨its, rv, ⟨o, ho, hc, n, hd⟩, _⟩ := I.tuple (Evl.ex_t g ht)
      have hz' : (tupleText (PyData.shownAll (py2All l))).length ≤ sizeLine := by simpa only [D.py2, PyData.shown] using hz
      obtain ⟨as, bs, h4, hb, hk⟩ := rkAll I g l ha p rv (by simpa [D.py2, PyData.showable] using hs) (fun t ht => Nat.le_trans (tupleText_mem_le ht) hz')
      have rr : Reads s.heap _ (.tuple (py2All l)) _ := .tuple ho hc hd h4
      have hna := not_mem_of_deeper rr (n := PyData.depthAll (py2All l)) (by simp only [PyData.depth]; omega) hb
      have hcons : ReadAtMost s.heap (PyData.tuple (py2All l)).depth (_ :: bs) := ReadAtMost.cons rr (by simp only [PyData.depth]; omega) hb
      refine ⟨_, _ :: bs, rr, hcons, ?_⟩
      simp only [D.py2, PyData.depth, PyData.shown]
      exact ReprK.tuple ho hc hd hna hk
  | .obj _, _, _, _, p, _, _, _ => by cases p
theorem rkAll (I : Inv X pins σ H s) (g : Ex G H) : ∀ (ds : List D) {vs : List V} {us : List Value}, RpAll X.K G vs ds → pure2All ds = true → Vals vs us → PyData.showableAll (py2All ds) = true → (∀ t ∈ PyData.shownAll (py2All ds), t.length ≤ sizeLine) →
    ∃ as bs, ReadsAll s.heap us (py2All ds) as ∧ ReadAtMost s.heap (PyData.depthAll (py2All ds)) bs ∧ ReprAllK X.prog X.w bs s.heap (PyData.depthAll (py2All ds)) us (PyData.shownAll (py2All ds))
  | [], _, _, h, _, r, _, _ => by
    cases h; cases r
    exact ⟨_, [], ReadsAll.nil, (fun _ h => nomatch h), by simp only [py2All, PyData.shownAll]; exact .nil⟩
  | d :: ds, _, _, h, p, r, hs, hz => by
    have p' : (d.pure2 && pure2All ds) = true := p
    rw [Bool.and_eq_true] at p'
    have hs' : d.py2.showable = true ∧ PyData.showableAll (py2All ds) = true := by simpa [py2All, PyData.showableAll] using hs
    cases h with
    | cons h1 h2 =>
      cases r with
      | cons r1 r2 =>
        obtain ⟨as1, b1, q1, hb1, k1⟩ := rk I g d h1 p'.1 r1 hs'.1 (hz _ (by simp only [py2All, PyData.shownAll]; exact List.mem_cons_self ..))
        obtain ⟨as2, b2, q2, hb2, k2⟩ := rkAll I g ds h2 p'.2 r2 hs'.2 (fun t ht => hz t (by simp only [py2All, PyData.shownAll]; exact List.mem_cons_of_mem _ ht))
        refine ⟨_, b1 ++ b2, ReadsAll.cons q1 q2, ?_, ?_⟩
        · simp only [py2All, PyData.depthAll]
          exact (hb1.mono (Nat.le_max_left _ _)).append (hb2.mono (Nat.le_max_right _ _))
        · simp only [py2All, PyData.depthAll, PyData.shownAll]
          exact .cons ((k1.more fun b hb => List.mem_append_left _ hb).level_le (Nat.le_max_left _ _)) (k2.more_le (fun b hb => List.mem_append_right _ hb) (Nat.le_max_right _ _))
end
def D.showOk2 (d : D) : Bool := d.pure2 && (d.py2.showable && (decide (d.py2.shown.length ≤ sizeLine) && decide (d.py2.depth ≤ 64)))
def reprD2 : List D → T D
  | [d] => if d.showOk2 = true then .ret (.str d.py2.shown) else .fail
  | _ => .fail
def rRepr2 (K : PySem.W.Frag) : RL := fun xs H Q => ∃ x d, xs = [x] ∧ Rp K H x d ∧ d.showOk2 = true ∧ Q (.str d.py2.shown) H
theorem call_repr2 {X : Cx} (hg : X.A.guards = some []) (hu : X.A.units + 66 < cLine) : CallR X (.builtin "repr") (rRepr2 X.K) := by
  intro pins s σ H xs us Q I r h
  obtain ⟨x, d, rfl, hR, hk, q⟩ := h
  obtain ⟨u, rfl, ru⟩ := vals1 r
  unfold D.showOk2 at hk
  simp only [Bool.and_eq_true, decide_eq_true_eq] at hk
  obtain ⟨hp, hs, hz, hdp⟩ := hk
  have g : Ex H H := Ex.refl _
  cases d with
  | non => cases hR; cases ru; exact PySem.P.repr_of_none ⟨.str _, H, I.tok _, ⟨_, rfl⟩, q⟩
  | bl b => cases hR; cases ru; exact PySem.P.repr_of_bool ⟨.str _, H, I.tok _, ⟨_, rfl⟩, q⟩
  | int i =>
    cases hR
    obtain ⟨t, rfl⟩ := ru
    exact PySem.P.repr_of_int (by simpa [D.py2, PyData.showable] using hs) ⟨.str _, H, I.tok _, ⟨_, rfl⟩, q⟩
  | str z =>
    cases hR
    obtain ⟨t, rfl⟩ := ru
    exact PySem.P.repr_of_str ⟨.str _, H, I.tok _, ⟨_, rfl⟩, q⟩ (by simpa only [D.py2, PyData.shown] using hz)
  | lst l =>
    have hd : Dp X.K H _ (D.lst l).py := Rp.dp (.lst l) hR hp
    obtain ⟨as, rr⟩ := Dp.reads I _ _ _ hd ru
    cases hR
    cases ru
    exact repr_of_reads' rr hs (PyData.noDict_hsm (py_nodict (.lst l) hp)) hg (by have : (D.lst l).py.depth ≤ 64 := hdp; omega) (fun _ _ e => e) (fun h' u tk hk => ⟨.str _, H, I.kept hk, ⟨_, rfl⟩, q⟩) hz
  | dct ks ds =>
    have hp : (decide (ks.length = ds.length) && ds.all D.scal) = true := hp
    rw [Bool.and_eq_true] at hp
    cases hR with
    | dct hG hl hr =>
      cases ru
      obtain ⟨as, rr, hn⟩ := dct_read I g hG hl hr hp.2
      exact repr_of_reads' rr hs (fun _ => hn) hg (by omega) (fun _ _ e => e) (fun h' u tk hk => ⟨.str _, H, I.kept hk, ⟨_, rfl⟩, q⟩) hz
  | tup l =>
    cases hR with
    | tup ht ha =>
      cases ru
      obtain ⟨its, rv, ⟨o, ho, hc, n, hd⟩, _⟩ := I.tuple ht
      have hz' : (tupleText (PyData.shownAll (py2All l))).length ≤ sizeLine := by simpa only [D.py2, PyData.shown] using hz
      obtain ⟨as, bs, h4, hb, hk⟩ := rkAll I g l ha hp rv (by simpa [D.py2, PyData.showable] using hs) (fun t ht => Nat.le_trans (tupleText_mem_le ht) hz')
      have rr : Reads s.heap _ (.tuple (py2All l)) _ := .tuple ho hc hd h4
      have hna := not_mem_of_deeper rr (n := PyData.depthAll (py2All l)) (by simp only [PyData.depth]; omega) hb
      simp only [D.py2, PyData.depth] at hdp
      simp only [D.py2, PyData.shown] at q
      exact PySem.call_repr_slot (T := "tuple") (idr := "tuple.__repr__") (by omega) ⟨o, ho, hc⟩ PySem.F.slot_tuple_repr (call_tuple_reprK ho hc hd hna hk hg (fun b _ => Clear.nil b) (by show X.A.units + 1 + (PyData.depthAll (py2All l) + 1) < cLine; omega) (fun _ _ e => e) (fun h' u tk hk => ⟨_, _, rfl, ⟨.str _, H, I.kept hk, ⟨_, rfl⟩, q⟩⟩) hz')
  | obj => cases hp
variable {K : PySem.W.Frag} {A : Act}
theorem Rq.rp {v : V} {d : D} (h : Rq K A G H v d) (g : Ex G H) : Rp K H v d := by
  cases h with
  | of r => exact r.mono g
  | own a b c => exact (c.mono g).rp a
theorem ca_repr2 : CaD K A (rRepr2 K) reprD2 := by
  intro G H vs ds Q s hp h
  unfold reprD2 at h
  split at h
  · split at h
    · rename_i d hk
      obtain ⟨v, rfl, r⟩ := Paired.one hp
      exact ⟨v, _, rfl, r.rp s.gh, hk, h _ _ _ s (.str _)⟩
    · exact h.elim
  · exact h.elim
end
end Eng

namespace Eng
open PySem PySem.Spec PyProof.Rows L2
open Evl (Ex)
section
variable {X : Cx} {A : Act} {pos : Pos}
theorem r_dct0 : PE X (.Dict [] [] pos) (rd X.K A (dDct [])) := (pe_dnewK).imp fun σ H Q q => by
  obtain ⟨G, env, R, q⟩ := q
  intro p hp
  have e1 : Ext A G H G (upd H p (.dK [])) := R.st.allocO hp
  have nf := R.st.nf hp
  have gp : G p = none := R.st.gnone hp
  have gu : ∀ u, Ex G (upd G p u) := fun u => Ex.new gp
  refine q (.ref p) (upd G p (.dK (([] : List Key).zip ([] : List V)))) _ ⟨gu _, fun b o hb => ?_, fun b o f hb => ?_, fun b o hb => ?_, R.st.si, Ext.si_upd R.st.si nf⟩ (.dct upd_same rfl .nil)
  · by_cases z : b = p
    · subst z; rw [upd_same] at hb ⊢; exact hb
    · rw [upd_ne z] at hb ⊢; exact R.st.gh b o hb
  · rw [upd_ne (ne_of_none hb hp)]
    exact hb
  · by_cases z : b = p
    · subst z; exact .inr hp
    · rw [upd_ne z] at hb; exact .inl hb
end
end Eng

namespace Eng
open PySem PySem.Spec PyProof.Rows L2
open Evl (Ex)
def XRel (mg : Str → Option Value) (K : PySem.W.Frag) (G : Hp) (c : Str) (es : List D) (cls : Value) (d : Option Addr) : Prop :=
  mg c = some cls ∧ (∃ C, cls = .ref C) ∧ ((es = [] ∧ d = none) ∨ ∃ f v e dd, es = [.str f, e] ∧ d = some dd ∧ G dd = some (.xd [(f, v)]) ∧ Rp K G v e)
theorem XRel.mono {mg : Str → Option Value} {K : PySem.W.Frag} {G G' : Hp} {c : Str} {es : List D} {cls : Value} {d : Option Addr} (h : XRel mg K G c es cls d) (e : Ex G G') : XRel mg K G' c es cls d := by
  obtain ⟨h1, h2, h3⟩ := h
  refine ⟨h1, h2, ?_⟩
  rcases h3 with h3 | ⟨f, v, x, dd, q1, q2, q3, q4⟩
  · exact .inl h3
  · exact .inr ⟨f, v, x, dd, q1, q2, e _ _ q3, q4.mono e⟩
/-- the wish of A for an exception in a frame of n slots -/
def wxA (mg : Str → Option Value) (K : PySem.W.Frag) (A : Act) (n : Nat) : WX := fun cls d σ H =>
  ∃ c es G, Ext A A.G0 A.H0 G H ∧ (∀ a, A.F a → G a = none) ∧ σ.length = n ∧ XRel mg K G c es cls d ∧ A.E c es
theorem takes_no {X : Cx} {A : Act} (hE : ∀ c d, ¬ A.E c d) : Takes X (wxA X.mg X.K A X.N.length) := fun u s' ⟨_, _, _, _, _, _, _, _, _, _, _, _, _, _, _, _, w⟩ => by
  obtain ⟨_, _, _, _, _, _, _, q⟩ := w
  exact (hE _ _ q).elim
/-- FnG for what may raise -/
structure FnX (P : Program) (w : World) (K : PySem.W.Frag) (mg : Str → Option Value) (base : Heap) (k : Nat) (f : Addr) (fd : FuncData) (ps : List Str) (sp : Sp) : Prop where
  len : ∀ vs H Q E, sp vs H Q E → vs.length = ps.length
  run : ∀ (A : Around) (outer : List PySem.Env) (s : Shared) (H : Hp) (args : Args) (us : List Value) (vs : List V) (Q : VK) (E : XK), Room k A → A.guards = some [] → Env0 P w K mg base A outer s H → BindsTo s fd args (ps.zip us) → Vals vs us → sp vs H Q E →
    codeAny (model P w) A (.call (.ref f) args) (CR (L2.CX P w) outer P w H s Q E) s
theorem FnX.mono {P : Program} {w : World} {K : PySem.W.Frag} {mg : Str → Option Value} {base : Heap} {j k : Nat} {f : Addr} {fd : FuncData} {ps : List Str} {sp : Sp} (F : FnX P w K mg base j f fd ps sp) (h : j ≤ k) : FnX P w K mg base k f fd ps sp :=
  ⟨F.len, fun A outer s H args us vs Q E hr => F.run A outer s H args us vs Q E (hr.mono h)⟩
theorem fnX_of {P : Program} {w : World} {K : PySem.W.Frag} {mg : Str → Option Value} {base : Heap} {k : Nat} {f : Addr} {name qual : Str} {params : Arguments} {body : List Stmt} {scope : Scope} {dV kV doc pm cdv ct oc : Value} {an od : Option Addr}
    {osl : Array (Option Value)} {N ps : List Str} {sp : Sp} (lk : K.lookup f = some ⟨oc, od, .func (PySem.W.fnOf name qual params body scope dV kV doc pm an cdv ct), osl⟩) (hcd : PySem.W.codeIn K cdv qual = true) (S : FnScope N ps scope)
    (len : ∀ vs H Q E, sp vs H Q E → vs.length = ps.length)
    (hbody : ∀ (A : Around) (outer : List PySem.Env) (s : Shared) (H : Hp) (vs : List V) (Q : VK) (E : XK), Room k (A.deeper (envOfC qual scope s.heap.objs.size f cdv)) → A.guards = some [] → sp vs H Q E →
      ∃ t, PSs (cxOf (L2.CX P w) P w K mg base N qual scope f cdv A outer s H E) body t ∧ t { nx := fun _ H' => Q .non H', rt := Q } (L2.start N vs) H) :
    FnX P w K mg base (k + 1) f (PySem.W.fnOf name qual params body scope dV kV doc pm an cdv ct) ps sp := by
  refine ⟨len, fun A outer s H args us vs Q E hr hgd e0 hb r hsp => ?_⟩
  have hl := len _ _ _ _ hsp
  have KX : K.In s.heap := e0.mod.kin.keeps fun b o e => (e0.bs b o e).1
  have lim : s.heap.NoLimit := e0.mod.nolimit.keeps fun b o e => (e0.bs b o e).1
  have hkind : ∀ y ∈ ps.zip us, scope.names.lookup y.1 = some .local ∨ (scope.names.lookup y.1 = some .cell ∧ ((cellsFrom (s.heap.objs.size + 1) scope.names []).lookup y.1).isSome = true) := fun ⟨n, v⟩ hy => by
    rcases S.par n (List.of_mem_zip hy).1 with q | q
    · exact .inl q
    · exact .inr ⟨q, PySem.W.cellsFrom_some _ _ _ (.inl q)⟩
  refine codeAny_call_function hr.depth (KX _ _ lk) rfl S.co S.gen rfl (PySem.W.codeRec_of KX hcd) (hb _ _ _ _ ?_)
  refine wpAny_newFunctionEnv_cells S.kind hkind fun env he s1 x => ?_
  subst he
  refine ⟨lim.keeps x.toInCall.keep, codeAny_func ?_⟩
  obtain ⟨t, ht, hq⟩ := hbody A outer s H vs Q E (hr.deeper _) hgd hsp
  have I : Inv (cxOf (L2.CX P w) P w K mg base N qual scope f cdv A outer s H E) [] (L2.start N vs) H s1 := inv_start S hr.hd e0 hl r x
  refine wpAny_mono (ht.run [] s1 (L2.start N vs) H _ I hq) (fun fl s' hs => ?_) fun e s' hs => hs
  have fin : ∀ {σ' : L2.St} {H' : Hp} {v : V} {u : Value}, Inv (cxOf (L2.CX P w) P w K mg base N qual scope f cdv A outer s H E) [] σ' H' s' → RelV v u → Q v H' → CE outer P w H s Q u s' :=
    fun {σ' H' v u} J rv q => ⟨v, H', J.os, J.bare, J.base, J.hok, rv, q⟩
  cases fl with
  | ret u => obtain ⟨v, σ', H', J, rv, q⟩ := hs; exact fin J rv q
  | next => obtain ⟨σ', H', J, q⟩ := hs; exact fin (v := V.non) (u := Value.none) J rfl q
  | brk => obtain ⟨_, _, _, q⟩ := hs; exact q.elim
  | cont => obtain ⟨_, _, _, q⟩ := hs; exact q.elim

def spX (mg : Str → Option Value) (K : PySem.W.Frag) (PX : APr) (np : Nat) (fT : List D → T D) : Sp := fun vs H Q E => vs.length = np ∧ ∃ (A : Act) (G : Hp) (ds : List D), PX A.F A.SI ∧ St1 A G H ∧ (∀ a, A.F a → G a = none) ∧ RpAll K G vs ds ∧
  wp (fT ds) (fun d => ∀ v G' H', Ext A G H G' H' → Rp K G' v d → Q v H') (fun c es => ∀ cls d G' H', Ext A G H G' H' → (∀ a, A.F a → G' a = none) → XRel mg K G' c es cls d → E cls d H')
structure DefX (P : Program) (w : World) (K : PySem.W.Frag) (mg : Str → Option Value) (base : Heap) (PX : APr) (k : Nat) (x : Str) (st : Stmt) (ps : List Str) (fT : List D → T D) : Prop where
  ex : ∃ f fd, mg x = some (.ref f) ∧ FunD K x x (defArgs st) (defBody st) (defScope st) [] [] f fd ∧ FnX P w K mg base k f fd ps (spX mg K PX ps.length fT)
  bn : ∀ (kV doc pm : Value) (an : Option Addr) (cdv ct : Value) (us : List Value), us.length = ps.length → bindArgs (PySem.W.fnOf x x (defArgs st) (defBody st) (defScope st) .none kV doc pm an cdv ct) ⟨us, []⟩ = pure (ps.zip us)
theorem DefX.mono {P : Program} {w : World} {K : PySem.W.Frag} {mg : Str → Option Value} {base : Heap} {PX : APr} {j k : Nat} {x : Str} {st : Stmt} {ps : List Str} {fT : List D → T D} (F : DefX P w K mg base PX j x st ps fT) (h : j ≤ k) : DefX P w K mg base PX k x st ps fT := by
  obtain ⟨f, fd, h1, h2, h3⟩ := F.ex
  exact ⟨⟨f, fd, h1, h2, h3.mono h⟩, F.bn⟩
/-- what raises nothing -/
def nxT {α : Type} : T α → T α
  | .ret a => .ret a
  | .fail => .fail
  | .draw n k => .draw n fun i => nxT (k i)
  | .exc _ _ => .fail
@[simp] theorem nxT_ret {α : Type} (a : α) : nxT (T.ret a) = T.ret a := rfl
@[simp] theorem nxT_fail {α : Type} : nxT (T.fail : T α) = T.fail := rfl
theorem nxT_wp {α : Type} {t : T α} {Q : α → Prop} {E : Str → List D → Prop} : wp (nxT t) Q E ↔ wp t Q (fun _ _ => False) := by
  induction t with
  | ret a => exact Iff.rfl
  | fail => exact Iff.rfl
  | draw n k ih => exact and_congr Iff.rfl (forall_congr' fun i => imp_congr Iff.rfl (ih i))
  | exc c d => exact Iff.rfl
/-- a list of data to nothing raised -/
def nxF (f : List D → T D) : List D → T D := fun ds => nxT (f ds)
theorem DefG.toX {P : Program} {w : World} {K : PySem.W.Frag} {mg : Str → Option Value} {base : Heap} {PX : APr} {k : Nat} {x : Str} {st : Stmt} {ps : List Str} {fT : List D → T D} (F : DefG P w K mg base PX k x st ps fT) : DefX P w K mg base PX k x st ps (nxF fT) := by
  obtain ⟨f, fd, h1, h2, h3⟩ := F.ex
  refine ⟨⟨f, fd, h1, h2, ⟨fun vs H Q E h => h.1, fun A outer s H args us vs Q E hr hg e0 hb r hsp => ?_⟩⟩, F.bn⟩
  obtain ⟨a, A1, G, ds, b, c, d, e, q⟩ := hsp
  refine codeAny_mono (h3.run A outer s H args us vs Q (fun _ _ _ => False) hr hg e0 hb r ⟨a, A1, G, ds, b, c, d, e, nxT_wp.mp q⟩) fun r s' z => ?_
  cases r with
  | error u => exact (show False from z).elim
  | ok fl => cases fl <;> exact z
section
variable {P : Program} {w : World} {K : PySem.W.Frag} {mg : Str → Option Value} {base : Heap} {PX : APr}
/-- THE RULE for a def that may raise -/
theorem DefX.mk' {k : Nat} {x : Str} {st : Stmt} {N ps : List Str} {wb : Env → T Out} (at_ : At K mg x st) (S : FnScope N ps (defScope st))
    (bn : ∀ (kV doc pm : Value) (an : Option Addr) (cdv ct : Value) (us : List Value), us.length = ps.length → bindArgs (PySem.W.fnOf x x (defArgs st) (defBody st) (defScope st) .none kV doc pm an cdv ct) ⟨us, []⟩ = pure (ps.zip us))
    (hbody : ∀ (f : Addr) (cdv : Value) (Ar : Around) (outer : List PySem.Env) (s : Shared) (H : Hp) (E : XK), Room k (Ar.deeper (envOfC x (defScope st) s.heap.objs.size f cdv)) → (Ar.deeper (envOfC x (defScope st) s.heap.objs.size f cdv)).guards = some [] →
      ∀ A : Act, PX A.F A.SI → Takes (cxOf (L2.CX P w) P w K mg base N x (defScope st) f cdv Ar outer s H E) (wxA mg K A N.length) → PSs (cxOf (L2.CX P w) P w K mg base N x (defScope st) f cdv Ar outer s H E) (defBody st) (rdS K A wb)) :
    DefX P w K mg base PX (k + 1) x st ps (bodyT N.length wb) := by
  obtain ⟨f, fd, h1, F⟩ := at_.ex
  refine ⟨⟨f, fd, h1, F, ?_⟩, bn⟩
  obtain ⟨oc, od, dV, kV, doc, pm, an, cdv, ct, osl, rfl, lk, hcd, _, _⟩ := F.ex
  refine fnX_of lk hcd S (fun vs H Q E h => h.1) fun Ar outer s H vs Q E hr hg h => ?_
  obtain ⟨hl, A, G, ds, pa, s1, hf, r, hw⟩ := h
  have hpl : ps.length ≤ N.length := by have := congrArg List.length S.pre; rw [List.length_take] at this; omega
  refine ⟨_, hbody f cdv Ar outer s H E hr hg ⟨A.F, A.SI, A.loc, A.dom, G, H, fun c es => ∀ cls d G' H', Ext A G H G' H' → (∀ a, A.F a → G' a = none) → XRel mg K G' c es cls d → E cls d H'⟩ pa ?_, G, startE N.length ds,
    rel_start ⟨s1.gg, s1.gh, s1.keep, s1.new, s1.si0, s1.si⟩ rfl rfl hf r (by rw [hl]; exact hpl), ?_⟩
  · refine (takes_of (E := E) rfl rfl rfl rfl).imp fun cls d σ H' z => ?_
    obtain ⟨c, es, G', e, gf, _, xr, q⟩ := z
    exact q cls d G' H' ⟨e.gg, e.gh, e.keep, e.new, e.si0, e.si⟩ gf xr
  · refine wp_mono (wp_bind.mp hw) (fun o q => ?_) fun _ _ h => h
    cases o with
    | nx env => exact fun σ' G' H' e R => q .non G' H' ⟨R.e0.gg, R.e0.gh, R.e0.keep, R.e0.new, R.e0.si0, R.e0.si⟩ .non
    | rt d => exact fun v G' H' e r => q v G' H' ⟨e.gg, e.gh, e.keep, e.new, e.si0, e.si⟩ r
    | bk env => exact q.elim
    | ct env => exact q.elim
end

section
variable {X : Cx} {A : Act} {PX : APr} {k m n : Nat} {x : Str} {st : Stmt} {ps ks : List Str} {fT : List D → T D} {p pos apos : Pos} {e : Expr} {es : List Expr} {kws : List Keyword} {ws zs : Env → T (List D)} {o : List Nat}
theorem run_fnX {f : Addr} {fd : FuncData} {sp : Sp} {args : Args} {pins : List (Addr × Obj)} {σ : L2.St} {H : Hp} {s : Shared} {Q : VK} {us : List Value} {vs : List V} {W : WX} (F : FnX X.prog X.w X.K X.mg X.base k f fd ps sp) (hr : Room k X.A) (hg : X.A.guards = some [])
    (tk : Takes X W) (I : Inv X pins σ H s) (hb : BindsTo s fd args (ps.zip us)) (r : Vals vs us) (h : sp vs H Q (fun cls d H' => W cls d σ H')) : wpAny (model X.prog X.w) X.A (call (.ref f) args.pos args.kw) (EP X pins σ Q) X.xe s := by
  refine wpAny_call (codeAny_mono (F.run X.A X.stack s H args us vs Q _ hr hg I.env0 hb r h) fun r s' hq => ?_)
  cases r with
  | error u => exact tk u s' (XE.of_call I (fun _ _ _ z => z) hq)
  | ok fl =>
    cases fl with
    | ret u => exact I.after hq
    | next => exact False.elim hq
    | brk => exact False.elim hq
    | cont => exact False.elim hq
theorem spX_of {G H : Hp} {σ : L2.St} {env : Env} {vs : List V} {ds : List D} {Q : VK} (hA : PX A.F A.SI) (R : Rel X.K A G σ env H) (hn : σ.length = X.N.length) (r : RpAll X.K G vs ds) (hl : vs.length = n)
    (h : wp (fT ds) (fun d => ∀ v G' H', Ext A G H G' H' → Rp X.K G' v d → Q v H') A.E) : spX X.mg X.K PX n fT vs H Q (fun cls d H' => wxA X.mg X.K A X.N.length cls d σ H') :=
  ⟨hl, A, G, ds, hA, R.st, R.gf, r, wp_mono h (fun _ q => q) fun c es z cls d G' H' e gf xr => ⟨c, es, G', R.e0.trans e, gf, hn, xr, z⟩⟩
theorem r_callX (F : DefX X.prog X.w X.K X.mg X.base PX k x st ps fT) (hr : Room k X.A) (hgd : X.A.guards = some []) (hA : PX A.F A.SI) (tk : Takes X (wxA X.mg X.K A X.N.length)) (hg : Gl X x) (ha : PA X (e :: es) (rdA X.K A ps.length ws)) (hdb : (x == ("__debug__" : Str)) = false := by decide)
    (he : starEach (e :: es) X.env = (false, eval e X.env) :: starEach es X.env := by rfl) (hpl : (backTo pos (starEach es X.env)).any (·.1) = false := by rfl) : PE X (.Call (.Name x p) (e :: es) [] pos) (rd X.K A (dC fT ws)) := by
  obtain ⟨f, fd, hm, FD, FG⟩ := F.ex
  refine ⟨fun pins s σ H Q I h => ?_⟩
  obtain ⟨G, env, R, h⟩ := h
  refine wpAny_Call_Name_kw (ld_glob I hg hm ?_ hdb)
  refine PySem.W.callWith_K (h₀ := X.base) I.ok.mod.kin FD.kp (thn (ha.run pos pins s σ H _ I ⟨G, env, R, wp_imp (wp_bind.mp h) fun ds q vs G1 H1 e1 r1 l1 => (⟨ds, G1, R.ext e1, r1, l1, wp_imp q fun d q v G2 H2 e2 => q v G2 H2 (e1.trans e2)⟩ :
    ∃ ds G1, Rel X.K A G1 σ env H1 ∧ RpAll X.K G1 vs ds ∧ vs.length = ps.length ∧ wp (fT ds) (fun d => ∀ v G2 H2, Ext A G1 H1 G2 H2 → Rp X.K G2 v d → Q v H2) A.E)⟩) fun us s1 ⟨vs, H1, I1, r, ds, G1, R1, r1, l1, q⟩ => ⟨I1.kIn, ?_⟩) he hpl
  refine run_fnX (args := ⟨us, []⟩) FG hr hgd tk I1 ?_ r (spX_of hA R1 I1.len r1 l1 q)
  exact (FD.bindsN F.bn) s1 us I1.kIn (by rw [List.append_nil, ← r.length, l1]) |> fun z => by simpa using z
theorem r_callX0 (F : DefX X.prog X.w X.K X.mg X.base PX k x st ps fT) (hr : Room k X.A) (hgd : X.A.guards = some []) (hA : PX A.F A.SI) (tk : Takes X (wxA X.mg X.K A X.N.length)) (hg : Gl X x) (hp : ps = []) (hdb : (x == ("__debug__" : Str)) = false := by decide) :
    PE X (.Call (.Name x p) [] [] pos) (rd X.K A (fun _ => fT [])) := by
  subst hp
  obtain ⟨f, fd, hm, FD, FG⟩ := F.ex
  refine ⟨fun pins s σ H Q I h => ?_⟩
  obtain ⟨G, env, R, h⟩ := h
  refine wpAny_Call_Name_kw (ld_glob I hg hm ?_ hdb)
  refine PySem.W.callWith_K0 I.kIn FD.kp (run_fnX (args := ⟨[], []⟩) (us := []) FG hr hgd tk I ?_ .nil (spX_of hA R I.len .nil rfl h))
  exact (FD.bindsN F.bn) s [] I.kIn rfl |> fun z => by simpa using z
theorem r_callKX (F : DefX X.prog X.w X.K X.mg X.base PX k x st ps fT) (B : KwB x st ps n ks o) (hr : Room k X.A) (hgd : X.A.guards = some []) (hA : PX A.F A.SI) (tk : Takes X (wxA X.mg X.K A X.N.length)) (hg : Gl X x) (ha : PA X (e :: es) (rdA X.K A n ws)) (hk : PK X kws (rdA X.K A m zs)) (hm0 : m = ks.length) (ho : ∀ l : List V, l.length = n + m → (pick o l).length = ps.length)
    (hall : (backToKw pos (keywordEach kws X.env)).all (·.1.isSome) = true := by rfl) (hks : (backToKw pos (keywordEach kws X.env)).filterMap (·.1) = ks := by rfl)
    (hdb : (x == ("__debug__" : Str)) = false := by decide) (he : starEach (e :: es) X.env = (false, eval e X.env) :: starEach es X.env := by rfl)
    (hpl : ((backTo pos (starEach (e :: es) X.env)).any (·.1) || (backToKw pos (keywordEach kws X.env)).any (·.1.isNone)) = false := by rfl) : PE X (.Call (.Name x p) (e :: es) kws pos) (rd X.K A (dCK fT o ws zs)) := by
  obtain ⟨f, fd, hm, FD, FG⟩ := F.ex
  refine ⟨fun pins s σ H Q I h => ?_⟩
  obtain ⟨G, env, R, h⟩ := h
  refine wpAny_Call_Name_kw (ld_glob I hg hm ?_ hdb)
  refine PySem.W.callWith_KW (h₀ := X.base) I.ok.mod.kin FD.kp hall (thn (ha.run pos pins s σ H _ I ⟨G, env, R, wp_imp (wp_bind.mp h) fun ds q vs G1 H1 e1 r1 l1 => (⟨ds, G1, R.ext e1, r1, l1, wp_imp (wp_bind.mp q) fun es q => wp_imp q fun d q v G2 H2 e2 => q v G2 H2 (e1.trans e2)⟩ :
    ∃ ds G1, Rel X.K A G1 σ env H1 ∧ RpAll X.K G1 vs ds ∧ vs.length = n ∧ wp (zs env) (fun es => wp (fT (pick o (ds ++ es))) (fun d => ∀ v G2 H2, Ext A G1 H1 G2 H2 → Rp X.K G2 v d → Q v H2) A.E) A.E)⟩) fun us s1 ⟨vs, H1, I1, r, ds, G1, R1, r1, l1, q⟩ => ?_) hpl he
  refine thn (hk.run pos pins s1 σ H1 _ I1 ⟨G1, env, R1, wp_imp q fun es q us G2 H2 e2 r2 l2 => (⟨es, G2, R1.ext e2, r1.mono e2.gg, r2, l2, wp_imp q fun d q v G3 H3 e3 => q v G3 H3 (e2.trans e3)⟩ :
    ∃ es G2, Rel X.K A G2 σ env H2 ∧ RpAll X.K G2 vs ds ∧ RpAll X.K G2 us es ∧ us.length = m ∧ wp (fT (pick o (ds ++ es))) (fun d => ∀ v G3 H3, Ext A G2 H2 G3 H3 → Rp X.K G3 v d → Q v H3) A.E)⟩) fun wsv s2 ⟨zv, H2, I2, rz, es, G2, R2, r2, r3, l2, q⟩ => ⟨I2.kIn, ?_⟩
  rw [hks]
  refine run_fnX (args := ⟨us, ks.zip wsv⟩) (us := pick o (us ++ wsv)) (vs := pick o (vs ++ zv)) FG hr hgd tk I2 ?_ (Eng.Vals.pick (Vals.append r rz) o) (spX_of hA R2 I2.len ((r2.append r3).pick o) (ho _ (by rw [List.length_append, l1, l2])) q)
  exact bindsK FD B s2 us wsv (by rw [← r.length, l1]) (by rw [← rz.length, l2, hm0])
theorem r_callK0X (F : DefX X.prog X.w X.K X.mg X.base PX k x st ps fT) (B : KwB x st ps 0 ks o) (hr : Room k X.A) (hgd : X.A.guards = some []) (hA : PX A.F A.SI) (tk : Takes X (wxA X.mg X.K A X.N.length)) (hg : Gl X x) (hk : PK X kws (rdA X.K A m zs)) (hm0 : m = ks.length) (ho : ∀ l : List V, l.length = 0 + m → (pick o l).length = ps.length)
    (hall : (backToKw pos (keywordEach kws X.env)).all (·.1.isSome) = true := by rfl) (hks : (backToKw pos (keywordEach kws X.env)).filterMap (·.1) = ks := by rfl)
    (hdb : (x == ("__debug__" : Str)) = false := by decide)
    (hpl : ((backTo pos (starEach [] X.env)).any (·.1) || (backToKw pos (keywordEach kws X.env)).any (·.1.isNone)) = false := by rfl) : PE X (.Call (.Name x p) [] kws pos) (rd X.K A (dCK fT o dNil zs)) := by
  obtain ⟨f, fd, hm, FD, FG⟩ := F.ex
  refine ⟨fun pins s σ H Q I h => ?_⟩
  obtain ⟨G, env, R, h⟩ := h
  refine wpAny_Call_Name_kw (ld_glob I hg hm ?_ hdb)
  have h := wp_bind.mp (show wp (zs env >>= fun vs => fT (pick o ([] ++ vs))) _ _ from h)
  refine PySem.W.callWith_KW0 (h₀ := X.base) I.ok.mod.kin FD.kp hall (thn (hk.run pos pins s σ H _ I ⟨G, env, R, wp_imp h fun es q us G2 H2 e2 r2 l2 => (⟨es, G2, R.ext e2, r2, l2, wp_imp q fun d q v G3 H3 e3 => q v G3 H3 (e2.trans e3)⟩ :
    ∃ es G2, Rel X.K A G2 σ env H2 ∧ RpAll X.K G2 us es ∧ us.length = m ∧ wp (fT (pick o ([] ++ es))) (fun d => ∀ v G3 H3, Ext A G2 H2 G3 H3 → Rp X.K G3 v d → Q v H3) A.E)⟩) fun wsv s2 ⟨zv, H2, I2, rz, es, G2, R2, r3, l2, q⟩ => ⟨I2.kIn, ?_⟩) hpl
  rw [hks]
  refine run_fnX (args := ⟨[], ks.zip wsv⟩) (us := pick o ([] ++ wsv)) (vs := pick o ([] ++ zv)) FG hr hgd tk I2 ?_ (Vals.pick rz o) (spX_of hA R2 I2.len (RpAll.pick r3 o) (ho _ (by show zv.length = 0 + m; omega)) q)
  exact bindsK FD B s2 [] wsv rfl (by rw [← rz.length, l2, hm0])
end
end Eng

namespace Eng
open PySem PySem.Spec PyProof.Rows L2
open Evl (Ex)
/-- an own class of exceptions without own __init__ -/
structure XBare (K : PySem.W.Frag) (mg : Str → Option Value) (c : Str) : Prop where
  ex : ∃ C, mg c = some (.ref C) ∧ PySem.W.excIn K C He.veBase "ValueError.__new__" = true ∧ PySem.W.keepIn K (.ref C) = true ∧ PySem.W.subIn K (.ref C) (.type "BaseException") = some true ∧ PySem.W.typeIn K (.ref C) = some (.type "type")
theorem xbare_of {K : PySem.W.Frag} {h : Heap} {mg : Str → Option Value} {c : Str} (X : K.In h) (G : h.Ns mainGlobals mg) (h1 : (He.Fa.glo c).ok K = true) (h2 : (He.Fa.exc c).ok K = true) : XBare K mg c := by
  obtain ⟨a, b, d, e⟩ := He.exc_ok h2
  exact ⟨_, He.glo_ok X G h1, a, b, d, e⟩
section
variable {X : Cx} {A : Act} {c f : Str} {p pos pos' : Pos} {e : Expr} {w : Env → T D}
/-- C() -/
theorem pmk_bare (hT : XBare X.K X.mg c) (hg : Gl X c) (hdb : (c == ("__debug__" : Str)) = false := by decide) : ∃ C, X.mg c = some (.ref C) ∧ PMk X (.Call (.Name c p) [] [] pos) (fun _ H Q => Q (.ref C) none H) := by
  obtain ⟨C, gC, q, kC, sC, tC⟩ := hT.ex
  refine ⟨C, gC, fun pins s σ H Q I h => ?_⟩
  refine wpAny_Call_Name_kw (ld_glob I hg gC ?_ hdb)
  refine PySem.W.callWith_K0 I.kIn kC ?_
  show wpAny _ _ (call (.ref C) []) _ _ _
  obtain ⟨bm, N, nm, qn, bs, hdct, sn, sub, ab, col, dd, k0, k1, k2, k3, k5, mN, hC, hN, hni, T'⟩ := exc_obj I.kIn q
  refine wpAny_call_exc_subT PySem.F.excBase_ValueError T' hC hN hni (fun h' e hm => ?_) (by show 0 ≤ sizeLine; omega)
  exact mk_of I hm (raises_own sC tC) h (I.hok.gone hm.new)
/-- raise C() -/
theorem s_raise0 (hT : XBare X.K X.mg c) (hc : X.calm = true) (tk : Takes X (wxA X.mg X.K A X.N.length)) (hg : Gl X c) (hdb : (c == ("__debug__" : Str)) = false := by decide) :
    PS X (.Raise (some (.Call (.Name c p) [] [] pos)) none pos') (rdS X.K A fun _ => T.exc c []) := by
  obtain ⟨C, gC, pm⟩ := pmk_bare (p := p) (pos := pos) hT hg hdb
  have h := ps_raise (pos := pos') hc tk pm
  refine ⟨fun pins s σ H D I q => h.run pins s σ H D I ?_⟩
  obtain ⟨G, env, R, q⟩ := q
  exact ⟨c, [], G, R.e0, R.gf, I.len, ⟨gC, ⟨C, rfl⟩, .inl ⟨rfl, rfl⟩⟩, q⟩
/-- an own class with an own __init__ that keeps its one argument under a name -/
structure XOne (P : Program) (w : World) (K : PySem.W.Frag) (mg : Str → Option Value) (c f : Str) (ps : List Str) : Prop where
  ex : ∃ C fI fd, mg c = some (.ref C) ∧ OexC K C ∧ PySem.W.findIn K (.ref C) "__init__" = some (some (.ref fI)) ∧ PySem.W.typeIn K (.ref fI) = some (.type "function") ∧ PySem.W.findIn K (.ref C) f = some none ∧
    Binds K fd ps [] ∧ ∀ base, FnOk P w K mg base CX0 1 fI fd ps (fun vs H Q _ => ∃ a v, vs = [.ref a, v] ∧ H a = some (exo a C none) ∧ ∀ dx, H dx = none → dx ≠ a → Q .non (upd (upd H dx (exd dx [(f, v)])) a (exo a C (some dx))))
/-- raise C(e) -/
theorem s_raise1 {k : Nat} {ps : List Str} (hT : XOne X.prog X.w X.K X.mg c f ps) (hr : Room (k + 2) X.A) (hc : X.calm = true) (tk : Takes X (wxA X.mg X.K A X.N.length)) (hg : Gl X c) (he : PE X e (rd X.K A w)) (hdb : (c == ("__debug__" : Str)) = false := by decide)
    (hs : starEach [e] X.env = (false, eval e X.env) :: starEach [] X.env := by rfl) :
    PS X (.Raise (some (.Call (.Name c p) [e] [] pos)) none pos') (rdS X.K A fun env => w env >>= fun d => T.exc c [.str f, d]) := by
  obtain ⟨C, fI, fd, gC, oC, iC, tI, nF, hb, F⟩ := hT.ex
  have pm := pmk_oex (p := p) (pos := pos) (dvs := []) oC iC tI (F X.base) (hr.mono (by omega)) hb .nil (fun _ _ _ _ _ _ _ z => z.elim) hg gC (pa_cons he pa_nil hs) hdb hs (by rfl)
  have h := ps_raise (pos := pos') hc tk pm
  refine ⟨fun pins s σ H D I q => h.run pins s σ H D I ?_⟩
  obtain ⟨G, env, R, q⟩ := q
  refine ⟨G, env, R, wp_imp (wp_bind.mp q) fun d q v G1 H1 e1 r1 => ⟨by show 1 ≤ 1000; omega, fun a ha => ⟨a, v, rfl, upd_same, fun dx hdx hne => ⟨rfl, dx, [(f, v)], upd_same, ?_, ?_, ?_⟩⟩⟩⟩
  · rw [upd_ne hne]; exact upd_same
  · rw [upd_ne hne] at hdx; exact hdx
  · have hdx1 : H1 dx = none := by rw [upd_ne hne] at hdx; exact hdx
    have eH : upd (del (upd (upd (upd H1 a (exo a C none)) dx (exd dx [(f, v)])) a (exo a C (some dx))) a) dx (.xd [(f, v)]) = upd H1 dx (.xd [(f, v)]) := by
      funext b
      by_cases hbd : b = dx
      · subst hbd; rw [upd_same, upd_same]
      · rw [upd_ne hbd, upd_ne hbd]
        by_cases hba : b = a
        · subst hba; rw [del_same, ha]
        · rw [del_ne hba, upd_ne hba, upd_ne hbd, upd_ne hba]
    rw [eH]
    have R1 := R.ext e1
    have e2 := R1.st.alloc hdx1 (o := .xd [(f, v)])
    have R2 := R1.ext e2
    exact ⟨c, _, _, R2.e0, R2.gf, I.len, ⟨gC, ⟨C, rfl⟩, .inr ⟨f, v, d, dx, rfl, rfl, upd_same, r1.mono e2.gg⟩⟩, q⟩
end
def clsS (s : Stmt) (j : Nat) : Stmt := match s with
  | .ClassDef _ _ _ b _ _ _ _ _ _ _ => b.getD j (.Pass ⟨0, 0, 0, 0⟩)
  | _ => .Pass ⟨0, 0, 0, 0⟩
def oexB (K : PySem.W.Frag) (C : Addr) : Bool := match K.lookup C with
  | some ⟨.type t, _, .cls cd, sl⟩ => decide (t = "type") && (cd.hasDict && (!cd.hasDel && (match cd.mro, sl.toList with
    | .ref C' :: bm, [_, _, _, _, some (.builtin n), _] => decide (C' = C) && (decide (n = "ValueError.__new__") && PySem.HandSPX.refsVE bm)
    | _, _ => false)))
  | _ => false
def chkO (K : PySem.W.Frag) (c f : Str) : Bool := oexB K (He.ga K c) && (decide (PySem.W.findIn K (.ref (He.ga K c)) "__setattr__" = some (some (.builtin "object.__setattr__"))) && (decide (PySem.W.subIn K (.ref (He.ga K c)) (.type "BaseException") = some true) &&
  (decide (PySem.W.typeIn K (.ref (He.ga K c)) = some (.type "type")) && (PySem.W.keepIn K (.ref (He.ga K c)) && (decide (PySem.W.findIn K (.ref (He.ga K c)) "__init__" = some (some (.ref (He.ma K (He.ga K c) "__init__")))) &&
  (decide (PySem.W.typeIn K (.ref (He.ma K (He.ga K c) "__init__")) = some (.type "function")) && decide (PySem.W.findIn K (.ref (He.ga K c)) f = some none)))))))
theorem oex_of {K : PySem.W.Frag} {C : Addr} (h : oexB K C = true) : ∃ nm q N bs bm sn sub ab col dd k0 k1 k2 k3 k5, K.lookup C = some (excClassObj nm q C N bs bm true sn sub ab col dd k0 k1 k2 k3 k5 "ValueError.__new__") ∧ PySem.HandSPX.refsVE bm = true := by
  unfold oexB at h
  split at h
  · rename_i t dd cd sl ho
    obtain ⟨h1, h⟩ := He.ba h
    obtain ⟨h2, h⟩ := He.ba h
    obtain ⟨h3, h⟩ := He.ba h
    split at h
    · rename_i C' bm k0 k1 k2 k3 n k5 hm hs
      obtain ⟨h4, h⟩ := He.ba h
      obtain ⟨h5, h6⟩ := He.ba h
      have e1 := of_decide_eq_true h1
      have e4 := of_decide_eq_true h4
      have e5 := of_decide_eq_true h5
      subst e1 e4 e5
      obtain ⟨a1, a2, a3, a4, a5, a6, a7, a8, a9, a10, a11⟩ := cd
      obtain ⟨l⟩ := sl
      dsimp only at hm hs h2 h3
      have h3' : a11 = false := by simpa using h3
      subst hm hs h2 h3'
      exact ⟨_, _, _, _, _, _, _, _, _, _, _, _, _, _, _, ho, h6⟩
    · cases h
  · cases h
theorem xone_of {P : Program} {w : World} {K : PySem.W.Frag} {h : Heap} {mg : Str → Option Value} {c f qual : Str} {st : Stmt} {ps : List Str} {fd : FuncData} (X : K.In h) (G : h.Ns mainGlobals mg) (h1 : (He.Fa.glo c).ok K = true) (h2 : chkO K c f = true)
    (F : FunD K "__init__" qual (defArgs st) (defBody st) (defScope st) [] [] (He.fAd K (c, some "__init__")) fd) (hp : ps.length = 2) (S : FnScope ps ps (defScope st))
    (bn : ∀ (kV doc pm : Value) (an : Option Addr) (cdv ct : Value) (us : List Value), us.length = ps.length → bindArgs (PySem.W.fnOf "__init__" qual (defArgs st) (defBody st) (defScope st) .none kV doc pm an cdv ct) ⟨us, []⟩ = pure (ps.zip us))
    (hb : ∀ (base : Heap) (fI : Addr) (cdv : Value) (A : Around) (outer : List PySem.Env) (s : Shared) (H : Hp) (E : XK), PSs (cxOf CX0 P w K mg base ps qual (defScope st) fI cdv A outer s H E) (defBody st) (tOst K f (tVar 0) (tVar 1))) : XOne P w K mg c f ps := by
  unfold chkO at h2
  obtain ⟨c1, h2⟩ := He.ba h2
  obtain ⟨c2, h2⟩ := He.ba h2
  obtain ⟨c3, h2⟩ := He.ba h2
  obtain ⟨c4, h2⟩ := He.ba h2
  obtain ⟨c5, h2⟩ := He.ba h2
  obtain ⟨c6, h2⟩ := He.ba h2
  obtain ⟨c7, c8⟩ := He.ba h2
  have oC : OexC K (He.ga K c) := ⟨oex_of c1, of_decide_eq_true c2, of_decide_eq_true c3, of_decide_eq_true c4, c5⟩
  refine ⟨_, He.fAd K (c, some "__init__"), fd, He.glo_ok X G h1, oC, of_decide_eq_true c6, of_decide_eq_true c7, of_decide_eq_true c8, ?_, fun base => ?_⟩
  · exact F.bindsN bn
  · refine F.ok S (fun vs H Q E z => ?_) fun cdv A outer s H vs Q E hr z => ⟨_, hb base _ cdv A outer s H E, ?_⟩
    · obtain ⟨a, v, rfl, _⟩ := z; exact hp.symm
    · obtain ⟨a, v, rfl, ha, q⟩ := z
      have eσ : L2.start ps [.ref a, v] = [some (.ref a), some v] := by
        unfold L2.start; rw [hp]; rfl
      rw [eσ]
      exact ⟨v, rfl, .ref a, rfl, a, _, rfl, oC, of_decide_eq_true c8, .inl ⟨ha, fun dx h1 h2 => q dx h1 h2⟩⟩
end Eng

namespace Eng
open PySem PySem.Spec PyProof.Rows L2
open Evl (Ex)
variable {K : PySem.W.Frag} {A : Act} {G H G' H' G1 H1 G2 H2 : Hp}
def Act.re (A : Act) (G H : Hp) (E : Str → List D → Prop) : Act := ⟨A.F, A.SI, A.loc, A.dom, G, H, E⟩
theorem Ext.re {G0 H0 : Hp} {E : Str → List D → Prop} (e : Ext A G H G' H') : Ext (A.re G0 H0 E) G H G' H' := ⟨e.gg, e.gh, e.keep, e.new, e.si0, e.si⟩
theorem Ext.unre {G0 H0 : Hp} {E : Str → List D → Prop} (e : Ext (A.re G0 H0 E) G H G' H') : Ext A G H G' H' := ⟨e.gg, e.gh, e.keep, e.new, e.si0, e.si⟩
theorem Rel.unre {G0 H0 : Hp} {E : Str → List D → Prop} {σ : L2.St} {env : Env} (R : Rel K (A.re G0 H0 E) G σ env H) (e : Ext A A.G0 A.H0 G0 H0) : Rel K A G σ env H where
  e0 := e.trans R.e0.unre
  gf := R.gf
  len := R.len
  sl := fun i s h => by
    have q := R.sl i s h
    cases s with
    | un => trivial
    | val d => exact q
    | own d =>
      obtain ⟨p, h1, ⟨h2, h3, h4, h5⟩⟩ := q
      exact ⟨p, h1, ⟨h2, h3, e.dn h4, h5⟩⟩
  ap := R.ap
def noOwn (env : Env) : Prop := ∀ (i : Nat) (d : D), env[i]? ≠ some (.own d)
theorem Rel.re {E : Str → List D → Prop} {σ : L2.St} {env : Env} (R : Rel K A G σ env H) (n : noOwn env) : Rel K (A.re G H E) G σ env H where
  e0 := R.st.re
  gf := R.gf
  len := R.len
  sl := fun i s h => by
    have q := R.sl i s h
    cases s with
    | un => trivial
    | val d => exact q
    | own d => exact (n i d h).elim
  ap := R.ap
theorem frz_own {i j : Nat} {env : Env} {d : D} (h : (frz i env)[j]? = some (.own d)) : j ≠ i ∧ env[j]? = some (.own d) := by
  unfold frz at h
  split at h
  · rename_i e he
    by_cases q : i = j
    · subst q
      rw [List.getElem?_set_self'] at h
      rw [he] at h
      cases h
    · rw [List.getElem?_set_ne q] at h
      exact ⟨fun z => q z.symm, h⟩
  · rename_i hn
    refine ⟨fun z => ?_, h⟩
    subst z
    exact hn d h
theorem frzs_own : ∀ (is : List Nat) {j : Nat} {env : Env} {d : D}, (frzs is env)[j]? = some (.own d) → j ∉ is ∧ env[j]? = some (.own d)
  | [], _, _, _, h => ⟨by simp, h⟩
  | i :: r, j, env, d, h => by
    obtain ⟨h1, h2⟩ := frzs_own r (show (frzs r (frz i env))[j]? = _ from h)
    obtain ⟨h3, h4⟩ := frz_own h2
    exact ⟨by simp [h3, h1], h4⟩
theorem frz_len (i : Nat) (env : Env) : (frz i env).length = env.length := by
  unfold frz; split <;> simp
theorem frzs_len : ∀ (is : List Nat) (env : Env), (frzs is env).length = env.length
  | [], _ => rfl
  | i :: r, env => by show (frzs r (frz i env)).length = _; rw [frzs_len r, frz_len]
theorem frz_noOwn (env : Env) : noOwn (frzs (List.range env.length) env) := fun i d h => by
  obtain ⟨h1, h2⟩ := frzs_own _ h
  have := (List.getElem?_eq_some_iff.mp h2).1
  exact h1 (List.mem_range.mpr this)
theorem EndOk.unre {G0 H0 : Hp} {E : Str → List D → Prop} {Dn : Ends} {o : Out} (e : Ext A A.G0 A.H0 G0 H0) (h : EndOk K A G Dn o) : EndOk K (A.re G0 H0 E) G Dn o := by
  cases o with
  | nx env => exact fun σ G' H' x R => h σ G' H' x (R.unre e)
  | bk env => exact fun σ G' H' x R => h σ G' H' x (R.unre e)
  | ct env => exact fun σ G' H' x R => h σ G' H' x (R.unre e)
  | rt d => exact fun v G' H' x r => h v G' H' (e.trans x.unre) r

def catchT {α : Type} : T α → (Str → List D → T α) → T α
  | .ret a, _ => .ret a
  | .fail, _ => .fail
  | .draw n k, h => .draw n fun i => catchT (k i) h
  | .exc c es, h => h c es
@[simp] theorem catchT_ret {α : Type} (a : α) (h : Str → List D → T α) : catchT (T.ret a) h = T.ret a := rfl
@[simp] theorem catchT_exc {α : Type} (c : Str) (es : List D) (h : Str → List D → T α) : catchT (T.exc c es) h = h c es := rfl
theorem wp_catch {α : Type} {t : T α} {h : Str → List D → T α} {Q : α → Prop} {E : Str → List D → Prop} : wp (catchT t h) Q E ↔ wp t Q fun c es => wp (h c es) Q E := by
  induction t with
  | ret a => exact Iff.rfl
  | fail => exact Iff.rfl
  | draw n k ih => exact and_congr Iff.rfl (forall_congr' fun i => imp_congr Iff.rfl (ih i))
  | exc c d => exact Iff.rfl
abbrev HW := Addr → Str → List D → Env → T Out
/-- whether the class c is under the class x -/
def exB (c x : Str) : Bool := c == x || x == "BoxError" || x == "ValueError"
def hEnv (n : Nat) (i : Option Nat) (a : Addr) : Env := match i with
  | none => List.replicate n .un
  | some j => (List.replicate n Sl.un).set j (.val (.obj a))
def unAt (i : Option Nat) (o : Out) : Out := match i with
  | none => o
  | some j => match o with
    | .nx env => .nx (env.set j .un)
    | .bk env => .bk (env.set j .un)
    | .ct env => .ct (env.set j .un)
    | .rt d => .rt d
def hdT (n : Nat) (i : Option Nat) (w : HW) (a : Addr) (c : Str) (es : List D) : T Out := nxT (w a c es (hEnv n i a)) >>= fun o => T.ret (unAt i o)
def chainT (n : Nat) : List (Str × Option Nat × HW) → Str → List D → T Out
  | [], c, es => T.exc c es
  | (x, i, w) :: r, c, es => if exB c x then hdT n i w 0 c es else chainT n r c es
def dTry (cs : List Str) (n : Nat) (hs : List (Str × Option Nat × HW)) (wb : Env → T Out) : Env → T Out := fun env => catchT (wb (frzs (List.range env.length) env)) fun c es => if c ∈ cs then chainT n hs c es else T.fail
structure XNames (X : Cx) (cs : List Str) (x : Str) : Prop where
  ex : ∃ xv, Names X x xv ∧ ∀ c ∈ cs, ∀ cv, X.mg c = some cv → PySem.W.exmOne X.K cv xv = some (exB c x)
inductive HdsX (X : Cx) (A : Act) (cs : List Str) : List ExceptHandler → List (Str × Option Nat × HW) → Prop
  | nil : HdsX X A cs [] []
  | bare {x : Str} {b₀ : Stmt} {suite : List Stmt} {np pos' : Pos} {hds : List ExceptHandler} {l : List (Str × Option Nat × HW)} {w : HW} (hx : XNames X cs x)
      (hi : ∀ c ∈ cs, ∀ es a, hdT X.N.length none w a c es = hdT X.N.length none w 0 c es)
      (hsu : ∀ (a : Addr) (oe : Obj) (cls : Value) (d : Option Addr) (pn : List (Addr × Obj)) (G H : Hp) (c : Str) (es : List D), c ∈ cs → Zc cls d oe → (∃ vs, oe.data = .fields vs) → XRel X.mg X.K G c es cls d → PSs (X.suite a ((a, oe) :: pn)) (b₀ :: suite) (rdS X.K (A.re G H fun _ _ => False) (w a c es)))
      (r : HdsX X A cs hds l) : HdsX X A cs (.ExceptHandler (some (.Name x np)) none (b₀ :: suite) pos' :: hds) ((x, none, w) :: l)
  | as_ {x n : Str} {i : Nat} {b₀ : Stmt} {suite : List Stmt} {np pos' : Pos} {hds : List ExceptHandler} {l : List (Str × Option Nat × HW)} {w : HW} (hx : XNames X cs x) (hN : X.N.Nodup) (hni : X.N[i]? = some n) (hln : X.env.kindOf n = some .local)
      (hi : ∀ c ∈ cs, ∀ es a, hdT X.N.length (some i) w a c es = hdT X.N.length (some i) w 0 c es)
      (hsu : ∀ (a : Addr) (oe : Obj) (cls : Value) (d : Option Addr) (pn : List (Addr × Obj)) (G H : Hp) (c : Str) (es : List D), c ∈ cs → Zc cls d oe → (∃ vs, oe.data = .fields vs) → XRel X.mg X.K G c es cls d → PSs (X.suite a ((a, oe) :: pn)) (b₀ :: suite) (rdS X.K (A.re G H fun _ _ => False) (w a c es)))
      (r : HdsX X A cs hds l) : HdsX X A cs (.ExceptHandler (some (.Name x np)) (some n) (b₀ :: suite) pos' :: hds) ((x, some i, w) :: l)
theorem rel_un {σ : L2.St} (e : Ext A A.G0 A.H0 G H) (gf : ∀ a, A.F a → G a = none) : Rel K A G σ (List.replicate σ.length .un) H where
  e0 := e
  gf := gf
  len := by simp
  sl := fun i s h => by
    rw [List.getElem?_replicate] at h
    split at h
    · cases h; trivial
    · cases h
  ap := fun i j p d e h => by
    rw [List.getElem?_replicate] at h
    split at h <;> cases h
theorem hEnv_noOwn (n : Nat) (i : Option Nat) (a : Addr) : noOwn (hEnv n i a) := fun j d h => by
  cases i with
  | none =>
    unfold hEnv at h
    rw [List.getElem?_replicate] at h
    split at h <;> cases h
  | some k =>
    have h : ((List.replicate n Sl.un).set k (.val (.obj a)))[j]? = some (.own d) := h
    by_cases hk : k = j
    · subst hk
      rw [List.getElem?_set_self', List.getElem?_replicate] at h
      split at h <;> cases h
    · rw [List.getElem?_set_ne hk, List.getElem?_replicate] at h
      split at h <;> cases h
section
variable {X : Cx} {cs : List Str} {body : List Stmt} {h₀ : ExceptHandler} {hds : List ExceptHandler} {l : List (Str × Option Nat × HW)} {pos : Pos} {wb : Env → T Out}
theorem end_sp {pins : List (Addr × Obj)} {xe : Value → Shared → Prop} {D : Ends} {s1 : Shared} {f : Flow} (ok : X.Ok) (h : SP (X.tr (X.pn ++ pins) xe) [] D f s1) : SP X pins D f s1 := by
  cases f with
  | next => obtain ⟨σ', H', J, q⟩ := h; exact ⟨σ', H', J.ofTry ok, q⟩
  | brk => obtain ⟨σ', H', J, q⟩ := h; exact ⟨σ', H', J.ofTry ok, q⟩
  | cont => obtain ⟨σ', H', J, q⟩ := h; exact ⟨σ', H', J.ofTry ok, q⟩
  | ret u => obtain ⟨v, σ', H', J, r, q⟩ := h; exact ⟨v, σ', H', J.ofTry ok, r, q⟩
theorem s_try (hs : X.stack = X.env :: X.outer) (hf : X.env.frame = some X.env.locals) (tk : Takes X (wxA X.mg X.K A X.N.length))
    (hb : ∀ (pn : List (Addr × Obj)) (xe : Value → Shared → Prop) (G H : Hp) (E : Str → List D → Prop), Takes (X.tr pn xe) (wxA X.mg X.K (A.re G H E) X.N.length) → PassesOwn (model X.prog X.w) X.A X.env xe → PSs (X.tr pn xe) body (rdS X.K (A.re G H E) wb))
    (hh : HdsX X A cs (h₀ :: hds) l) : PS X (.Try body (h₀ :: hds) [] [] pos) (rdS X.K A (dTry cs X.N.length l wb)) := by
  refine ⟨fun pins s σ H D I h => ?_⟩
  obtain ⟨G0, env0, R0, h⟩ := h
  obtain ⟨G, eG, R⟩ := R0.frzs (List.range env0.length)
  have h := wp_imp (wp_catch.mp h) fun o q => EndOk.mono eG q
  have h := wp_mono h (fun o q => q) fun c es z => wp_imp z fun o q => EndOk.mono eG q
  have nO := frz_noOwn env0
  generalize frzs (List.range env0.length) env0 = env at R h nO
  have ok := I.ok
  have fr : X.A.frames = some (X.env :: X.outer) := by rw [ok.frames, hs]
  refine wpAny_Try_except ?_
  have start : rdS X.K (A.re G H fun c es => wp (if c ∈ cs then chainT X.N.length l c es else T.fail) (EndOk X.K A G D) A.E) wb D σ H := ⟨G, env, R.re nO, wp_mono h (fun o q => q.unre R.e0) fun c es z => z⟩
  refine wpAny_mono ((hb (X.pn ++ pins) (fun u s₁ => wpAny (model X.prog X.w) X.A (noteFrame u X.env) (fun _ s₂ => wpAny (model X.prog X.w) X.A (setFlight u none) (fun _ s₃ => wpAny (model X.prog X.w) X.A (handleBy u X.env (h₀ :: hds)) (SP X pins D) X.xe s₃) X.xe s₂) X.xe s₁)
    G H _ (fun u s' xx => ?_) PassesOwn.looking).run [] s σ H D (I.toTry _) start) (fun f s1 hsp => ?_) (fun e s1 he => he)
  · obtain ⟨a, B, sI, pins', σ', H', cls, d, rfl, J', nb, up, sky, na, os, ag, c, es, G', e', gf', ln, xr, hw⟩ := xx
    have e' : Ext A G H G' H' := e'.unre
    have J : Inv X pins σ' H' sI := J'.ofTry ok
    have sky : Sky B (X.env :: X.outer) a (Zc cls d) X.env.locals s'.heap := by rw [← hs]; exact sky
    refine Sky.land Zc.steady fr hf sky fun h3 fl3 up3 => ?_
    have J3 : Inv X pins σ' H' { s' with heap := h3 } := J.landed nb fl3.1 (up.trans up3) os ag
    obtain ⟨oe3, vs3, he3, hz3, hd3⟩ := fl3.there
    have nfr : a ∉ frs (X.env :: X.outer) := fun hm => by
      obtain ⟨_, o', g', nf⟩ := fl3.2.2.1.mem hm
      rw [he3] at g'
      cases g'
      exact nf _ hd3
    have nL : a ≠ X.env.locals := fun z => nfr (List.mem_filterMap.mpr ⟨X.env, List.mem_cons_self, by rw [hf, z]⟩)
    have nF : a ∉ X.fs := fun hm => by
      obtain ⟨y, hy, q⟩ := List.mem_filterMap.mp hm
      exact nfr (List.mem_filterMap.mpr ⟨y, List.mem_cons_of_mem _ hy, q⟩)
    have S3 := J3.suite he3 hd3 na nL nF
    obtain ⟨hc, hw⟩ : c ∈ cs ∧ wp (chainT X.N.length l c es) (EndOk X.K A G D) A.E := by
      have hw : wp (if c ∈ cs then chainT X.N.length l c es else T.fail) (EndOk X.K A G D) A.E := hw
      split at hw
      · exact ⟨by assumption, hw⟩
      · exact hw.elim
    have LT : PySem.W.Looks (model X.prog X.w) h3 (typeOf (.ref a)) cls := fun A Q E s k q => wpAny_typeOf_ref (k _ _ he3) (by rw [hz3.1]; exact q)
    have Rb : Ext A A.G0 A.H0 G' H' := R.e0.trans e'
    -- a suite's start
    have begins : ∀ (i : Option Nat) (w : HW) (D' : Ends) (σ2 : L2.St), wp (hdT X.N.length i w 0 c es) (EndOk X.K A G D) A.E → hdT X.N.length i w a c es = hdT X.N.length i w 0 c es → Rel X.K A G' σ2 (hEnv X.N.length i a) H' →
        (∀ o, EndOk X.K A G D (unAt i o) → EndOk X.K A G D' o) → rdS X.K (A.re G' H' fun _ _ => False) (w a c es) D' σ2 H' := fun i w D' σ2 hq he R2 hD => by
      rw [← he] at hq
      have hq := nxT_wp.mp (wp_bind.mp hq)
      exact ⟨G', _, R2.re (hEnv_noOwn _ _ _), wp_mono hq (fun o q => (EndOk.mono e'.gg (hD o q)).unre Rb) fun _ _ z => z⟩
    have go : ∀ {hds' : List ExceptHandler} {l' : List (Str × Option Nat × HW)}, HdsX X A cs hds' l' → wp (chainT X.N.length l' c es) (EndOk X.K A G D) A.E →
        wpAny (model X.prog X.w) X.A (handleBy (.ref a) X.env hds') (SP X pins D) X.xe { s' with heap := h3 } := by
      intro hds' l' hk
      have test : ∀ {x : Str} {xv : Value} {np : Pos} {Q' : Value → Shared → Prop} {E' : Value → Shared → Prop}, Names X x xv → Q' xv { s' with heap := h3 } → wpAny (model X.prog X.w) (X.A.mark (some (.ref a))) (eval (.Name x np) X.env) Q' E' { s' with heap := h3 } := fun {x xv np Q' E'} hx q => by
        obtain ⟨hg, hdbg, hm | ⟨hm, hv, hnn⟩⟩ := hx
        · exact ld_glob (X := X.suite a ((a, oe3) :: (X.pn ++ pins))) S3 hg hm q hdbg
        · exact ld_blt (X := X.suite a ((a, oe3) :: (X.pn ++ pins))) S3 hg hm hv q hnn hdbg
      induction hk with
      | nil =>
        intro w
        refine wpAny_handleBy_nil ?_
        obtain ⟨k1, k2, k3, oe, vs, Tb, oT, ts', he, hz, hd, h1, hr⟩ := id fl3
        unfold PySem.passOn
        refine wpAny_bind (wpAny_field he hd h1 ?_)
        rw [if_neg (show ¬ ((Value.ref Tb == Value.none) = true) from by simp)]
        have fin : wpAny (model X.prog X.w) X.A (setFlight (.ref a) X.env.frame) (fun _ s4 => wpAny (model X.prog X.w) X.A (throw (.ref a) : Sem Flow) (SP X pins D) X.xe s4) X.xe { s' with heap := h3 } := by
          rw [hf]
          refine HandSPX.setFlight_upZ fl3 fun h4 hh4 up4 => wpAny_throw (tk _ _ ?_)
          exact ⟨a, B, sI, pins, σ', H', cls, d, rfl, J, nb, (up.trans up3).trans up4, .inr (.inr (by rw [hs]; exact hh4)), na, os, ag, c, es, G', Rb, gf', J.len, xr, w⟩
        first
          | exact wpAny_bind (wpAny_pure (wpAny_bind fin))
          | exact wpAny_bind fin
      | bare hx hi hsu r ih =>
        rename_i x b₀ suite np pos' hds2 l2 w2
        intro w
        obtain ⟨xv, hnm, hex⟩ := hx.ex
        have hb1 := hex c hc cls xr.1
        have LM := PySem.W.exm_one (M := model X.prog X.w) (J3.kIn) LT hb1
        refine wpAny_handleBy_cons (codeAny_handlers_test (test hnm (LM.here ?_))) (by intro q; cases q)
        have w : wp (if exB c x then hdT X.N.length none w2 0 c es else chainT X.N.length l2 c es) (EndOk X.K A G D) A.E := w
        cases hbx : exB c x with
        | true =>
          rw [if_pos hbx] at w
          refine codeAny_handlers_suite ?_
          refine HandSPX.lands_againZ fl3 fun h4 fl4 up4 => ?_
          have J4 : Inv X pins σ' H' { s' with heap := h4 } := J.landed nb fl4.1 ((up.trans up3).trans up4) os ag
          obtain ⟨oe4, vs4, he4, hz4, hd4⟩ := fl4.there
          have S4 := J4.suite he4 hd4 na nL nF
          refine wpAny_mono ((hsu a oe4 cls d (X.pn ++ pins) G' H' c es hc hz4 ⟨_, hd4⟩ xr).run [] _ _ H' D S4 (begins none w2 D σ' w (hi c hc es a) (by rw [← J.len]; exact rel_un Rb gf') fun o q => q)) (fun f s6 hsp => ?_) (fun _ _ z => False.elim z)
          cases f with
          | next => obtain ⟨σ6, H6, S6, q6⟩ := hsp; exact ⟨_, _, S6.unsuite ok, q6⟩
          | brk => obtain ⟨σ6, H6, S6, q6⟩ := hsp; exact ⟨_, _, S6.unsuite ok, q6⟩
          | cont => obtain ⟨σ6, H6, S6, q6⟩ := hsp; exact ⟨_, _, S6.unsuite ok, q6⟩
          | ret u => obtain ⟨v6, σ6, H6, S6, r6, q6⟩ := hsp; exact ⟨_, _, _, S6.unsuite ok, r6, q6⟩
        | false =>
          rw [if_neg (by rw [hbx]; exact Bool.false_ne_true)] at w
          exact ih w
      | as_ hx hN hni hln hi hsu r ih =>
        rename_i x n i b₀ suite np pos' hds2 l2 w2
        intro w
        obtain ⟨xv, hnm, hex⟩ := hx.ex
        have hb1 := hex c hc cls xr.1
        have LM := PySem.W.exm_one (M := model X.prog X.w) (J3.kIn) LT hb1
        refine wpAny_handleBy_cons (codeAny_handlers_test (test hnm (LM.here ?_))) (by intro q; cases q)
        have w : wp (if exB c x then hdT X.N.length (some i) w2 0 c es else chainT X.N.length l2 c es) (EndOk X.K A G D) A.E := w
        cases hbx : exB c x with
        | true =>
          rw [if_pos hbx] at w
          refine codeAny_handlers_suite_as ?_
          refine HandSPX.lands_againZ fl3 fun h4 fl4 up4 => ?_
          have J4 : Inv X pins σ' H' { s' with heap := h4 } := J.landed nb fl4.1 ((up.trans up3).trans up4) os ag
          obtain ⟨oe4, vs4, he4, hz4, hd4⟩ := fl4.there
          have S4 := J4.suite he4 hd4 na nL nF
          refine store_ok (X := X.suite a ((a, oe4) :: (X.pn ++ pins))) (v := .ref a) S4 hN hni (.inl hln) rfl (fun s5 S5 => ?_) (.inr hln)
          have hD : ∀ o, EndOk X.K A G D (unAt (some i) o) → EndOk X.K A G { nx := fun σ' H' => D.nx (σ'.set i none) H', rt := D.rt, bk := fun σ' H' => D.bk (σ'.set i none) H', ct := fun σ' H' => D.ct (σ'.set i none) H' } o := fun o q => by
            cases o with
            | nx env => exact fun σ2 G2 H2 e2 R2 => q _ G2 H2 e2 (R2.un i)
            | bk env => exact fun σ2 G2 H2 e2 R2 => q _ G2 H2 e2 (R2.un i)
            | ct env => exact fun σ2 G2 H2 e2 R2 => q _ G2 H2 e2 (R2.un i)
            | rt d => exact q
          refine wpAny_mono ((hsu a oe4 cls d (X.pn ++ pins) G' H' c es hc hz4 ⟨_, hd4⟩ xr).run [] s5 _ H' _ S5 (begins (some i) w2 _ _ w (hi c hc es a) (by
            unfold hEnv
            rw [← J.len]
            exact (rel_un Rb gf').set (.obj a)) hD)) (fun f s6 hsp => ?_) (fun _ _ z => False.elim z)
          have goes : ∀ {σ6 : L2.St} {H6 : Hp} {Q' : Shared → Prop}, Inv (X.suite a ((a, oe4) :: (X.pn ++ pins))) [] σ6 H6 s6 → (∀ s7, Inv X pins (σ6.set i none) H6 s7 → Q' s7) →
              wpAny (model X.prog X.w) X.A (do bindName X.env n .none; unbindBehindTheSuite X.env n pos') (fun _ s7 => Q' s7) X.xe s6 := fun {σ6 H6 Q'} S6 hq => gone_ok (S6.unsuite ok) hN hni hln hq
          cases f with
          | next => obtain ⟨σ6, H6, S6, q6⟩ := hsp; exact goes S6 fun s7 J7 => ⟨_, _, J7, q6⟩
          | brk => obtain ⟨σ6, H6, S6, q6⟩ := hsp; exact goes S6 fun s7 J7 => ⟨_, _, J7, q6⟩
          | cont => obtain ⟨σ6, H6, S6, q6⟩ := hsp; exact goes S6 fun s7 J7 => ⟨_, _, J7, q6⟩
          | ret u => obtain ⟨v6, σ6, H6, S6, r6, q6⟩ := hsp; exact goes S6 fun s7 J7 => ⟨_, _, _, J7, r6, q6⟩
        | false =>
          rw [if_neg (by rw [hbx]; exact Bool.false_ne_true)] at w
          exact ih w
    exact go hh hw
  · cases f with
    | next => exact wpAny_execs_nil (end_sp ok hsp)
    | brk => exact end_sp ok hsp
    | cont => exact end_sp ok hsp
    | ret u => exact end_sp ok hsp
end
end Eng

namespace Eng
open PySem PySem.Spec PyProof.Rows L2
open Evl (Ex)
structure XGet (K : PySem.W.Frag) (C : Addr) : Prop where
  cl : (PySem.W.clsIn K C).isSome = true
  ga : PySem.W.findIn K (.ref C) "__getattribute__" = some (some (.builtin "BaseException.__getattribute__"))
  gg : PySem.W.findIn K (.ref C) "__getattr__" = some none
  sb : PySem.W.subIn K (.ref C) (.type "BaseException") = some true
  ca : PySem.W.findIn K (.ref C) "__class__" = some (some (.builtin "object.__class__"))
  hn : PySem.W.specialIn K (.builtin "object.__class__") "__get__" = some (some (.builtin "getset_descriptor.__get__"))
  tk : PySem.W.takesIn K (.builtin "object.__class__") = some true
  mo : PySem.W.mroIn K C (.type "object") = some true
  hd : PySem.W.hasDictIn K C = true
def xgetB (K : PySem.W.Frag) (C : Addr) : Bool := (PySem.W.clsIn K C).isSome && (decide (PySem.W.findIn K (.ref C) "__getattribute__" = some (some (.builtin "BaseException.__getattribute__"))) && (decide (PySem.W.findIn K (.ref C) "__getattr__" = some none) &&
  (decide (PySem.W.subIn K (.ref C) (.type "BaseException") = some true) && (decide (PySem.W.findIn K (.ref C) "__class__" = some (some (.builtin "object.__class__"))) && (decide (PySem.W.specialIn K (.builtin "object.__class__") "__get__" = some (some (.builtin "getset_descriptor.__get__"))) &&
  (decide (PySem.W.takesIn K (.builtin "object.__class__") = some true) && (decide (PySem.W.mroIn K C (.type "object") = some true) && PySem.W.hasDictIn K C)))))))
theorem xget_of {K : PySem.W.Frag} {C : Addr} (h : xgetB K C = true) : XGet K C := by
  obtain ⟨h1, h⟩ := He.ba h
  obtain ⟨h2, h⟩ := He.ba h
  obtain ⟨h3, h⟩ := He.ba h
  obtain ⟨h4, h⟩ := He.ba h
  obtain ⟨h5, h⟩ := He.ba h
  obtain ⟨h6, h⟩ := He.ba h
  obtain ⟨h7, h⟩ := He.ba h
  obtain ⟨h8, h9⟩ := He.ba h
  exact ⟨h1, of_decide_eq_true h2, of_decide_eq_true h3, of_decide_eq_true h4, of_decide_eq_true h5, of_decide_eq_true h6, of_decide_eq_true h7, of_decide_eq_true h8, h9⟩
def isVE (x : Str) : Bool := x == "ValueError"
def xvOf (K : PySem.W.Frag) (x : Str) : Value := if isVE x then .type "ValueError" else .ref (He.ga K x)
/-- cs: the classes that are raised; xs: the classes that are named; fs: the fields -/
structure XT (K : PySem.W.Frag) (mg : Str → Option Value) (cs xs fs : List Str) : Prop where
  get : ∀ c ∈ cs, ∃ C, mg c = some (.ref C) ∧ XGet K C ∧ ∀ f ∈ fs, PySem.W.findIn K (.ref C) f = some none
  nm : ∀ x ∈ xs, ((isVE x = false ∧ ∃ D, mg x = some (.ref D) ∧ xvOf K x = .ref D) ∨ (isVE x = true ∧ mg x = none ∧ xvOf K x = .type "ValueError")) ∧
    ∀ c ∈ cs, ∀ cv, mg c = some cv → PySem.W.exmOne K cv (xvOf K x) = some (exB c x) ∧ PySem.W.kitOne K cv (xvOf K x) = some (exB c x)
def chkXT (K : PySem.W.Frag) (cs xs fs : List Str) : Bool := (cs.all fun c => (He.Fa.glo c).ok K && (xgetB K (He.ga K c) && fs.all fun f => decide (PySem.W.findIn K (.ref (He.ga K c)) f = some none))) &&
  xs.all fun x => (if isVE x then (He.Fa.free x).ok K else (He.Fa.glo x).ok K) && cs.all fun c => decide (PySem.W.exmOne K (.ref (He.ga K c)) (xvOf K x) = some (exB c x)) && decide (PySem.W.kitOne K (.ref (He.ga K c)) (xvOf K x) = some (exB c x))
theorem xt_of {K : PySem.W.Frag} {h : Heap} {mg : Str → Option Value} {cs xs fs : List Str} (X : K.In h) (G : h.Ns mainGlobals mg) (q : chkXT K cs xs fs = true) : XT K mg cs xs fs := by
  obtain ⟨q1, q2⟩ := He.ba q
  have g : ∀ c ∈ cs, mg c = some (.ref (He.ga K c)) := fun c hc => He.glo_ok X G (He.ba (List.all_eq_true.mp q1 c hc)).1
  refine ⟨fun c hc => ?_, fun x hx => ⟨?_, fun c hc cv hcv => ?_⟩⟩
  · obtain ⟨_, a⟩ := He.ba (List.all_eq_true.mp q1 c hc)
    obtain ⟨a, b⟩ := He.ba a
    exact ⟨_, g c hc, xget_of a, fun f hf => of_decide_eq_true (List.all_eq_true.mp b f hf)⟩
  · obtain ⟨a, _⟩ := He.ba (List.all_eq_true.mp q2 x hx)
    cases e : isVE x with
    | true =>
      rw [e] at a
      exact .inr ⟨rfl, He.free_ok X G a, by unfold xvOf; rw [e]; rfl⟩
    | false =>
      rw [e] at a
      exact .inl ⟨rfl, _, He.glo_ok X G a, by unfold xvOf; rw [e]; rfl⟩
  · obtain ⟨_, a⟩ := He.ba (List.all_eq_true.mp q2 x hx)
    obtain ⟨b1, b2⟩ := He.ba (List.all_eq_true.mp a c hc)
    rw [g c hc] at hcv
    cases hcv
    exact ⟨of_decide_eq_true b1, of_decide_eq_true b2⟩
theorem bootVE : bootBuiltins "ValueError" = some (.type "ValueError") := by decide +kernel
theorem isVE_eq {x : Str} (h : isVE x = true) : x = "ValueError" := eq_of_beq h
section
variable {X : Cx} {cs xs fs : List Str} {x : Str}
theorem XT.names (t : XT X.K X.mg cs xs fs) (hx : x ∈ xs) (hg : Gl X x) (hdb : (x == ("__debug__" : Str)) = false := by decide) : XNames X cs x := by
  obtain ⟨h1, h2⟩ := t.nm x hx
  refine ⟨xvOf X.K x, ⟨hg, hdb, ?_⟩, fun c hc cv hcv => (h2 c hc cv hcv).1⟩
  rcases h1 with ⟨_, D, a, b⟩ | ⟨a, b, c⟩
  · exact .inl (by rw [a, b])
  · refine .inr ⟨b, ?_, ?_⟩
    · rw [c, isVE_eq a]; exact bootVE
    · rw [isVE_eq a]; decide
end
def tCs (vs : List V) : TA := fun _ H Q => Q vs H
inductive NmL (X : Cx) (xs : List Str) : List Expr → List Str → Prop
  | nil : NmL X xs [] []
  | cons {x : Str} {p : Pos} {es : List Expr} {l : List Str} (hx : x ∈ xs) (hg : Gl X x) (hdb : (x == ("__debug__" : Str)) = false) (r : NmL X xs es l) : NmL X xs (.Name x p :: es) (x :: l)
theorem pe_cls {X : Cx} {cs xs fs : List Str} {x : Str} {p : Pos} (t : XT X.K X.mg cs xs fs) (hx : x ∈ xs) (hg : Gl X x) (hdb : (x == ("__debug__" : Str)) = false) : ∃ v, PE X (.Name x p) (tC v) ∧ ∀ u, RelV v u → u = xvOf X.K x := by
  obtain ⟨h1, _⟩ := t.nm x hx
  rcases h1 with ⟨_, D, a, b⟩ | ⟨a, b, c⟩
  · exact ⟨.ref D, pe_glob hg a rfl hdb, fun u hu => by rw [b]; exact hu⟩
  · rw [isVE_eq a] at hg b ⊢
    refine ⟨.ty "ValueError", pe_bltn hg b bootVE (v := .ty "ValueError") rfl (by decide) (by decide), fun u hu => ?_⟩
    rw [isVE_eq a] at c
    rw [c]; exact hu
theorem NmL.pa {X : Cx} {cs xs fs : List Str} (t : XT X.K X.mg cs xs fs) : ∀ {es : List Expr} {l : List Str}, NmL X xs es l → ∃ vs us, (PA X es (tCs vs) ∧ vs.length = es.length) ∧ (∀ us', Vals vs us' → us' = us) ∧ ∀ c ∈ cs, ∀ cv, X.mg c = some cv → PySem.W.kitAny X.K cv us = some (l.any fun x => exB c x)
  | _, _, .nil => ⟨[], [], ⟨pa_nil, rfl⟩, fun us' h => by cases h; rfl, fun c hc cv hcv => rfl⟩
  | _, _, .cons (x := x) hx hg hdb r => by
    obtain ⟨vs, us, h1, h2, h3⟩ := NmL.pa t r
    obtain ⟨v, q1, q2⟩ := pe_cls t hx hg hdb
    refine ⟨v :: vs, xvOf X.K x :: us, ⟨(pa_cons q1 h1.1 (by rfl)), congrArg Nat.succ h1.2⟩, fun us' h => ?_, fun c hc cv hcv => ?_⟩
    · cases h with
      | cons a b => rw [q2 _ a, h2 _ b]
    · have e := ((t.nm x hx).2 c hc cv hcv).2
      unfold PySem.W.kitAny
      rw [e]
      cases h : exB c x with
      | true => simp [h]
      | false => simp [h, h3 c hc cv hcv]
theorem NmL.len {X : Cx} {cs xs fs : List Str} (t : XT X.K X.mg cs xs fs) : ∀ {es : List Expr} {l : List Str}, NmL X xs es l → l.length = es.length
  | _, _, .nil => rfl
  | _, _, .cons _ _ _ r => congrArg Nat.succ (NmL.len t r)
/-- where the exception's dict stands -/
def XD (H : Hp) (d : Option Addr) : Prop := d = none ∨ ∃ dd fs, d = some dd ∧ H dd = some (.xd fs)
theorem inst_at {X : Cx} {a C : Addr} {oe : Obj} {pn : List (Addr × Obj)} {d : Option Addr} {pins : List (Addr × Obj)} {σ : L2.St} {H : Hp} {s : Shared} (I : Inv (X.suite a ((a, oe) :: pn)) pins σ H s) (hz : Zc (.ref C) d oe) (hf : ∃ vs, oe.data = .fields vs) (hd : XD H d) :
    ∃ od, PySem.W.InstAt s.heap a oe C od := by
  obtain ⟨ha, _⟩ := I.pin (a, oe) (List.mem_append_left _ List.mem_cons_self)
  obtain ⟨vs, hv⟩ := hf
  rcases hd with rfl | ⟨dd, fs, rfl, ed⟩
  · exact ⟨none, ha, hz.1, by unfold PySem.W.notCls; rw [hv] <;> rfl, by rw [hz.2]; trivial⟩
  · have hx : ObjOk X.prog X.w H s.heap dd (.xd fs) := I.hok dd _ ed
    obtain ⟨mA, hns, hr⟩ := hx
    obtain ⟨od, ho, hl⟩ := lookIn_ns hns
    exact ⟨some od, ha, hz.1, by unfold PySem.W.notCls; rw [hv] <;> rfl, by rw [hz.2]; exact ho⟩
theorem call_isX {X : Cx} {a C : Addr} {oe : Obj} {pn : List (Addr × Obj)} {d : Option Addr} (g : XGet X.K C) (hz : Zc (.ref C) d oe) (hf : ∃ vs, oe.data = .fields vs) :
    CallR (X.suite a ((a, oe) :: pn)) (.builtin "isinstance") (fun xs H Q => ∃ (c : V) (cv : Value) (b : Bool), xs = [.ref a, c] ∧ (∀ u, RelV c u → u = cv) ∧ PySem.W.kitOne X.K (.ref C) cv = some b ∧ XD H d ∧ Q (.bl b) H) := by
  intro pins s σ H xs us Q I r h
  obtain ⟨c, cv, b, rfl, hcv, e, hd, q⟩ := h
  cases r with
  | cons rx rr =>
    cases rr with
    | cons rt rr =>
      cases rr
      cases rx
      have ec := hcv _ rt
      subst ec
      obtain ⟨od, J⟩ := inst_at I hz hf hd
      exact PySem.W.kia_one (PySem.W.kitx_exc g.cl g.ga g.gg g.sb g.ca g.hn g.tk g.mo) I.kIn J e (fun z => nomatch z) fun tk => ⟨.bl b, H, I.kept (t' := tk) fun _ _ z => z, rfl, q⟩
theorem call_isXT {X : Cx} {a C : Addr} {oe : Obj} {pn : List (Addr × Obj)} {d : Option Addr} (g : XGet X.K C) (hz : Zc (.ref C) d oe) (hf : ∃ vs, oe.data = .fields vs) :
    CallR (X.suite a ((a, oe) :: pn)) (.builtin "isinstance") (fun xs H Q => ∃ (tp : Addr) (vs : List V) (us : List Value) (b : Bool), xs = [.ref a, .ref tp] ∧ H tp = some (.tup vs) ∧ (∀ us', Vals vs us' → us' = us) ∧ PySem.W.kitAny X.K (.ref C) us = some b ∧ XD H d ∧ Q (.bl b) H) := by
  intro pins s σ H xs us Q I r h
  obtain ⟨tp, vs, its, b, rfl, ht, hv, e, hd, q⟩ := h
  cases r with
  | cons rx rr =>
    cases rr with
    | cons rt rr =>
      cases rr
      cases rx
      cases rt
      obtain ⟨od, J⟩ := inst_at I hz hf hd
      have hx : ObjOk X.prog X.w H s.heap tp (.tup vs) := I.hok tp _ ht
      obtain ⟨z, us', ru, ob, ho, hcl, n, hda⟩ := hx
      have := hv _ ru
      subst this
      obtain ⟨oc, od', odt, osl⟩ := ob
      dsimp only at hcl hda
      subst hcl hda
      exact PySem.W.kia_tup (PySem.W.kitx_exc g.cl g.ga g.gg g.sb g.ca g.hn g.tk g.mo) I.kIn J ho e (fun z => nomatch z) fun tk => ⟨.bl b, H, I.kept (t' := tk) fun _ _ z => z, rfl, q⟩
def isE (a : Addr) (i : Nat) (b : Bool) : Env → T D := fun env => match env[i]? with
  | some (.val (.obj a')) => if a' = a then T.ret (.bl b) else T.fail
  | _ => T.fail
def fldE (a : Addr) (i : Nat) (f : Str) (es : List D) : Env → T D := fun env => match env[i]? with
  | some (.val (.obj a')) => if a' = a then (match es with
    | [.str g, d] => if g = f then T.ret d else T.fail
    | _ => T.fail) else T.fail
  | _ => T.fail
theorem XRel.xd {mg : Str → Option Value} {K : PySem.W.Frag} {G H : Hp} {c : Str} {es : List D} {cls : Value} {d : Option Addr} (h : XRel mg K G c es cls d) (e : Ex G H) : XD H d := by
  obtain ⟨_, _, h3⟩ := h
  rcases h3 with ⟨_, h3⟩ | ⟨f, v, x, dd, q1, q2, q3, q4⟩
  · exact .inl h3
  · exact .inr ⟨dd, _, q2, e _ _ q3⟩
theorem getV_obj {env : Env} {i : Nat} {a : Addr} (h : env[i]? = some (.val (.obj a))) : getV env i = T.ret (.obj a) := by
  unfold getV; rw [h]
section
variable {X : Cx} {A : Act} {cs xs fs : List Str} {x c f : Str} {a : Addr} {oe : Obj} {pn : List (Addr × Obj)} {cls : Value} {d : Option Addr} {es : List D} {e : Expr} {i : Nat} {p px pos ppos : Pos} {ns : List Expr} {l : List Str} {kk : Nat}
theorem r_isE (t : XT X.K X.mg cs xs fs) (hc : c ∈ cs) (hz : Zc cls d oe) (hf : ∃ vs, oe.data = .fields vs) (xr : XRel X.mg X.K A.G0 c es cls d) (hx : x ∈ xs) (hg : Gl X "isinstance") (hm : X.mg "isinstance" = none) (hgx : Gl X x)
    (ha : PE (X.suite a ((a, oe) :: pn)) e (rd X.K A (gV i))) (hdb : (x == ("__debug__" : Str)) = false := by decide)
    (he : starEach [e, .Name x px] X.env = (false, eval e X.env) :: starEach [.Name x px] X.env := by rfl) (he2 : starEach [.Name x px] X.env = (false, eval (.Name x px) X.env) :: starEach [] X.env := by rfl) (hpl : (backTo pos (starEach [.Name x px] X.env)).any (·.1) = false := by rfl) :
    PE (X.suite a ((a, oe) :: pn)) (.Call (.Name "isinstance" p) [e, .Name x px] [] pos) (rd X.K A (isE a i (exB c x))) := by
  obtain ⟨C, gC, g, _⟩ := t.get c hc
  have ecl : cls = .ref C := by have := xr.1; rw [gC] at this; exact (Option.some.inj this).symm
  subst ecl
  obtain ⟨v, pv, rv⟩ := pe_cls (X := X.suite a ((a, oe) :: pn)) (p := px) t hx hgx hdb
  refine (pe_callB (call_isX g hz hf) hg hm (by decide +kernel) (pa_cons ha (pa_cons pv pa_nil he2) he) (by decide) (by decide) he hpl).imp fun σ H Q h => ?_
  obtain ⟨G, env, R, h⟩ := h
  unfold isE at h
  split at h
  · rename_i a' hi
    split at h
    · rename_i ea
      subst ea
      refine ⟨G, env, R, ?_⟩
      unfold gV
      rw [getV_obj hi]
      intro w G1 H1 e1 r1
      cases r1
      refine ⟨v, xvOf X.K x, exB c x, rfl, rv, ((t.nm x hx).2 c hc _ gC).2, xr.xd ((R.e0.gg.trans e1.gg).trans e1.gh), h (.bl _) G1 H1 e1 (.bl _)⟩
    · exact h.elim
  · exact h.elim
theorem r_isET (t : XT X.K X.mg cs xs fs) (hc : c ∈ cs) (hz : Zc cls d oe) (hf : ∃ vs, oe.data = .fields vs) (xr : XRel X.mg X.K A.G0 c es cls d) (hl : NmL X xs ns l) (hg : Gl X "isinstance") (hm : X.mg "isinstance" = none) (hz2 : ns.length ≤ 100)
    (ha : PE (X.suite a ((a, oe) :: pn)) e (rd X.K A (gV i)))
    (he : starEach [e, .Tuple ns kk ppos] X.env = (false, eval e X.env) :: starEach [.Tuple ns kk ppos] X.env := by rfl) (he2 : starEach [.Tuple ns kk ppos] X.env = (false, eval (.Tuple ns kk ppos) X.env) :: starEach [] X.env := by rfl) (hpl : (backTo pos (starEach [.Tuple ns kk ppos] X.env)).any (·.1) = false := by rfl) :
    PE (X.suite a ((a, oe) :: pn)) (.Call (.Name "isinstance" p) [e, .Tuple ns kk ppos] [] pos) (rd X.K A (isE a i (l.any fun x => exB c x))) := by
  obtain ⟨C, gC, g, _⟩ := t.get c hc
  have ecl : cls = .ref C := by have := xr.1; rw [gC] at this; exact (Option.some.inj this).symm
  subst ecl
  have hl' : NmL (X.suite a ((a, oe) :: pn)) xs ns l := by
    clear he he2 hpl hz2 ha
    induction hl with
    | nil => exact .nil
    | cons h1 h2 h3 r ih => exact .cons h1 h2 h3 ih
  obtain ⟨vs, us, ⟨pv, lv⟩, rv, kv⟩ := NmL.pa (X := X.suite a ((a, oe) :: pn)) t hl'
  refine (pe_callB (call_isXT g hz hf) hg hm (by decide +kernel) (pa_cons ha (pa_cons (pe_tup pv) pa_nil he2) he) (by decide) (by decide) he hpl).imp fun σ H Q h => ?_
  obtain ⟨G, env, R, h⟩ := h
  unfold isE at h
  split at h
  · rename_i a' hi
    split at h
    · rename_i ea
      subst ea
      refine ⟨G, env, R, ?_⟩
      unfold gV
      rw [getV_obj hi]
      intro w G1 H1 e1 r1
      cases r1
      refine ⟨by rw [sizeLine_eq]; omega, fun tp htp => ?_⟩
      have s1 := (R.ext e1).st
      have e2 := s1.alloc htp (o := .tup vs)
      exact ⟨tp, vs, us, _, rfl, upd_same, rv, kv c hc _ gC, xr.xd (((R.e0.gg.trans e1.gg).trans e2.gg).trans e2.gh), h (.bl _) _ _ (e1.trans e2) (.bl _)⟩
    · exact h.elim
  · exact h.elim
theorem r_fld (t : XT X.K X.mg cs xs fs) (hc : c ∈ cs) (hz : Zc cls d oe) (hf : ∃ vs, oe.data = .fields vs) (xr : XRel X.mg X.K A.G0 c es cls d) (hfs : f ∈ fs) (ha : PE (X.suite a ((a, oe) :: pn)) e (rd X.K A (gV i)))
    (hb : attributeBase e f X.env (eval e X.env) = eval e X.env := by rfl) : PE (X.suite a ((a, oe) :: pn)) (.Attribute e f pos) (rd X.K A (fldE a i f es)) := by
  obtain ⟨C, gC, g, nf⟩ := t.get c hc
  have ecl : cls = .ref C := by have := xr.1; rw [gC] at this; exact (Option.some.inj this).symm
  subst ecl
  refine (pe_xf ⟨g.ga, g.gg, g.sb, g.hd⟩ (nf f hfs) hz hf ha hb).imp fun σ H Q h => ?_
  obtain ⟨G, env, R, h⟩ := h
  unfold fldE at h
  split at h
  · rename_i a' hi
    split at h
    · rename_i ea
      subst ea
      refine ⟨G, env, R, ?_⟩
      unfold gV
      rw [getV_obj hi]
      intro w G1 H1 e1 r1
      cases r1
      obtain ⟨_, _, h3⟩ := xr
      rcases h3 with ⟨q1, _⟩ | ⟨g', v, dv, dd, q1, q2, q3, q4⟩
      · subst q1; exact h.elim
      · subst q1
        have h2 : wp (if g' = f then T.ret dv else T.fail) (fun d => ∀ v G' H', Ext A G H G' H' → Rp X.K G' v d → Q v H') A.E := h
        clear h
        by_cases eg : g' = f
        · subst eg
          rw [if_pos rfl] at h2
          exact ⟨rfl, rfl, dd, _, v, q2, ((R.e0.gg.trans e1.gg).trans e1.gh) _ _ q3, by simp [List.lookup], h2 v G1 H1 e1 (q4.mono (R.e0.gg.trans e1.gg))⟩
        · rw [if_neg eg] at h2
          exact h2.elim
    · exact h.elim
  · exact h.elim
end
end Eng

namespace Eng
open PySem PySem.Spec PyProof.Rows L2
open Evl (Ex)
def dRz0 (c : Str) : Env → T Out := fun _ => T.exc c []
def dRz1 (c f : Str) (w : Env → T D) : Env → T Out := fun env => w env >>= fun d => T.exc c [.str f, d]
def dfM (c qu : Str) (st : Stmt) : He.DefD := ⟨(c, some "__init__"), "__init__", qu, defArgs st, defBody st, defScope st, [], []⟩
theorem DefX.toG {P : Program} {w : World} {K : PySem.W.Frag} {mg : Str → Option Value} {base : Heap} {PX : APr} {k : Nat} {x : Str} {st : Stmt} {ps : List Str} {fT : List D → T D} (F : DefX P w K mg base PX k x st ps fT) : DefG P w K mg base PX k x st ps (nxF fT) := by
  obtain ⟨f, fd, h1, h2, h3⟩ := F.ex
  refine ⟨⟨f, fd, h1, h2, ⟨fun vs H Q E h => h.1, fun A outer s H args us vs Q E hr hg e0 hb r hsp => ?_⟩⟩, F.bn⟩
  obtain ⟨a, A1, G, ds, b, c, d, e, q⟩ := hsp
  refine codeAny_mono (h3.run A outer s H args us vs Q (fun _ _ _ => False) hr hg e0 hb r ⟨a, A1, G, ds, b, c, d, e, wp_mono (nxT_wp.mp q) (fun _ z => z) fun _ _ z => z.elim⟩) fun r s' z => ?_
  cases r with
  | error u =>
    obtain ⟨_, _, _, _, _, _, _, _, _, _, _, _, z⟩ := (show L2.CX P w outer H s (fun _ _ _ => False) u s' from z)
    exact z.elim
  | ok fl => cases fl <;> exact z
theorem sx_isE (a : Addr) (i : Nat) (b : Bool) (env : Env) : isE a i b env = (match env[i]? with
  | some (.val (.obj a')) => if a' = a then T.ret (.bl b) else T.fail
  | _ => T.fail) := rfl
theorem sx_fldE (a : Addr) (i : Nat) (f : Str) (es : List D) (env : Env) : fldE a i f es env = (match env[i]? with
  | some (.val (.obj a')) => if a' = a then (match es with
    | [.str g, d] => if g = f then T.ret d else T.fail
    | _ => T.fail) else T.fail
  | _ => T.fail) := rfl
theorem sx_dRet (w : Env → T D) (env : Env) : dRet w env = w env >>= fun d => T.ret (.rt d) := rfl
theorem sx_dIf {α : Type} (t : Env → T Bool) (a b : Env → T α) (env : Env) : dIf t a b env = t env >>= fun k => if k then a env else b env := by
  rfl
end Eng

namespace Eng
open PySem PySem.Spec PyProof.Rows L2
open Evl (Ex)
def rEqNil (K : PySem.W.Frag) : R2 := fun x y H Q => ∃ a b xs, x = .ref a ∧ y = .ref b ∧ SqT K H a xs ∧ SqT K H b [] ∧ Q (.bl xs.isEmpty) H
def rNeNil (K : PySem.W.Frag) : R2 := fun x y H Q => ∃ a b xs, x = .ref a ∧ y = .ref b ∧ SqT K H a xs ∧ SqT K H b [] ∧ Q (.bl (!xs.isEmpty)) H
theorem vals_len : ∀ {xs : List V} {us : List Value}, Vals xs us → xs.length = us.length
  | _, _, .nil => rfl
  | _, _, .cons _ r => congrArg Nat.succ (vals_len r)
theorem nil_flag {xs : List V} {its its2 : List Value} (r1 : Vals xs its) (r2 : Vals [] its2) (e : Nat → Bool) : ((List.range (min its.toArray.size its2.toArray.size)).all e && its.toArray.size == its2.toArray.size) = xs.isEmpty := by
  have h1 := vals_len r1
  cases r2
  cases xs with
  | nil => cases r1; rfl
  | cons x r =>
    cases r1
    simp
theorem op_eqNil {X : Cx} (hu : X.A.units + 64 < cLine) : OpR X (compareOp .Eq) (rEqNil X.K) := by
  intro pins s σ H x y v u Q I rx ry h
  obtain ⟨a, b, xs, rfl, rfl, ha, hb, q⟩ := h
  cases rx; cases ry
  obtain ⟨its, r1, t1, _⟩ := I.tuple ha
  obtain ⟨its2, r2, t2, _⟩ := I.tuple hb
  have hz : its2 = [] := by cases r2; rfl
  refine SeqAt.eq_tupleAt (e := fun _ => true) t1 t2 (by omega) (fun j h1 h2 => ?_) ?_
  · subst hz; exact absurd h2 (Nat.not_lt_zero _)
  · rw [nil_flag r1 r2]
    exact ⟨.bl _, H, I, rfl, q⟩
theorem op_neNil {X : Cx} (hu : X.A.units + 64 < cLine) : OpR X (compareOp .NotEq) (rNeNil X.K) := by
  intro pins s σ H x y v u Q I rx ry h
  obtain ⟨a, b, xs, rfl, rfl, ha, hb, q⟩ := h
  cases rx; cases ry
  obtain ⟨its, r1, t1, _⟩ := I.tuple ha
  obtain ⟨its2, r2, t2, _⟩ := I.tuple hb
  have hz : its2 = [] := by cases r2; rfl
  refine SeqAt.RcNeAt.tuples (e := fun _ => true) t1 t2 (by omega) (fun j h1 h2 => ?_) _ _ _ _ ?_
  · subst hz; exact absurd h2 (Nat.not_lt_zero _)
  · rw [nil_flag r1 r2]
    exact ⟨.bl _, H, I, rfl, q⟩
/-- == where () stands behind it -/
def eqNilD (a b : D) : T Bool := match a, b with
  | .tup l, .tup [] => .ret l.isEmpty
  | a, b => eqD a b
def neNilD (a b : D) : T Bool := match a, b with
  | .tup l, .tup [] => .ret (!l.isEmpty)
  | a, b => neD a b
theorem op_eqAllN {X : Cx} (hu : X.A.units + 64 < cLine) : OpR X (compareOp .Eq) (fun x y H Q => rEqNil X.K x y H Q ∨ rEqAll X.K x y H Q) := (op_eqNil hu).or (op_eqAll hu)
theorem op_neAllN {X : Cx} (hu : X.A.units + 64 < cLine) : OpR X (compareOp .NotEq) (fun x y H Q => rNeNil X.K x y H Q ∨ rNeAll X.K x y H Q) := (op_neNil hu).or (op_neAll hu)
section
variable {K : PySem.W.Frag} {A : Act} {G H : Hp}
theorem Rp.tupV {v : V} {l : List D} (h : Rp K G v (.tup l)) : ∃ a xs, v = .ref a ∧ SqT K G a xs ∧ xs.isEmpty = l.isEmpty := by
  cases h with
  | tup ht ha =>
    refine ⟨_, _, rfl, ht, ?_⟩
    cases ha <;> rfl
theorem Rp.tup0 {v : V} (h : Rp K G v (.tup [])) : ∃ a, v = .ref a ∧ SqT K G a [] := by
  cases h with
  | tup ht ha =>
    cases ha
    exact ⟨_, rfl, ht⟩
theorem opC_eqN : OpC K A (fun x y H Q => rEqNil K x y H Q ∨ rEqAll K x y H Q) eqNilD := by
  intro G H x y dx dy Q s hx hy h
  unfold eqNilD at h
  split at h
  · obtain ⟨a, xs, e1, t1, e⟩ := (hx.rp s.gh).tupV
    obtain ⟨b, e2, t2⟩ := (hy.rp s.gh).tup0
    refine .inl ⟨a, b, xs, e1, e2, t1, t2, ?_⟩
    rw [e]; exact h
  · exact .inr (opC_eq _ _ _ _ _ _ _ s hx hy h)
theorem opC_neN : OpC K A (fun x y H Q => rNeNil K x y H Q ∨ rNeAll K x y H Q) neNilD := by
  intro G H x y dx dy Q s hx hy h
  unfold neNilD at h
  split at h
  · obtain ⟨a, xs, e1, t1, e⟩ := (hx.rp s.gh).tupV
    obtain ⟨b, e2, t2⟩ := (hy.rp s.gh).tup0
    refine .inl ⟨a, b, xs, e1, e2, t1, t2, ?_⟩
    rw [e]; exact h
  · exact .inr (opC_ne _ _ _ _ _ _ _ s hx hy h)
end
@[simp] theorem eqN_nil (l : List D) : eqNilD (.tup l) (.tup []) = T.ret l.isEmpty := rfl
@[simp] theorem neN_nil (l : List D) : neNilD (.tup l) (.tup []) = T.ret (!l.isEmpty) := rfl
mutual
/-- fit to be shown, dicts of few texts within -/
def D.fit2 : D → Bool
  | .tup l => fit2All l
  | .lst l => fitAll l
  | .dct ks vs => (decide (ks.length = vs.length) && vs.all D.scal) && ((D.dct ks vs).py2.showable && (decide ((D.dct ks vs).py2.shown.length ≤ 100) && decide ((D.dct ks vs).py2.depth ≤ 1)))
  | .obj _ => false
  | d => d.fit
def fit2All : List D → Bool
  | [] => true
  | d :: r => d.fit2 && fit2All r
end
mutual
def D.rz2 : D → Nat
  | .tup l => rz2All l + 4
  | .dct _ _ => 100
  | d => d.rz
def rz2All : List D → Nat
  | [] => 0
  | d :: r => d.rz2 + 2 + rz2All r
end
mutual
def D.dep2 : D → Nat
  | .tup l => dep2All l + 1
  | .dct _ _ => 1
  | d => d.dep
def dep2All : List D → Nat
  | [] => 0
  | d :: r => max d.dep2 (dep2All r)
end
theorem dct_fit {ks : List Key} {vs : List D} (h : (D.dct ks vs).fit2 = true) : (D.dct ks vs).pure2 = true ∧ (D.dct ks vs).py2.showable = true ∧ (D.dct ks vs).py2.shown.length ≤ 100 ∧ (D.dct ks vs).py2.depth ≤ 1 := by
  have h : ((decide (ks.length = vs.length) && vs.all D.scal) && ((D.dct ks vs).py2.showable && (decide ((D.dct ks vs).py2.shown.length ≤ 100) && decide ((D.dct ks vs).py2.depth ≤ 1)))) = true := h
  obtain ⟨h1, h2⟩ := Bool.and_eq_true_iff.mp h
  obtain ⟨h3, h4⟩ := Bool.and_eq_true_iff.mp h2
  obtain ⟨h5, h6⟩ := Bool.and_eq_true_iff.mp h4
  exact ⟨h1, h3, of_decide_eq_true h5, of_decide_eq_true h6⟩
mutual
theorem shown2_le : ∀ d : D, d.fit2 = true → d.py2.shown.length ≤ d.rz2
  | .non, _ => by decide
  | .bl b, _ => by cases b <;> decide
  | .int i, h => shown_le (.int i) h
  | .str x, h => shown_le (.str x) h
  | .lst l, h => shown_le (.lst l) h
  | .tup l, h => by
    have := shown2All_le l h
    exact Nat.le_trans (tupleText_le _) (by show _ ≤ rz2All l + 4; omega)
  | .dct ks vs, h => by
    exact (dct_fit h).2.2.1
  | .obj _, h => by cases h
theorem shown2All_le : ∀ l : List D, fit2All l = true → piled (PyData.shownAll (py2All l)) ≤ rz2All l
  | [], _ => Nat.zero_le _
  | d :: r, h => by
    obtain ⟨h1, h2⟩ := Bool.and_eq_true_iff.mp (show (d.fit2 && fit2All r) = true from h)
    have a := shown2_le d h1
    have b := shown2All_le r h2
    show piled (d.py2.shown :: PyData.shownAll (py2All r)) ≤ d.rz2 + 2 + rz2All r
    rw [piled_cons]
    omega
end
mutual
theorem fit2_pure : ∀ d : D, d.fit2 = true → d.pure2 = true ∧ d.py2.showable = true ∧ d.py2.depth ≤ d.dep2
  | .non, _ => ⟨rfl, rfl, Nat.le_refl _⟩
  | .bl b, _ => ⟨rfl, rfl, Nat.le_refl _⟩
  | .int i, h => ⟨rfl, h, Nat.le_refl _⟩
  | .str x, _ => ⟨rfl, rfl, Nat.le_refl _⟩
  | .lst l, h => by
    obtain ⟨a, b, c⟩ := fit_pure (.lst l) h
    exact ⟨a, b, Nat.le_of_eq c⟩
  | .tup l, h => by
    obtain ⟨a, b, c⟩ := fit2All_pure l h
    exact ⟨a, b, by show PyData.depth (.tuple (py2All l)) ≤ dep2All l + 1; rw [PyData.depth.eq_def]; exact Nat.succ_le_succ c⟩
  | .dct ks vs, h => by
    obtain ⟨a, b, _, c⟩ := dct_fit h
    exact ⟨a, b, c⟩
  | .obj _, h => by cases h
theorem fit2All_pure : ∀ l : List D, fit2All l = true → pure2All l = true ∧ PyData.showableAll (py2All l) = true ∧ PyData.depthAll (py2All l) ≤ dep2All l
  | [], _ => ⟨rfl, rfl, Nat.le_refl _⟩
  | d :: r, h => by
    obtain ⟨h1, h2⟩ := Bool.and_eq_true_iff.mp (show (d.fit2 && fit2All r) = true from h)
    obtain ⟨a1, b1, c1⟩ := fit2_pure d h1
    obtain ⟨a2, b2, c2⟩ := fit2All_pure r h2
    exact ⟨by show (d.pure2 && pure2All r) = true; rw [a1, a2]; rfl, by show (d.py2.showable && PyData.showableAll (py2All r)) = true; rw [b1, b2]; rfl, by
      show PyData.depthAll (d.py2 :: py2All r) ≤ max d.dep2 (dep2All r)
      rw [PyData.depthAll.eq_def]
      show max d.py2.depth _ ≤ _
      omega⟩
end
theorem repr_fit2 {d : D} (h : d.fit2 = true) (hz : d.rz2 ≤ 16777216) (hd : d.dep2 ≤ 64) : reprD2 [d] = T.ret (.str d.py2.shown) := by
  obtain ⟨a, b, c⟩ := fit2_pure d h
  show (if d.showOk2 = true then _ else _) = _
  rw [if_pos]
  unfold D.showOk2
  rw [a, b, decide_eq_true (Nat.le_trans c hd), decide_eq_true (Nat.le_trans (shown2_le d h) (by rw [sizeLine_eq]; exact hz))]
  rfl
end Eng

namespace Eng
open PySem PySem.Spec PyProof.Rows L2
open Evl (Ex)
/-- a value, and what stands in the slots behind it -/
def rdP (K : PySem.W.Frag) (A : Act) (w : Env → T (D × Env)) : TE := fun σ H Q => ∃ G env, Rel K A G σ env H ∧ wp (w env) (fun p => ∀ v G' H', Ex G G' → Rel K A G' σ p.2 H' → Rp K G' v p.1 → Q v H') A.E
section
variable {K : PySem.W.Frag} {A : Act} {X : Cx} {G H : Hp} {a b c e : Expr} {w : Env → T D} {wp1 : Env → T (D × Env)} {pos pos' : Pos} {x : Str}
def takeAt (l : List D) (k : Int) : Option (Nat × D) := if 0 ≤ k ∧ k < 2 ^ 63 then (l[k.toNat]?).map fun d => (k.toNat, d) else none
/-- xs.pop(e) -/
def popAt (i : Nat) (w : Env → T D) : Env → T (D × Env) := fun env => do
  let l ← ownL env i
  let k ← w env >>= asInt
  match takeAt l k with
  | some (j, d) => T.ret (d, env.set i (.own (.lst (l.eraseIdx j))))
  | none => T.fail
/-- xs.pop() -/
def popLast (i : Nat) : Env → T (D × Env) := fun env => do
  let l ← ownL env i
  match l.getLast? with
  | some d => T.ret (d, env.set i (.own (.lst l.dropLast)))
  | none => T.fail
theorem RpAll.erase {vs : List V} {ds : List D} (r : RpAll K G vs ds) (k : Nat) : RpAll K G (vs.eraseIdx k) (ds.eraseIdx k) := by
  rw [List.eraseIdx_eq_take_drop_succ, List.eraseIdx_eq_take_drop_succ]
  exact (r.take k).append (r.drop (k + 1))
theorem asInt_wp {w : T D} {Q : Int → Prop} {E : Str → List D → Prop} (h : wp (w >>= asInt) Q E) : wp w (fun d => ∃ i, d = .int i ∧ Q i) E := by
  refine wp_imp (wp_bind.mp h) fun d hd => ?_
  unfold asInt at hd
  split at hd
  · exact ⟨_, rfl, hd⟩
  · exact hd.elim
theorem r_popAt (i : Nat) {apos p : Pos} (hN : X.N[i]? = some x) (hv : Vis X.env.scope x) (he : PE X e (rd X.K A w)) (hd : (x == ("__debug__" : Str)) = false := by decide) (hcd : (x == ("__classdict__" : Str)) = false := by decide)
    (hbase : attributeBase (.Name x p) "pop" X.env (eval (.Name x p) X.env) = eval (.Name x p) X.env := by rfl)
    (hfew : ((backTo pos (starEach [e] X.env)).all (fun x => !x.1) && (backToKw pos (keywordEach [] X.env)).all (fun x => x.1.isSome) && decide (([e] : List Expr).length + ([] : List Keyword).length + (if ([] : List Keyword).isEmpty then 0 else 1) < 30)) = true := by rfl)
    (hline : (apos.endLine == pos.line) = true := by rfl) (hs : starEach [e] X.env = (false, eval e X.env) :: starEach [] X.env := by rfl) :
    PE X (.Call (.Attribute (.Name x p) "pop" apos) [e] [] pos) (rdP X.K A (popAt i w)) :=
  (pe_bm PySem.F.plainAttrs_list PySem.F.slot_list_pop PySem.F.type_list_pop (mt_popAt (X := X)) (pe_var hN hv hd hcd) (pa_cons he pa_nil hs) hbase hfew hline hs rfl).imp fun σ H Q h => by
    obtain ⟨G, env, R, h⟩ := h
    obtain ⟨l, hl, h0⟩ := ownL_wp (wp_bind.mp h)
    obtain ⟨p, vs, h1, h2, h3⟩ := R.ownL hl
    refine ⟨.ref p, h1, .inl ⟨rfl, vs, SqL.of h2⟩, G, env, R, wp_imp (asInt_wp (wp_bind.mp h0)) fun d q v G1 H1 e1 r1 => ?_⟩
    obtain ⟨k, rfl, q⟩ := q
    have R1 := R.ext e1
    obtain ⟨p', vs', h1', h2', h3'⟩ := R1.ownL hl
    rw [h1] at h1'
    cases h1'
    cases r1
    cases hq : takeAt l k with
    | none => rw [hq] at q; exact q.elim
    | some jd =>
      obtain ⟨j, d⟩ := jd
      rw [hq] at q
      unfold takeAt at hq
      split at hq
      · rename_i hk
        cases hg : l[k.toNat]? with
        | none => rw [hg] at hq; cases hq
        | some d' =>
          rw [hg] at hq
          cases hq
          obtain ⟨y, hy, ry⟩ := h3'.get hg
          have hlt : k.toNat < vs'.length := (List.getElem?_eq_some_iff.mp hy).1
          have hix : seqIndex? k vs'.length = some k.toNat := by
            unfold seqIndex?
            simp only [show ¬ k < 0 by omega, if_false]
            rw [if_pos]
            simp only [Bool.and_eq_true, decide_eq_true_eq]
            omega
          exact ⟨p, vs', k, k.toNat, y, rfl, rfl, h2', by omega, hk.2, hix, hy, q y G1 _ e1.gg (R1.mut hl h1 (.lst (h3'.erase _))) ry⟩
      · cases hq
theorem r_popLast (i : Nat) {apos p : Pos} (hN : X.N[i]? = some x) (hv : Vis X.env.scope x) (hd : (x == ("__debug__" : Str)) = false := by decide) (hcd : (x == ("__classdict__" : Str)) = false := by decide)
    (hbase : attributeBase (.Name x p) "pop" X.env (eval (.Name x p) X.env) = eval (.Name x p) X.env := by rfl) (hline : (apos.endLine == pos.line) = true := by rfl) :
    PE X (.Call (.Attribute (.Name x p) "pop" apos) [] [] pos) (rdP X.K A (popLast i)) :=
  (pe_bm0 PySem.F.plainAttrs_list PySem.F.slot_list_pop PySem.F.type_list_pop (mt_pop (X := X)) (pe_var hN hv hd hcd) hbase hline).imp fun σ H Q h => by
    obtain ⟨G, env, R, h⟩ := h
    obtain ⟨l, hl, q⟩ := ownL_wp (wp_bind.mp h)
    obtain ⟨p, vs, h1, h2, h3⟩ := R.ownL hl
    cases hg : l.getLast? with
    | none => rw [hg] at q; exact q.elim
    | some d =>
      rw [hg] at q
      have hg' : l[l.length - 1]? = some d := by rw [← List.getLast?_eq_getElem?]; exact hg
      obtain ⟨y, hy, ry⟩ := h3.get hg'
      rw [← h3.length] at hy
      have hdl : RpAll X.K G vs.dropLast l.dropLast := by
        rw [List.dropLast_eq_take, List.dropLast_eq_take, h3.length]
        exact h3.take _
      exact ⟨.ref p, h1, .inl ⟨rfl, vs, SqL.of h2⟩, p, vs, y, rfl, rfl, h2, hy, q y G _ (Ex.refl _) (R.mut hl h1 (.lst hdl)) ry⟩
def dExpP (w : Env → T (D × Env)) : Env → T Out := fun env => w env >>= fun p => T.ret (.nx p.2)
def dSetP (j : Nat) (w : Env → T (D × Env)) : Env → T Out := fun env => w env >>= fun p => T.ret (.nx (p.2.set j (.val p.1)))
def dRetP (w : Env → T (D × Env)) : Env → T Out := fun env => w env >>= fun p => T.ret (.rt p.1)
def dAppP (j : Nat) (w : Env → T (D × Env)) : Env → T Out := fun env => do
  let _ ← ownL env j
  let p ← w env
  let l ← ownL p.2 j
  if l.length < sizeLine then T.ret (.nx (p.2.set j (.own (.lst (l ++ [p.1]))))) else T.fail
theorem s_expP (he : PE X e (rdP X.K A wp1)) (hs : swapsWith e none pos.line X.env = pure false := by rfl) : PS X (.Expr e pos) (rdS X.K A (dExpP wp1)) := (ps_expr he hs).imp fun Dn σ H h => by
  obtain ⟨G, env, R, h⟩ := h
  exact ⟨G, env, R, wp_imp (wp_bind.mp h) fun p q v G1 H1 e1 R1 r1 => q σ G1 H1 e1 R1⟩
theorem s_setP (j : Nat) (hN : X.N.Nodup) (hi : X.N[j]? = some x) (hx : Loc X.env.scope x) (he : PE X e (rdP X.K A wp1)) (hs : swapsWith e (some (.Name x pos')) pos.line X.env = pure false := by rfl) (hf : X.fn x = true ∨ X.env.scope.names.lookup x = some .local := by first | exact .inl rfl | exact .inr rfl | assumption) :
    PS X (.Assign [.Name x pos'] e pos) (rdS X.K A (dSetP j wp1)) := (ps_set hN hi hx he hs hf).imp fun Dn σ H h => by
  obtain ⟨G, env, R, h⟩ := h
  exact ⟨G, env, R, wp_imp (wp_bind.mp h) fun p q v G1 H1 e1 R1 r1 => q _ G1 H1 e1 (R1.set r1)⟩
theorem s_appP (j : Nat) {apos p : Pos} (hN : X.N[j]? = some x) (hv : Vis X.env.scope x) (he : PE X e (rdP X.K A wp1)) (hd : (x == ("__debug__" : Str)) = false := by decide) (hcd : (x == ("__classdict__" : Str)) = false := by decide)
    (hbase : attributeBase (.Name x p) "append" X.env (eval (.Name x p) X.env) = eval (.Name x p) X.env := by rfl)
    (hfew : ((backTo pos (starEach [e] X.env)).all (fun x => !x.1) && (backToKw pos (keywordEach [] X.env)).all (fun x => x.1.isSome) && decide (([e] : List Expr).length + ([] : List Keyword).length + (if ([] : List Keyword).isEmpty then 0 else 1) < 30)) = true := by rfl)
    (hline : (apos.endLine == pos.line) = true := by rfl) (hs : starEach [e] X.env = (false, eval e X.env) :: starEach [] X.env := by rfl) :
    PS X (.Expr (.Call (.Attribute (.Name x p) "append" apos) [e] [] pos) pos') (rdS X.K A (dAppP j wp1)) :=
  (ps_expr (pe_bm PySem.F.plainAttrs_list PySem.F.slot_list_append PySem.F.type_list_append mt_append (pe_var hN hv hd hcd) (pa_cons he pa_nil hs) hbase hfew hline hs rfl) rfl).imp fun Dn σ H h => by
    obtain ⟨G, env, R, h⟩ := h
    obtain ⟨l, hl, h0⟩ := ownL_wp (wp_bind.mp h)
    obtain ⟨p, vs, h1, h2, h3⟩ := R.ownL hl
    refine ⟨.ref p, h1, .inl ⟨rfl, vs, SqL.of h2⟩, G, env, R, wp_imp (wp_bind.mp h0) fun d q v G1 H1 e1 R1 r1 => ?_⟩
    obtain ⟨l', hl', q⟩ := ownL_wp (wp_bind.mp q)
    obtain ⟨p', vs', h1', h2', h3'⟩ := R1.ownL hl'
    rw [h1] at h1'
    cases h1'
    split at q
    · rename_i hlt
      exact ⟨p, vs', v, rfl, rfl, h2', by rw [h3'.length]; exact hlt, q σ G1 _ e1 (R1.mut hl' h1 (.lst (h3'.append (.cons r1 .nil))))⟩
    · exact q.elim
end
@[simp] theorem ap_popAt (i : Nat) (w : Env → T D) (env : Env) : popAt i w env = ownL env i >>= fun l => w env >>= asInt >>= fun k => match takeAt l k with
  | some (j, d) => T.ret (d, env.set i (.own (.lst (l.eraseIdx j))))
  | none => T.fail := rfl
@[simp] theorem ap_popLast (i : Nat) (env : Env) : popLast i env = ownL env i >>= fun l => match l.getLast? with
  | some d => T.ret (d, env.set i (.own (.lst l.dropLast)))
  | none => T.fail := rfl
@[simp] theorem ap_dExpP (w : Env → T (D × Env)) (env : Env) : dExpP w env = w env >>= fun p => T.ret (.nx p.2) := rfl
@[simp] theorem ap_dSetP (j : Nat) (w : Env → T (D × Env)) (env : Env) : dSetP j w env = w env >>= fun p => T.ret (.nx (p.2.set j (.val p.1))) := rfl
@[simp] theorem ap_dAppP (j : Nat) (w : Env → T (D × Env)) (env : Env) : dAppP j w env = ownL env j >>= fun _ => w env >>= fun p => ownL p.2 j >>= fun l => if l.length < sizeLine then T.ret (.nx (p.2.set j (.own (.lst (l ++ [p.1]))))) else T.fail := rfl
theorem takeAt_nat {l : List D} {j : Nat} {d : D} (h : l[j]? = some d) (hj : j < 1000000) : takeAt l (j : Int) = some (j, d) := by
  unfold takeAt
  rw [if_pos (by omega), Int.toNat_natCast, h]
  rfl
end Eng

namespace Eng
open PySem PySem.Spec PyProof.Rows L2
open Evl (Ex)
section
variable {K : PySem.W.Frag} {A : Act} {G H : Hp}
def strD : List D → T D
  | [.int i] => if i.natAbs.log2 < 1920 then .ret (.str (toString i)) else .fail
  | _ => .fail
theorem ca_str : CaD K A (fun xs H Q => ∃ i, xs = [.int i] ∧ i.natAbs.log2 < 1920 ∧ Q (.str (toString i)) H) strD := by
  intro G H vs ds Q s hp h
  unfold strD at h
  split at h
  · split at h
    · rename_i hk
      obtain ⟨v, rfl, r⟩ := Paired.one hp
      rw [r.int]
      exact ⟨_, rfl, hk, h _ _ _ s (.str _)⟩
    · exact h.elim
  · exact h.elim
end
mutual
def D.py3 : D → PyData
  | .non => .none
  | .bl b => .bool b
  | .int i => .int i
  | .str x => .str x
  | .tup l => .tuple (py3All l)
  | .lst l => .list (py3All l)
  | .dct ks vs => .dict ((ks.map keyPy).zip (py3All vs))
  | .obj _ => .none
def py3All : List D → List PyData
  | [] => []
  | d :: r => d.py3 :: py3All r
end
mutual
def D.pure3 : D → Bool
  | .tup l => pure3All l
  | .lst l => pure3All l
  | .dct ks vs => decide (ks.length = vs.length) && pure3All vs
  | .obj _ => false
  | _ => true
def pure3All : List D → Bool
  | [] => true
  | d :: r => d.pure3 && pure3All r
end
theorem py3All_len : ∀ l : List D, (py3All l).length = l.length
  | [] => rfl
  | d :: r => congrArg Nat.succ (py3All_len r)
section
variable {X : Cx} {pins : List (Addr × Obj)} {σ : L2.St} {s : Shared} {H G : Hp}
mutual
theorem rk3 (I : Inv X pins σ H s) (g : Ex G H) : ∀ (d : D) {v : V} {u : Value}, Rp X.K G v d → d.pure3 = true → RelV v u → d.py3.showable = true → d.py3.shown.length ≤ sizeLine →
    ∃ as bs, Reads s.heap u d.py3 as ∧ ReadAtMost s.heap d.py3.depth bs ∧ ReprK X.prog X.w bs s.heap d.py3.depth u d.py3.shown
  | .non, _, _, h, _, r, hs, hz => by
    cases h; cases r
    obtain ⟨bs, a, b⟩ := ReprK.of_reads (prog := X.prog) (w := X.w) (h₀ := s.heap) Reads.none hs (fun z => by cases z) hz
    exact ⟨_, bs, Reads.none, a, b⟩
  | .bl b, _, _, h, _, r, hs, hz => by
    cases h; cases r
    obtain ⟨bs, a, c⟩ := ReprK.of_reads (prog := X.prog) (w := X.w) (h₀ := s.heap) (Reads.bool b) hs (fun z => by cases z) hz
    exact ⟨_, bs, Reads.bool b, a, c⟩
  | .int i, _, _, h, _, r, hs, hz => by
    cases h
    obtain ⟨t, rfl⟩ := r
    obtain ⟨bs, a, c⟩ := ReprK.of_reads (prog := X.prog) (w := X.w) (h₀ := s.heap) (Reads.int i t) hs (fun z => by cases z) hz
    exact ⟨_, bs, Reads.int i t, a, c⟩
  | .str x, _, _, h, _, r, hs, hz => by
    cases h
    obtain ⟨t, rfl⟩ := r
    obtain ⟨bs, a, c⟩ := ReprK.of_reads (prog := X.prog) (w := X.w) (h₀ := s.heap) (Reads.str x t) hs (fun z => by cases z) hz
    exact ⟨_, bs, Reads.str x t, a, c⟩
  | .lst l, _, _, h, p, r, hs, hz => by
    cases h with
    | lst ht ha =>
      cases r
      obtain ⟨_, its, n, rv, hl, ho⟩ := I.lstM (g _ _ ht)
      have hz' : (listText (PyData.shownAll (py3All l))).length ≤ sizeLine := by simpa only [D.py3, PyData.shown] using hz
      obtain ⟨as, bs, h4, hb, hk⟩ := rk3All I g l ha p rv (by simpa [D.py3, PyData.showable] using hs) (fun t ht => Nat.le_trans (listText_mem_le ht) hz')
      have rr : Reads s.heap _ (.list (py3All l)) _ := .list ho rfl rfl h4
      have hna := not_mem_of_deeper rr (n := PyData.depthAll (py3All l)) (by simp only [PyData.depth]; omega) hb
      have hcons : ReadAtMost s.heap (PyData.list (py3All l)).depth (_ :: bs) := ReadAtMost.cons rr (by simp only [PyData.depth]; omega) hb
      refine ⟨_, _ :: bs, rr, hcons, ?_⟩
      simp only [D.py3, PyData.depth, PyData.shown]
      cases its with
      | nil =>
        cases rv
        cases ha
        simp only [py3All, PyData.shownAll, listText_nil]
        exact ReprK.listEmpty ho rfl rfl
      | cons x its => exact ReprK.list ho rfl rfl hna (by simpa using hk.length_eq) (fun i y e => hk.item i y (by simpa using e))
  | .dct ks ds, _, _, h, p, r, hs, hz => by
    have p : (decide (ks.length = ds.length) && pure3All ds) = true := p
    rw [Bool.and_eq_true] at p
    cases h with
    | dct hG hl hr =>
      cases r
      obtain ⟨_, hsy, vs, kv, o, es, ep, ho, hx, hd, _, hp, _⟩ := dk_of I.hok (g _ _ hG)
      obtain ⟨k1, k2⟩ := kv_split hl kv
      have e1 : ((ks.map keyPy).zip (py3All ds)).map (·.1) = vs.map fun p => keyPy p.1 := by
        rw [← k1, List.map_map]
        refine List.map_fst_zip ?_
        rw [py3All_len, List.length_map, ← hr.length, ← hl, ← k1, List.length_map]
        exact Nat.le_refl _
      have e2 : ((ks.map keyPy).zip (py3All ds)).map (·.2) = py3All ds := by
        refine List.map_snd_zip ?_
        rw [py3All_len, List.length_map, ← hr.length, ← hl]
        exact Nat.le_refl _
      have hz' : (dictText (PyData.shownKv ((ks.map keyPy).zip (py3All ds)))).length ≤ sizeLine := by simpa only [D.py3, PyData.shown] using hz
      obtain ⟨hs1, hs2⟩ := PyData.showableKv_split ((ks.map keyPy).zip (py3All ds)) (by simpa [D.py3, PyData.showable] using hs)
      rw [e2] at hs2
      have h1 : ReadsAll s.heap (es.toList.map (·.key)) (((ks.map keyPy).zip (py3All ds)).map (·.1)) [] := by rw [e1]; exact keys_read hp
      have sc1 := fun t ht => let ⟨p, hp, hl⟩ := PyData.shownKv_key_le ((ks.map keyPy).zip (py3All ds)) t ht; Nat.le_trans hl (Nat.le_trans (dictText_mem_le hp) hz')
      have sc2 := fun t ht => let ⟨p, hp, hl⟩ := PyData.shownKv_val_le ((ks.map keyPy).zip (py3All ds)) t ht; Nat.le_trans hl (Nat.le_trans (dictText_mem_le hp) hz')
      obtain ⟨b1, hb1, q1⟩ := ReprAllK.of_readsAll (prog := X.prog) (w := X.w) h1 hs1 (fun _ hm => by cases hm) sc1
      rw [e2] at sc2
      obtain ⟨as, b2, h2, hb2, q2⟩ := rk3All I g ds hr p.2 k2 hs2 sc2
      rw [← vals_of hp] at h2 q2
      rw [← e2] at h2 hb2 q2
      have rr : Reads s.heap _ (.dict ((ks.map keyPy).zip (py3All ds))) _ := .dict ho hx.1 hd h1 h2
      have hb : ReadAtMost s.heap (PyData.depthKv ((ks.map keyPy).zip (py3All ds))) (b1 ++ b2) := (hb1.mono (PyData.depthAll_keys_le _)).append (hb2.mono (PyData.depthAll_vals_le _))
      have hna := not_mem_of_deeper rr (n := PyData.depthKv ((ks.map keyPy).zip (py3All ds))) (by simp only [PyData.depth]; omega) hb
      have hcons : ReadAtMost s.heap (PyData.dict ((ks.map keyPy).zip (py3All ds))).depth (_ :: (b1 ++ b2)) := ReadAtMost.cons rr (by simp only [PyData.depth]; omega) hb
      refine ⟨_, _ :: (b1 ++ b2), rr, hcons, ?_⟩
      simp only [D.py3, PyData.depth, PyData.shown, PyData.shownKv_eq]
      exact ReprK.dict ho hx.1 hd hsy hna (ReprEntriesK.of_two es.toList _ _
        (q1.more_le (fun b hb => List.mem_append_left _ hb) (PyData.depthAll_keys_le _)) (q2.more_le (fun b hb => List.mem_append_right _ hb) (PyData.depthAll_vals_le _)))
  | .tup l, _, _, h, p, r, hs, hz => by
    cases h with
    | tup ht ha =>
      cases r
      obtain ⟨its, rv, ⟨o, ho, hc, n, hd⟩, _⟩ := I.tuple (Evl.ex_t g ht)
      have hz' : (tupleText (PyData.shownAll (py3All l))).length ≤ sizeLine := by simpa only [D.py3, PyData.shown] using hz
      obtain ⟨as, bs, h4, hb, hk⟩ := rk3All I g l ha p rv (by simpa [D.py3, PyData.showable] using hs) (fun t ht => Nat.le_trans (tupleText_mem_le ht) hz')
      have rr : Reads s.heap _ (.tuple (py3All l)) _ := .tuple ho hc hd h4
      have hna := not_mem_of_deeper rr (n := PyData.depthAll (py3All l)) (by simp only [PyData.depth]; omega) hb
      have hcons : ReadAtMost s.heap (PyData.tuple (py3All l)).depth (_ :: bs) := ReadAtMost.cons rr (by simp only [PyData.depth]; omega) hb
      refine ⟨_, _ :: bs, rr, hcons, ?_⟩
      simp only [D.py3, PyData.depth, PyData.shown]
      exact ReprK.tuple ho hc hd hna hk
  | .obj _, _, _, _, p, _, _, _ => by cases p
theorem rk3All (I : Inv X pins σ H s) (g : Ex G H) : ∀ (ds : List D) {vs : List V} {us : List Value}, RpAll X.K G vs ds → pure3All ds = true → Vals vs us → PyData.showableAll (py3All ds) = true → (∀ t ∈ PyData.shownAll (py3All ds), t.length ≤ sizeLine) →
    ∃ as bs, ReadsAll s.heap us (py3All ds) as ∧ ReadAtMost s.heap (PyData.depthAll (py3All ds)) bs ∧ ReprAllK X.prog X.w bs s.heap (PyData.depthAll (py3All ds)) us (PyData.shownAll (py3All ds))
  | [], _, _, h, _, r, _, _ => by
    cases h; cases r
    exact ⟨_, [], ReadsAll.nil, (fun _ h => nomatch h), by simp only [py3All, PyData.shownAll]; exact .nil⟩
  | d :: ds, _, _, h, p, r, hs, hz => by
    have p' : (d.pure3 && pure3All ds) = true := p
    rw [Bool.and_eq_true] at p'
    have hs' : d.py3.showable = true ∧ PyData.showableAll (py3All ds) = true := by simpa [py3All, PyData.showableAll] using hs
    cases h with
    | cons h1 h2 =>
      cases r with
      | cons r1 r2 =>
        obtain ⟨as1, b1, q1, hb1, k1⟩ := rk3 I g d h1 p'.1 r1 hs'.1 (hz _ (by simp only [py3All, PyData.shownAll]; exact List.mem_cons_self ..))
        obtain ⟨as2, b2, q2, hb2, k2⟩ := rk3All I g ds h2 p'.2 r2 hs'.2 (fun t ht => hz t (by simp only [py3All, PyData.shownAll]; exact List.mem_cons_of_mem _ ht))
        refine ⟨_, b1 ++ b2, ReadsAll.cons q1 q2, ?_, ?_⟩
        · simp only [py3All, PyData.depthAll]
          exact (hb1.mono (Nat.le_max_left _ _)).append (hb2.mono (Nat.le_max_right _ _))
        · simp only [py3All, PyData.depthAll, PyData.shownAll]
          exact .cons ((k1.more fun b hb => List.mem_append_left _ hb).level_le (Nat.le_max_left _ _)) (k2.more_le (fun b hb => List.mem_append_right _ hb) (Nat.le_max_right _ _))
end
end
end Eng

namespace Eng
open PySem PySem.Spec PyProof.Rows L2
open Evl (Ex)
def D.showOk3 (d : D) : Bool := d.pure3 && (d.py3.showable && (decide (d.py3.shown.length ≤ sizeLine) && decide (d.py3.depth ≤ 64)))
def reprD3 : List D → T D
  | [d] => if d.showOk3 = true then .ret (.str d.py3.shown) else .fail
  | _ => .fail
def rRepr3 (K : PySem.W.Frag) : RL := fun xs H Q => ∃ x d, xs = [x] ∧ Rp K H x d ∧ d.showOk3 = true ∧ Q (.str d.py3.shown) H
theorem call_repr3 {X : Cx} (hg : X.A.guards = some []) (hu : X.A.units + 66 < cLine) : CallR X (.builtin "repr") (rRepr3 X.K) := by
  intro pins s σ H xs us Q I r h
  obtain ⟨x, d, rfl, hR, hk, q⟩ := h
  obtain ⟨u, rfl, ru⟩ := vals1 r
  unfold D.showOk3 at hk
  simp only [Bool.and_eq_true, decide_eq_true_eq] at hk
  obtain ⟨hp, hs, hz, hdp⟩ := hk
  have g : Ex H H := Ex.refl _
  cases d with
  | non => cases hR; cases ru; exact PySem.P.repr_of_none ⟨.str _, H, I.tok _, ⟨_, rfl⟩, q⟩
  | bl b => cases hR; cases ru; exact PySem.P.repr_of_bool ⟨.str _, H, I.tok _, ⟨_, rfl⟩, q⟩
  | int i =>
    cases hR
    obtain ⟨t, rfl⟩ := ru
    exact PySem.P.repr_of_int (by simpa [D.py3, PyData.showable] using hs) ⟨.str _, H, I.tok _, ⟨_, rfl⟩, q⟩
  | str z =>
    cases hR
    obtain ⟨t, rfl⟩ := ru
    exact PySem.P.repr_of_str ⟨.str _, H, I.tok _, ⟨_, rfl⟩, q⟩ (by simpa only [D.py3, PyData.shown] using hz)
  | lst l =>
    cases hR with
    | lst ht ha =>
      cases ru
      obtain ⟨_, its, n, rv, hl, ho⟩ := I.lstM ht
      have hz' : (listText (PyData.shownAll (py3All l))).length ≤ sizeLine := by simpa only [D.py3, PyData.shown] using hz
      obtain ⟨as, bs, h4, hb, hk⟩ := rk3All I g l ha hp rv (by simpa [D.py3, PyData.showable] using hs) (fun t ht => Nat.le_trans (listText_mem_le ht) hz')
      have rr : Reads s.heap _ (.list (py3All l)) _ := .list ho rfl rfl h4
      have hna := not_mem_of_deeper rr (n := PyData.depthAll (py3All l)) (by simp only [PyData.depth]; omega) hb
      simp only [D.py3, PyData.depth] at hdp
      simp only [D.py3, PyData.shown] at q
      refine PySem.call_repr_slot (T := "list") (idr := "list.__repr__") (by omega) ⟨_, ho, rfl⟩ PySem.F.slot_list_repr.toG ?_
      cases its with
      | nil =>
        cases rv
        cases ha
        simp only [py3All, PyData.shownAll, listText_nil] at q
        exact call_list_repr_empty ⟨_, ho, rfl⟩ ho rfl ⟨_, _, rfl, ⟨.str _, H, I.tok _, ⟨_, rfl⟩, q⟩⟩
      | cons x its =>
        exact call_list_reprK ho rfl rfl hna (by simpa using hk.length_eq) (fun i y e => hk.item i y (by simpa using e)) hg (fun b _ => Clear.nil b) (by show X.A.units + 1 + (PyData.depthAll (py3All l) + 1) < cLine; omega) (fun _ _ e => e) (fun h' u tk hk => ⟨_, _, rfl, ⟨.str _, H, I.kept hk, ⟨_, rfl⟩, q⟩⟩) hz'
  | dct ks ds =>
    have p : (decide (ks.length = ds.length) && pure3All ds) = true := hp
    rw [Bool.and_eq_true] at p
    cases hR with
    | dct hG hl hr =>
      cases ru
      obtain ⟨_, hsy, vs, kv, o, es, ep, ho, hx, hd, _, hp, _⟩ := dk_of I.hok hG
      obtain ⟨k1, k2⟩ := kv_split hl kv
      have e1 : ((ks.map keyPy).zip (py3All ds)).map (·.1) = vs.map fun p => keyPy p.1 := by
        rw [← k1, List.map_map]
        refine List.map_fst_zip ?_
        rw [py3All_len, List.length_map, ← hr.length, ← hl, ← k1, List.length_map]
        exact Nat.le_refl _
      have e2 : ((ks.map keyPy).zip (py3All ds)).map (·.2) = py3All ds := by
        refine List.map_snd_zip ?_
        rw [py3All_len, List.length_map, ← hr.length, ← hl]
        exact Nat.le_refl _
      have hz' : (dictText (PyData.shownKv ((ks.map keyPy).zip (py3All ds)))).length ≤ sizeLine := by simpa only [D.py3, PyData.shown] using hz
      obtain ⟨hs1, hs2⟩ := PyData.showableKv_split ((ks.map keyPy).zip (py3All ds)) (by simpa [D.py3, PyData.showable] using hs)
      rw [e2] at hs2
      have h1 : ReadsAll s.heap (es.toList.map (·.key)) (((ks.map keyPy).zip (py3All ds)).map (·.1)) [] := by rw [e1]; exact keys_read hp
      have sc1 := fun t ht => let ⟨p, hp, hl⟩ := PyData.shownKv_key_le ((ks.map keyPy).zip (py3All ds)) t ht; Nat.le_trans hl (Nat.le_trans (dictText_mem_le hp) hz')
      have sc2 := fun t ht => let ⟨p, hp, hl⟩ := PyData.shownKv_val_le ((ks.map keyPy).zip (py3All ds)) t ht; Nat.le_trans hl (Nat.le_trans (dictText_mem_le hp) hz')
      obtain ⟨b1, hb1, q1⟩ := ReprAllK.of_readsAll (prog := X.prog) (w := X.w) h1 hs1 (fun _ hm => by cases hm) sc1
      rw [e2] at sc2
      obtain ⟨as, b2, h2, hb2, q2⟩ := rk3All I g ds hr p.2 k2 hs2 sc2
      rw [← vals_of hp] at h2 q2
      rw [← e2] at h2 hb2 q2
      have rr : Reads s.heap _ (.dict ((ks.map keyPy).zip (py3All ds))) _ := .dict ho hx.1 hd h1 h2
      have hb : ReadAtMost s.heap (PyData.depthKv ((ks.map keyPy).zip (py3All ds))) (b1 ++ b2) := (hb1.mono (PyData.depthAll_keys_le _)).append (hb2.mono (PyData.depthAll_vals_le _))
      have hna := not_mem_of_deeper rr (n := PyData.depthKv ((ks.map keyPy).zip (py3All ds))) (by simp only [PyData.depth]; omega) hb
      simp only [D.py3, PyData.depth] at hdp
      simp only [D.py3, PyData.shown, PyData.shownKv_eq] at q
      rw [PyData.shownKv_eq] at hz'
      exact PySem.call_repr_slot (T := "dict") (idr := "dict.__repr__") (by omega) ⟨o, ho, hx.1⟩ PySem.F.slot_dict_repr (call_dict_reprK ho hx.1 hd hsy hna (ReprEntriesK.of_two es.toList _ _
        (q1.more_le (fun b hb => List.mem_append_left _ hb) (PyData.depthAll_keys_le _)) (q2.more_le (fun b hb => List.mem_append_right _ hb) (PyData.depthAll_vals_le _))) hg (fun b _ => Clear.nil b) (by show X.A.units + 1 + (PyData.depthKv ((ks.map keyPy).zip (py3All ds)) + 1) < cLine; omega) (fun _ _ e => e) (fun h' u tk hk => ⟨_, _, rfl, ⟨.str _, H, I.kept hk, ⟨_, rfl⟩, q⟩⟩) hz')
  | tup l =>
    cases hR with
    | tup ht ha =>
      cases ru
      obtain ⟨its, rv, ⟨o, ho, hc, n, hd⟩, _⟩ := I.tuple ht
      have hz' : (tupleText (PyData.shownAll (py3All l))).length ≤ sizeLine := by simpa only [D.py3, PyData.shown] using hz
      obtain ⟨as, bs, h4, hb, hk⟩ := rk3All I g l ha hp rv (by simpa [D.py3, PyData.showable] using hs) (fun t ht => Nat.le_trans (tupleText_mem_le ht) hz')
      have rr : Reads s.heap _ (.tuple (py3All l)) _ := .tuple ho hc hd h4
      have hna := not_mem_of_deeper rr (n := PyData.depthAll (py3All l)) (by simp only [PyData.depth]; omega) hb
      simp only [D.py3, PyData.depth] at hdp
      simp only [D.py3, PyData.shown] at q
      exact PySem.call_repr_slot (T := "tuple") (idr := "tuple.__repr__") (by omega) ⟨o, ho, hc⟩ PySem.F.slot_tuple_repr (call_tuple_reprK ho hc hd hna hk hg (fun b _ => Clear.nil b) (by show X.A.units + 1 + (PyData.depthAll (py3All l) + 1) < cLine; omega) (fun _ _ e => e) (fun h' u tk hk => ⟨_, _, rfl, ⟨.str _, H, I.kept hk, ⟨_, rfl⟩, q⟩⟩) hz')
  | obj => cases hp
section
variable {K : PySem.W.Frag} {A : Act}
theorem ca_repr3 : CaD K A (rRepr3 K) reprD3 := by
  intro G H vs ds Q s hp h
  unfold reprD3 at h
  split at h
  · split at h
    · rename_i d hk
      obtain ⟨v, rfl, r⟩ := Paired.one hp
      exact ⟨v, _, rfl, r.rp s.gh, hk, h _ _ _ s (.str _)⟩
    · exact h.elim
  · exact h.elim
end
end Eng

namespace Eng
open PySem PySem.Spec PyProof.Rows L2
mutual
/-- fit to be shown, dicts of few texts within -/
def D.fit3 : D → Bool
  | .tup l => fit3All l
  | .lst l => fit3All l
  | .dct ks vs => (D.dct ks vs).pure3 && ((D.dct ks vs).py3.showable && (decide ((D.dct ks vs).py3.shown.length ≤ 100) && decide ((D.dct ks vs).py3.depth ≤ 3)))
  | .obj _ => false
  | d => d.fit
def fit3All : List D → Bool
  | [] => true
  | d :: r => d.fit3 && fit3All r
end
mutual
def D.rz3 : D → Nat
  | .tup l => rz3All l + 4
  | .lst l => rz3All l + 4
  | .dct _ _ => 100
  | d => d.rz
def rz3All : List D → Nat
  | [] => 0
  | d :: r => d.rz3 + 2 + rz3All r
end
mutual
def D.dep3 : D → Nat
  | .tup l => dep3All l + 1
  | .lst l => dep3All l + 1
  | .dct _ _ => 3
  | d => d.dep
def dep3All : List D → Nat
  | [] => 0
  | d :: r => max d.dep3 (dep3All r)
end
theorem dct_fit3 {ks : List Key} {vs : List D} (h : (D.dct ks vs).fit3 = true) : (D.dct ks vs).pure3 = true ∧ (D.dct ks vs).py3.showable = true ∧ (D.dct ks vs).py3.shown.length ≤ 100 ∧ (D.dct ks vs).py3.depth ≤ 3 := by
  have h : ((D.dct ks vs).pure3 && ((D.dct ks vs).py3.showable && (decide ((D.dct ks vs).py3.shown.length ≤ 100) && decide ((D.dct ks vs).py3.depth ≤ 3)))) = true := h
  obtain ⟨h1, h2⟩ := Bool.and_eq_true_iff.mp h
  obtain ⟨h3, h4⟩ := Bool.and_eq_true_iff.mp h2
  obtain ⟨h5, h6⟩ := Bool.and_eq_true_iff.mp h4
  exact ⟨h1, h3, of_decide_eq_true h5, of_decide_eq_true h6⟩
mutual
theorem shown3_le : ∀ d : D, d.fit3 = true → d.py3.shown.length ≤ d.rz3
  | .non, _ => by decide
  | .bl b, _ => by cases b <;> decide
  | .int i, h => shown_le (.int i) h
  | .str x, h => shown_le (.str x) h
  | .lst l, h => by
    have := shown3All_le l h
    exact Nat.le_trans (listText_le _) (by show _ ≤ rz3All l + 4; omega)
  | .tup l, h => by
    have := shown3All_le l h
    exact Nat.le_trans (tupleText_le _) (by show _ ≤ rz3All l + 4; omega)
  | .dct ks vs, h => (dct_fit3 h).2.2.1
  | .obj _, h => by cases h
theorem shown3All_le : ∀ l : List D, fit3All l = true → piled (PyData.shownAll (py3All l)) ≤ rz3All l
  | [], _ => Nat.zero_le _
  | d :: r, h => by
    obtain ⟨h1, h2⟩ := Bool.and_eq_true_iff.mp (show (d.fit3 && fit3All r) = true from h)
    have a := shown3_le d h1
    have b := shown3All_le r h2
    show piled (d.py3.shown :: PyData.shownAll (py3All r)) ≤ d.rz3 + 2 + rz3All r
    rw [piled_cons]
    omega
end
mutual
theorem fit3_pure : ∀ d : D, d.fit3 = true → d.pure3 = true ∧ d.py3.showable = true ∧ d.py3.depth ≤ d.dep3
  | .non, _ => ⟨rfl, rfl, Nat.le_refl _⟩
  | .bl b, _ => ⟨rfl, rfl, Nat.le_refl _⟩
  | .int i, h => ⟨rfl, h, Nat.le_refl _⟩
  | .str x, _ => ⟨rfl, rfl, Nat.le_refl _⟩
  | .lst l, h => by
    obtain ⟨a, b, c⟩ := fit3All_pure l h
    exact ⟨a, b, by show PyData.depth (.list (py3All l)) ≤ dep3All l + 1; rw [PyData.depth.eq_def]; exact Nat.succ_le_succ c⟩
  | .tup l, h => by
    obtain ⟨a, b, c⟩ := fit3All_pure l h
    exact ⟨a, b, by show PyData.depth (.tuple (py3All l)) ≤ dep3All l + 1; rw [PyData.depth.eq_def]; exact Nat.succ_le_succ c⟩
  | .dct ks vs, h => by
    obtain ⟨a, b, _, c⟩ := dct_fit3 h
    exact ⟨a, b, c⟩
  | .obj _, h => by cases h
theorem fit3All_pure : ∀ l : List D, fit3All l = true → pure3All l = true ∧ PyData.showableAll (py3All l) = true ∧ PyData.depthAll (py3All l) ≤ dep3All l
  | [], _ => ⟨rfl, rfl, Nat.le_refl _⟩
  | d :: r, h => by
    obtain ⟨h1, h2⟩ := Bool.and_eq_true_iff.mp (show (d.fit3 && fit3All r) = true from h)
    obtain ⟨a1, b1, c1⟩ := fit3_pure d h1
    obtain ⟨a2, b2, c2⟩ := fit3All_pure r h2
    exact ⟨by show (d.pure3 && pure3All r) = true; rw [a1, a2]; rfl, by show (d.py3.showable && PyData.showableAll (py3All r)) = true; rw [b1, b2]; rfl, by
      show PyData.depthAll (d.py3 :: py3All r) ≤ max d.dep3 (dep3All r)
      rw [PyData.depthAll.eq_def]
      show max d.py3.depth _ ≤ _
      omega⟩
end
theorem repr_fit3 {d : D} (h : d.fit3 = true) (hz : d.rz3 ≤ 16777216) (hd : d.dep3 ≤ 64) : reprD3 [d] = T.ret (.str d.py3.shown) := by
  obtain ⟨a, b, c⟩ := fit3_pure d h
  show (if d.showOk3 = true then _ else _) = _
  rw [if_pos]
  unfold D.showOk3
  rw [a, b, decide_eq_true (Nat.le_trans c hd), decide_eq_true (Nat.le_trans (shown3_le d h) (by rw [sizeLine_eq]; exact hz))]
  rfl
end Eng

namespace Eng
open PySem PySem.Spec PyProof.Rows L2
open Evl (Ex)
def rEqNilL : R2 := fun x y H Q => ∃ a b xs, x = .ref a ∧ y = .ref b ∧ H a = some (.lst xs) ∧ H b = some (.lst []) ∧ Q (.bl xs.isEmpty) H
def rNeNilL : R2 := fun x y H Q => ∃ a b xs, x = .ref a ∧ y = .ref b ∧ H a = some (.lst xs) ∧ H b = some (.lst []) ∧ Q (.bl (!xs.isEmpty)) H
theorem op_eqNilL {X : Cx} (hu : X.A.units + 64 < cLine) : OpR X (compareOp .Eq) rEqNilL := by
  intro pins s σ H x y v u Q I rx ry h
  obtain ⟨a, b, xs, rfl, rfl, ha, hb, q⟩ := h
  cases rx; cases ry
  obtain ⟨_, its, n, r1, l1, o1⟩ := I.lstM ha
  obtain ⟨_, its2, n2, r2, l2, o2⟩ := I.lstM hb
  have t1 : s.heap.IsList a its.toArray := ⟨_, o1, rfl, n, rfl⟩
  have t2 : s.heap.IsList b its2.toArray := ⟨_, o2, rfl, n2, rfl⟩
  have hz : its2 = [] := by cases r2; rfl
  subst hz
  cases xs with
  | nil =>
    cases r1
    exact SeqAt.RcAt.lists (e := fun _ => true) t1 t2 rfl (by omega) (fun j h1 h2 => absurd h2 (Nat.not_lt_zero _)) _ _ _ _ ⟨.bl _, H, I, rfl, q⟩
  | cons z r =>
    cases r1
    exact SeqAt.RcAt.lists_lengths t1 t2 rfl (by omega) _ _ _ _ ⟨.bl _, H, I, rfl, q⟩
theorem op_neNilL {X : Cx} (hu : X.A.units + 64 < cLine) : OpR X (compareOp .NotEq) rNeNilL := by
  intro pins s σ H x y v u Q I rx ry h
  obtain ⟨a, b, xs, rfl, rfl, ha, hb, q⟩ := h
  cases rx; cases ry
  obtain ⟨_, its, n, r1, l1, o1⟩ := I.lstM ha
  obtain ⟨_, its2, n2, r2, l2, o2⟩ := I.lstM hb
  have t1 : s.heap.IsList a its.toArray := ⟨_, o1, rfl, n, rfl⟩
  have t2 : s.heap.IsList b its2.toArray := ⟨_, o2, rfl, n2, rfl⟩
  have hz : its2 = [] := by cases r2; rfl
  subst hz
  cases xs with
  | nil =>
    cases r1
    exact SeqAt.RcNeAt.lists (e := fun _ => true) t1 t2 rfl (by omega) (fun j h1 h2 => absurd h2 (Nat.not_lt_zero _)) _ _ _ _ ⟨.bl _, H, I, rfl, q⟩
  | cons z r =>
    cases r1
    exact SeqAt.RcNeAt.lists_lengths t1 t2 rfl (by omega) _ _ _ _ ⟨.bl _, H, I, rfl, q⟩
/-- == where [] stands behind it -/
def eqNilLD (a b : D) : T Bool := match a, b with
  | .lst l, .lst [] => .ret l.isEmpty
  | a, b => eqD a b
def neNilLD (a b : D) : T Bool := match a, b with
  | .lst l, .lst [] => .ret (!l.isEmpty)
  | a, b => neD a b
theorem op_eqAllL {X : Cx} (hu : X.A.units + 64 < cLine) : OpR X (compareOp .Eq) (fun x y H Q => rEqNilL x y H Q ∨ rEqAll X.K x y H Q) := (op_eqNilL hu).or (op_eqAll hu)
theorem op_neAllL {X : Cx} (hu : X.A.units + 64 < cLine) : OpR X (compareOp .NotEq) (fun x y H Q => rNeNilL x y H Q ∨ rNeAll X.K x y H Q) := (op_neNilL hu).or (op_neAll hu)
section
variable {K : PySem.W.Frag} {A : Act} {G H : Hp}
theorem Rp.lstV {v : V} {l : List D} (h : Rp K G v (.lst l)) : ∃ a xs, v = .ref a ∧ G a = some (.lst xs) ∧ xs.isEmpty = l.isEmpty := by
  cases h with
  | lst ht ha =>
    refine ⟨_, _, rfl, ht, ?_⟩
    cases ha <;> rfl
theorem Rp.lst0 {v : V} (h : Rp K G v (.lst [])) : ∃ a, v = .ref a ∧ G a = some (.lst []) := by
  cases h with
  | lst ht ha =>
    cases ha
    exact ⟨_, rfl, ht⟩
theorem opC_eqL : OpC K A (fun x y H Q => rEqNilL x y H Q ∨ rEqAll K x y H Q) eqNilLD := by
  intro G H x y dx dy Q s hx hy h
  unfold eqNilLD at h
  split at h
  · obtain ⟨a, xs, e1, t1, e⟩ := (hx.rp s.gh).lstV
    obtain ⟨b, e2, t2⟩ := (hy.rp s.gh).lst0
    refine .inl ⟨a, b, xs, e1, e2, t1, t2, ?_⟩
    rw [e]; exact h
  · exact .inr (opC_eq _ _ _ _ _ _ _ s hx hy h)
theorem opC_neL : OpC K A (fun x y H Q => rNeNilL x y H Q ∨ rNeAll K x y H Q) neNilLD := by
  intro G H x y dx dy Q s hx hy h
  unfold neNilLD at h
  split at h
  · obtain ⟨a, xs, e1, t1, e⟩ := (hx.rp s.gh).lstV
    obtain ⟨b, e2, t2⟩ := (hy.rp s.gh).lst0
    refine .inl ⟨a, b, xs, e1, e2, t1, t2, ?_⟩
    rw [e]; exact h
  · exact .inr (opC_ne _ _ _ _ _ _ _ s hx hy h)
end
@[simp] theorem eqL_nil (l : List D) : eqNilLD (.lst l) (.lst []) = T.ret l.isEmpty := rfl
@[simp] theorem neL_nil (l : List D) : neNilLD (.lst l) (.lst []) = T.ret (!l.isEmpty) := rfl
end Eng

namespace Eng
open PySem PySem.Spec PyProof.Rows L2
open Evl (Ex)
section
variable {K : PySem.W.Frag} {A : Act} {X : Cx} {G H : Hp} {a b c e : Expr} {p pos tpos : Pos} {elts : List Expr} {kk : Nat} {wsl : Env → T (List D)}
def zipOfA : List D → T (List D)
  | [.lst l, .lst m] => .ret (zipD l m)
  | [.tup l, .tup m] => .ret (zipD l m)
  | _ => .fail
theorem yld_zipT {a b : Addr} {vs us : List V} {ds es : List D} (r : RpAll K G vs ds) (r2 : RpAll K G us es) : Yld K A (RZ.ItzT K a b) G (fun H => SqT K H a vs ∧ SqT K H b us) (zipD ds es) where
  go := fun i H1 h hi => by
    rw [zipD_length] at hi
    exact ⟨vs, us, vs[i]'(by rw [r.length]; omega), us[i]'(by rw [r2.length]; omega), h.1, h.2, by simp, by simp⟩
  stop := fun i H1 h hi => by
    rw [zipD_length] at hi
    refine ⟨vs, us, h.1, h.2, ?_⟩
    rw [r.length, r2.length]
    omega
  item := fun i d G1 H1 x H2 e s h hd y => by
    obtain ⟨T, u, v, rfl, hT, rfl, y1, y2⟩ := y
    obtain ⟨z, z2, hz, hz2, rfl⟩ := zipD_get hd
    obtain ⟨v', h1, h2⟩ := r.get hz
    obtain ⟨u', h3, h4⟩ := r2.get hz2
    have q1 := y1 vs h.1
    have q2 := y2 us h.2
    rw [h1] at q1
    rw [h3] at q2
    cases q1
    cases q2
    exact ⟨_, s.alloc hT, .tup (SqT.of upd_same) (.cons ((h2.mono e).mono (Ex.new (s.gnone hT))) (.cons ((h4.mono e).mono (Ex.new (s.gnone hT))) .nil))⟩
theorem i_zipAB (hg : Gl X "zip") (hm : X.mg "zip" = none) (ha : PA X [a, b] (rdAB X.K A wsl)) (hs : starEach [a, b] X.env = (false, eval a X.env) :: starEach [b] X.env := by rfl) (hpl : (backTo pos (starEach [b] X.env)).any (·.1) = false := by rfl) :
    PI X (.Tuple elts kk tpos) (.Call (.Name "zip" p) [a, b] [] pos) (rdIB X.K A (dC zipOfA wsl)) := ((RZ.pi_zipA hg hm ha hs hpl).hok).imp fun σ H R h => by
  obtain ⟨G, env, Re, h⟩ := h
  refine ⟨G, env, Re, wp_imp (wp_bind.mp h) fun ds q vs G1 H1 e1 r1 => ?_⟩
  unfold zipOfA at q
  split at q
  · rename_i l m
    obtain ⟨v, u, rfl, r, r2⟩ := Paired.two r1
    obtain ⟨pp, us, rfl, h1, h2⟩ := r.lst e1.gh
    obtain ⟨pq, us2, rfl, h3, h4⟩ := r2.lst e1.gh
    refine ⟨pp, pq, us, us2, rfl, .inl ⟨SqL.of h1, SqL.of h3, fun ⟨hp, ok, hk⟩ => q _ G1 H1 e1 ⟨_, yld_zip h2 h4, fun G2 H2 e2 => ⟨r.stayL (v := .non) h1 e1.refl' e2, r2.stayL (v := .non) h3 e1.refl' e2⟩⟩ ?_⟩⟩
    rw [zipD_length, ← h2.length]
    exact Nat.le_trans (Nat.min_le_left _ _) (ok pp _ h1).1
  · rename_i l m
    obtain ⟨v, u, rfl, r, r2⟩ := Paired.two r1
    cases r with
    | own a b c => cases c
    | of r =>
      cases r2 with
      | own a b c => cases c
      | of r2 =>
        cases r with
        | @tup pp us _ a b =>
          cases r2 with
          | @tup pq us2 _ a2 b2 =>
            refine ⟨pp, pq, us, us2, rfl, .inr ⟨Evl.ex_t e1.gh a, Evl.ex_t e1.gh a2, fun ⟨hp, ok, hk⟩ => q _ G1 H1 e1 ⟨_, yld_zipT b b2, fun G2 H2 e2 => ⟨Evl.ex_t (e2.gg.trans e2.gh) a, Evl.ex_t (e2.gg.trans e2.gh) a2⟩⟩ ?_⟩⟩
            rw [zipD_length, ← b.length]
            exact Nat.le_trans (Nat.min_le_left _ _) (sqT_len ok hk (Evl.ex_t e1.gh a))
  · exact q.elim
theorem i_zipA {n : Nat} (hg : Gl X "zip") (hm : X.mg "zip" = none) (ha : PA X [a, b] (rdA X.K A n wsl)) (hs : starEach [a, b] X.env = (false, eval a X.env) :: starEach [b] X.env := by rfl) (hpl : (backTo pos (starEach [b] X.env)).any (·.1) = false := by rfl) :
    PI X (.Tuple elts kk tpos) (.Call (.Name "zip" p) [a, b] [] pos) (rdI X.K A (dC zipOfA wsl)) := ((RZ.pi_zipA hg hm ha hs hpl).hok).imp fun σ H R h => by
  obtain ⟨G, env, Re, h⟩ := h
  refine ⟨G, env, Re, wp_imp (wp_bind.mp h) fun ds q vs G1 H1 e1 r1 l1 => ?_⟩
  unfold zipOfA at q
  split at q
  · rename_i l m
    cases r1 with
    | cons r rr =>
      cases rr with
      | cons r2 rr =>
        cases rr
        have r' := r
        have r2' := r2
        cases r with
        | @lst pp us _ a b =>
          cases r2 with
          | @lst pq us2 _ a2 b2 =>
            have h1 := e1.gh _ _ a
            have h2 := e1.gh _ _ a2
            refine ⟨pp, pq, us, us2, rfl, .inl ⟨SqL.of h1, SqL.of h2, fun ⟨hp, ok, hk⟩ => q _ G1 H1 e1 ⟨_, yld_zip b b2, fun H2 e2 => ⟨r'.stayL h1 e1.gh e2, r2'.stayL h2 e1.gh e2⟩⟩ ?_⟩⟩
            rw [zipD_length, ← b.length]
            exact Nat.le_trans (Nat.min_le_left _ _) (ok pp _ h1).1
  · rename_i l m
    cases r1 with
    | cons r rr =>
      cases rr with
      | cons r2 rr =>
        cases rr
        cases r with
        | @tup pp us _ a b =>
          cases r2 with
          | @tup pq us2 _ a2 b2 =>
            refine ⟨pp, pq, us, us2, rfl, .inr ⟨Evl.ex_t e1.gh a, Evl.ex_t e1.gh a2, fun ⟨hp, ok, hk⟩ => q _ G1 H1 e1 ⟨_, yld_zipT b b2, fun H2 e2 => ⟨Evl.ex_t e2 a, Evl.ex_t e2 a2⟩⟩ ?_⟩⟩
            rw [zipD_length, ← b.length]
            exact Nat.le_trans (Nat.min_le_left _ _) (sqT_len ok hk (Evl.ex_t e1.gh a))
  · exact q.elim
end
end Eng

namespace Eng
open PySem PySem.Spec PyProof.Rows L2
theorem ixN_nat {n i : Nat} (h : i < n) : ixN n (i : Int) = some i := by
  unfold ixN
  rw [if_pos (by omega), if_pos (by omega)]
  exact congrArg some (by omega)
theorem atI_at {l : List D} {i : Nat} {d : D} (h : l[i]? = some d) : atI l (i : Int) = some d := by
  unfold atI
  have hl := (List.getElem?_eq_some_iff.mp h).1
  rw [ixN_nat hl]
  exact h
theorem ixT {l : List D} {i : Nat} {d : D} (h : l[i]? = some d) : ixD (.tup l) (.int (i : Int)) = T.ret d := by
  show (match atI l (i : Int) with | some d => T.ret d | none => T.fail) = _
  rw [atI_at h]
theorem ixL {l : List D} {i : Nat} {d : D} (h : l[i]? = some d) : ixD (.lst l) (.int (i : Int)) = T.ret d := by
  show (match atI l (i : Int) with | some d => T.ret d | none => T.fail) = _
  rw [atI_at h]
theorem cutD_take (xs : List D) (i : Nat) : Eng.cutD xs none (some (i : Int)) = xs.take i := by
  unfold Eng.cutD
  rw [HT.sIx_none, HT.sIx_nat, List.drop_zero, Nat.sub_zero]
  rcases Nat.le_total i xs.length with h | h
  · rw [Nat.min_eq_left h]
  · rw [Nat.min_eq_right h, List.take_length, List.take_of_length_le h]
theorem cutD_drop (xs : List D) (i : Nat) : Eng.cutD xs (some (i : Int)) none = xs.drop i := by
  unfold Eng.cutD
  rw [HT.sIx_none, HT.sIx_nat]
  rcases Nat.le_total i xs.length with h | h
  · rw [Nat.min_eq_left h, List.take_of_length_le (by rw [List.length_drop]; omega)]
  · rw [Nat.min_eq_right h, List.drop_eq_nil_of_le (Nat.le_refl _), List.drop_eq_nil_of_le h, List.take_nil]
theorem cutD_mid (xs : List D) (i j : Nat) (hi : i ≤ xs.length) (hj : j ≤ xs.length) : Eng.cutD xs (some (i : Int)) (some (j : Int)) = (xs.drop i).take (j - i) := by
  unfold Eng.cutD
  rw [HT.sIx_nat, HT.sIx_nat, Nat.min_eq_left hi, Nat.min_eq_left hj]
theorem slT_take (l : List D) (i : Nat) : slD (.tup l) none (some (i : Int)) = T.ret (.tup (l.take i)) := by
  show T.ret (D.tup (Eng.cutD l none (some (i : Int)))) = _
  rw [cutD_take]
theorem slT_drop (l : List D) (i : Nat) : slD (.tup l) (some (i : Int)) none = T.ret (.tup (l.drop i)) := by
  show T.ret (D.tup (Eng.cutD l (some (i : Int)) none)) = _
  rw [cutD_drop]
theorem slT_drop1 (l : List D) (i : Nat) : slD (.tup l) (some ((i : Int) + 1)) none = T.ret (.tup (l.drop (i + 1))) := slT_drop l (i + 1)
theorem slL_take (l : List D) (i : Nat) : slD (.lst l) none (some (i : Int)) = T.ret (.lst (l.take i)) := by
  show T.ret (D.lst (Eng.cutD l none (some (i : Int)))) = _
  rw [cutD_take]
theorem slL_drop (l : List D) (i : Nat) : slD (.lst l) (some (i : Int)) none = T.ret (.lst (l.drop i)) := by
  show T.ret (D.lst (Eng.cutD l (some (i : Int)) none)) = _
  rw [cutD_drop]
theorem slL_drop1 (l : List D) (i : Nat) : slD (.lst l) (some ((i : Int) + 1)) none = T.ret (.lst (l.drop (i + 1))) := slL_drop l (i + 1)
theorem addTT {l m : List D} (h : l.length + m.length ≤ 10000000) : addD (.tup l) (.tup m) = T.ret (.tup (l ++ m)) := by
  show (if l.length + m.length ≤ sizeLine then _ else _) = _
  rw [if_pos (by rw [sizeLine_eq]; omega)]
theorem addLL {l m : List D} (h : l.length + m.length ≤ 10000000) : addD (.lst l) (.lst m) = T.ret (.lst (l ++ m)) := by
  show (if l.length + m.length ≤ sizeLine then _ else _) = _
  rw [if_pos (by rw [sizeLine_eq]; omega)]
theorem flat_one {α : Type} (d : α) : ∀ k : Nat, (List.replicate k [d]).flatten = List.replicate k d
  | 0 => rfl
  | k + 1 => by rw [List.replicate_succ, List.replicate_succ, List.flatten_cons, flat_one d k]; rfl
theorem repT (d : D) (k : Nat) (h : k ≤ 1000) : mulD (.tup [d]) (.int (k : Int)) = T.ret (.tup (List.replicate k d)) := by
  unfold mulD
  simp only
  by_cases h1 : k = 1
  · subst h1
    rw [if_pos ⟨.inr rfl, by decide, by decide⟩]
    rfl
  · rw [if_neg (by rintro ⟨a | a, _⟩; exact absurd a (by simp); omega)]
    by_cases h0 : k = 0
    · subst h0
      rw [if_pos ⟨by simp, by decide, by decide⟩]
      rfl
    · rw [if_neg (by rintro ⟨_, a, _⟩; omega), if_pos ⟨by simp, by omega, by omega, by simp⟩, Int.toNat_natCast, flat_one]
@[simp] theorem ap_dSetIx (i : Nat) (w u : Env → T D) (env : Env) : dSetIx i w u env = w env >>= fun d => ownL env i >>= fun l => u env >>= asInt >>= fun k => match ixN l.length k with
  | some j => T.ret (.nx (env.set i (.own (.lst (l.set j d)))))
  | none => T.fail := rfl
theorem listL (l : List D) : listN [.lst l] = T.ret l := rfl
theorem listT (l : List D) : listN [.tup l] = T.ret l := rfl
theorem tupL (l : List D) : tupleD [.lst l] = T.ret (.tup l) := rfl
theorem tupT (l : List D) : tupleD [.tup l] = T.ret (.tup l) := rfl
theorem popAt_nat {env : Env} {i : Nat} {w : Env → T D} {l : List D} {a : Nat} {d : D} (h1 : ownL env i = T.ret l) (h2 : w env = T.ret (.int (a : Int))) (h3 : l[a]? = some d) (h4 : a < 1000000) : popAt i w env = T.ret (d, env.set i (.own (.lst (l.eraseIdx a)))) := by
  have h5 := takeAt_nat h3 h4
  rw [ap_popAt, h1, ret_bind, h2, ret_bind, ap_asInt, ret_bind, h5]
theorem wq_popAt {a0 : Addr} {env : Env} {i : Nat} {w : Env → T D} {l : List D} {Q : D × Env → Prop} {E : Str → List D → Prop} (h1 : ownL env i = T.ret l) (h2 : w env = drawT a0 [.obj a0, .int (l.length : Int)]) (h3 : l ≠ []) (h4 : l.length < 1000000) (h : ∀ (j : Nat) (d : D), l[j]? = some d → Q (d, env.set i (.own (.lst (l.eraseIdx j))))) : wq (popAt i w env) Q E := by
  have hpos := List.length_pos_iff.mpr h3
  rw [ap_popAt, h1, ret_bind, h2, bind_assoc']
  refine wq_drawN (by omega) (by omega) fun j hj => ?_
  have hj' : j < l.length := by omega
  have h5 := takeAt_nat (List.getElem?_eq_getElem hj') (by omega)
  rw [ap_asInt, ret_bind, h5]
  exact wq_ret.mpr (h j _ (List.getElem?_eq_getElem hj'))
end Eng

namespace Law
open PySem PySem.Spec PyProof.Rows L2 Eng
def topS (i : Nat) : Stmt := PySem.Challenge.pw_boxlaws_k01_inverse_and_what_is_a_flat.main.body.getD i (.Pass ⟨0, 0, 0, 0⟩)
abbrev s_l_deck : Stmt := topS 14
abbrev n_l_deck : List Str := ["_law_script", "_law_cells", "_law_cell"]
abbrev p_l_deck : List Str := ["_law_script"]
theorem sc_l_deck : FnScope n_l_deck p_l_deck (defScope s_l_deck) := ⟨rfl, rfl, rfl, by decide +kernel, rfl, by decide +kernel, by decide +kernel⟩
theorem bn_l_deck (kV doc pm : Value) (an : Option Addr) (cdv ct : Value) (us : List Value) (h : us.length = p_l_deck.length) : bindArgs (PySem.W.fnOf "_law_deck" "_law_deck" (defArgs s_l_deck) (defBody s_l_deck) (defScope s_l_deck) .none kV doc pm an cdv ct) ⟨us, []⟩ = pure (p_l_deck.zip us) := match us, h with | [a0], _ => rfl
abbrev s_l_draw : Stmt := topS 15
abbrev n_l_draw : List Str := ["_law_deck_here", "_law_size", "_law_cell", "_law_turn", "_law_mixed"]
abbrev p_l_draw : List Str := ["_law_deck_here", "_law_size"]
theorem sc_l_draw : FnScope n_l_draw p_l_draw (defScope s_l_draw) := ⟨rfl, rfl, rfl, by decide +kernel, rfl, by decide +kernel, by decide +kernel⟩
theorem bn_l_draw (kV doc pm : Value) (an : Option Addr) (cdv ct : Value) (us : List Value) (h : us.length = p_l_draw.length) : bindArgs (PySem.W.fnOf "_law_draw" "_law_draw" (defArgs s_l_draw) (defBody s_l_draw) (defScope s_l_draw) .none kV doc pm an cdv ct) ⟨us, []⟩ = pure (p_l_draw.zip us) := match us, h with | [a0, a1], _ => rfl
abbrev s_l_order : Stmt := topS 17
abbrev n_l_order : List Str := ["_law_deck_here", "_law_items", "_law_rest", "_law_found", "_law_turn"]
abbrev p_l_order : List Str := ["_law_deck_here", "_law_items"]
theorem sc_l_order : FnScope n_l_order p_l_order (defScope s_l_order) := ⟨rfl, rfl, rfl, by decide +kernel, rfl, by decide +kernel, by decide +kernel⟩
theorem bn_l_order (kV doc pm : Value) (an : Option Addr) (cdv ct : Value) (us : List Value) (h : us.length = p_l_order.length) : bindArgs (PySem.W.fnOf "_law_order" "_law_order" (defArgs s_l_order) (defBody s_l_order) (defScope s_l_order) .none kV doc pm an cdv ct) ⟨us, []⟩ = pure (p_l_order.zip us) := match us, h with | [a0, a1], _ => rfl
abbrev s_l_pick : Stmt := topS 16
abbrev n_l_pick : List Str := ["_law_deck_here", "_law_items"]
abbrev p_l_pick : List Str := ["_law_deck_here", "_law_items"]
theorem sc_l_pick : FnScope n_l_pick p_l_pick (defScope s_l_pick) := ⟨rfl, rfl, rfl, by decide +kernel, rfl, by decide +kernel, by decide +kernel⟩
theorem bn_l_pick (kV doc pm : Value) (an : Option Addr) (cdv ct : Value) (us : List Value) (h : us.length = p_l_pick.length) : bindArgs (PySem.W.fnOf "_law_pick" "_law_pick" (defArgs s_l_pick) (defBody s_l_pick) (defScope s_l_pick) .none kV doc pm an cdv ct) ⟨us, []⟩ = pure (p_l_pick.zip us) := match us, h with | [a0, a1], _ => rfl
abbrev s_l_lead : Stmt := topS 21
abbrev n_l_lead : List Str := ["_law_item_here", "_law_at", "_law_own"]
abbrev p_l_lead : List Str := ["_law_item_here"]
theorem sc_l_lead : FnScope n_l_lead p_l_lead (defScope s_l_lead) := ⟨rfl, rfl, rfl, by decide +kernel, rfl, by decide +kernel, by decide +kernel⟩
theorem bn_l_lead (kV doc pm : Value) (an : Option Addr) (cdv ct : Value) (us : List Value) (h : us.length = p_l_lead.length) : bindArgs (PySem.W.fnOf "_law_lead" "_law_lead" (defArgs s_l_lead) (defBody s_l_lead) (defScope s_l_lead) .none kV doc pm an cdv ct) ⟨us, []⟩ = pure (p_l_lead.zip us) := match us, h with | [a0], _ => rfl
abbrev s_l_is_integer : Stmt := topS 19
abbrev n_l_is_integer : List Str := ["_law_thing"]
abbrev p_l_is_integer : List Str := ["_law_thing"]
theorem sc_l_is_integer : FnScope n_l_is_integer p_l_is_integer (defScope s_l_is_integer) := ⟨rfl, rfl, rfl, by decide +kernel, rfl, by decide +kernel, by decide +kernel⟩
theorem bn_l_is_integer (kV doc pm : Value) (an : Option Addr) (cdv ct : Value) (us : List Value) (h : us.length = p_l_is_integer.length) : bindArgs (PySem.W.fnOf "_law_is_integer" "_law_is_integer" (defArgs s_l_is_integer) (defBody s_l_is_integer) (defScope s_l_is_integer) .none kV doc pm an cdv ct) ⟨us, []⟩ = pure (p_l_is_integer.zip us) := match us, h with | [a0], _ => rfl
abbrev s_l_is_row : Stmt := topS 20
abbrev n_l_is_row : List Str := ["_law_base", "_law_size", "_law_thing", "_law_own"]
abbrev p_l_is_row : List Str := ["_law_base", "_law_size", "_law_thing"]
theorem sc_l_is_row : FnScope n_l_is_row p_l_is_row (defScope s_l_is_row) := ⟨rfl, rfl, rfl, by decide +kernel, rfl, by decide +kernel, by decide +kernel⟩
theorem bn_l_is_row (kV doc pm : Value) (an : Option Addr) (cdv ct : Value) (us : List Value) (h : us.length = p_l_is_row.length) : bindArgs (PySem.W.fnOf "_law_is_row" "_law_is_row" (defArgs s_l_is_row) (defBody s_l_is_row) (defScope s_l_is_row) .none kV doc pm an cdv ct) ⟨us, []⟩ = pure (p_l_is_row.zip us) := match us, h with | [a0, a1, a2], _ => rfl
abbrev s_l_due : Stmt := topS 22
abbrev n_l_due : List Str := ["_law_thing", "_law_base", "_law_size", "_law_lot", "_law_at", "_law_item_here", "_law_leads", "_law_lead_here", "_law_to"]
abbrev p_l_due : List Str := ["_law_thing"]
theorem sc_l_due : FnScope n_l_due p_l_due (defScope s_l_due) := ⟨rfl, rfl, rfl, by decide +kernel, rfl, by decide +kernel, by decide +kernel⟩
theorem bn_l_due (kV doc pm : Value) (an : Option Addr) (cdv ct : Value) (us : List Value) (h : us.length = p_l_due.length) : bindArgs (PySem.W.fnOf "_law_due" "_law_due" (defArgs s_l_due) (defBody s_l_due) (defScope s_l_due) .none kV doc pm an cdv ct) ⟨us, []⟩ = pure (p_l_due.zip us) := match us, h with | [a0], _ => rfl
abbrev s_lead_of : Stmt := topS 10
abbrev n_lead_of : List Str := ["row", "place"]
abbrev p_lead_of : List Str := ["row"]
theorem sc_lead_of : FnScope n_lead_of p_lead_of (defScope s_lead_of) := ⟨rfl, rfl, rfl, by decide +kernel, rfl, by decide +kernel, by decide +kernel⟩
theorem bn_lead_of (kV doc pm : Value) (an : Option Addr) (cdv ct : Value) (us : List Value) (h : us.length = p_lead_of.length) : bindArgs (PySem.W.fnOf "lead_of" "lead_of" (defArgs s_lead_of) (defBody s_lead_of) (defScope s_lead_of) .none kV doc pm an cdv ct) ⟨us, []⟩ = pure (p_lead_of.zip us) := match us, h with | [a0], _ => rfl
abbrev s_stairs_error : Stmt := topS 11
abbrev n_stairs_error : List Str := ["rows", "leads", "row", "place", "further"]
abbrev p_stairs_error : List Str := ["rows"]
theorem sc_stairs_error : FnScope n_stairs_error p_stairs_error (defScope s_stairs_error) := ⟨rfl, rfl, rfl, by decide +kernel, rfl, by decide +kernel, by decide +kernel⟩
theorem bn_stairs_error (kV doc pm : Value) (an : Option Addr) (cdv ct : Value) (us : List Value) (h : us.length = p_stairs_error.length) : bindArgs (PySem.W.fnOf "stairs_error" "stairs_error" (defArgs s_stairs_error) (defBody s_stairs_error) (defScope s_stairs_error) .none kV doc pm an cdv ct) ⟨us, []⟩ = pure (p_stairs_error.zip us) := match us, h with | [a0], _ => rfl
abbrev s_is_below : Stmt := topS 8
abbrev n_is_below : List Str := ["value", "limit"]
abbrev p_is_below : List Str := ["value", "limit"]
theorem sc_is_below : FnScope n_is_below p_is_below (defScope s_is_below) := ⟨rfl, rfl, rfl, by decide +kernel, rfl, by decide +kernel, by decide +kernel⟩
theorem bn_is_below (kV doc pm : Value) (an : Option Addr) (cdv ct : Value) (us : List Value) (h : us.length = p_is_below.length) : bindArgs (PySem.W.fnOf "is_below" "is_below" (defArgs s_is_below) (defBody s_is_below) (defScope s_is_below) .none kV doc pm an cdv ct) ⟨us, []⟩ = pure (p_is_below.zip us) := match us, h with | [a0, a1], _ => rfl
abbrev s_is_row : Stmt := topS 9
abbrev n_is_row : List Str := ["prime", "ends", "value", "number"]
abbrev p_is_row : List Str := ["prime", "ends", "value"]
theorem sc_is_row : FnScope n_is_row p_is_row (defScope s_is_row) := ⟨rfl, rfl, rfl, by decide +kernel, rfl, by decide +kernel, by decide +kernel⟩
theorem bn_is_row (kV doc pm : Value) (an : Option Addr) (cdv ct : Value) (us : List Value) (h : us.length = p_is_row.length) : bindArgs (PySem.W.fnOf "is_row" "is_row" (defArgs s_is_row) (defBody s_is_row) (defScope s_is_row) .none kV doc pm an cdv ct) ⟨us, []⟩ = pure (p_is_row.zip us) := match us, h with | [a0, a1, a2], _ => rfl
abbrev s_flat_error : Stmt := topS 12
abbrev n_flat_error : List Str := ["value", "prime", "ends", "rows", "place"]
abbrev p_flat_error : List Str := ["value"]
theorem sc_flat_error : FnScope n_flat_error p_flat_error (defScope s_flat_error) := ⟨rfl, rfl, rfl, by decide +kernel, rfl, by decide +kernel, by decide +kernel⟩
theorem bn_flat_error (kV doc pm : Value) (an : Option Addr) (cdv ct : Value) (us : List Value) (h : us.length = p_flat_error.length) : bindArgs (PySem.W.fnOf "flat_error" "flat_error" (defArgs s_flat_error) (defBody s_flat_error) (defScope s_flat_error) .none kV doc pm an cdv ct) ⟨us, []⟩ = pure (p_flat_error.zip us) := match us, h with | [a0], _ => rfl
abbrev s_l_is_told : Stmt := topS 29
abbrev n_l_is_told : List Str := ["_law_thing", "_law_known", "_law_due_here", "_law_told"]
abbrev p_l_is_told : List Str := ["_law_thing"]
theorem sc_l_is_told : FnScope n_l_is_told p_l_is_told (defScope s_l_is_told) := ⟨rfl, rfl, rfl, by decide +kernel, rfl, by decide +kernel, by decide +kernel⟩
theorem bn_l_is_told (kV doc pm : Value) (an : Option Addr) (cdv ct : Value) (us : List Value) (h : us.length = p_l_is_told.length) : bindArgs (PySem.W.fnOf "_law_is_told" "_law_is_told" (defArgs s_l_is_told) (defBody s_l_is_told) (defScope s_l_is_told) .none kV doc pm an cdv ct) ⟨us, []⟩ = pure (p_l_is_told.zip us) := match us, h with | [a0], _ => rfl
abbrev s_inverse : Stmt := topS 6
abbrev n_inverse : List Str := ["prime", "number", "other"]
abbrev p_inverse : List Str := ["prime", "number"]
theorem sc_inverse : FnScope n_inverse p_inverse (defScope s_inverse) := ⟨rfl, rfl, rfl, by decide +kernel, rfl, by decide +kernel, by decide +kernel⟩
theorem bn_inverse (kV doc pm : Value) (an : Option Addr) (cdv ct : Value) (us : List Value) (h : us.length = p_inverse.length) : bindArgs (PySem.W.fnOf "inverse" "inverse" (defArgs s_inverse) (defBody s_inverse) (defScope s_inverse) .none kV doc pm an cdv ct) ⟨us, []⟩ = pure (p_inverse.zip us) := match us, h with | [a0, a1], _ => rfl
abbrev s_l_inverted : Stmt := topS 31
abbrev n_l_inverted : List Str := ["_law_base", "_law_own"]
abbrev p_l_inverted : List Str := ["_law_base", "_law_own"]
theorem sc_l_inverted : FnScope n_l_inverted p_l_inverted (defScope s_l_inverted) := ⟨rfl, rfl, rfl, by decide +kernel, rfl, by decide +kernel, by decide +kernel⟩
theorem bn_l_inverted (kV doc pm : Value) (an : Option Addr) (cdv ct : Value) (us : List Value) (h : us.length = p_l_inverted.length) : bindArgs (PySem.W.fnOf "_law_inverted" "_law_inverted" (defArgs s_l_inverted) (defBody s_l_inverted) (defScope s_l_inverted) .none kV doc pm an cdv ct) ⟨us, []⟩ = pure (p_l_inverted.zip us) := match us, h with | [a0, a1], _ => rfl
abbrev s_l_is_inverse : Stmt := topS 32
abbrev n_l_is_inverse : List Str := ["_law_base", "_law_own", "_law_due_here", "_law_mate"]
abbrev p_l_is_inverse : List Str := []
theorem sc_l_is_inverse : FnScope n_l_is_inverse p_l_is_inverse (defScope s_l_is_inverse) := ⟨rfl, rfl, rfl, by decide +kernel, rfl, by decide +kernel, by decide +kernel⟩
theorem bn_l_is_inverse (kV doc pm : Value) (an : Option Addr) (cdv ct : Value) (us : List Value) (h : us.length = p_l_is_inverse.length) : bindArgs (PySem.W.fnOf "_law_is_inverse" "_law_is_inverse" (defArgs s_l_is_inverse) (defBody s_l_is_inverse) (defScope s_l_is_inverse) .none kV doc pm an cdv ct) ⟨us, []⟩ = pure (p_l_is_inverse.zip us) := match us, h with | [], _ => rfl
abbrev s_l_flat : Stmt := topS 18
abbrev n_l_flat : List Str := ["_law_deck_here", "_law_base", "_law_size", "_law_share", "_law_found", "_law_leads", "_law_at", "_law_lead_here", "_law_own"]
abbrev p_l_flat : List Str := ["_law_deck_here", "_law_base", "_law_size"]
theorem sc_l_flat : FnScope n_l_flat p_l_flat (defScope s_l_flat) := ⟨rfl, rfl, rfl, by decide +kernel, rfl, by decide +kernel, by decide +kernel⟩
theorem bn_l_flat (kV doc pm : Value) (an : Option Addr) (cdv ct : Value) (us : List Value) (h : us.length = p_l_flat.length) : bindArgs (PySem.W.fnOf "_law_flat" "_law_flat" (defArgs s_l_flat) (defBody s_l_flat) (defScope s_l_flat) .none kV doc pm an cdv ct) ⟨us, []⟩ = pure (p_l_flat.zip us) := match us, h with | [a0, a1, a2], _ => rfl
abbrev s_l_drawn : Stmt := topS 24
abbrev n_l_drawn : List Str := ["_law_deck_here", "_law_base", "_law_size", "_law_at"]
abbrev p_l_drawn : List Str := ["_law_deck_here", "_law_base", "_law_size"]
theorem sc_l_drawn : FnScope n_l_drawn p_l_drawn (defScope s_l_drawn) := ⟨rfl, rfl, rfl, by decide +kernel, rfl, by decide +kernel, by decide +kernel⟩
theorem bn_l_drawn (kV doc pm : Value) (an : Option Addr) (cdv ct : Value) (us : List Value) (h : us.length = p_l_drawn.length) : bindArgs (PySem.W.fnOf "_law_drawn" "_law_drawn" (defArgs s_l_drawn) (defBody s_l_drawn) (defScope s_l_drawn) .none kV doc pm an cdv ct) ⟨us, []⟩ = pure (p_l_drawn.zip us) := match us, h with | [a0, a1, a2], _ => rfl
abbrev s_l_sum : Stmt := topS 25
abbrev n_l_sum : List Str := ["_law_base", "_law_item_here", "_law_mate", "_law_a", "_law_b"]
abbrev p_l_sum : List Str := ["_law_base", "_law_item_here", "_law_mate"]
theorem sc_l_sum : FnScope n_l_sum p_l_sum (defScope s_l_sum) := ⟨rfl, rfl, rfl, by decide +kernel, rfl, by decide +kernel, by decide +kernel⟩
theorem bn_l_sum (kV doc pm : Value) (an : Option Addr) (cdv ct : Value) (us : List Value) (h : us.length = p_l_sum.length) : bindArgs (PySem.W.fnOf "_law_sum" "_law_sum" (defArgs s_l_sum) (defBody s_l_sum) (defScope s_l_sum) .none kV doc pm an cdv ct) ⟨us, []⟩ = pure (p_l_sum.zip us) := match us, h with | [a0, a1, a2], _ => rfl
abbrev s_l_odd : Stmt := topS 23
abbrev n_l_odd : List Str := ["_law_deck_here", "_law_odd_here"]
abbrev p_l_odd : List Str := ["_law_deck_here"]
theorem sc_l_odd : FnScope n_l_odd p_l_odd (defScope s_l_odd) := ⟨rfl, rfl, rfl, by decide +kernel, rfl, by decide +kernel, by decide +kernel⟩
theorem bn_l_odd (kV doc pm : Value) (an : Option Addr) (cdv ct : Value) (us : List Value) (h : us.length = p_l_odd.length) : bindArgs (PySem.W.fnOf "_law_odd" "_law_odd" (defArgs s_l_odd) (defBody s_l_odd) (defScope s_l_odd) .none kV doc pm an cdv ct) ⟨us, []⟩ = pure (p_l_odd.zip us) := match us, h with | [a0], _ => rfl
abbrev s_l_item : Stmt := topS 26
abbrev n_l_item : List Str := ["_law_deck_here", "_law_base", "_law_item_here", "_law_turn", "_law_at", "_law_own", "_law_changed", "_law_fresh"]
abbrev p_l_item : List Str := ["_law_deck_here", "_law_base", "_law_item_here"]
theorem sc_l_item : FnScope n_l_item p_l_item (defScope s_l_item) := ⟨rfl, rfl, rfl, by decide +kernel, rfl, by decide +kernel, by decide +kernel⟩
theorem bn_l_item (kV doc pm : Value) (an : Option Addr) (cdv ct : Value) (us : List Value) (h : us.length = p_l_item.length) : bindArgs (PySem.W.fnOf "_law_item" "_law_item" (defArgs s_l_item) (defBody s_l_item) (defScope s_l_item) .none kV doc pm an cdv ct) ⟨us, []⟩ = pure (p_l_item.zip us) := match us, h with | [a0, a1, a2], _ => rfl
abbrev s_l_rows : Stmt := topS 27
abbrev n_l_rows : List Str := ["_law_deck_here", "_law_base", "_law_size", "_law_lot", "_law_turn", "_law_found", "_law_fresh", "_law_at", "_law_to", "_law_whole_here", "_law_item_here", "_law_held", "_law_times", "_law_own"]
abbrev p_l_rows : List Str := ["_law_deck_here", "_law_base", "_law_size", "_law_lot"]
theorem sc_l_rows : FnScope n_l_rows p_l_rows (defScope s_l_rows) := ⟨rfl, rfl, rfl, by decide +kernel, rfl, by decide +kernel, by decide +kernel⟩
theorem bn_l_rows (kV doc pm : Value) (an : Option Addr) (cdv ct : Value) (us : List Value) (h : us.length = p_l_rows.length) : bindArgs (PySem.W.fnOf "_law_rows" "_law_rows" (defArgs s_l_rows) (defBody s_l_rows) (defScope s_l_rows) .none kV doc pm an cdv ct) ⟨us, []⟩ = pure (p_l_rows.zip us) := match us, h with | [a0, a1, a2, a3], _ => rfl
abbrev s_l_whole : Stmt := topS 28
abbrev n_l_whole : List Str := ["_law_deck_here", "_law_base", "_law_size", "_law_lot", "_law_turn", "_law_primes", "_law_sizes", "_law_wholes"]
abbrev p_l_whole : List Str := ["_law_deck_here", "_law_base", "_law_size", "_law_lot"]
theorem sc_l_whole : FnScope n_l_whole p_l_whole (defScope s_l_whole) := ⟨rfl, rfl, rfl, by decide +kernel, rfl, by decide +kernel, by decide +kernel⟩
theorem bn_l_whole (kV doc pm : Value) (an : Option Addr) (cdv ct : Value) (us : List Value) (h : us.length = p_l_whole.length) : bindArgs (PySem.W.fnOf "_law_whole" "_law_whole" (defArgs s_l_whole) (defBody s_l_whole) (defScope s_l_whole) .none kV doc pm an cdv ct) ⟨us, []⟩ = pure (p_l_whole.zip us) := match us, h with | [a0, a1, a2, a3], _ => rfl
abbrev s_l_is_flat : Stmt := topS 30
abbrev n_l_is_flat : List Str := ["_law_deck_here", "_law_base", "_law_size", "_law_good", "_law_turn", "_law_lot", "_law_step", "_law_thing"]
abbrev p_l_is_flat : List Str := ["_law_deck_here", "_law_base", "_law_size"]
theorem sc_l_is_flat : FnScope n_l_is_flat p_l_is_flat (defScope s_l_is_flat) := ⟨rfl, rfl, rfl, by decide +kernel, rfl, by decide +kernel, by decide +kernel⟩
theorem bn_l_is_flat (kV doc pm : Value) (an : Option Addr) (cdv ct : Value) (us : List Value) (h : us.length = p_l_is_flat.length) : bindArgs (PySem.W.fnOf "_law_is_flat" "_law_is_flat" (defArgs s_l_is_flat) (defBody s_l_is_flat) (defScope s_l_is_flat) .none kV doc pm an cdv ct) ⟨us, []⟩ = pure (p_l_is_flat.zip us) := match us, h with | [a0, a1, a2], _ => rfl
abbrev s_law : Stmt := topS 33
abbrev n_law : List Str := ["_law_script", "_law_deck_here", "_law_turn", "_law_base", "_law_size", "_law_lot", "_law_spot", "_law_at", "_law_true", "_law_part", "_law_thing", "_law_order_here"]
abbrev p_law : List Str := ["_law_script"]
theorem sc_law : FnScope n_law p_law (defScope s_law) := ⟨rfl, rfl, rfl, by decide +kernel, rfl, by decide +kernel, by decide +kernel⟩
def c_MAX_ENDS : D := (.int 8)
def c_PRIMES : D := (.tup [(.int 2), (.int 3), (.int 5), (.int 7)])
theorem kw_flat_error_0 : KwB "flat_error" s_flat_error p_flat_error 0 ["value"] [0] := ⟨fun _ _ _ _ _ _ us ws h1 h2 => match us, ws, h1, h2 with | [], [w0], _, _ => rfl⟩
theorem kw_inverse_1 : KwB "inverse" s_inverse p_inverse 0 ["number", "prime"] [1, 0] := ⟨fun _ _ _ _ _ _ us ws h1 h2 => match us, ws, h1, h2 with | [], [w0, w1], _, _ => rfl⟩
abbrev xcs : List Str := ["Unfit"]
abbrev xxs : List Str := ["Unfit", "BoxError"]
abbrev xfs : List Str := []
theorem exb_Unfit_Unfit : exB "Unfit" "Unfit" = true := by decide +kernel
theorem exb_Unfit_BoxError : exB "Unfit" "BoxError" = true := by decide +kernel
structure Hd (K : PySem.W.Frag) (w : World) (mg : Str → Option Value) : Prop where
  at_l_deck : At K mg "_law_deck" s_l_deck
  at_l_draw : At K mg "_law_draw" s_l_draw
  at_l_order : At K mg "_law_order" s_l_order
  at_l_pick : At K mg "_law_pick" s_l_pick
  at_l_lead : At K mg "_law_lead" s_l_lead
  at_l_is_integer : At K mg "_law_is_integer" s_l_is_integer
  at_l_is_row : At K mg "_law_is_row" s_l_is_row
  at_l_due : At K mg "_law_due" s_l_due
  at_lead_of : At K mg "lead_of" s_lead_of
  at_stairs_error : At K mg "stairs_error" s_stairs_error
  at_is_below : At K mg "is_below" s_is_below
  at_is_row : At K mg "is_row" s_is_row
  at_flat_error : At K mg "flat_error" s_flat_error
  at_l_is_told : At K mg "_law_is_told" s_l_is_told
  at_inverse : At K mg "inverse" s_inverse
  at_l_inverted : At K mg "_law_inverted" s_l_inverted
  at_l_is_inverse : At K mg "_law_is_inverse" s_l_is_inverse
  at_l_flat : At K mg "_law_flat" s_l_flat
  at_l_drawn : At K mg "_law_drawn" s_l_drawn
  at_l_sum : At K mg "_law_sum" s_l_sum
  at_l_odd : At K mg "_law_odd" s_l_odd
  at_l_item : At K mg "_law_item" s_l_item
  at_l_rows : At K mg "_law_rows" s_l_rows
  at_l_whole : At K mg "_law_whole" s_l_whole
  at_l_is_flat : At K mg "_law_is_flat" s_l_is_flat
  b_abs : mg "abs" = none
  b_all : mg "all" = none
  b_bool : mg "bool" = none
  b_enumerate : mg "enumerate" = none
  b_int : mg "int" = none
  b_isinstance : mg "isinstance" = none
  b_len : mg "len" = none
  b_list : mg "list" = none
  b_range : mg "range" = none
  b_repr : mg "repr" = none
  b_str : mg "str" = none
  b_sum : mg "sum" = none
  b_tuple : mg "tuple" = none
  b_zip : mg "zip" = none
  c_MAX_ENDS : Gc K mg "MAX_ENDS" c_MAX_ENDS
  c_PRIMES : Gc K mg "PRIMES" c_PRIMES
  x_Unfit : XBare K mg "Unfit"
  xt : XT K mg xcs xxs xfs
def b_l_deck (asc : Addr) (ns : List Int) : Eng.Env → T Out :=
  (dSeq (dOwn 1 (dComp (dU itemsD (dLst (dU (asObj asc ((ns.take 63).map D.int)) (gV 0)))) (tgName 2) (fun _ => T.ret true) (dB addD (dB mulD (cst (.int 2)) (dC absD (dCons (gV 2) dNil))) (dC intD (dCons (dBl (dB ltD (gV 2) (cst (.int 0)))) dNil))) [2]))
  (dRet (dLst (dCons (dLst (dComp (dU itemsD (gB 1)) (tgName 2) (dB geD (gV 2) (dB powD (cst (.int 10)) (cst (.int 18)))) (gV 2) [2])) (dCons (dB addD (gB 1) (dLst (dCons (dB addD (dC lenD (dCons (gB 1) dNil)) (cst (.int 977))) dNil))) (dCons (dC sum1D (dCons (gB 1) dNil)) (dCons (cst (.int 0)) dNil)))))))
def t_l_deck (asc : Addr) (ns : List Int) : List D → T D := bodyT 3 (b_l_deck asc ns)
def b_l_order (a0 : Addr) : Eng.Env → T Out :=
  (dSeq (dParM [2, 3] (mN (dC listN (dCons (gV 1) dNil)) (mN dNil mNil)))
  (dSeq (dFor (dC range1 (dCons (dC lenD (dCons (gV 1) dNil)) dNil)) (tgName 4) (dAppP 3 (popAt 2 (dC (drawT a0) (dCons (gV 0) (dCons (dC lenD (dCons (gB 2) dNil)) dNil))))))
  (dF [3] (dRet (gV 3)))))
def t_l_order (a0 : Addr) : List D → T D := bodyT 5 (b_l_order a0)
def b_l_pick (a0 : Addr) : Eng.Env → T Out :=
  (dRet (dB ixD (gV 1) (dC (drawT a0) (dCons (gV 0) (dCons (dC lenD (dCons (gV 1) dNil)) dNil)))))
def t_l_pick (a0 : Addr) : List D → T D := bodyT 2 (b_l_pick a0)
def b_l_lead : Eng.Env → T Out :=
  (dSeq (dFor (dC enumOf (dCons (gV 0) dNil)) (tgTup (tgCons (tgName 1) (tgCons (tgName 2) tgNil)) 2) (dIf (dB neD (gV 2) (cst (.int 0))) (dRet (gV 1)) dSkip))
  (dRet (dC lenD (dCons (gV 0) dNil))))
def t_l_lead : List D → T D := bodyT 3 (b_l_lead)
def b_l_is_integer : Eng.Env → T Out :=
  (dRet (dAndV (dU (isiD "int") (gV 0)) (dNotV (dU (isiD "bool") (gV 0)))))
def t_l_is_integer : List D → T D := bodyT 1 (b_l_is_integer)
def b_l_is_row : Eng.Env → T Out :=
  (dSeq (dIf (dOr (dNot (dU truthD (dU (isiD "tuple") (gV 2)))) (dB neD (dC lenD (dCons (gV 2) dNil)) (gV 1))) (dRet (cst (.bl false))) dSkip)
  (dRet (dBl (dB eqNilLD (dLst (dComp (dU itemsD (gV 2)) (tgName 3) (dOr (dNot (dU truthD (dC t_l_is_integer (dCons (gV 3) dNil)))) (dOr (dB ltD (gV 3) (cst (.int 0))) (dB geD (gV 3) (gV 0)))) (cst (.int 1)) [3])) (dLst dNil)))))
def t_l_is_row : List D → T D := bodyT 4 (b_l_is_row)
def b_l_due : Eng.Env → T Out :=
  (dSeq (dIf (dOr (dNot (dU truthD (dU (isiD "tuple") (gV 0)))) (dB neD (dC lenD (dCons (gV 0) dNil)) (cst (.int 3)))) (dRet (cst (.str "prime"))) dSkip)
  (dSeq (dAsg (tgTup (tgCons (tgName 1) (tgCons (tgName 2) (tgCons (tgName 3) tgNil))) 3) (gV 0))
  (dSeq (dIf (dOr (dNot (dU truthD (dC t_l_is_integer (dCons (gV 1) dNil)))) (dB notInD (gV 1) (dTup (dCons (cst (.int 2)) (dCons (cst (.int 3)) (dCons (cst (.int 5)) (dCons (cst (.int 7)) dNil))))))) (dRet (cst (.str "prime"))) dSkip)
  (dSeq (dIf (dOr (dNot (dU truthD (dC t_l_is_integer (dCons (gV 2) dNil)))) (dOr (dB ltD (gV 2) (cst (.int 0))) (dB gtD (gV 2) (cst (.int 8))))) (dRet (cst (.str "ends"))) dSkip)
  (dSeq (dIf (dNot (dU truthD (dU (isiD "tuple") (gV 3)))) (dRet (cst (.str "rows"))) dSkip)
  (dSeq (dFor (dC enumOf (dCons (gV 3) dNil)) (tgTup (tgCons (tgName 4) (tgCons (tgName 5) tgNil)) 2) (dIf (dNot (dU truthD (dC t_l_is_row (dCons (gV 1) (dCons (gV 2) (dCons (gV 5) dNil)))))) (dRet (gV 4)) dSkip))
  (dSeq (dOwn 6 (dComp (dU itemsD (gV 3)) (tgName 5) (fun _ => T.ret true) (dC t_l_lead (dCons (gV 5) dNil)) [5]))
  (dSeq (dF [6] (dFor (dC enumOf (dCons (gV 6) dNil)) (tgTup (tgCons (tgName 4) (tgCons (tgName 7) tgNil)) 2) (dIf (dOr (dB eqD (gV 7) (gV 2)) (dB neD (dB ixD (dB ixD (gV 3) (gV 4)) (gV 7)) (cst (.int 1)))) (dRet (dTup (dCons (cst (.str "one")) (dCons (gV 4) dNil)))) dSkip)))
  (dSeq (dFor (dC range2 (dCons (cst (.int 1)) (dCons (dC lenD (dCons (gB 6) dNil)) dNil))) (tgName 4) (dIf (dB leD (dB ixD (gB 6) (gV 4)) (dB ixD (gB 6) (dB subD (gV 4) (cst (.int 1))))) (dRet (dTup (dCons (cst (.str "stairs")) (dCons (gV 4) dNil)))) dSkip))
  (dSeq (dF [6] (dFor (dC enumOf (dCons (gV 6) dNil)) (tgTup (tgCons (tgName 4) (tgCons (tgName 7) tgNil)) 2) (dFor (dC enumOf (dCons (gV 3) dNil)) (tgTup (tgCons (tgName 8) (tgCons (tgName 5) tgNil)) 2) (dIf (dAnd (dB neD (gV 8) (gV 4)) (dB neD (dB ixD (gV 5) (gV 7)) (cst (.int 0)))) (dRet (dTup (dCons (gV 4) (dCons (gV 8) dNil)))) dSkip))))
  (dRet (cst .non))))))))))))
def t_l_due : List D → T D := bodyT 9 (b_l_due)
def b_lead_of : Eng.Env → T Out :=
  (dSeq (dFor (dC range1 (dCons (dC lenD (dCons (gV 0) dNil)) dNil)) (tgName 1) (dIf (dB neD (dB ixD (gV 0) (gV 1)) (cst (.int 0))) (dRet (gV 1)) dSkip))
  (dRet (cst .non)))
def t_lead_of : List D → T D := bodyT 2 (b_lead_of)
def b_stairs_error : Eng.Env → T Out :=
  (dSeq (dOwn 1 (dComp (dU itemsD (gV 0)) (tgName 2) (fun _ => T.ret true) (dC t_lead_of (dCons (gV 2) dNil)) [2]))
  (dSeq (dFor (dC range1 (dCons (dC lenD (dCons (gV 0) dNil)) dNil)) (tgName 3) (dIf (dOr (dB isNoneD (dB ixD (gB 1) (gV 3)) (cst .non)) (dB neD (dB ixD (dB ixD (gV 0) (gV 3)) (dB ixD (gB 1) (gV 3))) (cst (.int 1)))) (dRet (dTup (dCons (cst (.str "one")) (dCons (gV 3) dNil)))) dSkip))
  (dSeq (dFor (dC range2 (dCons (cst (.int 1)) (dCons (dC lenD (dCons (gV 0) dNil)) dNil))) (tgName 3) (dIf (dB leD (dB ixD (gB 1) (gV 3)) (dB ixD (gB 1) (dB subD (gV 3) (cst (.int 1))))) (dRet (dTup (dCons (cst (.str "stairs")) (dCons (gV 3) dNil)))) dSkip))
  (dSeq (dFor (dC range1 (dCons (dC lenD (dCons (gV 0) dNil)) dNil)) (tgName 3) (dFor (dC range1 (dCons (dC lenD (dCons (gV 0) dNil)) dNil)) (tgName 4) (dIf (dAnd (dB neD (gV 4) (gV 3)) (dB neD (dB ixD (dB ixD (gV 0) (gV 4)) (dB ixD (gB 1) (gV 3))) (cst (.int 0)))) (dRet (dTup (dCons (gV 3) (dCons (gV 4) dNil)))) dSkip)))
  (dRet (cst .non))))))
def t_stairs_error : List D → T D := bodyT 5 (b_stairs_error)
def b_is_below : Eng.Env → T Out :=
  (dRet (dAndV (dU (isiD "int") (gV 0)) (dAndV (dNotV (dU (isiD "bool") (gV 0))) (dBl (dChain leD ltD (cst (.int 0)) (gV 0) (gV 1))))))
def t_is_below : List D → T D := bodyT 2 (b_is_below)
def b_is_row : Eng.Env → T Out :=
  (dRet (dAndV (dU (isiD "tuple") (gV 2)) (dAndV (dBl (dB eqD (dC lenD (dCons (gV 2) dNil)) (gV 1))) (dC allD (dCons (dLst (dComp (dU itemsD (gV 2)) (tgName 3) (fun _ => T.ret true) (dC t_is_below (dCons (gV 3) (dCons (gV 0) dNil))) [3])) dNil)))))
def t_is_row : List D → T D := bodyT 4 (b_is_row)
def b_flat_error : Eng.Env → T Out :=
  (dSeq (dIf (dOr (dNot (dU truthD (dU (isiD "tuple") (gV 0)))) (dOr (dB neD (dC lenD (dCons (gV 0) dNil)) (cst (.int 3))) (dOr (dNot (dU truthD (dC t_is_below (dCons (dB ixD (gV 0) (cst (.int 0))) (dCons (cst (.int 8)) dNil))))) (dB notInD (dB ixD (gV 0) (cst (.int 0))) (cst c_PRIMES))))) (dRet (cst (.str "prime"))) dSkip)
  (dSeq (dAsg (tgTup (tgCons (tgName 1) (tgCons (tgName 2) (tgCons (tgName 3) tgNil))) 3) (gV 0))
  (dSeq (dIf (dNot (dU truthD (dC t_is_below (dCons (gV 2) (dCons (dB addD (cst c_MAX_ENDS) (cst (.int 1))) dNil))))) (dRet (cst (.str "ends"))) dSkip)
  (dSeq (dIf (dNot (dU truthD (dU (isiD "tuple") (gV 3)))) (dRet (cst (.str "rows"))) dSkip)
  (dSeq (dFor (dC range1 (dCons (dC lenD (dCons (gV 3) dNil)) dNil)) (tgName 4) (dIf (dNot (dU truthD (dC t_is_row (dCons (gV 1) (dCons (gV 2) (dCons (dB ixD (gV 3) (gV 4)) dNil)))))) (dRet (gV 4)) dSkip))
  (dRet (dC t_stairs_error (dCons (gV 3) dNil))))))))
def t_flat_error : List D → T D := bodyT 5 (b_flat_error)
def b_l_is_told : Eng.Env → T Out :=
  (dSeq (dPar 1 2 (dCons (dC reprD3 (dCons (gV 0) dNil)) (dCons (dC t_l_due (dCons (gV 0) dNil)) dNil)))
  (dSeq (dSet 3 (dLst (dCons (dC t_flat_error (dCons (gV 0) dNil)) (dCons (dCK t_flat_error [0] dNil (dCons (gV 0) dNil)) (dCons (dC t_flat_error (dCons (gV 0) dNil)) dNil)))))
  (dRet (dAndV (dBl (dB eqD (dC reprD3 (dCons (gV 3) dNil)) (dC reprD3 (dCons (dLst (dCons (gV 2) (dCons (gV 2) (dCons (gV 2) dNil)))) dNil)))) (dBl (dB eqD (dC reprD3 (dCons (gV 0) dNil)) (gV 1)))))))
def t_l_is_told : List D → T D := bodyT 4 (b_l_is_told)
def b_inverse : Eng.Env → T Out :=
  (dSeq (dFor (dC range2 (dCons (cst (.int 1)) (dCons (gV 0) dNil))) (tgName 2) (dIf (dB eqD (dB modD (dB mulD (gV 1) (gV 2)) (gV 0)) (cst (.int 1))) (dRet (gV 2)) dSkip))
  (dRz0 "Unfit"))
def t_inverse : List D → T D := bodyT 3 (b_inverse)
def b_l_inverted : Eng.Env → T Out :=
  (dTry xcs 2 [("Unfit", none, (fun a c es => (dRet (dLst (dCons (cst (.str "unfit")) dNil))))), ("BoxError", none, (fun a c es => (dRet (dLst (dCons (cst (.str "other")) dNil)))))] (dRet (dLst (dCons (cst (.str "told")) (dCons (dC t_inverse (dCons (gV 0) (dCons (gV 1) dNil))) (dCons (dCK t_inverse [1, 0] dNil (dCons (gV 1) (dCons (gV 0) dNil))) dNil))))))
def t_l_inverted : List D → T D := bodyT 2 (b_l_inverted)
def b_l_is_inverse : Eng.Env → T Out :=
  (dSeq (dFor (dU itemsD (dTup (dCons (cst (.int 2)) (dCons (cst (.int 3)) (dCons (cst (.int 5)) (dCons (cst (.int 7)) dNil)))))) (tgName 0) (dSeq (dIf (dB neD (dC reprD3 (dCons (dC t_l_inverted (dCons (gV 0) (dCons (cst (.int 0)) dNil))) dNil)) (dC reprD3 (dCons (dLst (dCons (cst (.str "unfit")) dNil)) dNil))) (dRet (cst (.bl false))) dSkip)
    (dFor (dC range2 (dCons (cst (.int 1)) (dCons (gV 0) dNil))) (tgName 1) (dSeq (dOwn 2 (dComp (dC range1 (dCons (gV 0) dNil)) (tgName 3) (dB eqD (dB modD (dC intD (dCons (dB mulD (gV 1) (gV 3)) dNil)) (gV 0)) (cst (.int 1))) (gV 3) [3]))
      (dIf (dOr (dB neD (dC reprD3 (dCons (dC t_l_inverted (dCons (gV 0) (dCons (gV 1) dNil))) dNil)) (dC reprD3 (dCons (dLst (dCons (cst (.str "told")) (dCons (dB ixD (gB 2) (cst (.int 0))) (dCons (dB ixD (gB 2) (cst (.int 0))) dNil)))) dNil))) (dB neD (dC (nxF t_inverse) (dCons (gV 0) (dCons (dB ixD (gB 2) (cst (.int 0))) dNil))) (gV 1))) (dRet (cst (.bl false))) dSkip)))))
  (dRet (cst (.bl true))))
def t_l_is_inverse : List D → T D := bodyT 4 (b_l_is_inverse)
def b_l_flat (a0 : Addr) : Eng.Env → T Out :=
  (dSeq (dParM [3, 4] (mV (dC (t_l_pick a0) (dCons (gV 0) (dCons (dLst (dCons (cst (.int 0)) (dCons (cst (.int 1)) (dCons (cst (.int 2)) (dCons (cst (.int 2)) (dCons (cst (.int 3)) (dCons (cst (.int 4)) dNil))))))) dNil))) (mN dNil mNil)))
  (dSeq (dSet 5 (dLst (dComp (dC range1 (dCons (gV 2) dNil)) (tgName 6) (dB ltD (dC (drawT a0) (dCons (gV 0) (dCons (cst (.int 4)) dNil))) (gV 3)) (gV 6) [6])))
  (dSeq (dFor (dU itemsD (gV 5)) (tgName 7) (dSeq (dOwn 8 (dComp (dC range1 (dCons (gV 2) dNil)) (tgName 6) (fun _ => T.ret true) (dIf (dAnd (dB gtD (gV 6) (gV 7)) (dB notInD (gV 6) (gV 5))) (dC (drawT a0) (dCons (gV 0) (dCons (gV 1) dNil))) (cst (.int 0))) [6]))
    (dSeq (dSetIx 8 (cst (.int 1)) (gV 7))
    (dApp 4 (dC tupleD (dCons (gB 8) dNil))))))
  (dRet (dTup (dCons (gV 1) (dCons (gV 2) (dCons (dC tupleD (dCons (gB 4) dNil)) dNil))))))))
def t_l_flat (a0 : Addr) : List D → T D := bodyT 9 (b_l_flat a0)
def b_l_drawn (a0 : Addr) : Eng.Env → T Out :=
  (dRet (dC tupleD (dCons (dLst (dComp (dC range1 (dCons (gV 2) dNil)) (tgName 3) (fun _ => T.ret true) (dIf (dB gtD (dC (drawT a0) (dCons (gV 0) (dCons (cst (.int 3)) dNil))) (cst (.int 0))) (dC (drawT a0) (dCons (gV 0) (dCons (gV 1) dNil))) (cst (.int 0))) [3])) dNil)))
def t_l_drawn (a0 : Addr) : List D → T D := bodyT 4 (b_l_drawn a0)
def b_l_sum : Eng.Env → T Out :=
  (dRet (dC tupleD (dCons (dLst (dComp (dC zipOfA (dCons (gV 1) (dCons (gV 2) dNil))) (tgTup (tgCons (tgName 3) (tgCons (tgName 4) tgNil)) 2) (fun _ => T.ret true) (dB modD (dC intD (dCons (dB addD (gV 3) (gV 4)) dNil)) (gV 0)) [3, 4])) dNil)))
def t_l_sum : List D → T D := bodyT 5 (b_l_sum)
def b_l_odd (a0 : Addr) : Eng.Env → T Out :=
  (dSeq (dSet 1 (dLst (dCons (cst .non) (dCons (cst (.bl true)) (dCons (cst (.bl false)) (dCons (cst (.str "1")) (dCons (cst (.str "")) (dCons (dU negD (cst (.int 1))) (dCons (dB powD (cst (.int 10)) (cst (.int 30))) (dCons (dB subD (cst (.int 0)) (dB powD (cst (.int 10)) (cst (.int 30)))) (dCons (dTup (dCons (cst (.int 1)) dNil)) (dCons (dLst (dCons (cst (.int 0)) dNil)) (dCons (dDct []) (dCons (dDct [(.inr "rows", (dTup dNil))]) (dCons (dTup (dCons (dTup dNil) dNil)) (dCons (cst (.int 7)) (dCons (dLst dNil) (dCons (cst (.str "wire")) dNil))))))))))))))))))
  (dRet (dC (t_l_pick a0) (dCons (gV 0) (dCons (gV 1) dNil)))))
def t_l_odd (a0 : Addr) : List D → T D := bodyT 2 (b_l_odd a0)
def b_l_item (a0 : Addr) : Eng.Env → T Out :=
  (dSeq (dSet 3 (dC (drawT a0) (dCons (gV 0) (dCons (cst (.int 9)) dNil))))
  (dSeq (dIf (dB eqD (gV 3) (cst (.int 0))) (dRet (dLst (dC listN (dCons (gV 2) dNil)))) dSkip)
  (dSeq (dIf (dB eqD (gV 3) (cst (.int 1))) (dRet (dC (t_l_odd a0) (dCons (gV 0) dNil))) dSkip)
  (dSeq (dIf (dOr (dB eqD (gV 3) (cst (.int 2))) (dB eqNilD (gV 2) (dTup dNil))) (dRet (dB addD (gV 2) (dTup (dCons (dC (drawT a0) (dCons (gV 0) (dCons (gV 1) dNil))) dNil)))) dSkip)
  (dSeq (dSet 4 (dC (drawT a0) (dCons (gV 0) (dCons (dC lenD (dCons (gV 2) dNil)) dNil))))
  (dSeq (dIf (dB eqD (gV 3) (cst (.int 3))) (dRet (dB addD (dSl slD (gV 2) dNo (dSome (gV 4))) (dSl slD (gV 2) (dSome (dB addD (gV 4) (cst (.int 1)))) dNo))) dSkip)
  (dSeq (dSet 5 (dIf (dU truthD (dC t_l_is_integer (dCons (dB ixD (gV 2) (gV 4)) dNil))) (dB ixD (gV 2) (gV 4)) (cst (.int 1))))
  (dSeq (dSet 6 (dB modD (dC intD (dCons (dB addD (dB addD (gV 5) (cst (.int 1))) (dC (drawT a0) (dCons (gV 0) (dCons (dB subD (gV 1) (cst (.int 1))) dNil)))) dNil)) (gV 1)))
  (dSeq (dIf (dB gtD (gV 3) (cst (.int 5))) (dSet 7 (gV 6)) (dIf (dB eqD (gV 3) (cst (.int 5))) (dSet 7 (dIf (dB ltD (gV 5) (cst (.int 2))) (dBl (dB gtD (gV 5) (cst (.int 0)))) (dC (t_l_pick a0) (dCons (gV 0) (dCons (dLst (dCons (cst (.bl true)) (dCons (cst (.bl false)) dNil))) dNil))))) (dSet 7 (dC (t_l_pick a0) (dCons (gV 0) (dCons (dLst (dCons (gV 1) (dCons (dU negD (cst (.int 1))) (dCons (dB addD (gV 1) (gV 5)) (dCons (dB subD (gV 5) (gV 1)) (dCons (dB addD (gV 5) (dB mulD (gV 1) (dB powD (cst (.int 10)) (cst (.int 30))))) (dCons (dC strD (dCons (gV 5) dNil)) (dCons (dTup (dCons (gV 5) dNil)) (dCons (cst .non) dNil))))))))) dNil))))))
  (dRet (dB addD (dB addD (dSl slD (gV 2) dNo (dSome (gV 4))) (dTup (dCons (gV 7) dNil))) (dSl slD (gV 2) (dSome (dB addD (gV 4) (cst (.int 1)))) dNo))))))))))))
def t_l_item (a0 : Addr) : List D → T D := bodyT 8 (b_l_item a0)
def b_l_rows (a0 : Addr) : Eng.Env → T Out :=
  (dSeq (dParM [4, 5] (mV (dC (drawT a0) (dCons (gV 0) (dCons (cst (.int 9)) dNil))) (mN (dC listN (dCons (gV 3) dNil)) mNil)))
  (dSeq (dIf (dOr (dB eqD (gV 4) (cst (.int 0))) (dB eqNilLD (gB 5) (dLst dNil))) (dSeq (dSet 6 (dC (t_l_pick a0) (dCons (gV 0) (dCons (dLst (dCons (dB mulD (dTup (dCons (cst (.int 0)) dNil)) (gV 2)) (dCons (dC (t_l_drawn a0) (dCons (gV 0) (dCons (gV 1) (dCons (gV 2) dNil)))) (dCons (dB addD (dTup (dCons (cst (.int 1)) dNil)) (dB mulD (dTup (dCons (cst (.int 0)) dNil)) (gV 2))) dNil)))) dNil))))
    (dSeq (dIns 5 (dCons (dC (drawT a0) (dCons (gV 0) (dCons (dB addD (dC lenD (dCons (gB 5) dNil)) (cst (.int 1))) dNil))) (dCons (gV 6) dNil)))
    (dF [5] (dRet (gV 5))))) dSkip)
  (dSeq (dPar 7 8 (dCons (dC (drawT a0) (dCons (gV 0) (dCons (dC lenD (dCons (gB 5) dNil)) dNil))) (dCons (dC (drawT a0) (dCons (gV 0) (dCons (dC lenD (dCons (gB 5) dNil)) dNil))) dNil)))
  (dSeq (dOwn 9 (dComp (dU itemsD (dLst (dCons (dB ixD (gB 5) (gV 7)) (dCons (dB ixD (gB 5) (gV 8)) dNil)))) (tgName 10) (dU truthD (dC t_l_is_row (dCons (gV 1) (dCons (gV 2) (dCons (gV 10) dNil))))) (gV 10) [10]))
  (dSeq (dIf (dB eqD (gV 4) (cst (.int 1))) (dIns 5 (dCons (gV 8) (dCons (dB ixD (gB 5) (gV 7)) dNil))) (dIf (dB eqD (gV 4) (cst (.int 2))) (dSeq (dSet 11 (dB ixD (gB 5) (gV 7)))
      (dSeq (dSetIx 5 (dB ixD (gB 5) (gV 8)) (gV 7))
      (dSetIx 5 (gV 11) (gV 8)))) (dIf (dB eqD (gV 4) (cst (.int 3))) (dExpP (popAt 5 (gV 7))) (dIf (dAnd (dB eqD (gV 4) (cst (.int 4))) (dB eqD (dC lenD (dCons (gB 9) dNil)) (cst (.int 2)))) (dSetIx 5 (dC t_l_sum (dCons (gV 1) (dCons (dB ixD (gB 9) (cst (.int 0))) (dCons (dB ixD (gB 9) (cst (.int 1))) dNil)))) (gV 8)) (dIf (dAnd (dB eqD (gV 4) (cst (.int 5))) (dB neNilLD (gB 9) (dLst dNil))) (dSeq (dSet 12 (dC (drawT a0) (dCons (gV 0) (dCons (gV 1) dNil))))
            (dSetIx 5 (dC tupleD (dCons (dLst (dComp (dU itemsD (dB ixD (gB 9) (cst (.int 0)))) (tgName 13) (fun _ => T.ret true) (dB modD (dC intD (dCons (dB mulD (gV 12) (gV 13)) dNil)) (gV 1)) [13])) dNil)) (gV 7))) (dIf (dB eqD (gV 4) (cst (.int 6))) (dSetIx 5 (dC (t_l_drawn a0) (dCons (gV 0) (dCons (gV 1) (dCons (gV 2) dNil)))) (gV 7)) (dIf (dU truthD (dU (isiD "tuple") (dB ixD (gB 5) (gV 7)))) (dSetIx 5 (dC (t_l_item a0) (dCons (gV 0) (dCons (gV 1) (dCons (dB ixD (gB 5) (gV 7)) dNil)))) (gV 7)) dSkip)))))))
  (dF [5] (dRet (gV 5))))))))
def t_l_rows (a0 : Addr) : List D → T D := bodyT 14 (b_l_rows a0)
def b_l_whole (a0 : Addr) : Eng.Env → T Out :=
  (dSeq (dSet 4 (dC (drawT a0) (dCons (gV 0) (dCons (cst (.int 9)) dNil))))
  (dSeq (dIf (dB ltD (gV 4) (cst (.int 2))) (dSeq (dSet 5 (dLst (dCons (cst (.int 0)) (dCons (cst (.int 1)) (dCons (cst (.int 4)) (dCons (cst (.int 6)) (dCons (cst (.int 8)) (dCons (cst (.int 9)) (dCons (cst (.int 11)) (dCons (dU negD (cst (.int 2))) (dCons (dU negD (cst (.int 7))) (dCons (cst (.bl true)) (dCons (cst (.bl false)) (dCons (cst .non) (dCons (cst (.str "2")) (dCons (dTup (dCons (cst (.int 2)) dNil)) (dCons (dLst (dCons (cst (.int 3)) dNil)) (dCons (dB addD (dB powD (cst (.int 10)) (cst (.int 30))) (cst (.int 7))) (dCons (cst (.int 2)) (dCons (cst (.int 3)) (dCons (cst (.int 5)) (dCons (cst (.int 7)) (dCons (dB addD (gV 1) (cst (.int 10))) dNil)))))))))))))))))))))))
    (dRet (dTup (dCons (dC (t_l_pick a0) (dCons (gV 0) (dCons (gV 5) dNil))) (dCons (gV 2) (dCons (gV 3) dNil)))))) dSkip)
  (dSeq (dIf (dB ltD (gV 4) (cst (.int 4))) (dSeq (dSet 6 (dLst (dCons (dB addD (gV 2) (cst (.int 1))) (dCons (dB subD (gV 2) (cst (.int 1))) (dCons (cst (.int 9)) (dCons (dU negD (cst (.int 1))) (dCons (cst (.bl true)) (dCons (cst (.bl false)) (dCons (cst .non) (dCons (dC strD (dCons (gV 2) dNil)) (dCons (dB powD (cst (.int 10)) (cst (.int 30))) (dCons (dTup (dCons (gV 2) dNil)) (dCons (cst (.int 8)) (dCons (cst (.int 0)) (dCons (cst (.int 1)) (dCons (dB subD (cst (.int 0)) (gV 2)) dNil))))))))))))))))
    (dRet (dTup (dCons (gV 1) (dCons (dC (t_l_pick a0) (dCons (gV 0) (dCons (gV 6) dNil))) (dCons (gV 3) dNil)))))) dSkip)
  (dSeq (dIf (dB ltD (gV 4) (cst (.int 6))) (dRet (dTup (dCons (gV 1) (dCons (gV 2) (dCons (dC (t_l_pick a0) (dCons (gV 0) (dCons (dLst (dCons (dLst (dC listN (dCons (gV 3) dNil))) (dCons (cst .non) (dCons (cst (.int 0)) (dCons (cst (.str "")) (dCons (dDct []) (dCons (cst (.bl true)) (dCons (cst (.str "rows")) (dCons (dC lenD (dCons (gV 3) dNil)) (dCons (dLst dNil) (dCons (dTup dNil) dNil))))))))))) dNil))) dNil))))) dSkip)
  (dSeq (dSet 7 (dLst (dCons (dLst (dCons (gV 1) (dCons (gV 2) (dCons (gV 3) dNil)))) (dCons (dTup (dCons (gV 1) (dCons (gV 2) dNil))) (dCons (dTup (dCons (gV 1) (dCons (gV 2) (dCons (gV 3) (dCons (dTup dNil) dNil))))) (dCons (cst .non) (dCons (gV 1) (dCons (cst (.str "")) (dCons (dDct []) (dCons (dTup (dCons (gV 1) (dCons (gV 2) (dCons (gV 3) (dCons (gV 3) dNil))))) (dCons (dTup dNil) dNil)))))))))))
  (dRet (dC (t_l_pick a0) (dCons (gV 0) (dCons (dB addD (gV 7) (dLst (dCons (cst (.bl true)) (dCons (dTup (dCons (dTup (dCons (gV 1) (dCons (gV 2) (dCons (gV 3) dNil)))) dNil)) (dCons (dTup (dCons (gV 2) (dCons (gV 1) (dCons (gV 3) dNil)))) (dCons (dTup (dCons (gV 1) (dCons (gV 3) (dCons (gV 2) dNil)))) (dCons (gV 3) dNil))))))) dNil)))))))))
def t_l_whole (a0 : Addr) : List D → T D := bodyT 8 (b_l_whole a0)
def b_l_is_flat (a0 : Addr) : Eng.Env → T Out :=
  (dSeq (dSet 3 (dC (t_l_flat a0) (dCons (gV 0) (dCons (gV 1) (dCons (gV 2) dNil)))))
  (dSeq (dIf (dOr (dB notNoneD (dC t_flat_error (dCons (gV 3) dNil)) (cst .non)) (dNot (dU truthD (dC t_l_is_told (dCons (gV 3) dNil))))) (dRet (cst (.bl false))) dSkip)
  (dSeq (dFor (dC range1 (dCons (cst (.int 6)) dNil)) (tgName 4) (dSeq (dSet 5 (dLst (dC listN (dCons (dB ixD (gV 3) (cst (.int 2))) dNil))))
    (dSeq (dFor (dC range1 (dCons (dC (t_l_pick a0) (dCons (gV 0) (dCons (dLst (dCons (cst (.int 0)) (dCons (cst (.int 1)) (dCons (cst (.int 1)) (dCons (cst (.int 2)) dNil))))) dNil))) dNil)) (tgName 6) (dSet 5 (dC (t_l_rows a0) (dCons (gV 0) (dCons (gV 1) (dCons (gV 2) (dCons (gV 5) dNil)))))))
    (dSeq (dSet 7 (dTup (dCons (gV 1) (dCons (gV 2) (dCons (dC tupleD (dCons (gV 5) dNil)) dNil)))))
    (dSeq (dIf (dB gtD (gV 4) (cst (.int 3))) (dSet 7 (dC (t_l_whole a0) (dCons (gV 0) (dCons (gV 1) (dCons (gV 2) (dCons (dC tupleD (dCons (gV 5) dNil)) dNil)))))) dSkip)
    (dIf (dNot (dU truthD (dC t_l_is_told (dCons (gV 7) dNil)))) (dRet (cst (.bl false))) dSkip))))))
  (dRet (dC t_l_is_told (dCons (gV 3) dNil))))))
def t_l_is_flat (a0 : Addr) : List D → T D := bodyT 8 (b_l_is_flat a0)
def b_law (a0 : Addr) : Eng.Env → T Out :=
  (dSeq (dFor (dC range1 (dCons (cst (.int 4)) dNil)) (tgName 2) (dSeq (dAsg (tgTup (tgCons (tgName 3) (tgCons (tgName 4) tgNil)) 2) (dTup (dCons (dC (t_l_pick a0) (dCons (gV 1) (dCons (dLst (dCons (cst (.int 2)) (dCons (cst (.int 3)) (dCons (cst (.int 5)) (dCons (cst (.int 7)) dNil))))) dNil))) (dCons (dC (t_l_pick a0) (dCons (gV 1) (dCons (dLst (dCons (cst (.int 0)) (dCons (cst (.int 1)) (dCons (cst (.int 2)) (dCons (cst (.int 3)) (dCons (cst (.int 4)) (dCons (cst (.int 5)) (dCons (cst (.int 6)) (dCons (cst (.int 7)) (dCons (cst (.int 8)) (dCons (cst (.int 8)) dNil))))))))))) dNil))) dNil))))
    (dIf (dNot (dU truthD (dC (t_l_is_flat a0) (dCons (gV 1) (dCons (gV 3) (dCons (gV 4) dNil)))))) (dRet (cst (.bl false))) dSkip)))
  (dSeq (dIf (dOr (dNot (dU truthD (dC (t_l_is_flat a0) (dCons (gV 1) (dCons (dC (t_l_pick a0) (dCons (gV 1) (dCons (dLst (dCons (cst (.int 3)) (dCons (cst (.int 5)) (dCons (cst (.int 7)) dNil)))) dNil))) (dCons (cst (.int 8)) dNil)))))) (dNot (dU truthD (dC t_l_is_told (dCons (dC (t_l_odd a0) (dCons (gV 1) dNil)) dNil))))) (dRet (cst (.bl false))) dSkip)
  (dSeq (dAsg (tgTup (tgCons (tgName 3) (tgCons (tgName 4) tgNil)) 2) (dTup (dCons (dC (t_l_pick a0) (dCons (gV 1) (dCons (dLst (dCons (cst (.int 2)) (dCons (cst (.int 3)) (dCons (cst (.int 5)) (dCons (cst (.int 7)) dNil))))) dNil))) (dCons (dB addD (cst (.int 2)) (dC (drawT a0) (dCons (gV 1) (dCons (cst (.int 7)) dNil)))) dNil))))
  (dSeq (dOwn 5 (dComp (dC range1 (dCons (gV 4) dNil)) (tgName 6) (fun _ => T.ret true) (dB addD (dB addD (dB mulD (dTup (dCons (cst (.int 0)) dNil)) (gV 6)) (dTup (dCons (cst (.int 1)) dNil))) (dB mulD (dTup (dCons (cst (.int 0)) dNil)) (dB subD (dB subD (gV 4) (cst (.int 1))) (gV 6)))) [6]))
  (dSeq (dSet 7 (dC (drawT a0) (dCons (gV 1) (dCons (gV 4) dNil))))
  (dSeq (dSet 8 (dB addD (dB addD (dSl slD (dB ixD (gB 5) (gV 7)) dNo (dSome (gV 7))) (dTup (dCons (cst (.bl true)) dNil))) (dSl slD (dB ixD (gB 5) (gV 7)) (dSome (dB addD (gV 7) (cst (.int 1)))) dNo)))
  (dSeq (dFor (dU itemsD (dLst (dCons (gV 8) (dCons (dLst (dC listN (dCons (dB ixD (gB 5) (gV 7)) dNil))) (dCons (dB addD (dB addD (dSl slD (dB ixD (gB 5) (gV 7)) dNo (dSome (gV 7))) (dTup (dCons (dB addD (gV 3) (cst (.int 1))) dNil))) (dSl slD (dB ixD (gB 5) (gV 7)) (dSome (dB addD (gV 7) (cst (.int 1)))) dNo)) (dCons (dB ixD (gB 5) (dB subD (gV 7) (cst (.int 1)))) (dCons (dB mulD (dTup (dCons (cst (.int 0)) dNil)) (gV 4)) dNil))))))) (tgName 9) (dSeq (dSet 10 (dTup (dCons (gV 3) (dCons (gV 4) (dCons (dC tupleD (dCons (dB addD (dB addD (dSl slD (gB 5) dNo (dSome (gV 7))) (dLst (dCons (gV 9) dNil))) (dSl slD (gB 5) (dSome (dB addD (gV 7) (cst (.int 1)))) dNo)) dNil)) dNil)))))
    (dIf (dOr (dNot (dU truthD (dC t_l_is_told (dCons (gV 10) dNil)))) (dB isNoneD (dC t_flat_error (dCons (gV 10) dNil)) (cst .non))) (dRet (cst (.bl false))) dSkip)))
  (dSeq (dF [5] (dSet 11 (dC (t_l_order a0) (dCons (gV 1) (dCons (gV 5) dNil)))))
  (dRet (dAndV (dC t_l_is_told (dCons (dTup (dCons (gV 3) (dCons (gV 4) (dCons (dC tupleD (dCons (gV 11) dNil)) dNil)))) dNil)) (fun _ => t_l_is_inverse [])))))))))))
section
variable {P : Program} {w : World} {K : PySem.W.Frag} {mg : Str → Option Value} {base : Heap} {PX : APr} {a0 a1 a2 : Addr} {asc : Addr} {ns : List Int}
theorem d_l_deck (hd : Hd K w mg) : DefG P w K mg base (PXc K asc ns) 1 "_law_deck" s_l_deck p_l_deck (t_l_deck asc ns) :=
  .mk' (N := n_l_deck) hd.at_l_deck sc_l_deck bn_l_deck fun f cdv Ar outer s H E hr hgd A hA hE => by
    have hu64 := hr64 hr
    have hu65 := hr65 hr
    have hu66 := hr66 hr
    exact (ss_cons (s_ownLc 1 rfl sc_l_deck.nd rfl rfl (sw_true rfl rfl rfl (by decide +kernel)) (own := [("_law_cell", 2)]) (blkOk_by (by rfl)) (i_seqB (toB (toD (r_script hA (r_var 0))))) (by decide) (fun _ _ _ _ _ => (g_name 2 sc_l_deck.nd rfl (by first | exact Or.inl rfl | exact Or.inr rfl))) (fun _ _ _ _ _ => ts_nil) (fun _ _ _ _ _ => (r_bin op_addAll opD_add (toB (r_bin op_mulAll opD_mul (toB r_int) (toB (r_callB call_abs ca_abs (by rfl) hd.b_abs (by decide +kernel) (b_cons (toB (r_var 2)) b_nil))))) (toB (r_callT call_int1 ca_int (by rfl) hd.b_int (by decide +kernel) (b_cons (toB (r_cmp op_lt opC_lt (toB (r_var 2)) (toB r_int) (nomark _))) b_nil))))))
  (ss_one (s_ret (toD (r_lst (a_cons (toD (r_lc rfl sc_l_deck.nd (own := [("_law_cell", 2)]) (blkOk_by (by rfl)) (i_seqB (r_varB 1)) (by decide) (fun _ _ _ _ _ => (g_name 2 sc_l_deck.nd rfl (by first | exact Or.inl rfl | exact Or.inr rfl))) (fun _ _ _ _ _ => (ts_one (t_cmp op_ge opC_ge (toB (r_var 2)) (toB (r_bin op_pow opD_pow (toB r_int) (toB r_int))) (nomark _)))) (fun _ _ _ _ _ => (r_var 2)))) (a_cons (r_bin op_addAll opD_add (r_varB 1) (toB (toD (r_lst (a_cons (r_bin op_addAll opD_add (toB (r_callB call_len ca_len (by rfl) hd.b_len PySem.boot_len (b_cons (r_varB 1) b_nil))) (toB r_int)) a_nil))))) (a_cons (r_callB (call_or (cr_sum rfl) (cr_sumT rfl)) ca_sum1 (by rfl) hd.b_sum (by decide +kernel) (b_cons (r_varB 1) b_nil)) (a_cons r_int a_nil)))))))))
--DRAW l_draw
theorem d_l_draw (hd : Hd K w mg) : DefG P w K mg base (PX2 a0 a1 a2) 1 "_law_draw" s_l_draw p_l_draw (drawT a0) := by
  have mint := hd.b_int
  have mlen := hd.b_len
  refine .mkRaw (N := n_l_draw) hd.at_l_draw sc_l_draw (fun _ _ _ _ _ _ us h => ?_) fun f cdv Ar outer s H E hr hg A G vs ds Q pa s1 hf r hl hw => ?_
  · match us, h with
    | [u, v], _ => rfl
  obtain ⟨⟨hF, hS⟩, h12⟩ := pa
  have hu64 : (Ar.deeper (envOfC "_law_draw" (defScope s_l_draw) s.heap.objs.size f cdv)).units + 64 < cLine := hr64 hr
  obtain ⟨n, rfl, n0, n1, hq⟩ := drawT_wp hw
  have rv := RpAll.two r
  subst rv
  refine ⟨_, pss_cons (ps_if (pt_cmpR (op_neD hu64) (pe_ix ix_list (pv 0) pe_int (fun _ _ => rfl)) (pe_lst pa_nil) (nomark _))
      (pss_cons (ps_set (i := 2) sc_l_draw.nd rfl (.inl rfl) (pe_ix ix_list (pe_ix ix_list (pv 0) pe_int (fun _ _ => rfl)) pe_int (fun _ _ => rfl)))
      (pss_cons (ps_if (pt_cmpR op_lt (pv 2) (pv 1) (nomark _))
        (pss_one (ps_expr (pe_bm PySem.F.plainAttrs_list PySem.F.slot_list_pop PySem.F.type_list_pop mt_popAt (pe_ix ix_list (pv 0) pe_int (fun _ _ => rfl)) (pa_cons pe_int pa_nil))))
        (pss_one (ps_asg (pe_op op_fdiv (pv 2) (pv 1)) (pg_sub (pe_ix ix_list (pv 0) pe_int (fun _ _ => rfl)) pe_int set_list))))
      (pss_one (ps_ret (pe_op op_mod (pe_callTy call_int1 (by rfl) mint (by decide +kernel) (pa_cons (pv 2) pa_nil)) (pv 1)))))) pss_nil)
    (pss_cons (ps_asg (pe_op op_add (pe_ix ix_list (pv 0) pe_int (fun _ _ => rfl)) pe_int) (pg_sub (pv 0) pe_int set_list))
    (pss_cons (ps_set (i := 3) sc_l_draw.nd rfl (.inl rfl) (pe_ix ix_list (pv 0) pe_int (fun _ _ => rfl)))
    (pss_cons (ps_set (i := 2) sc_l_draw.nd rfl (.inl rfl) (pe_ix ix_list (pe_ix ix_list (pv 0) pe_int (fun _ _ => rfl)) (pe_op op_mod (pe_callTy call_int1 (by rfl) mint (by decide +kernel) (pa_cons (pv 3) pa_nil)) (pe_callB call_len_seq (by rfl) mlen PySem.boot_len (pa_cons (pe_ix ix_list (pv 0) pe_int (fun _ _ => rfl)) pa_nil))) (fun _ _ => rfl)))
    (pss_cons (ps_set (i := 4) sc_l_draw.nd rfl (.inl rfl) (pe_op op_mod (pe_callTy call_int1 (by rfl) mint (by decide +kernel) (pa_cons (pe_op op_add (pe_op op_add (pe_op op_mul (pv 2) pe_int) (pe_op op_mul (pe_ix ix_list (pv 0) pe_int (fun _ _ => rfl)) pe_int)) (pe_op op_mul (pv 3) pe_int)) pa_nil)) pe_int))
    (pss_cons (ps_set (i := 4) sc_l_draw.nd rfl (.inl rfl) (pe_op op_mod (pe_callTy call_int1 (by rfl) mint (by decide +kernel) (pa_cons (pe_op op_add (pe_op op_add (pe_op op_mul (pv 4) (pv 4)) (pe_op op_mul (pv 3) pe_int)) pe_int) pa_nil)) pe_int))
    (pss_cons (ps_set (i := 4) sc_l_draw.nd rfl (.inl rfl) (pe_op op_mod (pe_callTy call_int1 (by rfl) mint (by decide +kernel) (pa_cons (pe_op op_add (pe_op op_add (pe_op op_mul (pv 4) (pv 4)) (pv 4)) (pv 2)) pa_nil)) pe_int))
    (pss_one (ps_ret (pe_op op_mod (pe_callTy call_int1 (by rfl) mint (by decide +kernel) (pa_cons (pe_op op_fdiv (pv 4) pe_int) pa_nil)) (pv 1)))))))))), ?_⟩
  have hSI := s1.si
  rw [hS] at hSI
  obtain ⟨es, cs, sm, tn, h0, h1, h2, hc⟩ := hSI
  have F0 : A.F a0 := by rw [hF]; exact .inl rfl
  have F1 : A.F a1 := by rw [hF]; exact .inr (.inl rfl)
  have n01 : a0 ≠ a1 := spr2_ne h0 h1
  have n02 : a0 ≠ a2 := spr2_ne h0 h2
  have fin : ∀ (x : Int) (H' : Hp), (∀ a o, ¬ A.F a → H a = some o → H' a = some o) → Spr2 a0 a1 a2 H' → Q (.int (x % n)) H' := fun x H' hk si =>
    hq (x % n) (Int.emod_nonneg x (by omega)) (Int.emod_lt_of_pos x n0) _ G H' (.upF s1 hf hk (by rw [hS]; exact si)) (.int _)
  obtain ⟨⟨q0, q1'⟩, q2', q3'⟩ := sq4 (.ref a1) (.ref a2) (.int sm) (.int tn)
  refine ⟨.ref a0, rfl, a0, _, 0, _, rfl, rfl, .inl (.inl h0), q0, Nat.zero_le _, fun q hq0 => ?_⟩
  have q1 : q ≠ a1 := fun z => by rw [z, h1] at hq0; cases hq0
  have e0q : a0 ≠ q := ne_of_none h0 hq0
  have e2q : a2 ≠ q := ne_of_none h2 hq0
  have h0q : (upd H q (.lst [])) a0 = _ := (upd_ne e0q).trans h0
  have h1q : (upd H q (.lst [])) a1 = _ := (upd_ne q1.symm).trans h1
  refine ⟨_, .list [], .lst (.inl (.inl h1q)) (dp_ints es), .lst (.inl (.inl upd_same)) .nil, shaped_ints es, rfl, _, rfl, ?_⟩
  rw [eqv_nil]
  have hb : (!(es.map PyData.int).isEmpty) = !es.isEmpty := by cases es <;> rfl
  rw [hb]
  cases he : es with
  | cons c er =>
    refine iteT ?_
    rw [he] at h1 h1q
    refine ⟨.ref a0, rfl, a0, _, 0, _, rfl, rfl, .inl (.inl h0q), q0, a1, _, 0, .int c, rfl, rfl, .inl (.inl h1q), atI_0 _ _, ?_⟩
    refine ⟨.int c, rfl, .int n, rfl, c, n, rfl, rfl, _, rfl, ?_⟩
    refine ite2 (fun _ => ?_) (fun _ => ?_)
    · refine ⟨.ref a0, rfl, a0, _, 0, _, rfl, rfl, .inl (.inl h0q), q0, .inl ⟨rfl, _, .inl (.inl h1q)⟩, a1, _, 0, 0, .int c, rfl, rfl, h1q, by decide, by decide, seqIndex_of (by decide) (by rw [List.length_map, List.length_cons]; omega), rfl, ?_⟩
      refine ⟨.int c, rfl, .inl ⟨c, rfl, .int n, rfl, c, n, rfl, rfl, n0, fin c _ (keep_tr (new_keep hq0) (upd_keep F1)) ⟨er, cs, sm, tn, ?_, ?_, ?_, hc⟩⟩⟩
      · rw [upd_ne n01]; exact h0q
      · rw [upd_same]; rfl
      · rw [upd_ne h12.symm, upd_ne e2q]; exact h2
    · refine ⟨.int c, rfl, .int n, rfl, c, n, rfl, rfl, ⟨n0, n1⟩, .ref a0, rfl, a0, _, 0, _, rfl, rfl, .inl (.inl h0q), q0, a1, _, 0, 0, rfl, rfl, h1q, ixN_0 (by rw [List.length_map, List.length_cons]; omega), ?_⟩
      refine ⟨.int c, rfl, .inl ⟨c, rfl, .int n, rfl, c, n, rfl, rfl, n0, fin c _ (keep_tr (new_keep hq0) (upd_keep F1)) ⟨(c / n) :: er, cs, sm, tn, ?_, ?_, ?_, hc⟩⟩⟩
      · rw [upd_ne n01]; exact h0q
      · rw [upd_same]; rfl
      · rw [upd_ne h12.symm, upd_ne e2q]; exact h2
  | nil =>
    refine iteF ?_
    have hsp : Spr2 a0 a1 a2 (upd (upd H q (.lst [])) a0 (.lst [.ref a1, .ref a2, .int sm, .int (tn + 1)])) := ⟨es, cs, sm, tn + 1, upd_same, by rw [upd_ne n01.symm]; exact h1q, by rw [upd_ne n02.symm, upd_ne e2q]; exact h2, hc⟩
    have hk : ∀ a u, ¬ A.F a → H a = some u → (upd (upd H q (.lst [])) a0 (.lst [.ref a1, .ref a2, .int sm, .int (tn + 1)])) a = some u := keep_tr (new_keep hq0) (upd_keep F0)
    refine ⟨.ref a0, rfl, a0, _, 3, _, rfl, rfl, .inl (.inl h0q), q3', tn, 1, rfl, rfl, .ref a0, rfl, a0, _, 3, 3, rfl, rfl, h0q, rfl, ?_⟩
    have g0 : (upd (upd H q (.lst [])) a0 (.lst [.ref a1, .ref a2, .int sm, .int (tn + 1)])) a0 = _ := upd_same
    have g2 : (upd (upd H q (.lst [])) a0 (.lst [.ref a1, .ref a2, .int sm, .int (tn + 1)])) a2 = some (.lst (cs.map V.int)) := by rw [upd_ne n02.symm, upd_ne e2q]; exact h2
    obtain ⟨⟨p0, p1⟩, p2, p3⟩ := sq4 (.ref a1) (.ref a2) (.int sm) (.int (tn + 1))
    obtain ⟨z, hz⟩ := at_mod (tn + 1) hc
    refine ⟨.ref a0, rfl, a0, _, 3, _, rfl, rfl, .inl (.inl g0), p3, ?_⟩
    refine ⟨.ref a0, rfl, a0, _, 1, _, rfl, rfl, .inl (.inl g0), p1, .int (tn + 1), rfl, .inl ⟨tn + 1, rfl, .ref a0, rfl, a0, _, 1, _, rfl, rfl, .inl (.inl g0), p1, a2, _, rfl, .inl (.inl (.inl g2)), tn + 1, _, rfl, rfl, ?_, a2, _, _, _, rfl, rfl, .inl (.inl g2), hz, ?_⟩⟩
    · rw [List.length_map]
      have := List.length_pos_iff.mpr hc
      show (0 : Int) < _
      omega
    refine ⟨.int z, rfl, z, 48271, rfl, rfl, .inr (by decide), .ref a0, rfl, a0, _, 2, _, rfl, rfl, .inl (.inl g0), p2, sm, 69621, rfl, rfl, .inr (by decide), _, _, rfl, rfl, .int (tn + 1), rfl, tn + 1, 2654435761, rfl, rfl, .inr (by decide), _, _, rfl, rfl, .inl ⟨_, rfl, _, _, rfl, rfl, (show (0 : Int) < 2305843009213693951 by decide), ?_⟩⟩
    refine ⟨_, rfl, _, rfl, _, _, rfl, rfl, .inl (mod_small _ (by decide) (by decide)), .int (tn + 1), rfl, tn + 1, 40692, rfl, rfl, .inr (by decide), _, _, rfl, rfl, _, 7, rfl, rfl, .inl ⟨_, rfl, _, _, rfl, rfl, (show (0 : Int) < 2305843009213693921 by decide), ?_⟩⟩
    refine ⟨_, rfl, _, rfl, _, _, rfl, rfl, .inl (mod_small _ (by decide) (by decide)), _, rfl, _, _, rfl, rfl, .int z, rfl, _, z, rfl, rfl, .inl ⟨_, rfl, _, _, rfl, rfl, (show (0 : Int) < 2147483647 by decide), ?_⟩⟩
    exact ⟨_, rfl, _, 64, rfl, rfl, ⟨by decide, by decide⟩, .inl ⟨_, rfl, .int n, rfl, _, n, rfl, rfl, n0, fin _ _ hk hsp⟩⟩

theorem d_l_order (hd : Hd K w mg) : DefG P w K mg base (PX2 a0 a1 a2) 2 "_law_order" s_l_order p_l_order (t_l_order a0) :=
  .mk' (N := n_l_order) hd.at_l_order sc_l_order bn_l_order fun f cdv Ar outer s H E hr hgd A hA hE => by
    have hu64 := hr64 hr
    have hu65 := hr65 hr
    have hu66 := hr66 hr
    exact (ss_cons (s_parM 2 3 rfl sc_l_order.nd rfl rfl (by decide) rfl rfl (m_n (r_callTN call_list_of ca_list (by rfl) hd.b_list (by decide +kernel) (b_cons (toB (r_var 1)) b_nil)) (m_n (r_lst a_nil) m_nil)) rfl)
  (ss_cons (s_for PassesOwn.never rfl (i_range1 (by rfl) hd.b_range (b_cons (toB (r_callB call_len ca_len (by rfl) hd.b_len PySem.boot_len (b_cons (toB (r_var 1)) b_nil))) b_nil)) (g_name 4 sc_l_order.nd rfl (.inl rfl)) (ss_one (s_appP 3 rfl (.inl rfl) (r_popAt 2 rfl (.inl rfl) (r_call ((d_l_draw hd).mono (k := 1) (by decide)) hr hgd hA hE (by rfl) (a_cons (r_var 0) (a_cons (r_callB call_len ca_len (by rfl) hd.b_len PySem.boot_len (b_cons (r_varB 2) b_nil)) a_nil)))))))
  (ss_one (s_frz [3] (s_ret (r_var 3))))))
theorem d_l_pick (hd : Hd K w mg) : DefG P w K mg base (PX2 a0 a1 a2) 2 "_law_pick" s_l_pick p_l_pick (t_l_pick a0) :=
  .mk' (N := n_l_pick) hd.at_l_pick sc_l_pick bn_l_pick fun f cdv Ar outer s H E hr hgd A hA hE => by
    have hu64 := hr64 hr
    have hu65 := hr65 hr
    have hu66 := hr66 hr
    exact (ss_one (s_ret (r_ix (toB (r_var 1)) (toB (r_call ((d_l_draw hd).mono (k := 1) (by decide)) hr hgd hA hE (by rfl) (a_cons (r_var 0) (a_cons (r_callB call_len ca_len (by rfl) hd.b_len PySem.boot_len (b_cons (toB (r_var 1)) b_nil)) a_nil)))))))
theorem d_l_lead (hd : Hd K w mg) : DefG P w K mg base PX 1 "_law_lead" s_l_lead p_l_lead t_l_lead :=
  .mk' (N := n_l_lead) hd.at_l_lead sc_l_lead bn_l_lead fun f cdv Ar outer s H E hr hgd A hA hE => by
    have hu64 := hr64 hr
    have hu65 := hr65 hr
    have hu66 := hr66 hr
    exact (ss_cons (s_for PassesOwn.never rfl (i_enum (by rfl) hd.b_enumerate (a_cons (r_var 0) a_nil)) (g_tup rfl (gs_cons (g_name 1 sc_l_lead.nd rfl (.inl rfl)) (gs_cons (g_name 2 sc_l_lead.nd rfl (.inl rfl)) gs_nil))) (ss_one (s_if (t_cmp (op_neAll hu64) opC_ne (toB (r_var 2)) (toB r_int) (nomark _)) (ss_one (s_ret (r_var 1))) ss_nil)))
  (ss_one (s_ret (r_callB call_len ca_len (by rfl) hd.b_len PySem.boot_len (b_cons (toB (r_var 0)) b_nil)))))
theorem d_l_is_integer (hd : Hd K w mg) : DefG P w K mg base PX 1 "_law_is_integer" s_l_is_integer p_l_is_integer t_l_is_integer :=
  .mk' (N := n_l_is_integer) hd.at_l_is_integer sc_l_is_integer bn_l_is_integer fun f cdv Ar outer s H E hr hgd A hA hE => by
    have hu64 := hr64 hr
    have hu65 := hr65 hr
    have hu66 := hr66 hr
    exact (ss_one (s_ret (r_and (r_isi (t := "int") (by rfl) hd.b_isinstance (by rfl) hd.b_int (by decide +kernel) (toB (r_var 0))) (r_one (r_not (toB (r_isi (t := "bool") (by rfl) hd.b_isinstance (by rfl) hd.b_bool (by decide +kernel) (toB (r_var 0)))))))))
theorem d_l_is_row (hd : Hd K w mg) : DefG P w K mg base PX 2 "_law_is_row" s_l_is_row p_l_is_row t_l_is_row :=
  .mk' (N := n_l_is_row) hd.at_l_is_row sc_l_is_row bn_l_is_row fun f cdv Ar outer s H E hr hgd A hA hE => by
    have hu64 := hr64 hr
    have hu65 := hr65 hr
    have hu66 := hr66 hr
    exact (ss_cons (s_if (t_pw (t_or (t_not (t_truth (toB (r_isi (t := "tuple") (by rfl) hd.b_isinstance (by rfl) hd.b_tuple (by decide +kernel) (toB (r_var 2)))))) (t_or1 (t_cmp (op_neAll hu64) opC_ne (toB (r_callB call_len ca_len (by rfl) hd.b_len PySem.boot_len (b_cons (toB (r_var 2)) b_nil))) (toB (r_var 1)) (nomark _))))) (ss_one (s_ret r_bl)) ss_nil)
  (ss_one (s_ret (r_cmp (op_eqAllL hu64) opC_eqL (toB (toD (r_lc rfl sc_l_is_row.nd (own := [("_law_own", 3)]) (blkOk_by (by rfl)) (i_seqB (toB (r_var 2))) (by decide) (fun _ _ _ _ _ => (g_name 3 sc_l_is_row.nd rfl (by first | exact Or.inl rfl | exact Or.inr rfl))) (fun _ _ _ _ _ => (ts_one (t_pw (t_or (t_not (t_truth (toB (r_call ((d_l_is_integer hd).mono (k := 1) (by decide)) hr hgd hA hE (by rfl) (a_cons (r_var 3) a_nil))))) (t_or (t_cmp op_lt opC_lt (toB (r_var 3)) (toB r_int) (nomark _)) (t_or1 (t_cmp op_ge opC_ge (toB (r_var 3)) (toB (r_var 0)) (nomark _)))))))) (fun _ _ _ _ _ => r_int)))) (toB (toD (r_lst a_nil))) (nomark _)))))
theorem d_l_due (hd : Hd K w mg) : DefG P w K mg base PX 3 "_law_due" s_l_due p_l_due t_l_due :=
  .mk' (N := n_l_due) hd.at_l_due sc_l_due bn_l_due fun f cdv Ar outer s H E hr hgd A hA hE => by
    have hu64 := hr64 hr
    have hu65 := hr65 hr
    have hu66 := hr66 hr
    exact (ss_cons (s_if (t_pw (t_or (t_not (t_truth (toB (r_isi (t := "tuple") (by rfl) hd.b_isinstance (by rfl) hd.b_tuple (by decide +kernel) (toB (r_var 0)))))) (t_or1 (t_cmp (op_neAll hu64) opC_ne (toB (r_callB call_len ca_len (by rfl) hd.b_len PySem.boot_len (b_cons (toB (r_var 0)) b_nil))) (toB r_int) (nomark _))))) (ss_one (s_ret r_str)) ss_nil)
  (ss_cons (s_asg (r_var 0) (g_tup rfl (gs_cons (g_name 1 sc_l_due.nd rfl (.inl rfl)) (gs_cons (g_name 2 sc_l_due.nd rfl (.inl rfl)) (gs_cons (g_name 3 sc_l_due.nd rfl (.inl rfl)) gs_nil)))))
  (ss_cons (s_if (t_pw (t_or (t_not (t_truth (toB (r_call ((d_l_is_integer hd).mono (k := 2) (by decide)) hr hgd hA hE (by rfl) (a_cons (r_var 1) a_nil))))) (t_or1 (t_cmp (op_notInAll hu65) opC_notIn (toB (r_var 1)) (toB (r_tup (a_cons r_int (a_cons r_int (a_cons r_int (a_cons r_int a_nil)))))) rfl)))) (ss_one (s_ret r_str)) ss_nil)
  (ss_cons (s_if (t_pw (t_or (t_not (t_truth (toB (r_call ((d_l_is_integer hd).mono (k := 2) (by decide)) hr hgd hA hE (by rfl) (a_cons (r_var 2) a_nil))))) (t_or (t_cmp op_lt opC_lt (toB (r_var 2)) (toB r_int) (nomark _)) (t_or1 (t_cmp op_gt opC_gt (toB (r_var 2)) (toB r_int) (nomark _)))))) (ss_one (s_ret r_str)) ss_nil)
  (ss_cons (s_if (t_not (t_truth (toB (r_isi (t := "tuple") (by rfl) hd.b_isinstance (by rfl) hd.b_tuple (by decide +kernel) (toB (r_var 3)))))) (ss_one (s_ret r_str)) ss_nil)
  (ss_cons (s_for PassesOwn.never rfl (i_enum (by rfl) hd.b_enumerate (a_cons (r_var 3) a_nil)) (g_tup rfl (gs_cons (g_name 4 sc_l_due.nd rfl (.inl rfl)) (gs_cons (g_name 5 sc_l_due.nd rfl (.inl rfl)) gs_nil))) (ss_one (s_if (t_not (t_truth (toB (r_call ((d_l_is_row hd).mono (k := 2) (by decide)) hr hgd hA hE (by rfl) (a_cons (r_var 1) (a_cons (r_var 2) (a_cons (r_var 5) a_nil))))))) (ss_one (s_ret (r_var 4))) ss_nil)))
  (ss_cons (s_ownLc 6 rfl sc_l_due.nd rfl rfl (sw_true rfl rfl rfl (by decide +kernel)) (own := [("_law_item_here", 5)]) (blkOk_by (by rfl)) (i_seqB (toB (r_var 3))) (by decide) (fun _ _ _ _ _ => (g_name 5 sc_l_due.nd rfl (by first | exact Or.inl rfl | exact Or.inr rfl))) (fun _ _ _ _ _ => ts_nil) (fun _ _ _ _ _ => (r_call ((d_l_lead hd).mono (k := 2) (by decide)) hr hgd hA hE (by rfl) (a_cons (r_var 5) a_nil))))
  (ss_cons (s_frz [6] (s_for PassesOwn.never rfl (i_enum (by rfl) hd.b_enumerate (a_cons (r_var 6) a_nil)) (g_tup rfl (gs_cons (g_name 4 sc_l_due.nd rfl (.inl rfl)) (gs_cons (g_name 7 sc_l_due.nd rfl (.inl rfl)) gs_nil))) (ss_one (s_if (t_pw (t_or (t_cmp (op_eqAll hu64) opC_eq (toB (r_var 7)) (toB (r_var 2)) (nomark _)) (t_or1 (t_cmp (op_neAll hu64) opC_ne (toB (r_ix (toB (r_ix (toB (r_var 3)) (toB (r_var 4)))) (toB (r_var 7)))) (toB r_int) (nomark _))))) (ss_one (s_ret (r_tup (a_cons r_str (a_cons (r_var 4) a_nil))))) ss_nil))))
  (ss_cons (s_for PassesOwn.never rfl (i_range2 (by rfl) hd.b_range (b_cons (toB r_int) (b_cons (toB (r_callB call_len ca_len (by rfl) hd.b_len PySem.boot_len (b_cons (r_varB 6) b_nil))) b_nil))) (g_name 4 sc_l_due.nd rfl (.inl rfl)) (ss_one (s_if (t_cmp op_le opC_le (toB (r_ix (r_varB 6) (toB (r_var 4)))) (toB (r_ix (r_varB 6) (toB (r_bin op_sub opD_sub (toB (r_var 4)) (toB r_int))))) (nomark _)) (ss_one (s_ret (r_tup (a_cons r_str (a_cons (r_var 4) a_nil))))) ss_nil)))
  (ss_cons (s_frz [6] (s_for PassesOwn.never rfl (i_enum (by rfl) hd.b_enumerate (a_cons (r_var 6) a_nil)) (g_tup rfl (gs_cons (g_name 4 sc_l_due.nd rfl (.inl rfl)) (gs_cons (g_name 7 sc_l_due.nd rfl (.inl rfl)) gs_nil))) (ss_one (s_for PassesOwn.never rfl (i_enum (by rfl) hd.b_enumerate (a_cons (r_var 3) a_nil)) (g_tup rfl (gs_cons (g_name 8 sc_l_due.nd rfl (.inl rfl)) (gs_cons (g_name 5 sc_l_due.nd rfl (.inl rfl)) gs_nil))) (ss_one (s_if (t_pw (t_and (t_cmp (op_neAll hu64) opC_ne (toB (r_var 8)) (toB (r_var 4)) (nomark _)) (t_and1 (t_cmp (op_neAll hu64) opC_ne (toB (r_ix (toB (r_var 5)) (toB (r_var 7)))) (toB r_int) (nomark _))))) (ss_one (s_ret (r_tup (a_cons (r_var 4) (a_cons (r_var 8) a_nil))))) ss_nil))))))
  (ss_one (s_ret r_non))))))))))))
theorem d_lead_of (hd : Hd K w mg) : DefG P w K mg base PX 1 "lead_of" s_lead_of p_lead_of t_lead_of :=
  .mk' (N := n_lead_of) hd.at_lead_of sc_lead_of bn_lead_of fun f cdv Ar outer s H E hr hgd A hA hE => by
    have hu64 := hr64 hr
    have hu65 := hr65 hr
    have hu66 := hr66 hr
    exact (ss_cons (s_for PassesOwn.never rfl (i_range1 (by rfl) hd.b_range (b_cons (toB (r_callB call_len ca_len (by rfl) hd.b_len PySem.boot_len (b_cons (toB (r_var 0)) b_nil))) b_nil)) (g_name 1 sc_lead_of.nd rfl (.inl rfl)) (ss_one (s_if (t_cmp (op_neAll hu64) opC_ne (toB (r_ix (toB (r_var 0)) (toB (r_var 1)))) (toB r_int) (nomark _)) (ss_one (s_ret (r_var 1))) ss_nil)))
  (ss_one (s_ret r_non)))
theorem d_stairs_error (hd : Hd K w mg) : DefG P w K mg base PX 2 "stairs_error" s_stairs_error p_stairs_error t_stairs_error :=
  .mk' (N := n_stairs_error) hd.at_stairs_error sc_stairs_error bn_stairs_error fun f cdv Ar outer s H E hr hgd A hA hE => by
    have hu64 := hr64 hr
    have hu65 := hr65 hr
    have hu66 := hr66 hr
    exact (ss_cons (s_ownLc 1 rfl sc_stairs_error.nd rfl rfl (sw_true rfl rfl rfl (by decide +kernel)) (own := [("row", 2)]) (blkOk_by (by rfl)) (i_seqB (toB (r_var 0))) (by decide) (fun _ _ _ _ _ => (g_name 2 sc_stairs_error.nd rfl (by first | exact Or.inl rfl | exact Or.inr rfl))) (fun _ _ _ _ _ => ts_nil) (fun _ _ _ _ _ => (r_call ((d_lead_of hd).mono (k := 1) (by decide)) hr hgd hA hE (by rfl) (a_cons (r_var 2) a_nil))))
  (ss_cons (s_for PassesOwn.never rfl (i_range1 (by rfl) hd.b_range (b_cons (toB (r_callB call_len ca_len (by rfl) hd.b_len PySem.boot_len (b_cons (toB (r_var 0)) b_nil))) b_nil)) (g_name 3 sc_stairs_error.nd rfl (.inl rfl)) (ss_one (s_if (t_pw (t_or (t_cmp op_isN opC_isN (toB (r_ix (r_varB 1) (toB (r_var 3)))) (toB r_non) (nomark _)) (t_or1 (t_cmp (op_neAll hu64) opC_ne (toB (r_ix (toB (r_ix (toB (r_var 0)) (toB (r_var 3)))) (toB (r_ix (r_varB 1) (toB (r_var 3)))))) (toB r_int) (nomark _))))) (ss_one (s_ret (r_tup (a_cons r_str (a_cons (r_var 3) a_nil))))) ss_nil)))
  (ss_cons (s_for PassesOwn.never rfl (i_range2 (by rfl) hd.b_range (b_cons (toB r_int) (b_cons (toB (r_callB call_len ca_len (by rfl) hd.b_len PySem.boot_len (b_cons (toB (r_var 0)) b_nil))) b_nil))) (g_name 3 sc_stairs_error.nd rfl (.inl rfl)) (ss_one (s_if (t_cmp op_le opC_le (toB (r_ix (r_varB 1) (toB (r_var 3)))) (toB (r_ix (r_varB 1) (toB (r_bin op_sub opD_sub (toB (r_var 3)) (toB r_int))))) (nomark _)) (ss_one (s_ret (r_tup (a_cons r_str (a_cons (r_var 3) a_nil))))) ss_nil)))
  (ss_cons (s_for PassesOwn.never rfl (i_range1 (by rfl) hd.b_range (b_cons (toB (r_callB call_len ca_len (by rfl) hd.b_len PySem.boot_len (b_cons (toB (r_var 0)) b_nil))) b_nil)) (g_name 3 sc_stairs_error.nd rfl (.inl rfl)) (ss_one (s_for PassesOwn.never rfl (i_range1 (by rfl) hd.b_range (b_cons (toB (r_callB call_len ca_len (by rfl) hd.b_len PySem.boot_len (b_cons (toB (r_var 0)) b_nil))) b_nil)) (g_name 4 sc_stairs_error.nd rfl (.inl rfl)) (ss_one (s_if (t_pw (t_and (t_cmp (op_neAll hu64) opC_ne (toB (r_var 4)) (toB (r_var 3)) (nomark _)) (t_and1 (t_cmp (op_neAll hu64) opC_ne (toB (r_ix (toB (r_ix (toB (r_var 0)) (toB (r_var 4)))) (toB (r_ix (r_varB 1) (toB (r_var 3)))))) (toB r_int) (nomark _))))) (ss_one (s_ret (r_tup (a_cons (r_var 3) (a_cons (r_var 4) a_nil))))) ss_nil)))))
  (ss_one (s_ret r_non))))))
theorem d_is_below (hd : Hd K w mg) : DefG P w K mg base PX 1 "is_below" s_is_below p_is_below t_is_below :=
  .mk' (N := n_is_below) hd.at_is_below sc_is_below bn_is_below fun f cdv Ar outer s H E hr hgd A hA hE => by
    have hu64 := hr64 hr
    have hu65 := hr65 hr
    have hu66 := hr66 hr
    exact (ss_one (s_ret (r_and (r_isi (t := "int") (by rfl) hd.b_isinstance (by rfl) hd.b_int (by decide +kernel) (toB (r_var 0))) (r_and (r_not (toB (r_isi (t := "bool") (by rfl) hd.b_isinstance (by rfl) hd.b_bool (by decide +kernel) (toB (r_var 0))))) (r_one (r_chain op_le op_lt opC_le opC_lt (toB r_int) (toB (r_var 0)) (toB (r_var 1))))))))
theorem d_is_row (hd : Hd K w mg) : DefG P w K mg base PX 2 "is_row" s_is_row p_is_row t_is_row :=
  .mk' (N := n_is_row) hd.at_is_row sc_is_row bn_is_row fun f cdv Ar outer s H E hr hgd A hA hE => by
    have hu64 := hr64 hr
    have hu65 := hr65 hr
    have hu66 := hr66 hr
    exact (ss_one (s_ret (r_and (r_isi (t := "tuple") (by rfl) hd.b_isinstance (by rfl) hd.b_tuple (by decide +kernel) (toB (r_var 2))) (r_and (r_cmp (op_eqAll hu64) opC_eq (toB (r_callB call_len ca_len (by rfl) hd.b_len PySem.boot_len (b_cons (toB (r_var 2)) b_nil))) (toB (r_var 1)) (nomark _)) (r_one (r_callB (cr_all rfl) ca_all (by rfl) hd.b_all (by decide +kernel) (b_cons (toB (toD (r_lc rfl sc_is_row.nd (own := [("number", 3)]) (blkOk_by (by rfl)) (i_seqB (toB (r_var 2))) (by decide) (fun _ _ _ _ _ => (g_name 3 sc_is_row.nd rfl (by first | exact Or.inl rfl | exact Or.inr rfl))) (fun _ _ _ _ _ => ts_nil) (fun _ _ _ _ _ => (r_call ((d_is_below hd).mono (k := 1) (by decide)) hr hgd hA hE (by rfl) (a_cons (r_var 3) (a_cons (r_var 0) a_nil))))))) b_nil)))))))
theorem d_flat_error (hd : Hd K w mg) : DefG P w K mg base PX 3 "flat_error" s_flat_error p_flat_error t_flat_error :=
  .mk' (N := n_flat_error) hd.at_flat_error sc_flat_error bn_flat_error fun f cdv Ar outer s H E hr hgd A hA hE => by
    have hu64 := hr64 hr
    have hu65 := hr65 hr
    have hu66 := hr66 hr
    exact (ss_cons (s_if (t_pw (t_or (t_not (t_truth (toB (r_isi (t := "tuple") (by rfl) hd.b_isinstance (by rfl) hd.b_tuple (by decide +kernel) (toB (r_var 0)))))) (t_or (t_cmp (op_neAll hu64) opC_ne (toB (r_callB call_len ca_len (by rfl) hd.b_len PySem.boot_len (b_cons (toB (r_var 0)) b_nil))) (toB r_int) (nomark _)) (t_or (t_not (t_truth (toB (r_call ((d_is_below hd).mono (k := 2) (by decide)) hr hgd hA hE (by rfl) (a_cons (r_ix (toB (r_var 0)) (toB r_int)) (a_cons r_int a_nil)))))) (t_or1 (t_cmp (op_notInAll hu65) opC_notIn (toB (r_ix (toB (r_var 0)) (toB r_int))) (toB (r_glob (by rfl) hd.c_PRIMES)) rfl)))))) (ss_one (s_ret r_str)) ss_nil)
  (ss_cons (s_asg (r_var 0) (g_tup rfl (gs_cons (g_name 1 sc_flat_error.nd rfl (.inl rfl)) (gs_cons (g_name 2 sc_flat_error.nd rfl (.inl rfl)) (gs_cons (g_name 3 sc_flat_error.nd rfl (.inl rfl)) gs_nil)))))
  (ss_cons (s_if (t_not (t_truth (toB (r_call ((d_is_below hd).mono (k := 2) (by decide)) hr hgd hA hE (by rfl) (a_cons (r_var 2) (a_cons (r_bin op_addAll opD_add (toB (r_glob (by rfl) hd.c_MAX_ENDS)) (toB r_int)) a_nil)))))) (ss_one (s_ret r_str)) ss_nil)
  (ss_cons (s_if (t_not (t_truth (toB (r_isi (t := "tuple") (by rfl) hd.b_isinstance (by rfl) hd.b_tuple (by decide +kernel) (toB (r_var 3)))))) (ss_one (s_ret r_str)) ss_nil)
  (ss_cons (s_for PassesOwn.never rfl (i_range1 (by rfl) hd.b_range (b_cons (toB (r_callB call_len ca_len (by rfl) hd.b_len PySem.boot_len (b_cons (toB (r_var 3)) b_nil))) b_nil)) (g_name 4 sc_flat_error.nd rfl (.inl rfl)) (ss_one (s_if (t_not (t_truth (toB (r_call ((d_is_row hd).mono (k := 2) (by decide)) hr hgd hA hE (by rfl) (a_cons (r_var 1) (a_cons (r_var 2) (a_cons (r_ix (toB (r_var 3)) (toB (r_var 4))) a_nil))))))) (ss_one (s_ret (r_var 4))) ss_nil)))
  (ss_one (s_ret (r_call ((d_stairs_error hd).mono (k := 2) (by decide)) hr hgd hA hE (by rfl) (a_cons (r_var 3) a_nil)))))))))
theorem d_l_is_told (hd : Hd K w mg) : DefG P w K mg base PX 4 "_law_is_told" s_l_is_told p_l_is_told t_l_is_told :=
  .mk' (N := n_l_is_told) hd.at_l_is_told sc_l_is_told bn_l_is_told fun f cdv Ar outer s H E hr hgd A hA hE => by
    have hu64 := hr64 hr
    have hu65 := hr65 hr
    have hu66 := hr66 hr
    exact (ss_cons (s_par 1 2 rfl sc_l_is_told.nd rfl rfl (by decide) rfl rfl (a_cons (r_callB (call_repr3 hgd hu66) ca_repr3 (by rfl) hd.b_repr (by decide +kernel) (b_cons (toB (r_var 0)) b_nil)) (a_cons (r_call ((d_l_due hd).mono (k := 3) (by decide)) hr hgd hA hE (by rfl) (a_cons (r_var 0) a_nil)) a_nil)) rfl)
  (ss_cons (s_set 3 sc_l_is_told.nd rfl (.inl rfl) (toD (r_lst (a_cons (r_call ((d_flat_error hd).mono (k := 3) (by decide)) hr hgd hA hE (by rfl) (a_cons (r_var 0) a_nil)) (a_cons (r_callK0 ((d_flat_error hd).mono (k := 3) (by decide)) kw_flat_error_0 hr hgd hA hE (by rfl) (k_cons (r_var 0) k_nil) rfl (pickLen _ (by decide))) (a_cons (r_call ((d_flat_error hd).mono (k := 3) (by decide)) hr hgd hA hE (by rfl) (a_cons (r_var 0) a_nil)) a_nil))))))
  (ss_one (s_ret (r_and (r_cmp (op_eqAll hu64) opC_eq (toB (r_callB (call_repr3 hgd hu66) ca_repr3 (by rfl) hd.b_repr (by decide +kernel) (b_cons (toB (r_var 3)) b_nil))) (toB (r_callB (call_repr3 hgd hu66) ca_repr3 (by rfl) hd.b_repr (by decide +kernel) (b_cons (toB (toD (r_lst (a_cons (r_var 2) (a_cons (r_var 2) (a_cons (r_var 2) a_nil)))))) b_nil))) (nomark _)) (r_one (r_cmp (op_eqAll hu64) opC_eq (toB (r_callB (call_repr3 hgd hu66) ca_repr3 (by rfl) hd.b_repr (by decide +kernel) (b_cons (toB (r_var 0)) b_nil))) (toB (r_var 1)) (nomark _))))))))
theorem d_inverse (hd : Hd K w mg) : DefX P w K mg base PX 4 "inverse" s_inverse p_inverse t_inverse :=
  .mk' (N := n_inverse) hd.at_inverse sc_inverse bn_inverse fun f cdv Ar outer s H E hr hgd A hA tk => by
    have hu64 := hr64 hr
    have hu65 := hr65 hr
    have hu66 := hr66 hr
    exact (ss_cons (s_for PassesOwn.leaving rfl (i_range2 (by rfl) hd.b_range (b_cons (toB r_int) (b_cons (toB (r_var 0)) b_nil))) (g_name 2 sc_inverse.nd rfl (.inl rfl)) (ss_one (s_if (t_cmp (op_eqAll hu64) opC_eq (toB (r_bin op_mod opD_mod (toB (r_bin op_mulAll opD_mul (toB (r_var 1)) (toB (r_var 2)))) (toB (r_var 0)))) (toB r_int) (nomark _)) (ss_one (s_ret (r_var 2))) ss_nil)))
  (ss_one (s_raise0 hd.x_Unfit rfl tk (by rfl))))
theorem d_l_inverted (hd : Hd K w mg) : DefG P w K mg base PX 5 "_law_inverted" s_l_inverted p_l_inverted t_l_inverted :=
  .mk' (N := n_l_inverted) hd.at_l_inverted sc_l_inverted bn_l_inverted fun f cdv Ar outer s H E hr hgd A hA hE => by
    have hu64 := hr64 hr
    have hu65 := hr65 hr
    have hu66 := hr66 hr
    exact (ss_one (s_try (cs := xcs) (l := [("Unfit", none, (fun a c es => (dRet (dLst (dCons (cst (.str "unfit")) dNil))))), ("BoxError", none, (fun a c es => (dRet (dLst (dCons (cst (.str "other")) dNil)))))]) rfl rfl (takes_no hE) (fun pn xe G1 H1 E1 tk hp => (ss_one (s_ret (toD (r_lst (a_cons r_str (a_cons (r_callX ((d_inverse hd).mono (k := 4) (by decide)) hr hgd hA tk (by rfl) (a_cons (r_var 0) (a_cons (r_var 1) a_nil))) (a_cons (r_callK0X ((d_inverse hd).mono (k := 4) (by decide)) kw_inverse_1 hr hgd hA tk (by rfl) (k_cons (r_var 1) (k_cons (r_var 0) k_nil)) rfl (pickLen _ (by decide))) a_nil)))))))) (.bare (w := (fun a c es => (dRet (dLst (dCons (cst (.str "unfit")) dNil))))) (hd.xt.names (by decide) (by rfl)) (fun _ _ _ _ => rfl) (fun a oe cls d pn G1 H1 c es hc hz hf xr => (ss_one (s_ret (toD (r_lst (a_cons r_str a_nil)))))) (.bare (w := (fun a c es => (dRet (dLst (dCons (cst (.str "other")) dNil))))) (hd.xt.names (by decide) (by rfl)) (fun _ _ _ _ => rfl) (fun a oe cls d pn G1 H1 c es hc hz hf xr => (ss_one (s_ret (toD (r_lst (a_cons r_str a_nil)))))) .nil))))
theorem d_l_is_inverse (hd : Hd K w mg) : DefG P w K mg base PX 6 "_law_is_inverse" s_l_is_inverse p_l_is_inverse t_l_is_inverse :=
  .mk' (N := n_l_is_inverse) hd.at_l_is_inverse sc_l_is_inverse bn_l_is_inverse fun f cdv Ar outer s H E hr hgd A hA hE => by
    have hu64 := hr64 hr
    have hu65 := hr65 hr
    have hu66 := hr66 hr
    exact (ss_cons (s_for PassesOwn.never rfl (i_seq (r_tup (a_cons r_int (a_cons r_int (a_cons r_int (a_cons r_int a_nil)))))) (g_name 0 sc_l_is_inverse.nd rfl (.inr rfl)) (ss_cons (s_if (t_cmp (op_neAll hu64) opC_ne (toB (r_callB (call_repr3 hgd hu66) ca_repr3 (by rfl) hd.b_repr (by decide +kernel) (b_cons (toB (r_call ((d_l_inverted hd).mono (k := 5) (by decide)) hr hgd hA hE (by rfl) (a_cons (r_var 0) (a_cons r_int a_nil)))) b_nil))) (toB (r_callB (call_repr3 hgd hu66) ca_repr3 (by rfl) hd.b_repr (by decide +kernel) (b_cons (toB (toD (r_lst (a_cons r_str a_nil)))) b_nil))) (nomark _)) (ss_one (s_ret r_bl)) ss_nil)
    (ss_one (s_for PassesOwn.never rfl (i_range2 (by rfl) hd.b_range (b_cons (toB r_int) (b_cons (toB (r_var 0)) b_nil))) (g_name 1 sc_l_is_inverse.nd rfl (.inr rfl)) (ss_cons (s_ownLc 2 rfl sc_l_is_inverse.nd rfl rfl (sw_true rfl rfl rfl (by decide +kernel)) (own := [("_law_mate", 3)]) (blkOk_by (by rfl)) (toIB (i_range1 (by rfl) hd.b_range (b_cons (toB (r_var 0)) b_nil))) (by decide) (fun _ _ _ _ _ => (g_name 3 sc_l_is_inverse.nd rfl (by first | exact Or.inl rfl | exact Or.inr rfl))) (fun _ _ _ _ _ => (ts_one (t_cmp (op_eqAll hu64) opC_eq (toB (r_bin op_mod opD_mod (toB (r_callT call_int1 ca_int (by rfl) hd.b_int (by decide +kernel) (b_cons (toB (r_bin op_mulAll opD_mul (toB (r_var 1)) (toB (r_var 3)))) b_nil))) (toB (r_var 0)))) (toB r_int) (nomark _)))) (fun _ _ _ _ _ => (r_var 3)))
      (ss_one (s_if (t_pw (t_or (t_cmp (op_neAll hu64) opC_ne (toB (r_callB (call_repr3 hgd hu66) ca_repr3 (by rfl) hd.b_repr (by decide +kernel) (b_cons (toB (r_call ((d_l_inverted hd).mono (k := 5) (by decide)) hr hgd hA hE (by rfl) (a_cons (r_var 0) (a_cons (r_var 1) a_nil)))) b_nil))) (toB (r_callB (call_repr3 hgd hu66) ca_repr3 (by rfl) hd.b_repr (by decide +kernel) (b_cons (toB (toD (r_lst (a_cons r_str (a_cons (r_ix (r_varB 2) (toB r_int)) (a_cons (r_ix (r_varB 2) (toB r_int)) a_nil)))))) b_nil))) (nomark _)) (t_or1 (t_cmp (op_neAll hu64) opC_ne (toB (r_call (DefX.toG ((d_inverse hd).mono (k := 5) (by decide))) hr hgd hA hE (by rfl) (a_cons (r_var 0) (a_cons (r_ix (r_varB 2) (toB r_int)) a_nil)))) (toB (r_var 1)) (nomark _))))) (ss_one (s_ret r_bl)) ss_nil)))))))
  (ss_one (s_ret r_bl)))
theorem d_l_flat (hd : Hd K w mg) : DefG P w K mg base (PX2 a0 a1 a2) 3 "_law_flat" s_l_flat p_l_flat (t_l_flat a0) :=
  .mk' (N := n_l_flat) hd.at_l_flat sc_l_flat bn_l_flat fun f cdv Ar outer s H E hr hgd A hA hE => by
    have hu64 := hr64 hr
    have hu65 := hr65 hr
    have hu66 := hr66 hr
    exact (ss_cons (s_asgM rfl (m_v (r_call ((d_l_pick hd).mono (k := 2) (by decide)) hr hgd hA hE (by rfl) (a_cons (r_var 0) (a_cons (toD (r_lst (a_cons r_int (a_cons r_int (a_cons r_int (a_cons r_int (a_cons r_int (a_cons r_int a_nil)))))))) a_nil))) (m_n (r_lst a_nil) m_nil)) (gn_cons (pg_name (i := 3) sc_l_flat.nd rfl (.inr rfl)) (gn_cons (pg_name (i := 4) sc_l_flat.nd rfl (.inl rfl)) gn_nil)))
  (ss_cons (s_set 5 sc_l_flat.nd rfl (.inr rfl) (toD (r_lc rfl sc_l_flat.nd (own := [("_law_at", 6)]) (blkOk_by (by rfl)) (toIB (i_range1 (by rfl) hd.b_range (b_cons (toB (r_var 2)) b_nil))) (by decide) (fun _ _ _ _ _ => (g_name 6 sc_l_flat.nd rfl (by first | exact Or.inl rfl | exact Or.inr rfl))) (fun _ _ _ _ _ => (ts_one (t_cmp op_lt opC_lt (toB (r_call ((d_l_draw hd).mono (k := 2) (by decide)) hr hgd hA hE (by rfl) (a_cons (r_var 0) (a_cons r_int a_nil)))) (toB (r_var 3)) (nomark _)))) (fun _ _ _ _ _ => (r_var 6)))))
  (ss_cons (s_for PassesOwn.never rfl (i_seq (r_var 5)) (g_name 7 sc_l_flat.nd rfl (.inr rfl)) (ss_cons (s_ownLc 8 rfl sc_l_flat.nd rfl rfl (sw_true rfl rfl rfl (by decide +kernel)) (own := [("_law_at", 6)]) (blkOk_by (by rfl)) (toIB (i_range1 (by rfl) hd.b_range (b_cons (toB (r_var 2)) b_nil))) (by decide) (fun _ _ _ _ _ => (g_name 6 sc_l_flat.nd rfl (by first | exact Or.inl rfl | exact Or.inr rfl))) (fun _ _ _ _ _ => ts_nil) (fun _ _ _ _ _ => (r_if (t_pw (t_and (t_cmp op_gt opC_gt (toB (r_var 6)) (toB (r_var 7)) (nomark _)) (t_and1 (t_cmp (op_notInAll hu65) opC_notIn (toB (r_var 6)) (toB (r_var 5)) rfl)))) (r_call ((d_l_draw hd).mono (k := 2) (by decide)) hr hgd hA hE (by rfl) (a_cons (r_var 0) (a_cons (r_var 1) a_nil))) r_int)))
    (ss_cons (s_setIx 8 rfl (.inl rfl) r_int (toB (r_var 7)))
    (ss_one (s_app 4 rfl (.inl rfl) (r_callT call_tuple_of ca_tuple (by rfl) hd.b_tuple (by decide +kernel) (b_cons (r_varB 8) b_nil)))))))
  (ss_one (s_ret (r_tup (a_cons (r_var 1) (a_cons (r_var 2) (a_cons (r_callT call_tuple_of ca_tuple (by rfl) hd.b_tuple (by decide +kernel) (b_cons (r_varB 4) b_nil)) a_nil)))))))))
theorem d_l_drawn (hd : Hd K w mg) : DefG P w K mg base (PX2 a0 a1 a2) 2 "_law_drawn" s_l_drawn p_l_drawn (t_l_drawn a0) :=
  .mk' (N := n_l_drawn) hd.at_l_drawn sc_l_drawn bn_l_drawn fun f cdv Ar outer s H E hr hgd A hA hE => by
    have hu64 := hr64 hr
    have hu65 := hr65 hr
    have hu66 := hr66 hr
    exact (ss_one (s_ret (r_callT call_tuple_of ca_tuple (by rfl) hd.b_tuple (by decide +kernel) (b_cons (toB (toD (r_lc rfl sc_l_drawn.nd (own := [("_law_at", 3)]) (blkOk_by (by rfl)) (toIB (i_range1 (by rfl) hd.b_range (b_cons (toB (r_var 2)) b_nil))) (by decide) (fun _ _ _ _ _ => (g_name 3 sc_l_drawn.nd rfl (by first | exact Or.inl rfl | exact Or.inr rfl))) (fun _ _ _ _ _ => ts_nil) (fun _ _ _ _ _ => (r_if (t_cmp op_gt opC_gt (toB (r_call ((d_l_draw hd).mono (k := 1) (by decide)) hr hgd hA hE (by rfl) (a_cons (r_var 0) (a_cons r_int a_nil)))) (toB r_int) (nomark _)) (r_call ((d_l_draw hd).mono (k := 1) (by decide)) hr hgd hA hE (by rfl) (a_cons (r_var 0) (a_cons (r_var 1) a_nil))) r_int))))) b_nil))))
theorem d_l_sum (hd : Hd K w mg) : DefG P w K mg base PX 1 "_law_sum" s_l_sum p_l_sum t_l_sum :=
  .mk' (N := n_l_sum) hd.at_l_sum sc_l_sum bn_l_sum fun f cdv Ar outer s H E hr hgd A hA hE => by
    have hu64 := hr64 hr
    have hu65 := hr65 hr
    have hu66 := hr66 hr
    exact (ss_one (s_ret (r_callT call_tuple_of ca_tuple (by rfl) hd.b_tuple (by decide +kernel) (b_cons (toB (toD (r_lc rfl sc_l_sum.nd (own := [("_law_a", 3), ("_law_b", 4)]) (blkOk_by (by rfl)) (i_zipAB (by rfl) hd.b_zip (b_cons (toB (r_var 1)) (b_cons (toB (r_var 2)) b_nil))) (by decide) (fun _ _ _ _ _ => (g_tup rfl (gs_cons (g_name 3 sc_l_sum.nd rfl (by first | exact Or.inl rfl | exact Or.inr rfl)) (gs_cons (g_name 4 sc_l_sum.nd rfl (by first | exact Or.inl rfl | exact Or.inr rfl)) gs_nil)))) (fun _ _ _ _ _ => ts_nil) (fun _ _ _ _ _ => (r_bin op_mod opD_mod (toB (r_callT call_int1 ca_int (by rfl) hd.b_int (by decide +kernel) (b_cons (toB (r_bin op_addAll opD_add (toB (r_var 3)) (toB (r_var 4)))) b_nil))) (toB (r_var 0))))))) b_nil))))
theorem d_l_odd (hd : Hd K w mg) : DefG P w K mg base (PX2 a0 a1 a2) 3 "_law_odd" s_l_odd p_l_odd (t_l_odd a0) :=
  .mk' (N := n_l_odd) hd.at_l_odd sc_l_odd bn_l_odd fun f cdv Ar outer s H E hr hgd A hA hE => by
    have hu64 := hr64 hr
    have hu65 := hr65 hr
    have hu66 := hr66 hr
    exact (ss_cons (s_set 1 sc_l_odd.nd rfl (.inl rfl) (toD (r_lst (a_cons r_non (a_cons r_bl (a_cons r_bl (a_cons r_str (a_cons r_str (a_cons (r_neg (toB r_int)) (a_cons (r_bin op_pow opD_pow (toB r_int) (toB r_int)) (a_cons (r_bin op_sub opD_sub (toB r_int) (toB (r_bin op_pow opD_pow (toB r_int) (toB r_int)))) (a_cons (r_tup (a_cons r_int a_nil)) (a_cons (toD (r_lst (a_cons r_int a_nil))) (a_cons r_dct0 (a_cons (r_dct _ (dd_str (r_tup a_nil) dd_nil) (by rfl) (by rfl) (by simp) (by decide) (by decide) (by decide)) (a_cons (r_tup (a_cons (r_tup a_nil) a_nil)) (a_cons r_int (a_cons (toD (r_lst a_nil)) (a_cons r_str a_nil)))))))))))))))))))
  (ss_one (s_ret (r_call ((d_l_pick hd).mono (k := 2) (by decide)) hr hgd hA hE (by rfl) (a_cons (r_var 0) (a_cons (r_var 1) a_nil))))))
theorem d_l_item (hd : Hd K w mg) : DefG P w K mg base (PX2 a0 a1 a2) 4 "_law_item" s_l_item p_l_item (t_l_item a0) :=
  .mk' (N := n_l_item) hd.at_l_item sc_l_item bn_l_item fun f cdv Ar outer s H E hr hgd A hA hE => by
    have hu64 := hr64 hr
    have hu65 := hr65 hr
    have hu66 := hr66 hr
    exact (ss_cons (s_set 3 sc_l_item.nd rfl (.inl rfl) (r_call ((d_l_draw hd).mono (k := 3) (by decide)) hr hgd hA hE (by rfl) (a_cons (r_var 0) (a_cons r_int a_nil))))
  (ss_cons (s_if (t_cmp (op_eqAll hu64) opC_eq (toB (r_var 3)) (toB r_int) (nomark _)) (ss_one (s_ret (toD (r_callTN call_list_of ca_list (by rfl) hd.b_list (by decide +kernel) (b_cons (toB (r_var 2)) b_nil))))) ss_nil)
  (ss_cons (s_if (t_cmp (op_eqAll hu64) opC_eq (toB (r_var 3)) (toB r_int) (nomark _)) (ss_one (s_ret (r_call ((d_l_odd hd).mono (k := 3) (by decide)) hr hgd hA hE (by rfl) (a_cons (r_var 0) a_nil)))) ss_nil)
  (ss_cons (s_if (t_pw (t_or (t_cmp (op_eqAll hu64) opC_eq (toB (r_var 3)) (toB r_int) (nomark _)) (t_or1 (t_cmp (op_eqAllN hu64) opC_eqN (toB (r_var 2)) (toB (r_tup a_nil)) (nomark _))))) (ss_one (s_ret (r_bin op_addAll opD_add (toB (r_var 2)) (toB (r_tup (a_cons (r_call ((d_l_draw hd).mono (k := 3) (by decide)) hr hgd hA hE (by rfl) (a_cons (r_var 0) (a_cons (r_var 1) a_nil))) a_nil)))))) ss_nil)
  (ss_cons (s_set 4 sc_l_item.nd rfl (.inl rfl) (r_call ((d_l_draw hd).mono (k := 3) (by decide)) hr hgd hA hE (by rfl) (a_cons (r_var 0) (a_cons (r_callB call_len ca_len (by rfl) hd.b_len PySem.boot_len (b_cons (toB (r_var 2)) b_nil)) a_nil))))
  (ss_cons (s_if (t_cmp (op_eqAll hu64) opC_eq (toB (r_var 3)) (toB r_int) (nomark _)) (ss_one (s_ret (r_bin op_addAll opD_add (toB (r_slice (toB (r_var 2)) o_none (o_some (toB (r_var 4))))) (toB (r_slice (toB (r_var 2)) (o_some (toB (r_bin op_addAll opD_add (toB (r_var 4)) (toB r_int)))) o_none))))) ss_nil)
  (ss_cons (s_set 5 sc_l_item.nd rfl (.inl rfl) (r_if (t_truth (toB (r_call ((d_l_is_integer hd).mono (k := 3) (by decide)) hr hgd hA hE (by rfl) (a_cons (r_ix (toB (r_var 2)) (toB (r_var 4))) a_nil)))) (r_ix (toB (r_var 2)) (toB (r_var 4))) r_int))
  (ss_cons (s_set 6 sc_l_item.nd rfl (.inl rfl) (r_bin op_mod opD_mod (toB (r_callT call_int1 ca_int (by rfl) hd.b_int (by decide +kernel) (b_cons (toB (r_bin op_addAll opD_add (toB (r_bin op_addAll opD_add (toB (r_var 5)) (toB r_int))) (toB (r_call ((d_l_draw hd).mono (k := 3) (by decide)) hr hgd hA hE (by rfl) (a_cons (r_var 0) (a_cons (r_bin op_sub opD_sub (toB (r_var 1)) (toB r_int)) a_nil)))))) b_nil))) (toB (r_var 1))))
  (ss_cons (s_if (t_cmp op_gt opC_gt (toB (r_var 3)) (toB r_int) (nomark _)) (ss_one (s_set 7 sc_l_item.nd rfl (.inl rfl) (r_var 6))) (ss_one (s_if (t_cmp (op_eqAll hu64) opC_eq (toB (r_var 3)) (toB r_int) (nomark _)) (ss_one (s_set 7 sc_l_item.nd rfl (.inl rfl) (r_if (t_cmp op_lt opC_lt (toB (r_var 5)) (toB r_int) (nomark _)) (r_cmp op_gt opC_gt (toB (r_var 5)) (toB r_int) (nomark _)) (r_call ((d_l_pick hd).mono (k := 3) (by decide)) hr hgd hA hE (by rfl) (a_cons (r_var 0) (a_cons (toD (r_lst (a_cons r_bl (a_cons r_bl a_nil)))) a_nil)))))) (ss_one (s_set 7 sc_l_item.nd rfl (.inl rfl) (r_call ((d_l_pick hd).mono (k := 3) (by decide)) hr hgd hA hE (by rfl) (a_cons (r_var 0) (a_cons (toD (r_lst (a_cons (r_var 1) (a_cons (r_neg (toB r_int)) (a_cons (r_bin op_addAll opD_add (toB (r_var 1)) (toB (r_var 5))) (a_cons (r_bin op_sub opD_sub (toB (r_var 5)) (toB (r_var 1))) (a_cons (r_bin op_addAll opD_add (toB (r_var 5)) (toB (r_bin op_mulAll opD_mul (toB (r_var 1)) (toB (r_bin op_pow opD_pow (toB r_int) (toB r_int)))))) (a_cons (r_callT call_str_int ca_str (by rfl) hd.b_str (by decide +kernel) (b_cons (toB (r_var 5)) b_nil)) (a_cons (r_tup (a_cons (r_var 5) a_nil)) (a_cons r_non a_nil)))))))))) a_nil))))))))
  (ss_one (s_ret (r_bin op_addAll opD_add (toB (r_bin op_addAll opD_add (toB (r_slice (toB (r_var 2)) o_none (o_some (toB (r_var 4))))) (toB (r_tup (a_cons (r_var 7) a_nil))))) (toB (r_slice (toB (r_var 2)) (o_some (toB (r_bin op_addAll opD_add (toB (r_var 4)) (toB r_int)))) o_none))))))))))))))
theorem d_l_rows (hd : Hd K w mg) : DefG P w K mg base (PX2 a0 a1 a2) 5 "_law_rows" s_l_rows p_l_rows (t_l_rows a0) :=
  .mk' (N := n_l_rows) hd.at_l_rows sc_l_rows bn_l_rows fun f cdv Ar outer s H E hr hgd A hA hE => by
    have hu64 := hr64 hr
    have hu65 := hr65 hr
    have hu66 := hr66 hr
    exact (ss_cons (s_parM 4 5 rfl sc_l_rows.nd rfl rfl (by decide) rfl rfl (m_v (r_call ((d_l_draw hd).mono (k := 4) (by decide)) hr hgd hA hE (by rfl) (a_cons (r_var 0) (a_cons r_int a_nil))) (m_n (r_callTN call_list_of ca_list (by rfl) hd.b_list (by decide +kernel) (b_cons (toB (r_var 3)) b_nil)) m_nil)) rfl)
  (ss_cons (s_if (t_pw (t_or (t_cmp (op_eqAll hu64) opC_eq (toB (r_var 4)) (toB r_int) (nomark _)) (t_or1 (t_cmp (op_eqAllL hu64) opC_eqL (r_varB 5) (toB (toD (r_lst a_nil))) (nomark _))))) (ss_cons (s_set 6 sc_l_rows.nd rfl (.inl rfl) (r_call ((d_l_pick hd).mono (k := 4) (by decide)) hr hgd hA hE (by rfl) (a_cons (r_var 0) (a_cons (toD (r_lst (a_cons (r_bin op_mulAll opD_mul (toB (r_tup (a_cons r_int a_nil))) (toB (r_var 2))) (a_cons (r_call ((d_l_drawn hd).mono (k := 4) (by decide)) hr hgd hA hE (by rfl) (a_cons (r_var 0) (a_cons (r_var 1) (a_cons (r_var 2) a_nil)))) (a_cons (r_bin op_addAll opD_add (toB (r_tup (a_cons r_int a_nil))) (toB (r_bin op_mulAll opD_mul (toB (r_tup (a_cons r_int a_nil))) (toB (r_var 2))))) a_nil))))) a_nil))))
    (ss_cons (s_ins 5 rfl (.inl rfl) (a_cons (r_call ((d_l_draw hd).mono (k := 4) (by decide)) hr hgd hA hE (by rfl) (a_cons (r_var 0) (a_cons (r_bin op_addAll opD_add (toB (r_callB call_len ca_len (by rfl) hd.b_len PySem.boot_len (b_cons (r_varB 5) b_nil))) (toB r_int)) a_nil))) (a_cons (r_var 6) a_nil)))
    (ss_one (s_frz [5] (s_ret (r_var 5)))))) ss_nil)
  (ss_cons (s_par 7 8 rfl sc_l_rows.nd rfl rfl (by decide) rfl rfl (a_cons (r_call ((d_l_draw hd).mono (k := 4) (by decide)) hr hgd hA hE (by rfl) (a_cons (r_var 0) (a_cons (r_callB call_len ca_len (by rfl) hd.b_len PySem.boot_len (b_cons (r_varB 5) b_nil)) a_nil))) (a_cons (r_call ((d_l_draw hd).mono (k := 4) (by decide)) hr hgd hA hE (by rfl) (a_cons (r_var 0) (a_cons (r_callB call_len ca_len (by rfl) hd.b_len PySem.boot_len (b_cons (r_varB 5) b_nil)) a_nil))) a_nil)) rfl)
  (ss_cons (s_ownLc 9 rfl sc_l_rows.nd rfl rfl (sw_true rfl rfl rfl (by decide +kernel)) (own := [("_law_item_here", 10)]) (blkOk_by (by rfl)) (i_seqB (toB (toD (r_lst (a_cons (r_ix (r_varB 5) (toB (r_var 7))) (a_cons (r_ix (r_varB 5) (toB (r_var 8))) a_nil)))))) (by decide) (fun _ _ _ _ _ => (g_name 10 sc_l_rows.nd rfl (by first | exact Or.inl rfl | exact Or.inr rfl))) (fun _ _ _ _ _ => (ts_one (t_truth (toB (r_call ((d_l_is_row hd).mono (k := 4) (by decide)) hr hgd hA hE (by rfl) (a_cons (r_var 1) (a_cons (r_var 2) (a_cons (r_var 10) a_nil)))))))) (fun _ _ _ _ _ => (r_var 10)))
  (ss_cons (s_if (t_cmp (op_eqAll hu64) opC_eq (toB (r_var 4)) (toB r_int) (nomark _)) (ss_one (s_ins 5 rfl (.inl rfl) (a_cons (r_var 8) (a_cons (r_ix (r_varB 5) (toB (r_var 7))) a_nil)))) (ss_one (s_if (t_cmp (op_eqAll hu64) opC_eq (toB (r_var 4)) (toB r_int) (nomark _)) (ss_cons (s_set 11 sc_l_rows.nd rfl (.inl rfl) (r_ix (r_varB 5) (toB (r_var 7))))
      (ss_cons (s_setIx 5 rfl (.inl rfl) (r_ix (r_varB 5) (toB (r_var 8))) (toB (r_var 7)))
      (ss_one (s_setIx 5 rfl (.inl rfl) (r_var 11) (toB (r_var 8)))))) (ss_one (s_if (t_cmp (op_eqAll hu64) opC_eq (toB (r_var 4)) (toB r_int) (nomark _)) (ss_one (s_expP (r_popAt 5 rfl (.inl rfl) (r_var 7)))) (ss_one (s_if (t_pw (t_and (t_cmp (op_eqAll hu64) opC_eq (toB (r_var 4)) (toB r_int) (nomark _)) (t_and1 (t_cmp (op_eqAll hu64) opC_eq (toB (r_callB call_len ca_len (by rfl) hd.b_len PySem.boot_len (b_cons (r_varB 9) b_nil))) (toB r_int) (nomark _))))) (ss_one (s_setIx 5 rfl (.inl rfl) (r_call ((d_l_sum hd).mono (k := 4) (by decide)) hr hgd hA hE (by rfl) (a_cons (r_var 1) (a_cons (r_ix (r_varB 9) (toB r_int)) (a_cons (r_ix (r_varB 9) (toB r_int)) a_nil)))) (toB (r_var 8)))) (ss_one (s_if (t_pw (t_and (t_cmp (op_eqAll hu64) opC_eq (toB (r_var 4)) (toB r_int) (nomark _)) (t_and1 (t_cmp (op_neAllL hu64) opC_neL (r_varB 9) (toB (toD (r_lst a_nil))) (nomark _))))) (ss_cons (s_set 12 sc_l_rows.nd rfl (.inr rfl) (r_call ((d_l_draw hd).mono (k := 4) (by decide)) hr hgd hA hE (by rfl) (a_cons (r_var 0) (a_cons (r_var 1) a_nil))))
            (ss_one (s_setIx 5 rfl (.inl rfl) (r_callT call_tuple_of ca_tuple (by rfl) hd.b_tuple (by decide +kernel) (b_cons (toB (toD (r_lc rfl sc_l_rows.nd (own := [("_law_own", 13)]) (blkOk_by (by rfl)) (i_seqB (toB (r_ix (r_varB 9) (toB r_int)))) (by decide) (fun _ _ _ _ _ => (g_name 13 sc_l_rows.nd rfl (by first | exact Or.inl rfl | exact Or.inr rfl))) (fun _ _ _ _ _ => ts_nil) (fun _ _ _ _ _ => (r_bin op_mod opD_mod (toB (r_callT call_int1 ca_int (by rfl) hd.b_int (by decide +kernel) (b_cons (toB (r_bin op_mulAll opD_mul (toB (r_var 12)) (toB (r_var 13)))) b_nil))) (toB (r_var 1))))))) b_nil)) (toB (r_var 7))))) (ss_one (s_if (t_cmp (op_eqAll hu64) opC_eq (toB (r_var 4)) (toB r_int) (nomark _)) (ss_one (s_setIx 5 rfl (.inl rfl) (r_call ((d_l_drawn hd).mono (k := 4) (by decide)) hr hgd hA hE (by rfl) (a_cons (r_var 0) (a_cons (r_var 1) (a_cons (r_var 2) a_nil)))) (toB (r_var 7)))) (ss_one (s_if (t_truth (toB (r_isi (t := "tuple") (by rfl) hd.b_isinstance (by rfl) hd.b_tuple (by decide +kernel) (toB (r_ix (r_varB 5) (toB (r_var 7))))))) (ss_one (s_setIx 5 rfl (.inl rfl) (r_call ((d_l_item hd).mono (k := 4) (by decide)) hr hgd hA hE (by rfl) (a_cons (r_var 0) (a_cons (r_var 1) (a_cons (r_ix (r_varB 5) (toB (r_var 7))) a_nil)))) (toB (r_var 7)))) ss_nil)))))))))))))
  (ss_one (s_frz [5] (s_ret (r_var 5)))))))))
theorem d_l_whole (hd : Hd K w mg) : DefG P w K mg base (PX2 a0 a1 a2) 3 "_law_whole" s_l_whole p_l_whole (t_l_whole a0) :=
  .mk' (N := n_l_whole) hd.at_l_whole sc_l_whole bn_l_whole fun f cdv Ar outer s H E hr hgd A hA hE => by
    have hu64 := hr64 hr
    have hu65 := hr65 hr
    have hu66 := hr66 hr
    exact (ss_cons (s_set 4 sc_l_whole.nd rfl (.inl rfl) (r_call ((d_l_draw hd).mono (k := 2) (by decide)) hr hgd hA hE (by rfl) (a_cons (r_var 0) (a_cons r_int a_nil))))
  (ss_cons (s_if (t_cmp op_lt opC_lt (toB (r_var 4)) (toB r_int) (nomark _)) (ss_cons (s_set 5 sc_l_whole.nd rfl (.inl rfl) (toD (r_lst (a_cons r_int (a_cons r_int (a_cons r_int (a_cons r_int (a_cons r_int (a_cons r_int (a_cons r_int (a_cons (r_neg (toB r_int)) (a_cons (r_neg (toB r_int)) (a_cons r_bl (a_cons r_bl (a_cons r_non (a_cons r_str (a_cons (r_tup (a_cons r_int a_nil)) (a_cons (toD (r_lst (a_cons r_int a_nil))) (a_cons (r_bin op_addAll opD_add (toB (r_bin op_pow opD_pow (toB r_int) (toB r_int))) (toB r_int)) (a_cons r_int (a_cons r_int (a_cons r_int (a_cons r_int (a_cons (r_bin op_addAll opD_add (toB (r_var 1)) (toB r_int)) a_nil))))))))))))))))))))))))
    (ss_one (s_ret (r_tup (a_cons (r_call ((d_l_pick hd).mono (k := 2) (by decide)) hr hgd hA hE (by rfl) (a_cons (r_var 0) (a_cons (r_var 5) a_nil))) (a_cons (r_var 2) (a_cons (r_var 3) a_nil))))))) ss_nil)
  (ss_cons (s_if (t_cmp op_lt opC_lt (toB (r_var 4)) (toB r_int) (nomark _)) (ss_cons (s_set 6 sc_l_whole.nd rfl (.inl rfl) (toD (r_lst (a_cons (r_bin op_addAll opD_add (toB (r_var 2)) (toB r_int)) (a_cons (r_bin op_sub opD_sub (toB (r_var 2)) (toB r_int)) (a_cons r_int (a_cons (r_neg (toB r_int)) (a_cons r_bl (a_cons r_bl (a_cons r_non (a_cons (r_callT call_str_int ca_str (by rfl) hd.b_str (by decide +kernel) (b_cons (toB (r_var 2)) b_nil)) (a_cons (r_bin op_pow opD_pow (toB r_int) (toB r_int)) (a_cons (r_tup (a_cons (r_var 2) a_nil)) (a_cons r_int (a_cons r_int (a_cons r_int (a_cons (r_bin op_sub opD_sub (toB r_int) (toB (r_var 2))) a_nil)))))))))))))))))
    (ss_one (s_ret (r_tup (a_cons (r_var 1) (a_cons (r_call ((d_l_pick hd).mono (k := 2) (by decide)) hr hgd hA hE (by rfl) (a_cons (r_var 0) (a_cons (r_var 6) a_nil))) (a_cons (r_var 3) a_nil))))))) ss_nil)
  (ss_cons (s_if (t_cmp op_lt opC_lt (toB (r_var 4)) (toB r_int) (nomark _)) (ss_one (s_ret (r_tup (a_cons (r_var 1) (a_cons (r_var 2) (a_cons (r_call ((d_l_pick hd).mono (k := 2) (by decide)) hr hgd hA hE (by rfl) (a_cons (r_var 0) (a_cons (toD (r_lst (a_cons (toD (r_callTN call_list_of ca_list (by rfl) hd.b_list (by decide +kernel) (b_cons (toB (r_var 3)) b_nil))) (a_cons r_non (a_cons r_int (a_cons r_str (a_cons r_dct0 (a_cons r_bl (a_cons r_str (a_cons (r_callB call_len ca_len (by rfl) hd.b_len PySem.boot_len (b_cons (toB (r_var 3)) b_nil)) (a_cons (toD (r_lst a_nil)) (a_cons (r_tup a_nil) a_nil)))))))))))) a_nil))) a_nil)))))) ss_nil)
  (ss_cons (s_set 7 sc_l_whole.nd rfl (.inl rfl) (toD (r_lst (a_cons (toD (r_lst (a_cons (r_var 1) (a_cons (r_var 2) (a_cons (r_var 3) a_nil))))) (a_cons (r_tup (a_cons (r_var 1) (a_cons (r_var 2) a_nil))) (a_cons (r_tup (a_cons (r_var 1) (a_cons (r_var 2) (a_cons (r_var 3) (a_cons (r_tup a_nil) a_nil))))) (a_cons r_non (a_cons (r_var 1) (a_cons r_str (a_cons r_dct0 (a_cons (r_tup (a_cons (r_var 1) (a_cons (r_var 2) (a_cons (r_var 3) (a_cons (r_var 3) a_nil))))) (a_cons (r_tup a_nil) a_nil))))))))))))
  (ss_one (s_ret (r_call ((d_l_pick hd).mono (k := 2) (by decide)) hr hgd hA hE (by rfl) (a_cons (r_var 0) (a_cons (r_bin op_addAll opD_add (toB (r_var 7)) (toB (toD (r_lst (a_cons r_bl (a_cons (r_tup (a_cons (r_tup (a_cons (r_var 1) (a_cons (r_var 2) (a_cons (r_var 3) a_nil)))) a_nil)) (a_cons (r_tup (a_cons (r_var 2) (a_cons (r_var 1) (a_cons (r_var 3) a_nil)))) (a_cons (r_tup (a_cons (r_var 1) (a_cons (r_var 3) (a_cons (r_var 2) a_nil)))) (a_cons (r_var 3) a_nil))))))))) a_nil))))))))))
theorem d_l_is_flat (hd : Hd K w mg) : DefG P w K mg base (PX2 a0 a1 a2) 6 "_law_is_flat" s_l_is_flat p_l_is_flat (t_l_is_flat a0) :=
  .mk' (N := n_l_is_flat) hd.at_l_is_flat sc_l_is_flat bn_l_is_flat fun f cdv Ar outer s H E hr hgd A hA hE => by
    have hu64 := hr64 hr
    have hu65 := hr65 hr
    have hu66 := hr66 hr
    exact (ss_cons (s_set 3 sc_l_is_flat.nd rfl (.inl rfl) (r_call ((d_l_flat hd).mono (k := 5) (by decide)) hr hgd hA hE (by rfl) (a_cons (r_var 0) (a_cons (r_var 1) (a_cons (r_var 2) a_nil)))))
  (ss_cons (s_if (t_pw (t_or (t_cmp op_notN opC_notN (toB (r_call ((d_flat_error hd).mono (k := 5) (by decide)) hr hgd hA hE (by rfl) (a_cons (r_var 3) a_nil))) (toB r_non) (nomark _)) (t_or1 (t_not (t_truth (toB (r_call ((d_l_is_told hd).mono (k := 5) (by decide)) hr hgd hA hE (by rfl) (a_cons (r_var 3) a_nil)))))))) (ss_one (s_ret r_bl)) ss_nil)
  (ss_cons (s_for PassesOwn.never rfl (i_range1 (by rfl) hd.b_range (b_cons (toB r_int) b_nil)) (g_name 4 sc_l_is_flat.nd rfl (.inl rfl)) (ss_cons (s_set 5 sc_l_is_flat.nd rfl (.inl rfl) (toD (r_callTN call_list_of ca_list (by rfl) hd.b_list (by decide +kernel) (b_cons (toB (r_ix (toB (r_var 3)) (toB r_int))) b_nil))))
    (ss_cons (s_for PassesOwn.never rfl (i_range1 (by rfl) hd.b_range (b_cons (toB (r_call ((d_l_pick hd).mono (k := 5) (by decide)) hr hgd hA hE (by rfl) (a_cons (r_var 0) (a_cons (toD (r_lst (a_cons r_int (a_cons r_int (a_cons r_int (a_cons r_int a_nil)))))) a_nil)))) b_nil)) (g_name 6 sc_l_is_flat.nd rfl (.inl rfl)) (ss_one (s_set 5 sc_l_is_flat.nd rfl (.inl rfl) (r_call ((d_l_rows hd).mono (k := 5) (by decide)) hr hgd hA hE (by rfl) (a_cons (r_var 0) (a_cons (r_var 1) (a_cons (r_var 2) (a_cons (r_var 5) a_nil))))))))
    (ss_cons (s_set 7 sc_l_is_flat.nd rfl (.inl rfl) (r_tup (a_cons (r_var 1) (a_cons (r_var 2) (a_cons (r_callT call_tuple_of ca_tuple (by rfl) hd.b_tuple (by decide +kernel) (b_cons (toB (r_var 5)) b_nil)) a_nil)))))
    (ss_cons (s_if (t_cmp op_gt opC_gt (toB (r_var 4)) (toB r_int) (nomark _)) (ss_one (s_set 7 sc_l_is_flat.nd rfl (.inl rfl) (r_call ((d_l_whole hd).mono (k := 5) (by decide)) hr hgd hA hE (by rfl) (a_cons (r_var 0) (a_cons (r_var 1) (a_cons (r_var 2) (a_cons (r_callT call_tuple_of ca_tuple (by rfl) hd.b_tuple (by decide +kernel) (b_cons (toB (r_var 5)) b_nil)) a_nil))))))) ss_nil)
    (ss_one (s_if (t_not (t_truth (toB (r_call ((d_l_is_told hd).mono (k := 5) (by decide)) hr hgd hA hE (by rfl) (a_cons (r_var 7) a_nil))))) (ss_one (s_ret r_bl)) ss_nil)))))))
  (ss_one (s_ret (r_call ((d_l_is_told hd).mono (k := 5) (by decide)) hr hgd hA hE (by rfl) (a_cons (r_var 3) a_nil)))))))
theorem d_rest (hd : Hd K w mg) : ∀ (f : Addr) (cdv : Value) (Ar : Around) (outer : List PySem.Env) (s : Shared) (H : Hp) (E : XK), Room 6 (Ar.deeper (envOfC "law" (defScope s_law) s.heap.objs.size f cdv)) → (Ar.deeper (envOfC "law" (defScope s_law) s.heap.objs.size f cdv)).guards = some [] →
    PSs (cxOf CX0 P w K mg base n_law "law" (defScope s_law) f cdv Ar outer s H E).nox (defBody s_law) (tSeq (tAsg (tCr K t_l_deck) (gName 1)) (tRest K (fun (j : Addr × Addr × Addr) => PX2 j.1 j.2.1 j.2.2) (fun j => j.1) b_law)) := fun f cdv Ar outer s H E hr hgd => by
  have hu64 := hr64 hr
  have hu65 := hr65 hr
  have hu66 := hr66 hr
  refine pss_cons (ps_set (i := 1) sc_law.nd rfl (.inl rfl) (pe_ex fun (p : Eng.Act × Addr × List Int) hp => r_call ((d_l_deck hd).mono (k := 6) (by decide)) hr hgd hp.1 hp.2 (by rfl) (a_cons (r_var 0) a_nil))) (pss_ex fun (p : Eng.Act × (Addr × Addr × Addr)) hp => ?_)
  obtain ⟨A, j⟩ := p
  obtain ⟨hA, hE⟩ := hp
  obtain ⟨a0, a1, a2⟩ := j
  exact (ss_cons (s_for PassesOwn.never rfl (i_range1 (by rfl) hd.b_range (b_cons (toB r_int) b_nil)) (g_name 2 sc_law.nd rfl (.inl rfl)) (ss_cons (s_asg (r_tup (a_cons (r_call ((d_l_pick hd).mono (k := 6) (by decide)) hr hgd hA hE (by rfl) (a_cons (r_var 1) (a_cons (toD (r_lst (a_cons r_int (a_cons r_int (a_cons r_int (a_cons r_int a_nil)))))) a_nil))) (a_cons (r_call ((d_l_pick hd).mono (k := 6) (by decide)) hr hgd hA hE (by rfl) (a_cons (r_var 1) (a_cons (toD (r_lst (a_cons r_int (a_cons r_int (a_cons r_int (a_cons r_int (a_cons r_int (a_cons r_int (a_cons r_int (a_cons r_int (a_cons r_int (a_cons r_int a_nil)))))))))))) a_nil))) a_nil))) (g_tup rfl (gs_cons (g_name 3 sc_law.nd rfl (.inl rfl)) (gs_cons (g_name 4 sc_law.nd rfl (.inr rfl)) gs_nil))))
    (ss_one (s_if (t_not (t_truth (toB (r_call ((d_l_is_flat hd).mono (k := 6) (by decide)) hr hgd hA hE (by rfl) (a_cons (r_var 1) (a_cons (r_var 3) (a_cons (r_var 4) a_nil))))))) (ss_one (s_ret r_bl)) ss_nil))))
  (ss_cons (s_if (t_pw (t_or (t_not (t_truth (toB (r_call ((d_l_is_flat hd).mono (k := 6) (by decide)) hr hgd hA hE (by rfl) (a_cons (r_var 1) (a_cons (r_call ((d_l_pick hd).mono (k := 6) (by decide)) hr hgd hA hE (by rfl) (a_cons (r_var 1) (a_cons (toD (r_lst (a_cons r_int (a_cons r_int (a_cons r_int a_nil))))) a_nil))) (a_cons r_int a_nil))))))) (t_or1 (t_not (t_truth (toB (r_call ((d_l_is_told hd).mono (k := 6) (by decide)) hr hgd hA hE (by rfl) (a_cons (r_call ((d_l_odd hd).mono (k := 6) (by decide)) hr hgd hA hE (by rfl) (a_cons (r_var 1) a_nil)) a_nil)))))))) (ss_one (s_ret r_bl)) ss_nil)
  (ss_cons (s_asg (r_tup (a_cons (r_call ((d_l_pick hd).mono (k := 6) (by decide)) hr hgd hA hE (by rfl) (a_cons (r_var 1) (a_cons (toD (r_lst (a_cons r_int (a_cons r_int (a_cons r_int (a_cons r_int a_nil)))))) a_nil))) (a_cons (r_bin op_addAll opD_add (toB r_int) (toB (r_call ((d_l_draw hd).mono (k := 6) (by decide)) hr hgd hA hE (by rfl) (a_cons (r_var 1) (a_cons r_int a_nil))))) a_nil))) (g_tup rfl (gs_cons (g_name 3 sc_law.nd rfl (.inl rfl)) (gs_cons (g_name 4 sc_law.nd rfl (.inr rfl)) gs_nil))))
  (ss_cons (s_ownLc 5 rfl sc_law.nd rfl rfl (sw_true rfl rfl rfl (by decide +kernel)) (own := [("_law_spot", 6)]) (blkOk_by (by rfl)) (toIB (i_range1 (by rfl) hd.b_range (b_cons (toB (r_var 4)) b_nil))) (by decide) (fun _ _ _ _ _ => (g_name 6 sc_law.nd rfl (by first | exact Or.inl rfl | exact Or.inr rfl))) (fun _ _ _ _ _ => ts_nil) (fun _ _ _ _ _ => (r_bin op_addAll opD_add (toB (r_bin op_addAll opD_add (toB (r_bin op_mulAll opD_mul (toB (r_tup (a_cons r_int a_nil))) (toB (r_var 6)))) (toB (r_tup (a_cons r_int a_nil))))) (toB (r_bin op_mulAll opD_mul (toB (r_tup (a_cons r_int a_nil))) (toB (r_bin op_sub opD_sub (toB (r_bin op_sub opD_sub (toB (r_var 4)) (toB r_int))) (toB (r_var 6)))))))))
  (ss_cons (s_set 7 sc_law.nd rfl (.inl rfl) (r_call ((d_l_draw hd).mono (k := 6) (by decide)) hr hgd hA hE (by rfl) (a_cons (r_var 1) (a_cons (r_var 4) a_nil))))
  (ss_cons (s_set 8 sc_law.nd rfl (.inl rfl) (r_bin op_addAll opD_add (toB (r_bin op_addAll opD_add (toB (r_slice (toB (r_ix (r_varB 5) (toB (r_var 7)))) o_none (o_some (toB (r_var 7))))) (toB (r_tup (a_cons r_bl a_nil))))) (toB (r_slice (toB (r_ix (r_varB 5) (toB (r_var 7)))) (o_some (toB (r_bin op_addAll opD_add (toB (r_var 7)) (toB r_int)))) o_none))))
  (ss_cons (s_for PassesOwn.never rfl (i_seq (toD (r_lst (a_cons (r_var 8) (a_cons (toD (r_callTN call_list_of ca_list (by rfl) hd.b_list (by decide +kernel) (b_cons (toB (r_ix (r_varB 5) (toB (r_var 7)))) b_nil))) (a_cons (r_bin op_addAll opD_add (toB (r_bin op_addAll opD_add (toB (r_slice (toB (r_ix (r_varB 5) (toB (r_var 7)))) o_none (o_some (toB (r_var 7))))) (toB (r_tup (a_cons (r_bin op_addAll opD_add (toB (r_var 3)) (toB r_int)) a_nil))))) (toB (r_slice (toB (r_ix (r_varB 5) (toB (r_var 7)))) (o_some (toB (r_bin op_addAll opD_add (toB (r_var 7)) (toB r_int)))) o_none))) (a_cons (r_ix (r_varB 5) (toB (r_bin op_sub opD_sub (toB (r_var 7)) (toB r_int)))) (a_cons (r_bin op_mulAll opD_mul (toB (r_tup (a_cons r_int a_nil))) (toB (r_var 4))) a_nil)))))))) (g_name 9 sc_law.nd rfl (.inl rfl)) (ss_cons (s_set 10 sc_law.nd rfl (.inl rfl) (r_tup (a_cons (r_var 3) (a_cons (r_var 4) (a_cons (r_callT call_tuple_of ca_tuple (by rfl) hd.b_tuple (by decide +kernel) (b_cons (toB (r_bin op_addAll opD_add (toB (r_bin op_addAll opD_add (toB (r_slice (r_varB 5) o_none (o_some (toB (r_var 7))))) (toB (toD (r_lst (a_cons (r_var 9) a_nil)))))) (toB (r_slice (r_varB 5) (o_some (toB (r_bin op_addAll opD_add (toB (r_var 7)) (toB r_int)))) o_none)))) b_nil)) a_nil)))))
    (ss_one (s_if (t_pw (t_or (t_not (t_truth (toB (r_call ((d_l_is_told hd).mono (k := 6) (by decide)) hr hgd hA hE (by rfl) (a_cons (r_var 10) a_nil))))) (t_or1 (t_cmp op_isN opC_isN (toB (r_call ((d_flat_error hd).mono (k := 6) (by decide)) hr hgd hA hE (by rfl) (a_cons (r_var 10) a_nil))) (toB r_non) (nomark _))))) (ss_one (s_ret r_bl)) ss_nil))))
  (ss_cons (s_frz [5] (s_set 11 sc_law.nd rfl (.inl rfl) (r_call ((d_l_order hd).mono (k := 6) (by decide)) hr hgd hA hE (by rfl) (a_cons (r_var 1) (a_cons (r_var 5) a_nil)))))
  (ss_one (s_ret (r_and (r_call ((d_l_is_told hd).mono (k := 6) (by decide)) hr hgd hA hE (by rfl) (a_cons (r_tup (a_cons (r_var 3) (a_cons (r_var 4) (a_cons (r_callT call_tuple_of ca_tuple (by rfl) hd.b_tuple (by decide +kernel) (b_cons (toB (r_var 11)) b_nil)) a_nil)))) a_nil)) (r_one (r_call0 ((d_l_is_inverse hd).mono (k := 6) (by decide)) hr hgd hA hE (by rfl) rfl)))))))))))))
end
end Law

namespace Law
open PySem PySem.Spec PyProof.Rows L2 Eng
def isObj : D → Bool
  | .obj _ => true
  | _ => false
def isTup : D → Bool
  | .tup _ => true
  | _ => false
def isInt : D → Bool
  | .int _ => true
  | _ => false
def isBl : D → Bool
  | .bl _ => true
  | _ => false
theorem isi_tup (d : D) (h : isObj d = false) : isiD "tuple" d = T.ret (.bl (isTup d)) := by
  cases d <;> first | rfl | cases h
theorem isi_int (d : D) (h : isObj d = false) : isiD "int" d = T.ret (.bl (isInt d || isBl d)) := by
  cases d <;> first | rfl | cases h
theorem isi_bool (d : D) (h : isObj d = false) : isiD "bool" d = T.ret (.bl (isBl d)) := by
  cases d <;> first | rfl | cases h
def belowB (d : D) (n : Int) : Bool := match d with
  | .int i => decide (0 ≤ i) && decide (i < n)
  | _ => false
theorem below_eq (d : D) (n : Int) (h : isObj d = false) : t_is_below [d, .int n] = T.ret (.bl (belowB d n)) := by
  have h1 := isi_int d h
  have h2 := isi_bool d h
  unfold t_is_below bodyT b_is_below
  have e0 : startE 2 [d, .int n] = [.val d, .val (.int n)] := rfl
  rw [e0]
  cases d with
  | int i =>
    by_cases h0 : 0 ≤ i
    · simp [h1, h2, isInt, isBl, belowB, dChain, leD, ltD, h0]
    · simp [h1, h2, isInt, isBl, belowB, dChain, leD, ltD, h0]
  | bl b => simp [h1, h2, isInt, isBl, belowB]
  | obj a => cases h
  | non => simp [h1, h2, isInt, isBl, belowB]
  | str x => simp [h1, h2, isInt, isBl, belowB]
  | tup l => simp [h1, h2, isInt, isBl, belowB]
  | lst l => simp [h1, h2, isInt, isBl, belowB]
  | dct a b => simp [h1, h2, isInt, isBl, belowB]
theorem integer_eq (d : D) (h : isObj d = false) : t_l_is_integer [d] = T.ret (.bl (isInt d)) := by
  have h1 := isi_int d h
  have h2 := isi_bool d h
  unfold t_l_is_integer bodyT b_l_is_integer
  have e0 : startE 1 [d] = [.val d] := rfl
  rw [e0]
  cases d <;> simp [h1, h2, isInt, isBl]
/-- a row of n numbers below p -/
def rowB (p n : Int) (d : D) : Bool := match d with
  | .tup l => decide ((l.length : Int) = n) && l.all (belowB · p)
  | _ => false
def noObj (l : List D) : Prop := ∀ d ∈ l, isObj d = false
theorem is_row_eq (p n : Int) (d : D) (h : isObj d = false) (hl : ∀ l, d = .tup l → noObj l) : t_is_row [.int p, .int n, d] = T.ret (.bl (rowB p n d)) := by
  have h1 := isi_tup d h
  unfold t_is_row bodyT b_is_row
  have e0 : startE 4 [.int p, .int n, d] = [.val (.int p), .val (.int n), .val d, .un] := rfl
  rw [e0]
  cases d with
  | tup l =>
    have hc : compT (tgName 3) (fun _ => T.ret true) (dC t_is_below (dCons (gV 3) (dCons (gV 0) dNil))) (wipeE [.val (.int p), .val (.int n), .val (.tup l), .un] [3]) l = T.ret (l.map fun d => D.bl (belowB d p)) := by
      have := compT_all (fun d : D => d) (fun d => D.bl (belowB d p)) (f := tgName 3) (t := fun _ => T.ret true) (w := dC t_is_below (dCons (gV 3) (dCons (gV 0) dNil))) (env := wipeE [.val (.int p), .val (.int n), .val (.tup l), .un] [3]) l fun d hd => ⟨_, rfl, rfl, by simp [wipeE, below_eq d p (hl l rfl d hd)]⟩
      rw [List.map_id'] at this
      exact this
    have ha : allD [.lst (l.map fun d => D.bl (belowB d p))] = T.ret (.bl (l.all (belowB · p))) := by
      rw [show (l.map fun d => D.bl (belowB d p)) = (l.map (belowB · p)).map D.bl by rw [List.map_map]; rfl]
      show (match boolsOf ((l.map (belowB · p)).map D.bl) with | some ns => T.ret (D.bl (ns.all id)) | none => T.fail) = _
      rw [boolsOf_map]
      show T.ret (D.bl ((l.map (belowB · p)).all id)) = _
      rw [List.all_map]
      rfl
    by_cases hn : (l.length : Int) = n
    · simp [h1, isTup, rowB, hn, hc, ha]
    · simp [h1, isTup, rowB, hn]
  | obj a => cases h
  | non => simp [h1, isTup, rowB]
  | bl b => simp [h1, isTup, rowB]
  | int i => simp [h1, isTup, rowB]
  | str x => simp [h1, isTup, rowB]
  | lst l => simp [h1, isTup, rowB]
  | dct a b => simp [h1, isTup, rowB]
end Law

namespace Law
open PySem PySem.Spec PyProof.Rows L2 Eng
def resD : Option D → D
  | none => .non
  | some e => e
theorem forT_first {α : Type} (e : α → D) (g : α → Option D) {f : D → Eng.Env → Option Eng.Env} {b : Eng.Env → T Out} (Inv : Eng.Env → Prop) : ∀ (l : List α), (∀ a, a ∈ l → ∀ env, Inv env → ∃ e1, f (e a) env = some e1 ∧ (∀ x, g a = some x → b e1 = T.ret (.rt x)) ∧ (g a = none → ∃ e2, b e1 = T.ret (.nx e2) ∧ Inv e2)) → ∀ env, Inv env →
    (∀ x, l.findSome? g = some x → forT f b (l.map e) env = T.ret (.rt x)) ∧ (l.findSome? g = none → ∃ e', forT f b (l.map e) env = T.ret (.nx e') ∧ Inv e')
  | [], _, env, hi => ⟨fun x h => (by cases h), fun _ => ⟨env, rfl, hi⟩⟩
  | a :: r, h, env, hi => by
    obtain ⟨e1, h1, h2, h3⟩ := h a (by simp) env hi
    have ih := forT_first e g Inv r (fun d hd => h d (by simp [hd]))
    rw [List.map_cons, forT_cons h1, List.findSome?_cons]
    cases hg : g a with
    | some y =>
      refine ⟨fun x hx => ?_, fun hx => by cases hx⟩
      cases hx
      rw [h2 _ hg]
      rfl
    | none =>
      obtain ⟨e2, h4, h5⟩ := h3 hg
      rw [h4]
      exact ih e2 h5
theorem zipIdx_range {α : Type} (l : List α) : (l.zipIdx.map fun x => D.int ((x.2 : Nat) : Int)) = rangeD 0 l.length := by
  unfold rangeD
  have h : l.zipIdx.map (·.2) = List.range l.length := by rw [List.range_eq_range', ← List.zipIdx_map_snd 0 l]
  rw [show (l.zipIdx.map fun x => D.int ((x.2 : Nat) : Int)) = (l.zipIdx.map (·.2)).map fun i : Nat => D.int (i : Int) by rw [List.map_map]; rfl, h]
  simp
theorem zipIdx_mem {α : Type} {l : List α} {x : α × Nat} (h : x ∈ l.zipIdx) : l[x.2]? = some x.1 ∧ x.1 ∈ l := by
  obtain ⟨a, i⟩ := x
  have h := List.mem_zipIdx_iff_getElem?.mp h
  exact ⟨h, List.mem_of_getElem? h⟩

theorem zipIdx_enumD (l : List D) : (l.zipIdx.map fun x => D.tup [.int ((x.2 : Nat) : Int), x.1]) = enumD l := rfl
def badB (p : Int) (d : D) : Bool := !belowB d p
theorem l_is_row_eq (p n : Int) (d : D) (h : isObj d = false) (hl : ∀ l, d = .tup l → noObj l) : t_l_is_row [.int p, .int n, d] = T.ret (.bl (rowB p n d)) := by
  have h1 := isi_tup d h
  unfold t_l_is_row bodyT b_l_is_row
  have e0 : startE 4 [.int p, .int n, d] = [.val (.int p), .val (.int n), .val d, .un] := rfl
  rw [e0]
  cases d with
  | tup l =>
    by_cases hn : (l.length : Int) = n
    · have hc : compT (tgName 3) (dOr (dNot (dU truthD (dC t_l_is_integer (dCons (gV 3) dNil)))) (dOr (dB ltD (gV 3) (cst (.int 0))) (dB geD (gV 3) (gV 0)))) (cst (.int 1)) (wipeE [.val (.int p), .val (.int n), .val (.tup l), .un] [3]) l = T.ret ((l.filter (badB p)).map fun _ => D.int 1) := by
        refine compT_map (badB p) (fun _ => D.int 1) l fun d hd => ⟨[.val (.int p), .val (.int n), .val (.tup l), .val d], rfl, ?_, fun _ => rfl⟩
        have hi := integer_eq d (hl l rfl d hd)
        cases d with
        | int i =>
          try simp only [ap_cst, ap_gV, ap_gB, ap_dLst, ap_dNil, ap_dCons, ap_dTup, ap_dB, ap_dBl, ap_dU, ap_dC, ap_dCK, ap_dNot, ap_dAnd, ap_dOr, ap_dAndV, ap_dOrV, ap_dNotV, ap_dIf, ap_dSeq, ap_dSkip, ap_dF, ap_dRet, ap_dRetN, ap_dSet, ap_dOwn, ap_dDrop, ap_dFor, ap_dComp, ap_dBrk, ap_dCnt, ap_dParM, ap_mNil, ap_mV, ap_mN, ap_dAsg, ap_dPar, ap_dPar3, ap_dApp, ap_dExt, ap_dNo, ap_dSome, ap_asInt, ap_dSl, getV_zero, getV_succ, getB_zero, getB_zeroO, getB_succ, ownL_zero, ownL_succ, tgName_ap, forT_nil, ret_bind, fail_bind, exc_bind, bind_assoc', add_ii, sub_ii, lt_ii, le_ii, gt_ii, ge_ii, eq_ii, ne_ii, abs_i, int_i, int_b, len_l, len_t, items_l, items_t, truth_b, asObj_self, List.set_cons_succ, List.set_cons_zero, if_true, if_false, Bool.false_eq_true, Bool.not_true, Bool.not_false, hi, isInt]
          unfold badB belowB
          by_cases h0 : i < 0
          · simp [h0, show ¬ (0 ≤ i) by omega]
          · by_cases h2 : p ≤ i
            · simp [h0, h2, show ¬ (i < p) by omega]
            · simp [h0, h2, show 0 ≤ i by omega, show i < p by omega]
        | obj a => exact absurd (hl l rfl _ hd) (by simp [isObj])
        | non => try simp only [ap_cst, ap_gV, ap_gB, ap_dLst, ap_dNil, ap_dCons, ap_dTup, ap_dB, ap_dBl, ap_dU, ap_dC, ap_dCK, ap_dNot, ap_dAnd, ap_dOr, ap_dAndV, ap_dOrV, ap_dNotV, ap_dIf, ap_dSeq, ap_dSkip, ap_dF, ap_dRet, ap_dRetN, ap_dSet, ap_dOwn, ap_dDrop, ap_dFor, ap_dComp, ap_dBrk, ap_dCnt, ap_dParM, ap_mNil, ap_mV, ap_mN, ap_dAsg, ap_dPar, ap_dPar3, ap_dApp, ap_dExt, ap_dNo, ap_dSome, ap_asInt, ap_dSl, getV_zero, getV_succ, getB_zero, getB_zeroO, getB_succ, ownL_zero, ownL_succ, tgName_ap, forT_nil, ret_bind, fail_bind, exc_bind, bind_assoc', add_ii, sub_ii, lt_ii, le_ii, gt_ii, ge_ii, eq_ii, ne_ii, abs_i, int_i, int_b, len_l, len_t, items_l, items_t, truth_b, asObj_self, List.set_cons_succ, List.set_cons_zero, if_true, if_false, Bool.false_eq_true, Bool.not_true, Bool.not_false, hi, isInt]; rfl
        | bl b => try simp only [ap_cst, ap_gV, ap_gB, ap_dLst, ap_dNil, ap_dCons, ap_dTup, ap_dB, ap_dBl, ap_dU, ap_dC, ap_dCK, ap_dNot, ap_dAnd, ap_dOr, ap_dAndV, ap_dOrV, ap_dNotV, ap_dIf, ap_dSeq, ap_dSkip, ap_dF, ap_dRet, ap_dRetN, ap_dSet, ap_dOwn, ap_dDrop, ap_dFor, ap_dComp, ap_dBrk, ap_dCnt, ap_dParM, ap_mNil, ap_mV, ap_mN, ap_dAsg, ap_dPar, ap_dPar3, ap_dApp, ap_dExt, ap_dNo, ap_dSome, ap_asInt, ap_dSl, getV_zero, getV_succ, getB_zero, getB_zeroO, getB_succ, ownL_zero, ownL_succ, tgName_ap, forT_nil, ret_bind, fail_bind, exc_bind, bind_assoc', add_ii, sub_ii, lt_ii, le_ii, gt_ii, ge_ii, eq_ii, ne_ii, abs_i, int_i, int_b, len_l, len_t, items_l, items_t, truth_b, asObj_self, List.set_cons_succ, List.set_cons_zero, if_true, if_false, Bool.false_eq_true, Bool.not_true, Bool.not_false, hi, isInt]; rfl
        | str x => try simp only [ap_cst, ap_gV, ap_gB, ap_dLst, ap_dNil, ap_dCons, ap_dTup, ap_dB, ap_dBl, ap_dU, ap_dC, ap_dCK, ap_dNot, ap_dAnd, ap_dOr, ap_dAndV, ap_dOrV, ap_dNotV, ap_dIf, ap_dSeq, ap_dSkip, ap_dF, ap_dRet, ap_dRetN, ap_dSet, ap_dOwn, ap_dDrop, ap_dFor, ap_dComp, ap_dBrk, ap_dCnt, ap_dParM, ap_mNil, ap_mV, ap_mN, ap_dAsg, ap_dPar, ap_dPar3, ap_dApp, ap_dExt, ap_dNo, ap_dSome, ap_asInt, ap_dSl, getV_zero, getV_succ, getB_zero, getB_zeroO, getB_succ, ownL_zero, ownL_succ, tgName_ap, forT_nil, ret_bind, fail_bind, exc_bind, bind_assoc', add_ii, sub_ii, lt_ii, le_ii, gt_ii, ge_ii, eq_ii, ne_ii, abs_i, int_i, int_b, len_l, len_t, items_l, items_t, truth_b, asObj_self, List.set_cons_succ, List.set_cons_zero, if_true, if_false, Bool.false_eq_true, Bool.not_true, Bool.not_false, hi, isInt]; rfl
        | tup m => try simp only [ap_cst, ap_gV, ap_gB, ap_dLst, ap_dNil, ap_dCons, ap_dTup, ap_dB, ap_dBl, ap_dU, ap_dC, ap_dCK, ap_dNot, ap_dAnd, ap_dOr, ap_dAndV, ap_dOrV, ap_dNotV, ap_dIf, ap_dSeq, ap_dSkip, ap_dF, ap_dRet, ap_dRetN, ap_dSet, ap_dOwn, ap_dDrop, ap_dFor, ap_dComp, ap_dBrk, ap_dCnt, ap_dParM, ap_mNil, ap_mV, ap_mN, ap_dAsg, ap_dPar, ap_dPar3, ap_dApp, ap_dExt, ap_dNo, ap_dSome, ap_asInt, ap_dSl, getV_zero, getV_succ, getB_zero, getB_zeroO, getB_succ, ownL_zero, ownL_succ, tgName_ap, forT_nil, ret_bind, fail_bind, exc_bind, bind_assoc', add_ii, sub_ii, lt_ii, le_ii, gt_ii, ge_ii, eq_ii, ne_ii, abs_i, int_i, int_b, len_l, len_t, items_l, items_t, truth_b, asObj_self, List.set_cons_succ, List.set_cons_zero, if_true, if_false, Bool.false_eq_true, Bool.not_true, Bool.not_false, hi, isInt]; rfl
        | lst m => try simp only [ap_cst, ap_gV, ap_gB, ap_dLst, ap_dNil, ap_dCons, ap_dTup, ap_dB, ap_dBl, ap_dU, ap_dC, ap_dCK, ap_dNot, ap_dAnd, ap_dOr, ap_dAndV, ap_dOrV, ap_dNotV, ap_dIf, ap_dSeq, ap_dSkip, ap_dF, ap_dRet, ap_dRetN, ap_dSet, ap_dOwn, ap_dDrop, ap_dFor, ap_dComp, ap_dBrk, ap_dCnt, ap_dParM, ap_mNil, ap_mV, ap_mN, ap_dAsg, ap_dPar, ap_dPar3, ap_dApp, ap_dExt, ap_dNo, ap_dSome, ap_asInt, ap_dSl, getV_zero, getV_succ, getB_zero, getB_zeroO, getB_succ, ownL_zero, ownL_succ, tgName_ap, forT_nil, ret_bind, fail_bind, exc_bind, bind_assoc', add_ii, sub_ii, lt_ii, le_ii, gt_ii, ge_ii, eq_ii, ne_ii, abs_i, int_i, int_b, len_l, len_t, items_l, items_t, truth_b, asObj_self, List.set_cons_succ, List.set_cons_zero, if_true, if_false, Bool.false_eq_true, Bool.not_true, Bool.not_false, hi, isInt]; rfl
        | dct a b => try simp only [ap_cst, ap_gV, ap_gB, ap_dLst, ap_dNil, ap_dCons, ap_dTup, ap_dB, ap_dBl, ap_dU, ap_dC, ap_dCK, ap_dNot, ap_dAnd, ap_dOr, ap_dAndV, ap_dOrV, ap_dNotV, ap_dIf, ap_dSeq, ap_dSkip, ap_dF, ap_dRet, ap_dRetN, ap_dSet, ap_dOwn, ap_dDrop, ap_dFor, ap_dComp, ap_dBrk, ap_dCnt, ap_dParM, ap_mNil, ap_mV, ap_mN, ap_dAsg, ap_dPar, ap_dPar3, ap_dApp, ap_dExt, ap_dNo, ap_dSome, ap_asInt, ap_dSl, getV_zero, getV_succ, getB_zero, getB_zeroO, getB_succ, ownL_zero, ownL_succ, tgName_ap, forT_nil, ret_bind, fail_bind, exc_bind, bind_assoc', add_ii, sub_ii, lt_ii, le_ii, gt_ii, ge_ii, eq_ii, ne_ii, abs_i, int_i, int_b, len_l, len_t, items_l, items_t, truth_b, asObj_self, List.set_cons_succ, List.set_cons_zero, if_true, if_false, Bool.false_eq_true, Bool.not_true, Bool.not_false, hi, isInt]; rfl
      have he : ((l.filter (badB p)).map fun _ => D.int 1).isEmpty = l.all (belowB · p) := by
        have : ∀ m : List D, ((m.filter (badB p)).map fun _ => D.int 1).isEmpty = m.all (belowB · p) := by
          intro m
          induction m with
          | nil => rfl
          | cons d r ih =>
            rw [List.all_cons, List.filter_cons]
            cases hb : belowB d p with
            | true => simp only [badB, hb, Bool.not_true, Bool.false_eq_true, if_false, Bool.true_and]; exact ih
            | false => simp only [badB, hb, Bool.not_false, if_true, Bool.false_and]; rfl
        exact this l
      have hnn : decide ((l.length : Int) = n) = true := decide_eq_true hn
      try simp only [ap_cst, ap_gV, ap_gB, ap_dLst, ap_dNil, ap_dCons, ap_dTup, ap_dB, ap_dBl, ap_dU, ap_dC, ap_dCK, ap_dNot, ap_dAnd, ap_dOr, ap_dAndV, ap_dOrV, ap_dNotV, ap_dIf, ap_dSeq, ap_dSkip, ap_dF, ap_dRet, ap_dRetN, ap_dSet, ap_dOwn, ap_dDrop, ap_dFor, ap_dComp, ap_dBrk, ap_dCnt, ap_dParM, ap_mNil, ap_mV, ap_mN, ap_dAsg, ap_dPar, ap_dPar3, ap_dApp, ap_dExt, ap_dNo, ap_dSome, ap_asInt, ap_dSl, getV_zero, getV_succ, getB_zero, getB_zeroO, getB_succ, ownL_zero, ownL_succ, tgName_ap, forT_nil, ret_bind, fail_bind, exc_bind, bind_assoc', add_ii, sub_ii, lt_ii, le_ii, gt_ii, ge_ii, eq_ii, ne_ii, abs_i, int_i, int_b, len_l, len_t, items_l, items_t, truth_b, asObj_self, List.set_cons_succ, List.set_cons_zero, if_true, if_false, Bool.false_eq_true, Bool.not_true, Bool.not_false, h1, isTup, hnn, hc, eqL_nil, he]
      simp [rowB, hn]
    · have hnn : decide ((l.length : Int) = n) = false := decide_eq_false hn
      try simp only [ap_cst, ap_gV, ap_gB, ap_dLst, ap_dNil, ap_dCons, ap_dTup, ap_dB, ap_dBl, ap_dU, ap_dC, ap_dCK, ap_dNot, ap_dAnd, ap_dOr, ap_dAndV, ap_dOrV, ap_dNotV, ap_dIf, ap_dSeq, ap_dSkip, ap_dF, ap_dRet, ap_dRetN, ap_dSet, ap_dOwn, ap_dDrop, ap_dFor, ap_dComp, ap_dBrk, ap_dCnt, ap_dParM, ap_mNil, ap_mV, ap_mN, ap_dAsg, ap_dPar, ap_dPar3, ap_dApp, ap_dExt, ap_dNo, ap_dSome, ap_asInt, ap_dSl, getV_zero, getV_succ, getB_zero, getB_zeroO, getB_succ, ownL_zero, ownL_succ, tgName_ap, forT_nil, ret_bind, fail_bind, exc_bind, bind_assoc', add_ii, sub_ii, lt_ii, le_ii, gt_ii, ge_ii, eq_ii, ne_ii, abs_i, int_i, int_b, len_l, len_t, items_l, items_t, truth_b, asObj_self, List.set_cons_succ, List.set_cons_zero, if_true, if_false, Bool.false_eq_true, Bool.not_true, Bool.not_false, h1, isTup, hnn]
      simp [rowB, hn]
  | obj a => cases h
  | non => simp [h1, isTup, rowB]
  | bl b => simp [h1, isTup, rowB]
  | int i => simp [h1, isTup, rowB]
  | str x => simp [h1, isTup, rowB]
  | lst l => simp [h1, isTup, rowB]
  | dct a b => simp [h1, isTup, rowB]
def isZ : D → Bool
  | .int 0 => true
  | _ => false
def hitZ (x : D × Nat) : Option D := if isZ x.1 = true then none else some (.int ((x.2 : Nat) : Int))
def leadF (l : List D) : Option D := l.zipIdx.findSome? hitZ
def allInt (l : List D) : Prop := ∀ d ∈ l, isInt d = true
theorem ne_zero (d : D) (h : isInt d = true) : neD d (.int 0) = T.ret (!isZ d) := by
  cases d with
  | int i =>
    rw [ne_ii]
    by_cases h0 : i = 0
    · subst h0; rfl
    · rw [decide_eq_false h0]
      unfold isZ
      split
      · rename_i he; cases he; exact absurd rfl h0
      · rfl
  | _ => cases h
theorem d_nth {l : List D} {i : Nat} {t : D} (h : l[i]? = some t) : ixD (.tup l) (.int (i : Int)) = T.ret t := by
  show (match atI l (i : Int) with | some d => T.ret d | none => T.fail) = _
  rw [atI_nat (j := i) h]
theorem d_nthL {l : List D} {i : Nat} {t : D} (h : l[i]? = some t) : ixD (.lst l) (.int (i : Int)) = T.ret t := by
  show (match atI l (i : Int) with | some d => T.ret d | none => T.fail) = _
  rw [atI_nat (j := i) h]
theorem lead_of_eq (l : List D) (h : allInt l) (hl : l.length ≤ 1000) : t_lead_of [.tup l] = T.ret (resD (leadF l)) := by
  unfold t_lead_of bodyT b_lead_of
  have e0 : startE 2 [.tup l] = [.val (.tup l), .un] := rfl
  rw [e0]
  have hr : range1 [.int (l.length : Int)] = T.ret (rangeD 0 l.length) := range1_nat _ (by omega)
  have key := forT_first (fun x : D × Nat => D.int ((x.2 : Nat) : Int)) hitZ (f := tgName 1) (b := dIf (dB neD (dB ixD (gV 0) (gV 1)) (cst (.int 0))) (dRet (gV 1)) dSkip) (fun env => ∃ x, env = [.val (.tup l), x]) l.zipIdx (fun a ha env hi => by
    obtain ⟨x, rfl⟩ := hi
    obtain ⟨g1, g2⟩ := zipIdx_mem ha
    have hx := d_nth g1
    have hn := ne_zero a.1 (h _ g2)
    unfold hitZ
    refine ⟨_, rfl, fun y hy => ?_, fun hy => ⟨[.val (.tup l), .val (.int (a.2 : Int))], ?_, _, rfl⟩⟩
    · split at hy
      · cases hy
      · rename_i hz
        cases hy
        have hz : isZ a.1 = false := by simpa using hz
        rw [hz] at hn
        try simp only [ap_cst, ap_gV, ap_gB, ap_dLst, ap_dNil, ap_dCons, ap_dTup, ap_dB, ap_dBl, ap_dU, ap_dC, ap_dCK, ap_dNot, ap_dAnd, ap_dOr, ap_dAndV, ap_dOrV, ap_dNotV, ap_dIf, ap_dSeq, ap_dSkip, ap_dF, ap_dRet, ap_dRetN, ap_dSet, ap_dOwn, ap_dDrop, ap_dFor, ap_dComp, ap_dBrk, ap_dCnt, ap_dParM, ap_mNil, ap_mV, ap_mN, ap_dAsg, ap_dPar, ap_dPar3, ap_dApp, ap_dExt, ap_dNo, ap_dSome, ap_asInt, ap_dSl, getV_zero, getV_succ, getB_zero, getB_zeroO, getB_succ, ownL_zero, ownL_succ, tgName_ap, forT_nil, ret_bind, fail_bind, exc_bind, bind_assoc', add_ii, sub_ii, lt_ii, le_ii, gt_ii, ge_ii, eq_ii, ne_ii, abs_i, int_i, int_b, len_l, len_t, items_l, items_t, truth_b, asObj_self, List.set_cons_succ, List.set_cons_zero, if_true, if_false, Bool.false_eq_true, Bool.not_true, Bool.not_false, hx, hn]
    · split at hy
      · rename_i hz
        rw [hz] at hn
        try simp only [ap_cst, ap_gV, ap_gB, ap_dLst, ap_dNil, ap_dCons, ap_dTup, ap_dB, ap_dBl, ap_dU, ap_dC, ap_dCK, ap_dNot, ap_dAnd, ap_dOr, ap_dAndV, ap_dOrV, ap_dNotV, ap_dIf, ap_dSeq, ap_dSkip, ap_dF, ap_dRet, ap_dRetN, ap_dSet, ap_dOwn, ap_dDrop, ap_dFor, ap_dComp, ap_dBrk, ap_dCnt, ap_dParM, ap_mNil, ap_mV, ap_mN, ap_dAsg, ap_dPar, ap_dPar3, ap_dApp, ap_dExt, ap_dNo, ap_dSome, ap_asInt, ap_dSl, getV_zero, getV_succ, getB_zero, getB_zeroO, getB_succ, ownL_zero, ownL_succ, tgName_ap, forT_nil, ret_bind, fail_bind, exc_bind, bind_assoc', add_ii, sub_ii, lt_ii, le_ii, gt_ii, ge_ii, eq_ii, ne_ii, abs_i, int_i, int_b, len_l, len_t, items_l, items_t, truth_b, asObj_self, List.set_cons_succ, List.set_cons_zero, if_true, if_false, Bool.false_eq_true, Bool.not_true, Bool.not_false, hx, hn]
      · cases hy) [.val (.tup l), .un] ⟨_, rfl⟩
  rw [zipIdx_range] at key
  unfold leadF
  cases hz : l.zipIdx.findSome? hitZ with
  | some e =>
    have k1 := key.1 e hz
    try simp only [ap_cst, ap_gV, ap_gB, ap_dLst, ap_dNil, ap_dCons, ap_dTup, ap_dB, ap_dBl, ap_dU, ap_dC, ap_dCK, ap_dNot, ap_dAnd, ap_dOr, ap_dAndV, ap_dOrV, ap_dNotV, ap_dIf, ap_dSeq, ap_dSkip, ap_dF, ap_dRet, ap_dRetN, ap_dSet, ap_dOwn, ap_dDrop, ap_dFor, ap_dComp, ap_dBrk, ap_dCnt, ap_dParM, ap_mNil, ap_mV, ap_mN, ap_dAsg, ap_dPar, ap_dPar3, ap_dApp, ap_dExt, ap_dNo, ap_dSome, ap_asInt, ap_dSl, getV_zero, getV_succ, getB_zero, getB_zeroO, getB_succ, ownL_zero, ownL_succ, tgName_ap, forT_nil, ret_bind, fail_bind, exc_bind, bind_assoc', add_ii, sub_ii, lt_ii, le_ii, gt_ii, ge_ii, eq_ii, ne_ii, abs_i, int_i, int_b, len_l, len_t, items_l, items_t, truth_b, asObj_self, List.set_cons_succ, List.set_cons_zero, if_true, if_false, Bool.false_eq_true, Bool.not_true, Bool.not_false, hr, k1]
    rfl
  | none =>
    obtain ⟨e', k2, x, rfl⟩ := key.2 hz
    try simp only [ap_cst, ap_gV, ap_gB, ap_dLst, ap_dNil, ap_dCons, ap_dTup, ap_dB, ap_dBl, ap_dU, ap_dC, ap_dCK, ap_dNot, ap_dAnd, ap_dOr, ap_dAndV, ap_dOrV, ap_dNotV, ap_dIf, ap_dSeq, ap_dSkip, ap_dF, ap_dRet, ap_dRetN, ap_dSet, ap_dOwn, ap_dDrop, ap_dFor, ap_dComp, ap_dBrk, ap_dCnt, ap_dParM, ap_mNil, ap_mV, ap_mN, ap_dAsg, ap_dPar, ap_dPar3, ap_dApp, ap_dExt, ap_dNo, ap_dSome, ap_asInt, ap_dSl, getV_zero, getV_succ, getB_zero, getB_zeroO, getB_succ, ownL_zero, ownL_succ, tgName_ap, forT_nil, ret_bind, fail_bind, exc_bind, bind_assoc', add_ii, sub_ii, lt_ii, le_ii, gt_ii, ge_ii, eq_ii, ne_ii, abs_i, int_i, int_b, len_l, len_t, items_l, items_t, truth_b, asObj_self, List.set_cons_succ, List.set_cons_zero, if_true, if_false, Bool.false_eq_true, Bool.not_true, Bool.not_false, hr, k2]
    rfl
def leadL (l : List D) : D := match leadF l with
  | some e => e
  | none => .int (l.length : Int)
theorem l_lead_eq (l : List D) (h : allInt l) : t_l_lead [.tup l] = T.ret (leadL l) := by
  unfold t_l_lead bodyT b_l_lead
  have e0 : startE 3 [.tup l] = [.val (.tup l), .un, .un] := rfl
  rw [e0]
  have hr : enumOf [.tup l] = T.ret (l.zipIdx.map fun x => D.tup [.int ((x.2 : Nat) : Int), x.1]) := rfl
  have key := forT_first (fun x : D × Nat => D.tup [.int ((x.2 : Nat) : Int), x.1]) hitZ (f := tgTup (tgCons (tgName 1) (tgCons (tgName 2) tgNil)) 2) (b := dIf (dB neD (gV 2) (cst (.int 0))) (dRet (gV 1)) dSkip) (fun env => ∃ x y, env = [.val (.tup l), x, y]) l.zipIdx (fun a ha env hi => by
    obtain ⟨x, y, rfl⟩ := hi
    obtain ⟨g1, g2⟩ := zipIdx_mem ha
    have hn := ne_zero a.1 (h _ g2)
    unfold hitZ
    refine ⟨[.val (.tup l), .val (.int (a.2 : Int)), .val a.1], rfl, fun y hy => ?_, fun hy => ⟨[.val (.tup l), .val (.int (a.2 : Int)), .val a.1], ?_, _, _, rfl⟩⟩
    · split at hy
      · cases hy
      · rename_i hz
        cases hy
        have hz : isZ a.1 = false := by simpa using hz
        rw [hz] at hn
        try simp only [ap_cst, ap_gV, ap_gB, ap_dLst, ap_dNil, ap_dCons, ap_dTup, ap_dB, ap_dBl, ap_dU, ap_dC, ap_dCK, ap_dNot, ap_dAnd, ap_dOr, ap_dAndV, ap_dOrV, ap_dNotV, ap_dIf, ap_dSeq, ap_dSkip, ap_dF, ap_dRet, ap_dRetN, ap_dSet, ap_dOwn, ap_dDrop, ap_dFor, ap_dComp, ap_dBrk, ap_dCnt, ap_dParM, ap_mNil, ap_mV, ap_mN, ap_dAsg, ap_dPar, ap_dPar3, ap_dApp, ap_dExt, ap_dNo, ap_dSome, ap_asInt, ap_dSl, getV_zero, getV_succ, getB_zero, getB_zeroO, getB_succ, ownL_zero, ownL_succ, tgName_ap, forT_nil, ret_bind, fail_bind, exc_bind, bind_assoc', add_ii, sub_ii, lt_ii, le_ii, gt_ii, ge_ii, eq_ii, ne_ii, abs_i, int_i, int_b, len_l, len_t, items_l, items_t, truth_b, asObj_self, List.set_cons_succ, List.set_cons_zero, if_true, if_false, Bool.false_eq_true, Bool.not_true, Bool.not_false, hn]
    · split at hy
      · rename_i hz
        rw [hz] at hn
        try simp only [ap_cst, ap_gV, ap_gB, ap_dLst, ap_dNil, ap_dCons, ap_dTup, ap_dB, ap_dBl, ap_dU, ap_dC, ap_dCK, ap_dNot, ap_dAnd, ap_dOr, ap_dAndV, ap_dOrV, ap_dNotV, ap_dIf, ap_dSeq, ap_dSkip, ap_dF, ap_dRet, ap_dRetN, ap_dSet, ap_dOwn, ap_dDrop, ap_dFor, ap_dComp, ap_dBrk, ap_dCnt, ap_dParM, ap_mNil, ap_mV, ap_mN, ap_dAsg, ap_dPar, ap_dPar3, ap_dApp, ap_dExt, ap_dNo, ap_dSome, ap_asInt, ap_dSl, getV_zero, getV_succ, getB_zero, getB_zeroO, getB_succ, ownL_zero, ownL_succ, tgName_ap, forT_nil, ret_bind, fail_bind, exc_bind, bind_assoc', add_ii, sub_ii, lt_ii, le_ii, gt_ii, ge_ii, eq_ii, ne_ii, abs_i, int_i, int_b, len_l, len_t, items_l, items_t, truth_b, asObj_self, List.set_cons_succ, List.set_cons_zero, if_true, if_false, Bool.false_eq_true, Bool.not_true, Bool.not_false, hn]
      · cases hy) [.val (.tup l), .un, .un] ⟨_, _, rfl⟩
  unfold leadL leadF
  cases hz : l.zipIdx.findSome? hitZ with
  | some e =>
    have k1 := key.1 e hz
    try simp only [ap_cst, ap_gV, ap_gB, ap_dLst, ap_dNil, ap_dCons, ap_dTup, ap_dB, ap_dBl, ap_dU, ap_dC, ap_dCK, ap_dNot, ap_dAnd, ap_dOr, ap_dAndV, ap_dOrV, ap_dNotV, ap_dIf, ap_dSeq, ap_dSkip, ap_dF, ap_dRet, ap_dRetN, ap_dSet, ap_dOwn, ap_dDrop, ap_dFor, ap_dComp, ap_dBrk, ap_dCnt, ap_dParM, ap_mNil, ap_mV, ap_mN, ap_dAsg, ap_dPar, ap_dPar3, ap_dApp, ap_dExt, ap_dNo, ap_dSome, ap_asInt, ap_dSl, getV_zero, getV_succ, getB_zero, getB_zeroO, getB_succ, ownL_zero, ownL_succ, tgName_ap, forT_nil, ret_bind, fail_bind, exc_bind, bind_assoc', add_ii, sub_ii, lt_ii, le_ii, gt_ii, ge_ii, eq_ii, ne_ii, abs_i, int_i, int_b, len_l, len_t, items_l, items_t, truth_b, asObj_self, List.set_cons_succ, List.set_cons_zero, if_true, if_false, Bool.false_eq_true, Bool.not_true, Bool.not_false, hr, k1]
  | none =>
    obtain ⟨e', k2, x, y, rfl⟩ := key.2 hz
    try simp only [ap_cst, ap_gV, ap_gB, ap_dLst, ap_dNil, ap_dCons, ap_dTup, ap_dB, ap_dBl, ap_dU, ap_dC, ap_dCK, ap_dNot, ap_dAnd, ap_dOr, ap_dAndV, ap_dOrV, ap_dNotV, ap_dIf, ap_dSeq, ap_dSkip, ap_dF, ap_dRet, ap_dRetN, ap_dSet, ap_dOwn, ap_dDrop, ap_dFor, ap_dComp, ap_dBrk, ap_dCnt, ap_dParM, ap_mNil, ap_mV, ap_mN, ap_dAsg, ap_dPar, ap_dPar3, ap_dApp, ap_dExt, ap_dNo, ap_dSome, ap_asInt, ap_dSl, getV_zero, getV_succ, getB_zero, getB_zeroO, getB_succ, ownL_zero, ownL_succ, tgName_ap, forT_nil, ret_bind, fail_bind, exc_bind, bind_assoc', add_ii, sub_ii, lt_ii, le_ii, gt_ii, ge_ii, eq_ii, ne_ii, abs_i, int_i, int_b, len_l, len_t, items_l, items_t, truth_b, asObj_self, List.set_cons_succ, List.set_cons_zero, if_true, if_false, Bool.false_eq_true, Bool.not_true, Bool.not_false, hr, k2]
end Law

namespace Law
open PySem PySem.Spec PyProof.Rows L2 Eng
def rowL : D → List D
  | .tup l => l
  | _ => []
def hitN (x : D × Nat) : Option Nat := if isZ x.1 = true then none else some x.2
def leadN (l : List D) : Option Nat := l.zipIdx.findSome? hitN
theorem leadF_N (l : List D) : leadF l = (leadN l).map fun (j : Nat) => D.int (j : Int) := by
  unfold leadF leadN
  generalize l.zipIdx = m
  induction m with
  | nil => rfl
  | cons x r ih =>
    rw [List.findSome?_cons, List.findSome?_cons]
    unfold hitZ hitN at *
    by_cases h : isZ x.1 = true
    · simp only [h, if_true]; exact ih
    · simp only [h, if_false]; rfl
theorem leadN_lt {l : List D} {j : Nat} (h : leadN l = some j) : j < l.length := by
  obtain ⟨x, hx, he⟩ := List.exists_of_findSome?_eq_some h
  unfold hitN at he
  split at he
  · cases he
  · cases he
    exact (List.getElem?_eq_some_iff.mp (zipIdx_mem hx).1).1
structure Rows (n : Nat) (rs : List D) : Prop where
  row : ∀ r ∈ rs, ∃ l, r = .tup l ∧ allInt l ∧ l.length = n
  len : rs.length ≤ 1000000
  nn : n ≤ 8
def isOne : Option D → Bool
  | some (.int 1) => true
  | _ => false
def errOne (i : Nat) : D := .tup [.str "one", .int (i : Int)]
def oneN (x : D × Nat) : Option D := match leadN (rowL x.1) with
  | none => some (errOne x.2)
  | some j => if isOne (rowL x.1)[j]? = true then none else some (errOne x.2)
def jsOf (rs : List D) : List Nat := rs.map fun r => (leadN (rowL r)).getD 0
def errSt (i : Nat) : D := .tup [.str "stairs", .int (1 + (i : Int))]
def stF (js : List Nat) (i : Nat) : Option D := if js.getD (i + 1) 0 ≤ js.getD i 0 then some (errSt i) else none
def errCl (i k : Nat) : D := .tup [.int (i : Int), .int (k : Int)]
def zAt (l : List D) (j : Nat) : Bool := match l[j]? with
  | some d => isZ d
  | none => true
def clI (j i : Nat) (y : D × Nat) : Option D := if y.2 = i ∨ zAt (rowL y.1) j = true then none else some (errCl i y.2)
def clF (rs : List D) (x : Nat × Nat) : Option D := rs.zipIdx.findSome? (clI x.1 x.2)
def stairsF (rs : List D) : Option D := match rs.zipIdx.findSome? oneN with
  | some e => some e
  | none => match (List.range (rs.length - 1)).findSome? (stF (jsOf rs)) with
    | some e => some e
    | none => (jsOf rs).zipIdx.findSome? (clF rs)
theorem ne_one (d : D) (h : isInt d = true) : neD d (.int 1) = T.ret (!isOne (some d)) := by
  cases d with
  | int i =>
    rw [ne_ii]
    by_cases h0 : i = 1
    · subst h0; rfl
    · rw [decide_eq_false h0]
      unfold isOne
      split
      · rename_i he; cases he; exact absurd rfl h0
      · rfl
  | _ => cases h
theorem range_map (m : Nat) : rangeD 0 m = (List.range m).map fun (i : Nat) => D.int (i : Int) := by
  unfold rangeD
  simp
theorem getD_at {js : List Nat} {i : Nat} (h : i < js.length) : js[i]? = some (js.getD i 0) := by
  rw [List.getD_eq_getElem?_getD, List.getElem?_eq_getElem h]; rfl
/-- all leads are there -/
theorem ones_js {rs : List D} (h : rs.zipIdx.findSome? oneN = none) : ∀ r ∈ rs, ∃ j, leadN (rowL r) = some j := by
  intro r hr
  obtain ⟨i, hi⟩ := List.getElem?_of_mem hr
  have hm : (r, i) ∈ rs.zipIdx := List.mem_zipIdx_iff_getElem?.mpr hi
  have := List.findSome?_eq_none_iff.mp h _ hm
  unfold oneN at this
  cases hz : leadN (rowL r) with
  | some j => exact ⟨j, rfl⟩
  | none => simp only [hz] at this; cases this
theorem range2_nat (n : Nat) (h : n ≤ 16777216) : range2 [.int 1, .int (n : Int)] = T.ret (rangeD 1 (n - 1)) := by
  unfold range2
  simp only
  rw [if_pos ⟨by omega, by omega, by omega, by omega, by omega⟩, show ((n : Int) - 1).toNat = n - 1 by omega]
abbrev oneB : Eng.Env → T Out := dIf (dOr (dB isNoneD (dB ixD (gB 1) (gV 3)) (cst .non)) (dB neD (dB ixD (dB ixD (gV 0) (gV 3)) (dB ixD (gB 1) (gV 3))) (cst (.int 1)))) (dRet (dTup (dCons (cst (.str "one")) (dCons (gV 3) dNil)))) dSkip
theorem one_loop {n : Nat} {rs : List D} (H : Rows n rs) :
    (∀ x, rs.zipIdx.findSome? oneN = some x → forT (tgName 3) oneB (rs.zipIdx.map fun x : D × Nat => D.int ((x.2 : Nat) : Int)) [.val (.tup rs), .own (.lst (rs.map fun r => resD (leadF (rowL r)))), .un, .un, .un] = T.ret (.rt x)) ∧ (rs.zipIdx.findSome? oneN = none → ∃ e', forT (tgName 3) oneB (rs.zipIdx.map fun x : D × Nat => D.int ((x.2 : Nat) : Int)) [.val (.tup rs), .own (.lst (rs.map fun r => resD (leadF (rowL r)))), .un, .un, .un] = T.ret (.nx e') ∧ ∃ x, e' = [.val (.tup rs), .own (.lst (rs.map fun r => resD (leadF (rowL r)))), .un, x, .un]) := by
  have one_k : ∀ {r : D} {k : Nat}, rs[k]? = some r → ixD (.lst (rs.map fun r => resD (leadF (rowL r)))) (.int (k : Int)) = T.ret (resD (leadF (rowL r))) := fun {r k} h => d_nthL (by rw [List.getElem?_map, h]; rfl)
  exact forT_first (fun x : D × Nat => D.int ((x.2 : Nat) : Int)) oneN (f := tgName 3) (b := dIf (dOr (dB isNoneD (dB ixD (gB 1) (gV 3)) (cst .non)) (dB neD (dB ixD (dB ixD (gV 0) (gV 3)) (dB ixD (gB 1) (gV 3))) (cst (.int 1)))) (dRet (dTup (dCons (cst (.str "one")) (dCons (gV 3) dNil)))) dSkip) (fun env => ∃ x, env = [.val (.tup rs), .own (.lst (rs.map fun r => resD (leadF (rowL r)))), .un, x, .un]) rs.zipIdx (fun a ha env hi => by
    obtain ⟨x, rfl⟩ := hi
    obtain ⟨g1, g2⟩ := zipIdx_mem ha
    obtain ⟨l, hl, hii, hz⟩ := H.row _ g2
    have hx := d_nth g1
    have ho := one_k g1
    rw [hl] at hx
    rw [hl, leadF_N] at ho
    have hL : rowL a.1 = l := by rw [hl]; rfl
    cases hq : leadN l with
    | none =>
      have hI : isNoneD .non .non = T.ret true := rfl
      rw [show rowL (.tup l) = l from rfl, hq] at ho
      have hon : oneN a = some (errOne a.2) := by unfold oneN; rw [hL, hq]
      refine ⟨[.val (.tup rs), .own (.lst (rs.map fun r => resD (leadF (rowL r)))), .un, .val (.int (a.2 : Int)), .un], rfl, fun y hy => ?_, fun hy => by rw [hon] at hy; cases hy⟩
      rw [hon] at hy
      cases hy
      have ho : ixD (.lst (rs.map fun r => resD (leadF (rowL r)))) (.int (a.2 : Int)) = T.ret .non := ho
      try simp only [ap_cst, ap_gV, ap_gB, ap_dLst, ap_dNil, ap_dCons, ap_dTup, ap_dB, ap_dBl, ap_dU, ap_dC, ap_dCK, ap_dNot, ap_dAnd, ap_dOr, ap_dAndV, ap_dOrV, ap_dNotV, ap_dIf, ap_dSeq, ap_dSkip, ap_dF, ap_dRet, ap_dRetN, ap_dSet, ap_dOwn, ap_dDrop, ap_dFor, ap_dComp, ap_dBrk, ap_dCnt, ap_dParM, ap_mNil, ap_mV, ap_mN, ap_dAsg, ap_dPar, ap_dPar3, ap_dApp, ap_dExt, ap_dNo, ap_dSome, ap_asInt, ap_dSl, getV_zero, getV_succ, getB_zero, getB_zeroO, getB_succ, ownL_zero, ownL_succ, tgName_ap, forT_nil, ret_bind, fail_bind, exc_bind, bind_assoc', add_ii, sub_ii, lt_ii, le_ii, gt_ii, ge_ii, eq_ii, ne_ii, abs_i, int_i, int_b, len_l, len_t, items_l, items_t, truth_b, asObj_self, List.set_cons_succ, List.set_cons_zero, if_true, if_false, Bool.false_eq_true, Bool.not_true, Bool.not_false, ho, hI]
      rfl
    | some j =>
      rw [show rowL (.tup l) = l from rfl, hq] at ho
      have ho : ixD (.lst (rs.map fun r => resD (leadF (rowL r)))) (.int (a.2 : Int)) = T.ret (.int (j : Int)) := ho
      have hI : isNoneD (.int (j : Int)) .non = T.ret false := rfl
      have hj := leadN_lt hq
      have hg : l[j]? = some l[j] := List.getElem?_eq_getElem hj
      have hd := d_nth hg
      have hne := ne_one l[j] (hii _ (List.getElem_mem hj))
      refine ⟨[.val (.tup rs), .own (.lst (rs.map fun r => resD (leadF (rowL r)))), .un, .val (.int (a.2 : Int)), .un], rfl, fun y hy => ?_, fun hy => ⟨[.val (.tup rs), .own (.lst (rs.map fun r => resD (leadF (rowL r)))), .un, .val (.int (a.2 : Int)), .un], ?_, _, rfl⟩⟩
      · unfold oneN at hy
        rw [hL, hq] at hy
        simp only [hg] at hy
        split at hy
        · cases hy
        · rename_i hz
          cases hy
          rw [show isOne (some l[j]) = false by simpa using hz] at hne
          try simp only [ap_cst, ap_gV, ap_gB, ap_dLst, ap_dNil, ap_dCons, ap_dTup, ap_dB, ap_dBl, ap_dU, ap_dC, ap_dCK, ap_dNot, ap_dAnd, ap_dOr, ap_dAndV, ap_dOrV, ap_dNotV, ap_dIf, ap_dSeq, ap_dSkip, ap_dF, ap_dRet, ap_dRetN, ap_dSet, ap_dOwn, ap_dDrop, ap_dFor, ap_dComp, ap_dBrk, ap_dCnt, ap_dParM, ap_mNil, ap_mV, ap_mN, ap_dAsg, ap_dPar, ap_dPar3, ap_dApp, ap_dExt, ap_dNo, ap_dSome, ap_asInt, ap_dSl, getV_zero, getV_succ, getB_zero, getB_zeroO, getB_succ, ownL_zero, ownL_succ, tgName_ap, forT_nil, ret_bind, fail_bind, exc_bind, bind_assoc', add_ii, sub_ii, lt_ii, le_ii, gt_ii, ge_ii, eq_ii, ne_ii, abs_i, int_i, int_b, len_l, len_t, items_l, items_t, truth_b, asObj_self, List.set_cons_succ, List.set_cons_zero, if_true, if_false, Bool.false_eq_true, Bool.not_true, Bool.not_false, ho, hI, hx, hd, hne]
          rfl
      · unfold oneN at hy
        rw [hL, hq] at hy
        simp only [hg] at hy
        split at hy
        · rename_i hz
          rw [hz] at hne
          try simp only [ap_cst, ap_gV, ap_gB, ap_dLst, ap_dNil, ap_dCons, ap_dTup, ap_dB, ap_dBl, ap_dU, ap_dC, ap_dCK, ap_dNot, ap_dAnd, ap_dOr, ap_dAndV, ap_dOrV, ap_dNotV, ap_dIf, ap_dSeq, ap_dSkip, ap_dF, ap_dRet, ap_dRetN, ap_dSet, ap_dOwn, ap_dDrop, ap_dFor, ap_dComp, ap_dBrk, ap_dCnt, ap_dParM, ap_mNil, ap_mV, ap_mN, ap_dAsg, ap_dPar, ap_dPar3, ap_dApp, ap_dExt, ap_dNo, ap_dSome, ap_asInt, ap_dSl, getV_zero, getV_succ, getB_zero, getB_zeroO, getB_succ, ownL_zero, ownL_succ, tgName_ap, forT_nil, ret_bind, fail_bind, exc_bind, bind_assoc', add_ii, sub_ii, lt_ii, le_ii, gt_ii, ge_ii, eq_ii, ne_ii, abs_i, int_i, int_b, len_l, len_t, items_l, items_t, truth_b, asObj_self, List.set_cons_succ, List.set_cons_zero, if_true, if_false, Bool.false_eq_true, Bool.not_true, Bool.not_false, ho, hI, hx, hd, hne]
        · cases hy) [.val (.tup rs), .own (.lst (rs.map fun r => resD (leadF (rowL r)))), .un, .un, .un] ⟨_, rfl⟩
abbrev stB : Eng.Env → T Out := dIf (dB leD (dB ixD (gB 1) (gV 3)) (dB ixD (gB 1) (dB subD (gV 3) (cst (.int 1))))) (dRet (dTup (dCons (cst (.str "stairs")) (dCons (gV 3) dNil)))) dSkip
theorem j_at {rs : List D} {i : Nat} (hi : i < rs.length) : ixD (.lst ((jsOf rs).map fun (j : Nat) => D.int (j : Int))) (.int (i : Int)) = T.ret (.int (((jsOf rs).getD i 0 : Nat) : Int)) := d_nthL (by rw [List.getElem?_map, getD_at (by unfold jsOf; rw [List.length_map]; exact hi)]; rfl)
theorem st_loop (rs : List D) (x1 : Sl) :
    (∀ x, (List.range (rs.length - 1)).findSome? (stF (jsOf rs)) = some x → forT (tgName 3) stB ((List.range (rs.length - 1)).map fun i : Nat => D.int (1 + (i : Int))) [.val (.tup rs), .own (.lst ((jsOf rs).map fun (j : Nat) => D.int (j : Int))), .un, x1, .un] = T.ret (.rt x)) ∧ ((List.range (rs.length - 1)).findSome? (stF (jsOf rs)) = none → ∃ e', forT (tgName 3) stB ((List.range (rs.length - 1)).map fun i : Nat => D.int (1 + (i : Int))) [.val (.tup rs), .own (.lst ((jsOf rs).map fun (j : Nat) => D.int (j : Int))), .un, x1, .un] = T.ret (.nx e') ∧ ∃ x, e' = [.val (.tup rs), .own (.lst ((jsOf rs).map fun (j : Nat) => D.int (j : Int))), .un, x, .un]) := by
  exact forT_first (fun i : Nat => D.int (1 + (i : Int))) (stF (jsOf rs)) (f := tgName 3) (b := dIf (dB leD (dB ixD (gB 1) (gV 3)) (dB ixD (gB 1) (dB subD (gV 3) (cst (.int 1))))) (dRet (dTup (dCons (cst (.str "stairs")) (dCons (gV 3) dNil)))) dSkip) (fun env => ∃ x, env = [.val (.tup rs), .own (.lst ((jsOf rs).map fun (j : Nat) => D.int (j : Int))), .un, x, .un]) (List.range (rs.length - 1)) (fun i hi env he => by
    obtain ⟨x, rfl⟩ := he
    have hi := List.mem_range.mp hi
    have a1 := j_at (rs := rs) (i := i + 1) (by omega)
    have a2 := j_at (rs := rs) (i := i) (by omega)
    rw [show ((i + 1 : Nat) : Int) = 1 + (i : Int) by omega] at a1
    have e3 : 1 + (i : Int) - 1 = (i : Int) := by omega
    unfold stF
    refine ⟨[.val (.tup rs), .own (.lst ((jsOf rs).map fun (j : Nat) => D.int (j : Int))), .un, .val (.int (1 + (i : Int))), .un], rfl, fun y hy => ?_, fun hy => ⟨[.val (.tup rs), .own (.lst ((jsOf rs).map fun (j : Nat) => D.int (j : Int))), .un, .val (.int (1 + (i : Int))), .un], ?_, _, rfl⟩⟩
    · split at hy
      · rename_i hz
        cases hy
        have hz' : decide ((((jsOf rs).getD (i + 1) 0 : Nat) : Int) ≤ (((jsOf rs).getD i 0 : Nat) : Int)) = true := decide_eq_true (by omega)
        try simp only [ap_cst, ap_gV, ap_gB, ap_dLst, ap_dNil, ap_dCons, ap_dTup, ap_dB, ap_dBl, ap_dU, ap_dC, ap_dCK, ap_dNot, ap_dAnd, ap_dOr, ap_dAndV, ap_dOrV, ap_dNotV, ap_dIf, ap_dSeq, ap_dSkip, ap_dF, ap_dRet, ap_dRetN, ap_dSet, ap_dOwn, ap_dDrop, ap_dFor, ap_dComp, ap_dBrk, ap_dCnt, ap_dParM, ap_mNil, ap_mV, ap_mN, ap_dAsg, ap_dPar, ap_dPar3, ap_dApp, ap_dExt, ap_dNo, ap_dSome, ap_asInt, ap_dSl, getV_zero, getV_succ, getB_zero, getB_zeroO, getB_succ, ownL_zero, ownL_succ, tgName_ap, forT_nil, ret_bind, fail_bind, exc_bind, bind_assoc', add_ii, sub_ii, lt_ii, le_ii, gt_ii, ge_ii, eq_ii, ne_ii, abs_i, int_i, int_b, len_l, len_t, items_l, items_t, truth_b, asObj_self, List.set_cons_succ, List.set_cons_zero, if_true, if_false, Bool.false_eq_true, Bool.not_true, Bool.not_false, a1, e3, a2, hz']
        rfl
      · cases hy
    · split at hy
      · cases hy
      · rename_i hz
        have hz' : decide ((((jsOf rs).getD (i + 1) 0 : Nat) : Int) ≤ (((jsOf rs).getD i 0 : Nat) : Int)) = false := decide_eq_false (by omega)
        try simp only [ap_cst, ap_gV, ap_gB, ap_dLst, ap_dNil, ap_dCons, ap_dTup, ap_dB, ap_dBl, ap_dU, ap_dC, ap_dCK, ap_dNot, ap_dAnd, ap_dOr, ap_dAndV, ap_dOrV, ap_dNotV, ap_dIf, ap_dSeq, ap_dSkip, ap_dF, ap_dRet, ap_dRetN, ap_dSet, ap_dOwn, ap_dDrop, ap_dFor, ap_dComp, ap_dBrk, ap_dCnt, ap_dParM, ap_mNil, ap_mV, ap_mN, ap_dAsg, ap_dPar, ap_dPar3, ap_dApp, ap_dExt, ap_dNo, ap_dSome, ap_asInt, ap_dSl, getV_zero, getV_succ, getB_zero, getB_zeroO, getB_succ, ownL_zero, ownL_succ, tgName_ap, forT_nil, ret_bind, fail_bind, exc_bind, bind_assoc', add_ii, sub_ii, lt_ii, le_ii, gt_ii, ge_ii, eq_ii, ne_ii, abs_i, int_i, int_b, len_l, len_t, items_l, items_t, truth_b, asObj_self, List.set_cons_succ, List.set_cons_zero, if_true, if_false, Bool.false_eq_true, Bool.not_true, Bool.not_false, a1, e3, a2, hz']) [.val (.tup rs), .own (.lst ((jsOf rs).map fun (j : Nat) => D.int (j : Int))), .un, x1, .un] ⟨_, rfl⟩
abbrev clB1 : Eng.Env → T Out := dIf (dAnd (dB neD (gV 4) (gV 3)) (dB neD (dB ixD (dB ixD (gV 0) (gV 4)) (dB ixD (gB 1) (gV 3))) (cst (.int 0)))) (dRet (dTup (dCons (gV 3) (dCons (gV 4) dNil)))) dSkip
abbrev clB : Eng.Env → T Out := dFor (dC range1 (dCons (dC lenD (dCons (gV 0) dNil)) dNil)) (tgName 4) clB1
theorem cl_loop {n : Nat} {rs : List D} (H : Rows n rs) (hjs : ∀ r ∈ rs, ∃ j, leadN (rowL r) = some j) (x2 : Sl) :
    (∀ x, (jsOf rs).zipIdx.findSome? (clF rs) = some x → forT (tgName 3) clB ((jsOf rs).zipIdx.map fun x : Nat × Nat => D.int ((x.2 : Nat) : Int)) [.val (.tup rs), .own (.lst ((jsOf rs).map fun (j : Nat) => D.int (j : Int))), .un, x2, .un] = T.ret (.rt x)) ∧ ((jsOf rs).zipIdx.findSome? (clF rs) = none → ∃ e', forT (tgName 3) clB ((jsOf rs).zipIdx.map fun x : Nat × Nat => D.int ((x.2 : Nat) : Int)) [.val (.tup rs), .own (.lst ((jsOf rs).map fun (j : Nat) => D.int (j : Int))), .un, x2, .un] = T.ret (.nx e') ∧ ∃ x y, e' = [.val (.tup rs), .own (.lst ((jsOf rs).map fun (j : Nat) => D.int (j : Int))), .un, x, y]) := by
  have hl := H.len
  have hr : range1 [.int (rs.length : Int)] = T.ret (rangeD 0 rs.length) := range1_nat _ (by omega)
  exact forT_first (fun x : Nat × Nat => D.int ((x.2 : Nat) : Int)) (clF rs) (f := tgName 3) (b := dFor (dC range1 (dCons (dC lenD (dCons (gV 0) dNil)) dNil)) (tgName 4) (dIf (dAnd (dB neD (gV 4) (gV 3)) (dB neD (dB ixD (dB ixD (gV 0) (gV 4)) (dB ixD (gB 1) (gV 3))) (cst (.int 0)))) (dRet (dTup (dCons (gV 3) (dCons (gV 4) dNil)))) dSkip)) (fun env => ∃ x y, env = [.val (.tup rs), .own (.lst ((jsOf rs).map fun (j : Nat) => D.int (j : Int))), .un, x, y]) (jsOf rs).zipIdx (fun a ha env he => by
    obtain ⟨x, y, rfl⟩ := he
    obtain ⟨g1, g2⟩ := zipIdx_mem ha
    have hja : ixD (.lst ((jsOf rs).map fun (j : Nat) => D.int (j : Int))) (.int (a.2 : Int)) = T.ret (.int (a.1 : Int)) := d_nthL (by rw [List.getElem?_map, g1]; rfl)
    have hjn : a.1 < n := by
      obtain ⟨r, hr, he⟩ := List.mem_map.mp (show a.1 ∈ rs.map fun r => (leadN (rowL r)).getD 0 from g2)
      obtain ⟨j, hj⟩ := hjs r hr
      rw [hj] at he
      obtain ⟨l, rfl, _, hz⟩ := H.row r hr
      have := leadN_lt hj
      have he : j = a.1 := he
      rw [show rowL (.tup l) = l from rfl] at this
      omega
    have inner := forT_first (fun x : D × Nat => D.int ((x.2 : Nat) : Int)) (clI a.1 a.2) (f := tgName 4) (b := dIf (dAnd (dB neD (gV 4) (gV 3)) (dB neD (dB ixD (dB ixD (gV 0) (gV 4)) (dB ixD (gB 1) (gV 3))) (cst (.int 0)))) (dRet (dTup (dCons (gV 3) (dCons (gV 4) dNil)))) dSkip) (fun env => ∃ y, env = [.val (.tup rs), .own (.lst ((jsOf rs).map fun (j : Nat) => D.int (j : Int))), .un, .val (.int (a.2 : Int)), y]) rs.zipIdx (fun b hb env he => by
      obtain ⟨y, rfl⟩ := he
      obtain ⟨q1, q2⟩ := zipIdx_mem hb
      obtain ⟨l, hlb, hii, hz⟩ := H.row _ q2
      have hx := d_nth q1
      rw [hlb] at hx
      have hL : rowL b.1 = l := by rw [hlb]; rfl
      have hj : a.1 < l.length := by omega
      have hg : l[a.1]? = some l[a.1] := List.getElem?_eq_getElem hj
      have hd := d_nth hg
      have hne := ne_zero l[a.1] (hii _ (List.getElem_mem hj))
      have hzA : zAt (rowL b.1) a.1 = isZ l[a.1] := by unfold zAt; rw [hL, hg]
      unfold clI
      rw [hzA]
      refine ⟨[.val (.tup rs), .own (.lst ((jsOf rs).map fun (j : Nat) => D.int (j : Int))), .un, .val (.int (a.2 : Int)), .val (.int (b.2 : Int))], rfl, fun y hy => ?_, fun hy => ⟨[.val (.tup rs), .own (.lst ((jsOf rs).map fun (j : Nat) => D.int (j : Int))), .un, .val (.int (a.2 : Int)), .val (.int (b.2 : Int))], ?_, _, rfl⟩⟩
      · split at hy
        · cases hy
        · rename_i hq
          cases hy
          have h3 : decide ((b.2 : Int) = (a.2 : Int)) = false := decide_eq_false (by omega)
          have h4 : isZ l[a.1] = false := by simpa using fun z => hq (.inr z)
          rw [h4] at hne
          try simp only [ap_cst, ap_gV, ap_gB, ap_dLst, ap_dNil, ap_dCons, ap_dTup, ap_dB, ap_dBl, ap_dU, ap_dC, ap_dCK, ap_dNot, ap_dAnd, ap_dOr, ap_dAndV, ap_dOrV, ap_dNotV, ap_dIf, ap_dSeq, ap_dSkip, ap_dF, ap_dRet, ap_dRetN, ap_dSet, ap_dOwn, ap_dDrop, ap_dFor, ap_dComp, ap_dBrk, ap_dCnt, ap_dParM, ap_mNil, ap_mV, ap_mN, ap_dAsg, ap_dPar, ap_dPar3, ap_dApp, ap_dExt, ap_dNo, ap_dSome, ap_asInt, ap_dSl, getV_zero, getV_succ, getB_zero, getB_zeroO, getB_succ, ownL_zero, ownL_succ, tgName_ap, forT_nil, ret_bind, fail_bind, exc_bind, bind_assoc', add_ii, sub_ii, lt_ii, le_ii, gt_ii, ge_ii, eq_ii, ne_ii, abs_i, int_i, int_b, len_l, len_t, items_l, items_t, truth_b, asObj_self, List.set_cons_succ, List.set_cons_zero, if_true, if_false, Bool.false_eq_true, Bool.not_true, Bool.not_false, h3, hx, hja, hd, hne]
          rfl
      · split at hy
        · rename_i hq
          by_cases h5 : b.2 = a.2
          · have h3 : decide ((b.2 : Int) = (a.2 : Int)) = true := decide_eq_true (by omega)
            try simp only [ap_cst, ap_gV, ap_gB, ap_dLst, ap_dNil, ap_dCons, ap_dTup, ap_dB, ap_dBl, ap_dU, ap_dC, ap_dCK, ap_dNot, ap_dAnd, ap_dOr, ap_dAndV, ap_dOrV, ap_dNotV, ap_dIf, ap_dSeq, ap_dSkip, ap_dF, ap_dRet, ap_dRetN, ap_dSet, ap_dOwn, ap_dDrop, ap_dFor, ap_dComp, ap_dBrk, ap_dCnt, ap_dParM, ap_mNil, ap_mV, ap_mN, ap_dAsg, ap_dPar, ap_dPar3, ap_dApp, ap_dExt, ap_dNo, ap_dSome, ap_asInt, ap_dSl, getV_zero, getV_succ, getB_zero, getB_zeroO, getB_succ, ownL_zero, ownL_succ, tgName_ap, forT_nil, ret_bind, fail_bind, exc_bind, bind_assoc', add_ii, sub_ii, lt_ii, le_ii, gt_ii, ge_ii, eq_ii, ne_ii, abs_i, int_i, int_b, len_l, len_t, items_l, items_t, truth_b, asObj_self, List.set_cons_succ, List.set_cons_zero, if_true, if_false, Bool.false_eq_true, Bool.not_true, Bool.not_false, h3]
          · have h3 : decide ((b.2 : Int) = (a.2 : Int)) = false := decide_eq_false (by omega)
            have h4 : isZ l[a.1] = true := hq.resolve_left h5
            rw [h4] at hne
            try simp only [ap_cst, ap_gV, ap_gB, ap_dLst, ap_dNil, ap_dCons, ap_dTup, ap_dB, ap_dBl, ap_dU, ap_dC, ap_dCK, ap_dNot, ap_dAnd, ap_dOr, ap_dAndV, ap_dOrV, ap_dNotV, ap_dIf, ap_dSeq, ap_dSkip, ap_dF, ap_dRet, ap_dRetN, ap_dSet, ap_dOwn, ap_dDrop, ap_dFor, ap_dComp, ap_dBrk, ap_dCnt, ap_dParM, ap_mNil, ap_mV, ap_mN, ap_dAsg, ap_dPar, ap_dPar3, ap_dApp, ap_dExt, ap_dNo, ap_dSome, ap_asInt, ap_dSl, getV_zero, getV_succ, getB_zero, getB_zeroO, getB_succ, ownL_zero, ownL_succ, tgName_ap, forT_nil, ret_bind, fail_bind, exc_bind, bind_assoc', add_ii, sub_ii, lt_ii, le_ii, gt_ii, ge_ii, eq_ii, ne_ii, abs_i, int_i, int_b, len_l, len_t, items_l, items_t, truth_b, asObj_self, List.set_cons_succ, List.set_cons_zero, if_true, if_false, Bool.false_eq_true, Bool.not_true, Bool.not_false, h3, hx, hja, hd, hne]
        · cases hy) [.val (.tup rs), .own (.lst ((jsOf rs).map fun (j : Nat) => D.int (j : Int))), .un, .val (.int (a.2 : Int)), y] ⟨_, rfl⟩
    rw [zipIdx_range] at inner
    refine ⟨[.val (.tup rs), .own (.lst ((jsOf rs).map fun (j : Nat) => D.int (j : Int))), .un, .val (.int (a.2 : Int)), y], rfl, fun z hz => ?_, fun hz => ?_⟩
    · have := inner.1 z hz
      try simp only [ap_cst, ap_gV, ap_gB, ap_dLst, ap_dNil, ap_dCons, ap_dTup, ap_dB, ap_dBl, ap_dU, ap_dC, ap_dCK, ap_dNot, ap_dAnd, ap_dOr, ap_dAndV, ap_dOrV, ap_dNotV, ap_dIf, ap_dSeq, ap_dSkip, ap_dF, ap_dRet, ap_dRetN, ap_dSet, ap_dOwn, ap_dDrop, ap_dFor, ap_dComp, ap_dBrk, ap_dCnt, ap_dParM, ap_mNil, ap_mV, ap_mN, ap_dAsg, ap_dPar, ap_dPar3, ap_dApp, ap_dExt, ap_dNo, ap_dSome, ap_asInt, ap_dSl, getV_zero, getV_succ, getB_zero, getB_zeroO, getB_succ, ownL_zero, ownL_succ, tgName_ap, forT_nil, ret_bind, fail_bind, exc_bind, bind_assoc', add_ii, sub_ii, lt_ii, le_ii, gt_ii, ge_ii, eq_ii, ne_ii, abs_i, int_i, int_b, len_l, len_t, items_l, items_t, truth_b, asObj_self, List.set_cons_succ, List.set_cons_zero, if_true, if_false, Bool.false_eq_true, Bool.not_true, Bool.not_false, hr, this]
    · obtain ⟨e4, k4, y4, rfl⟩ := inner.2 hz
      exact ⟨[.val (.tup rs), .own (.lst ((jsOf rs).map fun (j : Nat) => D.int (j : Int))), .un, .val (.int (a.2 : Int)), y4], by try simp only [ap_cst, ap_gV, ap_gB, ap_dLst, ap_dNil, ap_dCons, ap_dTup, ap_dB, ap_dBl, ap_dU, ap_dC, ap_dCK, ap_dNot, ap_dAnd, ap_dOr, ap_dAndV, ap_dOrV, ap_dNotV, ap_dIf, ap_dSeq, ap_dSkip, ap_dF, ap_dRet, ap_dRetN, ap_dSet, ap_dOwn, ap_dDrop, ap_dFor, ap_dComp, ap_dBrk, ap_dCnt, ap_dParM, ap_mNil, ap_mV, ap_mN, ap_dAsg, ap_dPar, ap_dPar3, ap_dApp, ap_dExt, ap_dNo, ap_dSome, ap_asInt, ap_dSl, getV_zero, getV_succ, getB_zero, getB_zeroO, getB_succ, ownL_zero, ownL_succ, tgName_ap, forT_nil, ret_bind, fail_bind, exc_bind, bind_assoc', add_ii, sub_ii, lt_ii, le_ii, gt_ii, ge_ii, eq_ii, ne_ii, abs_i, int_i, int_b, len_l, len_t, items_l, items_t, truth_b, asObj_self, List.set_cons_succ, List.set_cons_zero, if_true, if_false, Bool.false_eq_true, Bool.not_true, Bool.not_false, hr, k4], _, _, rfl⟩) [.val (.tup rs), .own (.lst ((jsOf rs).map fun (j : Nat) => D.int (j : Int))), .un, x2, .un] ⟨_, _, rfl⟩
theorem seq_nx {u v : Eng.Env → T Out} {env e : Eng.Env} (h : u env = T.ret (.nx e)) : dSeq u v env = v e := by
  rw [ap_dSeq, h]; rfl
theorem seq_rt {u v : Eng.Env → T Out} {env : Eng.Env} {d : D} (h : u env = T.ret (.rt d)) : dSeq u v env = T.ret (.rt d) := by
  rw [ap_dSeq, h]; rfl
theorem body_rt {n : Nat} {w : Eng.Env → T Out} {ds : List D} {d : D} (h : w (startE n ds) = T.ret (.rt d)) : bodyT n w ds = T.ret d := by
  unfold bodyT; rw [h]; rfl
theorem for_eq {w : Eng.Env → T (List D)} {f : D → Eng.Env → Option Eng.Env} {b : Eng.Env → T Out} {env : Eng.Env} {ds : List D} {o : Out} (h : w env = T.ret ds) (g : forT f b ds env = T.ret o) : dFor w f b env = T.ret o := by
  rw [ap_dFor, h]; exact g
theorem stairs_eq {n : Nat} {rs : List D} (H : Rows n rs) : t_stairs_error [.tup rs] = T.ret (resD (stairsF rs)) := by
  unfold t_stairs_error
  have e0 : startE 5 [.tup rs] = [.val (.tup rs), .un, .un, .un, .un] := rfl
  have hl : rs.length ≤ 1000000 := H.len
  have hn8 := H.nn
  have hr : range1 [.int (rs.length : Int)] = T.ret (rangeD 0 rs.length) := range1_nat _ (by omega)
  have hr2 := range2_nat rs.length (by omega)
  have hc : compT (tgName 2) (fun _ => T.ret true) (dC t_lead_of (dCons (gV 2) dNil)) (wipeE [.val (.tup rs), .un, .un, .un, .un] [2]) rs = T.ret (rs.map fun r => resD (leadF (rowL r))) := by
    have := compT_all (fun d : D => d) (fun r => resD (leadF (rowL r))) (f := tgName 2) (t := fun _ => T.ret true) (w := dC t_lead_of (dCons (gV 2) dNil)) (env := wipeE [.val (.tup rs), .un, .un, .un, .un] [2]) rs fun d hd => ⟨[.val (.tup rs), .un, .val d, .un, .un], rfl, rfl, by
      obtain ⟨l, rfl, hi, hz⟩ := H.row d hd
      have := lead_of_eq l hi (by omega)
      try simp only [ap_cst, ap_gV, ap_gB, ap_dLst, ap_dNil, ap_dCons, ap_dTup, ap_dB, ap_dBl, ap_dU, ap_dC, ap_dCK, ap_dNot, ap_dAnd, ap_dOr, ap_dAndV, ap_dOrV, ap_dNotV, ap_dIf, ap_dSeq, ap_dSkip, ap_dF, ap_dRet, ap_dRetN, ap_dSet, ap_dOwn, ap_dDrop, ap_dFor, ap_dComp, ap_dBrk, ap_dCnt, ap_dParM, ap_mNil, ap_mV, ap_mN, ap_dAsg, ap_dPar, ap_dPar3, ap_dApp, ap_dExt, ap_dNo, ap_dSome, ap_asInt, ap_dSl, getV_zero, getV_succ, getB_zero, getB_zeroO, getB_succ, ownL_zero, ownL_succ, tgName_ap, forT_nil, ret_bind, fail_bind, exc_bind, bind_assoc', add_ii, sub_ii, lt_ii, le_ii, gt_ii, ge_ii, eq_ii, ne_ii, abs_i, int_i, int_b, len_l, len_t, items_l, items_t, truth_b, asObj_self, List.set_cons_succ, List.set_cons_zero, if_true, if_false, Bool.false_eq_true, Bool.not_true, Bool.not_false, this]
      rfl⟩
    rw [List.map_id'] at this
    exact this
  have key1 := one_loop H
  rw [zipIdx_range] at key1
  unfold stairsF
  cases h1 : rs.zipIdx.findSome? oneN with
  | some e =>
    have k1 := key1.1 e h1
    refine body_rt ?_
    rw [e0]
    unfold b_stairs_error
    have s0 : dOwn 1 (dComp (dU itemsD (gV 0)) (tgName 2) (fun _ => T.ret true) (dC t_lead_of (dCons (gV 2) dNil)) [2]) [.val (.tup rs), .un, .un, .un, .un] = T.ret (.nx [.val (.tup rs), .own (.lst (rs.map fun r => resD (leadF (rowL r)))), .un, .un, .un]) := by
      try simp only [ap_cst, ap_gV, ap_gB, ap_dLst, ap_dNil, ap_dCons, ap_dTup, ap_dB, ap_dBl, ap_dU, ap_dC, ap_dCK, ap_dNot, ap_dAnd, ap_dOr, ap_dAndV, ap_dOrV, ap_dNotV, ap_dIf, ap_dSeq, ap_dSkip, ap_dF, ap_dRet, ap_dRetN, ap_dSet, ap_dOwn, ap_dDrop, ap_dFor, ap_dComp, ap_dBrk, ap_dCnt, ap_dParM, ap_mNil, ap_mV, ap_mN, ap_dAsg, ap_dPar, ap_dPar3, ap_dApp, ap_dExt, ap_dNo, ap_dSome, ap_asInt, ap_dSl, getV_zero, getV_succ, getB_zero, getB_zeroO, getB_succ, ownL_zero, ownL_succ, tgName_ap, forT_nil, ret_bind, fail_bind, exc_bind, bind_assoc', add_ii, sub_ii, lt_ii, le_ii, gt_ii, ge_ii, eq_ii, ne_ii, abs_i, int_i, int_b, len_l, len_t, items_l, items_t, truth_b, asObj_self, List.set_cons_succ, List.set_cons_zero, if_true, if_false, Bool.false_eq_true, Bool.not_true, Bool.not_false, hc]
    rw [seq_nx s0]
    exact seq_rt (for_eq (by try simp only [ap_cst, ap_gV, ap_gB, ap_dLst, ap_dNil, ap_dCons, ap_dTup, ap_dB, ap_dBl, ap_dU, ap_dC, ap_dCK, ap_dNot, ap_dAnd, ap_dOr, ap_dAndV, ap_dOrV, ap_dNotV, ap_dIf, ap_dSeq, ap_dSkip, ap_dF, ap_dRet, ap_dRetN, ap_dSet, ap_dOwn, ap_dDrop, ap_dFor, ap_dComp, ap_dBrk, ap_dCnt, ap_dParM, ap_mNil, ap_mV, ap_mN, ap_dAsg, ap_dPar, ap_dPar3, ap_dApp, ap_dExt, ap_dNo, ap_dSome, ap_asInt, ap_dSl, getV_zero, getV_succ, getB_zero, getB_zeroO, getB_succ, ownL_zero, ownL_succ, tgName_ap, forT_nil, ret_bind, fail_bind, exc_bind, bind_assoc', add_ii, sub_ii, lt_ii, le_ii, gt_ii, ge_ii, eq_ii, ne_ii, abs_i, int_i, int_b, len_l, len_t, items_l, items_t, truth_b, asObj_self, List.set_cons_succ, List.set_cons_zero, if_true, if_false, Bool.false_eq_true, Bool.not_true, Bool.not_false, hr]) k1)
  | none =>
    obtain ⟨e1, k1, x1, rfl⟩ := key1.2 h1
    have hjs := ones_js h1
    have hle : (rs.map fun r => resD (leadF (rowL r))) = (jsOf rs).map fun (j : Nat) => D.int (j : Int) := by
      unfold jsOf
      rw [List.map_map]
      refine List.map_congr_left fun r hr => ?_
      obtain ⟨j, hj⟩ := hjs r hr
      rw [leadF_N, hj]
      show _ = D.int (((leadN (rowL r)).getD 0 : Nat) : Int)
      rw [hj]
      rfl
    rw [hle] at k1 hc
    have s0 : dOwn 1 (dComp (dU itemsD (gV 0)) (tgName 2) (fun _ => T.ret true) (dC t_lead_of (dCons (gV 2) dNil)) [2]) [.val (.tup rs), .un, .un, .un, .un] = T.ret (.nx [.val (.tup rs), .own (.lst ((jsOf rs).map fun (j : Nat) => D.int (j : Int))), .un, .un, .un]) := by
      try simp only [ap_cst, ap_gV, ap_gB, ap_dLst, ap_dNil, ap_dCons, ap_dTup, ap_dB, ap_dBl, ap_dU, ap_dC, ap_dCK, ap_dNot, ap_dAnd, ap_dOr, ap_dAndV, ap_dOrV, ap_dNotV, ap_dIf, ap_dSeq, ap_dSkip, ap_dF, ap_dRet, ap_dRetN, ap_dSet, ap_dOwn, ap_dDrop, ap_dFor, ap_dComp, ap_dBrk, ap_dCnt, ap_dParM, ap_mNil, ap_mV, ap_mN, ap_dAsg, ap_dPar, ap_dPar3, ap_dApp, ap_dExt, ap_dNo, ap_dSome, ap_asInt, ap_dSl, getV_zero, getV_succ, getB_zero, getB_zeroO, getB_succ, ownL_zero, ownL_succ, tgName_ap, forT_nil, ret_bind, fail_bind, exc_bind, bind_assoc', add_ii, sub_ii, lt_ii, le_ii, gt_ii, ge_ii, eq_ii, ne_ii, abs_i, int_i, int_b, len_l, len_t, items_l, items_t, truth_b, asObj_self, List.set_cons_succ, List.set_cons_zero, if_true, if_false, Bool.false_eq_true, Bool.not_true, Bool.not_false, hc]
    have s1 := for_eq (w := dC range1 (dCons (dC lenD (dCons (gV 0) dNil)) dNil)) (by try simp only [ap_cst, ap_gV, ap_gB, ap_dLst, ap_dNil, ap_dCons, ap_dTup, ap_dB, ap_dBl, ap_dU, ap_dC, ap_dCK, ap_dNot, ap_dAnd, ap_dOr, ap_dAndV, ap_dOrV, ap_dNotV, ap_dIf, ap_dSeq, ap_dSkip, ap_dF, ap_dRet, ap_dRetN, ap_dSet, ap_dOwn, ap_dDrop, ap_dFor, ap_dComp, ap_dBrk, ap_dCnt, ap_dParM, ap_mNil, ap_mV, ap_mN, ap_dAsg, ap_dPar, ap_dPar3, ap_dApp, ap_dExt, ap_dNo, ap_dSome, ap_asInt, ap_dSl, getV_zero, getV_succ, getB_zero, getB_zeroO, getB_succ, ownL_zero, ownL_succ, tgName_ap, forT_nil, ret_bind, fail_bind, exc_bind, bind_assoc', add_ii, sub_ii, lt_ii, le_ii, gt_ii, ge_ii, eq_ii, ne_ii, abs_i, int_i, int_b, len_l, len_t, items_l, items_t, truth_b, asObj_self, List.set_cons_succ, List.set_cons_zero, if_true, if_false, Bool.false_eq_true, Bool.not_true, Bool.not_false, hr]) k1
    have hjl : (jsOf rs).length = rs.length := List.length_map _
    have key2 := st_loop rs x1
    have hr1 : ((List.range (rs.length - 1)).map fun (i : Nat) => D.int (1 + (i : Int))) = rangeD 1 (rs.length - 1) := rfl
    rw [hr1] at key2
    cases h2 : (List.range (rs.length - 1)).findSome? (stF (jsOf rs)) with
    | some e =>
      have k2 := key2.1 e h2
      refine body_rt ?_
      rw [e0]
      unfold b_stairs_error
      rw [seq_nx s0, seq_nx s1]
      refine seq_rt (for_eq (ds := rangeD 1 (rs.length - 1)) ?_ k2)
      rw [ap_dC, ap_dCons, ap_cst, ret_bind, ap_dCons, ap_dC, ap_dCons, ap_gV, getV_zero, ret_bind, ap_dNil, ret_bind, ret_bind, len_t, ret_bind, ret_bind, ret_bind, ret_bind]
      exact hr2
    | none =>
      obtain ⟨e2, k2, x2, rfl⟩ := key2.2 h2
      have key3 := cl_loop H hjs x2
      rw [zipIdx_range, hjl] at key3
      have s2 := for_eq (w := dC range2 (dCons (cst (.int 1)) (dCons (dC lenD (dCons (gV 0) dNil)) dNil))) (ds := rangeD 1 (rs.length - 1)) (by
        rw [ap_dC, ap_dCons, ap_cst, ret_bind, ap_dCons, ap_dC, ap_dCons, ap_gV, getV_zero, ret_bind, ap_dNil, ret_bind, ret_bind, len_t, ret_bind, ret_bind, ret_bind, ret_bind]
        exact hr2) k2
      cases h3 : (jsOf rs).zipIdx.findSome? (clF rs) with
      | some e =>
        have k3 := key3.1 e h3
        refine body_rt ?_
        rw [e0]
        unfold b_stairs_error
        rw [seq_nx s0, seq_nx s1, seq_nx s2]
        exact seq_rt (for_eq (by try simp only [ap_cst, ap_gV, ap_gB, ap_dLst, ap_dNil, ap_dCons, ap_dTup, ap_dB, ap_dBl, ap_dU, ap_dC, ap_dCK, ap_dNot, ap_dAnd, ap_dOr, ap_dAndV, ap_dOrV, ap_dNotV, ap_dIf, ap_dSeq, ap_dSkip, ap_dF, ap_dRet, ap_dRetN, ap_dSet, ap_dOwn, ap_dDrop, ap_dFor, ap_dComp, ap_dBrk, ap_dCnt, ap_dParM, ap_mNil, ap_mV, ap_mN, ap_dAsg, ap_dPar, ap_dPar3, ap_dApp, ap_dExt, ap_dNo, ap_dSome, ap_asInt, ap_dSl, getV_zero, getV_succ, getB_zero, getB_zeroO, getB_succ, ownL_zero, ownL_succ, tgName_ap, forT_nil, ret_bind, fail_bind, exc_bind, bind_assoc', add_ii, sub_ii, lt_ii, le_ii, gt_ii, ge_ii, eq_ii, ne_ii, abs_i, int_i, int_b, len_l, len_t, items_l, items_t, truth_b, asObj_self, List.set_cons_succ, List.set_cons_zero, if_true, if_false, Bool.false_eq_true, Bool.not_true, Bool.not_false, hr]) k3)
      | none =>
        obtain ⟨e3, k3, x3, y3, rfl⟩ := key3.2 h3
        refine body_rt ?_
        rw [e0]
        unfold b_stairs_error
        rw [seq_nx s0, seq_nx s1, seq_nx s2, seq_nx (for_eq (by try simp only [ap_cst, ap_gV, ap_gB, ap_dLst, ap_dNil, ap_dCons, ap_dTup, ap_dB, ap_dBl, ap_dU, ap_dC, ap_dCK, ap_dNot, ap_dAnd, ap_dOr, ap_dAndV, ap_dOrV, ap_dNotV, ap_dIf, ap_dSeq, ap_dSkip, ap_dF, ap_dRet, ap_dRetN, ap_dSet, ap_dOwn, ap_dDrop, ap_dFor, ap_dComp, ap_dBrk, ap_dCnt, ap_dParM, ap_mNil, ap_mV, ap_mN, ap_dAsg, ap_dPar, ap_dPar3, ap_dApp, ap_dExt, ap_dNo, ap_dSome, ap_asInt, ap_dSl, getV_zero, getV_succ, getB_zero, getB_zeroO, getB_succ, ownL_zero, ownL_succ, tgName_ap, forT_nil, ret_bind, fail_bind, exc_bind, bind_assoc', add_ii, sub_ii, lt_ii, le_ii, gt_ii, ge_ii, eq_ii, ne_ii, abs_i, int_i, int_b, len_l, len_t, items_l, items_t, truth_b, asObj_self, List.set_cons_succ, List.set_cons_zero, if_true, if_false, Bool.false_eq_true, Bool.not_true, Bool.not_false, hr]) k3)]
        rfl
end Law

namespace Law
open PySem PySem.Spec PyProof.Rows L2 Eng
abbrev LE (th b s : D) (rs : List D) (x4 x5 : Sl) (x6 x7 x8 : Sl) : Eng.Env := [.val th, .val b, .val s, .val (.tup rs), x4, x5, x6, x7, x8]
abbrev one2B : Eng.Env → T Out := dIf (dOr (dB eqD (gV 7) (gV 2)) (dB neD (dB ixD (dB ixD (gV 3) (gV 4)) (gV 7)) (cst (.int 1)))) (dRet (dTup (dCons (cst (.str "one")) (dCons (gV 4) dNil)))) dSkip
abbrev tg47 : D → Eng.Env → Option Eng.Env := tgTup (tgCons (tgName 4) (tgCons (tgName 7) tgNil)) 2
theorem one2_loop {n : Nat} {rs : List D} (H : Rows n rs) (th b : D) (x4 x5 x6 x7 x8 : Sl) :
    (∀ x, rs.zipIdx.findSome? oneN = some x → forT tg47 one2B (rs.zipIdx.map fun x : D × Nat => D.tup [.int ((x.2 : Nat) : Int), leadL (rowL x.1)]) (LE th b (.int (n : Int)) rs x4 x5 x6 x7 x8) = T.ret (.rt x)) ∧ (rs.zipIdx.findSome? oneN = none → ∃ e', forT tg47 one2B (rs.zipIdx.map fun x : D × Nat => D.tup [.int ((x.2 : Nat) : Int), leadL (rowL x.1)]) (LE th b (.int (n : Int)) rs x4 x5 x6 x7 x8) = T.ret (.nx e') ∧ ∃ x4' x7', e' = LE th b (.int (n : Int)) rs x4' x5 x6 x7' x8) := by
  exact forT_first (fun x : D × Nat => D.tup [.int ((x.2 : Nat) : Int), leadL (rowL x.1)]) oneN (f := tg47) (b := one2B) (fun env => ∃ x4' x7', env = LE th b (.int (n : Int)) rs x4' x5 x6 x7' x8) rs.zipIdx (fun a ha env hi => by
    obtain ⟨y4, y7, rfl⟩ := hi
    obtain ⟨g1, g2⟩ := zipIdx_mem ha
    obtain ⟨l, hl, hii, hz⟩ := H.row _ g2
    have hx := d_nth g1
    rw [hl] at hx
    have hL : rowL a.1 = l := by rw [hl]; rfl
    rw [hL]
    cases hq : leadN l with
    | none =>
      have hlead : leadL l = .int (n : Int) := by unfold leadL; rw [leadF_N, hq, ← hz]; rfl
      have hon : oneN a = some (errOne a.2) := by unfold oneN; rw [hL, hq]
      refine ⟨LE th b (.int (n : Int)) rs (.val (.int (a.2 : Int))) x5 x6 (.val (leadL l)) x8, rfl, fun y hy => ?_, fun hy => by rw [hon] at hy; cases hy⟩
      rw [hon] at hy
      cases hy
      rw [hlead]
      try simp only [ap_cst, ap_gV, ap_gB, ap_dLst, ap_dNil, ap_dCons, ap_dTup, ap_dB, ap_dBl, ap_dU, ap_dC, ap_dCK, ap_dNot, ap_dAnd, ap_dOr, ap_dAndV, ap_dOrV, ap_dNotV, ap_dIf, ap_dSeq, ap_dSkip, ap_dF, ap_dRet, ap_dRetN, ap_dSet, ap_dOwn, ap_dDrop, ap_dFor, ap_dComp, ap_dBrk, ap_dCnt, ap_dParM, ap_mNil, ap_mV, ap_mN, ap_dAsg, ap_dPar, ap_dPar3, ap_dApp, ap_dExt, ap_dNo, ap_dSome, ap_asInt, ap_dSl, getV_zero, getV_succ, getB_zero, getB_zeroO, getB_succ, ownL_zero, ownL_succ, tgName_ap, forT_nil, ret_bind, fail_bind, exc_bind, bind_assoc', add_ii, sub_ii, lt_ii, le_ii, gt_ii, ge_ii, eq_ii, ne_ii, abs_i, int_i, int_b, len_l, len_t, items_l, items_t, truth_b, asObj_self, List.set_cons_succ, List.set_cons_zero, if_true, if_false, Bool.false_eq_true, Bool.not_true, Bool.not_false, decide_true]
      rfl
    | some j =>
      have hlead : leadL l = .int (j : Int) := by unfold leadL; rw [leadF_N, hq]; rfl
      have hj := leadN_lt hq
      have hg : l[j]? = some l[j] := List.getElem?_eq_getElem hj
      have hd := d_nth hg
      have hne := ne_one l[j] (hii _ (List.getElem_mem hj))
      have hjn : decide ((j : Int) = (n : Int)) = false := decide_eq_false (by omega)
      refine ⟨LE th b (.int (n : Int)) rs (.val (.int (a.2 : Int))) x5 x6 (.val (leadL l)) x8, rfl, fun y hy => ?_, fun hy => ⟨LE th b (.int (n : Int)) rs (.val (.int (a.2 : Int))) x5 x6 (.val (leadL l)) x8, ?_, _, _, rfl⟩⟩
      · unfold oneN at hy
        rw [hL, hq] at hy
        simp only [hg] at hy
        split at hy
        · cases hy
        · rename_i hz
          cases hy
          rw [show isOne (some l[j]) = false by simpa using hz] at hne
          rw [hlead]
          try simp only [ap_cst, ap_gV, ap_gB, ap_dLst, ap_dNil, ap_dCons, ap_dTup, ap_dB, ap_dBl, ap_dU, ap_dC, ap_dCK, ap_dNot, ap_dAnd, ap_dOr, ap_dAndV, ap_dOrV, ap_dNotV, ap_dIf, ap_dSeq, ap_dSkip, ap_dF, ap_dRet, ap_dRetN, ap_dSet, ap_dOwn, ap_dDrop, ap_dFor, ap_dComp, ap_dBrk, ap_dCnt, ap_dParM, ap_mNil, ap_mV, ap_mN, ap_dAsg, ap_dPar, ap_dPar3, ap_dApp, ap_dExt, ap_dNo, ap_dSome, ap_asInt, ap_dSl, getV_zero, getV_succ, getB_zero, getB_zeroO, getB_succ, ownL_zero, ownL_succ, tgName_ap, forT_nil, ret_bind, fail_bind, exc_bind, bind_assoc', add_ii, sub_ii, lt_ii, le_ii, gt_ii, ge_ii, eq_ii, ne_ii, abs_i, int_i, int_b, len_l, len_t, items_l, items_t, truth_b, asObj_self, List.set_cons_succ, List.set_cons_zero, if_true, if_false, Bool.false_eq_true, Bool.not_true, Bool.not_false, hjn, hx, hd, hne]
          rfl
      · unfold oneN at hy
        rw [hL, hq] at hy
        simp only [hg] at hy
        split at hy
        · rename_i hz
          rw [hz] at hne
          rw [hlead]
          try simp only [ap_cst, ap_gV, ap_gB, ap_dLst, ap_dNil, ap_dCons, ap_dTup, ap_dB, ap_dBl, ap_dU, ap_dC, ap_dCK, ap_dNot, ap_dAnd, ap_dOr, ap_dAndV, ap_dOrV, ap_dNotV, ap_dIf, ap_dSeq, ap_dSkip, ap_dF, ap_dRet, ap_dRetN, ap_dSet, ap_dOwn, ap_dDrop, ap_dFor, ap_dComp, ap_dBrk, ap_dCnt, ap_dParM, ap_mNil, ap_mV, ap_mN, ap_dAsg, ap_dPar, ap_dPar3, ap_dApp, ap_dExt, ap_dNo, ap_dSome, ap_asInt, ap_dSl, getV_zero, getV_succ, getB_zero, getB_zeroO, getB_succ, ownL_zero, ownL_succ, tgName_ap, forT_nil, ret_bind, fail_bind, exc_bind, bind_assoc', add_ii, sub_ii, lt_ii, le_ii, gt_ii, ge_ii, eq_ii, ne_ii, abs_i, int_i, int_b, len_l, len_t, items_l, items_t, truth_b, asObj_self, List.set_cons_succ, List.set_cons_zero, if_true, if_false, Bool.false_eq_true, Bool.not_true, Bool.not_false, hjn, hx, hd, hne]
        · cases hy) (LE th b (.int (n : Int)) rs x4 x5 x6 x7 x8) ⟨_, _, rfl⟩
abbrev JS (rs : List D) : D := .lst ((jsOf rs).map fun (j : Nat) => D.int (j : Int))
abbrev st2B : Eng.Env → T Out := dIf (dB leD (dB ixD (gB 6) (gV 4)) (dB ixD (gB 6) (dB subD (gV 4) (cst (.int 1))))) (dRet (dTup (dCons (cst (.str "stairs")) (dCons (gV 4) dNil)))) dSkip
theorem st2_loop (rs : List D) (th b s : D) (x4 x5 x7 x8 : Sl) :
    (∀ x, (List.range (rs.length - 1)).findSome? (stF (jsOf rs)) = some x → forT (tgName 4) st2B ((List.range (rs.length - 1)).map fun i : Nat => D.int (1 + (i : Int))) (LE th b s rs x4 x5 (.val (JS rs)) x7 x8) = T.ret (.rt x)) ∧ ((List.range (rs.length - 1)).findSome? (stF (jsOf rs)) = none → ∃ e', forT (tgName 4) st2B ((List.range (rs.length - 1)).map fun i : Nat => D.int (1 + (i : Int))) (LE th b s rs x4 x5 (.val (JS rs)) x7 x8) = T.ret (.nx e') ∧ ∃ x4', e' = LE th b s rs x4' x5 (.val (JS rs)) x7 x8) := by
  exact forT_first (fun i : Nat => D.int (1 + (i : Int))) (stF (jsOf rs)) (f := tgName 4) (b := st2B) (fun env => ∃ x4', env = LE th b s rs x4' x5 (.val (JS rs)) x7 x8) (List.range (rs.length - 1)) (fun i hi env he => by
      obtain ⟨x, rfl⟩ := he
      have hi := List.mem_range.mp hi
      have a1 := j_at (rs := rs) (i := i + 1) (by omega)
      have a2 := j_at (rs := rs) (i := i) (by omega)
      rw [show ((i + 1 : Nat) : Int) = 1 + (i : Int) by omega] at a1
      have e3 : 1 + (i : Int) - 1 = (i : Int) := by omega
      unfold stF
      refine ⟨LE th b s rs (.val (.int (1 + (i : Int)))) x5 (.val (JS rs)) x7 x8, rfl, fun y hy => ?_, fun hy => ⟨LE th b s rs (.val (.int (1 + (i : Int)))) x5 (.val (JS rs)) x7 x8, ?_, _, rfl⟩⟩
      · split at hy
        · rename_i hz
          cases hy
          have hz' : decide ((((jsOf rs).getD (i + 1) 0 : Nat) : Int) ≤ (((jsOf rs).getD i 0 : Nat) : Int)) = true := decide_eq_true (by omega)
          try simp only [ap_cst, ap_gV, ap_gB, ap_dLst, ap_dNil, ap_dCons, ap_dTup, ap_dB, ap_dBl, ap_dU, ap_dC, ap_dCK, ap_dNot, ap_dAnd, ap_dOr, ap_dAndV, ap_dOrV, ap_dNotV, ap_dIf, ap_dSeq, ap_dSkip, ap_dF, ap_dRet, ap_dRetN, ap_dSet, ap_dOwn, ap_dDrop, ap_dFor, ap_dComp, ap_dBrk, ap_dCnt, ap_dParM, ap_mNil, ap_mV, ap_mN, ap_dAsg, ap_dPar, ap_dPar3, ap_dApp, ap_dExt, ap_dNo, ap_dSome, ap_asInt, ap_dSl, getV_zero, getV_succ, getB_zero, getB_zeroO, getB_succ, ownL_zero, ownL_succ, tgName_ap, forT_nil, ret_bind, fail_bind, exc_bind, bind_assoc', add_ii, sub_ii, lt_ii, le_ii, gt_ii, ge_ii, eq_ii, ne_ii, abs_i, int_i, int_b, len_l, len_t, items_l, items_t, truth_b, asObj_self, List.set_cons_succ, List.set_cons_zero, if_true, if_false, Bool.false_eq_true, Bool.not_true, Bool.not_false, a1, e3, a2, hz']
          rfl
        · cases hy
      · split at hy
        · cases hy
        · rename_i hz
          have hz' : decide ((((jsOf rs).getD (i + 1) 0 : Nat) : Int) ≤ (((jsOf rs).getD i 0 : Nat) : Int)) = false := decide_eq_false (by omega)
          try simp only [ap_cst, ap_gV, ap_gB, ap_dLst, ap_dNil, ap_dCons, ap_dTup, ap_dB, ap_dBl, ap_dU, ap_dC, ap_dCK, ap_dNot, ap_dAnd, ap_dOr, ap_dAndV, ap_dOrV, ap_dNotV, ap_dIf, ap_dSeq, ap_dSkip, ap_dF, ap_dRet, ap_dRetN, ap_dSet, ap_dOwn, ap_dDrop, ap_dFor, ap_dComp, ap_dBrk, ap_dCnt, ap_dParM, ap_mNil, ap_mV, ap_mN, ap_dAsg, ap_dPar, ap_dPar3, ap_dApp, ap_dExt, ap_dNo, ap_dSome, ap_asInt, ap_dSl, getV_zero, getV_succ, getB_zero, getB_zeroO, getB_succ, ownL_zero, ownL_succ, tgName_ap, forT_nil, ret_bind, fail_bind, exc_bind, bind_assoc', add_ii, sub_ii, lt_ii, le_ii, gt_ii, ge_ii, eq_ii, ne_ii, abs_i, int_i, int_b, len_l, len_t, items_l, items_t, truth_b, asObj_self, List.set_cons_succ, List.set_cons_zero, if_true, if_false, Bool.false_eq_true, Bool.not_true, Bool.not_false, a1, e3, a2, hz']) (LE th b s rs x4 x5 (.val (JS rs)) x7 x8) ⟨_, rfl⟩
abbrev tg85 : D → Eng.Env → Option Eng.Env := tgTup (tgCons (tgName 8) (tgCons (tgName 5) tgNil)) 2
abbrev cl2A : Eng.Env → T Out := dIf (dAnd (dB neD (gV 8) (gV 4)) (dB neD (dB ixD (gV 5) (gV 7)) (cst (.int 0)))) (dRet (dTup (dCons (gV 4) (dCons (gV 8) dNil)))) dSkip
abbrev cl2B : Eng.Env → T Out := dFor (dC enumOf (dCons (gV 3) dNil)) tg85 cl2A
theorem cl2_loop {n : Nat} {rs : List D} (H : Rows n rs) (hjs : ∀ r ∈ rs, ∃ j, leadN (rowL r) = some j) (th b s : D) (x4 x5 x7 x8 : Sl) :
    (∀ x, (jsOf rs).zipIdx.findSome? (clF rs) = some x → forT tg47 cl2B ((jsOf rs).zipIdx.map fun x : Nat × Nat => D.tup [.int ((x.2 : Nat) : Int), .int ((x.1 : Nat) : Int)]) (LE th b s rs x4 x5 (.val (JS rs)) x7 x8) = T.ret (.rt x)) ∧ ((jsOf rs).zipIdx.findSome? (clF rs) = none → ∃ e', forT tg47 cl2B ((jsOf rs).zipIdx.map fun x : Nat × Nat => D.tup [.int ((x.2 : Nat) : Int), .int ((x.1 : Nat) : Int)]) (LE th b s rs x4 x5 (.val (JS rs)) x7 x8) = T.ret (.nx e') ∧ ∃ x4' x5' x7' x8', e' = LE th b s rs x4' x5' (.val (JS rs)) x7' x8') := by
  exact forT_first (fun x : Nat × Nat => D.tup [.int ((x.2 : Nat) : Int), .int ((x.1 : Nat) : Int)]) (clF rs) (f := tg47) (b := cl2B) (fun env => ∃ x4' x5' x7' x8', env = LE th b s rs x4' x5' (.val (JS rs)) x7' x8') (jsOf rs).zipIdx (fun a ha env he => by
    obtain ⟨y4, y5, y7, y8, rfl⟩ := he
    obtain ⟨g1, g2⟩ := zipIdx_mem ha
    have hjn : a.1 < n := by
      obtain ⟨r, hr, he⟩ := List.mem_map.mp (show a.1 ∈ rs.map fun r => (leadN (rowL r)).getD 0 from g2)
      obtain ⟨j, hj⟩ := hjs r hr
      rw [hj] at he
      obtain ⟨l, rfl, _, hz⟩ := H.row r hr
      have := leadN_lt hj
      have he : j = a.1 := he
      rw [show rowL (.tup l) = l from rfl] at this
      omega
    have inner := forT_first (fun x : D × Nat => D.tup [.int ((x.2 : Nat) : Int), x.1]) (clI a.1 a.2) (f := tg85) (b := cl2A) (fun env => ∃ x5' x8', env = LE th b s rs (.val (.int (a.2 : Int))) x5' (.val (JS rs)) (.val (.int (a.1 : Int))) x8') rs.zipIdx (fun c hc env he => by
      obtain ⟨z5, z8, rfl⟩ := he
      obtain ⟨q1, q2⟩ := zipIdx_mem hc
      obtain ⟨l, hlb, hii, hz⟩ := H.row _ q2
      have hL : rowL c.1 = l := by rw [hlb]; rfl
      have hj : a.1 < l.length := by omega
      have hg : l[a.1]? = some l[a.1] := List.getElem?_eq_getElem hj
      have hd := d_nth hg
      have hne := ne_zero l[a.1] (hii _ (List.getElem_mem hj))
      have hzA : zAt (rowL c.1) a.1 = isZ l[a.1] := by unfold zAt; rw [hL, hg]
      unfold clI
      rw [hzA]
      rw [← hlb] at hd
      refine ⟨LE th b s rs (.val (.int (a.2 : Int))) (.val c.1) (.val (JS rs)) (.val (.int (a.1 : Int))) (.val (.int (c.2 : Int))), rfl, fun y hy => ?_, fun hy => ⟨LE th b s rs (.val (.int (a.2 : Int))) (.val c.1) (.val (JS rs)) (.val (.int (a.1 : Int))) (.val (.int (c.2 : Int))), ?_, _, _, rfl⟩⟩
      · split at hy
        · cases hy
        · rename_i hq
          cases hy
          have h3 : decide ((c.2 : Int) = (a.2 : Int)) = false := decide_eq_false (by omega)
          have h4 : isZ l[a.1] = false := by simpa using fun z => hq (.inr z)
          rw [h4] at hne
          try simp only [ap_cst, ap_gV, ap_gB, ap_dLst, ap_dNil, ap_dCons, ap_dTup, ap_dB, ap_dBl, ap_dU, ap_dC, ap_dCK, ap_dNot, ap_dAnd, ap_dOr, ap_dAndV, ap_dOrV, ap_dNotV, ap_dIf, ap_dSeq, ap_dSkip, ap_dF, ap_dRet, ap_dRetN, ap_dSet, ap_dOwn, ap_dDrop, ap_dFor, ap_dComp, ap_dBrk, ap_dCnt, ap_dParM, ap_mNil, ap_mV, ap_mN, ap_dAsg, ap_dPar, ap_dPar3, ap_dApp, ap_dExt, ap_dNo, ap_dSome, ap_asInt, ap_dSl, getV_zero, getV_succ, getB_zero, getB_zeroO, getB_succ, ownL_zero, ownL_succ, tgName_ap, forT_nil, ret_bind, fail_bind, exc_bind, bind_assoc', add_ii, sub_ii, lt_ii, le_ii, gt_ii, ge_ii, eq_ii, ne_ii, abs_i, int_i, int_b, len_l, len_t, items_l, items_t, truth_b, asObj_self, List.set_cons_succ, List.set_cons_zero, if_true, if_false, Bool.false_eq_true, Bool.not_true, Bool.not_false, h3, hd, hne]
          rfl
      · split at hy
        · rename_i hq
          by_cases h5 : c.2 = a.2
          · have h3 : decide ((c.2 : Int) = (a.2 : Int)) = true := decide_eq_true (by omega)
            try simp only [ap_cst, ap_gV, ap_gB, ap_dLst, ap_dNil, ap_dCons, ap_dTup, ap_dB, ap_dBl, ap_dU, ap_dC, ap_dCK, ap_dNot, ap_dAnd, ap_dOr, ap_dAndV, ap_dOrV, ap_dNotV, ap_dIf, ap_dSeq, ap_dSkip, ap_dF, ap_dRet, ap_dRetN, ap_dSet, ap_dOwn, ap_dDrop, ap_dFor, ap_dComp, ap_dBrk, ap_dCnt, ap_dParM, ap_mNil, ap_mV, ap_mN, ap_dAsg, ap_dPar, ap_dPar3, ap_dApp, ap_dExt, ap_dNo, ap_dSome, ap_asInt, ap_dSl, getV_zero, getV_succ, getB_zero, getB_zeroO, getB_succ, ownL_zero, ownL_succ, tgName_ap, forT_nil, ret_bind, fail_bind, exc_bind, bind_assoc', add_ii, sub_ii, lt_ii, le_ii, gt_ii, ge_ii, eq_ii, ne_ii, abs_i, int_i, int_b, len_l, len_t, items_l, items_t, truth_b, asObj_self, List.set_cons_succ, List.set_cons_zero, if_true, if_false, Bool.false_eq_true, Bool.not_true, Bool.not_false, h3]
          · have h3 : decide ((c.2 : Int) = (a.2 : Int)) = false := decide_eq_false (by omega)
            have h4 : isZ l[a.1] = true := hq.resolve_left h5
            rw [h4] at hne
            try simp only [ap_cst, ap_gV, ap_gB, ap_dLst, ap_dNil, ap_dCons, ap_dTup, ap_dB, ap_dBl, ap_dU, ap_dC, ap_dCK, ap_dNot, ap_dAnd, ap_dOr, ap_dAndV, ap_dOrV, ap_dNotV, ap_dIf, ap_dSeq, ap_dSkip, ap_dF, ap_dRet, ap_dRetN, ap_dSet, ap_dOwn, ap_dDrop, ap_dFor, ap_dComp, ap_dBrk, ap_dCnt, ap_dParM, ap_mNil, ap_mV, ap_mN, ap_dAsg, ap_dPar, ap_dPar3, ap_dApp, ap_dExt, ap_dNo, ap_dSome, ap_asInt, ap_dSl, getV_zero, getV_succ, getB_zero, getB_zeroO, getB_succ, ownL_zero, ownL_succ, tgName_ap, forT_nil, ret_bind, fail_bind, exc_bind, bind_assoc', add_ii, sub_ii, lt_ii, le_ii, gt_ii, ge_ii, eq_ii, ne_ii, abs_i, int_i, int_b, len_l, len_t, items_l, items_t, truth_b, asObj_self, List.set_cons_succ, List.set_cons_zero, if_true, if_false, Bool.false_eq_true, Bool.not_true, Bool.not_false, h3, hd, hne]
        · cases hy) (LE th b s rs (.val (.int (a.2 : Int))) y5 (.val (JS rs)) (.val (.int (a.1 : Int))) y8) ⟨_, _, rfl⟩
    have hen : dC enumOf (dCons (gV 3) dNil) (LE th b s rs (.val (.int (a.2 : Int))) y5 (.val (JS rs)) (.val (.int (a.1 : Int))) y8) = T.ret (rs.zipIdx.map fun x : D × Nat => D.tup [.int ((x.2 : Nat) : Int), x.1]) := rfl
    refine ⟨LE th b s rs (.val (.int (a.2 : Int))) y5 (.val (JS rs)) (.val (.int (a.1 : Int))) y8, rfl, fun z hz => ?_, fun hz => ?_⟩
    · exact for_eq hen (inner.1 z hz)
    · obtain ⟨e4, k4, z5, z8, rfl⟩ := inner.2 hz
      exact ⟨_, for_eq hen k4, _, _, _, _, rfl⟩) (LE th b s rs x4 x5 (.val (JS rs)) x7 x8) ⟨_, _, _, _, rfl⟩
end Law

namespace Law
open PySem PySem.Spec PyProof.Rows L2 Eng
theorem fit_obj {d : D} (h : d.fit3 = true) : isObj d = false := by
  cases d <;> first | rfl | cases h
theorem fit3All_iff : ∀ {l : List D}, fit3All l = true ↔ ∀ d ∈ l, d.fit3 = true
  | [] => by simp [fit3All]
  | x :: r => by
    show (x.fit3 && fit3All r) = true ↔ _
    rw [Bool.and_eq_true, fit3All_iff]
    simp
theorem fit_noObj {l : List D} (h : (D.tup l).fit3 = true) : noObj l := fun d hd => fit_obj (fit3All_iff.mp h d hd)
def primeB : D → Bool
  | .int i => decide (i = 2) || (decide (i = 3) || (decide (i = 5) || decide (i = 7)))
  | _ => false
theorem prime_in (i : Int) : notInD (.int i) (.tup [.int 2, .int 3, .int 5, .int 7]) = T.ret (!primeB (.int i)) := by
  have h0 : inD (.int i) (.tup [.int 2, .int 3, .int 5, .int 7]) = T.ret (([D.int 2, .int 3, .int 5, .int 7] : List D).any fun e => eqF e (.int i)) := by
    unfold inD
    simp only [itemsOf]
    exact if_pos ⟨rfl, rfl⟩
  unfold notInD
  rw [h0]
  show T.ret (!(([D.int 2, .int 3, .int 5, .int 7] : List D).any fun e => eqF e (.int i))) = _
  congr 2
  simp only [List.any_cons, List.any_nil, eqF, Bool.or_false, primeB]
  have e : ∀ a : Int, (a == i) = decide (i = a) := fun a => by
    by_cases h : i = a
    · subst h; simp
    · rw [decide_eq_false h]; simp; exact fun z => h z.symm
  rw [e, e, e, e]
theorem prime_below {b : D} (h : primeB b = true) : ∃ p : Int, b = .int p ∧ (p = 2 ∨ p = 3 ∨ p = 5 ∨ p = 7) := by
  cases b with
  | int i => exact ⟨i, rfl, by simpa [primeB] using h⟩
  | _ => cases h
def rowN (p n : Int) (x : D × Nat) : Option D := if rowB p n x.1 = true then none else some (.int ((x.2 : Nat) : Int))
def toI : D → Int
  | .int i => i
  | _ => 0
def lotX (p n : Int) (r : D) : D := match r with
  | .tup rs => (match rs.zipIdx.findSome? (rowN p n) with
    | some e => e
    | none => resD (stairsF rs))
  | _ => .str "rows"
def restX (b s r : D) : D := if primeB b = true then (if belowB s 9 = true then lotX (toI b) (toI s) r else .str "ends") else .str "prime"
def flatX (d : D) : D := match d with
  | .tup [b, s, r] => restX b s r
  | _ => .str "prime"
theorem rows_of {p : Int} {n : Nat} {rs : List D} (hn : n ≤ 8) (hl : rs.length ≤ 1000000) (h : rs.zipIdx.findSome? (rowN p (n : Int)) = none) : Rows n rs := by
  refine ⟨fun r hr => ?_, hl, hn⟩
  obtain ⟨i, hi⟩ := List.getElem?_of_mem hr
  have hm : (r, i) ∈ rs.zipIdx := List.mem_zipIdx_iff_getElem?.mpr hi
  have := List.findSome?_eq_none_iff.mp h _ hm
  unfold rowN at this
  split at this
  · rename_i hb
    have hb : rowB p (n : Int) r = true := hb
    cases r with
    | tup l =>
      obtain ⟨h1, h2⟩ := Bool.and_eq_true_iff.mp (show (decide ((l.length : Int) = (n : Int)) && l.all (belowB · p)) = true from hb)
      refine ⟨l, rfl, fun d hd => ?_, by have := of_decide_eq_true h1; omega⟩
      have := List.all_eq_true.mp h2 d hd
      cases d with
      | int i => rfl
      | _ => cases this
    | _ => cases hb
  · cases this
theorem below_nat {s : D} (h : belowB s 9 = true) : ∃ n : Nat, s = .int (n : Int) ∧ n ≤ 8 := by
  cases s with
  | int i =>
    obtain ⟨h1, h2⟩ := Bool.and_eq_true_iff.mp (show (decide (0 ≤ i) && decide (i < 9)) = true from h)
    have h1 := of_decide_eq_true h1
    have h2 := of_decide_eq_true h2
    exact ⟨i.toNat, by rw [Int.toNat_of_nonneg h1], by omega⟩
  | _ => cases h
theorem flat_error_eq (d : D) (hf : d.fit3 = true) (hlen : ∀ b s rs, d = .tup [b, s, .tup rs] → rs.length ≤ 1000000) : t_flat_error [d] = T.ret (flatX d) := by
  unfold t_flat_error bodyT b_flat_error
  have e0 : startE 5 [d] = [.val d, .un, .un, .un, .un] := rfl
  rw [e0]
  have hi := isi_tup d (fit_obj hf)
  by_cases ht : ∃ b s r, d = .tup [b, s, r]
  · obtain ⟨b, s, r, rfl⟩ := ht
    have hb := fit3All_iff.mp (show fit3All [b, s, r] = true from hf)
    have b8 := below_eq b 8 (fit_obj (hb b (by simp)))
    have s9 := below_eq s 9 (fit_obj (hb s (by simp)))
    have rI := isi_tup r (fit_obj (hb r (by simp)))
    have x0 : ixD (.tup [b, s, r]) (.int 0) = T.ret b := rfl
    have h3 : decide (((([b, s, r] : List D)).length : Int) = 3) = true := rfl
    by_cases hp : primeB b = true
    · obtain ⟨p, rfl, hp7⟩ := prime_below hp
      have hin := prime_in p
      rw [hp] at hin
      have hb8 : belowB (.int p) 8 = true := by
        show (decide (0 ≤ p) && decide (p < 8)) = true
        rw [decide_eq_true (by omega), decide_eq_true (by omega)]; rfl
      rw [hb8] at b8
      have ht : tgTup (tgCons (tgName 1) (tgCons (tgName 2) (tgCons (tgName 3) tgNil))) 3 (.tup [.int p, s, r]) [.val (.tup [.int p, s, r]), .un, .un, .un, .un] = some [.val (.tup [.int p, s, r]), .val (.int p), .val s, .val r, .un] := rfl
      by_cases hs : belowB s 9 = true
      · obtain ⟨n, rfl, hn⟩ := below_nat hs
        rw [hs] at s9
        cases r with
        | tup rs =>
          have hl := hlen _ _ rs rfl
          have hr : range1 [.int (rs.length : Int)] = T.ret (rangeD 0 rs.length) := range1_nat _ (by omega)
          have key := forT_first (fun x : D × Nat => D.int ((x.2 : Nat) : Int)) (rowN p (n : Int)) (f := tgName 4) (b := dIf (dNot (dU truthD (dC t_is_row (dCons (gV 1) (dCons (gV 2) (dCons (dB ixD (gV 3) (gV 4)) dNil)))))) (dRet (gV 4)) dSkip) (fun env => ∃ x, env = [.val (.tup [.int p, .int (n : Int), .tup rs]), .val (.int p), .val (.int (n : Int)), .val (.tup rs), x]) rs.zipIdx (fun a ha env he => by
            obtain ⟨x, rfl⟩ := he
            obtain ⟨g1, g2⟩ := zipIdx_mem ha
            have hx := d_nth g1
            have hfa := fit3All_iff.mp (show fit3All rs = true from hb (.tup rs) (by simp)) _ g2
            have hrow := is_row_eq p (n : Int) a.1 (fit_obj hfa) (fun l e => fit_noObj (by rw [← e]; exact hfa))
            unfold rowN
            refine ⟨[.val (.tup [.int p, .int (n : Int), .tup rs]), .val (.int p), .val (.int (n : Int)), .val (.tup rs), .val (.int (a.2 : Int))], rfl, fun y hy => ?_, fun hy => ⟨[.val (.tup [.int p, .int (n : Int), .tup rs]), .val (.int p), .val (.int (n : Int)), .val (.tup rs), .val (.int (a.2 : Int))], ?_, _, rfl⟩⟩
            · split at hy
              · cases hy
              · rename_i hq
                cases hy
                rw [show rowB p (n : Int) a.1 = false by simpa using hq] at hrow
                try simp only [ap_cst, ap_gV, ap_gB, ap_dLst, ap_dNil, ap_dCons, ap_dTup, ap_dB, ap_dBl, ap_dU, ap_dC, ap_dCK, ap_dNot, ap_dAnd, ap_dOr, ap_dAndV, ap_dOrV, ap_dNotV, ap_dIf, ap_dSeq, ap_dSkip, ap_dF, ap_dRet, ap_dRetN, ap_dSet, ap_dOwn, ap_dDrop, ap_dFor, ap_dComp, ap_dBrk, ap_dCnt, ap_dParM, ap_mNil, ap_mV, ap_mN, ap_dAsg, ap_dPar, ap_dPar3, ap_dApp, ap_dExt, ap_dNo, ap_dSome, ap_asInt, ap_dSl, getV_zero, getV_succ, getB_zero, getB_zeroO, getB_succ, ownL_zero, ownL_succ, tgName_ap, forT_nil, ret_bind, fail_bind, exc_bind, bind_assoc', add_ii, sub_ii, lt_ii, le_ii, gt_ii, ge_ii, eq_ii, ne_ii, abs_i, int_i, int_b, len_l, len_t, items_l, items_t, truth_b, asObj_self, List.set_cons_succ, List.set_cons_zero, if_true, if_false, Bool.false_eq_true, Bool.not_true, Bool.not_false, hx, hrow]
            · split at hy
              · rename_i hq
                rw [hq] at hrow
                try simp only [ap_cst, ap_gV, ap_gB, ap_dLst, ap_dNil, ap_dCons, ap_dTup, ap_dB, ap_dBl, ap_dU, ap_dC, ap_dCK, ap_dNot, ap_dAnd, ap_dOr, ap_dAndV, ap_dOrV, ap_dNotV, ap_dIf, ap_dSeq, ap_dSkip, ap_dF, ap_dRet, ap_dRetN, ap_dSet, ap_dOwn, ap_dDrop, ap_dFor, ap_dComp, ap_dBrk, ap_dCnt, ap_dParM, ap_mNil, ap_mV, ap_mN, ap_dAsg, ap_dPar, ap_dPar3, ap_dApp, ap_dExt, ap_dNo, ap_dSome, ap_asInt, ap_dSl, getV_zero, getV_succ, getB_zero, getB_zeroO, getB_succ, ownL_zero, ownL_succ, tgName_ap, forT_nil, ret_bind, fail_bind, exc_bind, bind_assoc', add_ii, sub_ii, lt_ii, le_ii, gt_ii, ge_ii, eq_ii, ne_ii, abs_i, int_i, int_b, len_l, len_t, items_l, items_t, truth_b, asObj_self, List.set_cons_succ, List.set_cons_zero, if_true, if_false, Bool.false_eq_true, Bool.not_true, Bool.not_false, hx, hrow]
              · cases hy) [.val (.tup [.int p, .int (n : Int), .tup rs]), .val (.int p), .val (.int (n : Int)), .val (.tup rs), .un] ⟨_, rfl⟩
          rw [zipIdx_range] at key
          have hX : flatX (.tup [.int p, .int (n : Int), .tup rs]) = (match rs.zipIdx.findSome? (rowN p (n : Int)) with
              | some e => e
              | none => resD (stairsF rs)) := by
            show restX (.int p) (.int (n : Int)) (.tup rs) = _
            unfold restX
            rw [if_pos hp, if_pos hs]
            rfl
          rw [hX]
          cases hq : rs.zipIdx.findSome? (rowN p (n : Int)) with
          | some e =>
            have k1 := key.1 e hq
            try simp only [ap_cst, ap_gV, ap_gB, ap_dLst, ap_dNil, ap_dCons, ap_dTup, ap_dB, ap_dBl, ap_dU, ap_dC, ap_dCK, ap_dNot, ap_dAnd, ap_dOr, ap_dAndV, ap_dOrV, ap_dNotV, ap_dIf, ap_dSeq, ap_dSkip, ap_dF, ap_dRet, ap_dRetN, ap_dSet, ap_dOwn, ap_dDrop, ap_dFor, ap_dComp, ap_dBrk, ap_dCnt, ap_dParM, ap_mNil, ap_mV, ap_mN, ap_dAsg, ap_dPar, ap_dPar3, ap_dApp, ap_dExt, ap_dNo, ap_dSome, ap_asInt, ap_dSl, getV_zero, getV_succ, getB_zero, getB_zeroO, getB_succ, ownL_zero, ownL_succ, tgName_ap, forT_nil, ret_bind, fail_bind, exc_bind, bind_assoc', add_ii, sub_ii, lt_ii, le_ii, gt_ii, ge_ii, eq_ii, ne_ii, abs_i, int_i, int_b, len_l, len_t, items_l, items_t, truth_b, asObj_self, List.set_cons_succ, List.set_cons_zero, if_true, if_false, Bool.false_eq_true, Bool.not_true, Bool.not_false, hi, isTup, h3, x0, b8, hin, c_PRIMES, ht, c_MAX_ENDS, show (8 : Int) + 1 = 9 from rfl, s9, rI, hr, k1]
          | none =>
            obtain ⟨e', k1, x, rfl⟩ := key.2 hq
            have hst := stairs_eq (rows_of hn hl hq)
            try simp only [ap_cst, ap_gV, ap_gB, ap_dLst, ap_dNil, ap_dCons, ap_dTup, ap_dB, ap_dBl, ap_dU, ap_dC, ap_dCK, ap_dNot, ap_dAnd, ap_dOr, ap_dAndV, ap_dOrV, ap_dNotV, ap_dIf, ap_dSeq, ap_dSkip, ap_dF, ap_dRet, ap_dRetN, ap_dSet, ap_dOwn, ap_dDrop, ap_dFor, ap_dComp, ap_dBrk, ap_dCnt, ap_dParM, ap_mNil, ap_mV, ap_mN, ap_dAsg, ap_dPar, ap_dPar3, ap_dApp, ap_dExt, ap_dNo, ap_dSome, ap_asInt, ap_dSl, getV_zero, getV_succ, getB_zero, getB_zeroO, getB_succ, ownL_zero, ownL_succ, tgName_ap, forT_nil, ret_bind, fail_bind, exc_bind, bind_assoc', add_ii, sub_ii, lt_ii, le_ii, gt_ii, ge_ii, eq_ii, ne_ii, abs_i, int_i, int_b, len_l, len_t, items_l, items_t, truth_b, asObj_self, List.set_cons_succ, List.set_cons_zero, if_true, if_false, Bool.false_eq_true, Bool.not_true, Bool.not_false, hi, isTup, h3, x0, b8, hin, c_PRIMES, ht, c_MAX_ENDS, show (8 : Int) + 1 = 9 from rfl, s9, rI, hr, k1, hst]
        | obj a => exact absurd (hb (.obj a) (by simp)) (by simp [D.fit3])
        | _ =>
          have hX : ∀ r, isTup r = false → flatX (.tup [.int p, .int (n : Int), r]) = .str "rows" := fun r hr => by
            show restX _ _ _ = _
            unfold restX
            rw [if_pos hp, if_pos hs]
            cases r <;> first | rfl | cases hr
          rw [hX _ rfl]
          try simp only [ap_cst, ap_gV, ap_gB, ap_dLst, ap_dNil, ap_dCons, ap_dTup, ap_dB, ap_dBl, ap_dU, ap_dC, ap_dCK, ap_dNot, ap_dAnd, ap_dOr, ap_dAndV, ap_dOrV, ap_dNotV, ap_dIf, ap_dSeq, ap_dSkip, ap_dF, ap_dRet, ap_dRetN, ap_dSet, ap_dOwn, ap_dDrop, ap_dFor, ap_dComp, ap_dBrk, ap_dCnt, ap_dParM, ap_mNil, ap_mV, ap_mN, ap_dAsg, ap_dPar, ap_dPar3, ap_dApp, ap_dExt, ap_dNo, ap_dSome, ap_asInt, ap_dSl, getV_zero, getV_succ, getB_zero, getB_zeroO, getB_succ, ownL_zero, ownL_succ, tgName_ap, forT_nil, ret_bind, fail_bind, exc_bind, bind_assoc', add_ii, sub_ii, lt_ii, le_ii, gt_ii, ge_ii, eq_ii, ne_ii, abs_i, int_i, int_b, len_l, len_t, items_l, items_t, truth_b, asObj_self, List.set_cons_succ, List.set_cons_zero, if_true, if_false, Bool.false_eq_true, Bool.not_true, Bool.not_false, hi, isTup, h3, x0, b8, hin, c_PRIMES, ht, c_MAX_ENDS, show (8 : Int) + 1 = 9 from rfl, s9, rI]
      · have hX : flatX (.tup [.int p, s, r]) = .str "ends" := by
          show restX _ _ _ = _
          unfold restX
          rw [if_pos hp, if_neg hs]
        rw [hX]
        rw [show belowB s 9 = false by simpa using hs] at s9
        try simp only [ap_cst, ap_gV, ap_gB, ap_dLst, ap_dNil, ap_dCons, ap_dTup, ap_dB, ap_dBl, ap_dU, ap_dC, ap_dCK, ap_dNot, ap_dAnd, ap_dOr, ap_dAndV, ap_dOrV, ap_dNotV, ap_dIf, ap_dSeq, ap_dSkip, ap_dF, ap_dRet, ap_dRetN, ap_dSet, ap_dOwn, ap_dDrop, ap_dFor, ap_dComp, ap_dBrk, ap_dCnt, ap_dParM, ap_mNil, ap_mV, ap_mN, ap_dAsg, ap_dPar, ap_dPar3, ap_dApp, ap_dExt, ap_dNo, ap_dSome, ap_asInt, ap_dSl, getV_zero, getV_succ, getB_zero, getB_zeroO, getB_succ, ownL_zero, ownL_succ, tgName_ap, forT_nil, ret_bind, fail_bind, exc_bind, bind_assoc', add_ii, sub_ii, lt_ii, le_ii, gt_ii, ge_ii, eq_ii, ne_ii, abs_i, int_i, int_b, len_l, len_t, items_l, items_t, truth_b, asObj_self, List.set_cons_succ, List.set_cons_zero, if_true, if_false, Bool.false_eq_true, Bool.not_true, Bool.not_false, hi, isTup, h3, x0, b8, hin, c_PRIMES, ht, c_MAX_ENDS, show (8 : Int) + 1 = 9 from rfl, s9]
    · have hX : flatX (.tup [b, s, r]) = .str "prime" := by
        show restX _ _ _ = _
        unfold restX
        rw [if_neg hp]
      rw [hX]
      cases hb8 : belowB b 8 with
      | false =>
        rw [hb8] at b8
        try simp only [ap_cst, ap_gV, ap_gB, ap_dLst, ap_dNil, ap_dCons, ap_dTup, ap_dB, ap_dBl, ap_dU, ap_dC, ap_dCK, ap_dNot, ap_dAnd, ap_dOr, ap_dAndV, ap_dOrV, ap_dNotV, ap_dIf, ap_dSeq, ap_dSkip, ap_dF, ap_dRet, ap_dRetN, ap_dSet, ap_dOwn, ap_dDrop, ap_dFor, ap_dComp, ap_dBrk, ap_dCnt, ap_dParM, ap_mNil, ap_mV, ap_mN, ap_dAsg, ap_dPar, ap_dPar3, ap_dApp, ap_dExt, ap_dNo, ap_dSome, ap_asInt, ap_dSl, getV_zero, getV_succ, getB_zero, getB_zeroO, getB_succ, ownL_zero, ownL_succ, tgName_ap, forT_nil, ret_bind, fail_bind, exc_bind, bind_assoc', add_ii, sub_ii, lt_ii, le_ii, gt_ii, ge_ii, eq_ii, ne_ii, abs_i, int_i, int_b, len_l, len_t, items_l, items_t, truth_b, asObj_self, List.set_cons_succ, List.set_cons_zero, if_true, if_false, Bool.false_eq_true, Bool.not_true, Bool.not_false, hi, isTup, h3, x0, b8]
      | true =>
        rw [hb8] at b8
        cases b with
        | int i =>
          have hin := prime_in i
          rw [show primeB (.int i) = false by simpa using hp] at hin
          try simp only [ap_cst, ap_gV, ap_gB, ap_dLst, ap_dNil, ap_dCons, ap_dTup, ap_dB, ap_dBl, ap_dU, ap_dC, ap_dCK, ap_dNot, ap_dAnd, ap_dOr, ap_dAndV, ap_dOrV, ap_dNotV, ap_dIf, ap_dSeq, ap_dSkip, ap_dF, ap_dRet, ap_dRetN, ap_dSet, ap_dOwn, ap_dDrop, ap_dFor, ap_dComp, ap_dBrk, ap_dCnt, ap_dParM, ap_mNil, ap_mV, ap_mN, ap_dAsg, ap_dPar, ap_dPar3, ap_dApp, ap_dExt, ap_dNo, ap_dSome, ap_asInt, ap_dSl, getV_zero, getV_succ, getB_zero, getB_zeroO, getB_succ, ownL_zero, ownL_succ, tgName_ap, forT_nil, ret_bind, fail_bind, exc_bind, bind_assoc', add_ii, sub_ii, lt_ii, le_ii, gt_ii, ge_ii, eq_ii, ne_ii, abs_i, int_i, int_b, len_l, len_t, items_l, items_t, truth_b, asObj_self, List.set_cons_succ, List.set_cons_zero, if_true, if_false, Bool.false_eq_true, Bool.not_true, Bool.not_false, hi, isTup, h3, x0, b8, hin, c_PRIMES]
        | _ => cases hb8
  · have hX : flatX d = .str "prime" := by
      unfold flatX
      split
      · exact absurd ⟨_, _, _, rfl⟩ ht
      · rfl
    rw [hX]
    cases d with
    | tup l =>
      have h3 : decide ((l.length : Int) = 3) = false := by
        refine decide_eq_false fun h => ht ?_
        match l, h with
        | [a, b, c], _ => exact ⟨a, b, c, rfl⟩
      try simp only [ap_cst, ap_gV, ap_gB, ap_dLst, ap_dNil, ap_dCons, ap_dTup, ap_dB, ap_dBl, ap_dU, ap_dC, ap_dCK, ap_dNot, ap_dAnd, ap_dOr, ap_dAndV, ap_dOrV, ap_dNotV, ap_dIf, ap_dSeq, ap_dSkip, ap_dF, ap_dRet, ap_dRetN, ap_dSet, ap_dOwn, ap_dDrop, ap_dFor, ap_dComp, ap_dBrk, ap_dCnt, ap_dParM, ap_mNil, ap_mV, ap_mN, ap_dAsg, ap_dPar, ap_dPar3, ap_dApp, ap_dExt, ap_dNo, ap_dSome, ap_asInt, ap_dSl, getV_zero, getV_succ, getB_zero, getB_zeroO, getB_succ, ownL_zero, ownL_succ, tgName_ap, forT_nil, ret_bind, fail_bind, exc_bind, bind_assoc', add_ii, sub_ii, lt_ii, le_ii, gt_ii, ge_ii, eq_ii, ne_ii, abs_i, int_i, int_b, len_l, len_t, items_l, items_t, truth_b, asObj_self, List.set_cons_succ, List.set_cons_zero, if_true, if_false, Bool.false_eq_true, Bool.not_true, Bool.not_false, hi, isTup, h3]
    | obj a => cases hf
    | _ => try simp only [ap_cst, ap_gV, ap_gB, ap_dLst, ap_dNil, ap_dCons, ap_dTup, ap_dB, ap_dBl, ap_dU, ap_dC, ap_dCK, ap_dNot, ap_dAnd, ap_dOr, ap_dAndV, ap_dOrV, ap_dNotV, ap_dIf, ap_dSeq, ap_dSkip, ap_dF, ap_dRet, ap_dRetN, ap_dSet, ap_dOwn, ap_dDrop, ap_dFor, ap_dComp, ap_dBrk, ap_dCnt, ap_dParM, ap_mNil, ap_mV, ap_mN, ap_dAsg, ap_dPar, ap_dPar3, ap_dApp, ap_dExt, ap_dNo, ap_dSome, ap_asInt, ap_dSl, getV_zero, getV_succ, getB_zero, getB_zeroO, getB_succ, ownL_zero, ownL_succ, tgName_ap, forT_nil, ret_bind, fail_bind, exc_bind, bind_assoc', add_ii, sub_ii, lt_ii, le_ii, gt_ii, ge_ii, eq_ii, ne_ii, abs_i, int_i, int_b, len_l, len_t, items_l, items_t, truth_b, asObj_self, List.set_cons_succ, List.set_cons_zero, if_true, if_false, Bool.false_eq_true, Bool.not_true, Bool.not_false, hi, isTup]
end Law

namespace Law
open PySem PySem.Spec PyProof.Rows L2 Eng
abbrev tg45 : D → Eng.Env → Option Eng.Env := tgTup (tgCons (tgName 4) (tgCons (tgName 5) tgNil)) 2
abbrev row2B : Eng.Env → T Out := dIf (dNot (dU truthD (dC t_l_is_row (dCons (gV 1) (dCons (gV 2) (dCons (gV 5) dNil)))))) (dRet (gV 4)) dSkip
theorem row2_loop {rs : List D} (hfr : fit3All rs = true) (th : D) (p n : Int) :
    (∀ x, rs.zipIdx.findSome? (rowN p n) = some x → forT tg45 row2B (rs.zipIdx.map fun x : D × Nat => D.tup [.int ((x.2 : Nat) : Int), x.1]) (LE th (.int p) (.int n) rs .un .un .un .un .un) = T.ret (.rt x)) ∧ (rs.zipIdx.findSome? (rowN p n) = none → ∃ e', forT tg45 row2B (rs.zipIdx.map fun x : D × Nat => D.tup [.int ((x.2 : Nat) : Int), x.1]) (LE th (.int p) (.int n) rs .un .un .un .un .un) = T.ret (.nx e') ∧ ∃ x4 x5, e' = LE th (.int p) (.int n) rs x4 x5 .un .un .un) := by
  exact forT_first (fun x : D × Nat => D.tup [.int ((x.2 : Nat) : Int), x.1]) (rowN p n) (f := tg45) (b := row2B) (fun env => ∃ x4 x5, env = LE th (.int p) (.int n) rs x4 x5 .un .un .un) rs.zipIdx (fun a ha env he => by
    obtain ⟨x, y, rfl⟩ := he
    obtain ⟨g1, g2⟩ := zipIdx_mem ha
    have hfa := fit3All_iff.mp hfr _ g2
    have hrow := l_is_row_eq p n a.1 (fit_obj hfa) (fun l e => fit_noObj (by rw [← e]; exact hfa))
    unfold rowN
    refine ⟨LE th (.int p) (.int n) rs (.val (.int (a.2 : Int))) (.val a.1) .un .un .un, rfl, fun y hy => ?_, fun hy => ⟨LE th (.int p) (.int n) rs (.val (.int (a.2 : Int))) (.val a.1) .un .un .un, ?_, _, _, rfl⟩⟩
    · split at hy
      · cases hy
      · rename_i hq
        cases hy
        rw [show rowB p n a.1 = false by simpa using hq] at hrow
        try simp only [ap_cst, ap_gV, ap_gB, ap_dLst, ap_dNil, ap_dCons, ap_dTup, ap_dB, ap_dBl, ap_dU, ap_dC, ap_dCK, ap_dNot, ap_dAnd, ap_dOr, ap_dAndV, ap_dOrV, ap_dNotV, ap_dIf, ap_dSeq, ap_dSkip, ap_dF, ap_dRet, ap_dRetN, ap_dSet, ap_dOwn, ap_dDrop, ap_dFor, ap_dComp, ap_dBrk, ap_dCnt, ap_dParM, ap_mNil, ap_mV, ap_mN, ap_dAsg, ap_dPar, ap_dPar3, ap_dApp, ap_dExt, ap_dNo, ap_dSome, ap_asInt, ap_dSl, getV_zero, getV_succ, getB_zero, getB_zeroO, getB_succ, ownL_zero, ownL_succ, tgName_ap, forT_nil, ret_bind, fail_bind, exc_bind, bind_assoc', add_ii, sub_ii, lt_ii, le_ii, gt_ii, ge_ii, eq_ii, ne_ii, abs_i, int_i, int_b, len_l, len_t, items_l, items_t, truth_b, asObj_self, List.set_cons_succ, List.set_cons_zero, if_true, if_false, Bool.false_eq_true, Bool.not_true, Bool.not_false, hrow]
    · split at hy
      · rename_i hq
        rw [hq] at hrow
        try simp only [ap_cst, ap_gV, ap_gB, ap_dLst, ap_dNil, ap_dCons, ap_dTup, ap_dB, ap_dBl, ap_dU, ap_dC, ap_dCK, ap_dNot, ap_dAnd, ap_dOr, ap_dAndV, ap_dOrV, ap_dNotV, ap_dIf, ap_dSeq, ap_dSkip, ap_dF, ap_dRet, ap_dRetN, ap_dSet, ap_dOwn, ap_dDrop, ap_dFor, ap_dComp, ap_dBrk, ap_dCnt, ap_dParM, ap_mNil, ap_mV, ap_mN, ap_dAsg, ap_dPar, ap_dPar3, ap_dApp, ap_dExt, ap_dNo, ap_dSome, ap_asInt, ap_dSl, getV_zero, getV_succ, getB_zero, getB_zeroO, getB_succ, ownL_zero, ownL_succ, tgName_ap, forT_nil, ret_bind, fail_bind, exc_bind, bind_assoc', add_ii, sub_ii, lt_ii, le_ii, gt_ii, ge_ii, eq_ii, ne_ii, abs_i, int_i, int_b, len_l, len_t, items_l, items_t, truth_b, asObj_self, List.set_cons_succ, List.set_cons_zero, if_true, if_false, Bool.false_eq_true, Bool.not_true, Bool.not_false, hrow]
      · cases hy) (LE th (.int p) (.int n) rs .un .un .un .un .un) ⟨_, _, rfl⟩
/-- the law's end of the test -/
def tailD : Eng.Env → T Out := dSeq (dOwn 6 (dComp (dU itemsD (gV 3)) (tgName 5) (fun _ => T.ret true) (dC t_l_lead (dCons (gV 5) dNil)) [5]))
  (dSeq (dF [6] (dFor (dC enumOf (dCons (gV 6) dNil)) tg47 one2B))
  (dSeq (dFor (dC range2 (dCons (cst (.int 1)) (dCons (dC lenD (dCons (gB 6) dNil)) dNil))) (tgName 4) st2B)
  (dSeq (dF [6] (dFor (dC enumOf (dCons (gV 6) dNil)) tg47 cl2B))
  (dRet (cst .non)))))
theorem tail_eq {n : Nat} {rs : List D} (H : Rows n rs) (th b : D) (x4 x5 : Sl) : tailD (LE th b (.int (n : Int)) rs x4 x5 .un .un .un) = T.ret (.rt (resD (stairsF rs))) := by
  unfold tailD
  have hl := H.len
  have hc : compT (tgName 5) (fun _ => T.ret true) (dC t_l_lead (dCons (gV 5) dNil)) (wipeE (LE th b (.int (n : Int)) rs x4 x5 .un .un .un) [5]) rs = T.ret (rs.map fun r => leadL (rowL r)) := by
    have := compT_all (fun d : D => d) (fun r => leadL (rowL r)) (f := tgName 5) (t := fun _ => T.ret true) (w := dC t_l_lead (dCons (gV 5) dNil)) (env := wipeE (LE th b (.int (n : Int)) rs x4 x5 .un .un .un) [5]) rs fun d hd => ⟨LE th b (.int (n : Int)) rs x4 (.val d) .un .un .un, rfl, rfl, by
      obtain ⟨l, rfl, hi, hz⟩ := H.row d hd
      have := l_lead_eq l hi
      try simp only [ap_cst, ap_gV, ap_gB, ap_dLst, ap_dNil, ap_dCons, ap_dTup, ap_dB, ap_dBl, ap_dU, ap_dC, ap_dCK, ap_dNot, ap_dAnd, ap_dOr, ap_dAndV, ap_dOrV, ap_dNotV, ap_dIf, ap_dSeq, ap_dSkip, ap_dF, ap_dRet, ap_dRetN, ap_dSet, ap_dOwn, ap_dDrop, ap_dFor, ap_dComp, ap_dBrk, ap_dCnt, ap_dParM, ap_mNil, ap_mV, ap_mN, ap_dAsg, ap_dPar, ap_dPar3, ap_dApp, ap_dExt, ap_dNo, ap_dSome, ap_asInt, ap_dSl, getV_zero, getV_succ, getB_zero, getB_zeroO, getB_succ, ownL_zero, ownL_succ, tgName_ap, forT_nil, ret_bind, fail_bind, exc_bind, bind_assoc', add_ii, sub_ii, lt_ii, le_ii, gt_ii, ge_ii, eq_ii, ne_ii, abs_i, int_i, int_b, len_l, len_t, items_l, items_t, truth_b, asObj_self, List.set_cons_succ, List.set_cons_zero, if_true, if_false, Bool.false_eq_true, Bool.not_true, Bool.not_false, this]
      rfl⟩
    rw [List.map_id'] at this
    exact this
  have s0 : dOwn 6 (dComp (dU itemsD (gV 3)) (tgName 5) (fun _ => T.ret true) (dC t_l_lead (dCons (gV 5) dNil)) [5]) (LE th b (.int (n : Int)) rs x4 x5 .un .un .un) = T.ret (.nx (LE th b (.int (n : Int)) rs x4 x5 (.own (.lst (rs.map fun r => leadL (rowL r)))) .un .un)) := by
    try simp only [ap_cst, ap_gV, ap_gB, ap_dLst, ap_dNil, ap_dCons, ap_dTup, ap_dB, ap_dBl, ap_dU, ap_dC, ap_dCK, ap_dNot, ap_dAnd, ap_dOr, ap_dAndV, ap_dOrV, ap_dNotV, ap_dIf, ap_dSeq, ap_dSkip, ap_dF, ap_dRet, ap_dRetN, ap_dSet, ap_dOwn, ap_dDrop, ap_dFor, ap_dComp, ap_dBrk, ap_dCnt, ap_dParM, ap_mNil, ap_mV, ap_mN, ap_dAsg, ap_dPar, ap_dPar3, ap_dApp, ap_dExt, ap_dNo, ap_dSome, ap_asInt, ap_dSl, getV_zero, getV_succ, getB_zero, getB_zeroO, getB_succ, ownL_zero, ownL_succ, tgName_ap, forT_nil, ret_bind, fail_bind, exc_bind, bind_assoc', add_ii, sub_ii, lt_ii, le_ii, gt_ii, ge_ii, eq_ii, ne_ii, abs_i, int_i, int_b, len_l, len_t, items_l, items_t, truth_b, asObj_self, List.set_cons_succ, List.set_cons_zero, if_true, if_false, Bool.false_eq_true, Bool.not_true, Bool.not_false, hc]
  have hen1 : enumOf [.lst (rs.map fun r => leadL (rowL r))] = T.ret (rs.zipIdx.map fun x : D × Nat => D.tup [.int ((x.2 : Nat) : Int), leadL (rowL x.1)]) := by
    show T.ret (enumD _) = _
    unfold enumD
    rw [List.zipIdx_map, List.map_map]
    rfl
  have key1 := one2_loop H th b x4 x5 (.val (.lst (rs.map fun r => leadL (rowL r)))) .un .un
  have w1 : dC enumOf (dCons (gV 6) dNil) (LE th b (.int (n : Int)) rs x4 x5 (.val (.lst (rs.map fun r => leadL (rowL r)))) .un .un) = T.ret (rs.zipIdx.map fun x : D × Nat => D.tup [.int ((x.2 : Nat) : Int), leadL (rowL x.1)]) := hen1
  have fr : ∀ (v w : Eng.Env → T Out), dF [6] v (LE th b (.int (n : Int)) rs x4 x5 (.own (.lst (rs.map fun r => leadL (rowL r)))) .un .un) = v (LE th b (.int (n : Int)) rs x4 x5 (.val (.lst (rs.map fun r => leadL (rowL r)))) .un .un) := fun v _ => rfl
  rw [seq_nx s0]
  unfold stairsF
  cases h1 : rs.zipIdx.findSome? oneN with
  | some e =>
    have k1 := key1.1 e h1
    refine seq_rt ?_
    rw [fr _ dSkip]
    exact for_eq w1 k1
  | none =>
    obtain ⟨e1, k1, y4, y7, rfl⟩ := key1.2 h1
    have hjs := ones_js h1
    have hle : (rs.map fun r => leadL (rowL r)) = (jsOf rs).map fun (j : Nat) => D.int (j : Int) := by
      unfold jsOf
      rw [List.map_map]
      refine List.map_congr_left fun r hr => ?_
      obtain ⟨j, hj⟩ := hjs r hr
      unfold leadL
      rw [leadF_N, hj]
      show _ = D.int (((leadN (rowL r)).getD 0 : Nat) : Int)
      rw [hj]
      rfl
    have s1 : dF [6] (dFor (dC enumOf (dCons (gV 6) dNil)) tg47 one2B) (LE th b (.int (n : Int)) rs x4 x5 (.own (.lst (rs.map fun r => leadL (rowL r)))) .un .un) = T.ret (.nx (LE th b (.int (n : Int)) rs y4 x5 (.val (JS rs)) y7 .un)) := by
      rw [fr _ dSkip, for_eq w1 k1, hle]
    rw [seq_nx s1]
    have hjl : (jsOf rs).length = rs.length := List.length_map _
    have key2 := st2_loop rs th b (.int (n : Int)) y4 x5 y7 .un
    have hr2 := range2_nat rs.length (by omega)
    have w2 : dC range2 (dCons (cst (.int 1)) (dCons (dC lenD (dCons (gB 6) dNil)) dNil)) (LE th b (.int (n : Int)) rs y4 x5 (.val (JS rs)) y7 .un) = T.ret ((List.range (rs.length - 1)).map fun (i : Nat) => D.int (1 + (i : Int))) := by
      have hB : gB 6 (LE th b (.int (n : Int)) rs y4 x5 (.val (JS rs)) y7 .un) = T.ret (JS rs) := rfl
      have hln : lenD [JS rs] = T.ret (.int (rs.length : Int)) := by rw [len_l, List.length_map, hjl]
      rw [ap_dC, ap_dCons, ap_cst, ret_bind, ap_dCons, ap_dC, ap_dCons, hB, ret_bind, ap_dNil, ret_bind, ret_bind, hln, ret_bind, ret_bind, ret_bind, ret_bind]
      exact hr2
    cases h2 : (List.range (rs.length - 1)).findSome? (stF (jsOf rs)) with
    | some e => exact seq_rt (for_eq w2 (key2.1 e h2))
    | none =>
      obtain ⟨e2, k2, z4, rfl⟩ := key2.2 h2
      rw [seq_nx (for_eq w2 k2)]
      have key3 := cl2_loop H hjs th b (.int (n : Int)) z4 x5 y7 .un
      have hen3 : enumOf [JS rs] = T.ret ((jsOf rs).zipIdx.map fun x : Nat × Nat => D.tup [.int ((x.2 : Nat) : Int), .int ((x.1 : Nat) : Int)]) := by
        show T.ret (enumD _) = _
        unfold enumD
        rw [List.zipIdx_map, List.map_map]
        rfl
      have w3 : dC enumOf (dCons (gV 6) dNil) (LE th b (.int (n : Int)) rs z4 x5 (.val (JS rs)) y7 .un) = T.ret ((jsOf rs).zipIdx.map fun x : Nat × Nat => D.tup [.int ((x.2 : Nat) : Int), .int ((x.1 : Nat) : Int)]) := hen3
      have fr3 : ∀ (v : Eng.Env → T Out), dF [6] v (LE th b (.int (n : Int)) rs z4 x5 (.val (JS rs)) y7 .un) = v (LE th b (.int (n : Int)) rs z4 x5 (.val (JS rs)) y7 .un) := fun v => rfl
      cases h3 : (jsOf rs).zipIdx.findSome? (clF rs) with
      | some e =>
        refine seq_rt ?_
        rw [fr3]
        exact for_eq w3 (key3.1 e h3)
      | none =>
        obtain ⟨e3, k3, v4, v5, v7, v8, rfl⟩ := key3.2 h3
        have s3 : dF [6] (dFor (dC enumOf (dCons (gV 6) dNil)) tg47 cl2B) (LE th b (.int (n : Int)) rs z4 x5 (.val (JS rs)) y7 .un) = T.ret (.nx (LE th b (.int (n : Int)) rs v4 v5 (.val (JS rs)) v7 v8)) := by
          rw [fr3]
          exact for_eq w3 k3
        rw [seq_nx s3]
        rfl
end Law

namespace Law
open PySem PySem.Spec PyProof.Rows L2 Eng
abbrev D0 (d : D) : Eng.Env := [.val d, .un, .un, .un, .un, .un, .un, .un, .un]
def dueR : Eng.Env → T Out := dSeq (dFor (dC enumOf (dCons (gV 3) dNil)) tg45 row2B) tailD
def dueQ : Eng.Env → T Out := dSeq (dIf (dOr (dNot (dU truthD (dC t_l_is_integer (dCons (gV 2) dNil)))) (dOr (dB ltD (gV 2) (cst (.int 0))) (dB gtD (gV 2) (cst (.int 8))))) (dRet (cst (.str "ends"))) dSkip)
  (dSeq (dIf (dNot (dU truthD (dU (isiD "tuple") (gV 3)))) (dRet (cst (.str "rows"))) dSkip) dueR)
def dueP : Eng.Env → T Out := dSeq (dIf (dOr (dNot (dU truthD (dC t_l_is_integer (dCons (gV 1) dNil)))) (dB notInD (gV 1) (dTup (dCons (cst (.int 2)) (dCons (cst (.int 3)) (dCons (cst (.int 5)) (dCons (cst (.int 7)) dNil))))))) (dRet (cst (.str "prime"))) dSkip) dueQ
theorem due_b : b_l_due = dSeq (dIf (dOr (dNot (dU truthD (dU (isiD "tuple") (gV 0)))) (dB neD (dC lenD (dCons (gV 0) dNil)) (cst (.int 3)))) (dRet (cst (.str "prime"))) dSkip)
  (dSeq (dAsg (tgTup (tgCons (tgName 1) (tgCons (tgName 2) (tgCons (tgName 3) tgNil))) 3) (gV 0)) dueP) := rfl
theorem due_eq (d : D) (hf : d.fit3 = true) (hlen : ∀ b s rs, d = .tup [b, s, .tup rs] → rs.length ≤ 1000000) : t_l_due [d] = T.ret (flatX d) := by
  unfold t_l_due
  refine body_rt ?_
  have e0 : startE 9 [d] = D0 d := rfl
  rw [e0, due_b]
  have hi := isi_tup d (fit_obj hf)
  by_cases ht : ∃ b s r, d = .tup [b, s, r]
  · obtain ⟨b, s, r, rfl⟩ := ht
    have hb := fit3All_iff.mp (show fit3All [b, s, r] = true from hf)
    have bI := integer_eq b (fit_obj (hb b (by simp)))
    have sI := integer_eq s (fit_obj (hb s (by simp)))
    have rI := isi_tup r (fit_obj (hb r (by simp)))
    have h3 : decide (((([b, s, r] : List D)).length : Int) = 3) = true := rfl
    have s0 : dIf (dOr (dNot (dU truthD (dU (isiD "tuple") (gV 0)))) (dB neD (dC lenD (dCons (gV 0) dNil)) (cst (.int 3)))) (dRet (cst (.str "prime"))) dSkip (D0 (.tup [b, s, r])) = T.ret (.nx (D0 (.tup [b, s, r]))) := by
      try simp only [ap_cst, ap_gV, ap_gB, ap_dLst, ap_dNil, ap_dCons, ap_dTup, ap_dB, ap_dBl, ap_dU, ap_dC, ap_dCK, ap_dNot, ap_dAnd, ap_dOr, ap_dAndV, ap_dOrV, ap_dNotV, ap_dIf, ap_dSeq, ap_dSkip, ap_dF, ap_dRet, ap_dRetN, ap_dSet, ap_dOwn, ap_dDrop, ap_dFor, ap_dComp, ap_dBrk, ap_dCnt, ap_dParM, ap_mNil, ap_mV, ap_mN, ap_dAsg, ap_dPar, ap_dPar3, ap_dApp, ap_dExt, ap_dNo, ap_dSome, ap_asInt, ap_dSl, getV_zero, getV_succ, getB_zero, getB_zeroO, getB_succ, ownL_zero, ownL_succ, tgName_ap, forT_nil, ret_bind, fail_bind, exc_bind, bind_assoc', add_ii, sub_ii, lt_ii, le_ii, gt_ii, ge_ii, eq_ii, ne_ii, abs_i, int_i, int_b, len_l, len_t, items_l, items_t, truth_b, asObj_self, List.set_cons_succ, List.set_cons_zero, if_true, if_false, Bool.false_eq_true, Bool.not_true, Bool.not_false, hi, isTup, h3]
    rw [seq_nx s0]
    have s1 : dAsg (tgTup (tgCons (tgName 1) (tgCons (tgName 2) (tgCons (tgName 3) tgNil))) 3) (gV 0) (D0 (.tup [b, s, r])) = T.ret (.nx [.val (.tup [b, s, r]), .val b, .val s, .val r, .un, .un, .un, .un, .un]) := rfl
    rw [seq_nx s1]
    unfold dueP
    by_cases hp : primeB b = true
    · obtain ⟨p, rfl, hp7⟩ := prime_below hp
      have hin := prime_in p
      rw [hp] at hin
      have s2 : dIf (dOr (dNot (dU truthD (dC t_l_is_integer (dCons (gV 1) dNil)))) (dB notInD (gV 1) (dTup (dCons (cst (.int 2)) (dCons (cst (.int 3)) (dCons (cst (.int 5)) (dCons (cst (.int 7)) dNil))))))) (dRet (cst (.str "prime"))) dSkip [.val (.tup [.int p, s, r]), .val (.int p), .val s, .val r, .un, .un, .un, .un, .un] = T.ret (.nx [.val (.tup [.int p, s, r]), .val (.int p), .val s, .val r, .un, .un, .un, .un, .un]) := by
        try simp only [ap_cst, ap_gV, ap_gB, ap_dLst, ap_dNil, ap_dCons, ap_dTup, ap_dB, ap_dBl, ap_dU, ap_dC, ap_dCK, ap_dNot, ap_dAnd, ap_dOr, ap_dAndV, ap_dOrV, ap_dNotV, ap_dIf, ap_dSeq, ap_dSkip, ap_dF, ap_dRet, ap_dRetN, ap_dSet, ap_dOwn, ap_dDrop, ap_dFor, ap_dComp, ap_dBrk, ap_dCnt, ap_dParM, ap_mNil, ap_mV, ap_mN, ap_dAsg, ap_dPar, ap_dPar3, ap_dApp, ap_dExt, ap_dNo, ap_dSome, ap_asInt, ap_dSl, getV_zero, getV_succ, getB_zero, getB_zeroO, getB_succ, ownL_zero, ownL_succ, tgName_ap, forT_nil, ret_bind, fail_bind, exc_bind, bind_assoc', add_ii, sub_ii, lt_ii, le_ii, gt_ii, ge_ii, eq_ii, ne_ii, abs_i, int_i, int_b, len_l, len_t, items_l, items_t, truth_b, asObj_self, List.set_cons_succ, List.set_cons_zero, if_true, if_false, Bool.false_eq_true, Bool.not_true, Bool.not_false, bI, isInt, hin]
      rw [seq_nx s2]
      unfold dueQ
      by_cases hs : belowB s 9 = true
      · obtain ⟨n, rfl, hn⟩ := below_nat hs
        have n0 : decide ((n : Int) < 0) = false := decide_eq_false (by omega)
        have n8 : decide ((8 : Int) < (n : Int)) = false := decide_eq_false (by omega)
        have s3 : dIf (dOr (dNot (dU truthD (dC t_l_is_integer (dCons (gV 2) dNil)))) (dOr (dB ltD (gV 2) (cst (.int 0))) (dB gtD (gV 2) (cst (.int 8))))) (dRet (cst (.str "ends"))) dSkip [.val (.tup [.int p, .int (n : Int), r]), .val (.int p), .val (.int (n : Int)), .val r, .un, .un, .un, .un, .un] = T.ret (.nx [.val (.tup [.int p, .int (n : Int), r]), .val (.int p), .val (.int (n : Int)), .val r, .un, .un, .un, .un, .un]) := by
          try simp only [ap_cst, ap_gV, ap_gB, ap_dLst, ap_dNil, ap_dCons, ap_dTup, ap_dB, ap_dBl, ap_dU, ap_dC, ap_dCK, ap_dNot, ap_dAnd, ap_dOr, ap_dAndV, ap_dOrV, ap_dNotV, ap_dIf, ap_dSeq, ap_dSkip, ap_dF, ap_dRet, ap_dRetN, ap_dSet, ap_dOwn, ap_dDrop, ap_dFor, ap_dComp, ap_dBrk, ap_dCnt, ap_dParM, ap_mNil, ap_mV, ap_mN, ap_dAsg, ap_dPar, ap_dPar3, ap_dApp, ap_dExt, ap_dNo, ap_dSome, ap_asInt, ap_dSl, getV_zero, getV_succ, getB_zero, getB_zeroO, getB_succ, ownL_zero, ownL_succ, tgName_ap, forT_nil, ret_bind, fail_bind, exc_bind, bind_assoc', add_ii, sub_ii, lt_ii, le_ii, gt_ii, ge_ii, eq_ii, ne_ii, abs_i, int_i, int_b, len_l, len_t, items_l, items_t, truth_b, asObj_self, List.set_cons_succ, List.set_cons_zero, if_true, if_false, Bool.false_eq_true, Bool.not_true, Bool.not_false, sI, isInt, n0, n8]
        rw [seq_nx s3]
        cases hT : isTup r with
        | true =>
          cases r with
          | tup rs =>
            have hl := hlen _ _ rs rfl
            have s4 : dIf (dNot (dU truthD (dU (isiD "tuple") (gV 3)))) (dRet (cst (.str "rows"))) dSkip [.val (.tup [.int p, .int (n : Int), .tup rs]), .val (.int p), .val (.int (n : Int)), .val (.tup rs), .un, .un, .un, .un, .un] = T.ret (.nx (LE (.tup [.int p, .int (n : Int), .tup rs]) (.int p) (.int (n : Int)) rs .un .un .un .un .un)) := by
              try simp only [ap_cst, ap_gV, ap_gB, ap_dLst, ap_dNil, ap_dCons, ap_dTup, ap_dB, ap_dBl, ap_dU, ap_dC, ap_dCK, ap_dNot, ap_dAnd, ap_dOr, ap_dAndV, ap_dOrV, ap_dNotV, ap_dIf, ap_dSeq, ap_dSkip, ap_dF, ap_dRet, ap_dRetN, ap_dSet, ap_dOwn, ap_dDrop, ap_dFor, ap_dComp, ap_dBrk, ap_dCnt, ap_dParM, ap_mNil, ap_mV, ap_mN, ap_dAsg, ap_dPar, ap_dPar3, ap_dApp, ap_dExt, ap_dNo, ap_dSome, ap_asInt, ap_dSl, getV_zero, getV_succ, getB_zero, getB_zeroO, getB_succ, ownL_zero, ownL_succ, tgName_ap, forT_nil, ret_bind, fail_bind, exc_bind, bind_assoc', add_ii, sub_ii, lt_ii, le_ii, gt_ii, ge_ii, eq_ii, ne_ii, abs_i, int_i, int_b, len_l, len_t, items_l, items_t, truth_b, asObj_self, List.set_cons_succ, List.set_cons_zero, if_true, if_false, Bool.false_eq_true, Bool.not_true, Bool.not_false, rI, isTup]
            rw [seq_nx s4]
            unfold dueR
            have hX : flatX (.tup [.int p, .int (n : Int), .tup rs]) = (match rs.zipIdx.findSome? (rowN p (n : Int)) with
                | some e => e
                | none => resD (stairsF rs)) := by
              show restX (.int p) (.int (n : Int)) (.tup rs) = _
              unfold restX
              rw [if_pos hp, if_pos hs]
              rfl
            rw [hX]
            have key := row2_loop (show fit3All rs = true from hb (.tup rs) (by simp)) (.tup [.int p, .int (n : Int), .tup rs]) p (n : Int)
            have w0 : dC enumOf (dCons (gV 3) dNil) (LE (.tup [.int p, .int (n : Int), .tup rs]) (.int p) (.int (n : Int)) rs .un .un .un .un .un) = T.ret (rs.zipIdx.map fun x : D × Nat => D.tup [.int ((x.2 : Nat) : Int), x.1]) := rfl
            cases hq : rs.zipIdx.findSome? (rowN p (n : Int)) with
            | some e => exact seq_rt (for_eq w0 (key.1 e hq))
            | none =>
              obtain ⟨e', k1, x4, x5, rfl⟩ := key.2 hq
              rw [seq_nx (for_eq w0 k1)]
              exact tail_eq (rows_of hn hl hq) _ _ _ _
          | _ => cases hT
        | false =>
          have hX : flatX (.tup [.int p, .int (n : Int), r]) = .str "rows" := by
            show restX _ _ _ = _
            unfold restX
            rw [if_pos hp, if_pos hs]
            cases r <;> first | rfl | cases hT
          rw [hX]
          refine seq_rt ?_
          rw [hT] at rI
          try simp only [ap_cst, ap_gV, ap_gB, ap_dLst, ap_dNil, ap_dCons, ap_dTup, ap_dB, ap_dBl, ap_dU, ap_dC, ap_dCK, ap_dNot, ap_dAnd, ap_dOr, ap_dAndV, ap_dOrV, ap_dNotV, ap_dIf, ap_dSeq, ap_dSkip, ap_dF, ap_dRet, ap_dRetN, ap_dSet, ap_dOwn, ap_dDrop, ap_dFor, ap_dComp, ap_dBrk, ap_dCnt, ap_dParM, ap_mNil, ap_mV, ap_mN, ap_dAsg, ap_dPar, ap_dPar3, ap_dApp, ap_dExt, ap_dNo, ap_dSome, ap_asInt, ap_dSl, getV_zero, getV_succ, getB_zero, getB_zeroO, getB_succ, ownL_zero, ownL_succ, tgName_ap, forT_nil, ret_bind, fail_bind, exc_bind, bind_assoc', add_ii, sub_ii, lt_ii, le_ii, gt_ii, ge_ii, eq_ii, ne_ii, abs_i, int_i, int_b, len_l, len_t, items_l, items_t, truth_b, asObj_self, List.set_cons_succ, List.set_cons_zero, if_true, if_false, Bool.false_eq_true, Bool.not_true, Bool.not_false, rI]
      · have hX : flatX (.tup [.int p, s, r]) = .str "ends" := by
          show restX _ _ _ = _
          unfold restX
          rw [if_pos hp, if_neg hs]
        rw [hX]
        refine seq_rt ?_
        cases hI : isInt s with
        | false =>
          rw [hI] at sI
          try simp only [ap_cst, ap_gV, ap_gB, ap_dLst, ap_dNil, ap_dCons, ap_dTup, ap_dB, ap_dBl, ap_dU, ap_dC, ap_dCK, ap_dNot, ap_dAnd, ap_dOr, ap_dAndV, ap_dOrV, ap_dNotV, ap_dIf, ap_dSeq, ap_dSkip, ap_dF, ap_dRet, ap_dRetN, ap_dSet, ap_dOwn, ap_dDrop, ap_dFor, ap_dComp, ap_dBrk, ap_dCnt, ap_dParM, ap_mNil, ap_mV, ap_mN, ap_dAsg, ap_dPar, ap_dPar3, ap_dApp, ap_dExt, ap_dNo, ap_dSome, ap_asInt, ap_dSl, getV_zero, getV_succ, getB_zero, getB_zeroO, getB_succ, ownL_zero, ownL_succ, tgName_ap, forT_nil, ret_bind, fail_bind, exc_bind, bind_assoc', add_ii, sub_ii, lt_ii, le_ii, gt_ii, ge_ii, eq_ii, ne_ii, abs_i, int_i, int_b, len_l, len_t, items_l, items_t, truth_b, asObj_self, List.set_cons_succ, List.set_cons_zero, if_true, if_false, Bool.false_eq_true, Bool.not_true, Bool.not_false, sI]
        | true =>
          rw [hI] at sI
          cases s with
          | int i =>
            have hs : ¬ ((0 ≤ i) ∧ i < 9) := fun z => hs (by
              show (decide (0 ≤ i) && decide (i < 9)) = true
              rw [decide_eq_true z.1, decide_eq_true z.2]; rfl)
            by_cases h0 : i < 0
            · try simp only [ap_cst, ap_gV, ap_gB, ap_dLst, ap_dNil, ap_dCons, ap_dTup, ap_dB, ap_dBl, ap_dU, ap_dC, ap_dCK, ap_dNot, ap_dAnd, ap_dOr, ap_dAndV, ap_dOrV, ap_dNotV, ap_dIf, ap_dSeq, ap_dSkip, ap_dF, ap_dRet, ap_dRetN, ap_dSet, ap_dOwn, ap_dDrop, ap_dFor, ap_dComp, ap_dBrk, ap_dCnt, ap_dParM, ap_mNil, ap_mV, ap_mN, ap_dAsg, ap_dPar, ap_dPar3, ap_dApp, ap_dExt, ap_dNo, ap_dSome, ap_asInt, ap_dSl, getV_zero, getV_succ, getB_zero, getB_zeroO, getB_succ, ownL_zero, ownL_succ, tgName_ap, forT_nil, ret_bind, fail_bind, exc_bind, bind_assoc', add_ii, sub_ii, lt_ii, le_ii, gt_ii, ge_ii, eq_ii, ne_ii, abs_i, int_i, int_b, len_l, len_t, items_l, items_t, truth_b, asObj_self, List.set_cons_succ, List.set_cons_zero, if_true, if_false, Bool.false_eq_true, Bool.not_true, Bool.not_false, sI, decide_eq_true h0]
            · have h8 : (8 : Int) < i := by omega
              try simp only [ap_cst, ap_gV, ap_gB, ap_dLst, ap_dNil, ap_dCons, ap_dTup, ap_dB, ap_dBl, ap_dU, ap_dC, ap_dCK, ap_dNot, ap_dAnd, ap_dOr, ap_dAndV, ap_dOrV, ap_dNotV, ap_dIf, ap_dSeq, ap_dSkip, ap_dF, ap_dRet, ap_dRetN, ap_dSet, ap_dOwn, ap_dDrop, ap_dFor, ap_dComp, ap_dBrk, ap_dCnt, ap_dParM, ap_mNil, ap_mV, ap_mN, ap_dAsg, ap_dPar, ap_dPar3, ap_dApp, ap_dExt, ap_dNo, ap_dSome, ap_asInt, ap_dSl, getV_zero, getV_succ, getB_zero, getB_zeroO, getB_succ, ownL_zero, ownL_succ, tgName_ap, forT_nil, ret_bind, fail_bind, exc_bind, bind_assoc', add_ii, sub_ii, lt_ii, le_ii, gt_ii, ge_ii, eq_ii, ne_ii, abs_i, int_i, int_b, len_l, len_t, items_l, items_t, truth_b, asObj_self, List.set_cons_succ, List.set_cons_zero, if_true, if_false, Bool.false_eq_true, Bool.not_true, Bool.not_false, sI, decide_eq_false h0, decide_eq_true h8]
          | _ => cases hI
    · have hX : flatX (.tup [b, s, r]) = .str "prime" := by
        show restX _ _ _ = _
        unfold restX
        rw [if_neg hp]
      rw [hX]
      refine seq_rt ?_
      cases hI : isInt b with
      | false =>
        rw [hI] at bI
        try simp only [ap_cst, ap_gV, ap_gB, ap_dLst, ap_dNil, ap_dCons, ap_dTup, ap_dB, ap_dBl, ap_dU, ap_dC, ap_dCK, ap_dNot, ap_dAnd, ap_dOr, ap_dAndV, ap_dOrV, ap_dNotV, ap_dIf, ap_dSeq, ap_dSkip, ap_dF, ap_dRet, ap_dRetN, ap_dSet, ap_dOwn, ap_dDrop, ap_dFor, ap_dComp, ap_dBrk, ap_dCnt, ap_dParM, ap_mNil, ap_mV, ap_mN, ap_dAsg, ap_dPar, ap_dPar3, ap_dApp, ap_dExt, ap_dNo, ap_dSome, ap_asInt, ap_dSl, getV_zero, getV_succ, getB_zero, getB_zeroO, getB_succ, ownL_zero, ownL_succ, tgName_ap, forT_nil, ret_bind, fail_bind, exc_bind, bind_assoc', add_ii, sub_ii, lt_ii, le_ii, gt_ii, ge_ii, eq_ii, ne_ii, abs_i, int_i, int_b, len_l, len_t, items_l, items_t, truth_b, asObj_self, List.set_cons_succ, List.set_cons_zero, if_true, if_false, Bool.false_eq_true, Bool.not_true, Bool.not_false, bI]
      | true =>
        rw [hI] at bI
        cases b with
        | int i =>
          have hin := prime_in i
          rw [show primeB (.int i) = false by simpa using hp] at hin
          try simp only [ap_cst, ap_gV, ap_gB, ap_dLst, ap_dNil, ap_dCons, ap_dTup, ap_dB, ap_dBl, ap_dU, ap_dC, ap_dCK, ap_dNot, ap_dAnd, ap_dOr, ap_dAndV, ap_dOrV, ap_dNotV, ap_dIf, ap_dSeq, ap_dSkip, ap_dF, ap_dRet, ap_dRetN, ap_dSet, ap_dOwn, ap_dDrop, ap_dFor, ap_dComp, ap_dBrk, ap_dCnt, ap_dParM, ap_mNil, ap_mV, ap_mN, ap_dAsg, ap_dPar, ap_dPar3, ap_dApp, ap_dExt, ap_dNo, ap_dSome, ap_asInt, ap_dSl, getV_zero, getV_succ, getB_zero, getB_zeroO, getB_succ, ownL_zero, ownL_succ, tgName_ap, forT_nil, ret_bind, fail_bind, exc_bind, bind_assoc', add_ii, sub_ii, lt_ii, le_ii, gt_ii, ge_ii, eq_ii, ne_ii, abs_i, int_i, int_b, len_l, len_t, items_l, items_t, truth_b, asObj_self, List.set_cons_succ, List.set_cons_zero, if_true, if_false, Bool.false_eq_true, Bool.not_true, Bool.not_false, bI, hin]
        | _ => cases hI
  · have hX : flatX d = .str "prime" := by
      unfold flatX
      split
      · exact absurd ⟨_, _, _, rfl⟩ ht
      · rfl
    rw [hX]
    refine seq_rt ?_
    cases d with
    | tup l =>
      have h3 : decide ((l.length : Int) = 3) = false := by
        refine decide_eq_false fun h => ht ?_
        match l, h with
        | [a, b, c], _ => exact ⟨a, b, c, rfl⟩
      try simp only [ap_cst, ap_gV, ap_gB, ap_dLst, ap_dNil, ap_dCons, ap_dTup, ap_dB, ap_dBl, ap_dU, ap_dC, ap_dCK, ap_dNot, ap_dAnd, ap_dOr, ap_dAndV, ap_dOrV, ap_dNotV, ap_dIf, ap_dSeq, ap_dSkip, ap_dF, ap_dRet, ap_dRetN, ap_dSet, ap_dOwn, ap_dDrop, ap_dFor, ap_dComp, ap_dBrk, ap_dCnt, ap_dParM, ap_mNil, ap_mV, ap_mN, ap_dAsg, ap_dPar, ap_dPar3, ap_dApp, ap_dExt, ap_dNo, ap_dSome, ap_asInt, ap_dSl, getV_zero, getV_succ, getB_zero, getB_zeroO, getB_succ, ownL_zero, ownL_succ, tgName_ap, forT_nil, ret_bind, fail_bind, exc_bind, bind_assoc', add_ii, sub_ii, lt_ii, le_ii, gt_ii, ge_ii, eq_ii, ne_ii, abs_i, int_i, int_b, len_l, len_t, items_l, items_t, truth_b, asObj_self, List.set_cons_succ, List.set_cons_zero, if_true, if_false, Bool.false_eq_true, Bool.not_true, Bool.not_false, hi, isTup, h3]
    | obj a => cases hf
    | _ => try simp only [ap_cst, ap_gV, ap_gB, ap_dLst, ap_dNil, ap_dCons, ap_dTup, ap_dB, ap_dBl, ap_dU, ap_dC, ap_dCK, ap_dNot, ap_dAnd, ap_dOr, ap_dAndV, ap_dOrV, ap_dNotV, ap_dIf, ap_dSeq, ap_dSkip, ap_dF, ap_dRet, ap_dRetN, ap_dSet, ap_dOwn, ap_dDrop, ap_dFor, ap_dComp, ap_dBrk, ap_dCnt, ap_dParM, ap_mNil, ap_mV, ap_mN, ap_dAsg, ap_dPar, ap_dPar3, ap_dApp, ap_dExt, ap_dNo, ap_dSome, ap_asInt, ap_dSl, getV_zero, getV_succ, getB_zero, getB_zeroO, getB_succ, ownL_zero, ownL_succ, tgName_ap, forT_nil, ret_bind, fail_bind, exc_bind, bind_assoc', add_ii, sub_ii, lt_ii, le_ii, gt_ii, ge_ii, eq_ii, ne_ii, abs_i, int_i, int_b, len_l, len_t, items_l, items_t, truth_b, asObj_self, List.set_cons_succ, List.set_cons_zero, if_true, if_false, Bool.false_eq_true, Bool.not_true, Bool.not_false, hi, isTup]
end Law

namespace Law
open PySem PySem.Spec PyProof.Rows L2 Eng
/-- short to show -/
def Short (e : D) : Prop := e.fit = true ∧ e.rz ≤ 5000 ∧ e.dep ≤ 1
theorem short_int {i : Int} (h0 : 0 ≤ i) (h : i ≤ 2000000) : (D.int i).fit = true := by
  show decide (i.natAbs.log2 < 1920) = true
  refine decide_eq_true ?_
  have h1 : i.natAbs ≤ 2000000 := by omega
  by_cases hz : i.natAbs = 0
  · rw [hz]; decide
  · have h2 : i.natAbs.log2 < 21 := (Nat.log2_lt hz).mpr (by omega)
    omega
theorem short_i {i : Nat} (h : i ≤ 1000000) : Short (.int (i : Int)) := ⟨short_int (by omega) (by omega), by show 1921 ≤ 5000; decide, by show 0 ≤ 1; decide⟩
theorem short_one {i : Nat} (h : i ≤ 1000000) : Short (errOne i) := by
  refine ⟨?_, by show (D.str "one").rz + 2 + (1921 + 2 + 0) + 4 ≤ 5000; decide, by show max 0 (max 0 0) + 1 ≤ 1; decide⟩
  show ((D.str "one").fit && ((D.int (i : Int)).fit && true)) = true
  rw [short_int (by omega) (by omega)]; decide
theorem short_st {i : Nat} (h : i ≤ 1000000) : Short (errSt i) := by
  refine ⟨?_, by show (D.str "stairs").rz + 2 + (1921 + 2 + 0) + 4 ≤ 5000; decide, by show max 0 (max 0 0) + 1 ≤ 1; decide⟩
  show ((D.str "stairs").fit && ((D.int (1 + (i : Int))).fit && true)) = true
  rw [short_int (by omega) (by omega)]; decide
theorem short_cl {i k : Nat} (h : i ≤ 1000000) (g : k ≤ 1000000) : Short (errCl i k) := by
  refine ⟨?_, by show 1921 + 2 + (1921 + 2 + 0) + 4 ≤ 5000; decide, by show max 0 (max 0 0) + 1 ≤ 1; decide⟩
  show ((D.int (i : Int)).fit && ((D.int (k : Int)).fit && true)) = true
  rw [short_int (by omega) (by omega), short_int (by omega) (by omega)]; rfl
theorem zipIdx_le {α : Type} {l : List α} {x : α × Nat} (h : x ∈ l.zipIdx) : x.2 < l.length := (List.getElem?_eq_some_iff.mp (zipIdx_mem h).1).1
theorem short_stairs {rs : List D} (hl : rs.length ≤ 1000000) : Short (resD (stairsF rs)) := by
  unfold stairsF
  cases h1 : rs.zipIdx.findSome? oneN with
  | some e =>
    obtain ⟨x, hx, he⟩ := List.exists_of_findSome?_eq_some h1
    have hi := zipIdx_le hx
    unfold oneN at he
    split at he
    · cases he; exact short_one (by omega)
    · split at he
      · cases he
      · cases he; exact short_one (by omega)
  | none =>
    cases h2 : (List.range (rs.length - 1)).findSome? (stF (jsOf rs)) with
    | some e =>
      obtain ⟨x, hx, he⟩ := List.exists_of_findSome?_eq_some h2
      have hi := List.mem_range.mp hx
      unfold stF at he
      split at he
      · cases he; exact short_st (by omega)
      · cases he
    | none =>
      cases h3 : (jsOf rs).zipIdx.findSome? (clF rs) with
      | some e =>
        obtain ⟨x, hx, he⟩ := List.exists_of_findSome?_eq_some h3
        have hi := zipIdx_le hx
        unfold jsOf at hi
        rw [List.length_map] at hi
        obtain ⟨y, hy, hf⟩ := List.exists_of_findSome?_eq_some (show rs.zipIdx.findSome? (clI x.1 x.2) = some e from he)
        have hk := zipIdx_le hy
        unfold clI at hf
        split at hf
        · cases hf
        · cases hf; exact short_cl (by omega) (by omega)
      | none => exact ⟨rfl, by decide, by decide⟩
theorem short_flat (d : D) (hlen : ∀ b s rs, d = .tup [b, s, .tup rs] → rs.length ≤ 1000000) : Short (flatX d) := by
  have hs : ∀ w ∈ (["prime", "ends", "rows"] : List Str), Short (.str w) := fun w hw => by
    have h : ∀ w ∈ (["prime", "ends", "rows"] : List Str), (D.str w).fit = true ∧ (D.str w).rz ≤ 5000 ∧ (D.str w).dep ≤ 1 := by decide +kernel
    exact h w hw
  unfold flatX
  split
  · rename_i b s r
    unfold restX
    split
    · split
      · unfold lotX
        split
        · rename_i rs
          have hl := hlen b s rs rfl
          cases hq : rs.zipIdx.findSome? (rowN (toI b) (toI s)) with
          | some e =>
            obtain ⟨x, hx, he⟩ := List.exists_of_findSome?_eq_some hq
            have hi := zipIdx_le hx
            unfold rowN at he
            split at he
            · cases he
            · cases he; exact short_i (by omega)
          | none => exact short_stairs hl
        · exact hs _ (by simp)
      · exact hs _ (by simp)
    · exact hs _ (by simp)
  · exact hs _ (by simp)
mutual
theorem fit_fit3 : ∀ d : D, d.fit = true → d.fit3 = true ∧ d.rz3 = d.rz ∧ d.dep3 = d.dep
  | .non, h => ⟨h, rfl, rfl⟩
  | .bl _, h => ⟨h, rfl, rfl⟩
  | .int _, h => ⟨h, rfl, rfl⟩
  | .str _, h => ⟨h, rfl, rfl⟩
  | .lst l, h => by
    obtain ⟨a, b, c⟩ := fitAll_fit3 l h
    exact ⟨a, by show rz3All l + 4 = rzAll l + 4; rw [b], by show dep3All l + 1 = depAll l + 1; rw [c]⟩
  | .tup l, h => by
    obtain ⟨a, b, c⟩ := fitAll_fit3 l h
    exact ⟨a, by show rz3All l + 4 = rzAll l + 4; rw [b], by show dep3All l + 1 = depAll l + 1; rw [c]⟩
  | .dct _ _, h => by cases h
  | .obj _, h => by cases h
theorem fitAll_fit3 : ∀ l : List D, fitAll l = true → fit3All l = true ∧ rz3All l = rzAll l ∧ dep3All l = depAll l
  | [], _ => ⟨rfl, rfl, rfl⟩
  | d :: r, h => by
    obtain ⟨h1, h2⟩ := Bool.and_eq_true_iff.mp (show (d.fit && fitAll r) = true from h)
    obtain ⟨a, b, c⟩ := fit_fit3 d h1
    obtain ⟨a2, b2, c2⟩ := fitAll_fit3 r h2
    refine ⟨?_, ?_, ?_⟩
    · show (d.fit3 && fit3All r) = true
      rw [a, a2]; rfl
    · show d.rz3 + 2 + rz3All r = d.rz + 2 + rzAll r
      rw [b, b2]
    · show max d.dep3 (dep3All r) = max d.dep (depAll r)
      rw [c, c2]
end
theorem len_rz3 : ∀ l : List D, l.length ≤ rz3All l
  | [] => Nat.le_refl _
  | d :: r => by
    have := len_rz3 r
    show r.length + 1 ≤ d.rz3 + 2 + rz3All r
    omega
/-- known, and short enough to be shown -/
structure Kn (d : D) : Prop where
  ft : d.fit3 = true
  rz : d.rz3 ≤ 1000000
  dp : d.dep3 ≤ 60
theorem Kn.len {d : D} (h : Kn d) : ∀ b s rs, d = .tup [b, s, .tup rs] → rs.length ≤ 1000000 := by
  rintro b s rs rfl
  have h1 := h.rz
  have h2 := len_rz3 rs
  have h3 : (D.tup [b, s, .tup rs]).rz3 = b.rz3 + 2 + (s.rz3 + 2 + ((rz3All rs + 4) + 2 + 0)) + 4 := rfl
  omega
theorem told_eq (d : D) (h : Kn d) : t_l_is_told [d] = T.ret (.bl true) := by
  have e0 : startE 4 [d] = [.val d, .un, .un, .un] := rfl
  have h1 := repr_fit3 h.ft (Nat.le_trans h.rz (by decide)) (Nat.le_trans h.dp (by decide))
  have h2 := flat_error_eq d h.ft h.len
  have h3 := due_eq d h.ft h.len
  obtain ⟨f1, f2, f3⟩ := short_flat d h.len
  have h4 : reprD3 [.lst [flatX d, flatX d, flatX d]] = T.ret (.str (D.lst [flatX d, flatX d, flatX d]).py3.shown) := by
    obtain ⟨a, b, c⟩ := fit_fit3 _ f1
    refine repr_fit3 ?_ ?_ ?_
    · show ((flatX d).fit3 && ((flatX d).fit3 && ((flatX d).fit3 && true))) = true
      rw [a]; rfl
    · show (flatX d).rz3 + 2 + ((flatX d).rz3 + 2 + ((flatX d).rz3 + 2 + 0)) + 4 ≤ _
      omega
    · show max (flatX d).dep3 (max (flatX d).dep3 (max (flatX d).dep3 0)) + 1 ≤ _
      omega
  unfold t_l_is_told bodyT b_l_is_told
  rw [e0]
  have hk : pick [0] ([] ++ [d]) = [d] := rfl
  try simp only [ap_cst, ap_gV, ap_gB, ap_dLst, ap_dNil, ap_dCons, ap_dTup, ap_dB, ap_dBl, ap_dU, ap_dC, ap_dCK, ap_dNot, ap_dAnd, ap_dOr, ap_dAndV, ap_dOrV, ap_dNotV, ap_dIf, ap_dSeq, ap_dSkip, ap_dF, ap_dRet, ap_dRetN, ap_dSet, ap_dOwn, ap_dDrop, ap_dFor, ap_dComp, ap_dBrk, ap_dCnt, ap_dParM, ap_mNil, ap_mV, ap_mN, ap_dAsg, ap_dPar, ap_dPar3, ap_dApp, ap_dExt, ap_dNo, ap_dSome, ap_asInt, ap_dSl, getV_zero, getV_succ, getB_zero, getB_zeroO, getB_succ, ownL_zero, ownL_succ, tgName_ap, forT_nil, ret_bind, fail_bind, exc_bind, bind_assoc', add_ii, sub_ii, lt_ii, le_ii, gt_ii, ge_ii, eq_ii, ne_ii, abs_i, int_i, int_b, len_l, len_t, items_l, items_t, truth_b, asObj_self, List.set_cons_succ, List.set_cons_zero, if_true, if_false, Bool.false_eq_true, Bool.not_true, Bool.not_false, h1, h2, h3, h4, hk, eq_ss, decide_true]
end Law

namespace Law
open PySem PySem.Spec PyProof.Rows L2 Eng
variable {E : Str → List D → Prop}
theorem pick_wp {a0 : Addr} {l : List D} {Q : D → Prop} (h0 : l ≠ []) (h1 : l.length < 1000000) (h : ∀ d ∈ l, Q d) : wq (t_l_pick a0 [.obj a0, .lst l]) Q E := by
  unfold t_l_pick bodyT b_l_pick
  have e0 : startE 2 [.obj a0, .lst l] = [.val (.obj a0), .val (.lst l)] := rfl
  rw [e0]
  simp only [ap_dRet, ap_dB, ap_gV, ap_dC, ap_dCons, ap_dNil, getV_zero, getV_succ, ret_bind, len_l, bind_assoc']
  refine wq_bind.mpr (wq_draw ?_ ?_ fun i hi => ?_)
  · have := List.length_pos_iff.mpr h0; omega
  · omega
  · have hi' : i < l.length := by omega
    have e : ixD (.lst l) (.int (i : Int)) = T.ret l[i] := d_nthL (List.getElem?_eq_getElem hi')
    simp [e]
    exact h _ (List.getElem_mem hi')
/-- known, of size z and depth m -/
def Kz (m z : Nat) (d : D) : Prop := d.fit3 = true ∧ d.rz3 ≤ z ∧ d.dep3 ≤ m
theorem Kz.mono {m m' z z' : Nat} {d : D} (h : Kz m z d) (h1 : m ≤ m') (h2 : z ≤ z') : Kz m' z' d := ⟨h.1, Nat.le_trans h.2.1 h2, Nat.le_trans h.2.2 h1⟩
theorem Kz.kn {m z : Nat} {d : D} (h : Kz m z d) (hm : m ≤ 60) (hz : z ≤ 1000000) : Kn d := ⟨h.1, Nat.le_trans h.2.1 hz, Nat.le_trans h.2.2 hm⟩
def chkK (m z : Nat) (d : D) : Bool := d.fit3 && (decide (d.rz3 ≤ z) && decide (d.dep3 ≤ m))
theorem chk_kz {m z : Nat} {d : D} (h : chkK m z d = true) : Kz m z d := by
  obtain ⟨h1, h2⟩ := Bool.and_eq_true_iff.mp h
  obtain ⟨h3, h4⟩ := Bool.and_eq_true_iff.mp h2
  exact ⟨h1, of_decide_eq_true h3, of_decide_eq_true h4⟩
def oddL : List D := [.non, .bl true, .bl false, .str "1", .str "", .int (-1), .int (10 ^ 30), .int (0 - 10 ^ 30), .tup [.int 1], .lst [.int 0], .dct [] [], .dct [.inr "rows"] [.tup []], .tup [.tup []], .int 7, .lst [], .str "wire"]
theorem odd_ok : oddL.all (chkK 3 2000) = true := by decide +kernel
theorem pow30 : powD (.int 10) (.int 30) = T.ret (.int (10 ^ 30)) := by rfl
theorem odd_wq (a0 : Addr) : wq (t_l_odd a0 [.obj a0]) (Kz 3 2000) E := by
  unfold t_l_odd
  refine wq_body ?_
  have e0 : startE 2 [.obj a0] = [.val (.obj a0), .un] := rfl
  rw [e0]
  unfold b_l_odd
  refine wq_seq (fun e => ∃ l, e = [.val (.obj a0), .val (.lst l)] ∧ l = oddL) (by
    have hd : ∀ env : Eng.Env, dDct [] env = T.ret (.dct [] []) := fun _ => rfl
    have hd2 : ∀ env : Eng.Env, dDct [(.inr "rows", (dTup dNil))] env = T.ret (.dct [.inr "rows"] [.tup []]) := fun _ => rfl
    try simp only [ap_cst, ap_gV, ap_gB, ap_dLst, ap_dNil, ap_dCons, ap_dTup, ap_dB, ap_dBl, ap_dU, ap_dC, ap_dCK, ap_dNot, ap_dAnd, ap_dOr, ap_dAndV, ap_dOrV, ap_dNotV, ap_dIf, ap_dSeq, ap_dSkip, ap_dF, ap_dRet, ap_dRetN, ap_dSet, ap_dOwn, ap_dDrop, ap_dFor, ap_dComp, ap_dBrk, ap_dCnt, ap_dParM, ap_mNil, ap_mV, ap_mN, ap_dAsg, ap_dPar, ap_dPar3, ap_dApp, ap_dExt, ap_dNo, ap_dSome, ap_asInt, ap_dSl, getV_zero, getV_succ, getB_zero, getB_zeroO, getB_succ, ownL_zero, ownL_succ, tgName_ap, forT_nil, ret_bind, fail_bind, exc_bind, bind_assoc', add_ii, sub_ii, lt_ii, le_ii, gt_ii, ge_ii, eq_ii, ne_ii, abs_i, int_i, int_b, len_l, len_t, items_l, items_t, truth_b, asObj_self, List.set_cons_succ, List.set_cons_zero, if_true, if_false, Bool.false_eq_true, Bool.not_true, Bool.not_false, pow30, neg_1, hd, hd2]
    rw [wq_ret]
    exact ⟨_, rfl, rfl⟩) fun e he => ?_
  obtain ⟨l, rfl, rfl⟩ := he
  try simp only [ap_cst, ap_gV, ap_gB, ap_dLst, ap_dNil, ap_dCons, ap_dTup, ap_dB, ap_dBl, ap_dU, ap_dC, ap_dCK, ap_dNot, ap_dAnd, ap_dOr, ap_dAndV, ap_dOrV, ap_dNotV, ap_dIf, ap_dSeq, ap_dSkip, ap_dF, ap_dRet, ap_dRetN, ap_dSet, ap_dOwn, ap_dDrop, ap_dFor, ap_dComp, ap_dBrk, ap_dCnt, ap_dParM, ap_mNil, ap_mV, ap_mN, ap_dAsg, ap_dPar, ap_dPar3, ap_dApp, ap_dExt, ap_dNo, ap_dSome, ap_asInt, ap_dSl, getV_zero, getV_succ, getB_zero, getB_zeroO, getB_succ, ownL_zero, ownL_succ, tgName_ap, forT_nil, ret_bind, fail_bind, exc_bind, bind_assoc', add_ii, sub_ii, lt_ii, le_ii, gt_ii, ge_ii, eq_ii, ne_ii, abs_i, int_i, int_b, len_l, len_t, items_l, items_t, truth_b, asObj_self, List.set_cons_succ, List.set_cons_zero, if_true, if_false, Bool.false_eq_true, Bool.not_true, Bool.not_false]
  refine wq_use (pick_wp (Q := Kz 3 2000) (by decide) (by decide) fun d hd => chk_kz (List.all_eq_true.mp odd_ok d hd)) fun d hd => by rw [wq_ret]; exact hd
end Law

namespace Law
open PySem PySem.Spec PyProof.Rows L2 Eng
variable {E : Str → List D → Prop}
inductive All2 {α β : Type} (R : α → β → Prop) : List α → List β → Prop
  | nil : All2 R [] []
  | cons {a : α} {b : β} {l : List α} {m : List β} : R a b → All2 R l m → All2 R (a :: l) (b :: m)
theorem All2.len {α β : Type} {R : α → β → Prop} : ∀ {l : List α} {m : List β}, All2 R l m → m.length = l.length
  | _, _, .nil => rfl
  | _, _, .cons _ h => congrArg Nat.succ h.len
theorem All2.all {α β : Type} {P : β → Prop} : ∀ {l : List α} {m : List β}, All2 (fun _ b => P b) l m → ∀ b ∈ m, P b
  | _, _, .nil, b, h => by cases h
  | _, _, .cons h r, b, hb => by
    rcases List.mem_cons.mp hb with rfl | hb
    · exact h
    · exact r.all b hb
theorem wq_compT {α β γ : Type} (e : α → D) (y : β → γ) (R : α → β → Prop) {f : D → Eng.Env → Option Eng.Env} {t : Eng.Env → T Bool} {w : Eng.Env → T γ} {env : Eng.Env} : ∀ (l : List α), (∀ a, a ∈ l → ∃ env1, f (e a) env = some env1 ∧ t env1 = T.ret true ∧ wq (w env1) (fun d => ∃ b, d = y b ∧ R a b) E) →
    wq (compT f t w env (l.map e)) (fun ys => ∃ us, ys = us.map y ∧ All2 R l us) E
  | [], _ => by
    show wq (T.ret []) _ _
    rw [wq_ret]
    exact ⟨[], rfl, .nil⟩
  | a :: r, h => by
    obtain ⟨e1, h1, h2, h3⟩ := h a (by simp)
    have ih := wq_compT e y R (f := f) (t := t) (w := w) (env := env) r fun d hd => h d (by simp [hd])
    show wq (match f (e a) env with
    | none => T.fail
    | some env1 => t env1 >>= fun b => if b = true then (w env1 >>= fun y => compT f t w env (r.map e) >>= fun ys => T.ret (y :: ys)) else compT f t w env (r.map e)) _ _
    rw [h1]
    show wq (t e1 >>= _) _ _
    rw [h2, ret_bind, if_pos rfl]
    refine wq_use h3 fun d hd => wq_use ih fun ys hys => ?_
    obtain ⟨b, rfl, hb⟩ := hd
    obtain ⟨us, rfl, hu⟩ := hys
    rw [wq_ret]
    exact ⟨b :: us, rfl, .cons hb hu⟩
/-- a row of n numbers below p -/
def RowD (p n : Nat) (d : D) : Prop := ∃ l : List Nat, d = .tup (l.map fun (i : Nat) => D.int (i : Int)) ∧ l.length = n ∧ ∀ i ∈ l, i < p
theorem drawn_wq (a0 : Addr) (p n : Nat) (hp : 1 ≤ p) (hp9 : p ≤ 1000) (hn : n ≤ 1000) : wq (t_l_drawn a0 [.obj a0, .int (p : Int), .int (n : Int)]) (RowD p n) E := by
  unfold t_l_drawn
  refine wq_body ?_
  have e0 : startE 4 [.obj a0, .int (p : Int), .int (n : Int)] = [.val (.obj a0), .val (.int (p : Int)), .val (.int (n : Int)), .un] := rfl
  rw [e0]
  unfold b_l_drawn
  have hr := range1_nat n (by omega)
  try simp only [ap_cst, ap_gV, ap_gB, ap_dLst, ap_dNil, ap_dCons, ap_dTup, ap_dB, ap_dBl, ap_dU, ap_dC, ap_dCK, ap_dNot, ap_dAnd, ap_dOr, ap_dAndV, ap_dOrV, ap_dNotV, ap_dIf, ap_dSeq, ap_dSkip, ap_dF, ap_dRet, ap_dRetN, ap_dSet, ap_dOwn, ap_dDrop, ap_dFor, ap_dComp, ap_dBrk, ap_dCnt, ap_dParM, ap_mNil, ap_mV, ap_mN, ap_dAsg, ap_dPar, ap_dPar3, ap_dApp, ap_dExt, ap_dNo, ap_dSome, ap_asInt, ap_dSl, getV_zero, getV_succ, getB_zero, getB_zeroO, getB_succ, ownL_zero, ownL_succ, tgName_ap, forT_nil, ret_bind, fail_bind, exc_bind, bind_assoc', add_ii, sub_ii, lt_ii, le_ii, gt_ii, ge_ii, eq_ii, ne_ii, abs_i, int_i, int_b, len_l, len_t, items_l, items_t, truth_b, asObj_self, List.set_cons_succ, List.set_cons_zero, if_true, if_false, Bool.false_eq_true, Bool.not_true, Bool.not_false, hr]
  have hrm : rangeD 0 n = (List.range n).map fun (i : Nat) => D.int (i : Int) := range_map n
  rw [hrm]
  refine wq_use (wq_compT (fun i : Nat => D.int (i : Int)) (fun i : Nat => D.int (i : Int)) (fun _ k => k < p) (List.range n) fun i hi => ⟨[.val (.obj a0), .val (.int (p : Int)), .val (.int (n : Int)), .val (.int (i : Int))], rfl, rfl, ?_⟩) fun ys hys => ?_
  · rw [ap_dIf]
    try simp only [ap_cst, ap_gV, ap_gB, ap_dLst, ap_dNil, ap_dCons, ap_dTup, ap_dB, ap_dBl, ap_dU, ap_dC, ap_dCK, ap_dNot, ap_dAnd, ap_dOr, ap_dAndV, ap_dOrV, ap_dNotV, ap_dIf, ap_dSeq, ap_dSkip, ap_dF, ap_dRet, ap_dRetN, ap_dSet, ap_dOwn, ap_dDrop, ap_dFor, ap_dComp, ap_dBrk, ap_dCnt, ap_dParM, ap_mNil, ap_mV, ap_mN, ap_dAsg, ap_dPar, ap_dPar3, ap_dApp, ap_dExt, ap_dNo, ap_dSome, ap_asInt, ap_dSl, getV_zero, getV_succ, getB_zero, getB_zeroO, getB_succ, ownL_zero, ownL_succ, tgName_ap, forT_nil, ret_bind, fail_bind, exc_bind, bind_assoc', add_ii, sub_ii, lt_ii, le_ii, gt_ii, ge_ii, eq_ii, ne_ii, abs_i, int_i, int_b, len_l, len_t, items_l, items_t, truth_b, asObj_self, List.set_cons_succ, List.set_cons_zero, if_true, if_false, Bool.false_eq_true, Bool.not_true, Bool.not_false]
    refine wq_drawN (by decide) (by decide) fun j hj => ?_
    try simp only [ap_cst, ap_gV, ap_gB, ap_dLst, ap_dNil, ap_dCons, ap_dTup, ap_dB, ap_dBl, ap_dU, ap_dC, ap_dCK, ap_dNot, ap_dAnd, ap_dOr, ap_dAndV, ap_dOrV, ap_dNotV, ap_dIf, ap_dSeq, ap_dSkip, ap_dF, ap_dRet, ap_dRetN, ap_dSet, ap_dOwn, ap_dDrop, ap_dFor, ap_dComp, ap_dBrk, ap_dCnt, ap_dParM, ap_mNil, ap_mV, ap_mN, ap_dAsg, ap_dPar, ap_dPar3, ap_dApp, ap_dExt, ap_dNo, ap_dSome, ap_asInt, ap_dSl, getV_zero, getV_succ, getB_zero, getB_zeroO, getB_succ, ownL_zero, ownL_succ, tgName_ap, forT_nil, ret_bind, fail_bind, exc_bind, bind_assoc', add_ii, sub_ii, lt_ii, le_ii, gt_ii, ge_ii, eq_ii, ne_ii, abs_i, int_i, int_b, len_l, len_t, items_l, items_t, truth_b, asObj_self, List.set_cons_succ, List.set_cons_zero, if_true, if_false, Bool.false_eq_true, Bool.not_true, Bool.not_false]
    by_cases h0 : (0 : Int) < (j : Int)
    · try simp only [ap_cst, ap_gV, ap_gB, ap_dLst, ap_dNil, ap_dCons, ap_dTup, ap_dB, ap_dBl, ap_dU, ap_dC, ap_dCK, ap_dNot, ap_dAnd, ap_dOr, ap_dAndV, ap_dOrV, ap_dNotV, ap_dIf, ap_dSeq, ap_dSkip, ap_dF, ap_dRet, ap_dRetN, ap_dSet, ap_dOwn, ap_dDrop, ap_dFor, ap_dComp, ap_dBrk, ap_dCnt, ap_dParM, ap_mNil, ap_mV, ap_mN, ap_dAsg, ap_dPar, ap_dPar3, ap_dApp, ap_dExt, ap_dNo, ap_dSome, ap_asInt, ap_dSl, getV_zero, getV_succ, getB_zero, getB_zeroO, getB_succ, ownL_zero, ownL_succ, tgName_ap, forT_nil, ret_bind, fail_bind, exc_bind, bind_assoc', add_ii, sub_ii, lt_ii, le_ii, gt_ii, ge_ii, eq_ii, ne_ii, abs_i, int_i, int_b, len_l, len_t, items_l, items_t, truth_b, asObj_self, List.set_cons_succ, List.set_cons_zero, if_true, if_false, Bool.false_eq_true, Bool.not_true, Bool.not_false, decide_eq_true h0]
      refine wq_imp (wq_draw (Q := fun d => ∃ k : Nat, k < p ∧ d = .int (k : Int)) (by omega) (by omega) fun k hk => ⟨k, by omega, rfl⟩) fun d hd => ?_
      obtain ⟨k, hk, rfl⟩ := hd
      exact ⟨k, rfl, hk⟩
    · try simp only [ap_cst, ap_gV, ap_gB, ap_dLst, ap_dNil, ap_dCons, ap_dTup, ap_dB, ap_dBl, ap_dU, ap_dC, ap_dCK, ap_dNot, ap_dAnd, ap_dOr, ap_dAndV, ap_dOrV, ap_dNotV, ap_dIf, ap_dSeq, ap_dSkip, ap_dF, ap_dRet, ap_dRetN, ap_dSet, ap_dOwn, ap_dDrop, ap_dFor, ap_dComp, ap_dBrk, ap_dCnt, ap_dParM, ap_mNil, ap_mV, ap_mN, ap_dAsg, ap_dPar, ap_dPar3, ap_dApp, ap_dExt, ap_dNo, ap_dSome, ap_asInt, ap_dSl, getV_zero, getV_succ, getB_zero, getB_zeroO, getB_succ, ownL_zero, ownL_succ, tgName_ap, forT_nil, ret_bind, fail_bind, exc_bind, bind_assoc', add_ii, sub_ii, lt_ii, le_ii, gt_ii, ge_ii, eq_ii, ne_ii, abs_i, int_i, int_b, len_l, len_t, items_l, items_t, truth_b, asObj_self, List.set_cons_succ, List.set_cons_zero, if_true, if_false, Bool.false_eq_true, Bool.not_true, Bool.not_false, decide_eq_false h0]
      rw [wq_ret]
      exact ⟨0, rfl, by omega⟩
  · obtain ⟨us, rfl, hu⟩ := hys
    have ht : tupleD [.lst (us.map fun (i : Nat) => D.int (i : Int))] = T.ret (.tup (us.map fun (i : Nat) => D.int (i : Int))) := rfl
    try simp only [ap_cst, ap_gV, ap_gB, ap_dLst, ap_dNil, ap_dCons, ap_dTup, ap_dB, ap_dBl, ap_dU, ap_dC, ap_dCK, ap_dNot, ap_dAnd, ap_dOr, ap_dAndV, ap_dOrV, ap_dNotV, ap_dIf, ap_dSeq, ap_dSkip, ap_dF, ap_dRet, ap_dRetN, ap_dSet, ap_dOwn, ap_dDrop, ap_dFor, ap_dComp, ap_dBrk, ap_dCnt, ap_dParM, ap_mNil, ap_mV, ap_mN, ap_dAsg, ap_dPar, ap_dPar3, ap_dApp, ap_dExt, ap_dNo, ap_dSome, ap_asInt, ap_dSl, getV_zero, getV_succ, getB_zero, getB_zeroO, getB_succ, ownL_zero, ownL_succ, tgName_ap, forT_nil, ret_bind, fail_bind, exc_bind, bind_assoc', add_ii, sub_ii, lt_ii, le_ii, gt_ii, ge_ii, eq_ii, ne_ii, abs_i, int_i, int_b, len_l, len_t, items_l, items_t, truth_b, asObj_self, List.set_cons_succ, List.set_cons_zero, if_true, if_false, Bool.false_eq_true, Bool.not_true, Bool.not_false, ht]
    rw [wq_ret]
    exact ⟨us, rfl, by rw [hu.len, List.length_range], hu.all⟩
end Law

namespace Law
open PySem PySem.Spec PyProof.Rows L2 Eng
variable {E : Str → List D → Prop}
abbrev dInts (l : List Nat) : List D := l.map fun (i : Nat) => D.int (i : Int)
theorem modD_nat (a p : Nat) (hp : 1 ≤ p) : modD (.int (a : Int)) (.int (p : Int)) = T.ret (.int ((a % p : Nat) : Int)) := by
  unfold modD
  simp only
  first
    | rw [if_pos (by omega)]; congr 2
    | (split <;> first | rfl | omega)
theorem rowD_of {p n : Nat} {d : D} (h : rowB (p : Int) (n : Int) d = true) : RowD p n d := by
  cases d with
  | tup l =>
    obtain ⟨h1, h2⟩ := Bool.and_eq_true_iff.mp (show (decide ((l.length : Int) = (n : Int)) && l.all (belowB · (p : Int))) = true from h)
    have h1 := of_decide_eq_true h1
    have key : ∀ m : List D, m.all (belowB · (p : Int)) = true → ∃ us : List Nat, m = dInts us ∧ ∀ i ∈ us, i < p := by
      intro m
      induction m with
      | nil => exact fun _ => ⟨[], rfl, fun i hi => by cases hi⟩
      | cons d r ih =>
        intro hm
        rw [List.all_cons, Bool.and_eq_true] at hm
        obtain ⟨us, rfl, hu⟩ := ih hm.2
        cases d with
        | int i =>
          obtain ⟨g1, g2⟩ := Bool.and_eq_true_iff.mp (show (decide (0 ≤ i) && decide (i < (p : Int))) = true from hm.1)
          have g1 := of_decide_eq_true g1
          have g2 := of_decide_eq_true g2
          refine ⟨i.toNat :: us, ?_, fun j hj => ?_⟩
          · show D.int i :: _ = D.int ((i.toNat : Nat) : Int) :: _
            rw [Int.toNat_of_nonneg g1]
          · rcases List.mem_cons.mp hj with rfl | hj
            · omega
            · exact hu j hj
        | _ => cases hm.1
    obtain ⟨us, rfl, hu⟩ := key l h2
    exact ⟨us, rfl, by rw [List.length_map] at h1; omega, hu⟩
  | _ => cases h
theorem zip_ints (l m : List Nat) : zipD (dInts l) (dInts m) = (l.zip m).map fun x => D.tup [.int (x.1 : Int), .int (x.2 : Int)] := by
  unfold zipD
  rw [List.zip_map, List.map_map]
  rfl
theorem sum_eq {p n : Nat} {a b : D} (hp : 1 ≤ p) (ha : RowD p n a) (hb : RowD p n b) : ∃ c, t_l_sum [.int (p : Int), a, b] = T.ret c ∧ RowD p n c := by
  obtain ⟨l, rfl, hl, hl2⟩ := ha
  obtain ⟨m, rfl, hm, hm2⟩ := hb
  refine ⟨.tup (dInts ((l.zip m).map fun x => (x.1 + x.2) % p)), ?_, _, rfl, by rw [List.length_map, List.length_zip]; omega, fun i hi => ?_⟩
  · unfold t_l_sum bodyT b_l_sum
    have e0 : startE 5 [.int (p : Int), .tup (dInts l), .tup (dInts m)] = [.val (.int (p : Int)), .val (.tup (dInts l)), .val (.tup (dInts m)), .un, .un] := rfl
    rw [e0]
    have hz : zipOfA [.tup (dInts l), .tup (dInts m)] = T.ret ((l.zip m).map fun x => D.tup [.int (x.1 : Int), .int (x.2 : Int)]) := by
      show T.ret (zipD _ _) = _
      rw [zip_ints]
    have hc : compT (tgTup (tgCons (tgName 3) (tgCons (tgName 4) tgNil)) 2) (fun _ => T.ret true) (dB modD (dC intD (dCons (dB addD (gV 3) (gV 4)) dNil)) (gV 0)) (wipeE [.val (.int (p : Int)), .val (.tup (dInts l)), .val (.tup (dInts m)), .un, .un] [3, 4]) ((l.zip m).map fun x => D.tup [.int (x.1 : Int), .int (x.2 : Int)]) = T.ret ((l.zip m).map fun x => D.int (((x.1 + x.2) % p : Nat) : Int)) := by
      refine compT_all (fun x : Nat × Nat => D.tup [.int (x.1 : Int), .int (x.2 : Int)]) (fun x => D.int (((x.1 + x.2) % p : Nat) : Int)) (l.zip m) fun x _ => ⟨[.val (.int (p : Int)), .val (.tup (dInts l)), .val (.tup (dInts m)), .val (.int (x.1 : Int)), .val (.int (x.2 : Int))], rfl, rfl, ?_⟩
      have h := modD_nat (x.1 + x.2) p hp
      have e : (x.1 : Int) + (x.2 : Int) = ((x.1 + x.2 : Nat) : Int) := by omega
      try simp only [ap_cst, ap_gV, ap_gB, ap_dLst, ap_dNil, ap_dCons, ap_dTup, ap_dB, ap_dBl, ap_dU, ap_dC, ap_dCK, ap_dNot, ap_dAnd, ap_dOr, ap_dAndV, ap_dOrV, ap_dNotV, ap_dIf, ap_dSeq, ap_dSkip, ap_dF, ap_dRet, ap_dRetN, ap_dSet, ap_dOwn, ap_dDrop, ap_dFor, ap_dComp, ap_dBrk, ap_dCnt, ap_dParM, ap_mNil, ap_mV, ap_mN, ap_dAsg, ap_dPar, ap_dPar3, ap_dApp, ap_dExt, ap_dNo, ap_dSome, ap_asInt, ap_dSl, getV_zero, getV_succ, getB_zero, getB_zeroO, getB_succ, ownL_zero, ownL_succ, tgName_ap, forT_nil, ret_bind, fail_bind, exc_bind, bind_assoc', add_ii, sub_ii, lt_ii, le_ii, gt_ii, ge_ii, eq_ii, ne_ii, abs_i, int_i, int_b, len_l, len_t, items_l, items_t, truth_b, asObj_self, List.set_cons_succ, List.set_cons_zero, if_true, if_false, Bool.false_eq_true, Bool.not_true, Bool.not_false, e, h]
    have ht : ∀ us : List D, tupleD [.lst us] = T.ret (.tup us) := fun _ => rfl
    try simp only [ap_cst, ap_gV, ap_gB, ap_dLst, ap_dNil, ap_dCons, ap_dTup, ap_dB, ap_dBl, ap_dU, ap_dC, ap_dCK, ap_dNot, ap_dAnd, ap_dOr, ap_dAndV, ap_dOrV, ap_dNotV, ap_dIf, ap_dSeq, ap_dSkip, ap_dF, ap_dRet, ap_dRetN, ap_dSet, ap_dOwn, ap_dDrop, ap_dFor, ap_dComp, ap_dBrk, ap_dCnt, ap_dParM, ap_mNil, ap_mV, ap_mN, ap_dAsg, ap_dPar, ap_dPar3, ap_dApp, ap_dExt, ap_dNo, ap_dSome, ap_asInt, ap_dSl, getV_zero, getV_succ, getB_zero, getB_zeroO, getB_succ, ownL_zero, ownL_succ, tgName_ap, forT_nil, ret_bind, fail_bind, exc_bind, bind_assoc', add_ii, sub_ii, lt_ii, le_ii, gt_ii, ge_ii, eq_ii, ne_ii, abs_i, int_i, int_b, len_l, len_t, items_l, items_t, truth_b, asObj_self, List.set_cons_succ, List.set_cons_zero, if_true, if_false, Bool.false_eq_true, Bool.not_true, Bool.not_false, hz, hc, ht]
    show T.ret (D.tup _) = T.ret (D.tup (((l.zip m).map fun x => (x.1 + x.2) % p).map fun (i : Nat) => D.int (i : Int)))
    rw [List.map_map]
    rfl
  · obtain ⟨x, _, rfl⟩ := List.mem_map.mp hi
    exact Nat.mod_lt _ hp
end Law

namespace Law
open PySem PySem.Spec PyProof.Rows L2 Eng
variable {E : Str → List D → Prop}
theorem wq_compT_sub {α γ : Type} (e : α → D) (y : α → γ) {f : D → Eng.Env → Option Eng.Env} {t : Eng.Env → T Bool} {w : Eng.Env → T γ} {env : Eng.Env} : ∀ (l : List α), (∀ a, a ∈ l → ∃ env1, f (e a) env = some env1 ∧ wq (t env1) (fun _ => True) E ∧ w env1 = T.ret (y a)) →
    wq (compT f t w env (l.map e)) (fun ys => ∃ us : List α, ys = us.map y ∧ us.Sublist l) E
  | [], _ => by
    show wq (T.ret []) _ _
    rw [wq_ret]
    exact ⟨[], rfl, .slnil⟩
  | a :: r, h => by
    obtain ⟨e1, h1, h2, h3⟩ := h a (by simp)
    have ih := wq_compT_sub e y (f := f) (t := t) (w := w) (env := env) r fun d hd => h d (by simp [hd])
    show wq (match f (e a) env with
    | none => T.fail
    | some env1 => t env1 >>= fun b => if b = true then (w env1 >>= fun y => compT f t w env (r.map e) >>= fun ys => T.ret (y :: ys)) else compT f t w env (r.map e)) _ _
    rw [h1]
    show wq (t e1 >>= _) _ _
    refine wq_use h2 fun b _ => ?_
    cases b with
    | true =>
      rw [if_pos rfl, h3, ret_bind]
      refine wq_use ih fun ys hys => ?_
      obtain ⟨us, rfl, hu⟩ := hys
      rw [wq_ret]
      exact ⟨a :: us, rfl, hu.cons_cons a⟩
    | false =>
      rw [if_neg (by simp)]
      refine wq_imp ih fun ys hys => ?_
      obtain ⟨us, rfl, hu⟩ := hys
      exact ⟨us, rfl, hu.cons a⟩
end Law

namespace Law
open PySem PySem.Spec PyProof.Rows L2 Eng
theorem isZ_nat (c : Nat) : isZ (.int (c : Int)) = decide (c = 0) := by
  cases c with
  | zero => rfl
  | succ c => rfl
theorem lead_at : ∀ (l : List Nat) (j s : Nat), (∀ k, k < j → l[k]? = some 0) → (∃ c, l[j]? = some (c + 1)) → ((dInts l).zipIdx s).findSome? hitN = some (s + j)
  | [], j, s, _, ⟨c, h⟩ => by simp at h
  | x :: r, 0, s, _, ⟨c, h⟩ => by
    have hx : x = c + 1 := by simpa using h
    subst hx
    show ((D.int ((c + 1 : Nat) : Int), s) :: (dInts r).zipIdx (s + 1)).findSome? hitN = _
    rw [List.findSome?_cons]
    have : hitN (D.int ((c + 1 : Nat) : Int), s) = some s := by
      unfold hitN
      rw [show isZ (D.int ((c + 1 : Nat) : Int), s).1 = false from by rw [isZ_nat]; rfl]
      rfl
    rw [this]
    rfl
  | x :: r, j + 1, s, h0, ⟨c, h⟩ => by
    have hx : x = 0 := by simpa using h0 0 (by omega)
    subst hx
    show ((D.int ((0 : Nat) : Int), s) :: (dInts r).zipIdx (s + 1)).findSome? hitN = _
    rw [List.findSome?_cons]
    have : hitN (D.int ((0 : Nat) : Int), s) = none := rfl
    rw [this]
    have ih := lead_at r j (s + 1) (fun k hk => by simpa using h0 (k + 1) (by omega)) ⟨c, by simpa using h⟩
    rw [show s + (j + 1) = s + 1 + j by omega]
    exact ih
theorem leadN_at {l : List Nat} {j : Nat} (h0 : ∀ k, k < j → l[k]? = some 0) (h1 : l[j]? = some 1) : leadN (dInts l) = some j := by
  have := lead_at l j 0 h0 ⟨0, h1⟩
  rw [Nat.zero_add] at this
  exact this
/-- a row as the law makes it: its lead at j, nought at the other leads -/
def rowOk (n : Nat) (us : List Nat) (j : Nat) (l : List Nat) : Prop := l.length = n ∧ (∀ k, k < j → l[k]? = some 0) ∧ l[j]? = some 1 ∧ ∀ k ∈ us, k ≠ j → l[k]? = some 0
def mkRows (ls : List (List Nat)) : List D := ls.map fun l => .tup (dInts l)
theorem made_leads {n : Nat} {us : List Nat} : ∀ {ls : List (List Nat)} {vs : List Nat}, All2 (fun j l => rowOk n us j l) vs ls → jsOf (mkRows ls) = vs ∧ (mkRows ls).length = vs.length
  | _, _, .nil => ⟨rfl, rfl⟩
  | _, _, .cons (b := l) h r => by
    obtain ⟨a, b⟩ := made_leads r
    have hl := leadN_at h.2.1 h.2.2.1
    refine ⟨?_, congrArg Nat.succ b⟩
    show (leadN (dInts l)).getD 0 :: jsOf (mkRows _) = _
    rw [hl, a]
    rfl
theorem made_mem {n : Nat} {us : List Nat} : ∀ {ls : List (List Nat)} {vs : List Nat}, All2 (fun j l => rowOk n us j l) vs ls → ∀ x ∈ (mkRows ls).zipIdx, ∃ j l, x.1 = .tup (dInts l) ∧ rowOk n us j l ∧ vs[x.2]? = some j
  | _, _, h, x, hx => by
    have key : ∀ {ls : List (List Nat)} {vs : List Nat}, All2 (fun j l => rowOk n us j l) vs ls → ∀ (i : Nat) (d : D), (mkRows ls)[i]? = some d → ∃ j l, d = .tup (dInts l) ∧ rowOk n us j l ∧ vs[i]? = some j := by
      intro ls vs h
      induction h with
      | nil => intro i d hd; simp [mkRows] at hd
      | @cons a b l m h r ih =>
        intro i d hd
        cases i with
        | zero =>
          have : D.tup (dInts b) = d := by simpa [mkRows] using hd
          exact ⟨a, b, this.symm, h, rfl⟩
        | succ i =>
          obtain ⟨j, l', e1, e2, e3⟩ := ih i d (by simpa [mkRows] using hd)
          exact ⟨j, l', e1, e2, by simpa using e3⟩
    exact key h _ _ (zipIdx_mem hx).1
end Law

namespace Law
open PySem PySem.Spec PyProof.Rows L2 Eng
theorem dInts_get {l : List Nat} {k c : Nat} (h : l[k]? = some c) : (dInts l)[k]? = some (.int (c : Int)) := by
  rw [List.getElem?_map, h]; rfl
theorem stairs_none {n : Nat} {us : List Nat} (hu : us.Pairwise (· < ·)) {ls : List (List Nat)} (h : All2 (fun j l => rowOk n us j l) us ls) : stairsF (mkRows ls) = none := by
  obtain ⟨hj, hl⟩ := made_leads h
  have h1 : (mkRows ls).zipIdx.findSome? oneN = none := List.findSome?_eq_none_iff.mpr fun x hx => by
    obtain ⟨j, l, e, ok, _⟩ := made_mem h x hx
    have hle := leadN_at ok.2.1 ok.2.2.1
    unfold oneN
    rw [show rowL x.1 = dInts l by rw [e]; rfl, hle]
    simp only [dInts_get ok.2.2.1]
    rfl
  have h2 : (List.range ((mkRows ls).length - 1)).findSome? (stF (jsOf (mkRows ls))) = none := List.findSome?_eq_none_iff.mpr fun i hi => by
    have hi := List.mem_range.mp hi
    rw [hj]
    unfold stF
    have i1 : i + 1 < us.length := by omega
    have i0 : i < us.length := by omega
    have := List.pairwise_iff_getElem.mp hu i (i + 1) i0 i1 (by omega)
    rw [if_neg]
    rw [List.getD_eq_getElem?_getD, List.getD_eq_getElem?_getD, List.getElem?_eq_getElem i0, List.getElem?_eq_getElem i1]
    show ¬ us[i + 1] ≤ us[i]
    omega
  have h3 : (jsOf (mkRows ls)).zipIdx.findSome? (clF (mkRows ls)) = none := List.findSome?_eq_none_iff.mpr fun a ha => by
    rw [hj] at ha
    obtain ⟨g1, g2⟩ := zipIdx_mem ha
    refine List.findSome?_eq_none_iff.mpr fun y hy => ?_
    obtain ⟨j, l, e, ok, hv⟩ := made_mem h y hy
    unfold clI
    by_cases hya : y.2 = a.2
    · rw [if_pos (.inl hya)]
    · rw [if_pos]
      refine .inr ?_
      have hne : a.1 ≠ j := fun z => by
        subst z
        obtain ⟨p1, q1⟩ := List.getElem?_eq_some_iff.mp g1
        obtain ⟨p2, q2⟩ := List.getElem?_eq_some_iff.mp hv
        rcases Nat.lt_or_gt_of_ne hya with hlt | hlt
        · have := List.pairwise_iff_getElem.mp hu y.2 a.2 p2 p1 hlt
          omega
        · have := List.pairwise_iff_getElem.mp hu a.2 y.2 p1 p2 hlt
          omega
      have h0 := ok.2.2.2 a.1 g2 hne
      unfold zAt
      rw [show rowL y.1 = dInts l by rw [e]; rfl, dInts_get h0]
      rfl
  unfold stairsF
  rw [h1, h2, h3]
end Law

namespace Law
open PySem PySem.Spec PyProof.Rows L2 Eng
variable {E : Str → List D → Prop}
/-- the leads drawn, the rows not yet -/
theorem flat_head (a0 : Addr) (p n : Nat) (hn : n ≤ 8) {v : Eng.Env → T Out} {Q : Out → Prop} (h : ∀ (s : Int) (us : List Nat), us.Sublist (List.range n) → wq (v [.val (.obj a0), .val (.int (p : Int)), .val (.int (n : Int)), .val (.int s), .own (.lst []), .val (.lst (dInts us)), .un, .un, .un]) Q E) :
    wq (dSeq (dParM [3, 4] (mV (dC (t_l_pick a0) (dCons (gV 0) (dCons (dLst (dCons (cst (.int 0)) (dCons (cst (.int 1)) (dCons (cst (.int 2)) (dCons (cst (.int 2)) (dCons (cst (.int 3)) (dCons (cst (.int 4)) dNil))))))) dNil))) (mN dNil mNil)))
  (dSeq (dSet 5 (dLst (dComp (dC range1 (dCons (gV 2) dNil)) (tgName 6) (dB ltD (dC (drawT a0) (dCons (gV 0) (dCons (cst (.int 4)) dNil))) (gV 3)) (gV 6) [6]))) v) [.val (.obj a0), .val (.int (p : Int)), .val (.int (n : Int)), .un, .un, .un, .un, .un, .un]) Q E := by
  refine wq_seq (fun e => ∃ s : Int, e = [.val (.obj a0), .val (.int (p : Int)), .val (.int (n : Int)), .val (.int s), .own (.lst []), .un, .un, .un, .un]) ?_ fun e he => ?_
  · try simp only [ap_cst, ap_gV, ap_gB, ap_dLst, ap_dNil, ap_dCons, ap_dTup, ap_dB, ap_dBl, ap_dU, ap_dC, ap_dCK, ap_dNot, ap_dAnd, ap_dOr, ap_dAndV, ap_dOrV, ap_dNotV, ap_dIf, ap_dSeq, ap_dSkip, ap_dF, ap_dRet, ap_dRetN, ap_dSet, ap_dOwn, ap_dDrop, ap_dFor, ap_dComp, ap_dBrk, ap_dCnt, ap_dParM, ap_mNil, ap_mV, ap_mN, ap_dAsg, ap_dPar, ap_dPar3, ap_dApp, ap_dExt, ap_dNo, ap_dSome, ap_asInt, ap_dSl, getV_zero, getV_succ, getB_zero, getB_zeroO, getB_succ, ownL_zero, ownL_succ, tgName_ap, forT_nil, ret_bind, fail_bind, exc_bind, bind_assoc', add_ii, sub_ii, lt_ii, le_ii, gt_ii, ge_ii, eq_ii, ne_ii, abs_i, int_i, int_b, len_l, len_t, items_l, items_t, truth_b, asObj_self, List.set_cons_succ, List.set_cons_zero, if_true, if_false, Bool.false_eq_true, Bool.not_true, Bool.not_false]
    refine wq_use (pick_wp (Q := fun d => ∃ s : Int, d = .int s) (by simp) (by simp) fun d hd => ?_) fun d hd => ?_
    · simp only [List.mem_cons, List.not_mem_nil, or_false] at hd
      rcases hd with rfl | rfl | rfl | rfl | rfl | rfl <;> exact ⟨_, rfl⟩
    · obtain ⟨s, rfl⟩ := hd
      try simp only [ap_cst, ap_gV, ap_gB, ap_dLst, ap_dNil, ap_dCons, ap_dTup, ap_dB, ap_dBl, ap_dU, ap_dC, ap_dCK, ap_dNot, ap_dAnd, ap_dOr, ap_dAndV, ap_dOrV, ap_dNotV, ap_dIf, ap_dSeq, ap_dSkip, ap_dF, ap_dRet, ap_dRetN, ap_dSet, ap_dOwn, ap_dDrop, ap_dFor, ap_dComp, ap_dBrk, ap_dCnt, ap_dParM, ap_mNil, ap_mV, ap_mN, ap_dAsg, ap_dPar, ap_dPar3, ap_dApp, ap_dExt, ap_dNo, ap_dSome, ap_asInt, ap_dSl, getV_zero, getV_succ, getB_zero, getB_zeroO, getB_succ, ownL_zero, ownL_succ, tgName_ap, forT_nil, ret_bind, fail_bind, exc_bind, bind_assoc', add_ii, sub_ii, lt_ii, le_ii, gt_ii, ge_ii, eq_ii, ne_ii, abs_i, int_i, int_b, len_l, len_t, items_l, items_t, truth_b, asObj_self, List.set_cons_succ, List.set_cons_zero, if_true, if_false, Bool.false_eq_true, Bool.not_true, Bool.not_false]
      rw [wq_ret]
      exact ⟨s, rfl⟩
  obtain ⟨s, rfl⟩ := he
  refine wq_seq (fun e => ∃ us : List Nat, us.Sublist (List.range n) ∧ e = [.val (.obj a0), .val (.int (p : Int)), .val (.int (n : Int)), .val (.int s), .own (.lst []), .val (.lst (dInts us)), .un, .un, .un]) ?_ fun e he => ?_
  · have hr := range1_nat n (by omega)
    try simp only [ap_cst, ap_gV, ap_gB, ap_dLst, ap_dNil, ap_dCons, ap_dTup, ap_dB, ap_dBl, ap_dU, ap_dC, ap_dCK, ap_dNot, ap_dAnd, ap_dOr, ap_dAndV, ap_dOrV, ap_dNotV, ap_dIf, ap_dSeq, ap_dSkip, ap_dF, ap_dRet, ap_dRetN, ap_dSet, ap_dOwn, ap_dDrop, ap_dFor, ap_dComp, ap_dBrk, ap_dCnt, ap_dParM, ap_mNil, ap_mV, ap_mN, ap_dAsg, ap_dPar, ap_dPar3, ap_dApp, ap_dExt, ap_dNo, ap_dSome, ap_asInt, ap_dSl, getV_zero, getV_succ, getB_zero, getB_zeroO, getB_succ, ownL_zero, ownL_succ, tgName_ap, forT_nil, ret_bind, fail_bind, exc_bind, bind_assoc', add_ii, sub_ii, lt_ii, le_ii, gt_ii, ge_ii, eq_ii, ne_ii, abs_i, int_i, int_b, len_l, len_t, items_l, items_t, truth_b, asObj_self, List.set_cons_succ, List.set_cons_zero, if_true, if_false, Bool.false_eq_true, Bool.not_true, Bool.not_false, hr]
    rw [range_map n]
    refine wq_use (wq_compT_sub (fun i : Nat => D.int (i : Int)) (fun i : Nat => D.int (i : Int)) (List.range n) fun i hi => ⟨[.val (.obj a0), .val (.int (p : Int)), .val (.int (n : Int)), .val (.int s), .own (.lst []), .un, .val (.int (i : Int)), .un, .un], rfl, ?_, rfl⟩) fun ys hys => ?_
    · try simp only [ap_cst, ap_gV, ap_gB, ap_dLst, ap_dNil, ap_dCons, ap_dTup, ap_dB, ap_dBl, ap_dU, ap_dC, ap_dCK, ap_dNot, ap_dAnd, ap_dOr, ap_dAndV, ap_dOrV, ap_dNotV, ap_dIf, ap_dSeq, ap_dSkip, ap_dF, ap_dRet, ap_dRetN, ap_dSet, ap_dOwn, ap_dDrop, ap_dFor, ap_dComp, ap_dBrk, ap_dCnt, ap_dParM, ap_mNil, ap_mV, ap_mN, ap_dAsg, ap_dPar, ap_dPar3, ap_dApp, ap_dExt, ap_dNo, ap_dSome, ap_asInt, ap_dSl, getV_zero, getV_succ, getB_zero, getB_zeroO, getB_succ, ownL_zero, ownL_succ, tgName_ap, forT_nil, ret_bind, fail_bind, exc_bind, bind_assoc', add_ii, sub_ii, lt_ii, le_ii, gt_ii, ge_ii, eq_ii, ne_ii, abs_i, int_i, int_b, len_l, len_t, items_l, items_t, truth_b, asObj_self, List.set_cons_succ, List.set_cons_zero, if_true, if_false, Bool.false_eq_true, Bool.not_true, Bool.not_false]
      refine wq_drawN (by decide) (by decide) fun j hj => ?_
      try simp only [ap_cst, ap_gV, ap_gB, ap_dLst, ap_dNil, ap_dCons, ap_dTup, ap_dB, ap_dBl, ap_dU, ap_dC, ap_dCK, ap_dNot, ap_dAnd, ap_dOr, ap_dAndV, ap_dOrV, ap_dNotV, ap_dIf, ap_dSeq, ap_dSkip, ap_dF, ap_dRet, ap_dRetN, ap_dSet, ap_dOwn, ap_dDrop, ap_dFor, ap_dComp, ap_dBrk, ap_dCnt, ap_dParM, ap_mNil, ap_mV, ap_mN, ap_dAsg, ap_dPar, ap_dPar3, ap_dApp, ap_dExt, ap_dNo, ap_dSome, ap_asInt, ap_dSl, getV_zero, getV_succ, getB_zero, getB_zeroO, getB_succ, ownL_zero, ownL_succ, tgName_ap, forT_nil, ret_bind, fail_bind, exc_bind, bind_assoc', add_ii, sub_ii, lt_ii, le_ii, gt_ii, ge_ii, eq_ii, ne_ii, abs_i, int_i, int_b, len_l, len_t, items_l, items_t, truth_b, asObj_self, List.set_cons_succ, List.set_cons_zero, if_true, if_false, Bool.false_eq_true, Bool.not_true, Bool.not_false]
      rw [wq_ret]
      trivial
    · obtain ⟨us, rfl, hu⟩ := hys
      rw [wq_ret]
      exact ⟨us, hu, rfl⟩
  · obtain ⟨us, hu, rfl⟩ := he
    exact h s us hu
end Law

namespace Law
open PySem PySem.Spec PyProof.Rows L2 Eng
variable {E : Str → List D → Prop}
theorem notIn_ints (k : Nat) (us : List Nat) : notInD (.int (k : Int)) (.lst (dInts us)) = T.ret (!decide (k ∈ us)) := by
  have h0 : inD (.int (k : Int)) (.lst (dInts us)) = T.ret ((dInts us).any fun e => eqF e (.int (k : Int))) := by
    unfold inD
    simp only [itemsOf]
    refine if_pos ⟨rfl, ?_⟩
    rw [List.all_map]
    exact List.all_eq_true.mpr fun _ _ => rfl
  unfold notInD
  rw [h0]
  show T.ret (!_) = _
  congr 2
  rw [List.any_map]
  induction us with
  | nil => rfl
  | cons u r ih =>
    have h0' : inD (.int (k : Int)) (.lst (dInts r)) = T.ret ((dInts r).any fun e => eqF e (.int (k : Int))) := by
      unfold inD
      simp only [itemsOf]
      refine if_pos ⟨rfl, ?_⟩
      rw [List.all_map]
      exact List.all_eq_true.mpr fun _ _ => rfl
    rw [List.any_cons, ih h0']
    have e : (((fun e => eqF e (D.int (k : Int))) ∘ fun (i : Nat) => D.int (i : Int)) u) = decide (k = u) := by
      show ((u : Int) == (k : Int)) = decide (k = u)
      by_cases h : k = u
      · subst h; simp
      · rw [decide_eq_false h]; simp; omega
    rw [e]
    by_cases h : k = u <;> simp [h]
end Law

namespace Law
open PySem PySem.Spec PyProof.Rows L2 Eng
variable {E : Str → List D → Prop}
abbrev FE (a0 : Addr) (p n : Nat) (s : Int) (us : List Nat) (acc : List D) (x6 x7 x8 : Sl) : Eng.Env := [.val (.obj a0), .val (.int (p : Int)), .val (.int (n : Int)), .val (.int s), .own (.lst acc), .val (.lst (dInts us)), x6, x7, x8]
theorem row_wq (a0 : Addr) (p n j : Nat) (s : Int) (us : List Nat) (acc : List D) (x6 x8 : Sl) (hp : 1 ≤ p) (hp9 : p ≤ 1000) :
    wq (compT (tgName 6) (fun _ => T.ret true) (dIf (dAnd (dB gtD (gV 6) (gV 7)) (dB notInD (gV 6) (gV 5))) (dC (drawT a0) (dCons (gV 0) (dCons (gV 1) dNil))) (cst (.int 0))) (FE a0 p n s us acc x6 (.val (.int (j : Int))) x8) ((List.range n).map fun (i : Nat) => D.int (i : Int)))
      (fun ys => ∃ cs : List Nat, ys = cs.map (fun (i : Nat) => D.int (i : Int)) ∧ All2 (fun k c => c < p ∧ (k ≤ j ∨ k ∈ us → c = 0)) (List.range n) cs) E := by
  refine wq_compT (fun i : Nat => D.int (i : Int)) (fun i : Nat => D.int (i : Int)) (fun k c => c < p ∧ (k ≤ j ∨ k ∈ us → c = 0)) (List.range n) fun i hi => ⟨FE a0 p n s us acc (.val (.int (i : Int))) (.val (.int (j : Int))) x8, rfl, rfl, ?_⟩
  have hni := notIn_ints i us
  by_cases h1 : (j : Int) < (i : Int)
  · by_cases h2 : i ∈ us
    · try simp only [ap_cst, ap_gV, ap_gB, ap_dLst, ap_dNil, ap_dCons, ap_dTup, ap_dB, ap_dBl, ap_dU, ap_dC, ap_dCK, ap_dNot, ap_dAnd, ap_dOr, ap_dAndV, ap_dOrV, ap_dNotV, ap_dIf, ap_dSeq, ap_dSkip, ap_dF, ap_dRet, ap_dRetN, ap_dSet, ap_dOwn, ap_dDrop, ap_dFor, ap_dComp, ap_dBrk, ap_dCnt, ap_dParM, ap_mNil, ap_mV, ap_mN, ap_dAsg, ap_dPar, ap_dPar3, ap_dApp, ap_dExt, ap_dNo, ap_dSome, ap_asInt, ap_dSl, getV_zero, getV_succ, getB_zero, getB_zeroO, getB_succ, ownL_zero, ownL_succ, tgName_ap, forT_nil, ret_bind, fail_bind, exc_bind, bind_assoc', add_ii, sub_ii, lt_ii, le_ii, gt_ii, ge_ii, eq_ii, ne_ii, abs_i, int_i, int_b, len_l, len_t, items_l, items_t, truth_b, asObj_self, List.set_cons_succ, List.set_cons_zero, if_true, if_false, Bool.false_eq_true, Bool.not_true, Bool.not_false, decide_eq_true h1, hni, decide_eq_true h2]
      rw [wq_ret]
      exact ⟨0, rfl, by omega, fun _ => rfl⟩
    · try simp only [ap_cst, ap_gV, ap_gB, ap_dLst, ap_dNil, ap_dCons, ap_dTup, ap_dB, ap_dBl, ap_dU, ap_dC, ap_dCK, ap_dNot, ap_dAnd, ap_dOr, ap_dAndV, ap_dOrV, ap_dNotV, ap_dIf, ap_dSeq, ap_dSkip, ap_dF, ap_dRet, ap_dRetN, ap_dSet, ap_dOwn, ap_dDrop, ap_dFor, ap_dComp, ap_dBrk, ap_dCnt, ap_dParM, ap_mNil, ap_mV, ap_mN, ap_dAsg, ap_dPar, ap_dPar3, ap_dApp, ap_dExt, ap_dNo, ap_dSome, ap_asInt, ap_dSl, getV_zero, getV_succ, getB_zero, getB_zeroO, getB_succ, ownL_zero, ownL_succ, tgName_ap, forT_nil, ret_bind, fail_bind, exc_bind, bind_assoc', add_ii, sub_ii, lt_ii, le_ii, gt_ii, ge_ii, eq_ii, ne_ii, abs_i, int_i, int_b, len_l, len_t, items_l, items_t, truth_b, asObj_self, List.set_cons_succ, List.set_cons_zero, if_true, if_false, Bool.false_eq_true, Bool.not_true, Bool.not_false, decide_eq_true h1, hni, decide_eq_false h2]
      refine wq_imp (wq_draw (Q := fun d => ∃ k : Nat, k < p ∧ d = .int (k : Int)) (by omega) (by omega) fun k hk => ⟨k, by omega, rfl⟩) fun d hd => ?_
      obtain ⟨k, hk, rfl⟩ := hd
      exact ⟨k, rfl, hk, fun z => z.elim (fun z => by omega) (fun z => absurd z h2)⟩
  · try simp only [ap_cst, ap_gV, ap_gB, ap_dLst, ap_dNil, ap_dCons, ap_dTup, ap_dB, ap_dBl, ap_dU, ap_dC, ap_dCK, ap_dNot, ap_dAnd, ap_dOr, ap_dAndV, ap_dOrV, ap_dNotV, ap_dIf, ap_dSeq, ap_dSkip, ap_dF, ap_dRet, ap_dRetN, ap_dSet, ap_dOwn, ap_dDrop, ap_dFor, ap_dComp, ap_dBrk, ap_dCnt, ap_dParM, ap_mNil, ap_mV, ap_mN, ap_dAsg, ap_dPar, ap_dPar3, ap_dApp, ap_dExt, ap_dNo, ap_dSome, ap_asInt, ap_dSl, getV_zero, getV_succ, getB_zero, getB_zeroO, getB_succ, ownL_zero, ownL_succ, tgName_ap, forT_nil, ret_bind, fail_bind, exc_bind, bind_assoc', add_ii, sub_ii, lt_ii, le_ii, gt_ii, ge_ii, eq_ii, ne_ii, abs_i, int_i, int_b, len_l, len_t, items_l, items_t, truth_b, asObj_self, List.set_cons_succ, List.set_cons_zero, if_true, if_false, Bool.false_eq_true, Bool.not_true, Bool.not_false, decide_eq_false h1]
    rw [wq_ret]
    exact ⟨0, rfl, by omega, fun _ => rfl⟩
end Law

namespace Law
open PySem PySem.Spec PyProof.Rows L2 Eng
variable {E : Str → List D → Prop}
theorem rz3_of {z : Nat} : ∀ {l : List D}, (∀ c ∈ l, c.rz3 ≤ z) → rz3All l ≤ l.length * (z + 2)
  | [], _ => Nat.zero_le _
  | d :: r, h => by
    have h1 := h d (by simp)
    have h2 := rz3_of (l := r) fun c hc => h c (by simp [hc])
    show d.rz3 + 2 + rz3All r ≤ _
    rw [List.length_cons, Nat.succ_mul]
    omega
theorem dep3_of {m : Nat} : ∀ {l : List D}, (∀ c ∈ l, c.dep3 ≤ m) → dep3All l ≤ m
  | [], _ => Nat.zero_le _
  | d :: r, h => by
    show max d.dep3 (dep3All r) ≤ m
    exact Nat.max_le.mpr ⟨h d (by simp), dep3_of fun c hc => h c (by simp [hc])⟩
theorem kz_tup {m z : Nat} {l : List D} (h : ∀ c ∈ l, Kz m z c) : Kz (m + 1) (l.length * (z + 2) + 4) (.tup l) :=
  ⟨fit3All_iff.mpr fun c hc => (h c hc).1, Nat.add_le_add_right (rz3_of fun c hc => (h c hc).2.1) 4, Nat.succ_le_succ (dep3_of fun c hc => (h c hc).2.2)⟩
theorem kz_lst {m z : Nat} {l : List D} (h : ∀ c ∈ l, Kz m z c) : Kz (m + 1) (l.length * (z + 2) + 4) (.lst l) :=
  ⟨fit3All_iff.mpr fun c hc => (h c hc).1, Nat.add_le_add_right (rz3_of fun c hc => (h c hc).2.1) 4, Nat.succ_le_succ (dep3_of fun c hc => (h c hc).2.2)⟩
def cell (B : Nat) (d : D) : Prop := Kz 3 2000 d ∧ ∀ i, d = .int i → i.natAbs ≤ B
def CellAll (B n : Nat) (l : List D) : Prop := l.length ≤ n ∧ ∀ c ∈ l, cell B c
def Ent (n B : Nat) (d : D) : Prop := Kz 4 (n * 2002 + 2010) d ∧ ∀ l, d = .tup l → CellAll B n l
theorem cell.mono {B B' : Nat} {d : D} (h : cell B d) (hb : B ≤ B') : cell B' d := ⟨h.1, fun i hi => Nat.le_trans (h.2 i hi) hb⟩
theorem CellAll.mono {B B' n n' : Nat} {l : List D} (h : CellAll B n l) (hb : B ≤ B') (hn : n ≤ n') : CellAll B' n' l := ⟨Nat.le_trans h.1 hn, fun c hc => (h.2 c hc).mono hb⟩
theorem Ent.mono {B B' n n' : Nat} {d : D} (h : Ent n B d) (hb : B ≤ B') (hn : n ≤ n') : Ent n' B' d := ⟨h.1.mono (Nat.le_refl _) (by omega), fun l hl => (h.2 l hl).mono hb hn⟩
theorem kz_int {i : Int} (h : i.natAbs < 2 ^ 1920) : Kz 3 2000 (.int i) := ⟨by
  show decide (i.natAbs.log2 < 1920) = true
  refine decide_eq_true ?_
  by_cases h0 : i.natAbs = 0
  · rw [h0]; decide
  · exact (Nat.log2_lt h0).mpr h, by show 1921 ≤ 2000; decide, by show 0 ≤ 3; decide⟩
theorem big_pow : (10 : Nat) ^ 40 < 2 ^ 1920 := by decide +kernel
theorem cell_int {B : Nat} {i : Int} (hB : B ≤ 10 ^ 40) (h : i.natAbs ≤ B) : cell B (.int i) := ⟨kz_int (Nat.lt_of_le_of_lt (Nat.le_trans h hB) big_pow), fun j hj => by cases hj; exact h⟩
theorem cell_non {B : Nat} {d : D} (h : chkK 3 2000 d = true) (hi : isInt d = false) : cell B d := ⟨chk_kz h, fun i e => by rw [e] at hi; cases hi⟩
theorem ent_tup {B n : Nat} {l : List D} (h : CellAll B n l) : Ent n B (.tup l) := ⟨by
  have := kz_tup fun c hc => (h.2 c hc).1
  exact this.mono (Nat.le_refl _) (by have := Nat.mul_le_mul_right 2002 h.1; omega), fun m hm => by cases hm; exact h⟩
theorem ent_lst {B n : Nat} {l : List D} (h : CellAll B n l) : Ent n B (.lst l) := ⟨by
  have := kz_lst fun c hc => (h.2 c hc).1
  exact this.mono (Nat.le_refl _) (by have := Nat.mul_le_mul_right 2002 h.1; omega), fun m hm => by cases hm⟩
theorem CellAll.app {B n m : Nat} {l r : List D} (h : CellAll B n l) (h2 : CellAll B m r) : CellAll B (n + m) (l ++ r) := ⟨by rw [List.length_append]; have := h.1; have := h2.1; omega, fun c hc => (List.mem_append.mp hc).elim (h.2 c) (h2.2 c)⟩
theorem CellAll.one {B : Nat} {d : D} (h : cell B d) : CellAll B 1 [d] := ⟨Nat.le_refl _, fun c hc => by rw [List.mem_singleton.mp hc]; exact h⟩
theorem CellAll.take {B n : Nat} {l : List D} (h : CellAll B n l) (k : Nat) : CellAll B n (l.take k) := ⟨Nat.le_trans (List.length_take_le' _ _) h.1, fun c hc => h.2 c (List.mem_of_mem_take hc)⟩
theorem CellAll.drop {B n : Nat} {l : List D} (h : CellAll B n l) (k : Nat) : CellAll B n (l.drop k) := ⟨by rw [List.length_drop]; have := h.1; omega, fun c hc => h.2 c (List.mem_of_mem_drop hc)⟩
/-- odd things by their entries -/
def chkE (d : D) : Bool := chkK 3 2000 d && (match d with
  | .tup l => decide (l.length ≤ 1) && l.all fun c => chkK 3 2000 c && (match c with
    | .int i => decide (i.natAbs ≤ 7)
    | _ => true)
  | _ => true)
theorem odd_ent : oddL.all chkE = true := by decide +kernel
theorem chkE_ent {d : D} (h : chkE d = true) {n B : Nat} (hn : 1 ≤ n) (hB : 7 ≤ B) : Ent n B d := by
  obtain ⟨h1, h2⟩ := Bool.and_eq_true_iff.mp h
  refine ⟨(chk_kz h1).mono (by decide) (by omega), fun l hl => ?_⟩
  subst hl
  obtain ⟨h3, h4⟩ := Bool.and_eq_true_iff.mp (show (decide (l.length ≤ 1) && l.all _) = true from h2)
  refine ⟨Nat.le_trans (of_decide_eq_true h3) hn, fun c hc => ?_⟩
  obtain ⟨h5, h6⟩ := Bool.and_eq_true_iff.mp (List.all_eq_true.mp h4 c hc)
  refine ⟨chk_kz h5, fun i hi => ?_⟩
  subst hi
  exact Nat.le_trans (of_decide_eq_true h6) hB
theorem odd_ent_wq (a0 : Addr) {n B : Nat} (hn : 1 ≤ n) (hB : 7 ≤ B) : wq (t_l_odd a0 [.obj a0]) (Ent n B) E := by
  unfold t_l_odd
  refine wq_body ?_
  have e0 : startE 2 [.obj a0] = [.val (.obj a0), .un] := rfl
  rw [e0]
  unfold b_l_odd
  refine wq_seq (fun e => ∃ l, e = [.val (.obj a0), .val (.lst l)] ∧ l = oddL) (by
    have hd : ∀ env : Eng.Env, dDct [] env = T.ret (.dct [] []) := fun _ => rfl
    have hd2 : ∀ env : Eng.Env, dDct [(.inr "rows", (dTup dNil))] env = T.ret (.dct [.inr "rows"] [.tup []]) := fun _ => rfl
    try simp only [ap_cst, ap_gV, ap_gB, ap_dLst, ap_dNil, ap_dCons, ap_dTup, ap_dB, ap_dBl, ap_dU, ap_dC, ap_dCK, ap_dNot, ap_dAnd, ap_dOr, ap_dAndV, ap_dOrV, ap_dNotV, ap_dIf, ap_dSeq, ap_dSkip, ap_dF, ap_dRet, ap_dRetN, ap_dSet, ap_dOwn, ap_dDrop, ap_dFor, ap_dComp, ap_dBrk, ap_dCnt, ap_dParM, ap_mNil, ap_mV, ap_mN, ap_dAsg, ap_dPar, ap_dPar3, ap_dApp, ap_dExt, ap_dNo, ap_dSome, ap_asInt, ap_dSl, getV_zero, getV_succ, getB_zero, getB_zeroO, getB_succ, ownL_zero, ownL_succ, tgName_ap, forT_nil, ret_bind, fail_bind, exc_bind, bind_assoc', add_ii, sub_ii, lt_ii, le_ii, gt_ii, ge_ii, eq_ii, ne_ii, abs_i, int_i, int_b, len_l, len_t, items_l, items_t, truth_b, asObj_self, List.set_cons_succ, List.set_cons_zero, if_true, if_false, Bool.false_eq_true, Bool.not_true, Bool.not_false, pow30, neg_1, hd, hd2]
    rw [wq_ret]
    exact ⟨_, rfl, rfl⟩) fun e he => ?_
  obtain ⟨l, rfl, rfl⟩ := he
  try simp only [ap_cst, ap_gV, ap_gB, ap_dLst, ap_dNil, ap_dCons, ap_dTup, ap_dB, ap_dBl, ap_dU, ap_dC, ap_dCK, ap_dNot, ap_dAnd, ap_dOr, ap_dAndV, ap_dOrV, ap_dNotV, ap_dIf, ap_dSeq, ap_dSkip, ap_dF, ap_dRet, ap_dRetN, ap_dSet, ap_dOwn, ap_dDrop, ap_dFor, ap_dComp, ap_dBrk, ap_dCnt, ap_dParM, ap_mNil, ap_mV, ap_mN, ap_dAsg, ap_dPar, ap_dPar3, ap_dApp, ap_dExt, ap_dNo, ap_dSome, ap_asInt, ap_dSl, getV_zero, getV_succ, getB_zero, getB_zeroO, getB_succ, ownL_zero, ownL_succ, tgName_ap, forT_nil, ret_bind, fail_bind, exc_bind, bind_assoc', add_ii, sub_ii, lt_ii, le_ii, gt_ii, ge_ii, eq_ii, ne_ii, abs_i, int_i, int_b, len_l, len_t, items_l, items_t, truth_b, asObj_self, List.set_cons_succ, List.set_cons_zero, if_true, if_false, Bool.false_eq_true, Bool.not_true, Bool.not_false]
  refine wq_use (pick_wp (Q := Ent n B) (by decide) (by decide) fun d hd => chkE_ent (List.all_eq_true.mp odd_ent d hd) hn hB) fun d hd => by rw [wq_ret]; exact hd
end Law

namespace Law
open PySem PySem.Spec PyProof.Rows L2 Eng
variable {E : Str → List D → Prop}
theorem str_fit (s : String) : ((Str.ofString s).cps.toList.all fun c => decide (c < 16 ^ 8)) = true := by
  refine List.all_eq_true.mpr fun c hc => ?_
  rw [signs_ofString, List.mem_map] at hc
  obtain ⟨a, _, rfl⟩ := hc
  refine decide_eq_true ?_
  have : a.toNat < 0x110000 := by
    have := a.valid
    rcases this with h | h
    · exact Nat.lt_trans h (by decide)
    · exact h.2
  exact Nat.lt_trans this (by decide)
theorem pow40_160 : (10 : Nat) ^ 40 < 2 ^ 160 := by decide +kernel
theorem cell_str {B : Nat} {i : Int} (hB : B ≤ 10 ^ 40) (h : i.natAbs ≤ B) : cell B (.str (toString i)) := by
  have hl : i.natAbs.log2 < 160 := by
    by_cases h0 : i.natAbs = 0
    · rw [h0]; decide
    · exact (Nat.log2_lt h0).mpr (Nat.lt_of_le_of_lt (Nat.le_trans h hB) pow40_160)
  have := int_text_length_le (k := 160) (by decide) hl
  refine ⟨⟨str_fit _, ?_, Nat.zero_le _⟩, fun j hj => by cases hj⟩
  show 10 * (Str.ofString (toString i)).length + 2 ≤ 2000
  rw [PySem.ofString_length]
  omega
theorem str_of {B : Nat} {i : Int} (hB : B ≤ 10 ^ 40) (h : i.natAbs ≤ B) : Eng.strD [.int i] = T.ret (.str (toString i)) := by
  show (if _ then _ else _) = _
  rw [if_pos]
  by_cases h0 : i.natAbs = 0
  · rw [h0]; decide
  · exact (Nat.log2_lt h0).mpr (Nat.lt_of_le_of_lt (Nat.le_trans h hB) big_pow)
abbrev IE (a0 : Addr) (p : Nat) (l : List D) (x3 x4 x5 x6 x7 : Sl) : Eng.Env := [.val (.obj a0), .val (.int (p : Int)), .val (.tup l), x3, x4, x5, x6, x7]
theorem item_wq (a0 : Addr) (p n B : Nat) (hp : 2 ≤ p) (hp7 : p ≤ 7) (hn1 : 1 ≤ n) (hn : n ≤ 100) (hB : 7 ≤ B) (hB2 : B + 10 ^ 32 ≤ 10 ^ 40) (l : List D) (h : CellAll B n l) : wq (t_l_item a0 [.obj a0, .int (p : Int), .tup l]) (Ent (n + 1) (B + 10 ^ 32)) E := by
  have hb40 : B ≤ 10 ^ 40 := by omega
  unfold t_l_item
  refine wq_body ?_
  have e0 : startE 8 [.obj a0, .int (p : Int), .tup l] = IE a0 p l .un .un .un .un .un := rfl
  rw [e0]
  unfold b_l_item
  refine wq_seq (fun e => ∃ t : Nat, t < 9 ∧ e = IE a0 p l (.val (.int (t : Int))) .un .un .un .un) ?_ fun e he => ?_
  · try simp only [ap_cst, ap_gV, ap_gB, ap_dLst, ap_dNil, ap_dCons, ap_dTup, ap_dB, ap_dBl, ap_dU, ap_dC, ap_dCK, ap_dNot, ap_dAnd, ap_dOr, ap_dAndV, ap_dOrV, ap_dNotV, ap_dIf, ap_dSeq, ap_dSkip, ap_dF, ap_dRet, ap_dRetN, ap_dSet, ap_dOwn, ap_dDrop, ap_dFor, ap_dComp, ap_dBrk, ap_dCnt, ap_dParM, ap_mNil, ap_mV, ap_mN, ap_dAsg, ap_dPar, ap_dPar3, ap_dApp, ap_dExt, ap_dNo, ap_dSome, ap_asInt, ap_dSl, getV_zero, getV_succ, getB_zero, getB_zeroO, getB_succ, ownL_zero, ownL_succ, tgName_ap, forT_nil, ret_bind, fail_bind, exc_bind, bind_assoc', add_ii, sub_ii, lt_ii, le_ii, gt_ii, ge_ii, eq_ii, ne_ii, abs_i, int_i, int_b, len_l, len_t, items_l, items_t, truth_b, asObj_self, List.set_cons_succ, List.set_cons_zero, if_true, if_false, Bool.false_eq_true, Bool.not_true, Bool.not_false]
    refine wq_drawN (by decide) (by decide) fun t ht => ?_
    rw [wq_ret]; exact ⟨t, by omega, rfl⟩
  obtain ⟨t, ht, rfl⟩ := he
  refine wq_seq (fun e => t ≠ 0 ∧ e = IE a0 p l (.val (.int (t : Int))) .un .un .un .un) ?_ fun e he => ?_
  · by_cases t0 : t = 0
    · have hd : decide ((t : Int) = 0) = true := decide_eq_true (by omega)
      try simp only [ap_cst, ap_gV, ap_gB, ap_dLst, ap_dNil, ap_dCons, ap_dTup, ap_dB, ap_dBl, ap_dU, ap_dC, ap_dCK, ap_dNot, ap_dAnd, ap_dOr, ap_dAndV, ap_dOrV, ap_dNotV, ap_dIf, ap_dSeq, ap_dSkip, ap_dF, ap_dRet, ap_dRetN, ap_dSet, ap_dOwn, ap_dDrop, ap_dFor, ap_dComp, ap_dBrk, ap_dCnt, ap_dParM, ap_mNil, ap_mV, ap_mN, ap_dAsg, ap_dPar, ap_dPar3, ap_dApp, ap_dExt, ap_dNo, ap_dSome, ap_asInt, ap_dSl, getV_zero, getV_succ, getB_zero, getB_zeroO, getB_succ, ownL_zero, ownL_succ, tgName_ap, forT_nil, ret_bind, fail_bind, exc_bind, bind_assoc', add_ii, sub_ii, lt_ii, le_ii, gt_ii, ge_ii, eq_ii, ne_ii, abs_i, int_i, int_b, len_l, len_t, items_l, items_t, truth_b, asObj_self, List.set_cons_succ, List.set_cons_zero, if_true, if_false, Bool.false_eq_true, Bool.not_true, Bool.not_false, hd, listT]
      rw [wq_ret]
      exact (ent_lst h).mono (by omega) (by omega)
    · have hd : decide ((t : Int) = 0) = false := decide_eq_false (by omega)
      try simp only [ap_cst, ap_gV, ap_gB, ap_dLst, ap_dNil, ap_dCons, ap_dTup, ap_dB, ap_dBl, ap_dU, ap_dC, ap_dCK, ap_dNot, ap_dAnd, ap_dOr, ap_dAndV, ap_dOrV, ap_dNotV, ap_dIf, ap_dSeq, ap_dSkip, ap_dF, ap_dRet, ap_dRetN, ap_dSet, ap_dOwn, ap_dDrop, ap_dFor, ap_dComp, ap_dBrk, ap_dCnt, ap_dParM, ap_mNil, ap_mV, ap_mN, ap_dAsg, ap_dPar, ap_dPar3, ap_dApp, ap_dExt, ap_dNo, ap_dSome, ap_asInt, ap_dSl, getV_zero, getV_succ, getB_zero, getB_zeroO, getB_succ, ownL_zero, ownL_succ, tgName_ap, forT_nil, ret_bind, fail_bind, exc_bind, bind_assoc', add_ii, sub_ii, lt_ii, le_ii, gt_ii, ge_ii, eq_ii, ne_ii, abs_i, int_i, int_b, len_l, len_t, items_l, items_t, truth_b, asObj_self, List.set_cons_succ, List.set_cons_zero, if_true, if_false, Bool.false_eq_true, Bool.not_true, Bool.not_false, hd]
      rw [wq_ret]; exact ⟨t0, rfl⟩
  obtain ⟨t0, rfl⟩ := he
  refine wq_seq (fun e => t ≠ 1 ∧ e = IE a0 p l (.val (.int (t : Int))) .un .un .un .un) ?_ fun e he => ?_
  · by_cases t0 : t = 1
    · have hd : decide ((t : Int) = 1) = true := decide_eq_true (by omega)
      try simp only [ap_cst, ap_gV, ap_gB, ap_dLst, ap_dNil, ap_dCons, ap_dTup, ap_dB, ap_dBl, ap_dU, ap_dC, ap_dCK, ap_dNot, ap_dAnd, ap_dOr, ap_dAndV, ap_dOrV, ap_dNotV, ap_dIf, ap_dSeq, ap_dSkip, ap_dF, ap_dRet, ap_dRetN, ap_dSet, ap_dOwn, ap_dDrop, ap_dFor, ap_dComp, ap_dBrk, ap_dCnt, ap_dParM, ap_mNil, ap_mV, ap_mN, ap_dAsg, ap_dPar, ap_dPar3, ap_dApp, ap_dExt, ap_dNo, ap_dSome, ap_asInt, ap_dSl, getV_zero, getV_succ, getB_zero, getB_zeroO, getB_succ, ownL_zero, ownL_succ, tgName_ap, forT_nil, ret_bind, fail_bind, exc_bind, bind_assoc', add_ii, sub_ii, lt_ii, le_ii, gt_ii, ge_ii, eq_ii, ne_ii, abs_i, int_i, int_b, len_l, len_t, items_l, items_t, truth_b, asObj_self, List.set_cons_succ, List.set_cons_zero, if_true, if_false, Bool.false_eq_true, Bool.not_true, Bool.not_false, hd]
      refine wq_use (odd_ent_wq a0 (n := n + 1) (B := B + 10 ^ 32) (by omega) (by omega)) fun d hd => ?_
      rw [wq_ret]
      exact hd
    · have hd : decide ((t : Int) = 1) = false := decide_eq_false (by omega)
      try simp only [ap_cst, ap_gV, ap_gB, ap_dLst, ap_dNil, ap_dCons, ap_dTup, ap_dB, ap_dBl, ap_dU, ap_dC, ap_dCK, ap_dNot, ap_dAnd, ap_dOr, ap_dAndV, ap_dOrV, ap_dNotV, ap_dIf, ap_dSeq, ap_dSkip, ap_dF, ap_dRet, ap_dRetN, ap_dSet, ap_dOwn, ap_dDrop, ap_dFor, ap_dComp, ap_dBrk, ap_dCnt, ap_dParM, ap_mNil, ap_mV, ap_mN, ap_dAsg, ap_dPar, ap_dPar3, ap_dApp, ap_dExt, ap_dNo, ap_dSome, ap_asInt, ap_dSl, getV_zero, getV_succ, getB_zero, getB_zeroO, getB_succ, ownL_zero, ownL_succ, tgName_ap, forT_nil, ret_bind, fail_bind, exc_bind, bind_assoc', add_ii, sub_ii, lt_ii, le_ii, gt_ii, ge_ii, eq_ii, ne_ii, abs_i, int_i, int_b, len_l, len_t, items_l, items_t, truth_b, asObj_self, List.set_cons_succ, List.set_cons_zero, if_true, if_false, Bool.false_eq_true, Bool.not_true, Bool.not_false, hd]
      rw [wq_ret]; exact ⟨t0, rfl⟩
  obtain ⟨t1, rfl⟩ := he
  refine wq_seq (fun e => t ≠ 2 ∧ l ≠ [] ∧ e = IE a0 p l (.val (.int (t : Int))) .un .un .un .un) ?_ fun e he => ?_
  · have hgo : wq (drawT a0 [.obj a0, .int (p : Int)] >>= fun d => addD (.tup l) (.tup [d]) >>= fun d => T.ret (Out.rt d)) (fun o => match o with
      | .nx e => t ≠ 2 ∧ l ≠ [] ∧ e = IE a0 p l (.val (.int (t : Int))) .un .un .un .un
      | .rt d => Ent (n + 1) (B + 10 ^ 32) d
      | .bk e => False
      | .ct e => False) E := by
      refine wq_drawN (by omega) (by omega) fun j hj => ?_
      have hl := h.1
      rw [addTT (by simp; omega), ret_bind, wq_ret]
      exact (ent_tup (h.app (.one (cell_int hb40 (by omega))))).mono (by omega) (Nat.le_refl _)
    by_cases t2 : t = 2
    · have hd : decide ((t : Int) = 2) = true := decide_eq_true (by omega)
      try simp only [ap_cst, ap_gV, ap_gB, ap_dLst, ap_dNil, ap_dCons, ap_dTup, ap_dB, ap_dBl, ap_dU, ap_dC, ap_dCK, ap_dNot, ap_dAnd, ap_dOr, ap_dAndV, ap_dOrV, ap_dNotV, ap_dIf, ap_dSeq, ap_dSkip, ap_dF, ap_dRet, ap_dRetN, ap_dSet, ap_dOwn, ap_dDrop, ap_dFor, ap_dComp, ap_dBrk, ap_dCnt, ap_dParM, ap_mNil, ap_mV, ap_mN, ap_dAsg, ap_dPar, ap_dPar3, ap_dApp, ap_dExt, ap_dNo, ap_dSome, ap_asInt, ap_dSl, getV_zero, getV_succ, getB_zero, getB_zeroO, getB_succ, ownL_zero, ownL_succ, tgName_ap, forT_nil, ret_bind, fail_bind, exc_bind, bind_assoc', add_ii, sub_ii, lt_ii, le_ii, gt_ii, ge_ii, eq_ii, ne_ii, abs_i, int_i, int_b, len_l, len_t, items_l, items_t, truth_b, asObj_self, List.set_cons_succ, List.set_cons_zero, if_true, if_false, Bool.false_eq_true, Bool.not_true, Bool.not_false, hd]
      exact hgo
    · have hd : decide ((t : Int) = 2) = false := decide_eq_false (by omega)
      cases hl : l.isEmpty with
      | true =>
        try simp only [ap_cst, ap_gV, ap_gB, ap_dLst, ap_dNil, ap_dCons, ap_dTup, ap_dB, ap_dBl, ap_dU, ap_dC, ap_dCK, ap_dNot, ap_dAnd, ap_dOr, ap_dAndV, ap_dOrV, ap_dNotV, ap_dIf, ap_dSeq, ap_dSkip, ap_dF, ap_dRet, ap_dRetN, ap_dSet, ap_dOwn, ap_dDrop, ap_dFor, ap_dComp, ap_dBrk, ap_dCnt, ap_dParM, ap_mNil, ap_mV, ap_mN, ap_dAsg, ap_dPar, ap_dPar3, ap_dApp, ap_dExt, ap_dNo, ap_dSome, ap_asInt, ap_dSl, getV_zero, getV_succ, getB_zero, getB_zeroO, getB_succ, ownL_zero, ownL_succ, tgName_ap, forT_nil, ret_bind, fail_bind, exc_bind, bind_assoc', add_ii, sub_ii, lt_ii, le_ii, gt_ii, ge_ii, eq_ii, ne_ii, abs_i, int_i, int_b, len_l, len_t, items_l, items_t, truth_b, asObj_self, List.set_cons_succ, List.set_cons_zero, if_true, if_false, Bool.false_eq_true, Bool.not_true, Bool.not_false, hd, eqN_nil, hl]
        exact hgo
      | false =>
        try simp only [ap_cst, ap_gV, ap_gB, ap_dLst, ap_dNil, ap_dCons, ap_dTup, ap_dB, ap_dBl, ap_dU, ap_dC, ap_dCK, ap_dNot, ap_dAnd, ap_dOr, ap_dAndV, ap_dOrV, ap_dNotV, ap_dIf, ap_dSeq, ap_dSkip, ap_dF, ap_dRet, ap_dRetN, ap_dSet, ap_dOwn, ap_dDrop, ap_dFor, ap_dComp, ap_dBrk, ap_dCnt, ap_dParM, ap_mNil, ap_mV, ap_mN, ap_dAsg, ap_dPar, ap_dPar3, ap_dApp, ap_dExt, ap_dNo, ap_dSome, ap_asInt, ap_dSl, getV_zero, getV_succ, getB_zero, getB_zeroO, getB_succ, ownL_zero, ownL_succ, tgName_ap, forT_nil, ret_bind, fail_bind, exc_bind, bind_assoc', add_ii, sub_ii, lt_ii, le_ii, gt_ii, ge_ii, eq_ii, ne_ii, abs_i, int_i, int_b, len_l, len_t, items_l, items_t, truth_b, asObj_self, List.set_cons_succ, List.set_cons_zero, if_true, if_false, Bool.false_eq_true, Bool.not_true, Bool.not_false, hd, eqN_nil, hl]
        rw [wq_ret]
        exact ⟨t2, (by rintro rfl; cases hl), rfl⟩
  obtain ⟨t2, hne, rfl⟩ := he
  have hpos := List.length_pos_iff.mpr hne
  have hlen := h.1
  refine wq_seq (fun e => ∃ k : Nat, k < l.length ∧ e = IE a0 p l (.val (.int (t : Int))) (.val (.int (k : Int))) .un .un .un) ?_ fun e he => ?_
  · try simp only [ap_cst, ap_gV, ap_gB, ap_dLst, ap_dNil, ap_dCons, ap_dTup, ap_dB, ap_dBl, ap_dU, ap_dC, ap_dCK, ap_dNot, ap_dAnd, ap_dOr, ap_dAndV, ap_dOrV, ap_dNotV, ap_dIf, ap_dSeq, ap_dSkip, ap_dF, ap_dRet, ap_dRetN, ap_dSet, ap_dOwn, ap_dDrop, ap_dFor, ap_dComp, ap_dBrk, ap_dCnt, ap_dParM, ap_mNil, ap_mV, ap_mN, ap_dAsg, ap_dPar, ap_dPar3, ap_dApp, ap_dExt, ap_dNo, ap_dSome, ap_asInt, ap_dSl, getV_zero, getV_succ, getB_zero, getB_zeroO, getB_succ, ownL_zero, ownL_succ, tgName_ap, forT_nil, ret_bind, fail_bind, exc_bind, bind_assoc', add_ii, sub_ii, lt_ii, le_ii, gt_ii, ge_ii, eq_ii, ne_ii, abs_i, int_i, int_b, len_l, len_t, items_l, items_t, truth_b, asObj_self, List.set_cons_succ, List.set_cons_zero, if_true, if_false, Bool.false_eq_true, Bool.not_true, Bool.not_false]
    refine wq_drawN (by omega) (by omega) fun k hk => ?_
    rw [wq_ret]; exact ⟨k, by omega, rfl⟩
  obtain ⟨k, hk, rfl⟩ := he
  have hkd : ∀ d, CellAll (B + 10 ^ 32) 1 [d] → Ent (n + 1) (B + 10 ^ 32) (.tup (l.take k ++ [d] ++ l.drop (k + 1))) := fun d hd => by
    refine ent_tup ⟨?_, fun c hc => ?_⟩
    · simp only [List.length_append, List.length_take, List.length_drop, List.length_singleton]; omega
    · rcases List.mem_append.mp hc with hc | hc
      · rcases List.mem_append.mp hc with hc | hc
        · exact (h.2 c (List.mem_of_mem_take hc)).mono (by omega)
        · exact hd.2 c hc
      · exact (h.2 c (List.mem_of_mem_drop hc)).mono (by omega)
  refine wq_seq (fun e => e = IE a0 p l (.val (.int (t : Int))) (.val (.int (k : Int))) .un .un .un) ?_ fun e he => ?_
  · by_cases t3 : t = 3
    · have hd : decide ((t : Int) = 3) = true := decide_eq_true (by omega)
      have ha : addD (.tup (l.take k)) (.tup (l.drop (k + 1))) = T.ret (.tup (l.take k ++ l.drop (k + 1))) := addTT (by simp only [List.length_take, List.length_drop]; omega)
      try simp only [ap_cst, ap_gV, ap_gB, ap_dLst, ap_dNil, ap_dCons, ap_dTup, ap_dB, ap_dBl, ap_dU, ap_dC, ap_dCK, ap_dNot, ap_dAnd, ap_dOr, ap_dAndV, ap_dOrV, ap_dNotV, ap_dIf, ap_dSeq, ap_dSkip, ap_dF, ap_dRet, ap_dRetN, ap_dSet, ap_dOwn, ap_dDrop, ap_dFor, ap_dComp, ap_dBrk, ap_dCnt, ap_dParM, ap_mNil, ap_mV, ap_mN, ap_dAsg, ap_dPar, ap_dPar3, ap_dApp, ap_dExt, ap_dNo, ap_dSome, ap_asInt, ap_dSl, getV_zero, getV_succ, getB_zero, getB_zeroO, getB_succ, ownL_zero, ownL_succ, tgName_ap, forT_nil, ret_bind, fail_bind, exc_bind, bind_assoc', add_ii, sub_ii, lt_ii, le_ii, gt_ii, ge_ii, eq_ii, ne_ii, abs_i, int_i, int_b, len_l, len_t, items_l, items_t, truth_b, asObj_self, List.set_cons_succ, List.set_cons_zero, if_true, if_false, Bool.false_eq_true, Bool.not_true, Bool.not_false, hd, slT_take, slT_drop1, ha]
      rw [wq_ret]
      refine ent_tup ⟨?_, fun c hc => ?_⟩
      · simp only [List.length_append, List.length_take, List.length_drop]; omega
      · rcases List.mem_append.mp hc with hc | hc
        · exact (h.2 c (List.mem_of_mem_take hc)).mono (by omega)
        · exact (h.2 c (List.mem_of_mem_drop hc)).mono (by omega)
    · have hd : decide ((t : Int) = 3) = false := decide_eq_false (by omega)
      try simp only [ap_cst, ap_gV, ap_gB, ap_dLst, ap_dNil, ap_dCons, ap_dTup, ap_dB, ap_dBl, ap_dU, ap_dC, ap_dCK, ap_dNot, ap_dAnd, ap_dOr, ap_dAndV, ap_dOrV, ap_dNotV, ap_dIf, ap_dSeq, ap_dSkip, ap_dF, ap_dRet, ap_dRetN, ap_dSet, ap_dOwn, ap_dDrop, ap_dFor, ap_dComp, ap_dBrk, ap_dCnt, ap_dParM, ap_mNil, ap_mV, ap_mN, ap_dAsg, ap_dPar, ap_dPar3, ap_dApp, ap_dExt, ap_dNo, ap_dSome, ap_asInt, ap_dSl, getV_zero, getV_succ, getB_zero, getB_zeroO, getB_succ, ownL_zero, ownL_succ, tgName_ap, forT_nil, ret_bind, fail_bind, exc_bind, bind_assoc', add_ii, sub_ii, lt_ii, le_ii, gt_ii, ge_ii, eq_ii, ne_ii, abs_i, int_i, int_b, len_l, len_t, items_l, items_t, truth_b, asObj_self, List.set_cons_succ, List.set_cons_zero, if_true, if_false, Bool.false_eq_true, Bool.not_true, Bool.not_false, hd]
      rw [wq_ret]
  subst he
  have hg : l[k]? = some l[k] := List.getElem?_eq_getElem hk
  have hx := ixT hg
  have hc := h.2 _ (List.getElem_mem hk)
  have hi := integer_eq l[k] (fit_obj hc.1.1)
  refine wq_seq (fun e => ∃ i : Int, i.natAbs ≤ B ∧ e = IE a0 p l (.val (.int (t : Int))) (.val (.int (k : Int))) (.val (.int i)) .un .un) ?_ fun e he => ?_
  · cases hI : isInt l[k] with
    | true =>
      rw [hI] at hi
      try simp only [ap_cst, ap_gV, ap_gB, ap_dLst, ap_dNil, ap_dCons, ap_dTup, ap_dB, ap_dBl, ap_dU, ap_dC, ap_dCK, ap_dNot, ap_dAnd, ap_dOr, ap_dAndV, ap_dOrV, ap_dNotV, ap_dIf, ap_dSeq, ap_dSkip, ap_dF, ap_dRet, ap_dRetN, ap_dSet, ap_dOwn, ap_dDrop, ap_dFor, ap_dComp, ap_dBrk, ap_dCnt, ap_dParM, ap_mNil, ap_mV, ap_mN, ap_dAsg, ap_dPar, ap_dPar3, ap_dApp, ap_dExt, ap_dNo, ap_dSome, ap_asInt, ap_dSl, getV_zero, getV_succ, getB_zero, getB_zeroO, getB_succ, ownL_zero, ownL_succ, tgName_ap, forT_nil, ret_bind, fail_bind, exc_bind, bind_assoc', add_ii, sub_ii, lt_ii, le_ii, gt_ii, ge_ii, eq_ii, ne_ii, abs_i, int_i, int_b, len_l, len_t, items_l, items_t, truth_b, asObj_self, List.set_cons_succ, List.set_cons_zero, if_true, if_false, Bool.false_eq_true, Bool.not_true, Bool.not_false, hx, hi]
      rw [wq_ret]
      have := hc.2
      cases hq : l[k] with
      | int i => exact ⟨i, this i hq, rfl⟩
      | _ => rw [hq] at hI; cases hI
    | false =>
      rw [hI] at hi
      try simp only [ap_cst, ap_gV, ap_gB, ap_dLst, ap_dNil, ap_dCons, ap_dTup, ap_dB, ap_dBl, ap_dU, ap_dC, ap_dCK, ap_dNot, ap_dAnd, ap_dOr, ap_dAndV, ap_dOrV, ap_dNotV, ap_dIf, ap_dSeq, ap_dSkip, ap_dF, ap_dRet, ap_dRetN, ap_dSet, ap_dOwn, ap_dDrop, ap_dFor, ap_dComp, ap_dBrk, ap_dCnt, ap_dParM, ap_mNil, ap_mV, ap_mN, ap_dAsg, ap_dPar, ap_dPar3, ap_dApp, ap_dExt, ap_dNo, ap_dSome, ap_asInt, ap_dSl, getV_zero, getV_succ, getB_zero, getB_zeroO, getB_succ, ownL_zero, ownL_succ, tgName_ap, forT_nil, ret_bind, fail_bind, exc_bind, bind_assoc', add_ii, sub_ii, lt_ii, le_ii, gt_ii, ge_ii, eq_ii, ne_ii, abs_i, int_i, int_b, len_l, len_t, items_l, items_t, truth_b, asObj_self, List.set_cons_succ, List.set_cons_zero, if_true, if_false, Bool.false_eq_true, Bool.not_true, Bool.not_false, hx, hi]
      rw [wq_ret]
      exact ⟨1, by omega, rfl⟩
  obtain ⟨i, hiB, rfl⟩ := he
  refine wq_seq (fun e => ∃ c : Int, c.natAbs ≤ B ∧ e = IE a0 p l (.val (.int (t : Int))) (.val (.int (k : Int))) (.val (.int i)) (.val (.int c)) .un) ?_ fun e he => ?_
  · try simp only [ap_cst, ap_gV, ap_gB, ap_dLst, ap_dNil, ap_dCons, ap_dTup, ap_dB, ap_dBl, ap_dU, ap_dC, ap_dCK, ap_dNot, ap_dAnd, ap_dOr, ap_dAndV, ap_dOrV, ap_dNotV, ap_dIf, ap_dSeq, ap_dSkip, ap_dF, ap_dRet, ap_dRetN, ap_dSet, ap_dOwn, ap_dDrop, ap_dFor, ap_dComp, ap_dBrk, ap_dCnt, ap_dParM, ap_mNil, ap_mV, ap_mN, ap_dAsg, ap_dPar, ap_dPar3, ap_dApp, ap_dExt, ap_dNo, ap_dSome, ap_asInt, ap_dSl, getV_zero, getV_succ, getB_zero, getB_zeroO, getB_succ, ownL_zero, ownL_succ, tgName_ap, forT_nil, ret_bind, fail_bind, exc_bind, bind_assoc', add_ii, sub_ii, lt_ii, le_ii, gt_ii, ge_ii, eq_ii, ne_ii, abs_i, int_i, int_b, len_l, len_t, items_l, items_t, truth_b, asObj_self, List.set_cons_succ, List.set_cons_zero, if_true, if_false, Bool.false_eq_true, Bool.not_true, Bool.not_false]
    refine wq_drawN (by omega) (by omega) fun j hj => ?_
    have hm := mod_pos (i + 1 + (j : Int)) (p : Int) (by omega)
    try simp only [ap_cst, ap_gV, ap_gB, ap_dLst, ap_dNil, ap_dCons, ap_dTup, ap_dB, ap_dBl, ap_dU, ap_dC, ap_dCK, ap_dNot, ap_dAnd, ap_dOr, ap_dAndV, ap_dOrV, ap_dNotV, ap_dIf, ap_dSeq, ap_dSkip, ap_dF, ap_dRet, ap_dRetN, ap_dSet, ap_dOwn, ap_dDrop, ap_dFor, ap_dComp, ap_dBrk, ap_dCnt, ap_dParM, ap_mNil, ap_mV, ap_mN, ap_dAsg, ap_dPar, ap_dPar3, ap_dApp, ap_dExt, ap_dNo, ap_dSome, ap_asInt, ap_dSl, getV_zero, getV_succ, getB_zero, getB_zeroO, getB_succ, ownL_zero, ownL_succ, tgName_ap, forT_nil, ret_bind, fail_bind, exc_bind, bind_assoc', add_ii, sub_ii, lt_ii, le_ii, gt_ii, ge_ii, eq_ii, ne_ii, abs_i, int_i, int_b, len_l, len_t, items_l, items_t, truth_b, asObj_self, List.set_cons_succ, List.set_cons_zero, if_true, if_false, Bool.false_eq_true, Bool.not_true, Bool.not_false, hm]
    rw [wq_ret]
    have h1 := Int.emod_nonneg (i + 1 + (j : Int)) (show (p : Int) ≠ 0 by omega)
    have h2 := Int.emod_lt_of_pos (i + 1 + (j : Int)) (show (0 : Int) < p by omega)
    exact ⟨_, by omega, rfl⟩
  obtain ⟨c, hcB, rfl⟩ := he
  refine wq_seq (fun e => ∃ d, cell (B + 10 ^ 32) d ∧ e = IE a0 p l (.val (.int (t : Int))) (.val (.int (k : Int))) (.val (.int i)) (.val (.int c)) (.val d)) ?_ fun e he => ?_
  · by_cases t5 : 5 < t
    · have hd : decide ((5 : Int) < (t : Int)) = true := decide_eq_true (by omega)
      try simp only [ap_cst, ap_gV, ap_gB, ap_dLst, ap_dNil, ap_dCons, ap_dTup, ap_dB, ap_dBl, ap_dU, ap_dC, ap_dCK, ap_dNot, ap_dAnd, ap_dOr, ap_dAndV, ap_dOrV, ap_dNotV, ap_dIf, ap_dSeq, ap_dSkip, ap_dF, ap_dRet, ap_dRetN, ap_dSet, ap_dOwn, ap_dDrop, ap_dFor, ap_dComp, ap_dBrk, ap_dCnt, ap_dParM, ap_mNil, ap_mV, ap_mN, ap_dAsg, ap_dPar, ap_dPar3, ap_dApp, ap_dExt, ap_dNo, ap_dSome, ap_asInt, ap_dSl, getV_zero, getV_succ, getB_zero, getB_zeroO, getB_succ, ownL_zero, ownL_succ, tgName_ap, forT_nil, ret_bind, fail_bind, exc_bind, bind_assoc', add_ii, sub_ii, lt_ii, le_ii, gt_ii, ge_ii, eq_ii, ne_ii, abs_i, int_i, int_b, len_l, len_t, items_l, items_t, truth_b, asObj_self, List.set_cons_succ, List.set_cons_zero, if_true, if_false, Bool.false_eq_true, Bool.not_true, Bool.not_false, hd]
      rw [wq_ret]
      exact ⟨_, cell_int (by omega) (by omega), rfl⟩
    · have hd : decide ((5 : Int) < (t : Int)) = false := decide_eq_false (by omega)
      by_cases t6 : t = 5
      · have hd2 : decide ((t : Int) = 5) = true := decide_eq_true (by omega)
        have hbl : ∀ b : Bool, cell (B + 10 ^ 32) (.bl b) := fun b => cell_non (by cases b <;> rfl) rfl
        by_cases i2 : i < 2
        · have hd3 : decide (i < 2) = true := decide_eq_true i2
          try simp only [ap_cst, ap_gV, ap_gB, ap_dLst, ap_dNil, ap_dCons, ap_dTup, ap_dB, ap_dBl, ap_dU, ap_dC, ap_dCK, ap_dNot, ap_dAnd, ap_dOr, ap_dAndV, ap_dOrV, ap_dNotV, ap_dIf, ap_dSeq, ap_dSkip, ap_dF, ap_dRet, ap_dRetN, ap_dSet, ap_dOwn, ap_dDrop, ap_dFor, ap_dComp, ap_dBrk, ap_dCnt, ap_dParM, ap_mNil, ap_mV, ap_mN, ap_dAsg, ap_dPar, ap_dPar3, ap_dApp, ap_dExt, ap_dNo, ap_dSome, ap_asInt, ap_dSl, getV_zero, getV_succ, getB_zero, getB_zeroO, getB_succ, ownL_zero, ownL_succ, tgName_ap, forT_nil, ret_bind, fail_bind, exc_bind, bind_assoc', add_ii, sub_ii, lt_ii, le_ii, gt_ii, ge_ii, eq_ii, ne_ii, abs_i, int_i, int_b, len_l, len_t, items_l, items_t, truth_b, asObj_self, List.set_cons_succ, List.set_cons_zero, if_true, if_false, Bool.false_eq_true, Bool.not_true, Bool.not_false, hd, hd2, hd3]
          rw [wq_ret]
          exact ⟨_, hbl _, rfl⟩
        · have hd3 : decide (i < 2) = false := decide_eq_false i2
          try simp only [ap_cst, ap_gV, ap_gB, ap_dLst, ap_dNil, ap_dCons, ap_dTup, ap_dB, ap_dBl, ap_dU, ap_dC, ap_dCK, ap_dNot, ap_dAnd, ap_dOr, ap_dAndV, ap_dOrV, ap_dNotV, ap_dIf, ap_dSeq, ap_dSkip, ap_dF, ap_dRet, ap_dRetN, ap_dSet, ap_dOwn, ap_dDrop, ap_dFor, ap_dComp, ap_dBrk, ap_dCnt, ap_dParM, ap_mNil, ap_mV, ap_mN, ap_dAsg, ap_dPar, ap_dPar3, ap_dApp, ap_dExt, ap_dNo, ap_dSome, ap_asInt, ap_dSl, getV_zero, getV_succ, getB_zero, getB_zeroO, getB_succ, ownL_zero, ownL_succ, tgName_ap, forT_nil, ret_bind, fail_bind, exc_bind, bind_assoc', add_ii, sub_ii, lt_ii, le_ii, gt_ii, ge_ii, eq_ii, ne_ii, abs_i, int_i, int_b, len_l, len_t, items_l, items_t, truth_b, asObj_self, List.set_cons_succ, List.set_cons_zero, if_true, if_false, Bool.false_eq_true, Bool.not_true, Bool.not_false, hd, hd2, hd3]
          refine wq_use (pick_wp (Q := cell (B + 10 ^ 32)) (by simp) (by simp) fun d hd => ?_) fun d hd => ?_
          · rcases List.mem_cons.mp hd with rfl | hd
            · exact hbl _
            · rw [List.mem_singleton.mp hd]; exact hbl _
          · rw [wq_ret]; exact ⟨d, hd, rfl⟩
      · have hd2 : decide ((t : Int) = 5) = false := decide_eq_false (by omega)
        have hmul : mulD (.int (p : Int)) (.int (10 ^ 30)) = T.ret (.int ((p : Int) * 10 ^ 30)) := mul_small _ _ (.inl (by omega))
        have hst := str_of hb40 hiB
        try simp only [ap_cst, ap_gV, ap_gB, ap_dLst, ap_dNil, ap_dCons, ap_dTup, ap_dB, ap_dBl, ap_dU, ap_dC, ap_dCK, ap_dNot, ap_dAnd, ap_dOr, ap_dAndV, ap_dOrV, ap_dNotV, ap_dIf, ap_dSeq, ap_dSkip, ap_dF, ap_dRet, ap_dRetN, ap_dSet, ap_dOwn, ap_dDrop, ap_dFor, ap_dComp, ap_dBrk, ap_dCnt, ap_dParM, ap_mNil, ap_mV, ap_mN, ap_dAsg, ap_dPar, ap_dPar3, ap_dApp, ap_dExt, ap_dNo, ap_dSome, ap_asInt, ap_dSl, getV_zero, getV_succ, getB_zero, getB_zeroO, getB_succ, ownL_zero, ownL_succ, tgName_ap, forT_nil, ret_bind, fail_bind, exc_bind, bind_assoc', add_ii, sub_ii, lt_ii, le_ii, gt_ii, ge_ii, eq_ii, ne_ii, abs_i, int_i, int_b, len_l, len_t, items_l, items_t, truth_b, asObj_self, List.set_cons_succ, List.set_cons_zero, if_true, if_false, Bool.false_eq_true, Bool.not_true, Bool.not_false, hd, hd2, pow30, neg_1, hmul, hst]
        refine wq_use (pick_wp (Q := cell (B + 10 ^ 32)) (by simp) (by simp) fun d hd => ?_) fun d hd => ?_
        · simp only [List.mem_cons, List.not_mem_nil, or_false] at hd
          rcases hd with rfl | rfl | rfl | rfl | rfl | rfl | rfl | rfl
          · exact cell_int (by omega) (by omega)
          · exact cell_int (by omega) (by omega)
          · exact cell_int (by omega) (by omega)
          · exact cell_int (by omega) (by omega)
          · exact cell_int (by omega) (by omega)
          · exact (cell_str hb40 hiB).mono (by omega)
          · refine ⟨?_, fun j hj => by cases hj⟩
            have hk := kz_int (i := i) (Nat.lt_of_le_of_lt (Nat.le_trans hiB hb40) big_pow)
            exact ⟨fit3All_iff.mpr fun c hc => by rw [List.mem_singleton.mp hc]; exact hk.1, by show 1921 + 2 + 0 + 4 ≤ 2000; decide, by show max 0 0 + 1 ≤ 3; decide⟩
          · exact cell_non rfl rfl
        · rw [wq_ret]; exact ⟨d, hd, rfl⟩
  obtain ⟨d, hd, rfl⟩ := he
  have ha : addD (.tup (l.take k)) (.tup [d]) = T.ret (.tup (l.take k ++ [d])) := addTT (by simp only [List.length_take, List.length_singleton]; omega)
  have ha2 : addD (.tup (l.take k ++ [d])) (.tup (l.drop (k + 1))) = T.ret (.tup (l.take k ++ [d] ++ l.drop (k + 1))) := addTT (by simp only [List.length_append, List.length_take, List.length_drop, List.length_singleton]; omega)
  try simp only [ap_cst, ap_gV, ap_gB, ap_dLst, ap_dNil, ap_dCons, ap_dTup, ap_dB, ap_dBl, ap_dU, ap_dC, ap_dCK, ap_dNot, ap_dAnd, ap_dOr, ap_dAndV, ap_dOrV, ap_dNotV, ap_dIf, ap_dSeq, ap_dSkip, ap_dF, ap_dRet, ap_dRetN, ap_dSet, ap_dOwn, ap_dDrop, ap_dFor, ap_dComp, ap_dBrk, ap_dCnt, ap_dParM, ap_mNil, ap_mV, ap_mN, ap_dAsg, ap_dPar, ap_dPar3, ap_dApp, ap_dExt, ap_dNo, ap_dSome, ap_asInt, ap_dSl, getV_zero, getV_succ, getB_zero, getB_zeroO, getB_succ, ownL_zero, ownL_succ, tgName_ap, forT_nil, ret_bind, fail_bind, exc_bind, bind_assoc', add_ii, sub_ii, lt_ii, le_ii, gt_ii, ge_ii, eq_ii, ne_ii, abs_i, int_i, int_b, len_l, len_t, items_l, items_t, truth_b, asObj_self, List.set_cons_succ, List.set_cons_zero, if_true, if_false, Bool.false_eq_true, Bool.not_true, Bool.not_false, slT_take, slT_drop1, ha, ha2]
  rw [wq_ret]
  exact hkd d (.one hd)
end Law

namespace Law
open PySem PySem.Spec PyProof.Rows L2 Eng
variable {E : Str → List D → Prop}
def LotP (m n B : Nat) (l : List D) : Prop := l.length ≤ m ∧ ∀ d ∈ l, Ent n B d
theorem LotP.mono {m n B m' n' B' : Nat} {l : List D} (h : LotP m n B l) (hm : m ≤ m') (hn : n ≤ n') (hB : B ≤ B') : LotP m' n' B' l := ⟨Nat.le_trans h.1 hm, fun d hd => (h.2 d hd).mono hB hn⟩
theorem LotP.ins {m n B : Nat} {l : List D} (h : LotP m n B l) {d : D} (hd : Ent n B d) (j : Nat) : LotP (m + 1) n B (l.take j ++ [d] ++ l.drop j) := by
  refine ⟨?_, fun c hc => ?_⟩
  · have := h.1
    simp only [List.length_append, List.length_take, List.length_drop, List.length_singleton]; omega
  · rcases List.mem_append.mp hc with hc | hc
    · rcases List.mem_append.mp hc with hc | hc
      · exact h.2 c (List.mem_of_mem_take hc)
      · rw [List.mem_singleton.mp hc]; exact hd
    · exact h.2 c (List.mem_of_mem_drop hc)
theorem LotP.set {m n B : Nat} {l : List D} (h : LotP m n B l) {d : D} (hd : Ent n B d) (j : Nat) : LotP m n B (l.set j d) := by
  refine ⟨by rw [List.length_set]; exact h.1, fun c hc => ?_⟩
  rcases List.mem_or_eq_of_mem_set hc with hc | rfl
  · exact h.2 c hc
  · exact hd
theorem LotP.erase {m n B : Nat} {l : List D} (h : LotP m n B l) (j : Nat) : LotP m n B (l.eraseIdx j) := ⟨Nat.le_trans (List.length_eraseIdx_le l j) h.1, fun c hc => h.2 c (List.mem_of_mem_eraseIdx hc)⟩
theorem rowD_ent {p k n B : Nat} {d : D} (h : RowD p k d) (hp : p ≤ 7) (hk : k ≤ n) (hB : 7 ≤ B) (hB4 : B ≤ 10 ^ 40) : Ent n B d := by
  obtain ⟨l, rfl, hl, hlt⟩ := h
  refine ent_tup ⟨by rw [List.length_map, hl]; exact hk, fun c hc => ?_⟩
  obtain ⟨i, hi, rfl⟩ := List.mem_map.mp hc
  have := hlt i hi
  exact cell_int hB4 (by omega)
abbrev RE (a0 : Addr) (p k : Nat) (l : List D) (t : Nat) (m : List D) (x6 x7 x8 x9 x10 x11 x12 x13 : Sl) : Eng.Env := [.val (.obj a0), .val (.int (p : Int)), .val (.int (k : Int)), .val (.lst l), .val (.int (t : Int)), .own (.lst m), x6, x7, x8, x9, x10, x11, x12, x13]
theorem mulmod (c i : Nat) (p : Nat) (hp : 0 < p) (hc : c < 1000) : mulD (.int (c : Int)) (.int (i : Int)) = T.ret (.int ((c * i : Nat) : Int)) := by
  rw [mul_small _ _ (.inl (by omega)), Int.natCast_mul]
abbrev rowsC (a0 : Addr) : Eng.Env → T Out := (dIf (dB eqD (gV 4) (cst (.int 1))) (dIns 5 (dCons (gV 8) (dCons (dB ixD (gB 5) (gV 7)) dNil))) (dIf (dB eqD (gV 4) (cst (.int 2))) (dSeq (dSet 11 (dB ixD (gB 5) (gV 7)))
      (dSeq (dSetIx 5 (dB ixD (gB 5) (gV 8)) (gV 7))
      (dSetIx 5 (gV 11) (gV 8)))) (dIf (dB eqD (gV 4) (cst (.int 3))) (dExpP (popAt 5 (gV 7))) (dIf (dAnd (dB eqD (gV 4) (cst (.int 4))) (dB eqD (dC lenD (dCons (gB 9) dNil)) (cst (.int 2)))) (dSetIx 5 (dC t_l_sum (dCons (gV 1) (dCons (dB ixD (gB 9) (cst (.int 0))) (dCons (dB ixD (gB 9) (cst (.int 1))) dNil)))) (gV 8)) (dIf (dAnd (dB eqD (gV 4) (cst (.int 5))) (dB neNilLD (gB 9) (dLst dNil))) (dSeq (dSet 12 (dC (drawT a0) (dCons (gV 0) (dCons (gV 1) dNil))))
            (dSetIx 5 (dC tupleD (dCons (dLst (dComp (dU itemsD (dB ixD (gB 9) (cst (.int 0)))) (tgName 13) (fun _ => T.ret true) (dB modD (dC intD (dCons (dB mulD (gV 12) (gV 13)) dNil)) (gV 1)) [13])) dNil)) (gV 7))) (dIf (dB eqD (gV 4) (cst (.int 6))) (dSetIx 5 (dC (t_l_drawn a0) (dCons (gV 0) (dCons (gV 1) (dCons (gV 2) dNil)))) (gV 7)) (dIf (dU truthD (dU (isiD "tuple") (dB ixD (gB 5) (gV 7)))) (dSetIx 5 (dC (t_l_item a0) (dCons (gV 0) (dCons (gV 1) (dCons (dB ixD (gB 5) (gV 7)) dNil)))) (gV 7)) dSkip)))))))
def rowsQ (a0 : Addr) (p k : Nat) (l : List D) (t m n B : Nat) : Out → Prop := fun o => match o with
  | .nx e => ∃ l' x6 x7 x8 x9 x10 x11 x12 x13, LotP m n B l' ∧ e = RE a0 p k l t l' x6 x7 x8 x9 x10 x11 x12 x13
  | .rt d => False
  | .bk e => False
  | .ct e => False
theorem rows_chain (a0 : Addr) (p k m n B : Nat) (hp : 2 ≤ p) (hp7 : p ≤ 7) (hk8 : k ≤ 8) (hm : m ≤ 100) (hn8 : 8 ≤ n) (hn : n ≤ 90) (hB : 7 ≤ B) (hB2 : B + 10 ^ 32 ≤ 10 ^ 40) (l : List D) (h : LotP m n B l) (t a b : Nat) (ha : a < l.length) (hb : b < l.length) (F : List D) (hfl : ∀ d ∈ F, RowD p k d) :
    wq (rowsC a0 (RE a0 p k l t l .un (.val (.int (a : Int))) (.val (.int (b : Int))) (.own (.lst F)) .un .un .un .un)) (rowsQ a0 p k l t (m + 1) (n + 1) (B + 10 ^ 32)) E := by
  have h' : LotP (m + 1) (n + 1) (B + 10 ^ 32) l := h.mono (Nat.le_succ m) (Nat.le_succ n) (show B ≤ B + 10 ^ 32 by omega)
  have h'' : LotP m (n + 1) (B + 10 ^ 32) l := h.mono (Nat.le_refl m) (Nat.le_succ n) (show B ≤ B + 10 ^ 32 by omega)
  have hlen := h.1
  have hrow : ∀ d, RowD p k d → Ent (n + 1) (B + 10 ^ 32) d := fun d hd => rowD_ent hd hp7 (by omega) (by omega) hB2
  have xa := ixL (List.getElem?_eq_getElem ha)
  have ga : l[a]? = some l[a] := List.getElem?_eq_getElem ha
  have xb := ixL (List.getElem?_eq_getElem hb)
  have ea := h''.2 _ (List.getElem_mem ha)
  have eb := h''.2 _ (List.getElem_mem hb)
  refine wq_if (c := decide ((t : Int) = 1)) (by try simp only [ap_cst, ap_gV, ap_gB, ap_dLst, ap_dNil, ap_dCons, ap_dTup, ap_dB, ap_dBl, ap_dU, ap_dC, ap_dCK, ap_dNot, ap_dAnd, ap_dOr, ap_dAndV, ap_dOrV, ap_dNotV, ap_dIf, ap_dSeq, ap_dSkip, ap_dF, ap_dRet, ap_dRetN, ap_dSet, ap_dOwn, ap_dDrop, ap_dFor, ap_dComp, ap_dBrk, ap_dCnt, ap_dParM, ap_mNil, ap_mV, ap_mN, ap_dAsg, ap_dPar, ap_dPar3, ap_dApp, ap_dExt, ap_dNo, ap_dSome, ap_asInt, ap_dSl, getV_zero, getV_succ, getB_zero, getB_zeroO, getB_succ, ownL_zero, ownL_succ, tgName_ap, forT_nil, ret_bind, fail_bind, exc_bind, bind_assoc', add_ii, sub_ii, lt_ii, le_ii, gt_ii, ge_ii, eq_ii, ne_ii, abs_i, int_i, int_b, len_l, len_t, items_l, items_t, truth_b, asObj_self, List.set_cons_succ, List.set_cons_zero, if_true, if_false, Bool.false_eq_true, Bool.not_true, Bool.not_false]) (fun _ => ?_) (fun _ => ?_)
  · try simp only [ap_cst, ap_gV, ap_gB, ap_dLst, ap_dNil, ap_dCons, ap_dTup, ap_dB, ap_dBl, ap_dU, ap_dC, ap_dCK, ap_dNot, ap_dAnd, ap_dOr, ap_dAndV, ap_dOrV, ap_dNotV, ap_dIf, ap_dSeq, ap_dSkip, ap_dF, ap_dRet, ap_dRetN, ap_dSet, ap_dOwn, ap_dDrop, ap_dFor, ap_dComp, ap_dBrk, ap_dCnt, ap_dParM, ap_mNil, ap_mV, ap_mN, ap_dAsg, ap_dPar, ap_dPar3, ap_dApp, ap_dExt, ap_dNo, ap_dSome, ap_asInt, ap_dSl, getV_zero, getV_succ, getB_zero, getB_zeroO, getB_succ, ownL_zero, ownL_succ, tgName_ap, forT_nil, ret_bind, fail_bind, exc_bind, bind_assoc', add_ii, sub_ii, lt_ii, le_ii, gt_ii, ge_ii, eq_ii, ne_ii, abs_i, int_i, int_b, len_l, len_t, items_l, items_t, truth_b, asObj_self, List.set_cons_succ, List.set_cons_zero, if_true, if_false, Bool.false_eq_true, Bool.not_true, Bool.not_false, ap_dIns, xa]
    rw [if_pos ⟨by rw [sizeLine_eq]; omega, by omega, by omega⟩, wq_ret, Int.toNat_natCast]
    exact ⟨_, _, _, _, _, _, _, _, _, h''.ins ea b, rfl⟩
  refine wq_if (c := decide ((t : Int) = 2)) (by try simp only [ap_cst, ap_gV, ap_gB, ap_dLst, ap_dNil, ap_dCons, ap_dTup, ap_dB, ap_dBl, ap_dU, ap_dC, ap_dCK, ap_dNot, ap_dAnd, ap_dOr, ap_dAndV, ap_dOrV, ap_dNotV, ap_dIf, ap_dSeq, ap_dSkip, ap_dF, ap_dRet, ap_dRetN, ap_dSet, ap_dOwn, ap_dDrop, ap_dFor, ap_dComp, ap_dBrk, ap_dCnt, ap_dParM, ap_mNil, ap_mV, ap_mN, ap_dAsg, ap_dPar, ap_dPar3, ap_dApp, ap_dExt, ap_dNo, ap_dSome, ap_asInt, ap_dSl, getV_zero, getV_succ, getB_zero, getB_zeroO, getB_succ, ownL_zero, ownL_succ, tgName_ap, forT_nil, ret_bind, fail_bind, exc_bind, bind_assoc', add_ii, sub_ii, lt_ii, le_ii, gt_ii, ge_ii, eq_ii, ne_ii, abs_i, int_i, int_b, len_l, len_t, items_l, items_t, truth_b, asObj_self, List.set_cons_succ, List.set_cons_zero, if_true, if_false, Bool.false_eq_true, Bool.not_true, Bool.not_false]) (fun _ => ?_) (fun _ => ?_)
  · have hb2 : b < (l.set a l[b]).length := by rw [List.length_set]; exact hb
    try simp only [ap_cst, ap_gV, ap_gB, ap_dLst, ap_dNil, ap_dCons, ap_dTup, ap_dB, ap_dBl, ap_dU, ap_dC, ap_dCK, ap_dNot, ap_dAnd, ap_dOr, ap_dAndV, ap_dOrV, ap_dNotV, ap_dIf, ap_dSeq, ap_dSkip, ap_dF, ap_dRet, ap_dRetN, ap_dSet, ap_dOwn, ap_dDrop, ap_dFor, ap_dComp, ap_dBrk, ap_dCnt, ap_dParM, ap_mNil, ap_mV, ap_mN, ap_dAsg, ap_dPar, ap_dPar3, ap_dApp, ap_dExt, ap_dNo, ap_dSome, ap_asInt, ap_dSl, getV_zero, getV_succ, getB_zero, getB_zeroO, getB_succ, ownL_zero, ownL_succ, tgName_ap, forT_nil, ret_bind, fail_bind, exc_bind, bind_assoc', add_ii, sub_ii, lt_ii, le_ii, gt_ii, ge_ii, eq_ii, ne_ii, abs_i, int_i, int_b, len_l, len_t, items_l, items_t, truth_b, asObj_self, List.set_cons_succ, List.set_cons_zero, if_true, if_false, Bool.false_eq_true, Bool.not_true, Bool.not_false, xa, xb, ap_dSetIx, ixN_nat ha, ixN_nat hb2]
    rw [wq_ret]
    exact ⟨_, _, _, _, _, _, _, _, _, ((h''.set eb a).set ea b).mono (Nat.le_succ m) (Nat.le_refl _) (Nat.le_refl _), rfl⟩
  refine wq_if (c := decide ((t : Int) = 3)) (by try simp only [ap_cst, ap_gV, ap_gB, ap_dLst, ap_dNil, ap_dCons, ap_dTup, ap_dB, ap_dBl, ap_dU, ap_dC, ap_dCK, ap_dNot, ap_dAnd, ap_dOr, ap_dAndV, ap_dOrV, ap_dNotV, ap_dIf, ap_dSeq, ap_dSkip, ap_dF, ap_dRet, ap_dRetN, ap_dSet, ap_dOwn, ap_dDrop, ap_dFor, ap_dComp, ap_dBrk, ap_dCnt, ap_dParM, ap_mNil, ap_mV, ap_mN, ap_dAsg, ap_dPar, ap_dPar3, ap_dApp, ap_dExt, ap_dNo, ap_dSome, ap_asInt, ap_dSl, getV_zero, getV_succ, getB_zero, getB_zeroO, getB_succ, ownL_zero, ownL_succ, tgName_ap, forT_nil, ret_bind, fail_bind, exc_bind, bind_assoc', add_ii, sub_ii, lt_ii, le_ii, gt_ii, ge_ii, eq_ii, ne_ii, abs_i, int_i, int_b, len_l, len_t, items_l, items_t, truth_b, asObj_self, List.set_cons_succ, List.set_cons_zero, if_true, if_false, Bool.false_eq_true, Bool.not_true, Bool.not_false]) (fun _ => ?_) (fun _ => ?_)
  · have hp := popAt_nat (env := RE a0 p k l t l .un (.val (.int (a : Int))) (.val (.int (b : Int))) (.own (.lst F)) .un .un .un .un) (i := 5) (w := gV 7) rfl rfl ga (by omega)
    try simp only [ap_cst, ap_gV, ap_gB, ap_dLst, ap_dNil, ap_dCons, ap_dTup, ap_dB, ap_dBl, ap_dU, ap_dC, ap_dCK, ap_dNot, ap_dAnd, ap_dOr, ap_dAndV, ap_dOrV, ap_dNotV, ap_dIf, ap_dSeq, ap_dSkip, ap_dF, ap_dRet, ap_dRetN, ap_dSet, ap_dOwn, ap_dDrop, ap_dFor, ap_dComp, ap_dBrk, ap_dCnt, ap_dParM, ap_mNil, ap_mV, ap_mN, ap_dAsg, ap_dPar, ap_dPar3, ap_dApp, ap_dExt, ap_dNo, ap_dSome, ap_asInt, ap_dSl, getV_zero, getV_succ, getB_zero, getB_zeroO, getB_succ, ownL_zero, ownL_succ, tgName_ap, forT_nil, ret_bind, fail_bind, exc_bind, bind_assoc', add_ii, sub_ii, lt_ii, le_ii, gt_ii, ge_ii, eq_ii, ne_ii, abs_i, int_i, int_b, len_l, len_t, items_l, items_t, truth_b, asObj_self, List.set_cons_succ, List.set_cons_zero, if_true, if_false, Bool.false_eq_true, Bool.not_true, Bool.not_false, ap_dExpP, hp]
    rw [wq_ret]
    exact ⟨_, _, _, _, _, _, _, _, _, h'.erase a, rfl⟩
  refine wq_if (c := (decide ((t : Int) = 4) && decide ((F.length : Int) = 2))) ?_ (fun hc => ?_) (fun _ => ?_)
  · by_cases t4 : t = 4
    · have hd : decide ((t : Int) = 4) = true := decide_eq_true (by omega)
      try simp only [ap_cst, ap_gV, ap_gB, ap_dLst, ap_dNil, ap_dCons, ap_dTup, ap_dB, ap_dBl, ap_dU, ap_dC, ap_dCK, ap_dNot, ap_dAnd, ap_dOr, ap_dAndV, ap_dOrV, ap_dNotV, ap_dIf, ap_dSeq, ap_dSkip, ap_dF, ap_dRet, ap_dRetN, ap_dSet, ap_dOwn, ap_dDrop, ap_dFor, ap_dComp, ap_dBrk, ap_dCnt, ap_dParM, ap_mNil, ap_mV, ap_mN, ap_dAsg, ap_dPar, ap_dPar3, ap_dApp, ap_dExt, ap_dNo, ap_dSome, ap_asInt, ap_dSl, getV_zero, getV_succ, getB_zero, getB_zeroO, getB_succ, ownL_zero, ownL_succ, tgName_ap, forT_nil, ret_bind, fail_bind, exc_bind, bind_assoc', add_ii, sub_ii, lt_ii, le_ii, gt_ii, ge_ii, eq_ii, ne_ii, abs_i, int_i, int_b, len_l, len_t, items_l, items_t, truth_b, asObj_self, List.set_cons_succ, List.set_cons_zero, if_true, if_false, Bool.false_eq_true, Bool.not_true, Bool.not_false, hd, Bool.true_and]
    · have hd : decide ((t : Int) = 4) = false := decide_eq_false (by omega)
      try simp only [ap_cst, ap_gV, ap_gB, ap_dLst, ap_dNil, ap_dCons, ap_dTup, ap_dB, ap_dBl, ap_dU, ap_dC, ap_dCK, ap_dNot, ap_dAnd, ap_dOr, ap_dAndV, ap_dOrV, ap_dNotV, ap_dIf, ap_dSeq, ap_dSkip, ap_dF, ap_dRet, ap_dRetN, ap_dSet, ap_dOwn, ap_dDrop, ap_dFor, ap_dComp, ap_dBrk, ap_dCnt, ap_dParM, ap_mNil, ap_mV, ap_mN, ap_dAsg, ap_dPar, ap_dPar3, ap_dApp, ap_dExt, ap_dNo, ap_dSome, ap_asInt, ap_dSl, getV_zero, getV_succ, getB_zero, getB_zeroO, getB_succ, ownL_zero, ownL_succ, tgName_ap, forT_nil, ret_bind, fail_bind, exc_bind, bind_assoc', add_ii, sub_ii, lt_ii, le_ii, gt_ii, ge_ii, eq_ii, ne_ii, abs_i, int_i, int_b, len_l, len_t, items_l, items_t, truth_b, asObj_self, List.set_cons_succ, List.set_cons_zero, if_true, if_false, Bool.false_eq_true, Bool.not_true, Bool.not_false, hd, Bool.false_and]
  · have hF2 : F.length = 2 := by have := of_decide_eq_true (Bool.and_eq_true_iff.mp hc).2; omega
    match F, hF2, hfl with
    | [d1, d2], _, hfl =>
      obtain ⟨c, hs, hr⟩ := sum_eq (show 1 ≤ p by omega) (hfl d1 (by simp)) (hfl d2 (by simp))
      have x1 : ixD (.lst [d1, d2]) (.int 0) = T.ret d1 := rfl
      have x2 : ixD (.lst [d1, d2]) (.int 1) = T.ret d2 := rfl
      try simp only [ap_cst, ap_gV, ap_gB, ap_dLst, ap_dNil, ap_dCons, ap_dTup, ap_dB, ap_dBl, ap_dU, ap_dC, ap_dCK, ap_dNot, ap_dAnd, ap_dOr, ap_dAndV, ap_dOrV, ap_dNotV, ap_dIf, ap_dSeq, ap_dSkip, ap_dF, ap_dRet, ap_dRetN, ap_dSet, ap_dOwn, ap_dDrop, ap_dFor, ap_dComp, ap_dBrk, ap_dCnt, ap_dParM, ap_mNil, ap_mV, ap_mN, ap_dAsg, ap_dPar, ap_dPar3, ap_dApp, ap_dExt, ap_dNo, ap_dSome, ap_asInt, ap_dSl, getV_zero, getV_succ, getB_zero, getB_zeroO, getB_succ, ownL_zero, ownL_succ, tgName_ap, forT_nil, ret_bind, fail_bind, exc_bind, bind_assoc', add_ii, sub_ii, lt_ii, le_ii, gt_ii, ge_ii, eq_ii, ne_ii, abs_i, int_i, int_b, len_l, len_t, items_l, items_t, truth_b, asObj_self, List.set_cons_succ, List.set_cons_zero, if_true, if_false, Bool.false_eq_true, Bool.not_true, Bool.not_false, x1, x2, hs, ap_dSetIx, ixN_nat hb]
      rw [wq_ret]
      exact ⟨_, _, _, _, _, _, _, _, _, h'.set (hrow c hr) b, rfl⟩
  refine wq_if (c := (decide ((t : Int) = 5) && !F.isEmpty)) ?_ (fun hc => ?_) (fun _ => ?_)
  · by_cases t4 : t = 5
    · have hd : decide ((t : Int) = 5) = true := decide_eq_true (by omega)
      try simp only [ap_cst, ap_gV, ap_gB, ap_dLst, ap_dNil, ap_dCons, ap_dTup, ap_dB, ap_dBl, ap_dU, ap_dC, ap_dCK, ap_dNot, ap_dAnd, ap_dOr, ap_dAndV, ap_dOrV, ap_dNotV, ap_dIf, ap_dSeq, ap_dSkip, ap_dF, ap_dRet, ap_dRetN, ap_dSet, ap_dOwn, ap_dDrop, ap_dFor, ap_dComp, ap_dBrk, ap_dCnt, ap_dParM, ap_mNil, ap_mV, ap_mN, ap_dAsg, ap_dPar, ap_dPar3, ap_dApp, ap_dExt, ap_dNo, ap_dSome, ap_asInt, ap_dSl, getV_zero, getV_succ, getB_zero, getB_zeroO, getB_succ, ownL_zero, ownL_succ, tgName_ap, forT_nil, ret_bind, fail_bind, exc_bind, bind_assoc', add_ii, sub_ii, lt_ii, le_ii, gt_ii, ge_ii, eq_ii, ne_ii, abs_i, int_i, int_b, len_l, len_t, items_l, items_t, truth_b, asObj_self, List.set_cons_succ, List.set_cons_zero, if_true, if_false, Bool.false_eq_true, Bool.not_true, Bool.not_false, hd, Bool.true_and, neL_nil]
    · have hd : decide ((t : Int) = 5) = false := decide_eq_false (by omega)
      try simp only [ap_cst, ap_gV, ap_gB, ap_dLst, ap_dNil, ap_dCons, ap_dTup, ap_dB, ap_dBl, ap_dU, ap_dC, ap_dCK, ap_dNot, ap_dAnd, ap_dOr, ap_dAndV, ap_dOrV, ap_dNotV, ap_dIf, ap_dSeq, ap_dSkip, ap_dF, ap_dRet, ap_dRetN, ap_dSet, ap_dOwn, ap_dDrop, ap_dFor, ap_dComp, ap_dBrk, ap_dCnt, ap_dParM, ap_mNil, ap_mV, ap_mN, ap_dAsg, ap_dPar, ap_dPar3, ap_dApp, ap_dExt, ap_dNo, ap_dSome, ap_asInt, ap_dSl, getV_zero, getV_succ, getB_zero, getB_zeroO, getB_succ, ownL_zero, ownL_succ, tgName_ap, forT_nil, ret_bind, fail_bind, exc_bind, bind_assoc', add_ii, sub_ii, lt_ii, le_ii, gt_ii, ge_ii, eq_ii, ne_ii, abs_i, int_i, int_b, len_l, len_t, items_l, items_t, truth_b, asObj_self, List.set_cons_succ, List.set_cons_zero, if_true, if_false, Bool.false_eq_true, Bool.not_true, Bool.not_false, hd, Bool.false_and]
  · have hne := (Bool.and_eq_true_iff.mp hc).2
    match F, hne, hfl with
    | [], hne, _ => cases hne
    | d1 :: r, _, hfl =>
      obtain ⟨us, rfl, hul, hu⟩ := hfl d1 (by simp)
      have x1 : ixD (.lst (.tup (dInts us) :: r)) (.int 0) = T.ret (.tup (dInts us)) := ixL (i := 0) rfl
      refine wq_seq (fun e => ∃ c : Nat, c < p ∧ e = RE a0 p k l t l .un (.val (.int (a : Int))) (.val (.int (b : Int))) (.own (.lst (.tup (dInts us) :: r))) .un .un (.val (.int (c : Int))) .un) ?_ fun e he => ?_
      · try simp only [ap_cst, ap_gV, ap_gB, ap_dLst, ap_dNil, ap_dCons, ap_dTup, ap_dB, ap_dBl, ap_dU, ap_dC, ap_dCK, ap_dNot, ap_dAnd, ap_dOr, ap_dAndV, ap_dOrV, ap_dNotV, ap_dIf, ap_dSeq, ap_dSkip, ap_dF, ap_dRet, ap_dRetN, ap_dSet, ap_dOwn, ap_dDrop, ap_dFor, ap_dComp, ap_dBrk, ap_dCnt, ap_dParM, ap_mNil, ap_mV, ap_mN, ap_dAsg, ap_dPar, ap_dPar3, ap_dApp, ap_dExt, ap_dNo, ap_dSome, ap_asInt, ap_dSl, getV_zero, getV_succ, getB_zero, getB_zeroO, getB_succ, ownL_zero, ownL_succ, tgName_ap, forT_nil, ret_bind, fail_bind, exc_bind, bind_assoc', add_ii, sub_ii, lt_ii, le_ii, gt_ii, ge_ii, eq_ii, ne_ii, abs_i, int_i, int_b, len_l, len_t, items_l, items_t, truth_b, asObj_self, List.set_cons_succ, List.set_cons_zero, if_true, if_false, Bool.false_eq_true, Bool.not_true, Bool.not_false]
        refine wq_drawN (by omega) (by omega) fun c hc => ?_
        rw [wq_ret]
        exact ⟨c, by omega, rfl⟩
      obtain ⟨c, hc, rfl⟩ := he
      have hcomp := compT_all (fun i : Nat => D.int (i : Int)) (fun i : Nat => D.int ((c * i % p : Nat) : Int)) (f := tgName 13) (t := fun _ => T.ret true) (w := dB modD (dC intD (dCons (dB mulD (gV 12) (gV 13)) dNil)) (gV 1)) (env := RE a0 p k l t l .un (.val (.int (a : Int))) (.val (.int (b : Int))) (.own (.lst (.tup (dInts us) :: r))) .un .un (.val (.int (c : Int))) .un) us fun i _ => ⟨RE a0 p k l t l .un (.val (.int (a : Int))) (.val (.int (b : Int))) (.own (.lst (.tup (dInts us) :: r))) .un .un (.val (.int (c : Int))) (.val (.int (i : Int))), rfl, rfl, by
          have h1 := mulmod c i p (by omega) (by omega)
          have h2 := modD_nat (c * i) p (by omega)
          try simp only [ap_cst, ap_gV, ap_gB, ap_dLst, ap_dNil, ap_dCons, ap_dTup, ap_dB, ap_dBl, ap_dU, ap_dC, ap_dCK, ap_dNot, ap_dAnd, ap_dOr, ap_dAndV, ap_dOrV, ap_dNotV, ap_dIf, ap_dSeq, ap_dSkip, ap_dF, ap_dRet, ap_dRetN, ap_dSet, ap_dOwn, ap_dDrop, ap_dFor, ap_dComp, ap_dBrk, ap_dCnt, ap_dParM, ap_mNil, ap_mV, ap_mN, ap_dAsg, ap_dPar, ap_dPar3, ap_dApp, ap_dExt, ap_dNo, ap_dSome, ap_asInt, ap_dSl, getV_zero, getV_succ, getB_zero, getB_zeroO, getB_succ, ownL_zero, ownL_succ, tgName_ap, forT_nil, ret_bind, fail_bind, exc_bind, bind_assoc', add_ii, sub_ii, lt_ii, le_ii, gt_ii, ge_ii, eq_ii, ne_ii, abs_i, int_i, int_b, len_l, len_t, items_l, items_t, truth_b, asObj_self, List.set_cons_succ, List.set_cons_zero, if_true, if_false, Bool.false_eq_true, Bool.not_true, Bool.not_false, h1, h2]⟩
      have hw : wipeE (RE a0 p k l t l .un (.val (.int (a : Int))) (.val (.int (b : Int))) (.own (.lst (.tup (dInts us) :: r))) .un .un (.val (.int (c : Int))) .un) [13] = RE a0 p k l t l .un (.val (.int (a : Int))) (.val (.int (b : Int))) (.own (.lst (.tup (dInts us) :: r))) .un .un (.val (.int (c : Int))) .un := rfl
      try simp only [ap_cst, ap_gV, ap_gB, ap_dLst, ap_dNil, ap_dCons, ap_dTup, ap_dB, ap_dBl, ap_dU, ap_dC, ap_dCK, ap_dNot, ap_dAnd, ap_dOr, ap_dAndV, ap_dOrV, ap_dNotV, ap_dIf, ap_dSeq, ap_dSkip, ap_dF, ap_dRet, ap_dRetN, ap_dSet, ap_dOwn, ap_dDrop, ap_dFor, ap_dComp, ap_dBrk, ap_dCnt, ap_dParM, ap_mNil, ap_mV, ap_mN, ap_dAsg, ap_dPar, ap_dPar3, ap_dApp, ap_dExt, ap_dNo, ap_dSome, ap_asInt, ap_dSl, getV_zero, getV_succ, getB_zero, getB_zeroO, getB_succ, ownL_zero, ownL_succ, tgName_ap, forT_nil, ret_bind, fail_bind, exc_bind, bind_assoc', add_ii, sub_ii, lt_ii, le_ii, gt_ii, ge_ii, eq_ii, ne_ii, abs_i, int_i, int_b, len_l, len_t, items_l, items_t, truth_b, asObj_self, List.set_cons_succ, List.set_cons_zero, if_true, if_false, Bool.false_eq_true, Bool.not_true, Bool.not_false, x1, hw, hcomp, tupL, ap_dSetIx, ixN_nat ha]
      rw [wq_ret]
      refine ⟨_, _, _, _, _, _, _, _, _, h'.set (hrow _ ⟨us.map fun i => c * i % p, by rw [List.map_map]; rfl, by rw [List.length_map]; exact hul, fun i hi => ?_⟩) a, rfl⟩
      obtain ⟨x, _, rfl⟩ := List.mem_map.mp hi
      exact Nat.mod_lt _ (by omega)
  refine wq_if (c := decide ((t : Int) = 6)) (by try simp only [ap_cst, ap_gV, ap_gB, ap_dLst, ap_dNil, ap_dCons, ap_dTup, ap_dB, ap_dBl, ap_dU, ap_dC, ap_dCK, ap_dNot, ap_dAnd, ap_dOr, ap_dAndV, ap_dOrV, ap_dNotV, ap_dIf, ap_dSeq, ap_dSkip, ap_dF, ap_dRet, ap_dRetN, ap_dSet, ap_dOwn, ap_dDrop, ap_dFor, ap_dComp, ap_dBrk, ap_dCnt, ap_dParM, ap_mNil, ap_mV, ap_mN, ap_dAsg, ap_dPar, ap_dPar3, ap_dApp, ap_dExt, ap_dNo, ap_dSome, ap_asInt, ap_dSl, getV_zero, getV_succ, getB_zero, getB_zeroO, getB_succ, ownL_zero, ownL_succ, tgName_ap, forT_nil, ret_bind, fail_bind, exc_bind, bind_assoc', add_ii, sub_ii, lt_ii, le_ii, gt_ii, ge_ii, eq_ii, ne_ii, abs_i, int_i, int_b, len_l, len_t, items_l, items_t, truth_b, asObj_self, List.set_cons_succ, List.set_cons_zero, if_true, if_false, Bool.false_eq_true, Bool.not_true, Bool.not_false]) (fun _ => ?_) (fun _ => ?_)
  · try simp only [ap_cst, ap_gV, ap_gB, ap_dLst, ap_dNil, ap_dCons, ap_dTup, ap_dB, ap_dBl, ap_dU, ap_dC, ap_dCK, ap_dNot, ap_dAnd, ap_dOr, ap_dAndV, ap_dOrV, ap_dNotV, ap_dIf, ap_dSeq, ap_dSkip, ap_dF, ap_dRet, ap_dRetN, ap_dSet, ap_dOwn, ap_dDrop, ap_dFor, ap_dComp, ap_dBrk, ap_dCnt, ap_dParM, ap_mNil, ap_mV, ap_mN, ap_dAsg, ap_dPar, ap_dPar3, ap_dApp, ap_dExt, ap_dNo, ap_dSome, ap_asInt, ap_dSl, getV_zero, getV_succ, getB_zero, getB_zeroO, getB_succ, ownL_zero, ownL_succ, tgName_ap, forT_nil, ret_bind, fail_bind, exc_bind, bind_assoc', add_ii, sub_ii, lt_ii, le_ii, gt_ii, ge_ii, eq_ii, ne_ii, abs_i, int_i, int_b, len_l, len_t, items_l, items_t, truth_b, asObj_self, List.set_cons_succ, List.set_cons_zero, if_true, if_false, Bool.false_eq_true, Bool.not_true, Bool.not_false]
    refine wq_use (drawn_wq a0 p k (by omega) (by omega) (by omega)) fun d hd => ?_
    try simp only [ap_cst, ap_gV, ap_gB, ap_dLst, ap_dNil, ap_dCons, ap_dTup, ap_dB, ap_dBl, ap_dU, ap_dC, ap_dCK, ap_dNot, ap_dAnd, ap_dOr, ap_dAndV, ap_dOrV, ap_dNotV, ap_dIf, ap_dSeq, ap_dSkip, ap_dF, ap_dRet, ap_dRetN, ap_dSet, ap_dOwn, ap_dDrop, ap_dFor, ap_dComp, ap_dBrk, ap_dCnt, ap_dParM, ap_mNil, ap_mV, ap_mN, ap_dAsg, ap_dPar, ap_dPar3, ap_dApp, ap_dExt, ap_dNo, ap_dSome, ap_asInt, ap_dSl, getV_zero, getV_succ, getB_zero, getB_zeroO, getB_succ, ownL_zero, ownL_succ, tgName_ap, forT_nil, ret_bind, fail_bind, exc_bind, bind_assoc', add_ii, sub_ii, lt_ii, le_ii, gt_ii, ge_ii, eq_ii, ne_ii, abs_i, int_i, int_b, len_l, len_t, items_l, items_t, truth_b, asObj_self, List.set_cons_succ, List.set_cons_zero, if_true, if_false, Bool.false_eq_true, Bool.not_true, Bool.not_false, ap_dSetIx, ixN_nat ha]
    rw [wq_ret]
    exact ⟨_, _, _, _, _, _, _, _, _, h'.set (hrow d hd) a, rfl⟩
  have hT := isi_tup l[a] (fit_obj ea.1.1)
  refine wq_if (c := isTup l[a]) (by try simp only [ap_cst, ap_gV, ap_gB, ap_dLst, ap_dNil, ap_dCons, ap_dTup, ap_dB, ap_dBl, ap_dU, ap_dC, ap_dCK, ap_dNot, ap_dAnd, ap_dOr, ap_dAndV, ap_dOrV, ap_dNotV, ap_dIf, ap_dSeq, ap_dSkip, ap_dF, ap_dRet, ap_dRetN, ap_dSet, ap_dOwn, ap_dDrop, ap_dFor, ap_dComp, ap_dBrk, ap_dCnt, ap_dParM, ap_mNil, ap_mV, ap_mN, ap_dAsg, ap_dPar, ap_dPar3, ap_dApp, ap_dExt, ap_dNo, ap_dSome, ap_asInt, ap_dSl, getV_zero, getV_succ, getB_zero, getB_zeroO, getB_succ, ownL_zero, ownL_succ, tgName_ap, forT_nil, ret_bind, fail_bind, exc_bind, bind_assoc', add_ii, sub_ii, lt_ii, le_ii, gt_ii, ge_ii, eq_ii, ne_ii, abs_i, int_i, int_b, len_l, len_t, items_l, items_t, truth_b, asObj_self, List.set_cons_succ, List.set_cons_zero, if_true, if_false, Bool.false_eq_true, Bool.not_true, Bool.not_false, xa, hT]) (fun hc => ?_) (fun _ => ?_)
  · generalize hq : l[a] = q at *
    cases q with
    | tup us =>
      have hcell := (h.2 _ (List.getElem_mem ha)).2 us hq
      try simp only [ap_cst, ap_gV, ap_gB, ap_dLst, ap_dNil, ap_dCons, ap_dTup, ap_dB, ap_dBl, ap_dU, ap_dC, ap_dCK, ap_dNot, ap_dAnd, ap_dOr, ap_dAndV, ap_dOrV, ap_dNotV, ap_dIf, ap_dSeq, ap_dSkip, ap_dF, ap_dRet, ap_dRetN, ap_dSet, ap_dOwn, ap_dDrop, ap_dFor, ap_dComp, ap_dBrk, ap_dCnt, ap_dParM, ap_mNil, ap_mV, ap_mN, ap_dAsg, ap_dPar, ap_dPar3, ap_dApp, ap_dExt, ap_dNo, ap_dSome, ap_asInt, ap_dSl, getV_zero, getV_succ, getB_zero, getB_zeroO, getB_succ, ownL_zero, ownL_succ, tgName_ap, forT_nil, ret_bind, fail_bind, exc_bind, bind_assoc', add_ii, sub_ii, lt_ii, le_ii, gt_ii, ge_ii, eq_ii, ne_ii, abs_i, int_i, int_b, len_l, len_t, items_l, items_t, truth_b, asObj_self, List.set_cons_succ, List.set_cons_zero, if_true, if_false, Bool.false_eq_true, Bool.not_true, Bool.not_false, ap_dSetIx, xa]
      refine wq_use (item_wq a0 p n B hp hp7 (by omega) (by omega) hB hB2 us hcell) fun d hd => ?_
      try simp only [ap_cst, ap_gV, ap_gB, ap_dLst, ap_dNil, ap_dCons, ap_dTup, ap_dB, ap_dBl, ap_dU, ap_dC, ap_dCK, ap_dNot, ap_dAnd, ap_dOr, ap_dAndV, ap_dOrV, ap_dNotV, ap_dIf, ap_dSeq, ap_dSkip, ap_dF, ap_dRet, ap_dRetN, ap_dSet, ap_dOwn, ap_dDrop, ap_dFor, ap_dComp, ap_dBrk, ap_dCnt, ap_dParM, ap_mNil, ap_mV, ap_mN, ap_dAsg, ap_dPar, ap_dPar3, ap_dApp, ap_dExt, ap_dNo, ap_dSome, ap_asInt, ap_dSl, getV_zero, getV_succ, getB_zero, getB_zeroO, getB_succ, ownL_zero, ownL_succ, tgName_ap, forT_nil, ret_bind, fail_bind, exc_bind, bind_assoc', add_ii, sub_ii, lt_ii, le_ii, gt_ii, ge_ii, eq_ii, ne_ii, abs_i, int_i, int_b, len_l, len_t, items_l, items_t, truth_b, asObj_self, List.set_cons_succ, List.set_cons_zero, if_true, if_false, Bool.false_eq_true, Bool.not_true, Bool.not_false, ap_dSetIx, ixN_nat ha]
      rw [wq_ret]
      exact ⟨_, _, _, _, _, _, _, _, _, h'.set hd a, rfl⟩
    | _ => cases hc
  · try simp only [ap_cst, ap_gV, ap_gB, ap_dLst, ap_dNil, ap_dCons, ap_dTup, ap_dB, ap_dBl, ap_dU, ap_dC, ap_dCK, ap_dNot, ap_dAnd, ap_dOr, ap_dAndV, ap_dOrV, ap_dNotV, ap_dIf, ap_dSeq, ap_dSkip, ap_dF, ap_dRet, ap_dRetN, ap_dSet, ap_dOwn, ap_dDrop, ap_dFor, ap_dComp, ap_dBrk, ap_dCnt, ap_dParM, ap_mNil, ap_mV, ap_mN, ap_dAsg, ap_dPar, ap_dPar3, ap_dApp, ap_dExt, ap_dNo, ap_dSome, ap_asInt, ap_dSl, getV_zero, getV_succ, getB_zero, getB_zeroO, getB_succ, ownL_zero, ownL_succ, tgName_ap, forT_nil, ret_bind, fail_bind, exc_bind, bind_assoc', add_ii, sub_ii, lt_ii, le_ii, gt_ii, ge_ii, eq_ii, ne_ii, abs_i, int_i, int_b, len_l, len_t, items_l, items_t, truth_b, asObj_self, List.set_cons_succ, List.set_cons_zero, if_true, if_false, Bool.false_eq_true, Bool.not_true, Bool.not_false]
    rw [wq_ret]
    exact ⟨_, _, _, _, _, _, _, _, _, h', rfl⟩
theorem rows_wq (a0 : Addr) (p k m n B : Nat) (hp : 2 ≤ p) (hp7 : p ≤ 7) (hk8 : k ≤ 8) (hm : m ≤ 100) (hn8 : 8 ≤ n) (hn : n ≤ 90) (hB : 7 ≤ B) (hB2 : B + 10 ^ 32 ≤ 10 ^ 40) (l : List D) (h : LotP m n B l) : wq (t_l_rows a0 [.obj a0, .int (p : Int), .int (k : Int), .lst l]) (fun d => ∃ l', d = .lst l' ∧ LotP (m + 1) (n + 1) (B + 10 ^ 32) l') E := by
  have hb40 : B ≤ 10 ^ 40 := by omega
  have h' := h.mono (Nat.le_succ m) (Nat.le_succ n) (show B ≤ B + 10 ^ 32 by omega)
  have h'' := h.mono (Nat.le_refl m) (Nat.le_succ n) (show B ≤ B + 10 ^ 32 by omega)
  have hlen := h.1
  unfold t_l_rows
  refine wq_body ?_
  have e0 : startE 14 [.obj a0, .int (p : Int), .int (k : Int), .lst l] = [.val (.obj a0), .val (.int (p : Int)), .val (.int (k : Int)), .val (.lst l), .un, .un, .un, .un, .un, .un, .un, .un, .un, .un] := rfl
  rw [e0]
  unfold b_l_rows
  refine wq_seq (fun e => ∃ t : Nat, t < 9 ∧ e = RE a0 p k l t l .un .un .un .un .un .un .un .un) ?_ fun e he => ?_
  · try simp only [ap_cst, ap_gV, ap_gB, ap_dLst, ap_dNil, ap_dCons, ap_dTup, ap_dB, ap_dBl, ap_dU, ap_dC, ap_dCK, ap_dNot, ap_dAnd, ap_dOr, ap_dAndV, ap_dOrV, ap_dNotV, ap_dIf, ap_dSeq, ap_dSkip, ap_dF, ap_dRet, ap_dRetN, ap_dSet, ap_dOwn, ap_dDrop, ap_dFor, ap_dComp, ap_dBrk, ap_dCnt, ap_dParM, ap_mNil, ap_mV, ap_mN, ap_dAsg, ap_dPar, ap_dPar3, ap_dApp, ap_dExt, ap_dNo, ap_dSome, ap_asInt, ap_dSl, getV_zero, getV_succ, getB_zero, getB_zeroO, getB_succ, ownL_zero, ownL_succ, tgName_ap, forT_nil, ret_bind, fail_bind, exc_bind, bind_assoc', add_ii, sub_ii, lt_ii, le_ii, gt_ii, ge_ii, eq_ii, ne_ii, abs_i, int_i, int_b, len_l, len_t, items_l, items_t, truth_b, asObj_self, List.set_cons_succ, List.set_cons_zero, if_true, if_false, Bool.false_eq_true, Bool.not_true, Bool.not_false, listL]
    refine wq_drawN (by decide) (by decide) fun t ht => ?_
    try simp only [ap_cst, ap_gV, ap_gB, ap_dLst, ap_dNil, ap_dCons, ap_dTup, ap_dB, ap_dBl, ap_dU, ap_dC, ap_dCK, ap_dNot, ap_dAnd, ap_dOr, ap_dAndV, ap_dOrV, ap_dNotV, ap_dIf, ap_dSeq, ap_dSkip, ap_dF, ap_dRet, ap_dRetN, ap_dSet, ap_dOwn, ap_dDrop, ap_dFor, ap_dComp, ap_dBrk, ap_dCnt, ap_dParM, ap_mNil, ap_mV, ap_mN, ap_dAsg, ap_dPar, ap_dPar3, ap_dApp, ap_dExt, ap_dNo, ap_dSome, ap_asInt, ap_dSl, getV_zero, getV_succ, getB_zero, getB_zeroO, getB_succ, ownL_zero, ownL_succ, tgName_ap, forT_nil, ret_bind, fail_bind, exc_bind, bind_assoc', add_ii, sub_ii, lt_ii, le_ii, gt_ii, ge_ii, eq_ii, ne_ii, abs_i, int_i, int_b, len_l, len_t, items_l, items_t, truth_b, asObj_self, List.set_cons_succ, List.set_cons_zero, if_true, if_false, Bool.false_eq_true, Bool.not_true, Bool.not_false, listL]
    rw [wq_ret]
    exact ⟨t, by omega, rfl⟩
  obtain ⟨t, ht, rfl⟩ := he
  have hrow : ∀ d, RowD p k d → Ent (n + 1) (B + 10 ^ 32) d := fun d hd => rowD_ent hd hp7 (by omega) (by omega) hB2
  refine wq_seq (fun e => l ≠ [] ∧ e = RE a0 p k l t l .un .un .un .un .un .un .un .un) ?_ fun e he => ?_
  · refine wq_if (c := (decide ((t : Int) = 0) || l.isEmpty)) ?_ (fun hc => ?_) (fun hc => ?_)
    · by_cases t0 : t = 0
      · have hd : decide ((t : Int) = 0) = true := decide_eq_true (by omega)
        try simp only [ap_cst, ap_gV, ap_gB, ap_dLst, ap_dNil, ap_dCons, ap_dTup, ap_dB, ap_dBl, ap_dU, ap_dC, ap_dCK, ap_dNot, ap_dAnd, ap_dOr, ap_dAndV, ap_dOrV, ap_dNotV, ap_dIf, ap_dSeq, ap_dSkip, ap_dF, ap_dRet, ap_dRetN, ap_dSet, ap_dOwn, ap_dDrop, ap_dFor, ap_dComp, ap_dBrk, ap_dCnt, ap_dParM, ap_mNil, ap_mV, ap_mN, ap_dAsg, ap_dPar, ap_dPar3, ap_dApp, ap_dExt, ap_dNo, ap_dSome, ap_asInt, ap_dSl, getV_zero, getV_succ, getB_zero, getB_zeroO, getB_succ, ownL_zero, ownL_succ, tgName_ap, forT_nil, ret_bind, fail_bind, exc_bind, bind_assoc', add_ii, sub_ii, lt_ii, le_ii, gt_ii, ge_ii, eq_ii, ne_ii, abs_i, int_i, int_b, len_l, len_t, items_l, items_t, truth_b, asObj_self, List.set_cons_succ, List.set_cons_zero, if_true, if_false, Bool.false_eq_true, Bool.not_true, Bool.not_false, hd, Bool.true_or]
      · have hd : decide ((t : Int) = 0) = false := decide_eq_false (by omega)
        try simp only [ap_cst, ap_gV, ap_gB, ap_dLst, ap_dNil, ap_dCons, ap_dTup, ap_dB, ap_dBl, ap_dU, ap_dC, ap_dCK, ap_dNot, ap_dAnd, ap_dOr, ap_dAndV, ap_dOrV, ap_dNotV, ap_dIf, ap_dSeq, ap_dSkip, ap_dF, ap_dRet, ap_dRetN, ap_dSet, ap_dOwn, ap_dDrop, ap_dFor, ap_dComp, ap_dBrk, ap_dCnt, ap_dParM, ap_mNil, ap_mV, ap_mN, ap_dAsg, ap_dPar, ap_dPar3, ap_dApp, ap_dExt, ap_dNo, ap_dSome, ap_asInt, ap_dSl, getV_zero, getV_succ, getB_zero, getB_zeroO, getB_succ, ownL_zero, ownL_succ, tgName_ap, forT_nil, ret_bind, fail_bind, exc_bind, bind_assoc', add_ii, sub_ii, lt_ii, le_ii, gt_ii, ge_ii, eq_ii, ne_ii, abs_i, int_i, int_b, len_l, len_t, items_l, items_t, truth_b, asObj_self, List.set_cons_succ, List.set_cons_zero, if_true, if_false, Bool.false_eq_true, Bool.not_true, Bool.not_false, hd, Bool.false_or, eqL_nil]
    · refine wq_seq (fun e => ∃ d, Ent (n + 1) (B + 10 ^ 32) d ∧ e = RE a0 p k l t l (.val d) .un .un .un .un .un .un .un) ?_ fun e he => ?_
      · have hz := repT (.int 0) k (by omega)
        have ha : addD (.tup [.int 1]) (.tup (List.replicate k (.int 0))) = T.ret (.tup ([.int 1] ++ List.replicate k (.int 0))) := addTT (by simp; omega)
        have hzk : RowD p k (.tup (List.replicate k (.int 0))) := ⟨List.replicate k 0, by rw [List.map_replicate]; rfl, by simp, fun i hi => by rw [(List.mem_replicate.mp hi).2]; omega⟩
        try simp only [ap_cst, ap_gV, ap_gB, ap_dLst, ap_dNil, ap_dCons, ap_dTup, ap_dB, ap_dBl, ap_dU, ap_dC, ap_dCK, ap_dNot, ap_dAnd, ap_dOr, ap_dAndV, ap_dOrV, ap_dNotV, ap_dIf, ap_dSeq, ap_dSkip, ap_dF, ap_dRet, ap_dRetN, ap_dSet, ap_dOwn, ap_dDrop, ap_dFor, ap_dComp, ap_dBrk, ap_dCnt, ap_dParM, ap_mNil, ap_mV, ap_mN, ap_dAsg, ap_dPar, ap_dPar3, ap_dApp, ap_dExt, ap_dNo, ap_dSome, ap_asInt, ap_dSl, getV_zero, getV_succ, getB_zero, getB_zeroO, getB_succ, ownL_zero, ownL_succ, tgName_ap, forT_nil, ret_bind, fail_bind, exc_bind, bind_assoc', add_ii, sub_ii, lt_ii, le_ii, gt_ii, ge_ii, eq_ii, ne_ii, abs_i, int_i, int_b, len_l, len_t, items_l, items_t, truth_b, asObj_self, List.set_cons_succ, List.set_cons_zero, if_true, if_false, Bool.false_eq_true, Bool.not_true, Bool.not_false, hz, ha]
        refine wq_use (drawn_wq a0 p k (by omega) (by omega) (by omega)) fun d hd => ?_
        try simp only [ap_cst, ap_gV, ap_gB, ap_dLst, ap_dNil, ap_dCons, ap_dTup, ap_dB, ap_dBl, ap_dU, ap_dC, ap_dCK, ap_dNot, ap_dAnd, ap_dOr, ap_dAndV, ap_dOrV, ap_dNotV, ap_dIf, ap_dSeq, ap_dSkip, ap_dF, ap_dRet, ap_dRetN, ap_dSet, ap_dOwn, ap_dDrop, ap_dFor, ap_dComp, ap_dBrk, ap_dCnt, ap_dParM, ap_mNil, ap_mV, ap_mN, ap_dAsg, ap_dPar, ap_dPar3, ap_dApp, ap_dExt, ap_dNo, ap_dSome, ap_asInt, ap_dSl, getV_zero, getV_succ, getB_zero, getB_zeroO, getB_succ, ownL_zero, ownL_succ, tgName_ap, forT_nil, ret_bind, fail_bind, exc_bind, bind_assoc', add_ii, sub_ii, lt_ii, le_ii, gt_ii, ge_ii, eq_ii, ne_ii, abs_i, int_i, int_b, len_l, len_t, items_l, items_t, truth_b, asObj_self, List.set_cons_succ, List.set_cons_zero, if_true, if_false, Bool.false_eq_true, Bool.not_true, Bool.not_false, hz, ha]
        refine wq_use (pick_wp (Q := Ent (n + 1) (B + 10 ^ 32)) (by simp) (by simp) fun d' hd' => ?_) fun d' hd' => ?_
        · simp only [List.mem_cons, List.not_mem_nil, or_false] at hd'
          rcases hd' with rfl | rfl | rfl
          · exact hrow _ hzk
          · exact hrow _ hd
          · refine ent_tup ⟨by simp; omega, fun c hc => ?_⟩
            rcases List.mem_append.mp hc with hc | hc
            · rw [List.mem_singleton.mp hc]; exact cell_int hB2 (by show 1 ≤ _; omega)
            · rw [(List.mem_replicate.mp hc).2]; exact cell_int hB2 (by show 0 ≤ _; omega)
        · rw [wq_ret]; exact ⟨d', hd', rfl⟩
      · obtain ⟨d, hd, rfl⟩ := he
        refine wq_seq (fun e => ∃ l', LotP (m + 1) (n + 1) (B + 10 ^ 32) l' ∧ e = RE a0 p k l t l' (.val d) .un .un .un .un .un .un .un) ?_ fun e he => ?_
        · try simp only [ap_cst, ap_gV, ap_gB, ap_dLst, ap_dNil, ap_dCons, ap_dTup, ap_dB, ap_dBl, ap_dU, ap_dC, ap_dCK, ap_dNot, ap_dAnd, ap_dOr, ap_dAndV, ap_dOrV, ap_dNotV, ap_dIf, ap_dSeq, ap_dSkip, ap_dF, ap_dRet, ap_dRetN, ap_dSet, ap_dOwn, ap_dDrop, ap_dFor, ap_dComp, ap_dBrk, ap_dCnt, ap_dParM, ap_mNil, ap_mV, ap_mN, ap_dAsg, ap_dPar, ap_dPar3, ap_dApp, ap_dExt, ap_dNo, ap_dSome, ap_asInt, ap_dSl, getV_zero, getV_succ, getB_zero, getB_zeroO, getB_succ, ownL_zero, ownL_succ, tgName_ap, forT_nil, ret_bind, fail_bind, exc_bind, bind_assoc', add_ii, sub_ii, lt_ii, le_ii, gt_ii, ge_ii, eq_ii, ne_ii, abs_i, int_i, int_b, len_l, len_t, items_l, items_t, truth_b, asObj_self, List.set_cons_succ, List.set_cons_zero, if_true, if_false, Bool.false_eq_true, Bool.not_true, Bool.not_false, ap_dIns]
          refine wq_drawN (by omega) (by omega) fun j hj => ?_
          try simp only [ap_cst, ap_gV, ap_gB, ap_dLst, ap_dNil, ap_dCons, ap_dTup, ap_dB, ap_dBl, ap_dU, ap_dC, ap_dCK, ap_dNot, ap_dAnd, ap_dOr, ap_dAndV, ap_dOrV, ap_dNotV, ap_dIf, ap_dSeq, ap_dSkip, ap_dF, ap_dRet, ap_dRetN, ap_dSet, ap_dOwn, ap_dDrop, ap_dFor, ap_dComp, ap_dBrk, ap_dCnt, ap_dParM, ap_mNil, ap_mV, ap_mN, ap_dAsg, ap_dPar, ap_dPar3, ap_dApp, ap_dExt, ap_dNo, ap_dSome, ap_asInt, ap_dSl, getV_zero, getV_succ, getB_zero, getB_zeroO, getB_succ, ownL_zero, ownL_succ, tgName_ap, forT_nil, ret_bind, fail_bind, exc_bind, bind_assoc', add_ii, sub_ii, lt_ii, le_ii, gt_ii, ge_ii, eq_ii, ne_ii, abs_i, int_i, int_b, len_l, len_t, items_l, items_t, truth_b, asObj_self, List.set_cons_succ, List.set_cons_zero, if_true, if_false, Bool.false_eq_true, Bool.not_true, Bool.not_false]
          rw [if_pos ⟨by rw [sizeLine_eq]; omega, by omega, by omega⟩, wq_ret, Int.toNat_natCast]
          exact ⟨_, h''.ins hd j, rfl⟩
        · obtain ⟨l', hl', rfl⟩ := he
          have hf : frzs [5] (RE a0 p k l t l' (.val d) .un .un .un .un .un .un .un) = [.val (.obj a0), .val (.int (p : Int)), .val (.int (k : Int)), .val (.lst l), .val (.int (t : Int)), .val (.lst l'), .val d, .un, .un, .un, .un, .un, .un, .un] := rfl
          rw [ap_dF, hf]
          try simp only [ap_cst, ap_gV, ap_gB, ap_dLst, ap_dNil, ap_dCons, ap_dTup, ap_dB, ap_dBl, ap_dU, ap_dC, ap_dCK, ap_dNot, ap_dAnd, ap_dOr, ap_dAndV, ap_dOrV, ap_dNotV, ap_dIf, ap_dSeq, ap_dSkip, ap_dF, ap_dRet, ap_dRetN, ap_dSet, ap_dOwn, ap_dDrop, ap_dFor, ap_dComp, ap_dBrk, ap_dCnt, ap_dParM, ap_mNil, ap_mV, ap_mN, ap_dAsg, ap_dPar, ap_dPar3, ap_dApp, ap_dExt, ap_dNo, ap_dSome, ap_asInt, ap_dSl, getV_zero, getV_succ, getB_zero, getB_zeroO, getB_succ, ownL_zero, ownL_succ, tgName_ap, forT_nil, ret_bind, fail_bind, exc_bind, bind_assoc', add_ii, sub_ii, lt_ii, le_ii, gt_ii, ge_ii, eq_ii, ne_ii, abs_i, int_i, int_b, len_l, len_t, items_l, items_t, truth_b, asObj_self, List.set_cons_succ, List.set_cons_zero, if_true, if_false, Bool.false_eq_true, Bool.not_true, Bool.not_false]
          rw [wq_ret]
          exact ⟨l', rfl, hl'⟩
    · try simp only [ap_cst, ap_gV, ap_gB, ap_dLst, ap_dNil, ap_dCons, ap_dTup, ap_dB, ap_dBl, ap_dU, ap_dC, ap_dCK, ap_dNot, ap_dAnd, ap_dOr, ap_dAndV, ap_dOrV, ap_dNotV, ap_dIf, ap_dSeq, ap_dSkip, ap_dF, ap_dRet, ap_dRetN, ap_dSet, ap_dOwn, ap_dDrop, ap_dFor, ap_dComp, ap_dBrk, ap_dCnt, ap_dParM, ap_mNil, ap_mV, ap_mN, ap_dAsg, ap_dPar, ap_dPar3, ap_dApp, ap_dExt, ap_dNo, ap_dSome, ap_asInt, ap_dSl, getV_zero, getV_succ, getB_zero, getB_zeroO, getB_succ, ownL_zero, ownL_succ, tgName_ap, forT_nil, ret_bind, fail_bind, exc_bind, bind_assoc', add_ii, sub_ii, lt_ii, le_ii, gt_ii, ge_ii, eq_ii, ne_ii, abs_i, int_i, int_b, len_l, len_t, items_l, items_t, truth_b, asObj_self, List.set_cons_succ, List.set_cons_zero, if_true, if_false, Bool.false_eq_true, Bool.not_true, Bool.not_false]
      rw [wq_ret]
      refine ⟨?_, rfl⟩
      rintro rfl
      rw [Bool.or_eq_false_iff] at hc
      cases hc.2
  obtain ⟨hne, rfl⟩ := he
  have hpos := List.length_pos_iff.mpr hne
  refine wq_seq (fun e => ∃ a b : Nat, a < l.length ∧ b < l.length ∧ e = RE a0 p k l t l .un (.val (.int (a : Int))) (.val (.int (b : Int))) .un .un .un .un .un) ?_ fun e he => ?_
  · try simp only [ap_cst, ap_gV, ap_gB, ap_dLst, ap_dNil, ap_dCons, ap_dTup, ap_dB, ap_dBl, ap_dU, ap_dC, ap_dCK, ap_dNot, ap_dAnd, ap_dOr, ap_dAndV, ap_dOrV, ap_dNotV, ap_dIf, ap_dSeq, ap_dSkip, ap_dF, ap_dRet, ap_dRetN, ap_dSet, ap_dOwn, ap_dDrop, ap_dFor, ap_dComp, ap_dBrk, ap_dCnt, ap_dParM, ap_mNil, ap_mV, ap_mN, ap_dAsg, ap_dPar, ap_dPar3, ap_dApp, ap_dExt, ap_dNo, ap_dSome, ap_asInt, ap_dSl, getV_zero, getV_succ, getB_zero, getB_zeroO, getB_succ, ownL_zero, ownL_succ, tgName_ap, forT_nil, ret_bind, fail_bind, exc_bind, bind_assoc', add_ii, sub_ii, lt_ii, le_ii, gt_ii, ge_ii, eq_ii, ne_ii, abs_i, int_i, int_b, len_l, len_t, items_l, items_t, truth_b, asObj_self, List.set_cons_succ, List.set_cons_zero, if_true, if_false, Bool.false_eq_true, Bool.not_true, Bool.not_false]
    refine wq_drawN (by omega) (by omega) fun a ha => ?_
    try simp only [ap_cst, ap_gV, ap_gB, ap_dLst, ap_dNil, ap_dCons, ap_dTup, ap_dB, ap_dBl, ap_dU, ap_dC, ap_dCK, ap_dNot, ap_dAnd, ap_dOr, ap_dAndV, ap_dOrV, ap_dNotV, ap_dIf, ap_dSeq, ap_dSkip, ap_dF, ap_dRet, ap_dRetN, ap_dSet, ap_dOwn, ap_dDrop, ap_dFor, ap_dComp, ap_dBrk, ap_dCnt, ap_dParM, ap_mNil, ap_mV, ap_mN, ap_dAsg, ap_dPar, ap_dPar3, ap_dApp, ap_dExt, ap_dNo, ap_dSome, ap_asInt, ap_dSl, getV_zero, getV_succ, getB_zero, getB_zeroO, getB_succ, ownL_zero, ownL_succ, tgName_ap, forT_nil, ret_bind, fail_bind, exc_bind, bind_assoc', add_ii, sub_ii, lt_ii, le_ii, gt_ii, ge_ii, eq_ii, ne_ii, abs_i, int_i, int_b, len_l, len_t, items_l, items_t, truth_b, asObj_self, List.set_cons_succ, List.set_cons_zero, if_true, if_false, Bool.false_eq_true, Bool.not_true, Bool.not_false]
    refine wq_drawN (by omega) (by omega) fun b hb => ?_
    try simp only [ap_cst, ap_gV, ap_gB, ap_dLst, ap_dNil, ap_dCons, ap_dTup, ap_dB, ap_dBl, ap_dU, ap_dC, ap_dCK, ap_dNot, ap_dAnd, ap_dOr, ap_dAndV, ap_dOrV, ap_dNotV, ap_dIf, ap_dSeq, ap_dSkip, ap_dF, ap_dRet, ap_dRetN, ap_dSet, ap_dOwn, ap_dDrop, ap_dFor, ap_dComp, ap_dBrk, ap_dCnt, ap_dParM, ap_mNil, ap_mV, ap_mN, ap_dAsg, ap_dPar, ap_dPar3, ap_dApp, ap_dExt, ap_dNo, ap_dSome, ap_asInt, ap_dSl, getV_zero, getV_succ, getB_zero, getB_zeroO, getB_succ, ownL_zero, ownL_succ, tgName_ap, forT_nil, ret_bind, fail_bind, exc_bind, bind_assoc', add_ii, sub_ii, lt_ii, le_ii, gt_ii, ge_ii, eq_ii, ne_ii, abs_i, int_i, int_b, len_l, len_t, items_l, items_t, truth_b, asObj_self, List.set_cons_succ, List.set_cons_zero, if_true, if_false, Bool.false_eq_true, Bool.not_true, Bool.not_false]
    rw [wq_ret]
    exact ⟨a, b, by omega, by omega, rfl⟩
  obtain ⟨a, b, ha, hb, rfl⟩ := he
  have ga : l[a]? = some l[a] := List.getElem?_eq_getElem ha
  have gb : l[b]? = some l[b] := List.getElem?_eq_getElem hb
  have xa := ixL ga
  have xb := ixL gb
  have ea := h''.2 _ (List.getElem_mem ha)
  have eb := h''.2 _ (List.getElem_mem hb)
  refine wq_seq (fun e => e = RE a0 p k l t l .un (.val (.int (a : Int))) (.val (.int (b : Int))) (.own (.lst ([l[a], l[b]].filter (rowB (p : Int) (k : Int))))) .un .un .un .un) ?_ fun e he => ?_
  · have hc := compT_map (rowB (p : Int) (k : Int)) (fun d => d) (f := tgName 10) (t := dU truthD (dC t_l_is_row (dCons (gV 1) (dCons (gV 2) (dCons (gV 10) dNil))))) (w := gV 10) (env := RE a0 p k l t l .un (.val (.int (a : Int))) (.val (.int (b : Int))) .un .un .un .un .un) [l[a], l[b]] fun d hd => by
      have hfit : d.fit3 = true := by
        rcases List.mem_cons.mp hd with rfl | hd
        · exact ea.1.1
        · rw [List.mem_singleton.mp hd]; exact eb.1.1
      have hr := l_is_row_eq (p : Int) (k : Int) d (fit_obj hfit) (fun l' hl' => fit_noObj (by rw [← hl']; exact hfit))
      refine ⟨RE a0 p k l t l .un (.val (.int (a : Int))) (.val (.int (b : Int))) .un (.val d) .un .un .un, rfl, ?_, fun _ => rfl⟩
      try simp only [ap_cst, ap_gV, ap_gB, ap_dLst, ap_dNil, ap_dCons, ap_dTup, ap_dB, ap_dBl, ap_dU, ap_dC, ap_dCK, ap_dNot, ap_dAnd, ap_dOr, ap_dAndV, ap_dOrV, ap_dNotV, ap_dIf, ap_dSeq, ap_dSkip, ap_dF, ap_dRet, ap_dRetN, ap_dSet, ap_dOwn, ap_dDrop, ap_dFor, ap_dComp, ap_dBrk, ap_dCnt, ap_dParM, ap_mNil, ap_mV, ap_mN, ap_dAsg, ap_dPar, ap_dPar3, ap_dApp, ap_dExt, ap_dNo, ap_dSome, ap_asInt, ap_dSl, getV_zero, getV_succ, getB_zero, getB_zeroO, getB_succ, ownL_zero, ownL_succ, tgName_ap, forT_nil, ret_bind, fail_bind, exc_bind, bind_assoc', add_ii, sub_ii, lt_ii, le_ii, gt_ii, ge_ii, eq_ii, ne_ii, abs_i, int_i, int_b, len_l, len_t, items_l, items_t, truth_b, asObj_self, List.set_cons_succ, List.set_cons_zero, if_true, if_false, Bool.false_eq_true, Bool.not_true, Bool.not_false, hr]
    rw [List.map_id'] at hc
    have hw : wipeE (RE a0 p k l t l .un (.val (.int (a : Int))) (.val (.int (b : Int))) .un .un .un .un .un) [10] = RE a0 p k l t l .un (.val (.int (a : Int))) (.val (.int (b : Int))) .un .un .un .un .un := rfl
    try simp only [ap_cst, ap_gV, ap_gB, ap_dLst, ap_dNil, ap_dCons, ap_dTup, ap_dB, ap_dBl, ap_dU, ap_dC, ap_dCK, ap_dNot, ap_dAnd, ap_dOr, ap_dAndV, ap_dOrV, ap_dNotV, ap_dIf, ap_dSeq, ap_dSkip, ap_dF, ap_dRet, ap_dRetN, ap_dSet, ap_dOwn, ap_dDrop, ap_dFor, ap_dComp, ap_dBrk, ap_dCnt, ap_dParM, ap_mNil, ap_mV, ap_mN, ap_dAsg, ap_dPar, ap_dPar3, ap_dApp, ap_dExt, ap_dNo, ap_dSome, ap_asInt, ap_dSl, getV_zero, getV_succ, getB_zero, getB_zeroO, getB_succ, ownL_zero, ownL_succ, tgName_ap, forT_nil, ret_bind, fail_bind, exc_bind, bind_assoc', add_ii, sub_ii, lt_ii, le_ii, gt_ii, ge_ii, eq_ii, ne_ii, abs_i, int_i, int_b, len_l, len_t, items_l, items_t, truth_b, asObj_self, List.set_cons_succ, List.set_cons_zero, if_true, if_false, Bool.false_eq_true, Bool.not_true, Bool.not_false, xa, xb, hw, hc]
    rw [wq_ret]
  subst he
  have hfl : ∀ d ∈ [l[a], l[b]].filter (rowB (p : Int) (k : Int)), RowD p k d := fun d hd => rowD_of (List.mem_filter.mp hd).2
  generalize hF : [l[a], l[b]].filter (rowB (p : Int) (k : Int)) = F at hfl
  refine wq_seq (fun e => ∃ l' x6 x7 x8 x9 x10 x11 x12 x13, LotP (m + 1) (n + 1) (B + 10 ^ 32) l' ∧ e = RE a0 p k l t l' x6 x7 x8 x9 x10 x11 x12 x13) (wq_imp (rows_chain a0 p k m n B hp hp7 hk8 hm hn8 hn hB hB2 l h t a b ha hb F hfl) fun o ho => ?_) fun e he => ?_
  · cases o with
    | nx e => exact ho
    | rt d => exact ho.elim
    | bk e => exact ho
    | ct e => exact ho
  obtain ⟨l', x6, x7, x8, x9, x10, x11, x12, x13, hl', rfl⟩ := he
  have hf : frzs [5] (RE a0 p k l t l' x6 x7 x8 x9 x10 x11 x12 x13) = [.val (.obj a0), .val (.int (p : Int)), .val (.int (k : Int)), .val (.lst l), .val (.int (t : Int)), .val (.lst l'), x6, x7, x8, x9, x10, x11, x12, x13] := rfl
  rw [ap_dF, hf]
  try simp only [ap_cst, ap_gV, ap_gB, ap_dLst, ap_dNil, ap_dCons, ap_dTup, ap_dB, ap_dBl, ap_dU, ap_dC, ap_dCK, ap_dNot, ap_dAnd, ap_dOr, ap_dAndV, ap_dOrV, ap_dNotV, ap_dIf, ap_dSeq, ap_dSkip, ap_dF, ap_dRet, ap_dRetN, ap_dSet, ap_dOwn, ap_dDrop, ap_dFor, ap_dComp, ap_dBrk, ap_dCnt, ap_dParM, ap_mNil, ap_mV, ap_mN, ap_dAsg, ap_dPar, ap_dPar3, ap_dApp, ap_dExt, ap_dNo, ap_dSome, ap_asInt, ap_dSl, getV_zero, getV_succ, getB_zero, getB_zeroO, getB_succ, ownL_zero, ownL_succ, tgName_ap, forT_nil, ret_bind, fail_bind, exc_bind, bind_assoc', add_ii, sub_ii, lt_ii, le_ii, gt_ii, ge_ii, eq_ii, ne_ii, abs_i, int_i, int_b, len_l, len_t, items_l, items_t, truth_b, asObj_self, List.set_cons_succ, List.set_cons_zero, if_true, if_false, Bool.false_eq_true, Bool.not_true, Bool.not_false]
  rw [wq_ret]
  exact ⟨l', rfl, hl'⟩
end Law

namespace Law
open PySem PySem.Spec PyProof.Rows L2 Eng
variable {E : Str → List D → Prop}
/-- a thing of bounded size -/
theorem kz_any {d : D} {m z : Nat} (h : Kz 3 2000 d) (hm : 3 ≤ m) (hz : 2000 ≤ z) : Kz m z d := h.mono hm hz
theorem kz_cons {m z1 z2 : Nat} {d : D} {l : List D} (h : Kz m z1 d) (h2 : fit3All l = true ∧ rz3All l ≤ z2 ∧ dep3All l ≤ m) : fit3All (d :: l) = true ∧ rz3All (d :: l) ≤ z1 + 2 + z2 ∧ dep3All (d :: l) ≤ m :=
  ⟨by show (d.fit3 && fit3All l) = true; rw [h.1, h2.1]; rfl, by show d.rz3 + 2 + rz3All l ≤ _; have := h.2.1; have := h2.2.1; omega, by show max d.dep3 (dep3All l) ≤ m; exact Nat.max_le.mpr ⟨h.2.2, h2.2.2⟩⟩
theorem kz_nil {m : Nat} : fit3All [] = true ∧ rz3All [] ≤ 0 ∧ dep3All [] ≤ m := ⟨rfl, Nat.le_refl _, Nat.zero_le _⟩
theorem kz_tup' {m z : Nat} {l : List D} (h : fit3All l = true ∧ rz3All l ≤ z ∧ dep3All l ≤ m) : Kz (m + 1) (z + 4) (.tup l) := ⟨h.1, Nat.add_le_add_right h.2.1 4, Nat.succ_le_succ h.2.2⟩
theorem kz_lst' {m z : Nat} {l : List D} (h : fit3All l = true ∧ rz3All l ≤ z ∧ dep3All l ≤ m) : Kz (m + 1) (z + 4) (.lst l) := ⟨h.1, Nat.add_le_add_right h.2.1 4, Nat.succ_le_succ h.2.2⟩
theorem lot_kz {m n B z : Nat} {l : List D} (h : LotP m n B l) (hz : m * (n * 2002 + 2010 + 2) + 4 ≤ z) : Kz 5 z (.tup l) ∧ Kz 5 z (.lst l) := by
  have h1 := kz_tup fun c hc => (h.2 c hc).1
  have h2 := kz_lst fun c hc => (h.2 c hc).1
  have h3 := Nat.le_trans (Nat.add_le_add_right (Nat.mul_le_mul_right (n * 2002 + 2010 + 2) h.1) 4) hz
  exact ⟨h1.mono (Nat.le_refl _) h3, h2.mono (Nat.le_refl _) h3⟩
theorem whole_wq (a0 : Addr) (p k : Nat) (hp7 : p ≤ 7) (hk8 : k ≤ 8) (l : List D) (Z : Nat) (hZ : 4000 ≤ Z) (hl : l.length ≤ 1000) (h : Kz 5 Z (.tup l)) (hL : Kz 5 Z (.lst l)) : wq (t_l_whole a0 [.obj a0, .int (p : Int), .int (k : Int), .tup l]) (Kz 7 (2 * Z + 8000)) E := by
  unfold t_l_whole
  refine wq_body ?_
  have e0 : startE 8 [.obj a0, .int (p : Int), .int (k : Int), .tup l] = [.val (.obj a0), .val (.int (p : Int)), .val (.int (k : Int)), .val (.tup l), .un, .un, .un, .un] := rfl
  rw [e0]
  unfold b_l_whole
  have ki : ∀ i : Int, i.natAbs ≤ 10 ^ 40 → Kz 6 2000 (.int i) := fun i hi => (kz_int (Nat.lt_of_le_of_lt hi big_pow)).mono (by decide) (Nat.le_refl _)
  have kp := ki (p : Int) (by omega)
  have kk := ki (k : Int) (by omega)
  have kl : Kz 6 Z (.tup l) := h.mono (by decide) (Nat.le_refl _)
  have kc : ∀ d, chkK 5 2000 d = true → Kz 6 2000 d := fun d hd => (chk_kz hd).mono (by decide) (Nat.le_refl _)
  have k3 : ∀ x y z : D, ∀ zx zy zz, Kz 6 zx x → Kz 6 zy y → Kz 6 zz z → zx + zy + zz ≤ 2 * Z + 7000 → Kz 7 (2 * Z + 8000) (.tup [x, y, z]) := fun x y z zx zy zz hx hy hz hs => (kz_tup' (kz_cons hx (kz_cons hy (kz_cons hz kz_nil)))).mono (Nat.le_refl _) (by omega)
  have hbig : ∀ {d : D} {z : Nat}, Kz 6 z d → z ≤ 2 * Z → Kz 7 (2 * Z + 8000) d := fun h hz => h.mono (by decide) (by omega)
  have hd0 : ∀ env : Eng.Env, dDct [] env = T.ret (.dct [] []) := fun _ => rfl
  refine wq_seq (fun e => ∃ t : Nat, t < 9 ∧ e = [.val (.obj a0), .val (.int (p : Int)), .val (.int (k : Int)), .val (.tup l), .val (.int (t : Int)), .un, .un, .un]) ?_ fun e he => ?_
  · try simp only [ap_cst, ap_gV, ap_gB, ap_dLst, ap_dNil, ap_dCons, ap_dTup, ap_dB, ap_dBl, ap_dU, ap_dC, ap_dCK, ap_dNot, ap_dAnd, ap_dOr, ap_dAndV, ap_dOrV, ap_dNotV, ap_dIf, ap_dSeq, ap_dSkip, ap_dF, ap_dRet, ap_dRetN, ap_dSet, ap_dOwn, ap_dDrop, ap_dFor, ap_dComp, ap_dBrk, ap_dCnt, ap_dParM, ap_mNil, ap_mV, ap_mN, ap_dAsg, ap_dPar, ap_dPar3, ap_dApp, ap_dExt, ap_dNo, ap_dSome, ap_asInt, ap_dSl, getV_zero, getV_succ, getB_zero, getB_zeroO, getB_succ, ownL_zero, ownL_succ, tgName_ap, forT_nil, ret_bind, fail_bind, exc_bind, bind_assoc', add_ii, sub_ii, lt_ii, le_ii, gt_ii, ge_ii, eq_ii, ne_ii, abs_i, int_i, int_b, len_l, len_t, items_l, items_t, truth_b, asObj_self, List.set_cons_succ, List.set_cons_zero, if_true, if_false, Bool.false_eq_true, Bool.not_true, Bool.not_false]
    refine wq_drawN (by decide) (by decide) fun t ht => ?_
    rw [wq_ret]; exact ⟨t, by omega, rfl⟩
  obtain ⟨t, ht, rfl⟩ := he
  refine wq_seq (fun e => e = [.val (.obj a0), .val (.int (p : Int)), .val (.int (k : Int)), .val (.tup l), .val (.int (t : Int)), .un, .un, .un]) ?_ fun e he => ?_
  · refine wq_if (c := decide ((t : Int) < 2)) (by try simp only [ap_cst, ap_gV, ap_gB, ap_dLst, ap_dNil, ap_dCons, ap_dTup, ap_dB, ap_dBl, ap_dU, ap_dC, ap_dCK, ap_dNot, ap_dAnd, ap_dOr, ap_dAndV, ap_dOrV, ap_dNotV, ap_dIf, ap_dSeq, ap_dSkip, ap_dF, ap_dRet, ap_dRetN, ap_dSet, ap_dOwn, ap_dDrop, ap_dFor, ap_dComp, ap_dBrk, ap_dCnt, ap_dParM, ap_mNil, ap_mV, ap_mN, ap_dAsg, ap_dPar, ap_dPar3, ap_dApp, ap_dExt, ap_dNo, ap_dSome, ap_asInt, ap_dSl, getV_zero, getV_succ, getB_zero, getB_zeroO, getB_succ, ownL_zero, ownL_succ, tgName_ap, forT_nil, ret_bind, fail_bind, exc_bind, bind_assoc', add_ii, sub_ii, lt_ii, le_ii, gt_ii, ge_ii, eq_ii, ne_ii, abs_i, int_i, int_b, len_l, len_t, items_l, items_t, truth_b, asObj_self, List.set_cons_succ, List.set_cons_zero, if_true, if_false, Bool.false_eq_true, Bool.not_true, Bool.not_false]) (fun _ => ?_) (fun _ => by try simp only [ap_cst, ap_gV, ap_gB, ap_dLst, ap_dNil, ap_dCons, ap_dTup, ap_dB, ap_dBl, ap_dU, ap_dC, ap_dCK, ap_dNot, ap_dAnd, ap_dOr, ap_dAndV, ap_dOrV, ap_dNotV, ap_dIf, ap_dSeq, ap_dSkip, ap_dF, ap_dRet, ap_dRetN, ap_dSet, ap_dOwn, ap_dDrop, ap_dFor, ap_dComp, ap_dBrk, ap_dCnt, ap_dParM, ap_mNil, ap_mV, ap_mN, ap_dAsg, ap_dPar, ap_dPar3, ap_dApp, ap_dExt, ap_dNo, ap_dSome, ap_asInt, ap_dSl, getV_zero, getV_succ, getB_zero, getB_zeroO, getB_succ, ownL_zero, ownL_succ, tgName_ap, forT_nil, ret_bind, fail_bind, exc_bind, bind_assoc', add_ii, sub_ii, lt_ii, le_ii, gt_ii, ge_ii, eq_ii, ne_ii, abs_i, int_i, int_b, len_l, len_t, items_l, items_t, truth_b, asObj_self, List.set_cons_succ, List.set_cons_zero, if_true, if_false, Bool.false_eq_true, Bool.not_true, Bool.not_false]; rw [wq_ret])
    have n2 : negD (.int 2) = T.ret (.int (-2)) := rfl
    have n7 : negD (.int 7) = T.ret (.int (-7)) := rfl
    try simp only [ap_cst, ap_gV, ap_gB, ap_dLst, ap_dNil, ap_dCons, ap_dTup, ap_dB, ap_dBl, ap_dU, ap_dC, ap_dCK, ap_dNot, ap_dAnd, ap_dOr, ap_dAndV, ap_dOrV, ap_dNotV, ap_dIf, ap_dSeq, ap_dSkip, ap_dF, ap_dRet, ap_dRetN, ap_dSet, ap_dOwn, ap_dDrop, ap_dFor, ap_dComp, ap_dBrk, ap_dCnt, ap_dParM, ap_mNil, ap_mV, ap_mN, ap_dAsg, ap_dPar, ap_dPar3, ap_dApp, ap_dExt, ap_dNo, ap_dSome, ap_asInt, ap_dSl, getV_zero, getV_succ, getB_zero, getB_zeroO, getB_succ, ownL_zero, ownL_succ, tgName_ap, forT_nil, ret_bind, fail_bind, exc_bind, bind_assoc', add_ii, sub_ii, lt_ii, le_ii, gt_ii, ge_ii, eq_ii, ne_ii, abs_i, int_i, int_b, len_l, len_t, items_l, items_t, truth_b, asObj_self, List.set_cons_succ, List.set_cons_zero, if_true, if_false, Bool.false_eq_true, Bool.not_true, Bool.not_false, pow30, n2, n7]
    refine wq_use (pick_wp (Q := Kz 6 2000) (by simp) (by simp) fun d hd => ?_) fun d hd => ?_
    · simp only [List.mem_cons, List.not_mem_nil, or_false] at hd
      rcases hd with rfl | rfl | rfl | rfl | rfl | rfl | rfl | rfl | rfl | rfl | rfl | rfl | rfl | rfl | rfl | rfl | rfl | rfl | rfl | rfl | rfl
      all_goals first
        | exact ki _ (by omega)
        | exact kc _ (by decide +kernel)
    · rw [wq_ret]
      exact k3 _ _ _ _ _ _ hd kk kl (by omega)
  subst he
  refine wq_seq (fun e => e = [.val (.obj a0), .val (.int (p : Int)), .val (.int (k : Int)), .val (.tup l), .val (.int (t : Int)), .un, .un, .un]) ?_ fun e he => ?_
  · refine wq_if (c := decide ((t : Int) < 4)) (by try simp only [ap_cst, ap_gV, ap_gB, ap_dLst, ap_dNil, ap_dCons, ap_dTup, ap_dB, ap_dBl, ap_dU, ap_dC, ap_dCK, ap_dNot, ap_dAnd, ap_dOr, ap_dAndV, ap_dOrV, ap_dNotV, ap_dIf, ap_dSeq, ap_dSkip, ap_dF, ap_dRet, ap_dRetN, ap_dSet, ap_dOwn, ap_dDrop, ap_dFor, ap_dComp, ap_dBrk, ap_dCnt, ap_dParM, ap_mNil, ap_mV, ap_mN, ap_dAsg, ap_dPar, ap_dPar3, ap_dApp, ap_dExt, ap_dNo, ap_dSome, ap_asInt, ap_dSl, getV_zero, getV_succ, getB_zero, getB_zeroO, getB_succ, ownL_zero, ownL_succ, tgName_ap, forT_nil, ret_bind, fail_bind, exc_bind, bind_assoc', add_ii, sub_ii, lt_ii, le_ii, gt_ii, ge_ii, eq_ii, ne_ii, abs_i, int_i, int_b, len_l, len_t, items_l, items_t, truth_b, asObj_self, List.set_cons_succ, List.set_cons_zero, if_true, if_false, Bool.false_eq_true, Bool.not_true, Bool.not_false]) (fun _ => ?_) (fun _ => by try simp only [ap_cst, ap_gV, ap_gB, ap_dLst, ap_dNil, ap_dCons, ap_dTup, ap_dB, ap_dBl, ap_dU, ap_dC, ap_dCK, ap_dNot, ap_dAnd, ap_dOr, ap_dAndV, ap_dOrV, ap_dNotV, ap_dIf, ap_dSeq, ap_dSkip, ap_dF, ap_dRet, ap_dRetN, ap_dSet, ap_dOwn, ap_dDrop, ap_dFor, ap_dComp, ap_dBrk, ap_dCnt, ap_dParM, ap_mNil, ap_mV, ap_mN, ap_dAsg, ap_dPar, ap_dPar3, ap_dApp, ap_dExt, ap_dNo, ap_dSome, ap_asInt, ap_dSl, getV_zero, getV_succ, getB_zero, getB_zeroO, getB_succ, ownL_zero, ownL_succ, tgName_ap, forT_nil, ret_bind, fail_bind, exc_bind, bind_assoc', add_ii, sub_ii, lt_ii, le_ii, gt_ii, ge_ii, eq_ii, ne_ii, abs_i, int_i, int_b, len_l, len_t, items_l, items_t, truth_b, asObj_self, List.set_cons_succ, List.set_cons_zero, if_true, if_false, Bool.false_eq_true, Bool.not_true, Bool.not_false]; rw [wq_ret])
    have hst := str_of (i := (k : Int)) (B := 8) (by decide) (by omega)
    try simp only [ap_cst, ap_gV, ap_gB, ap_dLst, ap_dNil, ap_dCons, ap_dTup, ap_dB, ap_dBl, ap_dU, ap_dC, ap_dCK, ap_dNot, ap_dAnd, ap_dOr, ap_dAndV, ap_dOrV, ap_dNotV, ap_dIf, ap_dSeq, ap_dSkip, ap_dF, ap_dRet, ap_dRetN, ap_dSet, ap_dOwn, ap_dDrop, ap_dFor, ap_dComp, ap_dBrk, ap_dCnt, ap_dParM, ap_mNil, ap_mV, ap_mN, ap_dAsg, ap_dPar, ap_dPar3, ap_dApp, ap_dExt, ap_dNo, ap_dSome, ap_asInt, ap_dSl, getV_zero, getV_succ, getB_zero, getB_zeroO, getB_succ, ownL_zero, ownL_succ, tgName_ap, forT_nil, ret_bind, fail_bind, exc_bind, bind_assoc', add_ii, sub_ii, lt_ii, le_ii, gt_ii, ge_ii, eq_ii, ne_ii, abs_i, int_i, int_b, len_l, len_t, items_l, items_t, truth_b, asObj_self, List.set_cons_succ, List.set_cons_zero, if_true, if_false, Bool.false_eq_true, Bool.not_true, Bool.not_false, pow30, neg_1, hst]
    refine wq_use (pick_wp (Q := Kz 6 2000) (by simp) (by simp) fun d hd => ?_) fun d hd => ?_
    · simp only [List.mem_cons, List.not_mem_nil, or_false] at hd
      rcases hd with rfl | rfl | rfl | rfl | rfl | rfl | rfl | rfl | rfl | rfl | rfl | rfl | rfl | rfl
      all_goals first
        | exact ki _ (by omega)
        | exact kc _ (by decide +kernel)
        | exact (cell_str (i := (k : Int)) (B := 8) (by decide) (by omega)).1.mono (by decide) (Nat.le_refl _)
        | exact (kz_tup' (kz_cons ((kz_int (i := (k : Int)) (Nat.lt_of_le_of_lt (show (k : Int).natAbs ≤ 10 ^ 40 by omega) big_pow))) kz_nil)).mono (by decide) (by show 2000 + 2 + 0 + 4 ≤ _; omega)
        | skip
      exact ⟨fit3All_iff.mpr fun c hc => by rw [List.mem_singleton.mp hc]; exact kk.1, by show 1921 + 2 + 0 + 4 ≤ 2000; decide, by show max 0 0 + 1 ≤ 6; decide⟩
    · rw [wq_ret]
      exact k3 _ _ _ _ _ _ kp hd kl (by omega)
  subst he
  refine wq_seq (fun e => e = [.val (.obj a0), .val (.int (p : Int)), .val (.int (k : Int)), .val (.tup l), .val (.int (t : Int)), .un, .un, .un]) ?_ fun e he => ?_
  · refine wq_if (c := decide ((t : Int) < 6)) (by try simp only [ap_cst, ap_gV, ap_gB, ap_dLst, ap_dNil, ap_dCons, ap_dTup, ap_dB, ap_dBl, ap_dU, ap_dC, ap_dCK, ap_dNot, ap_dAnd, ap_dOr, ap_dAndV, ap_dOrV, ap_dNotV, ap_dIf, ap_dSeq, ap_dSkip, ap_dF, ap_dRet, ap_dRetN, ap_dSet, ap_dOwn, ap_dDrop, ap_dFor, ap_dComp, ap_dBrk, ap_dCnt, ap_dParM, ap_mNil, ap_mV, ap_mN, ap_dAsg, ap_dPar, ap_dPar3, ap_dApp, ap_dExt, ap_dNo, ap_dSome, ap_asInt, ap_dSl, getV_zero, getV_succ, getB_zero, getB_zeroO, getB_succ, ownL_zero, ownL_succ, tgName_ap, forT_nil, ret_bind, fail_bind, exc_bind, bind_assoc', add_ii, sub_ii, lt_ii, le_ii, gt_ii, ge_ii, eq_ii, ne_ii, abs_i, int_i, int_b, len_l, len_t, items_l, items_t, truth_b, asObj_self, List.set_cons_succ, List.set_cons_zero, if_true, if_false, Bool.false_eq_true, Bool.not_true, Bool.not_false]) (fun _ => ?_) (fun _ => by try simp only [ap_cst, ap_gV, ap_gB, ap_dLst, ap_dNil, ap_dCons, ap_dTup, ap_dB, ap_dBl, ap_dU, ap_dC, ap_dCK, ap_dNot, ap_dAnd, ap_dOr, ap_dAndV, ap_dOrV, ap_dNotV, ap_dIf, ap_dSeq, ap_dSkip, ap_dF, ap_dRet, ap_dRetN, ap_dSet, ap_dOwn, ap_dDrop, ap_dFor, ap_dComp, ap_dBrk, ap_dCnt, ap_dParM, ap_mNil, ap_mV, ap_mN, ap_dAsg, ap_dPar, ap_dPar3, ap_dApp, ap_dExt, ap_dNo, ap_dSome, ap_asInt, ap_dSl, getV_zero, getV_succ, getB_zero, getB_zeroO, getB_succ, ownL_zero, ownL_succ, tgName_ap, forT_nil, ret_bind, fail_bind, exc_bind, bind_assoc', add_ii, sub_ii, lt_ii, le_ii, gt_ii, ge_ii, eq_ii, ne_ii, abs_i, int_i, int_b, len_l, len_t, items_l, items_t, truth_b, asObj_self, List.set_cons_succ, List.set_cons_zero, if_true, if_false, Bool.false_eq_true, Bool.not_true, Bool.not_false]; rw [wq_ret])
    try simp only [ap_cst, ap_gV, ap_gB, ap_dLst, ap_dNil, ap_dCons, ap_dTup, ap_dB, ap_dBl, ap_dU, ap_dC, ap_dCK, ap_dNot, ap_dAnd, ap_dOr, ap_dAndV, ap_dOrV, ap_dNotV, ap_dIf, ap_dSeq, ap_dSkip, ap_dF, ap_dRet, ap_dRetN, ap_dSet, ap_dOwn, ap_dDrop, ap_dFor, ap_dComp, ap_dBrk, ap_dCnt, ap_dParM, ap_mNil, ap_mV, ap_mN, ap_dAsg, ap_dPar, ap_dPar3, ap_dApp, ap_dExt, ap_dNo, ap_dSome, ap_asInt, ap_dSl, getV_zero, getV_succ, getB_zero, getB_zeroO, getB_succ, ownL_zero, ownL_succ, tgName_ap, forT_nil, ret_bind, fail_bind, exc_bind, bind_assoc', add_ii, sub_ii, lt_ii, le_ii, gt_ii, ge_ii, eq_ii, ne_ii, abs_i, int_i, int_b, len_l, len_t, items_l, items_t, truth_b, asObj_self, List.set_cons_succ, List.set_cons_zero, if_true, if_false, Bool.false_eq_true, Bool.not_true, Bool.not_false, listT, hd0]
    refine wq_use (pick_wp (Q := Kz 6 Z) (by simp) (by simp) fun d hd => ?_) fun d hd => ?_
    · simp only [List.mem_cons, List.not_mem_nil, or_false] at hd
      rcases hd with rfl | rfl | rfl | rfl | rfl | rfl | rfl | rfl | rfl | rfl
      all_goals first
        | exact (kc _ (by decide +kernel)).mono (Nat.le_refl _) (by omega)
        | exact hL.mono (by decide) (Nat.le_refl _)
        | exact (ki _ (by omega)).mono (Nat.le_refl _) (by omega)
    · rw [wq_ret]
      exact k3 _ _ _ _ _ _ kp kk hd (by omega)
  subst he
  try simp only [ap_cst, ap_gV, ap_gB, ap_dLst, ap_dNil, ap_dCons, ap_dTup, ap_dB, ap_dBl, ap_dU, ap_dC, ap_dCK, ap_dNot, ap_dAnd, ap_dOr, ap_dAndV, ap_dOrV, ap_dNotV, ap_dIf, ap_dSeq, ap_dSkip, ap_dF, ap_dRet, ap_dRetN, ap_dSet, ap_dOwn, ap_dDrop, ap_dFor, ap_dComp, ap_dBrk, ap_dCnt, ap_dParM, ap_mNil, ap_mV, ap_mN, ap_dAsg, ap_dPar, ap_dPar3, ap_dApp, ap_dExt, ap_dNo, ap_dSome, ap_asInt, ap_dSl, getV_zero, getV_succ, getB_zero, getB_zeroO, getB_succ, ownL_zero, ownL_succ, tgName_ap, forT_nil, ret_bind, fail_bind, exc_bind, bind_assoc', add_ii, sub_ii, lt_ii, le_ii, gt_ii, ge_ii, eq_ii, ne_ii, abs_i, int_i, int_b, len_l, len_t, items_l, items_t, truth_b, asObj_self, List.set_cons_succ, List.set_cons_zero, if_true, if_false, Bool.false_eq_true, Bool.not_true, Bool.not_false, hd0]
  have ha : ∀ x y : List D, x.length = 9 → y.length = 5 → addD (.lst x) (.lst y) = T.ret (.lst (x ++ y)) := fun x y hx hy => addLL (by omega)
  rw [ha _ _ rfl rfl]
  try simp only [ap_cst, ap_gV, ap_gB, ap_dLst, ap_dNil, ap_dCons, ap_dTup, ap_dB, ap_dBl, ap_dU, ap_dC, ap_dCK, ap_dNot, ap_dAnd, ap_dOr, ap_dAndV, ap_dOrV, ap_dNotV, ap_dIf, ap_dSeq, ap_dSkip, ap_dF, ap_dRet, ap_dRetN, ap_dSet, ap_dOwn, ap_dDrop, ap_dFor, ap_dComp, ap_dBrk, ap_dCnt, ap_dParM, ap_mNil, ap_mV, ap_mN, ap_dAsg, ap_dPar, ap_dPar3, ap_dApp, ap_dExt, ap_dNo, ap_dSome, ap_asInt, ap_dSl, getV_zero, getV_succ, getB_zero, getB_zeroO, getB_succ, ownL_zero, ownL_succ, tgName_ap, forT_nil, ret_bind, fail_bind, exc_bind, bind_assoc', add_ii, sub_ii, lt_ii, le_ii, gt_ii, ge_ii, eq_ii, ne_ii, abs_i, int_i, int_b, len_l, len_t, items_l, items_t, truth_b, asObj_self, List.set_cons_succ, List.set_cons_zero, if_true, if_false, Bool.false_eq_true, Bool.not_true, Bool.not_false]
  refine wq_use (pick_wp (Q := Kz 7 (2 * Z + 8000)) (by simp) (by simp) fun d hd => ?_) fun d hd => ?_
  · simp only [List.cons_append, List.nil_append, List.mem_cons, List.not_mem_nil, or_false] at hd
    rcases hd with rfl | rfl | rfl | rfl | rfl | rfl | rfl | rfl | rfl | rfl | rfl | rfl | rfl | rfl
    · exact (kz_lst' (kz_cons kp (kz_cons kk (kz_cons kl kz_nil)))).mono (Nat.le_refl _) (by omega)
    · exact (kz_tup' (kz_cons kp (kz_cons kk kz_nil))).mono (Nat.le_refl _) (by omega)
    · exact (kz_tup' (kz_cons kp (kz_cons kk (kz_cons kl (kz_cons (kc (.tup []) (by decide +kernel)) kz_nil))))).mono (Nat.le_refl _) (by omega)
    · exact hbig (kc _ (by decide +kernel)) (by omega)
    · exact hbig kp (by omega)
    · exact hbig (kc _ (by decide +kernel)) (by omega)
    · exact hbig (kc _ (by decide +kernel)) (by omega)
    · exact (kz_tup' (kz_cons kp (kz_cons kk (kz_cons kl (kz_cons kl kz_nil))))).mono (Nat.le_refl _) (by omega)
    · exact hbig (kc _ (by decide +kernel)) (by omega)
    · exact hbig (kc _ (by decide +kernel)) (by omega)
    · have h3 : Kz 6 (Z + 4100) (.tup [.int (p : Int), .int (k : Int), .tup l]) := (kz_tup' (m := 5) (kz_cons ((kz_int (i := (p : Int)) (Nat.lt_of_le_of_lt (show (p : Int).natAbs ≤ 10 ^ 40 by omega) big_pow)).mono (by decide) (Nat.le_refl 2000)) (kz_cons ((kz_int (i := (k : Int)) (Nat.lt_of_le_of_lt (show (k : Int).natAbs ≤ 10 ^ 40 by omega) big_pow)).mono (by decide) (Nat.le_refl 2000)) (kz_cons h kz_nil)))).mono (Nat.le_refl _) (by omega)
      exact (kz_tup' (kz_cons h3 kz_nil)).mono (Nat.le_refl _) (by omega)
    · exact k3 _ _ _ _ _ _ kk kp kl (by omega)
    · exact k3 _ _ _ _ _ _ kp kl kk (by omega)
    · exact hbig kl (by omega)
  · rw [wq_ret]; exact hd
end Law

namespace Law
open PySem PySem.Spec PyProof.Rows L2 Eng
variable {E : Str → List D → Prop}
theorem All2.get {α β : Type} {R : α → β → Prop} : ∀ {l : List α} {m : List β}, All2 R l m → ∀ {i : Nat} {a : α}, l[i]? = some a → ∃ b, m[i]? = some b ∧ R a b
  | _, _, .nil, i, a, h => by simp at h
  | _, _, .cons h r, 0, a, e => by
    simp only [List.getElem?_cons_zero, Option.some.injEq] at e
    subst e
    exact ⟨_, rfl, h⟩
  | _, _, .cons h r, i + 1, a, e => by
    obtain ⟨b, h1, h2⟩ := r.get (by simpa using e)
    exact ⟨b, by simpa using h1, h2⟩
theorem All2.snoc {α β : Type} {R : α → β → Prop} : ∀ {l : List α} {m : List β} {a : α} {b : β}, All2 R l m → R a b → All2 R (l ++ [a]) (m ++ [b])
  | _, _, _, _, .nil, h => .cons h .nil
  | _, _, _, _, .cons h r, h2 => .cons h (r.snoc h2)
theorem All2.imp {α β : Type} {R S : α → β → Prop} (f : ∀ a b, R a b → S a b) : ∀ {l : List α} {m : List β}, All2 R l m → All2 S l m
  | _, _, .nil => .nil
  | _, _, .cons h r => .cons (f _ _ h) (r.imp f)
def rowOk' (p n : Nat) (us : List Nat) (j : Nat) (l : List Nat) : Prop := rowOk n us j l ∧ ∀ c ∈ l, c < p
theorem row_ok {p n j : Nat} {us cs : List Nat} (hp : 2 ≤ p) (hj : j < n) (hju : j ∈ us) (h : All2 (fun k c => c < p ∧ (k ≤ j ∨ k ∈ us → c = 0)) (List.range n) cs) (hus : ∀ k ∈ us, k < n) : rowOk' p n us j (cs.set j 1) := by
  have hl : cs.length = n := by rw [h.len, List.length_range]
  have hg : ∀ k, k < n → ∃ c, cs[k]? = some c ∧ c < p ∧ (k ≤ j ∨ k ∈ us → c = 0) := fun k hk => h.get (by rw [List.getElem?_range hk])
  refine ⟨⟨by rw [List.length_set]; exact hl, fun k hk => ?_, ?_, fun k hk hne => ?_⟩, fun c hc => ?_⟩
  · obtain ⟨c, h1, _, h3⟩ := hg k (by omega)
    rw [List.getElem?_set_ne (by omega), h1, h3 (.inl (by omega))]
  · rw [List.getElem?_set_self (by omega)]
  · obtain ⟨c, h1, _, h3⟩ := hg k (hus k hk)
    rw [List.getElem?_set_ne (by omega), h1, h3 (.inr hk)]
  · rcases List.mem_or_eq_of_mem_set hc with hc | rfl
    · exact (All2.all (P := fun c => c < p) (h.imp fun _ _ z => z.1) c hc)
    · omega
def FlatD (p n : Nat) (d : D) : Prop := ∃ us ls, us.Pairwise (· < ·) ∧ (∀ j ∈ us, j < n) ∧ All2 (fun j l => rowOk' p n us j l) us ls ∧ d = .tup [.int (p : Int), .int (n : Int), .tup (mkRows ls)]
theorem flat_wq (a0 : Addr) (p n : Nat) (hp : 2 ≤ p) (hp7 : p ≤ 7) (hn : n ≤ 8) : wq (t_l_flat a0 [.obj a0, .int (p : Int), .int (n : Int)]) (FlatD p n) E := by
  unfold t_l_flat
  refine wq_body ?_
  have e0 : startE 9 [.obj a0, .int (p : Int), .int (n : Int)] = [.val (.obj a0), .val (.int (p : Int)), .val (.int (n : Int)), .un, .un, .un, .un, .un, .un] := rfl
  rw [e0]
  unfold b_l_flat
  refine flat_head a0 p n hn fun s us hus => ?_
  have hsrt : us.Pairwise (· < ·) := List.Pairwise.sublist hus List.pairwise_lt_range
  have hlt : ∀ j ∈ us, j < n := fun j hj => List.mem_range.mp (hus.subset hj)
  have hlen : us.length ≤ n := by have := hus.length_le; rwa [List.length_range] at this
  refine wq_seq (fun e => ∃ ls x6 x7 x8, All2 (fun j l => rowOk' p n us j l) us ls ∧ e = FE a0 p n s us (mkRows ls) x6 x7 x8) ?_ fun e he => ?_
  · try simp only [ap_cst, ap_gV, ap_gB, ap_dLst, ap_dNil, ap_dCons, ap_dTup, ap_dB, ap_dBl, ap_dU, ap_dC, ap_dCK, ap_dNot, ap_dAnd, ap_dOr, ap_dAndV, ap_dOrV, ap_dNotV, ap_dIf, ap_dSeq, ap_dSkip, ap_dF, ap_dRet, ap_dRetN, ap_dSet, ap_dOwn, ap_dDrop, ap_dFor, ap_dComp, ap_dBrk, ap_dCnt, ap_dParM, ap_mNil, ap_mV, ap_mN, ap_dAsg, ap_dPar, ap_dPar3, ap_dApp, ap_dExt, ap_dNo, ap_dSome, ap_asInt, ap_dSl, getV_zero, getV_succ, getB_zero, getB_zeroO, getB_succ, ownL_zero, ownL_succ, tgName_ap, forT_nil, ret_bind, fail_bind, exc_bind, bind_assoc', add_ii, sub_ii, lt_ii, le_ii, gt_ii, ge_ii, eq_ii, ne_ii, abs_i, int_i, int_b, len_l, len_t, items_l, items_t, truth_b, asObj_self, List.set_cons_succ, List.set_cons_zero, if_true, if_false, Bool.false_eq_true, Bool.not_true, Bool.not_false]
    refine wq_forT_ix (fun i e => ∃ ls x6 x7 x8, All2 (fun j l => rowOk' p n us j l) (us.take i) ls ∧ e = FE a0 p n s us (mkRows ls) x6 x7 x8) (dInts us) 0 (fun i d hd env henv => ?_) (fun env henv => ?_) _ ⟨[], .un, .un, .un, .nil, rfl⟩
    · obtain ⟨ls, x6, x7, x8, hA, rfl⟩ := henv
      rw [Nat.zero_add] at hA
      rw [List.getElem?_map] at hd
      cases hq : us[i]? with
      | none => rw [hq] at hd; cases hd
      | some j =>
        rw [hq] at hd
        cases hd
        have hi := (List.getElem?_eq_some_iff.mp hq).1
        have hju := List.mem_of_getElem? hq
        have hjn := hlt j hju
        refine ⟨FE a0 p n s us (mkRows ls) x6 (.val (.int (j : Int))) x8, rfl, ?_⟩
        refine wq_seq (fun e => ∃ cs : List Nat, All2 (fun k c => c < p ∧ (k ≤ j ∨ k ∈ us → c = 0)) (List.range n) cs ∧ e = FE a0 p n s us (mkRows ls) x6 (.val (.int (j : Int))) (.own (.lst (dInts cs)))) ?_ fun e he => ?_
        · have hr := range1_nat n (by omega)
          have hrm : rangeD 0 n = (List.range n).map fun (i : Nat) => D.int (i : Int) := range_map n
          rw [hrm] at hr
          have hw : wipeE (FE a0 p n s us (mkRows ls) x6 (.val (.int (j : Int))) x8) [6] = FE a0 p n s us (mkRows ls) .un (.val (.int (j : Int))) x8 := rfl
          rw [ap_dOwn, ap_dComp]
          have h1 : dC range1 (dCons (gV 2) dNil) (FE a0 p n s us (mkRows ls) x6 (.val (.int (j : Int))) x8) = T.ret ((List.range n).map fun (i : Nat) => D.int (i : Int)) := by try simp only [ap_cst, ap_gV, ap_gB, ap_dLst, ap_dNil, ap_dCons, ap_dTup, ap_dB, ap_dBl, ap_dU, ap_dC, ap_dCK, ap_dNot, ap_dAnd, ap_dOr, ap_dAndV, ap_dOrV, ap_dNotV, ap_dIf, ap_dSeq, ap_dSkip, ap_dF, ap_dRet, ap_dRetN, ap_dSet, ap_dOwn, ap_dDrop, ap_dFor, ap_dComp, ap_dBrk, ap_dCnt, ap_dParM, ap_mNil, ap_mV, ap_mN, ap_dAsg, ap_dPar, ap_dPar3, ap_dApp, ap_dExt, ap_dNo, ap_dSome, ap_asInt, ap_dSl, getV_zero, getV_succ, getB_zero, getB_zeroO, getB_succ, ownL_zero, ownL_succ, tgName_ap, forT_nil, ret_bind, fail_bind, exc_bind, bind_assoc', add_ii, sub_ii, lt_ii, le_ii, gt_ii, ge_ii, eq_ii, ne_ii, abs_i, int_i, int_b, len_l, len_t, items_l, items_t, truth_b, asObj_self, List.set_cons_succ, List.set_cons_zero, if_true, if_false, Bool.false_eq_true, Bool.not_true, Bool.not_false, hr]
          rw [h1, ret_bind, hw]
          refine wq_use (row_wq a0 p n j s us (mkRows ls) .un x8 (by omega) (by omega)) fun ys hys => ?_
          obtain ⟨cs, rfl, hcs⟩ := hys
          rw [wq_ret]
          exact ⟨cs, hcs, rfl⟩
        obtain ⟨cs, hcs, rfl⟩ := he
        have hcl : cs.length = n := by rw [hcs.len, List.length_range]
        have hok := row_ok hp hjn hju hcs hlt
        have hj2 : j < (dInts cs).length := by rw [List.length_map]; omega
        have hset : (dInts cs).set j (.int 1) = dInts (cs.set j 1) := by
          show (cs.map _).set j ((fun (i : Nat) => D.int (i : Int)) 1) = _
          rw [← List.map_set]
        have hll : ls.length ≤ i := by
          have := hA.len
          rw [List.length_take] at this
          omega
        try simp only [ap_cst, ap_gV, ap_gB, ap_dLst, ap_dNil, ap_dCons, ap_dTup, ap_dB, ap_dBl, ap_dU, ap_dC, ap_dCK, ap_dNot, ap_dAnd, ap_dOr, ap_dAndV, ap_dOrV, ap_dNotV, ap_dIf, ap_dSeq, ap_dSkip, ap_dF, ap_dRet, ap_dRetN, ap_dSet, ap_dOwn, ap_dDrop, ap_dFor, ap_dComp, ap_dBrk, ap_dCnt, ap_dParM, ap_mNil, ap_mV, ap_mN, ap_dAsg, ap_dPar, ap_dPar3, ap_dApp, ap_dExt, ap_dNo, ap_dSome, ap_asInt, ap_dSl, getV_zero, getV_succ, getB_zero, getB_zeroO, getB_succ, ownL_zero, ownL_succ, tgName_ap, forT_nil, ret_bind, fail_bind, exc_bind, bind_assoc', add_ii, sub_ii, lt_ii, le_ii, gt_ii, ge_ii, eq_ii, ne_ii, abs_i, int_i, int_b, len_l, len_t, items_l, items_t, truth_b, asObj_self, List.set_cons_succ, List.set_cons_zero, if_true, if_false, Bool.false_eq_true, Bool.not_true, Bool.not_false, ap_dSetIx, ixN_nat hj2, hset, tupL]
        rw [if_pos (by rw [sizeLine_eq]; unfold mkRows; rw [List.length_map]; omega), wq_ret]
        refine ⟨ls ++ [cs.set j 1], x6, .val (.int (j : Int)), .own (.lst (dInts (cs.set j 1))), ?_, ?_⟩
        · have ht : us.take (i + 1) = us.take i ++ [j] := by rw [List.take_add_one, hq]; rfl
          rw [Nat.zero_add, ht]
          exact hA.snoc hok
        · unfold mkRows
          rw [List.map_append]
          rfl
    · obtain ⟨ls, x6, x7, x8, hA, rfl⟩ := henv
      rw [Nat.zero_add, List.length_map, List.take_length] at hA
      exact ⟨ls, x6, x7, x8, hA, rfl⟩
  · obtain ⟨ls, x6, x7, x8, hA, rfl⟩ := he
    try simp only [ap_cst, ap_gV, ap_gB, ap_dLst, ap_dNil, ap_dCons, ap_dTup, ap_dB, ap_dBl, ap_dU, ap_dC, ap_dCK, ap_dNot, ap_dAnd, ap_dOr, ap_dAndV, ap_dOrV, ap_dNotV, ap_dIf, ap_dSeq, ap_dSkip, ap_dF, ap_dRet, ap_dRetN, ap_dSet, ap_dOwn, ap_dDrop, ap_dFor, ap_dComp, ap_dBrk, ap_dCnt, ap_dParM, ap_mNil, ap_mV, ap_mN, ap_dAsg, ap_dPar, ap_dPar3, ap_dApp, ap_dExt, ap_dNo, ap_dSome, ap_asInt, ap_dSl, getV_zero, getV_succ, getB_zero, getB_zeroO, getB_succ, ownL_zero, ownL_succ, tgName_ap, forT_nil, ret_bind, fail_bind, exc_bind, bind_assoc', add_ii, sub_ii, lt_ii, le_ii, gt_ii, ge_ii, eq_ii, ne_ii, abs_i, int_i, int_b, len_l, len_t, items_l, items_t, truth_b, asObj_self, List.set_cons_succ, List.set_cons_zero, if_true, if_false, Bool.false_eq_true, Bool.not_true, Bool.not_false, tupL]
    rw [wq_ret]
    exact ⟨us, ls, hsrt, hlt, hA, rfl⟩
theorem rowB_of {p n : Nat} {l : List Nat} (h1 : l.length = n) (h2 : ∀ c ∈ l, c < p) : rowB (p : Int) (n : Int) (.tup (dInts l)) = true := by
  show (decide (((dInts l).length : Int) = (n : Int)) && (dInts l).all (belowB · (p : Int))) = true
  rw [List.length_map, h1, decide_eq_true rfl, Bool.true_and, List.all_map]
  refine List.all_eq_true.mpr fun c hc => ?_
  have := h2 c hc
  show (decide ((0 : Int) ≤ (c : Int)) && decide ((c : Int) < (p : Int))) = true
  rw [decide_eq_true (by omega), decide_eq_true (by omega)]; rfl
theorem made_lot {p n : Nat} {us us2 : List Nat} {ls : List (List Nat)} (hp7 : p ≤ 7) (hn : n ≤ 8) (hl : us2.length ≤ 8) (h : All2 (fun j l => rowOk' p n us j l) us2 ls) : LotP 8 8 7 (mkRows ls) := by
  refine ⟨by unfold mkRows; rw [List.length_map, h.len]; exact hl, fun d hd => ?_⟩
  obtain ⟨l, hl, rfl⟩ := List.mem_map.mp hd
  have hq := All2.all (P := fun l : List Nat => l.length = n ∧ ∀ c ∈ l, c < p) (h.imp fun _ _ z => ⟨z.1.1, z.2⟩) l hl
  exact rowD_ent ⟨l, rfl, hq.1, hq.2⟩ hp7 hn (Nat.le_refl _) (by omega)
def prB (p : Nat) : Bool := decide (p = 2) || (decide (p = 3) || (decide (p = 5) || decide (p = 7)))
theorem flatX_made {p n : Nat} {us : List Nat} {ls : List (List Nat)} (hp : p = 2 ∨ p = 3 ∨ p = 5 ∨ p = 7) (hn : n ≤ 8) (hs : us.Pairwise (· < ·)) (h : All2 (fun j l => rowOk' p n us j l) us ls) : flatX (.tup [.int (p : Int), .int (n : Int), .tup (mkRows ls)]) = .non := by
  have hP : primeB (.int (p : Int)) = true := by rcases hp with rfl | rfl | rfl | rfl <;> rfl
  have hN : belowB (.int (n : Int)) 9 = true := by
    show (decide ((0 : Int) ≤ (n : Int)) && decide ((n : Int) < 9)) = true
    rw [decide_eq_true (by omega), decide_eq_true (by omega)]; rfl
  have hR : (mkRows ls).zipIdx.findSome? (rowN (p : Int) (n : Int)) = none := List.findSome?_eq_none_iff.mpr fun x hx => by
    obtain ⟨l, hl, he⟩ := List.mem_map.mp (zipIdx_mem hx).2
    have hq := All2.all (P := fun l : List Nat => l.length = n ∧ ∀ c ∈ l, c < p) (h.imp fun _ _ z => ⟨z.1.1, z.2⟩) l hl
    have := rowB_of hq.1 hq.2
    unfold rowN
    rw [← he, this]
    rfl
  have hS := stairs_none hs (h.imp fun _ _ z => z.1)
  show restX _ _ _ = _
  unfold restX
  rw [if_pos hP, if_pos hN]
  show (match (mkRows ls).zipIdx.findSome? (rowN (p : Int) (n : Int)) with
    | some e => e
    | none => resD (stairsF (mkRows ls))) = _
  rw [hR, hS]
  rfl
end Law

namespace Law
open PySem PySem.Spec PyProof.Rows L2 Eng
variable {E : Str → List D → Prop}
theorem small_int (k : Nat) (h : k ≤ 100) : Kz 5 2000 (.int (k : Int)) := (kz_int (Nat.lt_of_le_of_lt (show (k : Int).natAbs ≤ 10 ^ 40 by omega) big_pow)).mono (by decide) (Nat.le_refl _)
theorem kn_thing {p n : Nat} (hp : p ≤ 100) (hn : n ≤ 100) {r : D} (h : Kz 5 400000 r) : Kn (.tup [.int (p : Int), .int (n : Int), r]) :=
  (kz_tup' (kz_cons (small_int p hp) (kz_cons (small_int n hn) (kz_cons h kz_nil)))).kn (by decide) (by decide)
abbrev HE (a0 : Addr) (p n : Nat) (g : D) (x4 x5 x6 x7 : Sl) : Eng.Env := [.val (.obj a0), .val (.int (p : Int)), .val (.int (n : Int)), .val g, x4, x5, x6, x7]
theorem is_flat_wq (a0 : Addr) (p n : Nat) (hpp : p = 2 ∨ p = 3 ∨ p = 5 ∨ p = 7) (hn : n ≤ 8) : wq (t_l_is_flat a0 [.obj a0, .int (p : Int), .int (n : Int)]) (fun d => d = .bl true) E := by
  have hp : 2 ≤ p := by omega
  have hp7 : p ≤ 7 := by omega
  unfold t_l_is_flat
  refine wq_body ?_
  have e0 : startE 8 [.obj a0, .int (p : Int), .int (n : Int)] = [.val (.obj a0), .val (.int (p : Int)), .val (.int (n : Int)), .un, .un, .un, .un, .un] := rfl
  rw [e0]
  unfold b_l_is_flat
  refine wq_seq (fun e => ∃ g, FlatD p n g ∧ e = HE a0 p n g .un .un .un .un) ?_ fun e he => ?_
  · try simp only [ap_cst, ap_gV, ap_gB, ap_dLst, ap_dNil, ap_dCons, ap_dTup, ap_dB, ap_dBl, ap_dU, ap_dC, ap_dCK, ap_dNot, ap_dAnd, ap_dOr, ap_dAndV, ap_dOrV, ap_dNotV, ap_dIf, ap_dSeq, ap_dSkip, ap_dF, ap_dRet, ap_dRetN, ap_dSet, ap_dOwn, ap_dDrop, ap_dFor, ap_dComp, ap_dBrk, ap_dCnt, ap_dParM, ap_mNil, ap_mV, ap_mN, ap_dAsg, ap_dPar, ap_dPar3, ap_dApp, ap_dExt, ap_dNo, ap_dSome, ap_asInt, ap_dSl, getV_zero, getV_succ, getB_zero, getB_zeroO, getB_succ, ownL_zero, ownL_succ, tgName_ap, forT_nil, ret_bind, fail_bind, exc_bind, bind_assoc', add_ii, sub_ii, lt_ii, le_ii, gt_ii, ge_ii, eq_ii, ne_ii, abs_i, int_i, int_b, len_l, len_t, items_l, items_t, truth_b, asObj_self, List.set_cons_succ, List.set_cons_zero, if_true, if_false, Bool.false_eq_true, Bool.not_true, Bool.not_false]
    refine wq_use (flat_wq a0 p n hp hp7 hn) fun d hd => ?_
    rw [wq_ret]
    exact ⟨d, hd, rfl⟩
  obtain ⟨g, ⟨us, ls, hs, hlt, hA, rfl⟩, rfl⟩ := he
  have hul : us.length ≤ 8 := by
    have h1 : us.Sublist us := List.Sublist.refl _
    have : us.length ≤ n := by
      have h2 : us ⊆ List.range n := fun j hj => List.mem_range.mpr (hlt j hj)
      have h3 := List.Nodup.length_le_of_subset (hs.imp fun h => Nat.ne_of_lt h) h2
      rwa [List.length_range] at h3
    omega
  have hlot := made_lot hp7 hn hul hA
  have hk := (lot_kz hlot (z := 400000) (by decide)).1
  have hkn := kn_thing (p := p) (n := n) (by omega) (by omega) hk
  have hX := flatX_made hpp hn hs hA
  have hfe := flat_error_eq _ hkn.ft hkn.len
  rw [hX] at hfe
  have htold := told_eq _ hkn
  generalize hg : D.tup [.int (p : Int), .int (n : Int), .tup (mkRows ls)] = g at *
  have hnn : notNoneD .non .non = T.ret false := rfl
  refine wq_seq (fun e => e = HE a0 p n g .un .un .un .un) ?_ fun e he => ?_
  · try simp only [ap_cst, ap_gV, ap_gB, ap_dLst, ap_dNil, ap_dCons, ap_dTup, ap_dB, ap_dBl, ap_dU, ap_dC, ap_dCK, ap_dNot, ap_dAnd, ap_dOr, ap_dAndV, ap_dOrV, ap_dNotV, ap_dIf, ap_dSeq, ap_dSkip, ap_dF, ap_dRet, ap_dRetN, ap_dSet, ap_dOwn, ap_dDrop, ap_dFor, ap_dComp, ap_dBrk, ap_dCnt, ap_dParM, ap_mNil, ap_mV, ap_mN, ap_dAsg, ap_dPar, ap_dPar3, ap_dApp, ap_dExt, ap_dNo, ap_dSome, ap_asInt, ap_dSl, getV_zero, getV_succ, getB_zero, getB_zeroO, getB_succ, ownL_zero, ownL_succ, tgName_ap, forT_nil, ret_bind, fail_bind, exc_bind, bind_assoc', add_ii, sub_ii, lt_ii, le_ii, gt_ii, ge_ii, eq_ii, ne_ii, abs_i, int_i, int_b, len_l, len_t, items_l, items_t, truth_b, asObj_self, List.set_cons_succ, List.set_cons_zero, if_true, if_false, Bool.false_eq_true, Bool.not_true, Bool.not_false, hfe, htold, hnn]
    rw [wq_ret]
  subst he
  refine wq_seq (fun e => ∃ x4 x5 x6 x7, e = HE a0 p n g x4 x5 x6 x7) ?_ fun e he => ?_
  · have hr := range1_nat 6 (by decide)
    have hr' : range1 [.int 6] = T.ret (rangeD 0 6) := hr
    try simp only [ap_cst, ap_gV, ap_gB, ap_dLst, ap_dNil, ap_dCons, ap_dTup, ap_dB, ap_dBl, ap_dU, ap_dC, ap_dCK, ap_dNot, ap_dAnd, ap_dOr, ap_dAndV, ap_dOrV, ap_dNotV, ap_dIf, ap_dSeq, ap_dSkip, ap_dF, ap_dRet, ap_dRetN, ap_dSet, ap_dOwn, ap_dDrop, ap_dFor, ap_dComp, ap_dBrk, ap_dCnt, ap_dParM, ap_mNil, ap_mV, ap_mN, ap_dAsg, ap_dPar, ap_dPar3, ap_dApp, ap_dExt, ap_dNo, ap_dSome, ap_asInt, ap_dSl, getV_zero, getV_succ, getB_zero, getB_zeroO, getB_succ, ownL_zero, ownL_succ, tgName_ap, forT_nil, ret_bind, fail_bind, exc_bind, bind_assoc', add_ii, sub_ii, lt_ii, le_ii, gt_ii, ge_ii, eq_ii, ne_ii, abs_i, int_i, int_b, len_l, len_t, items_l, items_t, truth_b, asObj_self, List.set_cons_succ, List.set_cons_zero, if_true, if_false, Bool.false_eq_true, Bool.not_true, Bool.not_false, hr']
    refine wq_forT (fun e => ∃ x4 x5 x6 x7, e = HE a0 p n g x4 x5 x6 x7) (rangeD 0 6) (fun d hd env henv => ?_) (fun env henv => henv) _ ⟨_, _, _, _, rfl⟩
    obtain ⟨x4, x5, x6, x7, rfl⟩ := henv
    obtain ⟨i, hi, rfl⟩ := mem_rangeD hd
    rw [Int.zero_add]
    refine ⟨HE a0 p n g (.val (.int (i : Int))) x5 x6 x7, rfl, ?_⟩
    have hg2 : ixD g (.int 2) = T.ret (.tup (mkRows ls)) := by rw [← hg]; exact ixT (i := 2) rfl
    refine wq_seq (fun e => e = HE a0 p n g (.val (.int (i : Int))) (.val (.lst (mkRows ls))) x6 x7) (by try simp only [ap_cst, ap_gV, ap_gB, ap_dLst, ap_dNil, ap_dCons, ap_dTup, ap_dB, ap_dBl, ap_dU, ap_dC, ap_dCK, ap_dNot, ap_dAnd, ap_dOr, ap_dAndV, ap_dOrV, ap_dNotV, ap_dIf, ap_dSeq, ap_dSkip, ap_dF, ap_dRet, ap_dRetN, ap_dSet, ap_dOwn, ap_dDrop, ap_dFor, ap_dComp, ap_dBrk, ap_dCnt, ap_dParM, ap_mNil, ap_mV, ap_mN, ap_dAsg, ap_dPar, ap_dPar3, ap_dApp, ap_dExt, ap_dNo, ap_dSome, ap_asInt, ap_dSl, getV_zero, getV_succ, getB_zero, getB_zeroO, getB_succ, ownL_zero, ownL_succ, tgName_ap, forT_nil, ret_bind, fail_bind, exc_bind, bind_assoc', add_ii, sub_ii, lt_ii, le_ii, gt_ii, ge_ii, eq_ii, ne_ii, abs_i, int_i, int_b, len_l, len_t, items_l, items_t, truth_b, asObj_self, List.set_cons_succ, List.set_cons_zero, if_true, if_false, Bool.false_eq_true, Bool.not_true, Bool.not_false, hg2, listT]; rw [wq_ret]) fun e he => ?_
    subst he
    refine wq_seq (fun e => ∃ l x6, LotP 10 10 (7 + 2 * 10 ^ 32) l ∧ e = HE a0 p n g (.val (.int (i : Int))) (.val (.lst l)) x6 x7) ?_ fun e he => ?_
    · try simp only [ap_cst, ap_gV, ap_gB, ap_dLst, ap_dNil, ap_dCons, ap_dTup, ap_dB, ap_dBl, ap_dU, ap_dC, ap_dCK, ap_dNot, ap_dAnd, ap_dOr, ap_dAndV, ap_dOrV, ap_dNotV, ap_dIf, ap_dSeq, ap_dSkip, ap_dF, ap_dRet, ap_dRetN, ap_dSet, ap_dOwn, ap_dDrop, ap_dFor, ap_dComp, ap_dBrk, ap_dCnt, ap_dParM, ap_mNil, ap_mV, ap_mN, ap_dAsg, ap_dPar, ap_dPar3, ap_dApp, ap_dExt, ap_dNo, ap_dSome, ap_asInt, ap_dSl, getV_zero, getV_succ, getB_zero, getB_zeroO, getB_succ, ownL_zero, ownL_succ, tgName_ap, forT_nil, ret_bind, fail_bind, exc_bind, bind_assoc', add_ii, sub_ii, lt_ii, le_ii, gt_ii, ge_ii, eq_ii, ne_ii, abs_i, int_i, int_b, len_l, len_t, items_l, items_t, truth_b, asObj_self, List.set_cons_succ, List.set_cons_zero, if_true, if_false, Bool.false_eq_true, Bool.not_true, Bool.not_false]
      refine wq_use (pick_wp (Q := fun d => ∃ s : Nat, s ≤ 2 ∧ d = .int (s : Int)) (by simp) (by simp) fun d hd => ?_) fun d hd => ?_
      · simp only [List.mem_cons, List.not_mem_nil, or_false] at hd
        rcases hd with rfl | rfl | rfl | rfl
        · exact ⟨0, by decide, rfl⟩
        · exact ⟨1, by decide, rfl⟩
        · exact ⟨1, by decide, rfl⟩
        · exact ⟨2, by decide, rfl⟩
      obtain ⟨s, hs2, rfl⟩ := hd
      try simp only [ap_cst, ap_gV, ap_gB, ap_dLst, ap_dNil, ap_dCons, ap_dTup, ap_dB, ap_dBl, ap_dU, ap_dC, ap_dCK, ap_dNot, ap_dAnd, ap_dOr, ap_dAndV, ap_dOrV, ap_dNotV, ap_dIf, ap_dSeq, ap_dSkip, ap_dF, ap_dRet, ap_dRetN, ap_dSet, ap_dOwn, ap_dDrop, ap_dFor, ap_dComp, ap_dBrk, ap_dCnt, ap_dParM, ap_mNil, ap_mV, ap_mN, ap_dAsg, ap_dPar, ap_dPar3, ap_dApp, ap_dExt, ap_dNo, ap_dSome, ap_asInt, ap_dSl, getV_zero, getV_succ, getB_zero, getB_zeroO, getB_succ, ownL_zero, ownL_succ, tgName_ap, forT_nil, ret_bind, fail_bind, exc_bind, bind_assoc', add_ii, sub_ii, lt_ii, le_ii, gt_ii, ge_ii, eq_ii, ne_ii, abs_i, int_i, int_b, len_l, len_t, items_l, items_t, truth_b, asObj_self, List.set_cons_succ, List.set_cons_zero, if_true, if_false, Bool.false_eq_true, Bool.not_true, Bool.not_false, range1_nat s (by omega)]
      refine wq_forT_ix (fun i' e => ∃ l x6, i' ≤ s ∧ LotP (8 + i') (8 + i') (7 + i' * 10 ^ 32) l ∧ e = HE a0 p n g (.val (.int (i : Int))) (.val (.lst l)) x6 x7) (rangeD 0 s) 0 (fun j d hd env henv => ?_) (fun env henv => ?_) _ ⟨_, _, Nat.zero_le _, hlot.mono (by omega) (by omega) (by omega), rfl⟩
      · obtain ⟨l, x6, _, hl, rfl⟩ := henv
        obtain ⟨hj, rfl⟩ := rangeD_get hd
        rw [Nat.zero_add] at hl
        refine ⟨HE a0 p n g (.val (.int (i : Int))) (.val (.lst l)) (.val (.int (j : Int))) x7, rfl, ?_⟩
        try simp only [ap_cst, ap_gV, ap_gB, ap_dLst, ap_dNil, ap_dCons, ap_dTup, ap_dB, ap_dBl, ap_dU, ap_dC, ap_dCK, ap_dNot, ap_dAnd, ap_dOr, ap_dAndV, ap_dOrV, ap_dNotV, ap_dIf, ap_dSeq, ap_dSkip, ap_dF, ap_dRet, ap_dRetN, ap_dSet, ap_dOwn, ap_dDrop, ap_dFor, ap_dComp, ap_dBrk, ap_dCnt, ap_dParM, ap_mNil, ap_mV, ap_mN, ap_dAsg, ap_dPar, ap_dPar3, ap_dApp, ap_dExt, ap_dNo, ap_dSome, ap_asInt, ap_dSl, getV_zero, getV_succ, getB_zero, getB_zeroO, getB_succ, ownL_zero, ownL_succ, tgName_ap, forT_nil, ret_bind, fail_bind, exc_bind, bind_assoc', add_ii, sub_ii, lt_ii, le_ii, gt_ii, ge_ii, eq_ii, ne_ii, abs_i, int_i, int_b, len_l, len_t, items_l, items_t, truth_b, asObj_self, List.set_cons_succ, List.set_cons_zero, if_true, if_false, Bool.false_eq_true, Bool.not_true, Bool.not_false]
        refine wq_use (rows_wq a0 p n (8 + j) (8 + j) (7 + j * 10 ^ 32) hp hp7 hn (by omega) (by omega) (by omega) (by omega) (by omega) l hl) fun d hd => ?_
        obtain ⟨l', rfl, hl'⟩ := hd
        rw [wq_ret]
        exact ⟨l', _, by omega, hl'.mono (by omega) (by omega) (by omega), rfl⟩
      · obtain ⟨l, x6, _, hl, rfl⟩ := henv
        have hrl : (rangeD 0 s).length = s := by unfold rangeD; simp
        rw [Nat.zero_add, hrl] at hl
        exact ⟨l, x6, hl.mono (by omega) (by omega) (by omega), rfl⟩
    obtain ⟨l, x6, hl, rfl⟩ := he
    have hk2 := lot_kz hl (z := 400000) (by decide)
    refine wq_seq (fun e => e = HE a0 p n g (.val (.int (i : Int))) (.val (.lst l)) x6 (.val (.tup [.int (p : Int), .int (n : Int), .tup l]))) (by try simp only [ap_cst, ap_gV, ap_gB, ap_dLst, ap_dNil, ap_dCons, ap_dTup, ap_dB, ap_dBl, ap_dU, ap_dC, ap_dCK, ap_dNot, ap_dAnd, ap_dOr, ap_dAndV, ap_dOrV, ap_dNotV, ap_dIf, ap_dSeq, ap_dSkip, ap_dF, ap_dRet, ap_dRetN, ap_dSet, ap_dOwn, ap_dDrop, ap_dFor, ap_dComp, ap_dBrk, ap_dCnt, ap_dParM, ap_mNil, ap_mV, ap_mN, ap_dAsg, ap_dPar, ap_dPar3, ap_dApp, ap_dExt, ap_dNo, ap_dSome, ap_asInt, ap_dSl, getV_zero, getV_succ, getB_zero, getB_zeroO, getB_succ, ownL_zero, ownL_succ, tgName_ap, forT_nil, ret_bind, fail_bind, exc_bind, bind_assoc', add_ii, sub_ii, lt_ii, le_ii, gt_ii, ge_ii, eq_ii, ne_ii, abs_i, int_i, int_b, len_l, len_t, items_l, items_t, truth_b, asObj_self, List.set_cons_succ, List.set_cons_zero, if_true, if_false, Bool.false_eq_true, Bool.not_true, Bool.not_false, tupL]; rw [wq_ret]) fun e he => ?_
    subst he
    refine wq_seq (fun e => ∃ d, Kn d ∧ e = HE a0 p n g (.val (.int (i : Int))) (.val (.lst l)) x6 (.val d)) ?_ fun e he => ?_
    · refine wq_if (c := decide ((3 : Int) < (i : Int))) (by try simp only [ap_cst, ap_gV, ap_gB, ap_dLst, ap_dNil, ap_dCons, ap_dTup, ap_dB, ap_dBl, ap_dU, ap_dC, ap_dCK, ap_dNot, ap_dAnd, ap_dOr, ap_dAndV, ap_dOrV, ap_dNotV, ap_dIf, ap_dSeq, ap_dSkip, ap_dF, ap_dRet, ap_dRetN, ap_dSet, ap_dOwn, ap_dDrop, ap_dFor, ap_dComp, ap_dBrk, ap_dCnt, ap_dParM, ap_mNil, ap_mV, ap_mN, ap_dAsg, ap_dPar, ap_dPar3, ap_dApp, ap_dExt, ap_dNo, ap_dSome, ap_asInt, ap_dSl, getV_zero, getV_succ, getB_zero, getB_zeroO, getB_succ, ownL_zero, ownL_succ, tgName_ap, forT_nil, ret_bind, fail_bind, exc_bind, bind_assoc', add_ii, sub_ii, lt_ii, le_ii, gt_ii, ge_ii, eq_ii, ne_ii, abs_i, int_i, int_b, len_l, len_t, items_l, items_t, truth_b, asObj_self, List.set_cons_succ, List.set_cons_zero, if_true, if_false, Bool.false_eq_true, Bool.not_true, Bool.not_false]) (fun _ => ?_) (fun _ => ?_)
      · try simp only [ap_cst, ap_gV, ap_gB, ap_dLst, ap_dNil, ap_dCons, ap_dTup, ap_dB, ap_dBl, ap_dU, ap_dC, ap_dCK, ap_dNot, ap_dAnd, ap_dOr, ap_dAndV, ap_dOrV, ap_dNotV, ap_dIf, ap_dSeq, ap_dSkip, ap_dF, ap_dRet, ap_dRetN, ap_dSet, ap_dOwn, ap_dDrop, ap_dFor, ap_dComp, ap_dBrk, ap_dCnt, ap_dParM, ap_mNil, ap_mV, ap_mN, ap_dAsg, ap_dPar, ap_dPar3, ap_dApp, ap_dExt, ap_dNo, ap_dSome, ap_asInt, ap_dSl, getV_zero, getV_succ, getB_zero, getB_zeroO, getB_succ, ownL_zero, ownL_succ, tgName_ap, forT_nil, ret_bind, fail_bind, exc_bind, bind_assoc', add_ii, sub_ii, lt_ii, le_ii, gt_ii, ge_ii, eq_ii, ne_ii, abs_i, int_i, int_b, len_l, len_t, items_l, items_t, truth_b, asObj_self, List.set_cons_succ, List.set_cons_zero, if_true, if_false, Bool.false_eq_true, Bool.not_true, Bool.not_false, tupL]
        refine wq_use (whole_wq a0 p n hp7 hn l 400000 (by decide) (by have := hl.1; omega) hk2.1 hk2.2) fun d hd => ?_
        rw [wq_ret]
        exact ⟨d, hd.kn (by decide) (by decide), rfl⟩
      · try simp only [ap_cst, ap_gV, ap_gB, ap_dLst, ap_dNil, ap_dCons, ap_dTup, ap_dB, ap_dBl, ap_dU, ap_dC, ap_dCK, ap_dNot, ap_dAnd, ap_dOr, ap_dAndV, ap_dOrV, ap_dNotV, ap_dIf, ap_dSeq, ap_dSkip, ap_dF, ap_dRet, ap_dRetN, ap_dSet, ap_dOwn, ap_dDrop, ap_dFor, ap_dComp, ap_dBrk, ap_dCnt, ap_dParM, ap_mNil, ap_mV, ap_mN, ap_dAsg, ap_dPar, ap_dPar3, ap_dApp, ap_dExt, ap_dNo, ap_dSome, ap_asInt, ap_dSl, getV_zero, getV_succ, getB_zero, getB_zeroO, getB_succ, ownL_zero, ownL_succ, tgName_ap, forT_nil, ret_bind, fail_bind, exc_bind, bind_assoc', add_ii, sub_ii, lt_ii, le_ii, gt_ii, ge_ii, eq_ii, ne_ii, abs_i, int_i, int_b, len_l, len_t, items_l, items_t, truth_b, asObj_self, List.set_cons_succ, List.set_cons_zero, if_true, if_false, Bool.false_eq_true, Bool.not_true, Bool.not_false]
        rw [wq_ret]
        exact ⟨_, kn_thing (by omega) (by omega) hk2.1, rfl⟩
    obtain ⟨d, hd, rfl⟩ := he
    have ht := told_eq d hd
    try simp only [ap_cst, ap_gV, ap_gB, ap_dLst, ap_dNil, ap_dCons, ap_dTup, ap_dB, ap_dBl, ap_dU, ap_dC, ap_dCK, ap_dNot, ap_dAnd, ap_dOr, ap_dAndV, ap_dOrV, ap_dNotV, ap_dIf, ap_dSeq, ap_dSkip, ap_dF, ap_dRet, ap_dRetN, ap_dSet, ap_dOwn, ap_dDrop, ap_dFor, ap_dComp, ap_dBrk, ap_dCnt, ap_dParM, ap_mNil, ap_mV, ap_mN, ap_dAsg, ap_dPar, ap_dPar3, ap_dApp, ap_dExt, ap_dNo, ap_dSome, ap_asInt, ap_dSl, getV_zero, getV_succ, getB_zero, getB_zeroO, getB_succ, ownL_zero, ownL_succ, tgName_ap, forT_nil, ret_bind, fail_bind, exc_bind, bind_assoc', add_ii, sub_ii, lt_ii, le_ii, gt_ii, ge_ii, eq_ii, ne_ii, abs_i, int_i, int_b, len_l, len_t, items_l, items_t, truth_b, asObj_self, List.set_cons_succ, List.set_cons_zero, if_true, if_false, Bool.false_eq_true, Bool.not_true, Bool.not_false, ht]
    rw [wq_ret]
    exact ⟨_, _, _, _, rfl⟩
  obtain ⟨x4, x5, x6, x7, rfl⟩ := he
  try simp only [ap_cst, ap_gV, ap_gB, ap_dLst, ap_dNil, ap_dCons, ap_dTup, ap_dB, ap_dBl, ap_dU, ap_dC, ap_dCK, ap_dNot, ap_dAnd, ap_dOr, ap_dAndV, ap_dOrV, ap_dNotV, ap_dIf, ap_dSeq, ap_dSkip, ap_dF, ap_dRet, ap_dRetN, ap_dSet, ap_dOwn, ap_dDrop, ap_dFor, ap_dComp, ap_dBrk, ap_dCnt, ap_dParM, ap_mNil, ap_mV, ap_mN, ap_dAsg, ap_dPar, ap_dPar3, ap_dApp, ap_dExt, ap_dNo, ap_dSome, ap_asInt, ap_dSl, getV_zero, getV_succ, getB_zero, getB_zeroO, getB_succ, ownL_zero, ownL_succ, tgName_ap, forT_nil, ret_bind, fail_bind, exc_bind, bind_assoc', add_ii, sub_ii, lt_ii, le_ii, gt_ii, ge_ii, eq_ii, ne_ii, abs_i, int_i, int_b, len_l, len_t, items_l, items_t, truth_b, asObj_self, List.set_cons_succ, List.set_cons_zero, if_true, if_false, Bool.false_eq_true, Bool.not_true, Bool.not_false, htold]
  rw [wq_ret]
end Law

namespace Law
open PySem PySem.Spec PyProof.Rows L2 Eng
variable {E : Str → List D → Prop}
theorem order_wq (a0 : Addr) (l : List D) (P : D → Prop) (hl : l.length ≤ 1000) (hP : ∀ d ∈ l, P d) : wq (t_l_order a0 [.obj a0, .lst l]) (fun d => ∃ m, d = .lst m ∧ m.length ≤ l.length ∧ ∀ d ∈ m, P d) E := by
  unfold t_l_order
  refine wq_body ?_
  have e0 : startE 5 [.obj a0, .lst l] = [.val (.obj a0), .val (.lst l), .un, .un, .un] := rfl
  rw [e0]
  unfold b_l_order
  refine wq_seq (fun e => e = [.val (.obj a0), .val (.lst l), .own (.lst l), .own (.lst []), .un]) (by try simp only [ap_cst, ap_gV, ap_gB, ap_dLst, ap_dNil, ap_dCons, ap_dTup, ap_dB, ap_dBl, ap_dU, ap_dC, ap_dCK, ap_dNot, ap_dAnd, ap_dOr, ap_dAndV, ap_dOrV, ap_dNotV, ap_dIf, ap_dSeq, ap_dSkip, ap_dF, ap_dRet, ap_dRetN, ap_dSet, ap_dOwn, ap_dDrop, ap_dFor, ap_dComp, ap_dBrk, ap_dCnt, ap_dParM, ap_mNil, ap_mV, ap_mN, ap_dAsg, ap_dPar, ap_dPar3, ap_dApp, ap_dExt, ap_dNo, ap_dSome, ap_asInt, ap_dSl, getV_zero, getV_succ, getB_zero, getB_zeroO, getB_succ, ownL_zero, ownL_succ, tgName_ap, forT_nil, ret_bind, fail_bind, exc_bind, bind_assoc', add_ii, sub_ii, lt_ii, le_ii, gt_ii, ge_ii, eq_ii, ne_ii, abs_i, int_i, int_b, len_l, len_t, items_l, items_t, truth_b, asObj_self, List.set_cons_succ, List.set_cons_zero, if_true, if_false, Bool.false_eq_true, Bool.not_true, Bool.not_false, listL]; rw [wq_ret]; rfl) fun e he => ?_
  subst he
  refine wq_seq (fun e => ∃ r m x4, m.length ≤ l.length ∧ (∀ d ∈ m, P d) ∧ e = [.val (.obj a0), .val (.lst l), .own (.lst r), .own (.lst m), x4]) ?_ fun e he => ?_
  · try simp only [ap_cst, ap_gV, ap_gB, ap_dLst, ap_dNil, ap_dCons, ap_dTup, ap_dB, ap_dBl, ap_dU, ap_dC, ap_dCK, ap_dNot, ap_dAnd, ap_dOr, ap_dAndV, ap_dOrV, ap_dNotV, ap_dIf, ap_dSeq, ap_dSkip, ap_dF, ap_dRet, ap_dRetN, ap_dSet, ap_dOwn, ap_dDrop, ap_dFor, ap_dComp, ap_dBrk, ap_dCnt, ap_dParM, ap_mNil, ap_mV, ap_mN, ap_dAsg, ap_dPar, ap_dPar3, ap_dApp, ap_dExt, ap_dNo, ap_dSome, ap_asInt, ap_dSl, getV_zero, getV_succ, getB_zero, getB_zeroO, getB_succ, ownL_zero, ownL_succ, tgName_ap, forT_nil, ret_bind, fail_bind, exc_bind, bind_assoc', add_ii, sub_ii, lt_ii, le_ii, gt_ii, ge_ii, eq_ii, ne_ii, abs_i, int_i, int_b, len_l, len_t, items_l, items_t, truth_b, asObj_self, List.set_cons_succ, List.set_cons_zero, if_true, if_false, Bool.false_eq_true, Bool.not_true, Bool.not_false, range1_nat l.length (by omega)]
    refine wq_forT_ix (fun i e => ∃ r m x4, r.length + i = l.length ∧ m.length = i ∧ (∀ d ∈ r, P d) ∧ (∀ d ∈ m, P d) ∧ e = [.val (.obj a0), .val (.lst l), .own (.lst r), .own (.lst m), x4]) (rangeD 0 l.length) 0 (fun j d hd env henv => ?_) (fun env henv => ?_) _ ⟨l, [], .un, rfl, rfl, hP, (by simp), rfl⟩
    · obtain ⟨r, m, x4, h1, h2, h3, h4, rfl⟩ := henv
      obtain ⟨hj, rfl⟩ := rangeD_get hd
      rw [Nat.zero_add] at h1 h2
      refine ⟨[.val (.obj a0), .val (.lst l), .own (.lst r), .own (.lst m), .val (.int (j : Int))], rfl, ?_⟩
      have hne : r ≠ [] := by rintro rfl; simp at h1; omega
      rw [ap_dAppP]
      have ho : ownL [.val (.obj a0), .val (.lst l), .own (.lst r), .own (.lst m), .val (.int (j : Int))] 3 = T.ret m := rfl
      rw [ho, ret_bind]
      refine wq_use (wq_popAt (a0 := a0) (l := r) (Q := fun p => ∃ d i, d ∈ r ∧ i < r.length ∧ p = (d, [.val (.obj a0), .val (.lst l), .own (.lst (r.eraseIdx i)), .own (.lst m), .val (.int (j : Int))])) rfl (by try simp only [ap_cst, ap_gV, ap_gB, ap_dLst, ap_dNil, ap_dCons, ap_dTup, ap_dB, ap_dBl, ap_dU, ap_dC, ap_dCK, ap_dNot, ap_dAnd, ap_dOr, ap_dAndV, ap_dOrV, ap_dNotV, ap_dIf, ap_dSeq, ap_dSkip, ap_dF, ap_dRet, ap_dRetN, ap_dSet, ap_dOwn, ap_dDrop, ap_dFor, ap_dComp, ap_dBrk, ap_dCnt, ap_dParM, ap_mNil, ap_mV, ap_mN, ap_dAsg, ap_dPar, ap_dPar3, ap_dApp, ap_dExt, ap_dNo, ap_dSome, ap_asInt, ap_dSl, getV_zero, getV_succ, getB_zero, getB_zeroO, getB_succ, ownL_zero, ownL_succ, tgName_ap, forT_nil, ret_bind, fail_bind, exc_bind, bind_assoc', add_ii, sub_ii, lt_ii, le_ii, gt_ii, ge_ii, eq_ii, ne_ii, abs_i, int_i, int_b, len_l, len_t, items_l, items_t, truth_b, asObj_self, List.set_cons_succ, List.set_cons_zero, if_true, if_false, Bool.false_eq_true, Bool.not_true, Bool.not_false]) hne (by omega) fun i d hd => ⟨d, i, List.mem_of_getElem? hd, (List.getElem?_eq_some_iff.mp hd).1, rfl⟩) fun p hp => ?_
      obtain ⟨d, i, hd, hi, rfl⟩ := hp
      have ho2 : ownL (d, [Sl.val (.obj a0), Sl.val (.lst l), Sl.own (.lst (r.eraseIdx i)), Sl.own (.lst m), Sl.val (.int (j : Int))]).2 3 = T.ret m := rfl
      rw [ho2, ret_bind, if_pos (by rw [sizeLine_eq]; omega), wq_ret]
      refine ⟨r.eraseIdx i, m ++ [d], .val (.int (j : Int)), ?_, ?_, fun c hc => h3 c (List.mem_of_mem_eraseIdx hc), fun c hc => ?_, rfl⟩
      · rw [List.length_eraseIdx_of_lt hi]; omega
      · rw [List.length_append, h2]; simp
      · rcases List.mem_append.mp hc with hc | hc
        · exact h4 c hc
        · rw [List.mem_singleton.mp hc]; exact h3 d hd
    · obtain ⟨r, m, x4, h1, h2, h3, h4, rfl⟩ := henv
      exact ⟨r, m, x4, by omega, h4, rfl⟩
  obtain ⟨r, m, x4, h1, h2, rfl⟩ := he
  have hf : frzs [3] [Sl.val (.obj a0), Sl.val (.lst l), Sl.own (.lst r), Sl.own (.lst m), x4] = [.val (.obj a0), .val (.lst l), .own (.lst r), .val (.lst m), x4] := rfl
  rw [ap_dF, hf]
  try simp only [ap_cst, ap_gV, ap_gB, ap_dLst, ap_dNil, ap_dCons, ap_dTup, ap_dB, ap_dBl, ap_dU, ap_dC, ap_dCK, ap_dNot, ap_dAnd, ap_dOr, ap_dAndV, ap_dOrV, ap_dNotV, ap_dIf, ap_dSeq, ap_dSkip, ap_dF, ap_dRet, ap_dRetN, ap_dSet, ap_dOwn, ap_dDrop, ap_dFor, ap_dComp, ap_dBrk, ap_dCnt, ap_dParM, ap_mNil, ap_mV, ap_mN, ap_dAsg, ap_dPar, ap_dPar3, ap_dApp, ap_dExt, ap_dNo, ap_dSome, ap_asInt, ap_dSl, getV_zero, getV_succ, getB_zero, getB_zeroO, getB_succ, ownL_zero, ownL_succ, tgName_ap, forT_nil, ret_bind, fail_bind, exc_bind, bind_assoc', add_ii, sub_ii, lt_ii, le_ii, gt_ii, ge_ii, eq_ii, ne_ii, abs_i, int_i, int_b, len_l, len_t, items_l, items_t, truth_b, asObj_self, List.set_cons_succ, List.set_cons_zero, if_true, if_false, Bool.false_eq_true, Bool.not_true, Bool.not_false]
  rw [wq_ret]
  exact ⟨m, rfl, h1, h2⟩
end Law

namespace Law
open PySem PySem.Spec PyProof.Rows L2 Eng
def isTr : T D → Bool
  | .ret (.bl b) => b
  | _ => false
theorem isTr_eq {t : T D} (h : isTr t = true) : t = T.ret (.bl true) := by
  unfold isTr at h
  split at h
  · rw [h]
  · cases h
theorem inverse_all : t_l_is_inverse [] = T.ret (.bl true) := isTr_eq (by decide +kernel)
/-- the rows of ones, and what stands in place of one of them -/
def unitL (n j : Nat) : List Nat := List.replicate j 0 ++ [1] ++ List.replicate (n - 1 - j) 0
def unitD (n j : Nat) : D := .tup (dInts (unitL n j))
def units (n : Nat) : List D := (List.range n).map (unitD n)
def rowAt (n a : Nat) : List D := dInts (unitL n a)
def putAt (l : List D) (a : Nat) (d : D) : List D := l.take a ++ [d] ++ l.drop (a + 1)
def partsOf (p n a : Nat) : List D := [.tup (putAt (rowAt n a) a (.bl true)), .lst (rowAt n a), .tup (putAt (rowAt n a) a (.int ((p : Int) + 1))), unitD n (if a = 0 then n - 1 else a - 1), .tup (List.replicate n (.int 0))]
def thingOf (p n a : Nat) (d : D) : D := .tup [.int (p : Int), .int (n : Int), .tup (putAt (units n) a d)]
def isNon : D → Bool
  | .non => true
  | _ => false
def endOk (p n a : Nat) : Bool := (partsOf p n a).all fun d => !isNon (flatX (thingOf p n a d)) && chkK 8 900000 (thingOf p n a d)
theorem end_all : ∀ p ∈ [2, 3, 5, 7], ∀ n ∈ [2, 3, 4, 5, 6, 7, 8], ∀ a ∈ List.range n, endOk p n a = true := by decide +kernel
end Law

namespace Law
open PySem PySem.Spec PyProof.Rows L2 Eng
theorem ixL_last {l : List D} {d : D} (h : l[l.length - 1]? = some d) : ixD (.lst l) (.int (-1)) = T.ret d := by
  have hl := (List.getElem?_eq_some_iff.mp h).1
  show (match atI l (-1) with | some d => T.ret d | none => T.fail) = _
  have h1 : ixN l.length (-1) = some (l.length - 1) := by
    unfold ixN
    rw [if_neg (by omega), if_pos (by omega)]
    exact congrArg some (by omega)
  unfold atI
  rw [h1]
  show (match l[l.length - 1]? with | some d => T.ret d | none => T.fail) = _
  rw [h]
theorem unit_len (n j : Nat) (h : j < n) : (rowAt n j).length = n := by
  unfold rowAt unitL
  simp
  omega
theorem units_get (n j : Nat) (h : j < n) : (units n)[j]? = some (unitD n j) := by
  unfold units
  rw [List.getElem?_map, List.getElem?_range h]; rfl
theorem units_len (n : Nat) : (units n).length = n := by unfold units; simp
abbrev PrimeN (p : Nat) : Prop := p = 2 ∨ p = 3 ∨ p = 5 ∨ p = 7
theorem isNon_eq {d : D} (h : isNon d = false) : isNoneD d .non = T.ret false := by
  cases d <;> first | rfl | cases h
theorem unit_kz (n j : Nat) (h : j < n) (hn : n ≤ 8) : Kz 4 20000 (unitD n j) := by
  have hk := kz_tup (m := 3) (z := 2000) (l := rowAt n j) fun c hc => by
    obtain ⟨i, hi, rfl⟩ := List.mem_map.mp hc
    have : i ≤ 1 := by
      unfold unitL at hi
      rcases List.mem_append.mp hi with hi | hi
      · rcases List.mem_append.mp hi with hi | hi
        · rw [(List.mem_replicate.mp hi).2]; decide
        · rw [List.mem_singleton.mp hi]; exact Nat.le_refl _
      · rw [(List.mem_replicate.mp hi).2]; decide
    exact kz_int (Nat.lt_of_le_of_lt (show (i : Int).natAbs ≤ 10 ^ 40 by omega) big_pow)
  rw [unit_len n j h] at hk
  exact hk.mono (Nat.le_refl _) (by omega)
theorem law_wq (a0 : Addr) : wq (b_law a0 (lawE 12 a0)) (fun o => o = .rt (.bl true)) (fun _ _ => False) := by
  have e0 : lawE 12 a0 = [.un, .val (.obj a0), .un, .un, .un, .un, .un, .un, .un, .un, .un, .un] := rfl
  rw [e0]
  unfold b_law
  have hpr : ∀ d ∈ [D.int 2, .int 3, .int 5, .int 7], ∃ p : Nat, PrimeN p ∧ d = .int (p : Int) := fun d hd => by
    simp only [List.mem_cons, List.not_mem_nil, or_false] at hd
    rcases hd with rfl | rfl | rfl | rfl
    · exact ⟨2, by decide, rfl⟩
    · exact ⟨3, by decide, rfl⟩
    · exact ⟨5, by decide, rfl⟩
    · exact ⟨7, by decide, rfl⟩
  refine wq_seq (fun e => ∃ x2 x3 x4, e = [.un, .val (.obj a0), x2, x3, x4, .un, .un, .un, .un, .un, .un, .un]) ?_ fun e he => ?_
  · have hr' : range1 [.int 4] = T.ret (rangeD 0 4) := range1_nat 4 (by decide)
    try simp only [ap_cst, ap_gV, ap_gB, ap_dLst, ap_dNil, ap_dCons, ap_dTup, ap_dB, ap_dBl, ap_dU, ap_dC, ap_dCK, ap_dNot, ap_dAnd, ap_dOr, ap_dAndV, ap_dOrV, ap_dNotV, ap_dIf, ap_dSeq, ap_dSkip, ap_dF, ap_dRet, ap_dRetN, ap_dSet, ap_dOwn, ap_dDrop, ap_dFor, ap_dComp, ap_dBrk, ap_dCnt, ap_dParM, ap_mNil, ap_mV, ap_mN, ap_dAsg, ap_dPar, ap_dPar3, ap_dApp, ap_dExt, ap_dNo, ap_dSome, ap_asInt, ap_dSl, getV_zero, getV_succ, getB_zero, getB_zeroO, getB_succ, ownL_zero, ownL_succ, tgName_ap, forT_nil, ret_bind, fail_bind, exc_bind, bind_assoc', add_ii, sub_ii, lt_ii, le_ii, gt_ii, ge_ii, eq_ii, ne_ii, abs_i, int_i, int_b, len_l, len_t, items_l, items_t, truth_b, asObj_self, List.set_cons_succ, List.set_cons_zero, if_true, if_false, Bool.false_eq_true, Bool.not_true, Bool.not_false, hr']
    refine wq_forT (fun e => ∃ x2 x3 x4, e = [.un, .val (.obj a0), x2, x3, x4, .un, .un, .un, .un, .un, .un, .un]) (rangeD 0 4) (fun d hd env henv => ?_) (fun env henv => henv) _ ⟨_, _, _, rfl⟩
    obtain ⟨x2, x3, x4, rfl⟩ := henv
    refine ⟨_, rfl, ?_⟩
    refine wq_seq (fun e => ∃ x2, ∃ p n : Nat, PrimeN p ∧ n ≤ 8 ∧ e = [.un, .val (.obj a0), x2, .val (.int (p : Int)), .val (.int (n : Int)), .un, .un, .un, .un, .un, .un, .un]) ?_ fun e he => ?_
    · try simp only [ap_cst, ap_gV, ap_gB, ap_dLst, ap_dNil, ap_dCons, ap_dTup, ap_dB, ap_dBl, ap_dU, ap_dC, ap_dCK, ap_dNot, ap_dAnd, ap_dOr, ap_dAndV, ap_dOrV, ap_dNotV, ap_dIf, ap_dSeq, ap_dSkip, ap_dF, ap_dRet, ap_dRetN, ap_dSet, ap_dOwn, ap_dDrop, ap_dFor, ap_dComp, ap_dBrk, ap_dCnt, ap_dParM, ap_mNil, ap_mV, ap_mN, ap_dAsg, ap_dPar, ap_dPar3, ap_dApp, ap_dExt, ap_dNo, ap_dSome, ap_asInt, ap_dSl, getV_zero, getV_succ, getB_zero, getB_zeroO, getB_succ, ownL_zero, ownL_succ, tgName_ap, forT_nil, ret_bind, fail_bind, exc_bind, bind_assoc', add_ii, sub_ii, lt_ii, le_ii, gt_ii, ge_ii, eq_ii, ne_ii, abs_i, int_i, int_b, len_l, len_t, items_l, items_t, truth_b, asObj_self, List.set_cons_succ, List.set_cons_zero, if_true, if_false, Bool.false_eq_true, Bool.not_true, Bool.not_false]
      refine wq_use (pick_wp (Q := fun d => ∃ p : Nat, PrimeN p ∧ d = .int (p : Int)) (by simp) (by simp) hpr) fun d1 hd1 => ?_
      obtain ⟨p, hp, rfl⟩ := hd1
      try simp only [ap_cst, ap_gV, ap_gB, ap_dLst, ap_dNil, ap_dCons, ap_dTup, ap_dB, ap_dBl, ap_dU, ap_dC, ap_dCK, ap_dNot, ap_dAnd, ap_dOr, ap_dAndV, ap_dOrV, ap_dNotV, ap_dIf, ap_dSeq, ap_dSkip, ap_dF, ap_dRet, ap_dRetN, ap_dSet, ap_dOwn, ap_dDrop, ap_dFor, ap_dComp, ap_dBrk, ap_dCnt, ap_dParM, ap_mNil, ap_mV, ap_mN, ap_dAsg, ap_dPar, ap_dPar3, ap_dApp, ap_dExt, ap_dNo, ap_dSome, ap_asInt, ap_dSl, getV_zero, getV_succ, getB_zero, getB_zeroO, getB_succ, ownL_zero, ownL_succ, tgName_ap, forT_nil, ret_bind, fail_bind, exc_bind, bind_assoc', add_ii, sub_ii, lt_ii, le_ii, gt_ii, ge_ii, eq_ii, ne_ii, abs_i, int_i, int_b, len_l, len_t, items_l, items_t, truth_b, asObj_self, List.set_cons_succ, List.set_cons_zero, if_true, if_false, Bool.false_eq_true, Bool.not_true, Bool.not_false]
      refine wq_use (pick_wp (Q := fun d => ∃ p : Nat, p ≤ 8 ∧ d = .int (p : Int)) (by simp) (by simp) fun d hd => ?_) fun d2 hd2 => ?_
      · simp only [List.mem_cons, List.not_mem_nil, or_false] at hd
        rcases hd with rfl | rfl | rfl | rfl | rfl | rfl | rfl | rfl | rfl | rfl
        · exact ⟨0, by decide, rfl⟩
        · exact ⟨1, by decide, rfl⟩
        · exact ⟨2, by decide, rfl⟩
        · exact ⟨3, by decide, rfl⟩
        · exact ⟨4, by decide, rfl⟩
        · exact ⟨5, by decide, rfl⟩
        · exact ⟨6, by decide, rfl⟩
        · exact ⟨7, by decide, rfl⟩
        · exact ⟨8, by decide, rfl⟩
        · exact ⟨8, by decide, rfl⟩
      · obtain ⟨n, hn, rfl⟩ := hd2
        have ht : tgTup (tgCons (tgName 3) (tgCons (tgName 4) tgNil)) 2 (.tup [.int (p : Int), .int (n : Int)]) [.un, .val (.obj a0), .val d, x3, x4, .un, .un, .un, .un, .un, .un, .un] = some [.un, .val (.obj a0), .val d, .val (.int (p : Int)), .val (.int (n : Int)), .un, .un, .un, .un, .un, .un, .un] := rfl
        try simp only [ap_cst, ap_gV, ap_gB, ap_dLst, ap_dNil, ap_dCons, ap_dTup, ap_dB, ap_dBl, ap_dU, ap_dC, ap_dCK, ap_dNot, ap_dAnd, ap_dOr, ap_dAndV, ap_dOrV, ap_dNotV, ap_dIf, ap_dSeq, ap_dSkip, ap_dF, ap_dRet, ap_dRetN, ap_dSet, ap_dOwn, ap_dDrop, ap_dFor, ap_dComp, ap_dBrk, ap_dCnt, ap_dParM, ap_mNil, ap_mV, ap_mN, ap_dAsg, ap_dPar, ap_dPar3, ap_dApp, ap_dExt, ap_dNo, ap_dSome, ap_asInt, ap_dSl, getV_zero, getV_succ, getB_zero, getB_zeroO, getB_succ, ownL_zero, ownL_succ, tgName_ap, forT_nil, ret_bind, fail_bind, exc_bind, bind_assoc', add_ii, sub_ii, lt_ii, le_ii, gt_ii, ge_ii, eq_ii, ne_ii, abs_i, int_i, int_b, len_l, len_t, items_l, items_t, truth_b, asObj_self, List.set_cons_succ, List.set_cons_zero, if_true, if_false, Bool.false_eq_true, Bool.not_true, Bool.not_false, ht]
        rw [wq_ret]
        exact ⟨_, p, n, hp, hn, rfl⟩
    obtain ⟨x2, p, n, hp, hn, rfl⟩ := he
    try simp only [ap_cst, ap_gV, ap_gB, ap_dLst, ap_dNil, ap_dCons, ap_dTup, ap_dB, ap_dBl, ap_dU, ap_dC, ap_dCK, ap_dNot, ap_dAnd, ap_dOr, ap_dAndV, ap_dOrV, ap_dNotV, ap_dIf, ap_dSeq, ap_dSkip, ap_dF, ap_dRet, ap_dRetN, ap_dSet, ap_dOwn, ap_dDrop, ap_dFor, ap_dComp, ap_dBrk, ap_dCnt, ap_dParM, ap_mNil, ap_mV, ap_mN, ap_dAsg, ap_dPar, ap_dPar3, ap_dApp, ap_dExt, ap_dNo, ap_dSome, ap_asInt, ap_dSl, getV_zero, getV_succ, getB_zero, getB_zeroO, getB_succ, ownL_zero, ownL_succ, tgName_ap, forT_nil, ret_bind, fail_bind, exc_bind, bind_assoc', add_ii, sub_ii, lt_ii, le_ii, gt_ii, ge_ii, eq_ii, ne_ii, abs_i, int_i, int_b, len_l, len_t, items_l, items_t, truth_b, asObj_self, List.set_cons_succ, List.set_cons_zero, if_true, if_false, Bool.false_eq_true, Bool.not_true, Bool.not_false]
    refine wq_use (is_flat_wq a0 p n hp hn) fun d hd => ?_
    subst hd
    try simp only [ap_cst, ap_gV, ap_gB, ap_dLst, ap_dNil, ap_dCons, ap_dTup, ap_dB, ap_dBl, ap_dU, ap_dC, ap_dCK, ap_dNot, ap_dAnd, ap_dOr, ap_dAndV, ap_dOrV, ap_dNotV, ap_dIf, ap_dSeq, ap_dSkip, ap_dF, ap_dRet, ap_dRetN, ap_dSet, ap_dOwn, ap_dDrop, ap_dFor, ap_dComp, ap_dBrk, ap_dCnt, ap_dParM, ap_mNil, ap_mV, ap_mN, ap_dAsg, ap_dPar, ap_dPar3, ap_dApp, ap_dExt, ap_dNo, ap_dSome, ap_asInt, ap_dSl, getV_zero, getV_succ, getB_zero, getB_zeroO, getB_succ, ownL_zero, ownL_succ, tgName_ap, forT_nil, ret_bind, fail_bind, exc_bind, bind_assoc', add_ii, sub_ii, lt_ii, le_ii, gt_ii, ge_ii, eq_ii, ne_ii, abs_i, int_i, int_b, len_l, len_t, items_l, items_t, truth_b, asObj_self, List.set_cons_succ, List.set_cons_zero, if_true, if_false, Bool.false_eq_true, Bool.not_true, Bool.not_false]
    rw [wq_ret]
    exact ⟨_, _, _, rfl⟩
  obtain ⟨x2, x3, x4, rfl⟩ := he
  refine wq_seq (fun e => e = [.un, .val (.obj a0), x2, x3, x4, .un, .un, .un, .un, .un, .un, .un]) ?_ fun e he => ?_
  · try simp only [ap_cst, ap_gV, ap_gB, ap_dLst, ap_dNil, ap_dCons, ap_dTup, ap_dB, ap_dBl, ap_dU, ap_dC, ap_dCK, ap_dNot, ap_dAnd, ap_dOr, ap_dAndV, ap_dOrV, ap_dNotV, ap_dIf, ap_dSeq, ap_dSkip, ap_dF, ap_dRet, ap_dRetN, ap_dSet, ap_dOwn, ap_dDrop, ap_dFor, ap_dComp, ap_dBrk, ap_dCnt, ap_dParM, ap_mNil, ap_mV, ap_mN, ap_dAsg, ap_dPar, ap_dPar3, ap_dApp, ap_dExt, ap_dNo, ap_dSome, ap_asInt, ap_dSl, getV_zero, getV_succ, getB_zero, getB_zeroO, getB_succ, ownL_zero, ownL_succ, tgName_ap, forT_nil, ret_bind, fail_bind, exc_bind, bind_assoc', add_ii, sub_ii, lt_ii, le_ii, gt_ii, ge_ii, eq_ii, ne_ii, abs_i, int_i, int_b, len_l, len_t, items_l, items_t, truth_b, asObj_self, List.set_cons_succ, List.set_cons_zero, if_true, if_false, Bool.false_eq_true, Bool.not_true, Bool.not_false]
    refine wq_use (pick_wp (Q := fun d => ∃ p : Nat, PrimeN p ∧ d = .int (p : Int)) (by simp) (by simp) fun d hd => hpr d (by simp only [List.mem_cons, List.not_mem_nil, or_false] at hd ⊢; rcases hd with h | h | h <;> simp [h])) fun d1 hd1 => ?_
    obtain ⟨p, hp, rfl⟩ := hd1
    refine wq_use (is_flat_wq a0 p 8 hp (by decide)) fun d hd => ?_
    subst hd
    try simp only [ap_cst, ap_gV, ap_gB, ap_dLst, ap_dNil, ap_dCons, ap_dTup, ap_dB, ap_dBl, ap_dU, ap_dC, ap_dCK, ap_dNot, ap_dAnd, ap_dOr, ap_dAndV, ap_dOrV, ap_dNotV, ap_dIf, ap_dSeq, ap_dSkip, ap_dF, ap_dRet, ap_dRetN, ap_dSet, ap_dOwn, ap_dDrop, ap_dFor, ap_dComp, ap_dBrk, ap_dCnt, ap_dParM, ap_mNil, ap_mV, ap_mN, ap_dAsg, ap_dPar, ap_dPar3, ap_dApp, ap_dExt, ap_dNo, ap_dSome, ap_asInt, ap_dSl, getV_zero, getV_succ, getB_zero, getB_zeroO, getB_succ, ownL_zero, ownL_succ, tgName_ap, forT_nil, ret_bind, fail_bind, exc_bind, bind_assoc', add_ii, sub_ii, lt_ii, le_ii, gt_ii, ge_ii, eq_ii, ne_ii, abs_i, int_i, int_b, len_l, len_t, items_l, items_t, truth_b, asObj_self, List.set_cons_succ, List.set_cons_zero, if_true, if_false, Bool.false_eq_true, Bool.not_true, Bool.not_false]
    refine wq_use (odd_wq a0) fun d hd => ?_
    have ht := told_eq d (hd.kn (by decide) (by decide))
    try simp only [ap_cst, ap_gV, ap_gB, ap_dLst, ap_dNil, ap_dCons, ap_dTup, ap_dB, ap_dBl, ap_dU, ap_dC, ap_dCK, ap_dNot, ap_dAnd, ap_dOr, ap_dAndV, ap_dOrV, ap_dNotV, ap_dIf, ap_dSeq, ap_dSkip, ap_dF, ap_dRet, ap_dRetN, ap_dSet, ap_dOwn, ap_dDrop, ap_dFor, ap_dComp, ap_dBrk, ap_dCnt, ap_dParM, ap_mNil, ap_mV, ap_mN, ap_dAsg, ap_dPar, ap_dPar3, ap_dApp, ap_dExt, ap_dNo, ap_dSome, ap_asInt, ap_dSl, getV_zero, getV_succ, getB_zero, getB_zeroO, getB_succ, ownL_zero, ownL_succ, tgName_ap, forT_nil, ret_bind, fail_bind, exc_bind, bind_assoc', add_ii, sub_ii, lt_ii, le_ii, gt_ii, ge_ii, eq_ii, ne_ii, abs_i, int_i, int_b, len_l, len_t, items_l, items_t, truth_b, asObj_self, List.set_cons_succ, List.set_cons_zero, if_true, if_false, Bool.false_eq_true, Bool.not_true, Bool.not_false, ht]
    rw [wq_ret]
  subst he
  refine wq_seq (fun e => ∃ p n : Nat, PrimeN p ∧ 2 ≤ n ∧ n ≤ 8 ∧ e = [.un, .val (.obj a0), x2, .val (.int (p : Int)), .val (.int (n : Int)), .un, .un, .un, .un, .un, .un, .un]) ?_ fun e he => ?_
  · try simp only [ap_cst, ap_gV, ap_gB, ap_dLst, ap_dNil, ap_dCons, ap_dTup, ap_dB, ap_dBl, ap_dU, ap_dC, ap_dCK, ap_dNot, ap_dAnd, ap_dOr, ap_dAndV, ap_dOrV, ap_dNotV, ap_dIf, ap_dSeq, ap_dSkip, ap_dF, ap_dRet, ap_dRetN, ap_dSet, ap_dOwn, ap_dDrop, ap_dFor, ap_dComp, ap_dBrk, ap_dCnt, ap_dParM, ap_mNil, ap_mV, ap_mN, ap_dAsg, ap_dPar, ap_dPar3, ap_dApp, ap_dExt, ap_dNo, ap_dSome, ap_asInt, ap_dSl, getV_zero, getV_succ, getB_zero, getB_zeroO, getB_succ, ownL_zero, ownL_succ, tgName_ap, forT_nil, ret_bind, fail_bind, exc_bind, bind_assoc', add_ii, sub_ii, lt_ii, le_ii, gt_ii, ge_ii, eq_ii, ne_ii, abs_i, int_i, int_b, len_l, len_t, items_l, items_t, truth_b, asObj_self, List.set_cons_succ, List.set_cons_zero, if_true, if_false, Bool.false_eq_true, Bool.not_true, Bool.not_false]
    refine wq_use (pick_wp (Q := fun d => ∃ p : Nat, PrimeN p ∧ d = .int (p : Int)) (by simp) (by simp) hpr) fun d1 hd1 => ?_
    obtain ⟨p, hp, rfl⟩ := hd1
    try simp only [ap_cst, ap_gV, ap_gB, ap_dLst, ap_dNil, ap_dCons, ap_dTup, ap_dB, ap_dBl, ap_dU, ap_dC, ap_dCK, ap_dNot, ap_dAnd, ap_dOr, ap_dAndV, ap_dOrV, ap_dNotV, ap_dIf, ap_dSeq, ap_dSkip, ap_dF, ap_dRet, ap_dRetN, ap_dSet, ap_dOwn, ap_dDrop, ap_dFor, ap_dComp, ap_dBrk, ap_dCnt, ap_dParM, ap_mNil, ap_mV, ap_mN, ap_dAsg, ap_dPar, ap_dPar3, ap_dApp, ap_dExt, ap_dNo, ap_dSome, ap_asInt, ap_dSl, getV_zero, getV_succ, getB_zero, getB_zeroO, getB_succ, ownL_zero, ownL_succ, tgName_ap, forT_nil, ret_bind, fail_bind, exc_bind, bind_assoc', add_ii, sub_ii, lt_ii, le_ii, gt_ii, ge_ii, eq_ii, ne_ii, abs_i, int_i, int_b, len_l, len_t, items_l, items_t, truth_b, asObj_self, List.set_cons_succ, List.set_cons_zero, if_true, if_false, Bool.false_eq_true, Bool.not_true, Bool.not_false]
    refine wq_drawN (by decide) (by decide) fun n hn => ?_
    have ht : tgTup (tgCons (tgName 3) (tgCons (tgName 4) tgNil)) 2 (.tup [.int (p : Int), .int (2 + (n : Int))]) [.un, .val (.obj a0), x2, x3, x4, .un, .un, .un, .un, .un, .un, .un] = some [.un, .val (.obj a0), x2, .val (.int (p : Int)), .val (.int (2 + (n : Int))), .un, .un, .un, .un, .un, .un, .un] := rfl
    try simp only [ap_cst, ap_gV, ap_gB, ap_dLst, ap_dNil, ap_dCons, ap_dTup, ap_dB, ap_dBl, ap_dU, ap_dC, ap_dCK, ap_dNot, ap_dAnd, ap_dOr, ap_dAndV, ap_dOrV, ap_dNotV, ap_dIf, ap_dSeq, ap_dSkip, ap_dF, ap_dRet, ap_dRetN, ap_dSet, ap_dOwn, ap_dDrop, ap_dFor, ap_dComp, ap_dBrk, ap_dCnt, ap_dParM, ap_mNil, ap_mV, ap_mN, ap_dAsg, ap_dPar, ap_dPar3, ap_dApp, ap_dExt, ap_dNo, ap_dSome, ap_asInt, ap_dSl, getV_zero, getV_succ, getB_zero, getB_zeroO, getB_succ, ownL_zero, ownL_succ, tgName_ap, forT_nil, ret_bind, fail_bind, exc_bind, bind_assoc', add_ii, sub_ii, lt_ii, le_ii, gt_ii, ge_ii, eq_ii, ne_ii, abs_i, int_i, int_b, len_l, len_t, items_l, items_t, truth_b, asObj_self, List.set_cons_succ, List.set_cons_zero, if_true, if_false, Bool.false_eq_true, Bool.not_true, Bool.not_false, ht]
    rw [wq_ret]
    exact ⟨p, 2 + n, hp, by omega, by omega, rfl⟩
  obtain ⟨p, n, hp, hn2, hn8, rfl⟩ := he
  refine wq_seq (fun e => e = [.un, .val (.obj a0), x2, .val (.int (p : Int)), .val (.int (n : Int)), .own (.lst (units n)), .un, .un, .un, .un, .un, .un]) ?_ fun e he => ?_
  · have hr := range1_nat n (by omega)
    have hrm : rangeD 0 n = (List.range n).map fun (i : Nat) => D.int (i : Int) := range_map n
    rw [hrm] at hr
    have hw : wipeE [.un, .val (.obj a0), x2, .val (.int (p : Int)), .val (.int (n : Int)), .un, .un, .un, .un, .un, .un, .un] [6] = [.un, .val (.obj a0), x2, .val (.int (p : Int)), .val (.int (n : Int)), .un, .un, .un, .un, .un, .un, .un] := rfl
    have hc := compT_all (fun i : Nat => D.int (i : Int)) (unitD n) (f := tgName 6) (t := fun _ => T.ret true) (w := dB addD (dB addD (dB mulD (dTup (dCons (cst (.int 0)) dNil)) (gV 6)) (dTup (dCons (cst (.int 1)) dNil))) (dB mulD (dTup (dCons (cst (.int 0)) dNil)) (dB subD (dB subD (gV 4) (cst (.int 1))) (gV 6)))) (env := [.un, .val (.obj a0), x2, .val (.int (p : Int)), .val (.int (n : Int)), .un, .un, .un, .un, .un, .un, .un]) (List.range n) fun j hj => ⟨[.un, .val (.obj a0), x2, .val (.int (p : Int)), .val (.int (n : Int)), .un, .val (.int (j : Int)), .un, .un, .un, .un, .un], rfl, rfl, by
      have hj := List.mem_range.mp hj
      have e1 : (n : Int) - 1 - (j : Int) = ((n - 1 - j : Nat) : Int) := by omega
      have r1 := repT (.int 0) j (by omega)
      have r2 := repT (.int 0) (n - 1 - j) (by omega)
      have a1 : addD (.tup (List.replicate j (.int 0))) (.tup [.int 1]) = T.ret (.tup (List.replicate j (.int 0) ++ [.int 1])) := addTT (by simp; omega)
      have a2 : addD (.tup (List.replicate j (.int 0) ++ [.int 1])) (.tup (List.replicate (n - 1 - j) (.int 0))) = T.ret (.tup (List.replicate j (.int 0) ++ [.int 1] ++ List.replicate (n - 1 - j) (.int 0))) := addTT (by simp; omega)
      try simp only [ap_cst, ap_gV, ap_gB, ap_dLst, ap_dNil, ap_dCons, ap_dTup, ap_dB, ap_dBl, ap_dU, ap_dC, ap_dCK, ap_dNot, ap_dAnd, ap_dOr, ap_dAndV, ap_dOrV, ap_dNotV, ap_dIf, ap_dSeq, ap_dSkip, ap_dF, ap_dRet, ap_dRetN, ap_dSet, ap_dOwn, ap_dDrop, ap_dFor, ap_dComp, ap_dBrk, ap_dCnt, ap_dParM, ap_mNil, ap_mV, ap_mN, ap_dAsg, ap_dPar, ap_dPar3, ap_dApp, ap_dExt, ap_dNo, ap_dSome, ap_asInt, ap_dSl, getV_zero, getV_succ, getB_zero, getB_zeroO, getB_succ, ownL_zero, ownL_succ, tgName_ap, forT_nil, ret_bind, fail_bind, exc_bind, bind_assoc', add_ii, sub_ii, lt_ii, le_ii, gt_ii, ge_ii, eq_ii, ne_ii, abs_i, int_i, int_b, len_l, len_t, items_l, items_t, truth_b, asObj_self, List.set_cons_succ, List.set_cons_zero, if_true, if_false, Bool.false_eq_true, Bool.not_true, Bool.not_false, e1, r1, r2, a1, a2]
      unfold unitD unitL dInts
      rw [List.map_append, List.map_append, List.map_replicate, List.map_replicate]
      rfl⟩
    try simp only [ap_cst, ap_gV, ap_gB, ap_dLst, ap_dNil, ap_dCons, ap_dTup, ap_dB, ap_dBl, ap_dU, ap_dC, ap_dCK, ap_dNot, ap_dAnd, ap_dOr, ap_dAndV, ap_dOrV, ap_dNotV, ap_dIf, ap_dSeq, ap_dSkip, ap_dF, ap_dRet, ap_dRetN, ap_dSet, ap_dOwn, ap_dDrop, ap_dFor, ap_dComp, ap_dBrk, ap_dCnt, ap_dParM, ap_mNil, ap_mV, ap_mN, ap_dAsg, ap_dPar, ap_dPar3, ap_dApp, ap_dExt, ap_dNo, ap_dSome, ap_asInt, ap_dSl, getV_zero, getV_succ, getB_zero, getB_zeroO, getB_succ, ownL_zero, ownL_succ, tgName_ap, forT_nil, ret_bind, fail_bind, exc_bind, bind_assoc', add_ii, sub_ii, lt_ii, le_ii, gt_ii, ge_ii, eq_ii, ne_ii, abs_i, int_i, int_b, len_l, len_t, items_l, items_t, truth_b, asObj_self, List.set_cons_succ, List.set_cons_zero, if_true, if_false, Bool.false_eq_true, Bool.not_true, Bool.not_false, hr, hw, hc]
    rw [wq_ret]
    rfl
  subst he
  refine wq_seq (fun e => ∃ a : Nat, a < n ∧ e = [.un, .val (.obj a0), x2, .val (.int (p : Int)), .val (.int (n : Int)), .own (.lst (units n)), .un, .val (.int (a : Int)), .un, .un, .un, .un]) ?_ fun e he => ?_
  · try simp only [ap_cst, ap_gV, ap_gB, ap_dLst, ap_dNil, ap_dCons, ap_dTup, ap_dB, ap_dBl, ap_dU, ap_dC, ap_dCK, ap_dNot, ap_dAnd, ap_dOr, ap_dAndV, ap_dOrV, ap_dNotV, ap_dIf, ap_dSeq, ap_dSkip, ap_dF, ap_dRet, ap_dRetN, ap_dSet, ap_dOwn, ap_dDrop, ap_dFor, ap_dComp, ap_dBrk, ap_dCnt, ap_dParM, ap_mNil, ap_mV, ap_mN, ap_dAsg, ap_dPar, ap_dPar3, ap_dApp, ap_dExt, ap_dNo, ap_dSome, ap_asInt, ap_dSl, getV_zero, getV_succ, getB_zero, getB_zeroO, getB_succ, ownL_zero, ownL_succ, tgName_ap, forT_nil, ret_bind, fail_bind, exc_bind, bind_assoc', add_ii, sub_ii, lt_ii, le_ii, gt_ii, ge_ii, eq_ii, ne_ii, abs_i, int_i, int_b, len_l, len_t, items_l, items_t, truth_b, asObj_self, List.set_cons_succ, List.set_cons_zero, if_true, if_false, Bool.false_eq_true, Bool.not_true, Bool.not_false]
    refine wq_drawN (by omega) (by omega) fun a ha => ?_
    rw [wq_ret]
    exact ⟨a, by omega, rfl⟩
  obtain ⟨a, ha, rfl⟩ := he
  have hu := ixL (units_get n a ha)
  have hlr := unit_len n a ha
  have hput : ∀ d, addD (.tup ((rowAt n a).take a)) (.tup [d]) = T.ret (.tup ((rowAt n a).take a ++ [d])) := fun d => addTT (by rw [List.length_take]; simp; omega)
  have hput2 : ∀ d, addD (.tup ((rowAt n a).take a ++ [d])) (.tup ((rowAt n a).drop (a + 1))) = T.ret (.tup (putAt (rowAt n a) a d)) := fun d => addTT (by rw [List.length_append, List.length_take, List.length_drop]; simp; omega)
  have hs1 : slD (unitD n a) none (some (a : Int)) = T.ret (.tup ((rowAt n a).take a)) := slT_take _ _
  have hs2 : slD (unitD n a) (some ((a : Int) + 1)) none = T.ret (.tup ((rowAt n a).drop (a + 1))) := slT_drop1 _ _
  refine wq_seq (fun e => e = [.un, .val (.obj a0), x2, .val (.int (p : Int)), .val (.int (n : Int)), .own (.lst (units n)), .un, .val (.int (a : Int)), .val (.tup (putAt (rowAt n a) a (.bl true))), .un, .un, .un]) ?_ fun e he => ?_
  · try simp only [ap_cst, ap_gV, ap_gB, ap_dLst, ap_dNil, ap_dCons, ap_dTup, ap_dB, ap_dBl, ap_dU, ap_dC, ap_dCK, ap_dNot, ap_dAnd, ap_dOr, ap_dAndV, ap_dOrV, ap_dNotV, ap_dIf, ap_dSeq, ap_dSkip, ap_dF, ap_dRet, ap_dRetN, ap_dSet, ap_dOwn, ap_dDrop, ap_dFor, ap_dComp, ap_dBrk, ap_dCnt, ap_dParM, ap_mNil, ap_mV, ap_mN, ap_dAsg, ap_dPar, ap_dPar3, ap_dApp, ap_dExt, ap_dNo, ap_dSome, ap_asInt, ap_dSl, getV_zero, getV_succ, getB_zero, getB_zeroO, getB_succ, ownL_zero, ownL_succ, tgName_ap, forT_nil, ret_bind, fail_bind, exc_bind, bind_assoc', add_ii, sub_ii, lt_ii, le_ii, gt_ii, ge_ii, eq_ii, ne_ii, abs_i, int_i, int_b, len_l, len_t, items_l, items_t, truth_b, asObj_self, List.set_cons_succ, List.set_cons_zero, if_true, if_false, Bool.false_eq_true, Bool.not_true, Bool.not_false, hu, hs1, hs2, hput, hput2]
    rw [wq_ret]
  subst he
  have hpm : p ∈ [2, 3, 5, 7] := by rcases hp with rfl | rfl | rfl | rfl <;> simp
  have hnm : n ∈ [2, 3, 4, 5, 6, 7, 8] := by
    simp only [List.mem_cons, List.not_mem_nil, or_false]
    omega
  have hend := List.all_eq_true.mp (end_all p hpm n hnm a (List.mem_range.mpr ha))
  refine wq_seq (fun e => ∃ x9 x10, e = [.un, .val (.obj a0), x2, .val (.int (p : Int)), .val (.int (n : Int)), .own (.lst (units n)), .un, .val (.int (a : Int)), .val (.tup (putAt (rowAt n a) a (.bl true))), x9, x10, .un]) ?_ fun e he => ?_
  · have hl : listN [unitD n a] = T.ret (rowAt n a) := listT _
    have hprev : ixD (.lst (units n)) (.int ((a : Int) - 1)) = T.ret (unitD n (if a = 0 then n - 1 else a - 1)) := by
      by_cases h0 : a = 0
      · subst h0
        rw [if_pos rfl]
        exact ixL_last (by rw [units_len]; exact units_get n (n - 1) (by omega))
      · rw [if_neg h0, show (a : Int) - 1 = ((a - 1 : Nat) : Int) by omega]
        exact ixL (units_get n (a - 1) (by omega))
    have hz := repT (.int 0) n (by omega)
    try simp only [ap_cst, ap_gV, ap_gB, ap_dLst, ap_dNil, ap_dCons, ap_dTup, ap_dB, ap_dBl, ap_dU, ap_dC, ap_dCK, ap_dNot, ap_dAnd, ap_dOr, ap_dAndV, ap_dOrV, ap_dNotV, ap_dIf, ap_dSeq, ap_dSkip, ap_dF, ap_dRet, ap_dRetN, ap_dSet, ap_dOwn, ap_dDrop, ap_dFor, ap_dComp, ap_dBrk, ap_dCnt, ap_dParM, ap_mNil, ap_mV, ap_mN, ap_dAsg, ap_dPar, ap_dPar3, ap_dApp, ap_dExt, ap_dNo, ap_dSome, ap_asInt, ap_dSl, getV_zero, getV_succ, getB_zero, getB_zeroO, getB_succ, ownL_zero, ownL_succ, tgName_ap, forT_nil, ret_bind, fail_bind, exc_bind, bind_assoc', add_ii, sub_ii, lt_ii, le_ii, gt_ii, ge_ii, eq_ii, ne_ii, abs_i, int_i, int_b, len_l, len_t, items_l, items_t, truth_b, asObj_self, List.set_cons_succ, List.set_cons_zero, if_true, if_false, Bool.false_eq_true, Bool.not_true, Bool.not_false, hu, hs1, hs2, hput, hput2, hl, hprev, hz]
    refine wq_forT (fun e => ∃ x9 x10, e = [.un, .val (.obj a0), x2, .val (.int (p : Int)), .val (.int (n : Int)), .own (.lst (units n)), .un, .val (.int (a : Int)), .val (.tup (putAt (rowAt n a) a (.bl true))), x9, x10, .un]) (partsOf p n a) (fun d hd env henv => ?_) (fun env henv => henv) _ ⟨_, _, rfl⟩
    obtain ⟨x9, x10, rfl⟩ := henv
    refine ⟨[.un, .val (.obj a0), x2, .val (.int (p : Int)), .val (.int (n : Int)), .own (.lst (units n)), .un, .val (.int (a : Int)), .val (.tup (putAt (rowAt n a) a (.bl true))), .val d, x10, .un], rfl, ?_⟩
    obtain ⟨g1, g2⟩ := Bool.and_eq_true_iff.mp (hend d hd)
    have hkn := (chk_kz g2).kn (by decide) (by decide)
    have ht := told_eq _ hkn
    have hfe := flat_error_eq _ hkn.ft hkn.len
    have hnn : isNoneD (flatX (thingOf p n a d)) .non = T.ret false := isNon_eq (by simpa using g1)
    have b1 : addD (.lst ((units n).take a)) (.lst [d]) = T.ret (.lst ((units n).take a ++ [d])) := addLL (by rw [List.length_take, units_len]; simp; omega)
    have b2 : addD (.lst ((units n).take a ++ [d])) (.lst ((units n).drop (a + 1))) = T.ret (.lst (putAt (units n) a d)) := addLL (by rw [List.length_append, List.length_take, List.length_drop, units_len]; simp; omega)
    refine wq_seq (fun e => e = [.un, .val (.obj a0), x2, .val (.int (p : Int)), .val (.int (n : Int)), .own (.lst (units n)), .un, .val (.int (a : Int)), .val (.tup (putAt (rowAt n a) a (.bl true))), .val d, .val (thingOf p n a d), .un]) ?_ fun e he => ?_
    · try simp only [ap_cst, ap_gV, ap_gB, ap_dLst, ap_dNil, ap_dCons, ap_dTup, ap_dB, ap_dBl, ap_dU, ap_dC, ap_dCK, ap_dNot, ap_dAnd, ap_dOr, ap_dAndV, ap_dOrV, ap_dNotV, ap_dIf, ap_dSeq, ap_dSkip, ap_dF, ap_dRet, ap_dRetN, ap_dSet, ap_dOwn, ap_dDrop, ap_dFor, ap_dComp, ap_dBrk, ap_dCnt, ap_dParM, ap_mNil, ap_mV, ap_mN, ap_dAsg, ap_dPar, ap_dPar3, ap_dApp, ap_dExt, ap_dNo, ap_dSome, ap_asInt, ap_dSl, getV_zero, getV_succ, getB_zero, getB_zeroO, getB_succ, ownL_zero, ownL_succ, tgName_ap, forT_nil, ret_bind, fail_bind, exc_bind, bind_assoc', add_ii, sub_ii, lt_ii, le_ii, gt_ii, ge_ii, eq_ii, ne_ii, abs_i, int_i, int_b, len_l, len_t, items_l, items_t, truth_b, asObj_self, List.set_cons_succ, List.set_cons_zero, if_true, if_false, Bool.false_eq_true, Bool.not_true, Bool.not_false, slL_take, slL_drop1, b1, b2, tupL]
      rw [wq_ret]
      rfl
    subst he
    try simp only [ap_cst, ap_gV, ap_gB, ap_dLst, ap_dNil, ap_dCons, ap_dTup, ap_dB, ap_dBl, ap_dU, ap_dC, ap_dCK, ap_dNot, ap_dAnd, ap_dOr, ap_dAndV, ap_dOrV, ap_dNotV, ap_dIf, ap_dSeq, ap_dSkip, ap_dF, ap_dRet, ap_dRetN, ap_dSet, ap_dOwn, ap_dDrop, ap_dFor, ap_dComp, ap_dBrk, ap_dCnt, ap_dParM, ap_mNil, ap_mV, ap_mN, ap_dAsg, ap_dPar, ap_dPar3, ap_dApp, ap_dExt, ap_dNo, ap_dSome, ap_asInt, ap_dSl, getV_zero, getV_succ, getB_zero, getB_zeroO, getB_succ, ownL_zero, ownL_succ, tgName_ap, forT_nil, ret_bind, fail_bind, exc_bind, bind_assoc', add_ii, sub_ii, lt_ii, le_ii, gt_ii, ge_ii, eq_ii, ne_ii, abs_i, int_i, int_b, len_l, len_t, items_l, items_t, truth_b, asObj_self, List.set_cons_succ, List.set_cons_zero, if_true, if_false, Bool.false_eq_true, Bool.not_true, Bool.not_false, ht, hfe, hnn]
    rw [wq_ret]
    exact ⟨_, _, rfl⟩
  obtain ⟨x9, x10, rfl⟩ := he
  refine wq_seq (fun e => ∃ m x5, Kz 5 400000 (.tup m) ∧ e = [.un, .val (.obj a0), x2, .val (.int (p : Int)), .val (.int (n : Int)), x5, .un, .val (.int (a : Int)), .val (.tup (putAt (rowAt n a) a (.bl true))), x9, x10, .val (.lst m)]) ?_ fun e he => ?_
  · have hf : frzs [5] [Sl.un, .val (.obj a0), x2, .val (.int (p : Int)), .val (.int (n : Int)), .own (.lst (units n)), .un, .val (.int (a : Int)), .val (.tup (putAt (rowAt n a) a (.bl true))), x9, x10, .un] = [Sl.un, .val (.obj a0), x2, .val (.int (p : Int)), .val (.int (n : Int)), .val (.lst (units n)), .un, .val (.int (a : Int)), .val (.tup (putAt (rowAt n a) a (.bl true))), x9, x10, .un] := rfl
    rw [ap_dF, hf]
    try simp only [ap_cst, ap_gV, ap_gB, ap_dLst, ap_dNil, ap_dCons, ap_dTup, ap_dB, ap_dBl, ap_dU, ap_dC, ap_dCK, ap_dNot, ap_dAnd, ap_dOr, ap_dAndV, ap_dOrV, ap_dNotV, ap_dIf, ap_dSeq, ap_dSkip, ap_dF, ap_dRet, ap_dRetN, ap_dSet, ap_dOwn, ap_dDrop, ap_dFor, ap_dComp, ap_dBrk, ap_dCnt, ap_dParM, ap_mNil, ap_mV, ap_mN, ap_dAsg, ap_dPar, ap_dPar3, ap_dApp, ap_dExt, ap_dNo, ap_dSome, ap_asInt, ap_dSl, getV_zero, getV_succ, getB_zero, getB_zeroO, getB_succ, ownL_zero, ownL_succ, tgName_ap, forT_nil, ret_bind, fail_bind, exc_bind, bind_assoc', add_ii, sub_ii, lt_ii, le_ii, gt_ii, ge_ii, eq_ii, ne_ii, abs_i, int_i, int_b, len_l, len_t, items_l, items_t, truth_b, asObj_self, List.set_cons_succ, List.set_cons_zero, if_true, if_false, Bool.false_eq_true, Bool.not_true, Bool.not_false]
    refine wq_use (order_wq a0 (units n) (Kz 4 20000) (by rw [units_len]; omega) fun d hd => ?_) fun d hd => ?_
    · obtain ⟨j, hj, rfl⟩ := List.mem_map.mp hd
      exact unit_kz n j (List.mem_range.mp hj) hn8
    · obtain ⟨m, rfl, h1, h2⟩ := hd
      rw [wq_ret]
      refine ⟨m, _, (kz_tup h2).mono (Nat.le_refl _) ?_, rfl⟩
      rw [units_len] at h1
      have := Nat.mul_le_mul_right (20000 + 2) (show m.length ≤ 8 by omega)
      omega
  obtain ⟨m, x5, hm, rfl⟩ := he
  have ht := told_eq _ (kn_thing (p := p) (n := n) (by rcases hp with rfl | rfl | rfl | rfl <;> decide) (by omega) hm)
  try simp only [ap_cst, ap_gV, ap_gB, ap_dLst, ap_dNil, ap_dCons, ap_dTup, ap_dB, ap_dBl, ap_dU, ap_dC, ap_dCK, ap_dNot, ap_dAnd, ap_dOr, ap_dAndV, ap_dOrV, ap_dNotV, ap_dIf, ap_dSeq, ap_dSkip, ap_dF, ap_dRet, ap_dRetN, ap_dSet, ap_dOwn, ap_dDrop, ap_dFor, ap_dComp, ap_dBrk, ap_dCnt, ap_dParM, ap_mNil, ap_mV, ap_mN, ap_dAsg, ap_dPar, ap_dPar3, ap_dApp, ap_dExt, ap_dNo, ap_dSome, ap_asInt, ap_dSl, getV_zero, getV_succ, getB_zero, getB_zeroO, getB_succ, ownL_zero, ownL_succ, tgName_ap, forT_nil, ret_bind, fail_bind, exc_bind, bind_assoc', add_ii, sub_ii, lt_ii, le_ii, gt_ii, ge_ii, eq_ii, ne_ii, abs_i, int_i, int_b, len_l, len_t, items_l, items_t, truth_b, asObj_self, List.set_cons_succ, List.set_cons_zero, if_true, if_false, Bool.false_eq_true, Bool.not_true, Bool.not_false, tupL, ht, inverse_all]
  rw [wq_ret]
theorem fin (a0 : Addr) : wp (b_law a0 (lawE 12 a0)) (fun o => o = .rt (.bl true)) (fun _ _ => False) := wq_wp.mp (law_wq a0)
end Law

namespace Law
open PySem PySem.Spec PyProof.Rows L2 Eng
def cell2 (c : Int) : Int := 2 * (if c < 0 then -c else c) + (if decide (c < 0) = true then 1 else 0)
theorem cr2 (asc : Addr) (ns : List Int) : ∃ (ds cs : List Int) (sm : Int), ds.length < cs.length ∧ t_l_deck asc ns [.obj asc] = T.ret (.lst [.lst (ds.map D.int), .lst (cs.map D.int), .int sm, .int 0]) := by
  have hl : (ns.take 63).length ≤ 63 := List.length_take_le _ _
  unfold t_l_deck b_l_deck
  revert hl
  generalize ns.take 63 = ms
  intro hl
  generalize hc : ms.map cell2 = cs
  have hcl : cs.length ≤ 63 := by rw [← hc, List.length_map]; exact hl
  refine ⟨cs.filter (fun c => decide ((1000000000000000000 : Int) ≤ c)), cs ++ [(cs.length : Int) + 977], cs.sum, ?_, ?_⟩
  · have := List.length_filter_le (fun c => decide ((1000000000000000000 : Int) ≤ c)) cs
    simp only [List.length_append, List.length_singleton]
    omega
  · have hcomp : compT (tgName 2) (fun _ => T.ret true) (dB addD (dB mulD (cst (.int 2)) (dC absD (dCons (gV 2) dNil))) (dC intD (dCons (dBl (dB ltD (gV 2) (cst (.int 0)))) dNil))) (wipeE [.val (.obj asc), .un, .un] [2]) (ms.map D.int) = T.ret (cs.map D.int) := by
      rw [compT_ints (fun _ => true) (fun n => D.int (cell2 n))]
      · rw [← hc, List.filter_eq_self.mpr (by simp), List.map_map]; rfl
      · intro n _
        refine ⟨_, rfl, rfl, fun _ => ?_⟩
        simp [wipeE, mul_small, cell2]
    have hcomp2 : compT (tgName 2) (dB geD (gV 2) (dB powD (cst (.int 10)) (cst (.int 18)))) (gV 2) (wipeE [.val (.obj asc), .own (.lst (cs.map D.int)), .un] [2]) (cs.map D.int) = T.ret ((cs.filter (fun c => decide ((1000000000000000000 : Int) ≤ c))).map D.int) := by
      rw [compT_ints (fun c => decide ((1000000000000000000 : Int) ≤ c)) D.int]
      intro n _
      have hpw : powD (.int 10) (.int 18) = T.ret (.int 1000000000000000000) := rfl
      refine ⟨_, rfl, ?_, fun _ => ?_⟩
      · simp [wipeE, hpw]
      · simp [wipeE]
    have e0 : startE 3 [.obj asc] = [.val (.obj asc), .un, .un] := rfl
    unfold bodyT
    rw [e0]
    have hsz : cs.length + 1 ≤ sizeLine := Nat.le_of_lt (small1000 (by omega))
    have hsum := sum1_ints cs
    simp [hcomp, hcomp2, addD, hsz, hsum]
theorem made {K : PySem.W.Frag} (a : Addr) (ns : List Int) (h : ns.length ≤ 63) : wp (t_l_deck a ns [.obj a]) (MadeOf K (fun (j : Addr × Addr × Addr) => PX2 j.1 j.2.1 j.2.2) (fun j => j.1)) (fun _ _ => False) := by
  obtain ⟨ds, cs, st, h1, h3⟩ := cr2 a ns
  exact wp_eq h3 (made2 h1)
def fn : List He.DefD := ([dfOf "_law_deck" s_l_deck, dfOf "_law_draw" s_l_draw, dfOf "_law_order" s_l_order, dfOf "_law_pick" s_l_pick, dfOf "_law_lead" s_l_lead, dfOf "_law_is_integer" s_l_is_integer, dfOf "_law_is_row" s_l_is_row, dfOf "_law_due" s_l_due, dfOf "lead_of" s_lead_of, dfOf "stairs_error" s_stairs_error, dfOf "is_below" s_is_below, dfOf "is_row" s_is_row, dfOf "flat_error" s_flat_error, dfOf "_law_is_told" s_l_is_told, dfOf "inverse" s_inverse, dfOf "_law_inverted" s_l_inverted, dfOf "_law_is_inverse" s_l_is_inverse, dfOf "_law_flat" s_l_flat, dfOf "_law_drawn" s_l_drawn, dfOf "_law_sum" s_l_sum, dfOf "_law_odd" s_l_odd, dfOf "_law_item" s_l_item, dfOf "_law_rows" s_l_rows, dfOf "_law_whole" s_l_whole, dfOf "_law_is_flat" s_l_is_flat, dfOf "law" s_law] : List He.DefD)
def fa : List He.Fa := ([.glo "_law_deck", .glo "_law_draw", .glo "_law_order", .glo "_law_pick", .glo "_law_lead", .glo "_law_is_integer", .glo "_law_is_row", .glo "_law_due", .glo "lead_of", .glo "stairs_error", .glo "is_below", .glo "is_row", .glo "flat_error", .glo "_law_is_told", .glo "inverse", .glo "_law_inverted", .glo "_law_is_inverse", .glo "_law_flat", .glo "_law_drawn", .glo "_law_sum", .glo "_law_odd", .glo "_law_item", .glo "_law_rows", .glo "_law_whole", .glo "_law_is_flat", .glo "law", .free "abs", .free "all", .free "bool", .free "enumerate"] : List He.Fa) ++ ([.free "int", .free "isinstance", .free "len", .free "list", .free "range", .free "repr", .free "str", .free "sum", .free "tuple", .free "zip", .glo "Unfit", .exc "Unfit"] : List He.Fa)
def ts : List He.Tab := []
def ex (K : PySem.W.Frag) : Bool := (chkG K "MAX_ENDS" c_MAX_ENDS && (chkG K "PRIMES" c_PRIMES && (chkXT K xcs xxs xfs && true)))
abbrev R : PySem.W.OpenRow := PySem.W.OpenLaw.row PySem.Challenge.rw_boxlaws_k01_inverse_and_what_is_a_flat
abbrev hk : PySem.W.Hook := He.hookX 4 fa fn ts [] ex
def ob (s : PySem.W.SharedT) : He.AlX := He.obsX 4 fa fn ts [] ex (HandSHeadRun.getT s)
theorem ob_eq (s : PySem.W.SharedT) : ob s = hk.obs s.abs := He.obsX_eq (HandSHeadRun.getT_eq s)
def loose : List Str := (["PRIMES", "MAX_ENDS", "BoxError", "Unfit", "inverse", "is_below", "is_row", "lead_of", "stairs_error", "flat_error", "_law_deck", "_law_draw", "_law_pick", "_law_order", "_law_flat", "_law_is_integer", "_law_is_row", "_law_lead", "_law_due", "_law_odd", "_law_drawn", "_law_sum", "_law_item", "_law_rows", "_law_whole", "_law_is_told", "_law_is_flat", "_law_inverted", "_law_is_inverse"] : List Str)
theorem run (w : World) : HandSHeadRun.RunEq R (PySem.W.view R.prog [33]) hk ob 3000 loose w := by
  intro os
  kernel_rfl
theorem facts {P : Program} {w : World} {K : PySem.W.Frag} {h : Heap} {mg : Str → Option Value} {f : Addr} (X : K.In h) (G : h.Ns mainGlobals mg) (hfa : mg ("law" : Str) = some (.ref f)) (c : He.SaysX fa fn ts [] ex w h K) :
    ∃ fd : FuncData, (∀ (s : Shared) (u : Value), BindsTo s fd ⟨[u], []⟩ [("_law_script", u)]) ∧ ∀ base : Heap, FnG P w K mg base 7 f fd p_law (spLaw K 63) := by
  have m := c.more
  unfold ex at m
  simp only [Bool.and_eq_true] at m
  have hd : Hd K w mg := ⟨at_of X G c.t.d 0 0 rfl rfl, at_of X G c.t.d 1 1 rfl rfl, at_of X G c.t.d 2 2 rfl rfl, at_of X G c.t.d 3 3 rfl rfl, at_of X G c.t.d 4 4 rfl rfl, at_of X G c.t.d 5 5 rfl rfl, at_of X G c.t.d 6 6 rfl rfl, at_of X G c.t.d 7 7 rfl rfl, at_of X G c.t.d 8 8 rfl rfl, at_of X G c.t.d 9 9 rfl rfl, at_of X G c.t.d 10 10 rfl rfl, at_of X G c.t.d 11 11 rfl rfl, at_of X G c.t.d 12 12 rfl rfl, at_of X G c.t.d 13 13 rfl rfl, at_of X G c.t.d 14 14 rfl rfl, at_of X G c.t.d 15 15 rfl rfl, at_of X G c.t.d 16 16 rfl rfl, at_of X G c.t.d 17 17 rfl rfl, at_of X G c.t.d 18 18 rfl rfl, at_of X G c.t.d 19 19 rfl rfl, at_of X G c.t.d 20 20 rfl rfl, at_of X G c.t.d 21 21 rfl rfl, at_of X G c.t.d 22 22 rfl rfl, at_of X G c.t.d 23 23 rfl rfl, at_of X G c.t.d 24 24 rfl rfl, He.free_ok X G (c.t.d.fact 26 (f := .free "abs") rfl), He.free_ok X G (c.t.d.fact 27 (f := .free "all") rfl), He.free_ok X G (c.t.d.fact 28 (f := .free "bool") rfl), He.free_ok X G (c.t.d.fact 29 (f := .free "enumerate") rfl), He.free_ok X G (c.t.d.fact 30 (f := .free "int") rfl), He.free_ok X G (c.t.d.fact 31 (f := .free "isinstance") rfl), He.free_ok X G (c.t.d.fact 32 (f := .free "len") rfl), He.free_ok X G (c.t.d.fact 33 (f := .free "list") rfl), He.free_ok X G (c.t.d.fact 34 (f := .free "range") rfl), He.free_ok X G (c.t.d.fact 35 (f := .free "repr") rfl), He.free_ok X G (c.t.d.fact 36 (f := .free "str") rfl), He.free_ok X G (c.t.d.fact 37 (f := .free "sum") rfl), He.free_ok X G (c.t.d.fact 38 (f := .free "tuple") rfl), He.free_ok X G (c.t.d.fact 39 (f := .free "zip") rfl), chkG_ok X G m.1, chkG_ok X G m.2.1, xbare_of X G (c.t.d.fact 40 (f := .glo "Unfit") rfl) (c.t.d.fact 41 (f := .exc "Unfit") rfl), xt_of X G m.2.2.1⟩
  obtain ⟨fd, F⟩ := c.t.d.def_ 25 (d := dfOf "law" s_law) rfl
  have e := hfa.symm.trans (He.glo_ok X G (c.t.d.fact 25 (f := .glo "law") rfl))
  cases e
  have b := FunD.bindsA (ps := p_law) F fun _ _ _ _ _ _ us hl => match us, hl with | [_], _ => rfl
  refine ⟨fd, fun s v => b s [v] rfl, fun base => law_fn (hd := fun (j : (Addr × Addr × Addr)) => j.1) (PX := (fun (j : Addr × Addr × Addr) => PX2 j.1 j.2.1 j.2.2)) (cr := t_l_deck) (wl := b_law) rfl F sc_law (by decide) made (fin) (d_rest hd)⟩
end Law
open PySem PySem.W PySem.Calls PyProof.Rows
theorem PySem.Challenge.cw_boxlaws_k01_inverse_and_what_is_a_flat_holds : PySem.Challenge.rw_boxlaws_k01_inverse_and_what_is_a_flat.Holds := by
  w_on; o_law
  refine HandSHeadRun.head_any (r := OpenLaw.row PySem.Challenge.rw_boxlaws_k01_inverse_and_what_is_a_flat) (q := view (OpenLaw.row PySem.Challenge.rw_boxlaws_k01_inverse_and_what_is_a_flat).prog [33]) (H := Law.hk) (ob := Law.ob) (M := 3000) (loose := Law.loose) (d := HandSHeadRun.topDef (OpenLaw.row PySem.Challenge.rw_boxlaws_k01_inverse_and_what_is_a_flat).prog 33) (kwd := []) Law.ob_eq
    (by kernel_rfl) (fun s => by kernel_rfl) Law.run (by kernel_rfl) (by kernel_rfl) (by kernel_rfl) (by rfl) (by first | assumption | decide +kernel) (by decide +kernel) ⟨rfl, rfl, rfl, rfl, rfl, by decide +kernel⟩ ?hw ?hc
  case hw => w_witness2
  case hc =>
    refine Eng.walk_ofG (l := PySem.Challenge.rw_boxlaws_k01_inverse_and_what_is_a_flat) (n := 63) (k := 7) (x := "_law_script") rfl (by decide) (by kernel_rfl) ⟨rfl, by decide, by decide⟩ ?F
    intro w mg fa h Y G hmg0
    obtain ⟨K, KX, c⟩ := Y
    have hmg : mg ("law" : PySem.Str) = some (.ref fa) := by
      have e : (HandSHeadRun.topDef (OpenLaw.row PySem.Challenge.rw_boxlaws_k01_inverse_and_what_is_a_flat).prog 33).name = ("law" : PySem.Str) := by kernel_rfl
      rw [← e]
      exact hmg0
    obtain ⟨fd, hb, hF⟩ := Law.facts (P := (PySem.Challenge.rw_boxlaws_k01_inverse_and_what_is_a_flat).prog) (w := w) KX G hmg c
    exact ⟨K, fd, KX, hb, hF⟩
