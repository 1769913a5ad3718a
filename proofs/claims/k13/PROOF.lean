import PyProof.Rows.All
import Wide.All
import OpenK.AllK
import Wide.FinOn
import HandS.ForMost
import HandS.Codes
import HandS.FStr
import HandS.IsInst
import HandS.Star
import HandS.TupAny
import HandS.Style
import HandS.Walk
import KE.GoesEnum
import KE.GoesNew
import HandS.Property
import HandS.Defaults
import HandS.ClsMeth
import HandS.MakeKw
import KE.GoesZip
import HandS.OwnEq
import HandS.CallLocal
import KE.KCallOwn
import HandS.ExcInit
import HandS.Nested
import HandS.TryOnly
import KE.KExcSuper
import HandS.ExcOwn
import HandS.ExcIs
import HandS.RaiseMore
import HandS.ExcField
import PySem.Challenge.RW_unseenflips_k13_checks_refused
set_option Elab.async false
set_option linter.all false
set_option maxRecDepth 100000
set_option maxHeartbeats 4000000
namespace Lx
open PySem PySem.Spec PyProof.Rows L2

/-! enumerate over a text -/
def ItES (x : Str) : It := ⟨fun i _ => i < x.cps.size, fun i H v H' => ∃ T c, v = .ref T ∧ H T = none ∧ H' = upd H T (.tup [.int (i : Nat), .str ⟨#[c]⟩]) ∧ x.cps[i]? = some c, fun i _ => x.cps.size ≤ i⟩
theorem turn_enumS {P : Program} {w : World} {K : PySem.W.Frag} {elts : List Expr} {kk : Nat} {tpos : Pos} (x : Str) (t : Tok) (e it : Addr) :
    Turn P w K (.Tuple elts kk tpos) (ItES x) [e, it] e (fun i h => (∃ old, IsEnum h e it ((i : Nat) : Int) old) ∧ h.IsStrIter it (strIterType x) x t i ∧ e ≠ it ∧ i ≤ x.cps.size) where
  mem := by simp
  obj := fun i h st b hb => by
    obtain ⟨⟨old, he⟩, ⟨o, ho, hc, hd⟩, _⟩ := st
    have e' : b = e ∨ b = it := by simpa using hb
    rcases e' with z | z
    · rw [z]; exact ⟨_, he, fun v q => nomatch q⟩
    · rw [z]; exact ⟨o, ho, fun v q => by rw [hd] at q; cases q⟩
  keep := fun i h h' st k => by
    obtain ⟨⟨old, he⟩, ⟨o, ho, r⟩, hne⟩ := st
    exact ⟨⟨old, k e (by simp) _ he⟩, ⟨o, k it (by simp) o ho, r⟩, hne⟩
  item := by
    intro X hP hw hK hc i pins s σ H E I hf st hg
    subst hP hw hK
    obtain ⟨⟨old, he⟩, hit, hne, _⟩ := st
    have hlt : i < x.cps.size := hg
    have hel : e < s.heap.objs.size := Heap.lt_size he
    have hil : it < s.heap.objs.size := by obtain ⟨_, q, _⟩ := hit; exact Heap.lt_size q
    have hh : X.A.in1.handled = none := I.ok.hd hc
    refine wpAny_pyNext_enum_itemC (Draws.text hh it x t) he hit hlt hne (by simpa using hne) fun v h' tk hP ho hit' hT hsz hk => ?_
    obtain ⟨c, u, hcx, rfl⟩ := hP
    refine ⟨_, rfl, wpAny_letOwnedTupleGo_enum (s := { s with heap := h', toks := tk + 1 }) ho fun h'' he' sb => ?_⟩
    have hT2 : h''.get? s.heap.objs.size = some { cls := .type "tuple", data := .seq #[.int i tk, .str ⟨#[c]⟩ u] } := (sb.2 _ (Nat.ne_of_gt hel)).trans hT
    have new : ObjOk X.prog X.w (upd H s.heap.objs.size (.tup [.int (i : Nat), .str ⟨#[c]⟩])) h'' s.heap.objs.size (.tup [.int (i : Nat), .str ⟨#[c]⟩]) :=
      ⟨by show 2 ≤ sizeLine; decide, [.int i tk, .str ⟨#[c]⟩ u], .cons ⟨_, rfl⟩ (.cons ⟨_, rfl⟩ .nil), ⟨_, hT2, rfl, _, rfl⟩⟩
    have I1 : Inv X pins σ (upd H s.heap.objs.size (.tup [.int (i : Nat), .str ⟨#[c]⟩])) { s with heap := h'', toks := tk + 1 } :=
      I.turnedNew (ch := [e, it]) (fun b ob hb q => (sb.2 b (fun z => hb (by simp [z]))).trans (hk b ob (fun z => hb (by simp [z])) (fun z => hb (by simp [z])) q)) hf (Nat.le_refl _) new
    refine ⟨.ref s.heap.objs.size, _, I1, rfl, ⟨_, c, rfl, I.hok.fresh (Nat.le_refl _), rfl, hcx⟩, ⟨⟨.str ⟨#[c]⟩ u, ?_⟩, ?_, hne, hlt⟩, fun b hb => ?_⟩
    · have e1 : ((i + 1 : Nat) : Int) = (i : Int) + 1 := by omega
      rw [e1]; exact he'
    · obtain ⟨o, ho', r⟩ := hit'
      exact ⟨o, (sb.2 it (Ne.symm hne)).trans ho', r⟩
    · have hb' : b < s.heap.objs.size := by
        have e' : b = e ∨ b = it := by simpa using hb
        rcases e' with z | z
        · rw [z]; exact hel
        · rw [z]; exact hil
      rw [upd_ne (Nat.ne_of_lt hb')]
      exact (hf b hb).1
  done := by
    intro X hP hw hK hc i pins s σ H E I hf st hg
    subst hP hw hK
    obtain ⟨⟨old, he⟩, hit, hne, hle⟩ := st
    have hge : x.cps.size ≤ i := hg
    have hi : i = x.cps.size := Nat.le_antisymm hle hge
    subst hi
    have hh : X.A.in1.handled = none := I.ok.hd hc
    obtain ⟨f0, f1, f2, f3, f4, f5⟩ := hf it (by simp)
    exact wpAny_pyNext_enum_endD (Draws.text hh it x t) he hit fun h' eb => ⟨rfl, I.turned (t' := s.toks) (fun b o hb q => eb b o hb q) f0 f1 f3 f4 f5⟩
  self := fun A i s Q E st h => let ⟨⟨_, he⟩, _⟩ := st; wpAny_pyIter_enum he h
def iEnumS (ta : TA) : TI := fun σ H R => ta σ H fun vs H1 => ∃ x, vs = [.str x] ∧ R (ItES x) H1
theorem pi_enumS {X : Cx} {e : Expr} {ta : TA} {p pos tpos : Pos} {elts : List Expr} {kk : Nat} (hg : Gl X "enumerate") (hm : X.mg "enumerate" = none) (ha : PA X [e] ta) (hs : starEach [e] X.env = [(false, eval e X.env)] := by rfl) :
    PI X (.Tuple elts kk tpos) (.Call (.Name "enumerate" p) [e] [] pos) (iEnumS ta) := by
  refine ⟨fun pins s σ H R I h => ?_⟩
  refine Call_ (ld_blt I hg hm boot_enumerate (PyProof.Rows.callWith_type1 (thn (ha.run pos pins s σ H _ I h) fun us s1 ⟨vs, H1, I1, r1, q1⟩ => ?_) hs rfl))
  obtain ⟨x, ex, q⟩ := q1
  subst ex
  cases r1 with
  | cons r rr =>
    cases rr
    obtain ⟨t, rfl⟩ := r
    refine call_enumerate_str fun h' he hit hsz hk => wpAny_pyIter_enum he ?_
    have I2 : Inv X pins σ H1 { s1 with heap := h' } := I1.kept (t' := s1.toks) hk
    refine ⟨s1.heap.objs.size + 1, [s1.heap.objs.size + 1, s1.heap.objs.size], _, _, H1, rfl, I2, turn_enumS x t (s1.heap.objs.size + 1) s1.heap.objs.size, ⟨⟨.none, he⟩, hit, Nat.succ_ne_self _, Nat.zero_le _⟩, fun b hb => ?_, q⟩
    have e' : b = s1.heap.objs.size + 1 ∨ b = s1.heap.objs.size := by simpa using hb
    have hle : s1.heap.objs.size ≤ b := by
      rcases e' with z | z
      · rw [z]; exact Nat.le_add_right _ _
      · rw [z]; exact Nat.le_refl _
    exact I1.fpOk hle (I1.hok.fresh hle)

/-! enumerate over a tuple -/
def ItET (K : PySem.W.Frag) (a : Addr) : It :=
  ⟨fun i H => ∃ (xs : List V) (x : V), SqT K H a xs ∧ xs[i]? = some x, fun i H v H' => ∃ T x, v = .ref T ∧ H T = none ∧ H' = upd H T (.tup [.int (i : Nat), x]) ∧ ∀ xs, SqT K H a xs → xs[i]? = some x, fun i H => ∃ xs : List V, SqT K H a xs ∧ xs.length ≤ i⟩
theorem meets_enumerate_newT (l : Addr) (items : Array Value) (n : Nat) (dct : Option Addr) (sl : Array (Option Value)) :
    Meets (Builtin.«enumerate.__new__» ⟨[.type "enumerate", .ref l], []⟩) (fun _ R s => s.heap.get? l = some { cls := .type "tuple", dict := dct, data := .seq items n, slots := sl } ∧
      R (.ok (.ret (.ref (s.heap.push { cls := .type "tuple_iterator", data := .fields #[.ref l, .int 0 0] }).objs.size)))
        { s with heap := (s.heap.push { cls := .type "tuple_iterator", data := .fields #[.ref l, .int 0 0] }).push { cls := .type "enumerate", data := .fields #[.none, .bool false, .ref s.heap.objs.size, rawInt 0, .none, .none] } }) :=
  .of_wp fun prog w A R s h => by
    obtain ⟨hp, g, d, tk, os⟩ := s; obtain ⟨hl, h⟩ := h
    have hsub := sub_enumerate
    have hL : Heap.IsTuple (Shared.heap ⟨hp, g, d, tk, os⟩) l items := ⟨_, hl, rfl, n, rfl⟩
    wp_walk using AutoSeq1.wpAny_loadPart' hl
    refine wpAny_stack_any fun st => wpAny_pure ?_
    split
    · rename_i c _ _ _ _ _
      cases (c == Value.type "enumerate")
      · wp_walk using AutoSeq1.wpAny_loadPart' hl, wpAny_pyIter_tuple hL
        exact ⟨_, rfl, h⟩
      · wp_walk using AutoSeq1.wpAny_loadPart' hl, wpAny_pyIter_tuple hL
        exact ⟨_, rfl, h⟩
    · wp_walk using AutoSeq1.wpAny_loadPart' hl, wpAny_pyIter_tuple hL
      exact ⟨_, rfl, h⟩
theorem call_enumerate_tup {prog : Program} {w : World} {A : Around} {E : Value → Shared → Prop} {s : Shared} {l : Addr} {items : Array Value} {Q : Value → Shared → Prop} (hL : s.heap.IsTuple l items)
    (h : ∀ h', IsEnum h' (s.heap.objs.size + 1) s.heap.objs.size 0 .none → h'.IsTupleIter s.heap.objs.size l 0 → h'.objs.size = s.heap.objs.size + 2 →
      (∀ b o, s.heap.get? b = some o → h'.get? b = some o) → Q (.ref (s.heap.objs.size + 1)) { s with heap := h' }) :
    wpAny (model prog w) A (call (.type "enumerate") [.ref l]) Q E s := by
  obtain ⟨⟨c, dct, dt, sl⟩, hl, hc, n, hd⟩ := hL
  replace hc : c = .type "tuple" := hc
  replace hd : dt = .seq items n := hd
  subst hc hd
  refine callType_new F.called_enumerate (by decide) (F.typeCall_enumerate_1 _) (F.newCall_enumerate_1 _) (fun obj => F.args_object_init_2 obj _) F.entry_enumerate_new
    (meets_enumerate_newT l items n dct sl) ⟨hl, ?_⟩
  have hz : (s.heap.push { cls := .type "tuple_iterator", data := .fields #[.ref l, .int 0 0] }).objs.size = s.heap.objs.size + 1 := Heap.size_push ..
  show _ ∧ _
  rw [hz]
  have he : IsEnum ((s.heap.push { cls := .type "tuple_iterator", data := .fields #[.ref l, .int 0 0] }).push
      { cls := .type "enumerate", data := .fields #[.none, .bool false, .ref s.heap.objs.size, rawInt 0, .none, .none] }) (s.heap.objs.size + 1) s.heap.objs.size 0 .none := by
    have := Heap.get?_push_size (s.heap.push { cls := .type "tuple_iterator", data := .fields #[.ref l, .int 0 0] })
      (o := { cls := .type "enumerate", data := .fields #[.none, .bool false, .ref s.heap.objs.size, rawInt 0, .none, .none] }) rfl
    rw [hz] at this; exact this
  refine ⟨⟨_, he, rfl⟩, h _ he ⟨_, Heap.get?_push_of_some _ (Heap.get?_push_size _ rfl), rfl, rfl⟩ (by rw [Heap.size_push, hz]) fun b o x => Heap.get?_push_of_some _ (Heap.get?_push_of_some _ x)⟩
theorem turn_enumT {P : Program} {w : World} {K : PySem.W.Frag} {elts : List Expr} {kk : Nat} {tpos : Pos} (a e it : Addr) :
    Turn P w K (.Tuple elts kk tpos) (ItET K a) [e, it] e (fun i h => (∃ old, IsEnum h e it ((i : Nat) : Int) old) ∧ h.IsTupleIter it a i ∧ e ≠ it ∧ a ≠ it ∧ a ≠ e) where
  mem := by simp
  obj := fun i h st b hb => by
    obtain ⟨⟨old, he⟩, ⟨o, ho, hc, hd⟩, _⟩ := st
    have e' : b = e ∨ b = it := by simpa using hb
    rcases e' with z | z
    · rw [z]; exact ⟨_, he, fun v q => nomatch q⟩
    · rw [z]; exact ⟨o, ho, fun v q => by rw [hd] at q; cases q⟩
  keep := fun i h h' st k => by
    obtain ⟨⟨old, he⟩, ⟨o, ho, r⟩, hne⟩ := st
    exact ⟨⟨old, k e (by simp) _ he⟩, ⟨o, k it (by simp) o ho, r⟩, hne⟩
  item := by
    intro X hP hw hK hc i pins s σ H E I hf st hg
    subst hP hw hK
    obtain ⟨⟨old, he⟩, hit, hne, hai, hae⟩ := st
    obtain ⟨xs, x, hq, hx⟩ := hg
    obtain ⟨its, rv, p, hz⟩ := I.tuple hq
    obtain ⟨u, hu, ru⟩ := rv.get hx
    have hel : e < s.heap.objs.size := Heap.lt_size he
    have hil : it < s.heap.objs.size := by obtain ⟨_, q, _⟩ := hit; exact Heap.lt_size q
    have hh : X.A.in1.handled = none := I.ok.hd hc
    have pT : s.heap.IsTuple a its.toArray := p
    have hlt : i < its.toArray.size := by
      have := (List.getElem?_eq_some_iff.mp hu).1
      simpa using this
    refine wpAny_pyNext_enum_itemC (Draws.tuple hh it a hai its.toArray) he ⟨hit, pT⟩ hlt hne (by simp [hne, Ne.symm hae]) fun v h' tk hP ho hit' hT hsz hk => ?_
    have ev : v = u := by
      have hP' : its.toArray[i]? = some v := hP
      rw [List.getElem?_toArray, hu] at hP'
      exact (Option.some.inj hP').symm
    subst ev
    refine ⟨_, rfl, wpAny_letOwnedTupleGo_enum (s := { s with heap := h', toks := tk + 1 }) ho fun h'' he' sb => ?_⟩
    have hT2 : h''.get? s.heap.objs.size = some { cls := .type "tuple", data := .seq #[.int i tk, v] } := (sb.2 _ (Nat.ne_of_gt hel)).trans hT
    have new : ObjOk X.prog X.w (upd H s.heap.objs.size (.tup [.int (i : Nat), x])) h'' s.heap.objs.size (.tup [.int (i : Nat), x]) :=
      ⟨by show 2 ≤ sizeLine; decide, [.int i tk, v], .cons ⟨_, rfl⟩ (.cons ru .nil), ⟨_, hT2, rfl, _, rfl⟩⟩
    have I1 : Inv X pins σ (upd H s.heap.objs.size (.tup [.int (i : Nat), x])) { s with heap := h'', toks := tk + 1 } :=
      I.turnedNew (ch := [e, it]) (fun b ob hb q => (sb.2 b (fun z => hb (by simp [z]))).trans (hk b ob (fun z => hb (by simp [z])) (fun z => hb (by simp [z])) q)) hf (Nat.le_refl _) new
    refine ⟨.ref s.heap.objs.size, _, I1, rfl, ⟨_, x, rfl, I.hok.fresh (Nat.le_refl _), rfl, fun ys hy => by rw [I.tuple_inj hy hq]; exact hx⟩, ⟨⟨v, ?_⟩, ?_, hne, hai, hae⟩, fun b hb => ?_⟩
    · have e1 : ((i + 1 : Nat) : Int) = (i : Int) + 1 := by omega
      rw [e1]; exact he'
    · obtain ⟨⟨o, ho', r⟩, _⟩ := hit'
      exact ⟨o, (sb.2 it (Ne.symm hne)).trans ho', r⟩
    · have hb' : b < s.heap.objs.size := by
        have e' : b = e ∨ b = it := by simpa using hb
        rcases e' with z | z
        · rw [z]; exact hel
        · rw [z]; exact hil
      rw [upd_ne (Nat.ne_of_lt hb')]
      exact (hf b hb).1
  done := by
    intro X hP hw hK hc i pins s σ H E I hf st hg
    subst hP hw hK
    obtain ⟨⟨old, he⟩, hit, hne, hai, hae⟩ := st
    obtain ⟨xs, hq, hx⟩ := hg
    obtain ⟨its, rv, p, hz⟩ := I.tuple hq
    have hl := rv.length
    have pT : s.heap.IsTuple a its.toArray := p
    have hh : X.A.in1.handled = none := I.ok.hd hc
    obtain ⟨f0, f1, f2, f3, f4, f5⟩ := hf it (by simp)
    have D : Draws X.prog X.w X.A.in1 it [it, a] i (fun _ _ => True) (fun j h => j = i ∧ h.IsTupleIter it a i ∧ h.IsTuple a its.toArray) :=
      { live := fun _ _ st => let ⟨o, ho, _⟩ := st.2.1; ⟨o, ho⟩
        frame := fun _ _ _ st hk => ⟨st.1, st.2.1.at fun o e => hk it (by simp) o e, st.2.2.at fun o e => hk a (by simp) o e⟩
        item := fun j s Q E hj st hQ => absurd st.1 (Nat.ne_of_lt hj)
        done := fun s Q E st hE => wpAny_nextOf_tuple_end hh st.2.1 st.2.2 (by simp; omega) hE }
    exact wpAny_pyNext_enum_endD D he ⟨rfl, hit, pT⟩ fun h' eb => ⟨rfl, I.turned (t' := s.toks) (fun b o hb q => eb b o hb q) f0 f1 f3 f4 f5⟩
  self := fun A i s Q E st h => let ⟨⟨_, he⟩, _⟩ := st; wpAny_pyIter_enum he h
def iEnumT (K : PySem.W.Frag) (ta : TA) : TI := fun σ H R => ta σ H fun vs H1 => ∃ a xs, vs = [.ref a] ∧ SqT K H1 a xs ∧ R (ItET K a) H1
theorem pi_enumT {X : Cx} {e : Expr} {ta : TA} {p pos tpos : Pos} {elts : List Expr} {kk : Nat} (hg : Gl X "enumerate") (hm : X.mg "enumerate" = none) (ha : PA X [e] ta) (hs : starEach [e] X.env = [(false, eval e X.env)] := by rfl) :
    PI X (.Tuple elts kk tpos) (.Call (.Name "enumerate" p) [e] [] pos) (iEnumT X.K ta) := by
  refine ⟨fun pins s σ H R I h => ?_⟩
  refine Call_ (ld_blt I hg hm boot_enumerate (PyProof.Rows.callWith_type1 (thn (ha.run pos pins s σ H _ I h) fun us s1 ⟨vs, H1, I1, r1, q1⟩ => ?_) hs rfl))
  obtain ⟨a, xs, ex, hq, q⟩ := q1
  subst ex
  cases r1 with
  | cons r rr =>
    cases rr
    cases r
    obtain ⟨its, rv, p', hz⟩ := I1.tuple hq
    have pT : s1.heap.IsTuple a its.toArray := p'
    have hlt : a < s1.heap.objs.size := by obtain ⟨o, ho, _⟩ := pT; exact Heap.lt_size ho
    refine call_enumerate_tup pT fun h' he hit hsz hk => wpAny_pyIter_enum he ?_
    have I2 : Inv X pins σ H1 { s1 with heap := h' } := I1.kept (t' := s1.toks) hk
    refine ⟨s1.heap.objs.size + 1, [s1.heap.objs.size + 1, s1.heap.objs.size], _, _, H1, rfl, I2, turn_enumT a (s1.heap.objs.size + 1) s1.heap.objs.size, ⟨⟨.none, he⟩, hit, Nat.succ_ne_self _, Nat.ne_of_lt hlt, Nat.ne_of_lt (Nat.lt_succ_of_lt hlt)⟩, fun b hb => ?_, q⟩
    have e' : b = s1.heap.objs.size + 1 ∨ b = s1.heap.objs.size := by simpa using hb
    have hle : s1.heap.objs.size ≤ b := by
      rcases e' with z | z
      · rw [z]; exact Nat.le_add_right _ _
      · rw [z]; exact Nat.le_refl _
    exact I1.fpOk hle (I1.hok.fresh hle)
/-- a list or a tuple, enumerated -/
def iEnumQ (K : PySem.W.Frag) (ta : TA) : TI := fun σ H R => iEnum K ta σ H R ∨ iEnumT K ta σ H R
theorem pi_enumQ {X : Cx} {e : Expr} {ta : TA} {p pos tpos : Pos} {elts : List Expr} {kk : Nat} (hg : Gl X "enumerate") (hm : X.mg "enumerate" = none) (ha : PA X [e] ta) (hs : starEach [e] X.env = [(false, eval e X.env)] := by rfl) :
    PI X (.Tuple elts kk tpos) (.Call (.Name "enumerate" p) [e] [] pos) (iEnumQ X.K ta) := by
  refine ⟨fun pins s σ H R I h => ?_⟩
  rcases h with h | h
  · exact (pi_enum hg hm ha hs).run pins s σ H R I h
  · exact (pi_enumT hg hm ha hs).run pins s σ H R I h
theorem walk_enumT {K : PySem.W.Frag} {a : Addr} {xs : List V} : Walk (ItET K a) xs.length (fun H => SqT K H a xs) (YPair (fun i => some (.int (i : Nat))) (fun i => xs[i]?)) := by
  refine ⟨fun i _ hi q => ⟨xs, xs[i], q, by simp [hi]⟩, fun _ q => ⟨xs, q, Nat.le_refl _⟩, fun i H v H' _ q y => ?_⟩
  obtain ⟨T, x, h1, h2, h3, h4⟩ := y
  exact ⟨T, .int (i : Nat), x, h1, h2, h3, rfl, h4 xs q⟩
theorem walk_enumS {x : Str} : Walk (ItES x) x.cps.size (fun _ => True) (fun i H v H' => ∃ T c, v = .ref T ∧ H T = none ∧ H' = upd H T (.tup [.int (i : Nat), .str ⟨#[c]⟩]) ∧ x.cps[i]? = some c) :=
  ⟨fun _ _ hi _ => hi, fun _ _ => Nat.le_refl _, fun _ _ _ _ _ _ y => y⟩
end Lx

set_option maxRecDepth 100000
set_option maxHeartbeats 4000000
namespace Lx
open PySem PySem.Spec PyProof.Rows L2
/-- n turns, each a new tuple whose items are as f says -/
def ItTup (n : Nat) (f : Nat → List V → Prop) : It :=
  ⟨fun i _ => i < n, fun i H v H' => ∃ T xs, v = .ref T ∧ H T = none ∧ H' = upd H T (.tup xs) ∧ f i xs, fun i _ => n ≤ i⟩
theorem turn_tuples {P : Program} {w : World} {K : PySem.W.Frag} {elts : List Expr} {kk : Nat} {tpos : Pos} {it : Addr} {fp wr : List Addr} {n : Nat} {Pt : Nat → Array Value → Prop} {St : Nat → Heap → Prop} {Mid : Nat → Addr → Heap → Prop} {f : Nat → List V → Prop}
    (Wk : ∀ A : Around, A.in1.handled = none → WalksT P w A it fp wr n Pt St Mid) (hrel : ∀ i vals, Pt i vals → ∃ xs, Vals xs vals.toList ∧ f i xs ∧ xs.length ≤ 8)
    (hobj : ∀ i h, St i h → ∀ b ∈ fp, ∃ o, h.get? b = some o ∧ ∀ v, o.data ≠ .cell v) (hmem : it ∈ fp)
    (hself : ∀ (A : Around) (i : Nat) (s : Shared) (Q : Value → Shared → Prop) (E : Value → Shared → Prop), St i s.heap → Q (.ref it) s → wpAny (model P w) A (pyIter (.ref it)) Q E s) :
    Turn P w K (.Tuple elts kk tpos) (ItTup n f) fp it (fun i h => St i h ∧ i ≤ n) where
  mem := hmem
  obj := fun i h st => hobj i h st.1
  keep := fun i h h' st k => ⟨(Wk {} rfl).frame i h h' st.1 k, st.2⟩
  item := by
    intro X hP hw hK hc i pins s σ H E I hf st hg
    subst hP hw hK
    have hh : X.A.in1.handled = none := I.ok.hd hc
    have hlt : i < n := hg
    refine (GoesN.ofWalksT (elts := elts) (k := kk) (pos := tpos) (Wk X.A hh)).goes i s _ _ hlt st.1 fun v h' tk hY st' hk htk => ?_
    obtain ⟨T, vals, rfl, hnew, hPt, hT⟩ := hY
    obtain ⟨xs, rv, hfx, hl⟩ := hrel i vals hPt
    have new : ObjOk X.prog X.w (upd H T (.tup xs)) h' T (.tup xs) := ⟨Nat.le_trans hl (by decide), vals.toList, rv, by rw [Array.toArray_toList]; exact hT⟩
    have I1 : Inv X pins σ (upd H T (.tup xs)) { s with heap := h', toks := tk } :=
      I.turnedNew (ch := fp) (fun b ob hb q => hk b ob (fun z => hb ((Wk X.A hh).sub b z)) q) hf hnew new
    refine ⟨.ref T, _, I1, rfl, ⟨T, xs, rfl, I.hok.fresh hnew, rfl, hfx⟩, ⟨st', hlt⟩, fun b hb => ?_⟩
    have hb' : b < s.heap.objs.size := by obtain ⟨o, ho, _⟩ := hobj i _ st.1 b hb; exact Heap.lt_size ho
    rw [upd_ne (Nat.ne_of_lt (Nat.lt_of_lt_of_le hb' hnew))]
    exact (hf b hb).1
  done := by
    intro X hP hw hK hc i pins s σ H E I hf st hg
    subst hP hw hK
    have hh : X.A.in1.handled = none := I.ok.hd hc
    have hge : n ≤ i := hg
    have hi : i = n := Nat.le_antisymm st.2 hge
    subst hi
    refine (Wk X.A hh).done s _ _ st.1 fun h' tk hk => ⟨rfl, ?_⟩
    exact I.turnedL (ch := fp) (fun c o hb q => hk c o (fun z => hb ((Wk X.A hh).sub c z)) q) hf
  self := fun A i s Q E st h => hself A i s Q E st.1 h
theorem walk_tuples {n : Nat} {f : Nat → List V → Prop} : Walk (ItTup n f) n (fun _ => True) (fun i H v H' => ∃ T xs, v = .ref T ∧ H T = none ∧ H' = upd H T (.tup xs) ∧ f i xs) :=
  ⟨fun _ _ hi _ => hi, fun _ _ => Nat.le_refl _, fun _ _ _ _ _ _ y => y⟩
/-! zip of two texts -/
def zipF (x y : Str) : Nat → List V → Prop := fun i xs => ∃ c d, x.cps[i]? = some c ∧ y.cps[i]? = some d ∧ xs = [.str ⟨#[c]⟩, .str ⟨#[d]⟩]
def iZipS (ta : TA) : TI := fun σ H R => ta σ H fun vs H1 => ∃ x y, vs = [.str x, .str y] ∧ R (ItTup (min x.cps.size y.cps.size) (zipF x y)) H1
theorem pi_zipS {X : Cx} {e e2 : Expr} {ta : TA} {p pos tpos : Pos} {elts : List Expr} {kk : Nat} (hg : Gl X "zip") (hm : X.mg "zip" = none) (ha : PA X [e, e2] ta)
    (hs : starEach [e, e2] X.env = (false, eval e X.env) :: starEach [e2] X.env := by rfl) (hpl : (backTo pos (starEach [e2] X.env)).any (·.1) = false := by rfl) :
    PI X (.Tuple elts kk tpos) (.Call (.Name "zip" p) [e, e2] [] pos) (iZipS ta) := by
  refine ⟨fun pins s σ H R I h => ?_⟩
  refine Call_ (ld_blt I hg hm PyProof.Rows.boot_zip (PyProof.Rows.callWith_type1 (thn (ha.run pos pins s σ H _ I h) fun us s1 ⟨vs, H1, I1, r1, q1⟩ => ?_) hs hpl))
  obtain ⟨x, y, ex, q⟩ := q1
  subst ex
  cases r1 with
  | cons r rr =>
    cases rr with
    | cons r' rr =>
      cases rr
      obtain ⟨t, rfl⟩ := r
      obtain ⟨t', rfl⟩ := r'
      refine zip_begins2 (begins_text x t) (begins_text y t') trivial trivial fun h' hz hTI hTO h1 h2 hsz hk => wpAny_pyIter_zip hz ?_
      have I2 : Inv X pins σ H1 { s1 with heap := h' } := I1.kept (t' := s1.toks) hk
      have sep := zip_sep2 (N := s1.heap.objs.size) (fp1 := []) (fp2 := []) (fun b hb => nomatch hb) (fun b hb => nomatch hb)
      have tn := turn_tuples (P := X.prog) (w := X.w) (K := X.K) (elts := elts) (kk := kk) (tpos := tpos) (f := zipF x y)
        (fun A hh => WalksT.zipD2 sep (Draws.text (prog := X.prog) (w := X.w) hh s1.heap.objs.size x t) (Draws.text (prog := X.prog) (w := X.w) hh (s1.heap.objs.size + 1) y t'))
        (fun i vals hv => by
          obtain ⟨x1, x2, ⟨c, u, hc, rfl⟩, ⟨d, u', hd, rfl⟩, rfl⟩ := hv
          exact ⟨[.str ⟨#[c]⟩, .str ⟨#[d]⟩], .cons ⟨_, rfl⟩ (.cons ⟨_, rfl⟩ .nil), ⟨c, d, hc, hd, rfl⟩, by show 2 ≤ 8; decide⟩)
        (fun i h st b hb => by
          obtain ⟨z1, z2, ⟨a1, a2, z3⟩, ⟨o1, e1, _, d1⟩, ⟨o2, e2, _, d2⟩⟩ := st
          have e' : b = s1.heap.objs.size + 4 ∨ b = s1.heap.objs.size + 2 ∨ b = s1.heap.objs.size + 3 ∨ b = s1.heap.objs.size ∨ b = s1.heap.objs.size + 1 := by simpa using hb
          rcases e' with q | q | q | q | q
          · rw [q]; exact ⟨_, z1, fun v q => nomatch q⟩
          · rw [q]; exact ⟨_, z2, fun v q => nomatch q⟩
          · rw [q]; exact ⟨_, z3, fun v q => nomatch q⟩
          · rw [q]; exact ⟨o1, e1, fun v q => by rw [d1] at q; cases q⟩
          · rw [q]; exact ⟨o2, e2, fun v q => by rw [d2] at q; cases q⟩)
        (by simp) (fun A i s Q E st h => wpAny_pyIter_zip st.1 h)
      refine ⟨s1.heap.objs.size + 4, _, _, _, H1, rfl, I2, tn, ⟨⟨hz, hTI, ⟨_, _, hTO⟩, ⟨_, h1, rfl, rfl⟩, ⟨_, h2, rfl, rfl⟩⟩, Nat.zero_le _⟩, fun c hcm => ?_, q⟩
      have e' : c = s1.heap.objs.size + 4 ∨ c = s1.heap.objs.size + 2 ∨ c = s1.heap.objs.size + 3 ∨ c = s1.heap.objs.size ∨ c = s1.heap.objs.size + 1 := by simpa using hcm
      have hle : s1.heap.objs.size ≤ c := by
        rcases e' with z | z | z | z | z
        · rw [z]; exact Nat.le_add_right _ _
        · rw [z]; exact Nat.le_add_right _ _
        · rw [z]; exact Nat.le_add_right _ _
        · rw [z]; exact Nat.le_refl _
        · rw [z]; exact Nat.le_add_right _ _
      exact I1.fpOk hle (I1.hok.fresh hle)
/-! text * int -/
section
variable {X : Cx}
theorem op_rep_str : OpR X (binaryOp .Mult) (fun x y H Q => ∃ (z : Str) (n : Int), x = .str z ∧ y = .int n ∧ n < 2 ^ 20 ∧ -(2 ^ 20) < n ∧ z.length * n.toNat ≤ 100000 ∧ Q (.str (Txt.mul z n)) H) := by
  intro pins s σ H x y u v Q I rx ry h
  obtain ⟨z, n, rfl, rfl, h1, h2, h3, q⟩ := h
  obtain ⟨t, rfl⟩ := rx
  obtain ⟨t', rfl⟩ := ry
  refine SB.mul ⟨?_, fun a b => ?_, fun a b => ?_⟩ fun t' k => ⟨.str (Txt.mul z n), H, I.tok _, ⟨_, rfl⟩, q⟩
  · rw [decide_eq_false (by omega), decide_eq_false (by omega)]; rfl
  · have e1 : ((z.length : Int)) ≤ 100000 := by
      have : z.length * 1 ≤ z.length * n.toNat := Nat.mul_le_mul_left _ (by omega)
      omega
    have e2 : (100000 : Int) ≤ (2 ^ 63 - 1) / n := by
      refine (Int.le_ediv_iff_mul_le (by omega)).mpr ?_
      omega
    omega
  · show decide (z.length * n.toNat > sizeLine) = false
    exact decide_eq_false (Nat.not_lt.mpr (Nat.le_trans h3 (by decide)))
end
/-! a class made without arguments; a def called without; a property -/
open C8 in
theorem pe_mk0 {X : Cx} {k j : Nat} {C : Addr} {x : Str} {sp : Sp} {dvs : List V} {p pos : Pos} (c : Mak X.prog X.w X.K X.mg X.base k x C sp dvs) (hr : Room j X.A) (hk : k + 1 ≤ j) (hg : Gl X x) (hdb : (x == ("__debug__" : Str)) = false := by decide) :
    PE X (.Call (.Name x p) [] [] pos) (tMake C sp dvs C8.E0 tNil) := by
  obtain ⟨f, fd, ps, ds, M, F, hm, b, d⟩ := c.ex
  exact pe_make0 M F (hr.mono hk) hg hm b d C8.pass0 hdb
open C8 in
theorem pe_c0 {X : Cx} {k j : Nat} {x : Str} {sp : Sp} {dvs : List V} {p pos : Pos} (c : Cal X.prog X.w X.K X.mg X.base k x sp dvs) (hr : Room j X.A) (hk : k ≤ j) (hg : Gl X x) (hdb : (x == ("__debug__" : Str)) = false := by decide) :
    PE X (.Call (.Name x p) [] [] pos) (tCall sp dvs C8.E0 tNil) := by
  obtain ⟨f, fd, ps, ds, F, hm, kp, b, d⟩ := c.ex
  exact pe_call0 F (hr.mono hk) hg hm kp b d C8.pass0 hdb
/-- a property of the class at C -/
structure Prp (P : Program) (w : World) (K : PySem.W.Frag) (mg : Str → Option Value) (base : Heap) (k : Nat) (C : Addr) (m : Str) (sp : Sp) : Prop where
  ex : ∃ (p f : Addr) (fd : FuncData) (ps : List Str), Cls K C ∧ PropOf K C m p f ∧ FnOk P w K mg base C8.CX0 k f fd ps sp ∧ Binds K fd ps []
theorem pe_pr {X : Cx} {k j : Nat} {C : Addr} {m : Str} {sp : Sp} {e : Expr} {ta : TE} {pos : Pos} (c : Prp X.prog X.w X.K X.mg X.base k C m sp) (hr : Room j X.A) (hk : k + 1 ≤ j) (he : PE X e ta) (hab : attributeBase e m X.env (eval e X.env) = eval e X.env := by rfl) :
    PE X (.Attribute e m pos) (tProp C sp [] C8.E0 ta) := by
  obtain ⟨p, f, fd, ps, hc, hp, F, b⟩ := c.ex
  exact pe_prop he hc hp F (hr.mono hk) b .nil C8.pass0 hab
end Lx

set_option maxRecDepth 100000
set_option maxHeartbeats 4000000
namespace Lx
open PySem PySem.Spec PyProof.Rows L2
section
variable {X : Cx} {k j : Nat} {C : Addr} {sp : Sp}
/-- a def run from a deeper place of the same frame -/
theorem run_sub {CX : CXT} {f : Addr} {fd : FuncData} {ps : List Str} {A : Around} {pins : List (Addr × Obj)} {σ : L2.St} {H : Hp} {s : Shared} {Q : VK} {E : XK} {us : List Value} {vs : List V} (F : FnOk X.prog X.w X.K X.mg X.base CX k f fd ps sp) (sb : Sub X k A) (hb : Binds X.K fd ps [])
    (hx : Passes CX X E) (I : Inv X pins σ H s) (r : Vals vs us) (h : sp vs H Q E) : wpAny (model X.prog X.w) A (call (.ref f) us) (EP X pins σ Q) X.xe s := by
  have e0 : Env0 X.prog X.w X.K X.mg X.base A X.stack s H := by
    have e := I.env0
    exact ⟨by rw [sb.fr]; exact e.frames, e.mod, e.bs, e.bsz, e.funs, e.frf, e.hok, e.bare⟩
  have hl : (us ++ []).length = ps.length := by rw [List.append_nil, ← r.length]; exact F.len _ _ _ _ h
  refine wpAny_call (codeAny_mono (F.run A X.stack s H ⟨us, []⟩ us vs Q E sb.room e0 (by have := hb s us I.kIn hl; simpa using this) r h) fun r s' hq => ?_)
  cases r with
  | error e => exact hx pins σ H s e s' I hq
  | ok fl =>
    cases fl with
    | ret w => exact I.after hq
    | next => exact False.elim hq
    | brk => exact False.elim hq
    | cont => exact False.elim hq
theorem vals_nil {ds : List Value} (h : Vals [] ds) : ds = [] := by cases h; rfl
theorem sub_in2 {A : Around} (hr : Room j A) (hk : k + 2 ≤ j) (hf : A.frames = X.A.frames) : Sub X k A.in1.in1 := by
  have s : Sub X (k + 2) A := ⟨hr.mono hk, hf⟩
  exact s.in1.in1
/-- str(o) by the text's own __str__ -/
def rStrO (C : Addr) (sp : Sp) : List V → Hp → VK → Prop := fun xs H Q => ∃ a dx fs, xs = [.ref a] ∧ H a = some (.ins C dx fs) ∧ sp [.ref a] H (fun v H' => ∃ z, v = .str z ∧ Q (.str z) H') C8.E0
theorem call_str_own (c : C8.Met X.prog X.w X.K X.mg X.base k C "__str__" sp []) (hr : Room j X.A) (hk : k + 2 ≤ j) : CallR X (.type "str") (rStrO C sp) := by
  intro pins s σ H xs us Q I rv h
  obtain ⟨a, dx, fs, rfl, ha, hsp⟩ := h
  obtain ⟨f, fd, ps, ds, _, me, F, b, d⟩ := c.ex
  obtain rfl := vals_nil d
  cases rv with
  | cons r rr =>
    cases rr
    cases r
    obtain ⟨mA, J, _⟩ := ins_get I.hok ha
    obtain ⟨od, J, _⟩ := J.look
    have sb : Sub X k X.A.in1.in1 := sub_in2 hr hk rfl
    refine PySem.W.kso_call sb.room.units0 I.kIn J me.at_ me.fn (wpAny_mono (run_sub (vs := [.ref a]) F sb b C8.pass0 I (.cons rfl .nil) hsp) (fun u s' q => ?_) fun _ _ x => x)
    obtain ⟨v, H', I', ru, z, ez, q⟩ := q
    subst ez
    obtain ⟨t, rfl⟩ := ru
    exact ⟨.str z, H', I', ⟨t, rfl⟩, q⟩
/-- len(o) by the text's own __len__ -/
def rLenO (C : Addr) (sp : Sp) : List V → Hp → VK → Prop := fun xs H Q => ∃ a dx fs, xs = [.ref a] ∧ H a = some (.ins C dx fs) ∧ sp [.ref a] H (fun v H' => ∃ n : Int, v = .int n ∧ 0 ≤ n ∧ n < 2 ^ 63 ∧ Q (.int n) H') C8.E0
theorem call_len_own (c : C8.Met X.prog X.w X.K X.mg X.base k C "__len__" sp []) (hr : Room j X.A) (hk : k + 2 ≤ j) : CallR X (.builtin "len") (rLenO C sp) := by
  intro pins s σ H xs us Q I rv h
  obtain ⟨a, dx, fs, rfl, ha, hsp⟩ := h
  obtain ⟨f, fd, ps, ds, _, me, F, b, d⟩ := c.ex
  obtain rfl := vals_nil d
  cases rv with
  | cons r rr =>
    cases rr
    cases r
    obtain ⟨mA, J, _⟩ := ins_get I.hok ha
    obtain ⟨od, J, _⟩ := J.look
    have sb : Sub X k X.A.in1 := (show Sub X (k + 1) X.A from ⟨hr.mono (by omega), rfl⟩).in1
    obtain ⟨m, hF⟩ := I.fr
    refine PySem.W.len_K hF I.ok.mod.kin J me.at_ me.fn (wpAny_mono (run_sub (vs := [.ref a]) F sb b C8.pass0 I (.cons rfl .nil) hsp) (fun u s' q => ?_) fun _ _ x => x)
    obtain ⟨v, H', I', ru, z, ez, h0, h1, q⟩ := q
    subst ez
    obtain ⟨t, rfl⟩ := ru
    exact ⟨⟨h0, h1⟩, .int z, H', I'.tok _, ⟨_, rfl⟩, q⟩
/-- o == p, both of the class at C, by the text's own __eq__ -/
def rEqO (C : Addr) (sp : Sp) : R2 := fun x y H Q => ∃ a b dx dy fs gs, x = .ref a ∧ y = .ref b ∧ H a = some (.ins C dx fs) ∧ H b = some (.ins C dy gs) ∧ sp [.ref a, .ref b] H (fun v H' => ∃ t : Bool, v = .bl t ∧ Q (.bl t) H') C8.E0
theorem op_eqOwn (c : C8.Met X.prog X.w X.K X.mg X.base k C "__eq__" sp []) (hr : Room j X.A) (hk : k ≤ j) : OpR X (compareOp .Eq) (rEqO C sp) := by
  intro pins s σ H x y v u Q I rx ry h
  obtain ⟨a, b, dx, dy, fs, gs, rfl, rfl, ha, hb, hsp⟩ := h
  obtain ⟨f, fd, ps, ds, _, me, F, bn, d⟩ := c.ex
  obtain rfl := vals_nil d
  cases rx
  cases ry
  obtain ⟨mA, J, _⟩ := ins_get I.hok ha
  obtain ⟨mB, J', _⟩ := ins_get I.hok hb
  obtain ⟨od, J, _⟩ := J.look
  obtain ⟨od', J', _⟩ := J'.look
  obtain ⟨m, hF⟩ := I.fr
  have sb : Sub X k X.A := ⟨hr.mono hk, rfl⟩
  show wpAny (model X.prog X.w) X.A (richCompare .Eq (.ref a) (.ref b)) (EP X pins σ Q) X.xe s
  refine PySem.W.cmp_K (op := .Eq) (tb := .ref C) sb.room.units0 hF I.ok.mod.kin J J'.type (by simp [PySem.W.notFirst]) me.at_ me.fn ?_
  refine wpAny_mono (run_sub (vs := [.ref a, .ref b]) F sb bn C8.pass0 I (.cons rfl (.cons rfl .nil)) hsp) (fun u s' q => ?_) fun _ _ x => x
  obtain ⟨v, H', I', ru, t, ez, q⟩ := q
  subst ez
  cases (show u = Value.bool t from ru)
  exact ⟨.bl t, H', I', rfl, q⟩
end
/-- what of the text != wants -/
structure NeT (K : PySem.W.Frag) (C : Addr) : Prop where
  mro : PySem.W.mroIn K C (.type "object") = some true
  ne : PySem.W.findIn K (.ref C) "__ne__" = some (some (.builtin "object.__ne__"))
section
open PySem.W
variable {M : Model} {prog : Program} {w : World} {A : Around} {E : Value → Shared → Prop} {s : Shared} {K : PySem.W.Frag} {x C f : Addr} {ox : Obj} {od : Option Obj} {b tb : Value}
theorem ifBound_bltn {name : Str} {id : String} {args : List Value} {Q : Option Value → Shared → Prop} (X : K.In s.heap) (I : PySem.W.InstAt s.heap x ox C od) (hs : PySem.W.findIn K (.ref C) name = some (some (.builtin id)))
    (hb : ∀ self, bindSpecial (.builtin id) self = pure (.builtin id, [self])) (h : wpAny M A (call (.builtin id) (.ref x :: args)) (fun v => Q (some v)) E s) : wpAny M A (callSpecialIfBound? (.ref x) name args) Q E s := by
  simp only [callSpecialIfBound?, bindSpecialIfBound?]
  refine wpAny_holding (wpAny_bind (wpAny_bind (wpAny_bind (I.type.here ((PySem.W.looks_findIn X hs).here ?_)))))
  refine wpAny_bind (wpAny_askSetting (wpAny_ite ?_))
  have fin : wpAny M A (call (.builtin id) ([.ref x] ++ args) >>= fun v => pure (some v)) Q E s := wpAny_bind (wpAny_mono h (fun v s' h' => wpAny_pure h') fun _ _ h' => h')
  split
  · exact wpAny_bind (wpAny_of_eq (hb _) (wpAny_pure (by exact fin)))
  · exact wpAny_tryCatch (wpAny_bind (wpAny_of_eq (hb _) (wpAny_pure (by exact fin))))
theorem ne_tree {Q : Fin → Shared → Prop} (hu : A.units < cLine) (X : K.In s.heap) (I : PySem.W.InstAt s.heap x ox C od) (he : PySem.W.findIn K (.ref C) "__eq__" = some (some (.ref f))) (hf : PySem.W.isFn K (.ref f) = true)
    (h : wpAny M A (call (.ref f) [.ref x, b]) (fun v s' => ∃ t : Bool, v = .bool t ∧ Q (.done (.ret (.bool (!t)))) s') E s) : wpAny M A (Builtin.«object.__ne__» ⟨[.ref x, b], []⟩) Q E s := by
  unfold Builtin.«object.__ne__»
  refine wpAny_bind (m := slotArgs "__ne__" 1 _) (wpAny_pure ?_)
  refine wpAny_bind (m := cRoomFor _ _) (wpAny_cRoomFor hu ?_)
  refine wpAny_bind (m := callSpecialIfBound? (.ref x) (Str.ofString "__eq__") _) (ifBound_K X I he hf (wpAny_mono h (fun r s' hr => ?_) fun _ _ y => y))
  obtain ⟨t, rfl, q⟩ := hr
  exact wpAny_bind (wpAny_truthy_bool (wpAny_pure q))
theorem cmp_neK {Q : Value → Shared → Prop} (hu : A.units < cLine) (hu1 : A.in1.units < cLine) (X : K.In s.heap) (I : PySem.W.InstAt s.heap x ox C od) (hb : Looks (model prog w) s.heap (typeOf b) tb) (hn : PySem.W.notFirst K C tb = true) (N : NeT K C)
    (he : PySem.W.findIn K (.ref C) "__eq__" = some (some (.ref f))) (hf : PySem.W.isFn K (.ref f) = true)
    (h : wpAny (model prog w) A.in1 (call (.ref f) [.ref x, b]) (fun v s' => ∃ t : Bool, v = .bool t ∧ Q (.bool (!t)) s') E s) : wpAny (model prog w) A (richCompare .NotEq (.ref x) b) Q E s := by
  have one : wpAny (model prog w) A (tryCompare (.ref x) (cmpInfo .NotEq).2.1 b) (fun r s' => ∃ v, r = some v ∧ Q v s') E s := by
    unfold tryCompare
    refine wpAny_bind (ifBound_bltn X I N.ne F.cmp_object.ne.bind ?_)
    refine wpAny_call (codeAny_call_builtin F.cmp_object.ne.plain F.cmpEntry_ne (PySem.W.check_slot F.cmpKind_ne F.cmpSplit_ne (I.type.andThen (PySem.W.looks_mroIn X N.mro)) (F.cmpArgs_ne _ _) (ne_tree hu1 X I he hf (wpAny_mono h (fun v s' hv => ?_) fun _ _ e => e))))
    obtain ⟨t, rfl, q⟩ := hv
    exact ⟨t, rfl, wpAny_pure ⟨_, rfl, q⟩⟩
  unfold richCompare
  simp only [oneThing_ref]
  refine wpAny_holding (wpAny_bind (wpAny_cRoomFor hu ?_))
  refine wpAny_bind (I.type.here (wpAny_bind (hb.here ?_)))
  split
  · rename_i q
    have e : subIn K tb (.ref C) = some false := by
      rcases Bool.or_eq_true_iff.mp hn with e | e
      · rw [beq_iff_eq.mp e] at q; simp at q
      · exact beq_iff_eq.mp e
    refine wpAny_bind ((looks_subIn X e).here ?_)
    simp only [Bool.false_eq_true, if_false]
    refine wpAny_bind (wpAny_mono one (fun r s' z => ?_) fun _ _ e => e)
    obtain ⟨v, rfl, hq⟩ := z
    exact wpAny_pure hq
  · refine wpAny_bind (wpAny_pure ?_)
    simp only [Bool.false_eq_true, if_false]
    refine wpAny_bind (wpAny_mono one (fun r s' z => ?_) fun _ _ e => e)
    obtain ⟨v, rfl, hq⟩ := z
    exact wpAny_pure hq
end
section
variable {X : Cx} {k j i : Nat} {C : Addr} {sp : Sp} {x y : Str} {dvs : List V} {p pos : Pos} {e : Expr} {es : List Expr} {t : TA}
/-- o != p -/
def rNeO (C : Addr) (sp : Sp) : R2 := fun x y H Q => ∃ a b dx dy fs gs, x = .ref a ∧ y = .ref b ∧ H a = some (.ins C dx fs) ∧ H b = some (.ins C dy gs) ∧ sp [.ref a, .ref b] H (fun v H' => ∃ t : Bool, v = .bl t ∧ Q (.bl (!t)) H') C8.E0
theorem op_neOwn (c : C8.Met X.prog X.w X.K X.mg X.base k C "__eq__" sp []) (N : NeT X.K C) (hr : Room j X.A) (hk : k + 1 ≤ j) : OpR X (compareOp .NotEq) (rNeO C sp) := by
  intro pins s σ H x y v u Q I rx ry h
  obtain ⟨a, b, dx, dy, fs, gs, rfl, rfl, ha, hb, hsp⟩ := h
  obtain ⟨f, fd, ps, ds, _, me, F, bn, d⟩ := c.ex
  obtain rfl := vals_nil d
  cases rx
  cases ry
  obtain ⟨mA, J, _⟩ := ins_get I.hok ha
  obtain ⟨mB, J', _⟩ := ins_get I.hok hb
  obtain ⟨od, J, _⟩ := J.look
  obtain ⟨od', J', _⟩ := J'.look
  have sb1 : Sub X (k + 1) X.A := ⟨hr.mono hk, rfl⟩
  have sb := sb1.in1
  show wpAny (model X.prog X.w) X.A (richCompare .NotEq (.ref a) (.ref b)) (EP X pins σ Q) X.xe s
  refine cmp_neK (tb := .ref C) sb1.room.units0 sb.room.units0 I.kIn J J'.type (by simp [PySem.W.notFirst]) N me.at_ me.fn ?_
  refine wpAny_mono (run_sub (vs := [.ref a, .ref b]) F sb bn C8.pass0 I (.cons rfl (.cons rfl .nil)) hsp) (fun u s' q => ?_) fun _ _ x => x
  obtain ⟨v, H', I', ru, t, ez, q⟩ := q
  subst ez
  cases (show u = Value.bool t from ru)
  exact ⟨t, rfl, .bl (!t), H', I', rfl, q⟩
/-- the class in the i-th slot is made -/
def tMakeL (i : Nat) (C : Addr) (sp : Sp) (dvs : List V) (t : TA) : TE := fun σ H Q => σ[i]? = some (some (.ref C)) ∧ tMake C sp dvs C8.E0 t σ H Q
theorem pe_mkL (i : Nat) (c : C8.Mak X.prog X.w X.K X.mg X.base k y C sp dvs) (hr : Room j X.A) (hk : k + 1 ≤ j) (ha : PA X (e :: es) t) (hN : X.N[i]? = some x := by rfl) (hv : Vis X.env.scope x := by first | exact Or.inl rfl | exact Or.inr (Or.inl rfl) | exact Or.inr (Or.inr rfl))
    (hdb : (x == ("__debug__" : Str)) = false := by decide) (hcd : (x == ("__classdict__" : Str)) = false := by decide)
    (he : starEach (e :: es) X.env = (false, eval e X.env) :: starEach es X.env := by rfl) (hpl : (backTo pos (starEach es X.env)).any (·.1) = false := by rfl) : PE X (.Call (.Name x p) (e :: es) [] pos) (tMakeL i C sp dvs t) := by
  obtain ⟨f, fd, ps, ds, M, F, hm, b, d⟩ := c.ex
  refine ⟨fun pins s σ H Q I h => ?_⟩
  obtain ⟨hs, ht⟩ := h
  refine wpAny_Call_Name_kw (thn ((pe_var (pos := p) hN hv hdb hcd).run pins s σ H (fun v H1 => v = .ref C ∧ H1 = H) I ⟨.ref C, hs, rfl, rfl⟩) fun u s1 ⟨v, H1, I1, r1, q1⟩ => ?_)
  obtain ⟨rfl, rfl⟩ := q1
  cases r1
  refine PySem.W.callWith_K (h₀ := X.base) I.ok.mod.kin M.kp (thn (ha.run pos pins s1 σ _ _ I1 ht) fun us s2 ⟨vs, H2, I2, r, q⟩ => ⟨I2.kIn, ?_⟩) he hpl
  exact run_make M F (hr.mono hk) b d C8.pass0 I2 r q
theorem pe_mkL0 (i : Nat) (c : C8.Mak X.prog X.w X.K X.mg X.base k y C sp dvs) (hr : Room j X.A) (hk : k + 1 ≤ j) (hN : X.N[i]? = some x := by rfl) (hv : Vis X.env.scope x := by first | exact Or.inl rfl | exact Or.inr (Or.inl rfl) | exact Or.inr (Or.inr rfl))
    (hdb : (x == ("__debug__" : Str)) = false := by decide) (hcd : (x == ("__classdict__" : Str)) = false := by decide) : PE X (.Call (.Name x p) [] [] pos) (tMakeL i C sp dvs tNil) := by
  obtain ⟨f, fd, ps, ds, M, F, hm, b, d⟩ := c.ex
  refine ⟨fun pins s σ H Q I h => ?_⟩
  obtain ⟨hs, ht⟩ := h
  refine wpAny_Call_Name_kw (thn ((pe_var (pos := p) hN hv hdb hcd).run pins s σ H (fun v H1 => v = .ref C ∧ H1 = H) I ⟨.ref C, hs, rfl, rfl⟩) fun u s1 ⟨v, H1, I1, r1, q1⟩ => ?_)
  obtain ⟨rfl, rfl⟩ := q1
  cases r1
  exact PySem.W.callWith_K0 I1.kIn M.kp (run_make (us := []) M F (hr.mono hk) b d C8.pass0 I1 .nil ht)
/-- a classmethod of the class at C, C the module's name x -/
structure CMt (P : Program) (w : World) (K : PySem.W.Frag) (mg : Str → Option Value) (base : Heap) (k : Nat) (x : Str) (C : Addr) (m : Str) (sp : Sp) : Prop where
  ex : ∃ (mc : Value) (p g : Addr) (fd : FuncData) (ps : List Str), mg x = some (.ref C) ∧ ClX.CRead K C mc ∧ ClX.CMet K C mc m p g ∧ FnOk P w K mg base C8.CX0 k g fd ps sp ∧ Binds K fd ps []
theorem pe_cm {m : Str} {apos : Pos} {pl : Sem Bool} (c : CMt X.prog X.w X.K X.mg X.base k x C m sp) (hr : Room j X.A) (hk : k ≤ j) (hg : Gl X x) (ha : PA X (e :: es) t) (hdb : (x == ("__debug__" : Str)) = false := by decide)
    (hst : starEach (e :: es) X.env = (false, eval e X.env) :: starEach es X.env := by rfl) (hpl : (backTo pos (starEach es X.env)).any (·.1) = false := by rfl)
    (ht : eval (.Call (.Attribute (.Name x p) m apos) (e :: es) [] pos) X.env = (do
      let ov ← eval (.Name x p) X.env
      standAt apos.atName
      let (f, first) ← holding [ov] (getMethod ov m pl)
      callWith pos f first (backTo pos (starEach (e :: es) X.env)) (backToKw pos (keywordEach [] X.env))) := by rfl) :
    PE X (.Call (.Attribute (.Name x p) m apos) (e :: es) [] pos) (ClX.tCMeth C sp C8.E0 (tC (.ref C)) t) := by
  obtain ⟨mc, q, g, fd, ps, hm, r, cm, F, b⟩ := c.ex
  exact ClX.pe_cmeth (pe_glob (v := .ref C) hg hm rfl hdb) r cm (F.raw b .nil |>.imp fun vs H Q E h => by rw [List.append_nil]; exact h) (hr.mono hk) C8.pass0 ha hst hpl ht
end
/-- what isinstance wants of a class -/
structure IsT (K : PySem.W.Frag) (C : Addr) : Prop where
  cl : Cls K C
  ha : PySem.W.findIn K (.ref C) "__class__" = some (some (.builtin "object.__class__"))
  hn : PySem.W.specialIn K (.builtin "object.__class__") "__get__" = some (some (.builtin "getset_descriptor.__get__"))
  ht : PySem.W.takesIn K (.builtin "object.__class__") = some true
  hm : PySem.W.mroIn K C (.type "object") = some true
theorem IsT.ty {K : PySem.W.Frag} {C a dx : Addr} {H : Hp} {fs : List (Str × V)} (I : IsT K C) (e : H a = some (.ins C dx fs)) : TyX K H (.ref a) (.ref C) := .base (.ins e I.cl I.ha I.hn I.ht I.hm)
theorem IsT.one {K : PySem.W.Frag} {C : Addr} (_ : IsT K C) : PySem.W.kitOne K (.ref C) (.ref C) = some true := by
  unfold PySem.W.kitOne
  rw [if_pos (beq_self_eq_true _)]
/-- an f-string inside a comprehension: its reading by a name -/
def tJn (ts : List TE) : TE := fun σ H Q => tJs ts Str.empty σ H fun out H1 => Q (.str out) H1
theorem pe_jn {X : Cx} {v1 v2 : Expr} {rest : List Expr} {ts : List TE} {pos : Pos} (h : PJ X (v1 :: v2 :: rest) ts) : PE X (.JoinedStr (v1 :: v2 :: rest) pos) (tJn ts) := pe_joined h
end Lx

set_option maxRecDepth 100000
set_option maxHeartbeats 4000000
/-! own errors whose __init__ says super().__init__(text, x) and self.f = x -/
namespace ExS
open PySem PySem.Spec PyProof.Rows L2 NdefX
/-- what such an __init__ does to the error at a -/
def spXI (C : Addr) (fld : Str) : Sp := fun vs H Q _ => ∃ (a : Addr) (v : V), vs = [.ref a, v] ∧ H a = some (exo a C none) ∧
  ∀ dx, H dx = none → dx ≠ a → Q .non (upd (upd H dx (exd dx [(fld, v)])) a (exo a C (some dx)))
/-- the built-in __init__ bound to the error, called: nothing of it is told -/
theorem call_mw {X : Cx} {pins : List (Addr × Obj)} {σ : L2.St} {H : Hp} {s : Shared} {a C u : Addr} {us : List Value} {Q : Value → Shared → Prop} {E : Value → Shared → Prop} {A : Around}
    (T : OexC X.K C) (I : Inv X pins σ H s) (e : H a = some (exo a C none)) (hu : s.heap.get? u = some (PySem.W.kxs_mw "ValueError.__init__" a)) (hl : us.length ≤ sizeLine) (h : ∀ s', Inv X pins σ H s' → Q .none s') :
    wpAny (model X.prog X.w) A (call (.ref u) us) Q E s := by
  obtain ⟨nm, q, N, bs, bm, sn, sub, ab, col, dd, k0, k1, k2, k3, k5, hC, hbm⟩ := T.cls
  obtain ⟨t1, ho⟩ := exo_at I.hok e
  obtain ⟨hp, g, d, t, os⟩ := s
  have fin : ∀ h' : Heap, (∀ b o, b ≠ a → hp.get? b = some o → h'.get? b = some o) → h'.get? a = some (PySem.W.excObj C hp.objs.size none .none) → Q .none ⟨h', g, d, t, os⟩ := fun h' k hx => by
    have J := I.write (t' := t) (x := a) (e := a) (o := exo a C none) (by rw [e]; exact True.intro) (.inl rfl) k ⟨_, hx⟩ (exo_ok hx)
    have eu : upd H a (exo a C none) = H := funext fun b => by
      by_cases hb : b = a
      · rw [hb, upd_same, e]
      · rw [upd_ne hb]
    rw [eu] at J
    exact h _ J
  refine wpAny_call (codeAny_of_tree ?_)
  show wpAny _ A.in1 (callAny (.ref u) ⟨us, []⟩) _ _ _
  simp only [callAny]
  refine wpAny_bind (wpAny_load hu ?_)
  simp only [PySem.W.kxs_mw, show (Value.type "method-wrapper" == Value.type "method" || Value.type "method-wrapper" == Value.type "builtin_function_or_method" || Value.type "method-wrapper" == Value.type "method-wrapper") = true by decide, if_true]
  refine PySem.W.KFB.if_so (by decide) ?_
  refine wpAny_bind (PySem.W.check_bound_init F.excBase_ValueError.toExcCallFacts (I.kIn _ _ hC) ho rfl ?_)
  refine wpAny_bind (wpAny_pure (wpAny_pure ?_))
  refine ⟨plainId_quiet F.excBase_ValueError.init.plain _, codeAny_builtin F.excBase_ValueError.initEntry ?_⟩
  exact PySem.W.exc_init_tree (cls := .ref C) (t0 := t1) (dv := none) (c2 := .none) (c3 := .none) (b4 := .bool false) ho hl fun h' k hx _ => fin h' k hx
/-- the two statements of such an __init__ -/
def Body2 (self word fld text : Str) (body : List Stmt) : Prop := ∃ (p0 p1 p2 p3 p4 p5 p6 p7 p8 p9 p10 : Pos) (j : Nat), body = [.Expr (.Call (.Attribute (.Call (.Name "super" p0) [] [] p1) "__init__" p2) [.Constant (.str text) j p3, .Name word p4] [] p5) p6, .Assign [.Attribute (.Name self p7) fld p8] (.Name word p9) p10] ∧ (p2.endLine == p5.line) = true
theorem eval_sup {o : Expr} {name : Str} {apos pos : Pos} {e1 e2 : Expr} {env : Env} (hl : (apos.endLine == pos.line) = true) (h1 : starEach [e1, e2] env = [(false, eval e1 env), (false, eval e2 env)]) :
    eval (.Call (.Attribute o name apos) [e1, e2] [] pos) env = (do
      let ov ← attributeBase o name env (eval o env)
      standAt apos.atName
      let (f, first) ← holding [ov] (getMethod ov name (do return (← importBound o env).getD true))
      callWith pos f first (backTo pos (starEach [e1, e2] env)) []) := by
  have hp : methodCallPos true o env apos pos = pure pos := by unfold methodCallPos; rw [hl]; rfl
  show (do
    let ov ← attributeBase o name env (eval o env)
    standAt apos.atName
    methodCall o name apos pos env ov 2 (backTo pos (starEach [e1, e2] env)) []) = _
  rw [h1]
  have hm : ∀ ov, methodCall o name apos pos env ov 2 (backTo pos [(false, eval e1 env), (false, eval e2 env)]) [] = (do
      let (f, first) ← holding [ov] (getMethod ov name (do return (← importBound o env).getD true))
      callWith pos f first (backTo pos [(false, eval e1 env), (false, eval e2 env)]) []) := fun ov => by
    unfold methodCall
    have hf : methodCallForm 2 (backTo pos [(false, eval e1 env), (false, eval e2 env)]) [] = true := rfl
    rw [hf, hp]
    rfl
  simp only [hm]
structure ExF (P : Program) (K : PySem.W.Frag) (mg : Str → Option Value) (C : Addr) (fld : Str) (f cc cda : Addr) (file : Str) : Prop where
  T : OexC K C
  no : PySem.W.findIn K (.ref C) fld = some none
  cell : ∃ cl cld csl, K.lookup cc = some ⟨cl, cld, .cell (some (.ref C)), csl⟩
  code : ∃ ccl cdd vs ccs tf, K.lookup cda = some ⟨ccl, cdd, .fields vs, ccs⟩ ∧ vs[2]? = some (.str file tf)
  file : ((P.main.file : Str) == file) = true
  top : (P.main.scope.names.lookup ("super" : Str)).isSome = false
  sub : PySem.W.mroIn K C (.ref C) = some true
  sup : mg "super" = none
  opq : PySem.W.nsIn K cStatics "thirdparty.any" = some none
  ini : PySem.W.ks_superIn K C C "__init__" = some (some (.builtin "ValueError.__init__"))
  ve : PySem.W.subIn K (.ref C) (.type "ValueError") = some true
theorem fn_exc {P : Program} {w : World} {K : PySem.W.Frag} {mg : Str → Option Value} {base : Heap} {C f cc cda : Addr} {name qual self word fld text file : Str} {params : Arguments} {body : List Stmt} {scope : Scope} {dV kV doc pm ct oc : Value} {an od : Option Addr} {osl : Array (Option Value)} {ar : Arg} {k : Nat}
    (X : ExF P K mg C fld f cc cda file) (lk : K.lookup f = some ⟨oc, od, .func (PySem.W.fnX name qual params body scope [("__class__", cc)] dV kV doc pm an (.ref cda) ct), osl⟩) (hcd : PySem.W.codeIn K (.ref cda) qual = true)
    (S : NScope [self, word, "__class__"] [self, word] ["__class__"] scope) (hks : scope.names.lookup ("super" : Str) = some .globalImplicit) (hp : (params.posonlyargs ++ params.args).head? = some ar) (har : ar.arg = self) (hb2 : Body2 self word fld text body) (hd0 : (self == ("__debug__" : Str)) = false) (hd1 : (word == ("__debug__" : Str)) = false) (hc0 : (self == ("__classdict__" : Str)) = false) (hc1 : (word == ("__classdict__" : Str)) = false) :
    FnOk P w K mg base CX0 (k + 1) f (PySem.W.fnX name qual params body scope [("__class__", cc)] dV kV doc pm an (.ref cda) ct) [self, word] (spXI C fld) := by
  refine ⟨fun vs H Q E h => by obtain ⟨_, _, rfl, _⟩ := h; rfl, fun A outer s H args us vs Q E hr e0 hb r hsp => ?_⟩
  obtain ⟨a, v, rfl, ha, kk⟩ := hsp
  obtain ⟨u1, rfl, rv⟩ : ∃ u1, us = [.ref a, u1] ∧ RelV v u1 := by
    cases r with
    | @cons _ u0 _ ur ra rr =>
      obtain rfl : u0 = Value.ref a := ra
      cases rr with
      | @cons _ u1 _ ur2 rv rn =>
        cases rn
        exact ⟨u1, rfl, rv⟩
  have KX : K.In s.heap := e0.mod.kin.keeps fun b o e => (e0.bs b o e).1
  have lim : s.heap.NoLimit := e0.mod.nolimit.keeps fun b o e => (e0.bs b o e).1
  obtain ⟨cl, cld, csl, lcc⟩ := X.cell
  obtain ⟨ccl, cdd, cvs, ccs, tf, lcd, hvs⟩ := X.code
  refine codeAny_call_function hr.depth (KX _ _ lk) rfl S.co S.gen rfl (PySem.W.codeRec_of KX hcd) (hb _ _ _ _ ?_)
  refine wpAny_newFunctionEnv S.nocell (fun ⟨n, _⟩ hy => S.par n (List.of_mem_zip hy).1) (fun h₁ hns hsb => ⟨lim.fresh _ hsb, ?_⟩) S.kind
  show codeAny _ _ (.func body (PySem.W.envX qual scope s.heap.objs.size f (.ref cda) [("__class__", cc)])) _ _
  refine ks_codeAny_funcAt ?_
  have kp : ∀ b o, s.heap.get? b = some o → h₁.get? b = some o := fun b o e => hsb.extBut b o (Nat.ne_of_lt (Heap.lt_size e)) (Heap.get?_push_of_some _ e)
  have hcb := e0.bs _ _ (e0.mod.kin _ _ lcc)
  have C0 : CellsAt [("__class__", cc)] ["__class__"] [some (.ref C)] s.heap H := by
    have one : ∀ y c, ([("__class__", cc)] : List (Str × Addr)).lookup y = some c → y = "__class__" ∧ c = cc := fun y c e => by
      rw [List.lookup_cons] at e
      split at e
      · rename_i z
        exact ⟨eq_of_beq z, (Option.some.inj e).symm⟩
      · cases e
    refine ⟨rfl, fun y c e => ?_, fun x y c e1 e2 => (one x c e1).1.trans (one y c e2).1.symm, fun i y e => ?_⟩
    · rw [(one y c e).2]
      exact ⟨hcb.2, _, _, hcb.1, rfl⟩
    · match i, e with
      | 0, e =>
        rw [← Option.some.inj e]
        exact ⟨cc, rfl, fun v hv => ⟨.ref C, by cases hv; exact rfl, _, hcb.1, rfl⟩⟩
  have I : Inv (ncx CX0 P w K mg base [self, word, "__class__"] ⟨name, qual, params, body, scope, [("__class__", cc)], cda⟩ f A outer s H E) [] (startF [self, word, "__class__"] [.ref a, v] [some (.ref C)]) H { s with heap := h₁, toks := s.toks + ([self, word].zip [Value.ref a, u1]).length } :=
    inv_startN (F := ⟨name, qual, params, body, scope, [("__class__", cc)], cda⟩) S hr.hd e0 rfl r C0 hns kp
  have KX1 : K.In h₁ := KX.keeps kp
  obtain ⟨p0, p1, p2, p3, p4, p5, p6, p7, p8, p9, p10, j, rfl, hline⟩ := hb2
  have hkc : scope.names.lookup ("__class__" : Str) = some .free := S.frk _ (List.mem_singleton.mpr rfl)
  have hself : scope.names.lookup self = some .local := S.par _ List.mem_cons_self
  have hword : scope.names.lookup word = some .local := S.par _ (List.mem_cons_of_mem _ List.mem_cons_self)
  obtain ⟨nm, q, N, bs, bm, sn, sub, ab, col, dd, k0, k1, k2, k3, k5, hC, hbm⟩ := X.T.cls
  have hcl : PySem.W.clsIn K C = some { name := nm, bases := bs, mro := .ref C :: bm, ns := N, qualname := q, hasDict := true, slotNames := sn, subclasses := sub, abstract := ab, collection := col, hasDel := false } := by unfold PySem.W.clsIn; rw [hC] <;> rfl
  obtain ⟨t1, hoa⟩ := exo_at I.hok ha
  obtain ⟨mb, b1, b2⟩ := I.mod.blt
  have boot : bootBuiltins "super" = some (.type "super") := by first | boot_by_name | rfl | kernel_rfl
  have hne : a ≠ C := fun z => by
    have := KX1 _ _ hC
    rw [← z, hoa] at this
    cases this
  refine ks_wpAt_execs_cons (ks_wpAt_Expr_any (ks_wpAt_MethodCall ?_ (eval_sup hline rfl)) I.quiet rfl)
  refine ks_wpAt_super_base (f := f) (cc := cda) hks hkc (by decide) rfl (KX1 _ _ lk) rfl hp rfl (KX1 _ _ lcd) rfl hvs X.file X.top ?_
  refine PySem.W.ks_loadName_global I.ok.kind hks (Calls.loadGlobal_builtin (I.mod.glob.keeps I.bk) X.sup (b1.keeps I.bk) ((b2 _ (by decide)).trans boot) ⟨rfl, ?_⟩)
  refine wpAny_loadName_free I.ok.kind hkc rfl ⟨_, kp _ _ hcb.1, rfl⟩ ?_
  rw [har]
  have ndp : [self, word].Nodup := (List.nodup_append.mp (show ([self, word] ++ [("__class__" : Str)]).Nodup from S.nd)).1
  refine wpAny_loadName_local I.ok.kind hself hns (zip_look (i := 0) ndp rfl rfl) ?_
  refine ks_wpAny_isType_cls (KX1 _ _ hC) rfl ⟨rfl, ?_⟩
  refine ks_wpAny_call_super (KX1 _ _ hC) rfl hoa rfl (fun c z => by cases z) (PySem.W.looks_mroIn KX1 X.sub) (fun h2 e2 kq => ?_)
  have I2 := I.kept (h' := h2) (t' := s.toks + ([self, word].zip [Value.ref a, u1]).length) kq
  have KX2 : K.In h2 := KX1.keeps kq
  have hoa2 := kq _ _ hoa
  have hal : PySem.W.alongIn K "__init__" (((Value.ref C :: bm).dropWhile (· != .ref C)).drop 1) = some (some (.builtin "ValueError.__init__")) := by
    have := X.ini
    unfold PySem.W.ks_superIn at this
    rw [hcl] at this
    exact this
  have IA : PySem.W.InstAt h2 a (PySem.W.excObj C t1 none .none) C none := ⟨hoa2, rfl, rfl, trivial⟩
  refine PySem.W.kxs_getMethod PySem.W.kxs_ValueError (l₀ := .ref C :: bm) e2 (PySem.W.looks_opaque KX2 X.opq) ?_ rfl KX2 hal (IA.type.andThen (PySem.W.looks_subIn KX2 X.ve)) hne (by decide) ?_
  · exact fun A Q E s k q => wpAny_bind ((PySem.W.looks_clsIn KX2 hcl) A _ E s k (wpAny_pure q))
  have kp3 : ∀ b o, h2.get? b = some o → (h2.push (PySem.W.kxs_mw "ValueError.__init__" a)).get? b = some o := fun b o e => Heap.get?_push_of_some _ e
  have I3 := I2.kept (h' := h2.push (PySem.W.kxs_mw "ValueError.__init__" a)) (t' := s.toks + ([self, word].zip [Value.ref a, u1]).length + 1) kp3
  have hu3 : (h2.push (PySem.W.kxs_mw "ValueError.__init__" a)).get? h2.objs.size = some (PySem.W.kxs_mw "ValueError.__init__" a) := Heap.get?_push_at rfl rfl
  have I4 := I3.pins_of (pins' := [(h2.objs.size, PySem.W.kxs_mw "ValueError.__init__" a)]) fun p hp => by
    rw [List.mem_singleton.mp hp]
    exact ⟨hu3, I2.hok.fresh (Nat.le_refl _), (Nat.ne_of_lt I2.lt).symm, I2.nofs (Nat.le_refl _), fun v z => by cases z⟩
  have pw : PE (ncx CX0 P w K mg base [self, word, "__class__"] ⟨name, qual, params, [.Expr (.Call (.Attribute (.Call (.Name "super" p0) [] [] p1) "__init__" p2) [.Constant (.str text) j p3, .Name word p4] [] p5) p6, .Assign [.Attribute (.Name self p7) fld p8] (.Name word p9) p10], scope, [("__class__", cc)], cda⟩ f A outer s H E) (.Name word p4) (tVar 1) := pe_var rfl (.inl hword) hd1 hc1
  have pa := pa_cons (pe_str (x := text) (j := j) (pos := p3)) (pa_cons pw pa_nil)
  refine PySem.W.kxs_callWith (i := "ValueError.__init__") (x := a) rfl (PySem.Calls.evalArgs_plain (thn (pa.run p5 _ _ _ _ (fun vs H1 => vs = [.str text, v] ∧ H1 = H) I4 ⟨v, rfl, rfl, rfl⟩) fun ws s5 h5 => ?_))
  obtain ⟨vs5, H5, I5, r5, rfl, rfl⟩ := h5
  have hu5 := (I5.pin _ (List.mem_append_right _ (List.mem_singleton.mpr rfl))).1
  have l5 : ws.length ≤ sizeLine := by
    have := Paired.length r5
    rw [← this]
    show 2 ≤ sizeLine
    decide
  refine ⟨hu5, ?_⟩
  refine call_mw X.T (I5.pins_of (pins' := []) fun p hp => absurd hp (by exact List.not_mem_nil)) ha hu5 l5 fun s6 I6 => ?_
  have pself : PE (ncx CX0 P w K mg base [self, word, "__class__"] ⟨name, qual, params, [.Expr (.Call (.Attribute (.Call (.Name "super" p0) [] [] p1) "__init__" p2) [.Constant (.str text) j p3, .Name word p4] [] p5) p6, .Assign [.Attribute (.Name self p7) fld p8] (.Name word p9) p10], scope, [("__class__", cc)], cda⟩ f A outer s H5 E) (.Name self p7) (tVar 0) := pe_var rfl (.inl hself) hd0 hc0
  have pword : PE (ncx CX0 P w K mg base [self, word, "__class__"] ⟨name, qual, params, [.Expr (.Call (.Attribute (.Call (.Name "super" p0) [] [] p1) "__init__" p2) [.Constant (.str text) j p3, .Name word p4] [] p5) p6, .Assign [.Attribute (.Name self p7) fld p8] (.Name word p9) p10], scope, [("__class__", cc)], cda⟩ f A outer s H5 E) (.Name word p9) (tVar 1) := pe_var rfl (.inl hword) hd1 hc1
  have st := pss_one (ps_ost (f := fld) (p' := p8) (pos := p10) pself pword)
  refine wpAt_of_wpAny (wpAny_mono (st.run [] s6 _ H5 { nx := fun _ H' => Q .non H', rt := Q } I6 ⟨v, rfl, .ref a, rfl, a, C, rfl, X.T, X.no, .inl ⟨ha, fun dx n ne => kk dx n ne⟩⟩) (fun fl s7 hs => ?_) fun e s' hs => hs)
  cases fl with
  | ret u =>
    obtain ⟨v7, σ7, H7, J, r7, q7⟩ := hs
    exact ⟨v7, H7, J.os, J.bare, J.base, J.hok, r7, q7⟩
  | next =>
    obtain ⟨σ7, H7, J, q7⟩ := hs
    exact ⟨.non, H7, J.os, J.bare, J.base, J.hok, rfl, q7⟩
  | brk =>
    obtain ⟨_, _, _, q7⟩ := hs
    exact False.elim q7
  | cont =>
    obtain ⟨_, _, _, q7⟩ := hs
    exact False.elim q7
end ExS

set_option maxRecDepth 100000
set_option maxHeartbeats 4000000
namespace ExS
open PySem PySem.Spec PyProof.Rows L2
/-- an own error's class under its name -/
structure XMk (P : Program) (w : World) (K : PySem.W.Frag) (mg : Str → Option Value) (base : Heap) (k : Nat) (x : Str) (C : Addr) (fld : Str) : Prop where
  ex : ∃ (fI : Addr) (fd : FuncData) (ps : List Str), OexC K C ∧ PySem.W.findIn K (.ref C) "__init__" = some (some (.ref fI)) ∧ PySem.W.typeIn K (.ref fI) = some (.type "function") ∧ FnOk P w K mg base L2.CX0 k fI fd ps (spXI C fld) ∧ Binds K fd ps [] ∧ mg x = some (.ref C)
section
variable {X : Cx} {x fld : Str} {C : Addr} {k j : Nat} {p pos : Pos} {e : Expr} {es : List Expr} {ta : TA}
theorem pmk_x (c : XMk X.prog X.w X.K X.mg X.base k x C fld) (hr : Room j X.A) (hk : k + 1 ≤ j) (hg : Gl X x) (ha : PA X (e :: es) ta)
    (hdb : (x == ("__debug__" : Str)) = false := by decide) (he : starEach (e :: es) X.env = (false, eval e X.env) :: starEach es X.env := by rfl) (hpl : (backTo pos (starEach es X.env)).any (·.1) = false := by rfl) :
    PMk X (.Call (.Name x p) (e :: es) [] pos) (tMkO C (spXI C fld) [] ta) := by
  obtain ⟨fI, fd, ps, T, iC, tI, F, b, hm⟩ := c.ex
  exact pmk_oex T iC tI F (hr.mono hk) b .nil L2.pass0 hg hm ha hdb he hpl
end
theorem exo_exd {a C d : Addr} {o : Option Addr} {fs : List (Str × V)} {H : Hp} (h1 : H a = some (exo a C o)) (h2 : H d = none) : d ≠ a := fun z => by
  rw [z, h1] at h2
  cases h2
/-- what the making of such an error asks -/
theorem rd_x {C : Addr} {fld : Str} {H1 : Hp} {v : V} {Q : XK} (k : ∀ d H', Same H1 H' → H1 d = none → H' d = some (.xd [(fld, v)]) → Q (.ref C) (some d) H') :
    [v].length ≤ 1000 ∧ ∀ a, H1 a = none → spXI C fld (.ref a :: ([v] ++ [])) (upd H1 a (exo a C none)) (fun w H2 => w = .non ∧ ∃ (d : Addr) (fs : List (Str × V)), H2 a = some (exo a C (some d)) ∧ H2 d = some (exd d fs) ∧ H1 d = none ∧ Q (.ref C) (some d) (upd (del H2 a) d (.xd fs))) (fun _ _ _ => False) := by
  refine ⟨by show 1 ≤ 1000; decide, fun a na => ⟨a, v, rfl, upd_same, fun dx nd ne => ⟨rfl, dx, [(fld, v)], upd_same, by rw [upd_ne ne, upd_same], ?_, ?_⟩⟩⟩
  · rw [upd_ne ne] at nd
    exact nd
  · rw [upd_ne ne] at nd
    refine k dx _ (fun b o e => ?_) nd upd_same
    have b1 : b ≠ a := ne_of_none e na
    have b2 : b ≠ dx := ne_of_none e nd
    rw [upd_ne b2, del_ne b1, upd_ne b1, upd_ne b2, upd_ne b1]
    exact e
theorem takes0 {X : Cx} : L2.Takes X (fun _ _ _ _ => False) := fun _ _ ⟨_, _, _, _, _, _, _, _, _, _, _, _, _, _, _, _, w⟩ => w.elim
/-- a class whose __init__ may raise -/
structure MakX (P : Program) (w : World) (K : PySem.W.Frag) (mg : Str → Option Value) (base : Heap) (k : Nat) (x : Str) (C : Addr) (sp : Sp) (dvs : List V) : Prop where
  ex : ∃ (f : Addr) (fd : FuncData) (ps : List Str) (ds : List Value), Mk K C f ∧ FnOk P w K mg base (L2.CX P w) k f fd ps sp ∧ mg x = some (.ref C) ∧ Binds K fd ps ds ∧ Vals dvs ds
def tMakeS (C : Addr) (sp : Sp) (dvs : List V) (E : L2.St → XK) (t : TA) : TE := fun σ H Q => t σ H fun vs H1 => ∀ x dx, H1 x = none → H1 dx = none → dx ≠ x →
  sp (.ref x :: (vs ++ dvs)) (upd (upd H1 dx (.own x)) x (.ins C dx [])) (fun v H2 => v = .non ∧ Q (.ref x) H2) (E σ)
section
variable {X : Cx} {x : Str} {C : Addr} {k j : Nat} {p pos : Pos} {e : Expr} {es : List Expr} {t : TA} {sp : Sp} {dvs : List V} {W : WX}
theorem pe_mkT (c : MakX X.prog X.w X.K X.mg X.base k x C sp dvs) (hr : Room j X.A) (hk : k + 1 ≤ j) (tk : Takes X W) (hg : Gl X x) (ha : PA X (e :: es) t)
    (hdb : (x == ("__debug__" : Str)) = false := by decide) (he : starEach (e :: es) X.env = (false, eval e X.env) :: starEach es X.env := by rfl) (hpl : (backTo pos (starEach es X.env)).any (·.1) = false := by rfl) :
    PE X (.Call (.Name x p) (e :: es) [] pos) (tMakeS C sp dvs (WE W) t) := by
  obtain ⟨f, fd, ps, ds, M, F, hm, b, d⟩ := c.ex
  refine ⟨fun pins s σ H Q I h => wpAny_Call_Name_kw (ld_glob I hg hm ?_ hdb)⟩
  refine PySem.W.callWith_K (h₀ := X.base) I.ok.mod.kin M.kp (thn (ha.run pos pins s σ H _ I h) fun us s1 ⟨vs, H1, I1, r, q⟩ => ⟨I1.kIn, ?_⟩) he hpl
  have q1 := q (s1.heap.objs.size + 1) s1.heap.objs.size (I1.hok.fresh (Nat.le_succ _)) (I1.hok.fresh (Nat.le_refl _)) (Nat.ne_of_lt (Nat.lt_succ_self _))
  have J := Inv.made (C := C) I1
  have rr : Vals (V.ref (s1.heap.objs.size + 1) :: (vs ++ dvs)) (Value.ref (s1.heap.objs.size + 1) :: (us ++ ds)) := .cons rfl (r.append d)
  have len : (Value.ref (s1.heap.objs.size + 1) :: us ++ ds).length = ps.length := (rr.length).symm.trans (F.len _ _ _ _ q1)
  have go := F.run (X.A.under (.builtin "type.__call__" ⟨.ref C :: us, []⟩)) X.stack _ _ ⟨Value.ref (s1.heap.objs.size + 1) :: us, []⟩ _ _ _ _ ((hr.mono hk).make C us []) (J.env0.make C us []) (b _ (Value.ref (s1.heap.objs.size + 1) :: us) J.kIn len) rr q1
  refine wpAny_call (make_map (f := f) I1.kIn M.makes M.init (beq_iff_eq.mp M.fn) (codeAny_mono go fun res s2 hres => ?_))
  match res, hres with
  | .error er, hres => exact passAt tk σ pins _ _ er s2 J hres
  | .ok (.ret u), hres =>
    obtain ⟨v, H2, J2, rv, ev, q2⟩ := J.after hres
    subst ev
    exact ⟨rv, V.ref (s1.heap.objs.size + 1), H2, J2, rfl, q2⟩
  | .ok .next, hres => exact False.elim hres
  | .ok .brk, hres => exact False.elim hres
  | .ok .cont, hres => exact False.elim hres
end
section
variable {P : Program} {w : World} {K : PySem.W.Frag} {mg : Str → Option Value} {base : Heap}
/-- a def that may raise, by its body -/
theorem fnR {x qual : Str} {st : Stmt} {f : Addr} {fd : FuncData} {N ps : List Str} {k : Nat} {sp : Sp} (F : C8.Fun K x qual st f fd) (S : FnScope N ps (C8.fnScope st)) (len : ∀ vs H Q E, sp vs H Q E → vs.length = ps.length)
    (hbody : ∀ (cdv : Value) (A : Around) (outer : List Env) (s : Shared) (H : Hp) (vs : List V) (Q : VK) (E : XK), Room k (A.deeper (envOfC qual (C8.fnScope st) s.heap.objs.size f cdv)) → sp vs H Q E →
      ∃ t, PSs (cxOf (L2.CX P w) P w K mg base N qual (C8.fnScope st) f cdv A outer s H E) (C8.fnBody st) t ∧ t { nx := fun _ H' => Q .non H', rt := Q } (start N vs) H) : FnOk P w K mg base (L2.CX P w) (k + 1) f fd ps sp := by
  obtain ⟨oc, od, dV, kV, doc, pm, an, cdv, ct, osl, rfl, lk, hcd⟩ := F.ex
  exact fn_of lk hcd S len fun A outer s H vs Q E hr hsp => hbody cdv A outer s H vs Q E hr hsp
end
end ExS

set_option maxRecDepth 100000
set_option maxHeartbeats 4000000
/-! isinstance of a caught error that has a field -/
namespace PySem.W
open PySem PySem.Spec PySem.Calls PyProof.Rows
section
variable {prog : Program} {w : World} {A : Around} {E : Value → Shared → Prop} {s : Shared} {K : Frag} {x D : Addr} {ox : Obj} {od : Option Obj}
theorem findObj_dataD {C : Addr} {name : Str} {a g : Value} (hc : (clsIn K C).isSome = true) (ha : findIn K (.ref C) name = some (some a)) (hg : specialIn K a "__get__" = some (some g)) (ht : takesIn K a = some true) : findObj K C od name = some (.bind g a) := by
  obtain ⟨cd, hc⟩ := Option.isSome_iff_exists.mp hc
  unfold findObj
  rw [hc, Option.bind_some, ha, Option.bind_some]
  simp [hg, ht]
theorem class_of_err {Q : Option Value → Shared → Prop} (T : L2.ExcC K D) (X : K.In s.heap) (I : InstAt s.heap x ox D od) (h : Q (some (.ref D)) { s with toks := s.toks + 1 }) : wpAny (model prog w) A (getAttr? (.ref x) "__class__") Q E s := by
  have hf : findObj K D od "__class__" = some (.bind (.builtin "getset_descriptor.__get__") (.builtin "object.__class__")) := findObj_dataD (by obtain ⟨cd, hc, _⟩ := any_some T.hd; rw [hc]; rfl) T.ha T.hn T.ht
  obtain ⟨hp, g, d, t, os⟩ := s
  have L0 := I.type (M := model prog w)
  have L1 := looks_findIn (M := model prog w) X T.hg
  have L2 := looks_findIn (M := model prog w) X T.hk
  have L3 := looks_find (M := model prog w) X I hf
  have sub : Looks (model prog w) hp (isInstance (.ref x) (.type "BaseException")) true := L0.andThen (looks_subIn X T.hs)
  have n2 : (Value.builtin "BaseException.__getattribute__" == Value.builtin "object.__getattribute__") = false := by decide +kernel
  have n1 : (onTheHeap (Value.ref D) && Value.builtin "BaseException.__getattribute__" == Value.builtin "object.__getattribute__") = false := by rw [n2]; rfl
  have n0 : (false && onTheHeap (Value.builtin "BaseException.__getattribute__")) = false := rfl
  unfold getAttr? getAttrBy? getAttrBy
  refine wpAny_bind (wpAny_mkText (wpAny_bind (wpAny_attempt (wpAny_holding (wpAny_bind (L0.at (wpAny_bind (L1.at ?_))))))))
  show wpAny _ _ (if (onTheHeap (Value.ref D) && Value.builtin "BaseException.__getattribute__" == Value.builtin "object.__getattribute__") = true then _ else _) _ _ _
  rw [n1, if_neg Bool.false_ne_true]
  unfold getAttrByItsOwn hookBefore
  refine wpAny_bind ?_
  rw [if_pos (show onTheHeap (Value.ref D) = true from rfl)]
  refine L2.at ?_
  refine wpAny_bind (wpAny_attempt (wpAny_holding ?_))
  unfold callGetattribute
  rw [n0, if_neg Bool.false_ne_true]
  unfold boundAndCalled
  rw [PySem.F.excAttr_ValueError.ga.bind (.ref x)]
  refine wpAny_bind (wpAny_pure ?_)
  show wpAny _ _ (call (.builtin "BaseException.__getattribute__") [.ref x, .str "__class__" t]) _ _ _
  refine wpAny_call (codeAny_call_builtin PySem.F.excAttr_ValueError.ga.plain PySem.F.entry_bexc_ga ?_)
  refine @check_slot (model prog w) _ _ ⟨hp, g, d, t + 1, os⟩ "BaseException.__getattribute__" "BaseException" "__getattribute__" (.ref x) [.str "__class__" t] [] _ (by decide +kernel) (by decide +kernel) sub (PySem.F.args_bexc_ga (.ref x) (.str "__class__" t)) ?_
  unfold Builtin.«object.__getattribute__»
  refine wpAny_bind (wpAny_of_eq (a := ((Value.ref x : Value), [Value.str "__class__" t])) (by first | rfl | (simp only [slotArgs]; rfl)) ?_)
  refine wpAny_bind (wpAny_pure (wpAny_bind (L0.at (wpAny_bind (L3.at ?_)))))
  show wpAny _ _ (holding [Value.builtin "object.__class__"] (call (.builtin "getset_descriptor.__get__") [.builtin "object.__class__", .ref x, .ref D]) >>= ret) _ _ _
  refine wpAny_bind (wpAny_holding (wpAny_call (class_get (s := ⟨hp, g, d, t + 1, os⟩) (ox := ox) (od := od) X I T.hm ?_)))
  refine wpAny_pure ?_
  show wpAny _ _ (handedOut (.ref D)) _ _ _
  rw [handedOut_of (v := .ref D) rfl]
  first
    | exact wpAny_pure (wpAny_pure h)
    | exact wpAny_pure h
    | exact wpAny_pure (wpAny_bind (wpAny_pure (wpAny_pure h)))
theorem kitx_err (T : L2.ExcC K D) : KitX K (.ref x) (.ref D) (fun h => InstAt h x ox D od) where
  ty := fun _ _ _ I => I.type
  it := fun _ _ X _ => by
    obtain ⟨cdD, hcD, _⟩ := any_some T.hd
    unfold clsIn at hcD
    split at hcD
    · rename_i c' d' cd' sl' ho
      intro A' Q' E' s' k q
      unfold isType loadHead
      exact wpAny_bind (wpAny_loadPart (k _ _ (X _ _ ho)) (wpAny_pure q))
    · cases hcD
  ne := fun h tp dd its n sl X htp => by
    obtain ⟨cdD, hcD, _⟩ := any_some T.hd
    refine Bool.eq_false_iff.mpr fun q => ?_
    have e : D = tp := Value.ref.inj (beq_iff_eq.mp q)
    subst e
    unfold clsIn at hcD
    split at hcD
    · rename_i c' d' cd' sl' ho
      have z := (X _ _ ho).symm.trans htp
      cases z
    · cases hcD
  ca := fun X I k => class_of_err T X I k
end
end PySem.W
namespace ExS
open PySem PySem.Spec PyProof.Rows L2
/-- isinstance(e, c), e the error that the suite holds, with its field -/
def rIsD (K : PySem.W.Frag) (a : Addr) (cls : Value) (d : Option Addr) : List V → Hp → VK → Prop := fun xs H Q => ∃ (D dd : Addr) (fs : List (Str × V)) (c : V) (cv : Value) (b : Bool), xs = [.ref a, c] ∧ cls = .ref D ∧ d = some dd ∧ H dd = some (.xd fs) ∧ ExcC K D ∧ ClsV c cv ∧ PySem.W.kitOne K (.ref D) cv = some b ∧ Q (.bl b) H
theorem call_isD {X : Cx} {a : Addr} {cls : Value} {d : Option Addr} {oe : Obj} {pn : List (Addr × Obj)} (hz : Zc cls d oe) (hf : ∃ vs, oe.data = .fields vs) : CallR (X.suite a ((a, oe) :: pn)) (.builtin "isinstance") (rIsD X.K a cls d) := by
  intro pins s σ H xs us Q I r h
  obtain ⟨D, dd, fs, c, cv, b, rfl, rfl, rfl, ea, T, hcv, e, q⟩ := h
  obtain ⟨u1, u2, rfl, rx, rt⟩ := vals2 r
  have ec := hcv.eq rt
  subst ec
  obtain rfl : u1 = Value.ref a := rx
  obtain ⟨ha, _⟩ := I.pin (a, oe) (List.mem_append.mpr (.inl List.mem_cons_self))
  obtain ⟨vs, hd⟩ := hf
  have hx : ObjOk X.prog X.w H s.heap dd (.xd fs) := I.hok dd _ ea
  obtain ⟨mA, hns, hr⟩ := hx
  obtain ⟨od, ho, hl⟩ := lookIn_ns hns
  have J : PySem.W.InstAt s.heap a oe D (some od) := ⟨ha, hz.1, by unfold PySem.W.notCls; rw [hd] <;> rfl, by rw [hz.2]; exact ho⟩
  exact PySem.W.kia_one (PySem.W.kitx_err T) I.kIn J e (fun z => nomatch z) fun tk => ⟨.bl b, H, I.kept (t' := tk) fun _ _ z => z, rfl, q⟩
end ExS

set_option maxRecDepth 100000
set_option maxHeartbeats 4000000
namespace U
open PySem PySem.Spec PyProof.Rows
open L2 hiding Fun CX0 E0 pass0 Fun.binds
open C8 Lx SX
/-! words of bits as texts -/
def bt (b : Bool) : Nat := if b then 49 else 48
def W (l : List Bool) : Str := S (l.map bt)
theorem bt_inj : ∀ {a b : Bool}, bt a = bt b → a = b := by decide
theorem map_bt_inj : ∀ {a b : List Bool}, a.map bt = b.map bt → a = b
  | [], [], _ => rfl
  | [], _ :: _, h => by simp at h
  | _ :: _, [], h => by simp at h
  | x :: l, y :: m, h => by
    rw [List.map_cons, List.map_cons] at h
    injection h with h1 h2
    rw [bt_inj h1, map_bt_inj h2]
theorem W_inj {a b : List Bool} (h : W a = W b) : a = b := map_bt_inj (S_inj h)
theorem W_eq {a b : List Bool} : (W a = W b) ↔ a = b := ⟨W_inj, fun h => by rw [h]⟩
theorem W_len (a : List Bool) : (W a).length = a.length := by unfold W; rw [S_len, List.length_map]
theorem W_size (a : List Bool) : (W a).cps.size = a.length := by unfold W; simp
theorem W_cat (a b : List Bool) : W a ++ W b = W (a ++ b) := by unfold W; rw [S_cat, List.map_append]
theorem W_nil : ("" : Str) = W [] := by decide +kernel
theorem W_0 : ("0" : Str) = W [false] := by decide +kernel
theorem W_1 : ("1" : Str) = W [true] := by decide +kernel
theorem W_get {a : List Bool} {i : Nat} {c : Nat} (h : (W a).cps[i]? = some c) : ∃ b, a[i]? = some b ∧ c = bt b := by
  unfold W S at h
  rw [List.getElem?_toArray, List.getElem?_map] at h
  cases e : a[i]? with
  | none => rw [e] at h; cases h
  | some b => rw [e] at h; exact ⟨b, rfl, (Option.some.inj h).symm⟩
theorem W_bit (b : Bool) : (⟨#[bt b]⟩ : Str) = W [b] := rfl
theorem W_tl (a : List Bool) : (W a).cps.toList = a.map bt := rfl
theorem joinL_nil : ∀ ys : List (List Nat), TL.joinL [] ys = ys.flatten
  | [] => rfl
  | [p] => by simp [TL.joinL]
  | p :: q :: r => by
    show p ++ ([] ++ TL.joinL [] (q :: r)) = _
    rw [List.nil_append, joinL_nil (q :: r)]
    rfl
theorem join_W (ls : List (List Bool)) : Txt.join "" (ls.map W) = W ls.flatten := by
  have e : (ls.map W) = (ls.map (·.map bt)).map S := by rw [List.map_map]; rfl
  have e2 : ("" : Str) = S [] := by decide +kernel
  rw [e, e2, join_S, joinL_nil]
  unfold W
  rw [List.map_flatten]
theorem join_bits (l : List Bool) : Txt.join "" (l.map fun b => W [b]) = W l := by
  have e : (l.map fun b => W [b]) = (l.map fun b => [b]).map W := by rw [List.map_map]; rfl
  rw [e, join_W]
  congr 1
  induction l with
  | nil => rfl
  | cons b r ih => simp [ih]
theorem sum_lens : ∀ ls : List (List Bool), ((ls.map W).map (·.length)).sum = (ls.map (·.length)).sum
  | [] => rfl
  | l :: r => by
    rw [List.map_cons, List.map_cons, List.map_cons, List.sum_cons, List.sum_cons, W_len, sum_lens r]
theorem sl_len {n : Nat} (h : n ≤ 100000) : n ≤ sizeLine := Nat.le_trans h (by decide)
theorem sl_lt {n : Nat} (h : n < 100000) : n < sizeLine := Nat.lt_of_lt_of_le h (by decide)
def bitsV (l : List Bool) : List V := (l.map fun b => W [b]).map V.str
theorem lens_bits (l : List Bool) : ((l.map fun b => W [b]).map (·.length)).sum = l.length := by
  induction l with
  | nil => rfl
  | cons b r ih => rw [List.map_cons, List.map_cons, List.sum_cons, ih, W_len, List.length_cons]; simp only [List.length_cons, List.length_nil]; omega
theorem bitsV_len (l : List Bool) : (bitsV l).length = l.length := by unfold bitsV; rw [List.length_map, List.length_map]
theorem bitsV_snoc (l : List Bool) (b : Bool) : bitsV l ++ [V.str (W [b])] = bitsV (l ++ [b]) := by unfold bitsV; simp
theorem mem2 {v : V} (h : v ∈ ([.str "0", .str "1"] : List V)) : ∃ b : Bool, v = .str (W [b]) := by
  rcases List.mem_cons.mp h with rfl | h
  · exact ⟨false, by rw [W_0]⟩
  · rcases List.mem_cons.mp h with rfl | h
    · exact ⟨true, by rw [W_1]⟩
    · cases h
theorem empty_len : ("" : Str).length = 0 := by decide +kernel
/-! tests whose answer is known -/
theorem q_dec {c : Prop} [Decidable c] {Q : VK} {H : Hp} (hc : c) (h : Q (.bl true) H) : Q (.bl (decide c)) H := by rw [decide_eq_true hc]; exact h
theorem q_ndec {c : Prop} [Decidable c] {Q : VK} {H : Hp} (hc : ¬ c) (h : Q (.bl false) H) : Q (.bl (decide c)) H := by rw [decide_eq_false hc]; exact h
theorem iteDT {c A B : Prop} [Decidable c] (hc : c) (h : A) : if decide c = true then A else B := by rw [decide_eq_true hc]; exact iteT h
theorem iteDF {c A B : Prop} [Decidable c] (hc : ¬ c) (h : B) : if decide c = true then A else B := by rw [decide_eq_false hc]; exact iteF h
theorem iteNT {c A B : Prop} [Decidable c] (hc : ¬ c) (h : A) : if (!decide c) = true then A else B := by rw [decide_eq_false hc]; exact iteT h
theorem iteBT {b : Bool} {A B : Prop} (hc : b = true) (h : A) : if b = true then A else B := by rw [hc]; exact iteT h
theorem iteBF {b : Bool} {A B : Prop} (hc : b = false) (h : B) : if b = true then A else B := by rw [hc]; exact iteF h
def oW : Option (List Bool) → V
  | none => .non
  | some x => .str (W x)
/-! slices -/
theorem W_drop {a : List Bool} {i : Int} (h : 0 ≤ i) : Txt.slice (W a) (some i) none = W (a.drop i.toNat) := by
  unfold W; rw [slice_from h, List.map_drop]
theorem W_take {a : List Bool} {i : Int} (h : 0 ≤ i) : Txt.slice (W a) none (some i) = W (a.take i.toNat) := by
  unfold W; rw [slice_to h, List.map_take]
theorem repl_succ (l : List Bool) (n : Nat) : (List.replicate (n + 1) l).flatten = l ++ (List.replicate n l).flatten := by rw [List.replicate_succ]; rfl
theorem foldl_app : ∀ (n : Nat) (a b : Array Nat), ((List.replicate n a).foldl (· ++ ·) b).toList = b.toList ++ (List.replicate n a.toList).flatten
  | 0, a, b => by simp
  | n + 1, a, b => by
    rw [List.replicate_succ, List.foldl_cons, foldl_app n a (b ++ a), List.replicate_succ, List.flatten_cons, Array.toList_append, List.append_assoc]
theorem mul_W {l : List Bool} {n : Nat} (h : 1 ≤ n) : Txt.mul (W l) (n : Int) = W (List.replicate n l).flatten := by
  refine TL.ext_tl ?_
  unfold Txt.mul
  rw [if_neg (by omega)]
  by_cases c : (((n : Int) == 1) || (W l).length == 0) = true
  · rw [if_pos c]
    simp only [Bool.or_eq_true, beq_iff_eq] at c
    rcases c with c | c
    · have : n = 1 := by omega
      subst this
      simp
    · rw [W_len] at c
      have : l = [] := List.length_eq_zero_iff.mp c
      subst this
      rw [show (List.replicate n ([] : List Bool)).flatten = [] by simp]
  · rw [if_neg c]
    show ((List.replicate (n : Int).toNat (W l).cps).foldl (· ++ ·) #[]).toList = _
    rw [foldl_app, Int.toNat_natCast]
    show [] ++ (List.replicate n (l.map bt)).flatten = ((List.replicate n l).flatten).map bt
    rw [List.map_flatten, List.map_replicate, List.nil_append]
end U

set_option maxRecDepth 100000
set_option maxHeartbeats 4000000
namespace U
open PySem PySem.Spec PyProof.Rows L2
def top (i : Nat) : Stmt := PySem.Challenge.pw_unseenflips_k13_checks_refused.main.body.getD i (.Pass ⟨0, 0, 0, 0⟩)
abbrev s_wall : Stmt := top 0
abbrev s_InvalidRule_init : Stmt := inClass (top 3) 0
abbrev s_InvalidCheck_init : Stmt := inClass (top 4) 0
abbrev s_InvalidText_init : Stmt := inClass (top 5) 0
abbrev s_is_word : Stmt := top 8
abbrev s_Check_init : Stmt := inClass (top 11) 0
abbrev s_Check_read : Stmt := inClass (top 11) 1
abbrev s_Check_degree : Stmt := inClass (top 11) 2
abbrev s_Check_rest : Stmt := inClass (top 11) 3
abbrev s_Check_step : Stmt := inClass (top 11) 4
abbrev s_Check_bits_for : Stmt := inClass (top 11) 5
abbrev s_Check_is_good : Stmt := inClass (top 11) 6
abbrev s_Check_eq : Stmt := inClass (top 11) 7
abbrev s_Check_str : Stmt := inClass (top 11) 8
abbrev s_Check_iter : Stmt := inClass (top 11) 9
abbrev s_l_seed : Stmt := top 13
abbrev s_l_choose : Stmt := top 14
abbrev s_l_one_of : Stmt := top 15
abbrev s_l_word : Stmt := top 16
abbrev s_l_check : Stmt := top 17
abbrev s_l_leaf : Stmt := top 18
abbrev s_l_any : Stmt := top 19
abbrev s_l_is_row : Stmt := top 20
abbrev s_l_heard : Stmt := top 21
abbrev s_l_named : Stmt := top 22
abbrev s_law : Stmt := top 23
structure Tx (mg : Str → Option Value) : Prop where
  b_len : mg "len" = none
  b_abs : mg "abs" = none
  b_int : mg "int" = none
  b_range : mg "range" = none
  b_max : mg "max" = none
  b_min : mg "min" = none
  b_enumerate : mg "enumerate" = none
  b_zip : mg "zip" = none
  b_dict : mg "dict" = none
  b_list : mg "list" = none
  b_tuple : mg "tuple" = none
  b_isinstance : mg "isinstance" = none
  b_bool : mg "bool" = none
  b_str : mg "str" = none
  b_all : mg "all" = none
  b_any : mg "any" = none
  b_sum : mg "sum" = none
  b_sorted : mg "sorted" = none
  b_repr : mg "repr" = none
end U

set_option maxRecDepth 100000
set_option maxHeartbeats 4000000
namespace U
open PySem PySem.Spec PyProof.Rows
open L2 hiding Fun CX0 E0 pass0 Fun.binds
open C8 Lx
local macro_rules | `(tactic| walk_at "g") => `(tactic| repeat (first | (refine ⟨_, rfl, ?_⟩) | (refine ⟨_, _, rfl, rfl, ?_⟩) | (refine ⟨rfl, ?_⟩) | (refine .inl ⟨_, rfl, ?_⟩)))
/-- the box: a list of two ints -/
def Box (H : Hp) (b : Addr) : Prop := ∃ x y : Int, H b = some (.lst [.int x, .int y])
/-- all but the box at b stands as it stood; the box is a box -/
def Up (b : Addr) (H H' : Hp) : Prop := (∀ c o, H c = some o → c ≠ b → H' c = some o) ∧ Box H' b
theorem Box.same {b : Addr} {H H' : Hp} (h : Box H b) (y : Same H H') : Box H' b := by obtain ⟨i, j, e⟩ := h; exact ⟨i, j, y _ _ e⟩
theorem Up.refl {b : Addr} {H : Hp} (h : Box H b) : Up b H H := ⟨fun _ _ e _ => e, h⟩
theorem Up.trans {b : Addr} {H H1 H2 : Hp} (x : Up b H H1) (y : Up b H1 H2) : Up b H H2 := ⟨fun c o e n => y.1 c o (x.1 c o e n) n, y.2⟩
theorem Up.same {b : Addr} {H H1 H2 : Hp} (x : Up b H H1) (y : Same H1 H2) : Up b H H2 := ⟨fun c o e n => y c o (x.1 c o e n), x.2.same y⟩
theorem Up.of_same {b : Addr} {H H2 : Hp} (h : Box H b) (y : Same H H2) : Up b H H2 := (Up.refl h).same y
theorem same_upd {H : Hp} {p : Addr} {o : HO} (h : H p = none) : Same H (upd H p o) := fun b x e => by
  rw [upd_ne (ne_of_none e h)]
  exact e
theorem same_mut' {H H1 : Hp} {p : Addr} {o : HO} (s : Same H H1) (n : H p = none) : Same H (upd H1 p o) := fun c u e => by
  rw [upd_ne (ne_of_none e n)]
  exact s _ _ e
theorem Box.ne {H : Hp} {b p : Addr} (h : Box H b) (n : H p = none) : p ≠ b := by
  obtain ⟨i, j, e⟩ := h
  intro z
  rw [z, e] at n
  cases n
/-- a thing that is no list of two ints is not the box -/
theorem Box.neT {H : Hp} {b p : Addr} {xs : List V} (h : Box H b) (n : H p = some (.tup xs)) : p ≠ b := by
  obtain ⟨i, j, e⟩ := h
  intro z
  rw [z, e] at n
  cases n
/-- an object that H doesn't know, changed -/
theorem Up.mut {b : Addr} {H H1 : Hp} {p : Addr} {o : HO} (x : Up b H H1) (h : H p = none) (n : p ≠ b) : Up b H (upd H1 p o) :=
  ⟨fun c u e nc => by rw [upd_ne (ne_of_none e h)]; exact x.1 c u e nc, by obtain ⟨i, j, e⟩ := x.2; exact ⟨i, j, by rw [upd_ne (Ne.symm n)]; exact e⟩⟩
theorem Up.free {b : Addr} {H H1 : Hp} {p : Addr} (x : Up b H H1) (h : H1 p = none) : H p = none := by
  cases e : H p with
  | none => rfl
  | some o =>
    by_cases n : p = b
    · obtain ⟨i, j, e2⟩ := x.2
      rw [n, e2] at h
      cases h
    · rw [x.1 p o e n] at h
      cases h
/-- what is no list stands as it stood -/
def NL (H H' : Hp) : Prop := ∀ c o, H c = some o → (∀ xs, o ≠ .lst xs) → H' c = some o
theorem NL.refl (H : Hp) : NL H H := fun _ _ e _ => e
theorem NL.trans {H H1 H2 : Hp} (a : NL H H1) (b : NL H1 H2) : NL H H2 := fun c o e n => b c o (a c o e n) n
theorem NL.of {H H' : Hp} (s : Same H H') : NL H H' := fun c o e _ => s c o e
theorem Up.nl {b : Addr} {H H' : Hp} (hb : Box H b) (u : Up b H H') : NL H H' := fun c o e n => u.1 c o e fun z => by
  obtain ⟨i, j, hb⟩ := hb
  rw [z, hb] at e
  exact n _ (Option.some.inj e).symm
theorem nl_upd {H : Hp} {q : Addr} {xs : List V} {o : HO} (h : H q = some (.lst xs)) : NL H (upd H q o) := fun c u e n => by
  have nq : c ≠ q := fun z => by
    rw [z, h] at e
    exact n _ (Option.some.inj e).symm
  rw [upd_ne nq]
  exact e
theorem NL.tup {H H' : Hp} {a : Addr} {xs : List V} (n : NL H H') (h : H a = some (.tup xs)) : H' a = some (.tup xs) := n _ _ h fun _ z => by cases z
theorem NL.ins {H H' : Hp} {a C dx : Addr} {fs : List (Str × V)} (n : NL H H') (h : H a = some (.ins C dx fs)) : H' a = some (.ins C dx fs) := n _ _ h fun _ z => by cases z
def spSeed (K : PySem.W.Frag) : Sp := fun vs H Q _ => ∃ (a : Addr) (ns : List Int) (k : Nat), vs = [.ref a, .int k] ∧ SqL K H a (ns.map V.int) ∧
  ∀ p H', H p = none → Same H H' → Box H' p → Q (.ref p) H'
def spChoose : Sp := fun vs H Q _ => ∃ (b : Addr) (m : Int), vs = [.ref b, .int m] ∧ Box H b ∧ 0 < m ∧ m < 1073741824 ∧
  ∀ (d : Int) H', 0 ≤ d → d < m → Up b H H' → Q (.int d) H'
def spOneOf : Sp := fun vs H Q _ => ∃ (b l : Addr) (xs : List V), vs = [.ref b, .ref l] ∧ Box H b ∧ H l = some (.lst xs) ∧ l ≠ b ∧ 0 < xs.length ∧ xs.length < 1000 ∧
  ∀ (v : V) H', v ∈ xs → Up b H H' → Q v H'
theorem cell_at {ns : List Int} {k : Int} (h0 : 0 ≤ k) (h1 : k < ns.length) : ∃ z, atI (ns.map V.int) k = some (V.int z) := by
  obtain ⟨j, rfl⟩ := Int.eq_ofNat_of_zero_le h0
  have h2 : j < ns.length := by omega
  exact ⟨ns[j], atI_nat (by simp [h2])⟩
section
variable {P : Program} {w : World} {K : PySem.W.Frag} {mg : Str → Option Value} {base : Heap}
theorem sc_l_choose : FnScope ["_law_box", "_law_many", "_law_digit", "_law_raw"] ["_law_box", "_law_many"] (fnScope s_l_choose) := fnScope_by (by decide +kernel)
theorem cal_l_choose {f : Addr} {fd : FuncData} (F : Def K mg "_law_choose" s_l_choose f fd) (b : Binds K fd ["_law_box", "_law_many"] []) (T : Tx mg) : Cal P w K mg base 1 "_law_choose" spChoose [] := by
  refine cal0 F b .nil sc_l_choose (fun vs H Q E h => ?_) (fun cdv A outer s H vs Q E hr h => ?_)
  · obtain ⟨_, _, rfl, _⟩ := h; rfl
  · obtain ⟨bx, m, rfl, ⟨x, y, hb⟩, m0, m1, k⟩ := h
    refine ⟨_, (pss_cons (ps_if (pt_cmpR op_gt (pe_ix ix_list (pv 0) pe_int (fun _ _ => rfl)) pe_int (nomark _)) (pss_cons (ps_set (i := 2) sc_l_choose.nd rfl (.inl rfl) (pe_op op_mod (pe_callTy call_int1 (by rfl) T.b_int (by decide +kernel) (pa_cons (pe_ix ix_list (pv 0) pe_int (fun _ _ => rfl)) pa_nil)) (pv 1)))
    (pss_cons (ps_asg (pe_op op_fdiv (pe_ix ix_list (pv 0) pe_int (fun _ _ => rfl)) (pv 1)) (pg_sub (pv 0) pe_int set_list))
    (pss_one (ps_ret (pv 2))))) pss_nil)
    (pss_cons (ps_set (i := 3) sc_l_choose.nd rfl (.inl rfl) (pe_op op_mod (pe_callTy call_int1 (by rfl) T.b_int (by decide +kernel) (pa_cons (pe_op op_add (pe_op op_mul (pe_ix ix_list (pv 0) pe_int (fun _ _ => rfl)) pe_int) pe_int) pa_nil)) pe_int))
    (pss_cons (ps_asg (pe_op op_add (pe_op op_mod (pe_callTy call_int1 (by rfl) T.b_int (by decide +kernel) (pa_cons (pe_op op_add (pe_op op_mul (pv 3) pe_int) pe_int) pa_nil)) pe_int) pe_int) (pg_sub (pv 0) pe_int set_list))
    (pss_one (ps_ret (pe_op op_mod (pe_callTy call_int1 (by rfl) T.b_int (by decide +kernel) (pa_cons (pe_op op_fdiv (pe_op op_add (pe_op op_mul (pv 3) pe_int) (pe_ix ix_list (pv 0) pe_int (fun _ _ => rfl))) pe_int) pa_nil)) (pv 1))))))), ?_⟩
    have up : ∀ x' y' : Int, Up bx H (upd H bx (.lst [.int x', .int y'])) := fun x' y' => ⟨fun c o e n => by rw [upd_ne n]; exact e, _, _, upd_same⟩
    refine ⟨_, rfl, bx, _, _, _, rfl, rfl, SqL.of hb, atI_nat (j := 0) rfl, _, _, rfl, rfl, _, rfl, ?_⟩
    refine ite2 (fun h1 => ?_) (fun h1 => ?_)
    · refine ⟨_, rfl, bx, _, _, _, rfl, rfl, SqL.of hb, atI_nat (j := 0) rfl, .inl ⟨_, rfl, _, rfl, _, _, rfl, rfl, m0, ?_⟩⟩
      refine ⟨_, rfl, bx, _, _, _, rfl, rfl, SqL.of hb, atI_nat (j := 0) rfl, _, rfl, _, _, rfl, rfl, ⟨m0, m1⟩, _, rfl, bx, _, _, 0, rfl, rfl, hb, rfl, ?_⟩
      exact ⟨_, rfl, k _ _ (Int.emod_nonneg _ (by omega)) (Int.emod_lt_of_pos _ m0) (up _ _)⟩
    · refine ⟨_, rfl, bx, _, _, _, rfl, rfl, SqL.of hb, atI_nat (j := 1) rfl, _, _, rfl, rfl, .inr ⟨by decide, by decide⟩, _, _, rfl, rfl, .inl ⟨_, rfl, _, _, rfl, rfl, (by show (0 : Int) < 2147483563; decide), ?_⟩⟩
      refine ⟨_, rfl, _, _, rfl, rfl, .inr ⟨by decide, by decide⟩, _, _, rfl, rfl, .inl ⟨_, rfl, _, _, rfl, rfl, (by show (0 : Int) < 2147483629; decide), _, _, rfl, rfl, _, rfl, bx, _, _, 1, rfl, rfl, hb, rfl, ?_⟩⟩
      refine ⟨_, rfl, _, _, rfl, rfl, .inr ⟨by decide, by decide⟩, _, rfl, bx, _, _, _, rfl, rfl, SqL.of upd_same, atI_nat (j := 1) rfl, _, _, rfl, rfl, _, _, rfl, rfl, ⟨by decide, by decide⟩, .inl ⟨_, rfl, _, rfl, _, _, rfl, rfl, m0, ?_⟩⟩
      exact k _ _ (Int.emod_nonneg _ (by omega)) (Int.emod_lt_of_pos _ m0) (up _ _)
theorem sc_l_seed : FnScope ["_law_script", "_law_k", "_law_cell"] ["_law_script", "_law_k"] (fnScope s_l_seed) := fnScope_by (by decide +kernel)
theorem cal_l_seed {f : Addr} {fd : FuncData} (F : Def K mg "_law_seed" s_l_seed f fd) (b : Binds K fd ["_law_script", "_law_k"] []) (T : Tx mg) : Cal P w K mg base 1 "_law_seed" (spSeed K) [] := by
  refine cal0 F b .nil sc_l_seed (fun vs H Q E h => ?_) (fun cdv A outer s H vs Q E hr h => ?_)
  · obtain ⟨_, _, _, rfl, _⟩ := h; rfl
  · obtain ⟨a, ns, n, rfl, hS, k⟩ := h
    refine ⟨_, (pss_cons (ps_set (i := 2) sc_l_seed.nd rfl (.inl rfl) (pe_op op_add (pe_op op_mul pe_int (pv 1)) pe_int))
    (pss_cons (ps_if (pt_cmpR op_lt (pv 1) (pe_callB call_len_seq (by rfl) T.b_len (by decide +kernel) (pa_cons (pv 0) pa_nil)) (nomark _)) (pss_one (ps_set (i := 2) sc_l_seed.nd rfl (.inl rfl) (pe_callB call_abs (by rfl) T.b_abs (by decide +kernel) (pa_cons (pe_ix ix_list (pv 0) (pv 1) (fun _ _ => rfl)) pa_nil)))) (pss_one (ps_if (pt_cmpR op_gt (pe_callB call_len_seq (by rfl) T.b_len (by decide +kernel) (pa_cons (pv 0) pa_nil)) pe_int (nomark _)) (pss_one (ps_set (i := 2) sc_l_seed.nd rfl (.inl rfl) (pe_op op_add (pv 2) (pe_op op_mul (pe_op op_mod (pe_callTy call_int1 (by rfl) T.b_int (by decide +kernel) (pa_cons (pe_callB call_abs (by rfl) T.b_abs (by decide +kernel) (pa_cons (pe_ix ix_list (pv 0) (pe_op op_mod (pe_callTy call_int1 (by rfl) T.b_int (by decide +kernel) (pa_cons (pv 1) pa_nil)) (pe_callB call_len_seq (by rfl) T.b_len (by decide +kernel) (pa_cons (pv 0) pa_nil))) (fun _ _ => rfl)) pa_nil)) pa_nil)) pe_int) pe_int)))) pss_nil)))
    (pss_one (ps_ret (pe_lst (pa_cons (pe_ifExp (pt_cmpR op_ge (pv 2) (pe_op op_pow pe_int pe_int) (nomark _)) (pv 2) pe_int) (pa_cons (pe_op op_add (pe_op op_mod (pe_callTy call_int1 (by rfl) T.b_int (by decide +kernel) (pa_cons (pe_op op_add (pe_op op_mul (pe_op op_mod (pe_callTy call_int1 (by rfl) T.b_int (by decide +kernel) (pa_cons (pv 2) pa_nil)) pe_int) pe_int) (pe_op op_mul pe_int (pv 1))) pa_nil)) pe_int) pe_int) pa_nil))))))), ?_⟩
    have fin : ∀ z : Int, tRet (tLst (tCons (tIf (tTest (tOp (rI0 fun i j => V.bl (decide (j ≤ i))) (tVar 2) (tOp (rI CPow fun i j => V.int (i ^ j.toNat)) (tC (V.int 10)) (tC (V.int 18))))) (tVar 2) (tC (V.int 0))) (tCons (tOp (rI0 fun i j => V.int (i + j)) (tOp (rI (fun _ j => 0 < j) fun i j => V.int (i % j)) (tCB (fun xs H Q => (∃ i, xs = [V.int i] ∧ Q (V.int i) H) ∨ ∃ k, xs = [V.bl k] ∧ Q (V.int (if k = true then 1 else 0)) H) (tCons (tOp (rI0 fun i j => V.int (i + j)) (tOp (rI CMul fun i j => V.int (i * j)) (tOp (rI (fun _ j => 0 < j) fun i j => V.int (i % j)) (tCB (fun xs H Q => (∃ i, xs = [V.int i] ∧ Q (V.int i) H) ∨ ∃ k, xs = [V.bl k] ∧ Q (V.int (if k = true then 1 else 0)) H) (tCons (tVar 2) tNil)) (tC (V.int 2147483629))) (tC (V.int 48271))) (tOp (rI CMul fun i j => V.int (i * j)) (tC (V.int 36007)) (tVar 1))) tNil)) (tC (V.int 2147483629))) (tC (V.int 1))) tNil))) { nx := fun _ H' => Q .non H', rt := Q } [some (.ref a), some (.int n), some (.int z)] H := by
      intro z
      refine ⟨_, rfl, _, _, rfl, rfl, ⟨by decide, by decide, by decide⟩, _, _, rfl, rfl, _, rfl, ?_⟩
      refine ite2 (fun h1 => ?_) (fun h1 => ?_)
      all_goals
        first
          | refine ⟨_, rfl, _, rfl, .inl ⟨_, rfl, _, _, rfl, rfl, (by show (0 : Int) < 2147483629; decide), _, _, rfl, rfl, .inr ⟨by decide, by decide⟩, _, rfl, _, _, rfl, rfl, .inl ⟨by decide, by decide⟩, _, _, rfl, rfl, .inl ⟨_, rfl, _, _, rfl, rfl, (by show (0 : Int) < 2147483629; decide), _, _, rfl, rfl, ?_⟩⟩⟩
          | refine ⟨_, rfl, .inl ⟨_, rfl, _, _, rfl, rfl, (by show (0 : Int) < 2147483629; decide), _, _, rfl, rfl, .inr ⟨by decide, by decide⟩, _, rfl, _, _, rfl, rfl, .inl ⟨by decide, by decide⟩, _, _, rfl, rfl, .inl ⟨_, rfl, _, _, rfl, rfl, (by show (0 : Int) < 2147483629; decide), _, _, rfl, rfl, ?_⟩⟩⟩
        exact ⟨by show 2 ≤ sizeLine; decide, fun p hp => k p _ hp (same_upd hp) ⟨_, _, upd_same⟩⟩
    refine ⟨_, rfl, _, _, rfl, rfl, .inl ⟨by decide, by decide⟩, _, _, rfl, rfl, ?_⟩
    refine ⟨_, rfl, _, rfl, a, _, rfl, .inl hS, _, _, rfl, rfl, _, rfl, ?_⟩
    refine ite2 (fun h1 => ?_) (fun h1 => ?_)
    · have h2 : (n : Int) < ((ns.map V.int).length : Int) := of_decide_eq_true h1
      rw [List.length_map] at h2
      obtain ⟨z, hz⟩ := cell_at (ns := ns) (by omega : (0 : Int) ≤ n) h2
      refine ⟨_, rfl, _, rfl, a, _, _, _, rfl, rfl, hS, hz, _, rfl, ?_⟩
      exact fin _
    · refine ⟨_, rfl, a, _, rfl, .inl hS, _, _, rfl, rfl, _, rfl, ?_⟩
      refine ite2 (fun h3 => ?_) (fun h3 => ?_)
      · have h4 : (0 : Int) < ((ns.map V.int).length : Int) := of_decide_eq_true h3
        have h5 := h4
        rw [List.length_map] at h5
        obtain ⟨z, hz⟩ := cell_at (ns := ns) (k := (n : Int) % ((ns.map V.int).length : Int)) (Int.emod_nonneg _ (by omega)) (by have := Int.emod_lt_of_pos (n : Int) h4; rw [List.length_map] at this ⊢; exact this)
        refine ⟨_, rfl, _, rfl, _, rfl, .inl ⟨_, rfl, _, rfl, a, _, rfl, .inl hS, _, _, rfl, rfl, h4, a, _, _, _, rfl, rfl, hS, hz, _, rfl, .inl ⟨_, rfl, _, _, rfl, rfl, (by show (0 : Int) < 2147483629; decide), _, _, rfl, rfl, .inr ⟨by decide, by decide⟩, _, _, rfl, rfl, ?_⟩⟩⟩
        exact fin _
      · exact fin _
theorem sc_l_one_of : FnScope ["_law_box", "_law_some"] ["_law_box", "_law_some"] (fnScope s_l_one_of) := fnScope_by (by decide +kernel)
theorem cal_l_one_of {f : Addr} {fd : FuncData} (F : Def K mg "_law_one_of" s_l_one_of f fd) (b : Binds K fd ["_law_box", "_law_some"] []) (T : Tx mg) (c_l_choose : Cal P w K mg base 1 "_law_choose" spChoose []) : Cal P w K mg base 2 "_law_one_of" spOneOf [] := by
  refine cal0 F b .nil sc_l_one_of (fun vs H Q E h => ?_) (fun cdv A outer s H vs Q E hr h => ?_)
  · obtain ⟨_, _, _, rfl, _⟩ := h; rfl
  · obtain ⟨bx, l, xs, rfl, hb, hl, nl, x0, x1, k⟩ := h
    refine ⟨_, (pss_one (ps_ret (pe_ix ix_list (pv 1) (pe_c c_l_choose hr (by decide) rfl (pa_cons (pv 0) (pa_cons (pe_callB call_len_seq (by rfl) T.b_len (by decide +kernel) (pa_cons (pv 1) pa_nil)) pa_nil))) (fun _ _ => rfl)))), ?_⟩
    refine ⟨_, rfl, _, rfl, _, rfl, l, _, rfl, .inl (SqL.of hl), bx, _, rfl, hb, by omega, by omega, fun d H' d0 d1 u => ?_⟩
    obtain ⟨j, rfl⟩ := Int.eq_ofNat_of_zero_le d0
    have hj : j < xs.length := by omega
    have g : xs[j]? = some xs[j] := by simp [hj]
    exact ⟨l, xs, _, xs[j], rfl, rfl, SqL.of (u.1 l _ hl nl), atI_nat g, k _ _ (List.getElem_mem hj) u⟩
end
end U

set_option maxRecDepth 100000
set_option maxHeartbeats 4000000
namespace U
open PySem PySem.Spec PyProof.Rows
open L2 hiding Fun CX0 E0 pass0 Fun.binds
open C8 Lx SX
/-! words told -/
def isW (z : Str) : Bool := z.cps.toList.all fun c => decide (c ∈ ("01" : Str).cps.toList)
theorem isW_W (l : List Bool) : isW (W l) = true := by
  unfold isW
  rw [W_tl, List.all_map, List.all_eq_true]
  intro b _
  cases b <;> decide +kernel
/-- is_word of any value: a text, or a thing whose type is not str -/
def spIsWord (K : PySem.W.Frag) : Sp := fun vs H Q _ => ∃ x, vs = [x] ∧ ((∃ z : Str, x = .str z ∧ z.length ≤ 100000 ∧ ∀ H', Same H H' → Q (.bl (isW z)) H') ∨
  (∃ t, TyX K H x t ∧ PySem.W.kitOne K t (.type "str") = some false ∧ Q (.bl false) H))
theorem spIsWord.word {K : PySem.W.Frag} {H : Hp} {Q : VK} {E : XK} {l : List Bool} (hl : l.length ≤ 100000) (k : ∀ H', Same H H' → Q (.bl true) H') : spIsWord K [.str (W l)] H Q E :=
  ⟨_, rfl, .inl ⟨_, rfl, by rw [W_len]; exact hl, fun H' s => by rw [isW_W]; exact k H' s⟩⟩
section
variable {P : Program} {w : World} {K : PySem.W.Frag} {mg : Str → Option Value} {base : Heap}
theorem sc_is_word : FnScope ["value", "sign"] ["value"] (fnScope s_is_word) := fnScope_by (by decide +kernel)
theorem cal_is_word {f : Addr} {fd : FuncData} {tB : Tok} (F : Def K mg "is_word" s_is_word f fd) (b : Binds K fd ["value"] []) (T : Tx mg) (g_BITS : mg "BITS" = some (.str "01" tB)) : Cal P w K mg base 1 "is_word" (spIsWord K) [] := by
  refine cal0 F b .nil sc_is_word (fun vs H Q E h => ?_) (fun cdv A outer s H vs Q E hr h => ?_)
  · obtain ⟨_, rfl, _⟩ := h; rfl
  · obtain ⟨_, rfl, h⟩ := h
    refine ⟨_, (pss_one (ps_ret (pe_and (pe_callB call_isi (by rfl) T.b_isinstance (by decide +kernel) (pa_cons (pv 0) (pa_cons (pe_bltn (v := .ty "str") (u := .type "str") (by rfl) T.b_str (by decide +kernel) rfl) pa_nil))) (pe_one (pe_callB (cr_all rfl) (by rfl) T.b_all (by decide +kernel) (pa_cons (pe_lc (own := [("sign", 1)]) (g := gName 1) (by rfl) sc_is_word.nd (pi_str (pv 0)) (blkOk_by (own := [("sign", 1)]) (N := ["value", "sign"]) (sc := fnScope s_is_word) (by decide +kernel)) (fun _ _ _ _ _ => (pg_name (i := 1) sc_is_word.nd rfl (.inl rfl))) (fun _ _ _ _ _ => pts_nil) (fun _ _ _ _ _ => (pe_cmpR op_in_sign (pv 1) (pe_glob (v := .str "01") (by rfl) g_BITS ⟨_, rfl⟩) (by with_unfolding_all rfl)))) pa_nil)))))), ?_⟩
    rcases h with ⟨z, rfl, hz, k⟩ | ⟨t, ht, hk, k⟩
    · refine ⟨_, rfl, _, _, _, _, true, rfl, .ty _, .base (.str z), kit_ty (by decide +kernel), _, rfl, ?_⟩
      refine ⟨_, rfl, z, rfl, fun D nD => ?_⟩
      refine lc_it walk_str (fun i H2 => Same H H2 ∧ H2 D = some (.lst (((z.cps.toList.take i).map fun c => decide (c ∈ ("01" : Str).cps.toList)).map V.bl))) ⟨same_upd nD, upd_same⟩ (fun _ _ _ _ => trivial) ?_ ?_
      · rintro i x H2 H3 hi ⟨s2, hD⟩ ⟨rfl, c, hc, rfl⟩
        refine ⟨rfl, ?_⟩
        refine ⟨_, rfl, c, _, rfl, rfl, _, hD, ?_, ?_, ?_⟩
        · rw [List.length_map, List.length_map, List.length_take]
          have e : z.length = z.cps.toList.length := TL.len_tl z
          exact sl_lt (by have : z.cps.size = z.cps.toList.length := by simp
                          omega)
        · intro c' o e
          rw [upd_ne (ne_of_none e nD)]
          exact s2 _ _ e
        · have hc' : z.cps.toList[i]? = some c := by rw [Array.getElem?_toList]; exact hc
          rw [upd_same, List.take_add_one, hc']
          simp
      · rintro H2 ⟨s2, hD⟩
        have e : z.cps.toList.take z.cps.size = z.cps.toList := List.take_of_length_le (by simp)
        rw [e] at hD
        refine ⟨D, _, rfl, SqL.of hD, ?_⟩
        have e2 : (List.map (fun c => decide (c ∈ ("01" : Str).cps.toList)) z.cps.toList).all id = isW z := by
          unfold isW
          rw [List.all_map]
          rfl
        rw [e2]
        exact k H2 s2
    · exact ⟨_, rfl, _, _, _, _, false, rfl, .ty _, ht, hk, _, rfl, k⟩
end
end U

set_option maxRecDepth 100000
set_option maxHeartbeats 4000000
set_option pp.maxSteps 400
namespace U
open PySem PySem.Spec PyProof.Rows
open L2 hiding Fun CX0 E0 pass0 Fun.binds
open C8 Lx SX
/-! any values -/
/-- a text, or a thing whose type is not str, whatever is made beside it -/
def AnyS (K : PySem.W.Frag) (H : Hp) (x : V) : Prop := (∃ z : Str, x = .str z ∧ z.length ≤ 10000 ∧ PyData.strOk z = true) ∨ ((∀ z, x ≠ .str z) ∧ ∃ t, PySem.W.kitOne K t (.type "str") = some false ∧ ∀ H', Same H H' → TyX K H' x t)
theorem AnyS.same {K : PySem.W.Frag} {H H' : Hp} {x : V} (h : AnyS K H x) (s : Same H H') : AnyS K H' x := by
  rcases h with h | ⟨h1, t, h2, h3⟩
  · exact .inl h
  · exact .inr ⟨h1, t, h2, fun H2 s2 => h3 H2 (s.trans s2)⟩
/-- the same, while the box at b turns -/
def AnyU (K : PySem.W.Frag) (b : Addr) (H : Hp) (x : V) : Prop := ∀ H', Up b H H' → AnyS K H' x
theorem AnyU.up {K : PySem.W.Frag} {b : Addr} {H H' : Hp} {x : V} (h : AnyU K b H x) (u : Up b H H') : AnyU K b H' x := fun H2 u2 => h H2 (u.trans u2)
theorem AnyU.now {K : PySem.W.Frag} {b : Addr} {H : Hp} {x : V} (h : AnyU K b H x) (hb : Box H b) : AnyS K H x := h H (Up.refl hb)
theorem anyS_str {K : PySem.W.Frag} {H : Hp} {z : Str} (h : z.length ≤ 10000) (o : PyData.strOk z = true) : AnyS K H (.str z) := .inl ⟨z, rfl, h, o⟩
theorem anyS_non {K : PySem.W.Frag} {H : Hp} : AnyS K H .non := .inr ⟨(fun _ z => by cases z), _, kit_ty (by decide +kernel), fun _ _ => .base .non⟩
theorem anyS_bl {K : PySem.W.Frag} {H : Hp} (x : Bool) : AnyS K H (.bl x) := .inr ⟨(fun _ z => by cases z), _, kit_ty (by decide +kernel), fun _ _ => .base (.bl x)⟩
theorem anyS_int {K : PySem.W.Frag} {H : Hp} (i : Int) : AnyS K H (.int i) := .inr ⟨(fun _ z => by cases z), _, kit_ty (by decide +kernel), fun _ _ => .base (.int i)⟩
theorem anyS_lst {K : PySem.W.Frag} {H : Hp} {a : Addr} {xs : List V} (e : H a = some (.lst xs)) : AnyS K H (.ref a) := .inr ⟨(fun _ z => by cases z), _, kit_ty (by decide +kernel), fun _ s => .base (.lst (s _ _ e))⟩
theorem anyS_tup {K : PySem.W.Frag} {H : Hp} {a : Addr} {xs : List V} (e : H a = some (.tup xs)) : AnyS K H (.ref a) := .inr ⟨(fun _ z => by cases z), _, kit_ty (by decide +kernel), fun _ s => .base (.tup (s _ _ e))⟩
theorem anyU_str {K : PySem.W.Frag} {b : Addr} {H : Hp} {z : Str} (h : z.length ≤ 10000) (o : PyData.strOk z = true) : AnyU K b H (.str z) := fun _ _ => anyS_str h o
theorem anyU_lst {K : PySem.W.Frag} {b : Addr} {H : Hp} {a : Addr} {xs : List V} (e : H a = some (.lst xs)) (n : a ≠ b) : AnyU K b H (.ref a) := fun _ u => anyS_lst (u.1 _ _ e n)
theorem anyU_tup {K : PySem.W.Frag} {b : Addr} {H : Hp} {a : Addr} {xs : List V} (hb : Box H b) (e : H a = some (.tup xs)) : AnyU K b H (.ref a) := fun _ u => anyS_tup (u.1 _ _ e (hb.neT e))
/-- whether a value is a word -/
def wordB : V → Bool
  | .str z => isW z
  | _ => false
theorem AnyS.no {K : PySem.W.Frag} {H : Hp} {x : V} (h : ∀ z, x ≠ .str z) : wordB x = false := by
  unfold wordB
  split
  · exact absurd rfl (h _)
  · rfl
theorem spIsWord.any {K : PySem.W.Frag} {H : Hp} {Q : VK} {E : XK} {x : V} (h : AnyS K H x) (k : ∀ H', Same H H' → Q (.bl (wordB x)) H') : spIsWord K [x] H Q E := by
  rcases h with ⟨z, rfl, hz, _⟩ | ⟨h1, t, h2, h3⟩
  · exact ⟨_, rfl, .inl ⟨z, rfl, by omega, k⟩⟩
  · refine ⟨_, rfl, .inr ⟨t, h3 H (Same.refl H), h2, ?_⟩⟩
    have := k H (Same.refl H)
    rw [AnyS.no (K := K) (H := H) h1] at this
    exact this
/-- the bits of a text -/
def unW (z : Str) : List Bool := z.cps.toList.map fun c => decide (c = 49)
theorem isW_un {z : Str} (h : isW z = true) : z = W (unW z) := by
  refine TL.ext_tl ?_
  have e : TL.tl (W (unW z)) = (unW z).map bt := W_tl _
  rw [e]
  unfold unW
  rw [List.map_map]
  unfold isW at h
  rw [List.all_eq_true] at h
  have e2 : TL.tl z = z.cps.toList := rfl
  rw [e2]
  have key : ∀ l : List Nat, (∀ c ∈ l, decide (c ∈ ("01" : Str).cps.toList) = true) → l = l.map (bt ∘ fun c => decide (c = 49)) := fun l => by
    induction l with
    | nil => intro _; rfl
    | cons c r ih =>
      intro hl
      rw [List.map_cons, ← ih fun u hu => hl u (List.mem_cons_of_mem _ hu)]
      have hc := of_decide_eq_true (hl c List.mem_cons_self)
      have e0 : ("01" : Str).cps.toList = [48, 49] := by decide +kernel
      rw [e0] at hc
      congr 1
      rcases List.mem_cons.mp hc with rfl | hc
      · rfl
      · rw [List.mem_singleton.mp hc]; rfl
  exact key _ h
theorem wordB_W {l : List Bool} : wordB (.str (W l)) = true := isW_W l
theorem wordB_some {x : V} (h : wordB x = true) : ∃ l, x = .str (W l) := by
  unfold wordB at h
  split at h
  · rename_i z
    exact ⟨unW z, by rw [← isW_un h]⟩
  · cases h
end U

set_option maxRecDepth 100000
set_option maxHeartbeats 4000000
namespace U
open PySem PySem.Spec PyProof.Rows
open L2 hiding Fun CX0 E0 pass0 Fun.binds
open C8 Lx SX
/-! checks -/
def ckF (p s : List Bool) : List (Str × V) := putF "start" (.str (W s)) (putF "poly" (.str (W p)) [])
theorem ps_ne : ¬ (("poly" : Str) = "start") := by decide +kernel
theorem ckF_poly (p s : List Bool) : (ckF p s).lookup ("poly" : Str) = some (.str (W p)) := by
  unfold ckF
  rw [lookup_putF, if_neg ps_ne, lookup_putF, if_pos rfl]
theorem ckF_start (p s : List Bool) : (ckF p s).lookup ("start" : Str) = some (.str (W s)) := by
  unfold ckF
  rw [lookup_putF, if_pos rfl]
theorem ckF_no (p s : List Bool) {m : Str} (h1 : ¬ m = "start") (h2 : ¬ m = "poly") : (ckF p s).lookup m = none := by
  unfold ckF
  rw [lookup_putF, if_neg h1, lookup_putF, if_neg h2]
  all_goals rfl
def CkAt (C : Addr) (H : Hp) (a : Addr) (p s : List Bool) : Prop := ∃ dx, H a = some (.ins C dx (ckF p s))
theorem CkAt.same {C : Addr} {H H' : Hp} {a : Addr} {p s : List Bool} (h : CkAt C H a p s) (e : Same H H') : CkAt C H' a p s := by
  obtain ⟨dx, h⟩ := h
  exact ⟨dx, e _ _ h⟩
theorem CkAt.up {C b : Addr} {H H' : Hp} {a : Addr} {p s : List Bool} (hb : Box H b) (h : CkAt C H a p s) (e : Up b H H') : CkAt C H' a p s := by
  obtain ⟨dx, h⟩ := h
  obtain ⟨i, j, hb⟩ := hb
  exact ⟨dx, e.1 _ _ h (ne_of h hb (by intro z; cases z))⟩
theorem CkAt.nl {C : Addr} {H H' : Hp} {a : Addr} {p s : List Bool} (h : CkAt C H a p s) (e : NL H H') : CkAt C H' a p s := by
  obtain ⟨dx, h⟩ := h
  exact ⟨dx, e.ins h⟩
structure CkOk (p s : List Bool) : Prop where
  hd : p.head? = some true
  last : p.getLast? = some true
  len : s.length + 1 = p.length
def zs (n : Nat) : List Bool := List.replicate n false
theorem mul_0 (n : Int) : Txt.mul "0" n = W (zs n.toNat) := by
  refine TL.ext_tl ?_
  have e : ("0" : Str) = ⟨#[48]⟩ := by decide +kernel
  rw [e]
  show (Txt.mul ⟨#[48]⟩ n).cps.toList = (zs n.toNat).map bt
  rw [PyProof.Rows.mul_one_list]
  unfold zs
  rw [List.map_replicate]
  rfl
theorem take1 {p : List Bool} (h : p.head? = some true) : W (p.take 1) = "1" := by
  cases p with
  | nil => cases h
  | cons b r =>
    cases (Option.some.inj h)
    rw [W_1]
    rfl
theorem last1 {p : List Bool} (h : p.getLast? = some true) : W (p.drop (p.length - 1)) = "1" := by
  rw [W_1]
  cases p with
  | nil => cases h
  | cons b r =>
    congr 1
    rw [List.getLast?_eq_getElem?] at h
    have hl : (b :: r).length - 1 < (b :: r).length := by simp
    rw [List.drop_eq_getElem_cons hl]
    rw [List.getElem?_eq_getElem hl] at h
    rw [Option.some.inj h]
    congr 1
    rw [List.drop_eq_nil_iff]
    omega
theorem W_last {p : List Bool} (h : p ≠ []) : Txt.slice (W p) (some (-1)) none = W (p.drop (p.length - 1)) := by
  unfold W
  rw [slice_last (by simpa using h), List.map_drop, List.length_map]
/-- the class as the top leaves it -/
structure CkT (K : PySem.W.Frag) (C : Addr) : Prop where
  cl : Cls K C
  nP : NoAttr K C "poly"
  nS : NoAttr K C "start"
def spCkInit (C : Addr) : Sp := fun vs H Q _ => ∃ (a dx : Addr) (p s : List Bool) (sv : V), vs = [.ref a, .str (W p), sv] ∧ H a = some (.ins C dx []) ∧ CkOk p s ∧ p.length ≤ 1000 ∧ (sv = .str (W s) ∨ (sv = .non ∧ s = zs (p.length - 1))) ∧
  ∀ H', (∀ b o, H b = some o → b ≠ a → H' b = some o) → H' a = some (.ins C dx (ckF p s)) → Q .non H'
def stepM (p r : List Bool) (b : Bool) : List Bool := match r ++ [b] with
  | [] => []
  | x :: l => if x then List.zipWith xor l p.tail else l
def restM (p s : List Bool) (bits : List Bool) : List Bool := bits.foldl (stepM p) s
theorem stepM_len {p r : List Bool} (h : r.length + 1 = p.length) (b : Bool) : (stepM p r b).length = r.length := by
  unfold stepM
  cases r with
  | nil =>
    show (if b then List.zipWith xor [] p.tail else []).length = 0
    cases b <;> rfl
  | cons x l =>
    show (if x then List.zipWith xor (l ++ [b]) p.tail else l ++ [b]).length = _
    split
    · rw [List.length_zipWith, List.length_append, List.length_tail]
      simp only [List.length_cons, List.length_nil] at h ⊢
      omega
    · simp
theorem restM_len {p : List Bool} : ∀ (bits s : List Bool), s.length + 1 = p.length → (restM p s bits).length = s.length
  | [], _, _ => rfl
  | b :: r, s, h => by
    have e := stepM_len h b
    show (restM p (stepM p s b) r).length = _
    rw [restM_len r (stepM p s b) (by omega), e]
def spStep (C : Addr) : Sp := fun vs H Q _ => ∃ (a : Addr) (p s r : List Bool) (b : Bool), vs = [.ref a, .str (W r), .str (W [b])] ∧ CkAt C H a p s ∧ p.length ≤ 1000 ∧ r.length + 1 = p.length ∧
  ∀ H', Same H H' → Q (.str (W (stepM p r b))) H'
def spRest (C : Addr) : Sp := fun vs H Q _ => ∃ (a : Addr) (p s l : List Bool), vs = [.ref a, .str (W l)] ∧ CkAt C H a p s ∧ p.length ≤ 1000 ∧ s.length + 1 = p.length ∧
  ∀ H', Same H H' → Q (.str (W (restM p s l))) H'
def spDegree (C : Addr) : Sp := fun vs H Q _ => ∃ (a : Addr) (p s : List Bool), vs = [.ref a] ∧ CkAt C H a p s ∧ p.length ≤ 1000 ∧ s.length + 1 = p.length ∧ Q (.int (s.length : Nat)) H
theorem int_bit (b : Bool) : (Str.ofString (toString (if b then (1 : Int) else 0))) = W [b] := by cases b <;> decide +kernel
section
variable {P : Program} {w : World} {K : PySem.W.Frag} {mg : Str → Option Value} {base : Heap}
theorem sc_Check_init : FnScope ["self", "poly", "start"] ["self", "poly", "start"] (fnScope s_Check_init) := fnScope_by (by decide +kernel)
theorem ok_Check_init {f C : Addr} {fd : FuncData} (F : C8.Fun K "__init__" "Check.__init__" s_Check_init f fd) (T : Tx mg) (CT : CkT K C) (c_is_word : Cal P w K mg base 1 "is_word" (spIsWord K) []) :
    FnOk P w K mg base CX0 2 f fd ["self", "poly", "start"] (spCkInit C) := by
  refine fn0 F sc_Check_init (fun vs H Q E h => ?_) (fun cdv A outer s H vs Q E hr h => ?_)
  · obtain ⟨_, _, _, _, _, rfl, _⟩ := h; rfl
  · obtain ⟨a, dx, p, st, sv, rfl, ha, ok, hl, hsv, k⟩ := h
    refine ⟨_, (pss_cons (ps_if (PW.pt (pw_or (pt_not (pt_val (pe_c c_is_word hr (by decide) rfl (pa_cons (pv 1) pa_nil)))) (pw_or (pt_cmpR op_ne (pe_slice sl_txt (pv 1) po_none (po_some pe_int)) pe_str (nomark _)) (pw_or1 (pt_cmpR op_ne (pe_slice sl_txt (pv 1) (po_some (pe_un un_neg pe_int)) po_none) pe_str (nomark _)))))) (pss_one ps_never) pss_nil)
    (pss_cons (ps_if (PW.pt (pw_and (pt_cmpR op_notN (pv 2) pe_non (nomark _)) (pw_and1 (PW.pt (pw_or (pt_not (pt_val (pe_c c_is_word hr (by decide) rfl (pa_cons (pv 2) pa_nil)))) (pw_or1 (pt_cmpR op_ne (pe_callB call_len_str (by rfl) T.b_len (by decide +kernel) (pa_cons (pv 2) pa_nil)) (pe_op op_sub (pe_callB call_len_str (by rfl) T.b_len (by decide +kernel) (pa_cons (pv 1) pa_nil)) pe_int) (nomark _)))))))) (pss_one ps_never) pss_nil)
    (pss_cons (ps_fld (pv 0) (pv 1) rfl)
    (pss_one (ps_fld (pv 0) (pe_ifExp (pt_cmpR op_isN (pv 2) pe_non (nomark _)) (pe_op op_rep_str pe_str (pe_op op_sub (pe_callB call_len_str (by rfl) T.b_len (by decide +kernel) (pa_cons (pv 1) pa_nil)) pe_int)) (pv 2)) rfl))))), ?_⟩
    have pn : p ≠ [] := fun z => by have := ok.len; rw [z] at this; cases this
    have lw : (W p).length ≤ sizeLine := by rw [W_len]; exact sl_len (by omega)
    refine ⟨_, rfl, _, rfl, .inl ⟨_, rfl, by rw [W_len]; omega, fun H1 s1 => ⟨_, rfl, iteBF (by rw [isW_W]; rfl) ?_⟩⟩⟩
    refine ⟨_, rfl, _, rfl, _, rfl, lw, rfl, _, rfl, iteNS (by rw [W_take (by decide)]; exact congrArg V.str (take1 ok.hd)) ?_⟩
    refine ⟨_, rfl, _, rfl, _, rfl, _, rfl, lw, rfl, _, rfl, iteNS (by rw [W_last pn]; exact congrArg V.str (last1 ok.last)) ?_⟩
    have el : (W p).length = p.length := W_len p
    have hp1 : ∀ {H2 : Hp}, Same H H2 → H2 a = some (.ins C dx []) := fun s2 => s2 _ _ ha
    have keep : ∀ {H2 : Hp} {o u : HO}, Same H H2 → ∀ b x, H b = some x → b ≠ a → upd (upd H2 a o) a u b = some x := fun s2 b x e n => by
      rw [upd_ne n, upd_ne n]
      exact s2 _ _ e
    rcases hsv with rfl | ⟨rfl, rfl⟩
    · refine ⟨_, rfl, rfl, _, rfl, ?_⟩
      refine ⟨_, rfl, _, rfl, .inl ⟨_, rfl, by rw [W_len]; have := ok.len; omega, fun H2 s2 => ⟨_, rfl, iteBF (by rw [isW_W]; rfl) ?_⟩⟩⟩
      have lw2 : (W st).length ≤ sizeLine := by rw [W_len]; exact sl_len (by have := ok.len; omega)
      refine ⟨_, rfl, _, rfl, lw2, _, rfl, _, rfl, lw, _, _, rfl, rfl, rfl, _, rfl, iteNS (by rw [W_len, W_len]; have := ok.len; congr 1; omega) ?_⟩
      have s3 := s1.trans s2
      refine ⟨_, rfl, _, rfl, a, C, dx, _, rfl, hp1 s3, CT.cl, CT.nP, (by show 0 < 1000; decide), ?_⟩
      refine ⟨_, rfl, rfl, _, rfl, ?_⟩
      refine ⟨_, rfl, _, rfl, a, C, dx, _, rfl, upd_same, CT.cl, CT.nS, (by show 1 < 1000; decide), ?_⟩
      exact k _ (keep s3) upd_same
    · refine ⟨_, rfl, rfl, _, rfl, ?_⟩
      refine ⟨_, rfl, _, rfl, a, C, dx, _, rfl, hp1 s1, CT.cl, CT.nP, (by show 0 < 1000; decide), ?_⟩
      refine ⟨_, rfl, rfl, _, rfl, ?_⟩
      have ez : Txt.mul "0" (((W p).length : Int) - 1) = W (zs (p.length - 1)) := by rw [mul_0, W_len]; congr 2; omega
      have e0 : ("0" : Str).length = 1 := by decide +kernel
      refine ⟨_, rfl, _, rfl, lw, _, _, rfl, rfl, _, _, rfl, rfl, by omega, by omega, by rw [e0]; omega, ?_⟩
      rw [ez]
      refine ⟨_, rfl, a, C, dx, _, rfl, upd_same, CT.cl, CT.nS, (by show 1 < 1000; decide), ?_⟩
      exact k _ (keep s1) upd_same
end
end U

namespace U
/-! the algebra of the rests -/
def xr (a b : List Bool) : List Bool := List.zipWith xor a b
theorem xr_len {a b : List Bool} (h : a.length = b.length) : (xr a b).length = a.length := by unfold xr; rw [List.length_zipWith, h, Nat.min_self]
theorem xr_cons (x y : Bool) (a b : List Bool) : xr (x :: a) (y :: b) = xor x y :: xr a b := rfl
theorem xr_app {a b c d : List Bool} (h : a.length = b.length) : xr (a ++ c) (b ++ d) = xr a b ++ xr c d := by
  unfold xr
  exact List.zipWith_append h
theorem xr_comm : ∀ a b : List Bool, xr a b = xr b a
  | [], [] => rfl
  | [], _ :: _ => rfl
  | _ :: _, [] => rfl
  | x :: a, y :: b => by rw [xr_cons, xr_cons, xr_comm a b, Bool.xor_comm]
theorem xr_assoc : ∀ a b c : List Bool, xr (xr a b) c = xr a (xr b c)
  | [], _, _ => by simp [xr]
  | _ :: _, [], _ => by simp [xr]
  | _ :: _, _ :: _, [] => by simp [xr]
  | x :: a, y :: b, z :: c => by rw [xr_cons, xr_cons, xr_cons, xr_cons, xr_assoc a b c, Bool.xor_assoc]
theorem xr_self : ∀ a : List Bool, xr a a = zs a.length
  | [] => rfl
  | x :: a => by rw [xr_cons, xr_self a, Bool.xor_self]; rfl
theorem xr_zs : ∀ (a : List Bool), xr a (zs a.length) = a
  | [] => rfl
  | x :: a => by
    show xr (x :: a) (false :: zs a.length) = _
    rw [xr_cons, xr_zs a, Bool.xor_false]
theorem zs_xr (a : List Bool) : xr (zs a.length) a = a := by rw [xr_comm, xr_zs]
theorem zs_len (n : Nat) : (zs n).length = n := by unfold zs; simp
theorem xr_eq_zs : ∀ {a b : List Bool}, a.length = b.length → xr a b = zs a.length → a = b
  | [], [], _, _ => rfl
  | [], _ :: _, h, _ => by simp at h
  | _ :: _, [], h, _ => by simp at h
  | x :: a, y :: b, h, e => by
    rw [xr_cons] at e
    have e' : xor x y :: xr a b = false :: zs a.length := e
    injection e' with e1 e2
    have h' : a.length = b.length := by simpa using h
    rw [xr_eq_zs h' e2]
    congr 1
    cases x <;> cases y <;> first | rfl | cases e1
theorem stepM_cons (p : List Bool) (x : Bool) (l : List Bool) (b : Bool) : stepM p (x :: l) b = if x then xr (l ++ [b]) p.tail else l ++ [b] := rfl
theorem stepM_nil (p : List Bool) (b : Bool) : stepM p [] b = [] := by
  show (if b then List.zipWith xor [] p.tail else []) = []
  cases b <;> rfl
theorem stepM_xr {p r q : List Bool} (h : r.length + 1 = p.length) (hq : q.length = r.length) (b c : Bool) : stepM p (xr r q) (xor b c) = xr (stepM p r b) (stepM p q c) := by
  cases r with
  | nil =>
    cases q with
    | nil => rw [show xr [] [] = [] from rfl, stepM_nil, stepM_nil, stepM_nil]; rfl
    | cons _ _ => simp at hq
  | cons x l =>
    cases q with
    | nil => simp at hq
    | cons y m =>
      have hl : m.length = l.length := by simpa using hq
      have e : xr (l ++ [b]) (m ++ [c]) = xr l m ++ [xor b c] := by rw [xr_app hl.symm]; rfl
      have ht : p.tail.length = l.length + 1 := by rw [List.length_tail]; simp only [List.length_cons] at h; omega
      rw [xr_cons, stepM_cons, stepM_cons, stepM_cons, ← e]
      have z : xr p.tail p.tail = zs p.tail.length := xr_self _
      have lb : (l ++ [b]).length = p.tail.length := by rw [List.length_append, ht]; rfl
      have lc : (m ++ [c]).length = p.tail.length := by rw [List.length_append, ht, hl]; rfl
      cases x <;> cases y <;> simp only [Bool.xor_false, Bool.false_xor, Bool.xor_true, Bool.not_true, Bool.not_false, if_true, if_false, Bool.false_eq_true, Bool.xor_self]
      · rw [← xr_assoc]
      · rw [xr_assoc, xr_assoc, xr_comm (m ++ [c]) p.tail]
      · rw [xr_assoc, xr_comm p.tail (xr (m ++ [c]) p.tail), xr_assoc (m ++ [c]), z, ← lc, xr_zs]
theorem restM_app (p s a b : List Bool) : restM p s (a ++ b) = restM p (restM p s a) b := List.foldl_append
theorem restM_xr {p : List Bool} : ∀ (a b r q : List Bool), a.length = b.length → r.length + 1 = p.length → q.length = r.length → restM p (xr r q) (xr a b) = xr (restM p r a) (restM p q b)
  | [], [], _, _, _, _, _ => rfl
  | [], _ :: _, _, _, h, _, _ => by simp at h
  | _ :: _, [], _, _, h, _, _ => by simp at h
  | x :: a, y :: b, r, q, h, hr, hq => by
    have h' : a.length = b.length := by simpa using h
    have l1 := stepM_len hr x
    have l2 := stepM_len (p := p) (r := q) (by omega) y
    show restM p (stepM p (xr r q) (xor x y)) (xr a b) = xr (restM p (stepM p r x) a) (restM p (stepM p q y) b)
    rw [stepM_xr hr hq, restM_xr a b _ _ h' (by omega) (by omega)]
theorem zs_succ (n : Nat) : zs (n + 1) = false :: zs n := rfl
theorem zs_app (m n : Nat) : zs (m + n) = zs m ++ zs n := by unfold zs; rw [List.replicate_append_replicate]
/-- noughts leave noughts -/
theorem stepM_0 (p : List Bool) (d : Nat) : stepM p (zs d) false = zs d := by
  cases d with
  | zero => exact stepM_nil p false
  | succ n =>
    rw [zs_succ, stepM_cons]
    show zs n ++ [false] = _
    rw [show [false] = zs 1 from rfl, ← zs_app]
    rfl
theorem restM_0 (p : List Bool) (d : Nat) : ∀ n : Nat, restM p (zs d) (zs n) = zs d
  | 0 => rfl
  | n + 1 => by
    show restM p (stepM p (zs d) false) (zs n) = _
    rw [stepM_0, restM_0 p d n]
/-- bits that come in behind noughts stand there -/
theorem restM_in (p : List Bool) : ∀ (c : List Bool) (e : List Bool), restM p (zs c.length ++ e) c = e ++ c ∨ (zs c.length ++ e).length + 1 ≠ p.length := by
  intro c
  induction c with
  | nil => intro e; left; show [] ++ e = e ++ []; simp
  | cons x c ih =>
    intro e
    by_cases h : (zs (x :: c).length ++ e).length + 1 = p.length
    · left
      have e1 : zs (x :: c).length ++ e = false :: (zs c.length ++ e) := rfl
      have e2 : stepM p (zs (x :: c).length ++ e) x = zs c.length ++ (e ++ [x]) := by
        rw [e1, stepM_cons]
        show zs c.length ++ e ++ [x] = _
        rw [List.append_assoc]
      show restM p (stepM p (zs (x :: c).length ++ e) x) c = _
      rw [e2]
      rcases ih (e ++ [x]) with h1 | h1
      · rw [h1]; simp
      · exfalso
        apply h1
        rw [← h, e1]
        simp only [List.length_append, List.length_cons, List.length_nil]
        omega
    · right; exact h
theorem restM_self {p c : List Bool} (h : c.length + 1 = p.length) : restM p (zs c.length) c = c := by
  rcases restM_in p c [] with e | e
  · rw [List.append_nil, List.nil_append] at e; exact e
  · rw [List.append_nil, zs_len] at e; exact absurd h e
/-- the check bits -/
def bitsM (p s data : List Bool) : List Bool := restM p s (data ++ zs s.length)
def goodM (p s m : List Bool) : Bool := decide (s.length ≤ m.length) && !decide (true ∈ restM p s m)
theorem bitsM_len {p s : List Bool} (h : s.length + 1 = p.length) (data : List Bool) : (bitsM p s data).length = s.length := restM_len _ _ h
theorem rest_tail {p s data x : List Bool} (h : s.length + 1 = p.length) (hx : x.length = s.length) : restM p s (data ++ x) = xr (bitsM p s data) x := by
  have lr : (restM p s data).length = s.length := restM_len _ _ h
  have e1 : restM p (xr (restM p s data) (zs s.length)) (xr (zs s.length) x) = xr (restM p (restM p s data) (zs s.length)) (restM p (zs s.length) x) :=
    restM_xr _ _ _ _ (by rw [zs_len, hx]) (by omega) (by rw [zs_len, lr])
  rw [← lr, xr_zs, lr, show zs s.length = zs x.length by rw [hx], zs_xr, restM_self (by omega)] at e1
  unfold bitsM
  rw [restM_app, restM_app, e1, hx]
theorem rest_good {p s : List Bool} (h : s.length + 1 = p.length) (data : List Bool) : restM p s (data ++ bitsM p s data) = zs s.length := by
  rw [rest_tail h (bitsM_len h data), xr_self, bitsM_len h]
theorem no_true_zs (n : Nat) : ¬ true ∈ zs n := by
  intro h
  have := List.eq_of_mem_replicate h
  cases this
theorem zs_of_no : ∀ {l : List Bool}, ¬ true ∈ l → l = zs l.length
  | [], _ => rfl
  | true :: r, h => absurd List.mem_cons_self h
  | false :: r, h => by
    have : r = zs r.length := zs_of_no fun z => h (List.mem_cons_of_mem _ z)
    show false :: r = false :: zs r.length
    rw [← this]
theorem goodM_tail {p s data x : List Bool} (h : s.length + 1 = p.length) (hx : x.length = s.length) : goodM p s (data ++ x) = decide (x = bitsM p s data) := by
  unfold goodM
  rw [rest_tail h hx, decide_eq_true (by rw [List.length_append]; omega), Bool.true_and]
  by_cases e : x = bitsM p s data
  · subst e
    rw [xr_self, decide_eq_true rfl, decide_eq_false (no_true_zs _)]
    rfl
  · rw [decide_eq_false e]
    have : true ∈ xr (bitsM p s data) x := Classical.byContradiction fun c => by
      have z := zs_of_no c
      have lb := bitsM_len h data
      rw [xr_len (by omega)] at z
      exact e (xr_eq_zs (by omega) z).symm
    rw [decide_eq_true this]
    rfl
theorem goodM_bits {p s : List Bool} (h : s.length + 1 = p.length) (data : List Bool) : goodM p s (data ++ bitsM p s data) = true := by
  rw [goodM_tail h (bitsM_len h data), decide_eq_true rfl]
theorem goodM_zs {p s m : List Bool} (g : goodM p s m = true) (hl : s.length + 1 = p.length) : restM p s m = zs s.length := by
  unfold goodM at g
  rw [Bool.and_eq_true, decide_eq_true_eq, Bool.not_eq_true', decide_eq_false_iff_not] at g
  have := zs_of_no g.2
  rw [restM_len _ _ hl] at this
  exact this
theorem goodM_iff {p s m : List Bool} (hl : s.length + 1 = p.length) : goodM p s m = true ↔ s.length ≤ m.length ∧ restM p s m = zs s.length := by
  constructor
  · intro g
    refine ⟨?_, goodM_zs g hl⟩
    unfold goodM at g
    rw [Bool.and_eq_true, decide_eq_true_eq] at g
    exact g.1
  · rintro ⟨h1, h2⟩
    unfold goodM
    rw [h2, decide_eq_true h1, decide_eq_false (no_true_zs _)]
    rfl
/-! one wrong bit is seen -/
theorem stepM_inj {p r : List Bool} (h : r.length + 1 = p.length) (hl : p.getLast? = some true) (h0 : r ≠ []) (e : stepM p r false = zs r.length) : r = zs r.length := by
  cases r with
  | nil => exact absurd rfl h0
  | cons x l =>
    rw [stepM_cons] at e
    have ht : p.tail.length = l.length + 1 := by rw [List.length_tail]; simp only [List.length_cons] at h; omega
    cases x with
    | false =>
      have e' : l ++ [false] = zs (l.length + 1) := e
      rw [zs_app] at e'
      have := List.append_inj_left e' (by rw [zs_len])
      show false :: l = false :: zs l.length
      rw [← this]
    | true =>
      exfalso
      have e' : xr (l ++ [false]) p.tail = zs (l ++ [false]).length := by
        have : xr (l ++ [false]) p.tail = zs (true :: l).length := e
        rw [this, List.length_append]
        rfl
      have e2 := xr_eq_zs (by rw [List.length_append, ht]; rfl) e'
      have e3 : p.tail.getLast? = some false := by rw [← e2, List.getLast?_append]; rfl
      cases p with
      | nil => cases hl
      | cons y t =>
        have e4 : t.getLast? = some false := e3
        cases t with
        | nil => cases e4
        | cons z u =>
          rw [List.getLast?_cons_cons] at hl
          rw [hl] at e4
          cases e4
theorem restM_inj {p : List Bool} (hl : p.getLast? = some true) : ∀ (n : Nat) (r : List Bool), r.length + 1 = p.length → r ≠ [] → restM p r (zs n) = zs r.length → r = zs r.length
  | 0, r, _, _, e => e
  | n + 1, r, h, h0, e => by
    have ls := stepM_len h false
    have e' : restM p (stepM p r false) (zs n) = zs r.length := e
    have n0 : stepM p r false ≠ [] := by
      intro z
      rw [z] at ls
      exact h0 (List.length_eq_zero_iff.mp ls.symm)
    have := restM_inj hl n (stepM p r false) (by omega) n0 (by rw [e', ls])
    rw [ls] at this
    exact stepM_inj h hl h0 this
/-- a unit -/
def unit (n i : Nat) : List Bool := zs i ++ true :: zs (n - i - 1)
theorem unit_len {n i : Nat} (h : i < n) : (unit n i).length = n := by
  unfold unit
  rw [List.length_append, List.length_cons, zs_len, zs_len]
  omega
theorem step_one {p : List Bool} {d : Nat} (h : d + 1 = p.length) (h0 : 0 < d) : stepM p (zs d) true ≠ zs d := by
  cases d with
  | zero => omega
  | succ n =>
    rw [zs_succ, stepM_cons]
    show ¬ (zs n ++ [true] = false :: zs n)
    intro e
    have m : true ∈ zs n ++ [true] := by simp
    rw [e] at m
    rcases List.mem_cons.mp m with z | z
    · cases z
    · exact no_true_zs _ z
theorem rest_unit {p : List Bool} {d n i : Nat} (h : d + 1 = p.length) (hl : p.getLast? = some true) (h0 : 0 < d) (hi : i < n) : restM p (zs d) (unit n i) ≠ zs d := by
  intro e
  unfold unit at e
  rw [restM_app, restM_0] at e
  have e' : restM p (stepM p (zs d) true) (zs (n - i - 1)) = zs d := e
  have ls : (stepM p (zs d) true).length = d := by rw [stepM_len (by rw [zs_len]; exact h), zs_len]
  have n0 : stepM p (zs d) true ≠ [] := by
    intro z
    rw [z] at ls
    exact absurd ls (by simp; omega)
  have := restM_inj hl _ _ (by omega) n0 (by rw [e', ls])
  rw [ls] at this
  exact step_one h h0 this
/-- the message with bit i turned -/
def bent (m : List Bool) (i : Nat) : List Bool := m.take i ++ [!(m.getD i false)] ++ m.drop (i + 1)
theorem bent_len {m : List Bool} {i : Nat} (h : i < m.length) : (bent m i).length = m.length := by
  unfold bent
  rw [List.length_append, List.length_append, List.length_take, List.length_drop]
  simp only [List.length_cons, List.length_nil]
  omega
theorem bent_xr {m : List Bool} {i : Nat} (h : i < m.length) : bent m i = xr m (unit m.length i) := by
  have e : m = m.take i ++ (m.getD i false :: m.drop (i + 1)) := by
    have e1 : m.drop i = m.getD i false :: m.drop (i + 1) := by
      rw [List.drop_eq_getElem_cons h]
      simp [h]
    rw [← e1, List.take_append_drop]
  have lt : (m.take i).length = i := by rw [List.length_take]; omega
  unfold bent unit
  generalize hA : m.take i = A at e lt ⊢
  generalize hB : m.drop (i + 1) = B at e ⊢
  generalize m.getD i false = c at e ⊢
  have lB : B.length = m.length - i - 1 := by rw [← hB, List.length_drop]; omega
  rw [← lB]
  conv => rhs; rw [e]
  rw [xr_app (by rw [lt, zs_len]), xr_cons, Bool.xor_true, xr_zs, ← lt, xr_zs]
  simp
theorem bent_bad {p s m : List Bool} {i : Nat} (h : s.length + 1 = p.length) (hl : p.getLast? = some true) (h0 : 0 < s.length) (g : goodM p s m = true) (hi : i < m.length) : goodM p s (bent m i) = false := by
  cases c : goodM p s (bent m i) with
  | false => rfl
  | true =>
    exfalso
    have e1 := goodM_zs c h
    have e2 := goodM_zs g h
    rw [bent_xr hi] at e1
    have e3 : restM p (xr s (zs s.length)) (xr m (unit m.length i)) = xr (restM p s m) (restM p (zs s.length) (unit m.length i)) :=
      restM_xr _ _ _ _ (by rw [unit_len hi]) h (by rw [zs_len])
    rw [xr_zs, e1, e2] at e3
    have lu : (restM p (zs s.length) (unit m.length i)).length = s.length := by rw [restM_len _ _ (by rw [zs_len]; exact h), zs_len]
    have nu := rest_unit h hl h0 hi
    generalize restM p (zs s.length) (unit m.length i) = R at e3 lu nu
    rw [← lu, zs_xr, lu] at e3
    exact nu e3.symm
end U

set_option maxRecDepth 100000
set_option maxHeartbeats 4000000
namespace U
open PySem PySem.Spec PyProof.Rows
open L2 hiding Fun CX0 E0 pass0 Fun.binds
open C8 Lx SX
def spWordN : Sp := fun vs H Q _ => ∃ (b : Addr) (n : Nat), vs = [.ref b, .int n] ∧ Box H b ∧ n ≤ 1000 ∧
  ∀ (l : List Bool) H', l.length = n → Up b H H' → Q (.str (W l)) H'
def spCheck : Sp := fun vs H Q _ => ∃ (b : Addr) (m : Nat), vs = [.ref b, .int m] ∧ Box H b ∧ m ≤ 100 ∧
  ∀ (t : Addr) (p s : List Bool) H', H t = none → Up b H H' → H' t = some (.tup [.str (W p), .str (W s)]) → CkOk p s → s.length ≤ m → Q (.ref t) H'
theorem ckOk_mk {inner s : List Bool} {n : Nat} (h : s.length = n) (hi : inner.length = n - 1) (h0 : 0 < n) : CkOk ([true] ++ inner ++ [true]) s :=
  ⟨rfl, by rw [List.getLast?_append]; rfl, by simp only [List.length_append, List.length_cons, List.length_nil]; omega⟩
section
variable {P : Program} {w : World} {K : PySem.W.Frag} {mg : Str → Option Value} {base : Heap}
theorem sc_l_word : FnScope ["_law_box", "_law_size", "_law_turn"] ["_law_box", "_law_size"] (fnScope s_l_word) := fnScope_by (by decide +kernel)
theorem cal_l_word {f : Addr} {fd : FuncData} (F : Def K mg "_law_word" s_l_word f fd) (b : Binds K fd ["_law_box", "_law_size"] []) (T : Tx mg)
    (c_l_one_of : Cal P w K mg base 2 "_law_one_of" spOneOf []) : Cal P w K mg base 3 "_law_word" spWordN [] := by
  refine cal0 F b .nil sc_l_word (fun vs H Q E h => ?_) (fun cdv A outer s H vs Q E hr h => ?_)
  · obtain ⟨_, _, rfl, _⟩ := h; rfl
  · obtain ⟨bx, n, rfl, hb, h1, k⟩ := h
    refine ⟨_, (pss_one (ps_ret (pe_join pe_str (pe_lc (own := [("_law_turn", 2)]) (g := gName 2) (by rfl) sc_l_word.nd (pi_range1 (by rfl) T.b_range (pa_cons (pv 1) pa_nil)) (blkOk_by (own := [("_law_turn", 2)]) (N := ["_law_box", "_law_size", "_law_turn"]) (sc := fnScope s_l_word) (by decide +kernel)) (fun _ _ _ _ _ => (pg_name (i := 2) sc_l_word.nd rfl (.inl rfl))) (fun _ _ _ _ _ => pts_nil) (fun _ _ _ _ _ => (pe_c c_l_one_of hr (by decide) rfl (pa_cons (pv 0) (pa_cons (pe_lst (pa_cons pe_str (pa_cons pe_str pa_nil))) pa_nil)))))))), ?_⟩
    refine ⟨⟨_, rfl⟩, ?_⟩
    refine ⟨_, rfl, _, rfl, by omega, by omega, fun D nD => ?_⟩
    have nb : D ≠ bx := hb.ne nD
    refine lc_it (walk_range (lo := 0) (n := (n : Int).toNat)) (fun i H2 => ∃ l : List Bool, l.length = i ∧ Up bx H H2 ∧ H2 D = some (.lst (bitsV l)))
      ⟨[], rfl, (Up.refl hb).mut nD nb, upd_same⟩ (fun _ _ _ _ => trivial) ?_ ?_
    · rintro i x H2 H3 hi ⟨l, rfl, u2, hD⟩ ⟨rfl, rfl⟩
      refine ⟨rfl, ?_⟩
      refine ⟨_, rfl, by show 2 ≤ sizeLine; decide, fun p hp => ?_⟩
      have np : p ≠ bx := u2.2.ne hp
      refine ⟨bx, p, _, rfl, u2.2.same (same_upd hp), upd_same, np, by decide, by decide, fun v H4 hv u4 => ?_⟩
      obtain ⟨b, rfl⟩ := mem2 hv
      have hD4 : H4 D = some (.lst (bitsV l)) := u4.1 _ _ (same_upd hp _ _ hD) nb
      refine ⟨_, hD4, ?_, l ++ [b], by simp, ?_, ?_⟩
      · rw [bitsV_len]; exact sl_lt (by omega)
      · exact ((u2.same (same_upd hp)).trans u4).mut nD nb
      · rw [upd_same, bitsV_snoc]
    · rintro H2 ⟨l, hl, u2, hD⟩
      refine ⟨_, D, l.map fun b => W [b], rfl, rfl, .inl (SqL.of hD), ?_, ?_⟩
      · rw [lens_bits, empty_len]; omega
      · show Q (.str (Txt.join "" (l.map fun b => W [b]))) H2
        rw [join_bits]
        exact k l H2 (by omega) u2
theorem sc_l_check : FnScope ["_law_box", "_law_most", "_law_size", "_law_inner"] ["_law_box", "_law_most"] (fnScope s_l_check) := fnScope_by (by decide +kernel)
theorem cal_l_check {f : Addr} {fd : FuncData} (F : Def K mg "_law_check" s_l_check f fd) (b : Binds K fd ["_law_box", "_law_most"] []) (T : Tx mg)
    (c_l_choose : Cal P w K mg base 1 "_law_choose" spChoose []) (c_l_word : Cal P w K mg base 3 "_law_word" spWordN []) : Cal P w K mg base 4 "_law_check" spCheck [] := by
  refine cal0 F b .nil sc_l_check (fun vs H Q E h => ?_) (fun cdv A outer s H vs Q E hr h => ?_)
  · obtain ⟨_, _, rfl, _⟩ := h; rfl
  · obtain ⟨bx, m, rfl, hb, h1, k⟩ := h
    refine ⟨_, (pss_cons (ps_set (i := 2) sc_l_check.nd rfl (.inl rfl) (pe_c c_l_choose hr (by decide) rfl (pa_cons (pv 0) (pa_cons (pe_op op_add (pv 1) pe_int) pa_nil))))
    (pss_cut (ps_set (i := 3) sc_l_check.nd rfl (.inl rfl) (pe_ifExp (pt_cmpR op_gt (pv 2) pe_int (nomark _)) (pe_c c_l_word hr (by decide) rfl (pa_cons (pv 0) (pa_cons (pe_op op_sub (pv 2) pe_int) pa_nil))) pe_str))
    (pss_one (ps_ret (pe_tup (pa_cons (pe_ifExp (pt_cmpR op_gt (pv 2) pe_int (nomark _)) (pe_op op_add_str (pe_op op_add_str pe_str (pv 3)) pe_str) pe_str) (pa_cons (pe_ifExp (pt_cmpR op_eq (pe_c c_l_choose hr (by decide) rfl (pa_cons (pv 0) (pa_cons pe_int pa_nil))) pe_int (nomark _)) (pe_c c_l_word hr (by decide) rfl (pa_cons (pv 0) (pa_cons (pv 2) pa_nil))) (pe_op op_rep_str pe_str (pv 2))) pa_nil))))))), ?_⟩
    refine ⟨_, rfl, _, rfl, _, _, rfl, rfl, bx, _, rfl, hb, by omega, by omega, fun d H1 d0 d1 u1 => ?_⟩
    obtain ⟨n, rfl⟩ := Int.eq_ofNat_of_zero_le d0
    have hn : n ≤ m := by omega
    refine ⟨fun σ' H2 => ∃ inner : List Bool, σ' = [some (.ref bx), some (.int m), some (.int n), some (.str (W inner))] ∧ inner.length = n - 1 ∧ Up bx H H2, ?_, ?_⟩
    · refine ⟨_, rfl, _, _, rfl, rfl, _, rfl, ?_⟩
      refine ite2 (fun h2 => ?_) (fun h2 => ?_)
      · have h3 : (1 : Int) < n := of_decide_eq_true h2
        refine ⟨_, rfl, _, rfl, _, _, rfl, rfl, bx, n - 1, (by show [V.ref bx, V.int ((n : Int) - 1)] = _; rw [show (n : Int) - 1 = ((n - 1 : Nat) : Int) by omega]), u1.2, by omega, fun l H2 hl u2 => ?_⟩
        exact ⟨l, rfl, hl, u1.trans u2⟩
      · have h3 : ¬ (1 : Int) < n := of_decide_eq_false (by simpa using h2)
        exact ⟨[], by rw [← W_nil]; rfl, by show 0 = n - 1; omega, u1⟩
    · rintro σ' H2 ⟨inner, rfl, hi, u2⟩
      -- both words
      have l1 : ("1" : Str).length = 1 := by decide +kernel
      have l0 : ("0" : Str).length = 1 := by decide +kernel
      refine ⟨_, rfl, _, _, rfl, rfl, _, rfl, ?_⟩
      refine ite2 (fun h2 => ?_) (fun h2 => ?_)
      · have h3 : (0 : Int) < n := of_decide_eq_true h2
        refine ⟨_, rfl, _, _, rfl, rfl, ?_, _, _, rfl, rfl, ?_, ?_⟩
        · rw [l1, W_len]; exact sl_len (by omega)
        · rw [W_1, W_cat, W_len, W_len, List.length_append]; exact sl_len (by show 1 + inner.length + 1 ≤ 100000; omega)
        · rw [W_1, W_cat, W_cat]
          refine ⟨_, rfl, bx, _, rfl, u2.2, by decide, by decide, fun d2 H3 e0 e1 u3 => ⟨rfl, _, rfl, ?_⟩⟩
          have u3' := u2.trans u3
          refine ite2 (fun h4 => ?_) (fun h4 => ?_)
          · refine ⟨_, rfl, _, rfl, bx, n, rfl, u3'.2, by omega, fun l H4 hl u4 => ⟨by show 2 ≤ sizeLine; decide, fun q nq => ?_⟩⟩
            have u5 := u3'.trans u4
            exact k q _ l _ (u5.free nq) (u5.same (same_upd nq)) upd_same (ckOk_mk hl hi (by omega)) (by omega)
          · refine ⟨_, rfl, _, _, rfl, rfl, by omega, by omega, by rw [l0]; omega, by show 2 ≤ sizeLine; decide, fun q nq => ?_⟩
            refine k q _ (zs n) _ (u3'.free nq) (u3'.same (same_upd nq)) (by rw [upd_same, mul_0]; rfl) (ckOk_mk (by unfold zs; simp) hi (by omega)) (by unfold zs; simp; omega)
      · have h3 : ¬ (0 : Int) < n := of_decide_eq_false (by simpa using h2)
        have n0 : n = 0 := by omega
        subst n0
        have ok : ∀ l : List Bool, l.length = 0 → CkOk [true] l := fun l hl => ⟨rfl, rfl, by rw [hl]; rfl⟩
        refine ⟨_, rfl, bx, _, rfl, u2.2, by decide, by decide, fun d2 H3 e0 e1 u3 => ⟨rfl, _, rfl, ?_⟩⟩
        have u3' := u2.trans u3
        refine ite2 (fun h4 => ?_) (fun h4 => ?_)
        · refine ⟨_, rfl, _, rfl, bx, 0, rfl, u3'.2, by omega, fun l H4 hl u4 => ⟨by show 2 ≤ sizeLine; decide, fun q nq => ?_⟩⟩
          have u5 := u3'.trans u4
          exact k q [true] l _ (u5.free nq) (u5.same (same_upd nq)) (by rw [upd_same, W_1]) (ok l hl) (by omega)
        · refine ⟨_, rfl, _, _, rfl, rfl, by omega, by omega, by rw [l0]; omega, by show 2 ≤ sizeLine; decide, fun q nq => ?_⟩
          exact k q [true] [] _ (u3'.free nq) (u3'.same (same_upd nq)) (by rw [upd_same, mul_0, W_1]; rfl) (ok [] rfl) (Nat.zero_le _)
end
end U

set_option maxRecDepth 100000
set_option maxHeartbeats 4000000
set_option pp.maxSteps 400
namespace U
open PySem PySem.Spec PyProof.Rows
open L2 hiding Fun CX0 E0 pass0 Fun.binds
open C8 Lx SX
/-! checks made of any values -/
theorem unW_W (l : List Bool) : unW (W l) = l := by
  have := isW_un (isW_W l)
  exact (W_inj this).symm
/-- a polynomial -/
def polyL (l : List Bool) : Bool := decide (l.take 1 = [true]) && decide (l.drop (l.length - 1) = [true])
def polyB : V → Bool
  | .str z => isW z && polyL (unW z)
  | _ => false
theorem polyB_W (l : List Bool) : polyB (.str (W l)) = polyL l := by
  show (isW (W l) && polyL (unW (W l))) = _
  rw [isW_W, unW_W]
  rfl
theorem polyB_no {x : V} (h : wordB x = false) : polyB x = false := by
  unfold polyB
  split
  · rename_i z
    have : isW z = false := h
    rw [this]
    rfl
  · rfl
/-- a start beside a polynomial of n bits -/
def startB (n : Nat) : V → Bool
  | .non => true
  | .str z => isW z && decide (z.length + 1 = n)
  | _ => false
theorem startB_W (n : Nat) (l : List Bool) : startB n (.str (W l)) = decide (l.length + 1 = n) := by
  show (isW (W l) && decide ((W l).length + 1 = n)) = _
  rw [isW_W, W_len]
  rfl
theorem startB_no {n : Nat} {x : V} (hn : x ≠ .non) (h : wordB x = false) : startB n x = false := by
  unfold startB
  split
  · exact absurd rfl hn
  · rename_i z
    have : isW z = false := h
    rw [this]
    rfl
  · rfl
theorem polyL_ok {p s : List Bool} (h : polyL p = true) (hs : s.length + 1 = p.length) : CkOk p s := by
  unfold polyL at h
  rw [Bool.and_eq_true, decide_eq_true_iff, decide_eq_true_iff] at h
  obtain ⟨h1, h2⟩ := h
  cases p with
  | nil => cases hs
  | cons b r =>
    refine ⟨?_, ?_, hs⟩
    · have : [b] = [true] := h1
      rw [List.head?_cons, (List.cons.inj this).1]
    · rw [List.getLast?_eq_getElem?]
      have e : ((b :: r).drop ((b :: r).length - 1))[0]? = some true := by rw [h2]; rfl
      rw [List.getElem?_drop, Nat.add_zero] at e
      exact e
def spCkInitX (K : PySem.W.Frag) (C CKI : Addr) : Sp := fun vs H Q E => ∃ (a dx : Addr) (xp xs : V), vs = [.ref a, xp, xs] ∧ H a = some (.ins C dx []) ∧ AnyS K H xp ∧ AnyS K H xs ∧
  (polyB xp = false → ∀ d H', (∀ b o, H b = some o → b ≠ a → H' b = some o) → H' d = some (.xd [("word", .str "poly")]) → E (.ref CKI) (some d) H') ∧
  (∀ p, xp = .str (W p) → polyL p = true → startB p.length xs = false → ∀ d H', (∀ b o, H b = some o → b ≠ a → H' b = some o) → H' d = some (.xd [("word", .str "start")]) → E (.ref CKI) (some d) H') ∧
  (∀ p, xp = .str (W p) → polyL p = true → startB p.length xs = true → ∀ s H', (xs = .str (W s) ∨ (xs = .non ∧ s = zs (p.length - 1))) → CkOk p s → (∀ b o, H b = some o → b ≠ a → H' b = some o) → H' a = some (.ins C dx (ckF p s)) → Q .non H')
section
variable {P : Program} {w : World} {K : PySem.W.Frag} {mg : Str → Option Value} {base : Heap}

theorem ok_Check_initX {f C CKI : Addr} {fd : FuncData} (F : C8.Fun K "__init__" "Check.__init__" s_Check_init f fd) (T : Tx mg) (CT : CkT K C) (x_InvalidCheck : ExS.XMk P w K mg base 1 "InvalidCheck" CKI "word") (c_is_word : Cal P w K mg base 1 "is_word" (spIsWord K) []) :
    FnOk P w K mg base (L2.CX P w) 3 f fd ["self", "poly", "start"] (spCkInitX K C CKI) := by
  refine ExS.fnR F sc_Check_init (fun vs H Q E h => ?_) (fun cdv A outer s H vs Q E hr h => ?_)
  · obtain ⟨_, _, _, _, rfl, _⟩ := h; rfl
  · obtain ⟨a, dx, xp, xs, rfl, ha, hp, hs, kP, kS, k⟩ := h
    refine ⟨_, (pss_cons (ps_if (PW.pt (pw_or (pt_not (pt_val (pe_c c_is_word hr (by decide) rfl (pa_cons (pv 1) pa_nil)))) (pw_or (pt_cmpR op_ne (pe_slice sl_txt (pv 1) po_none (po_some pe_int)) pe_str (nomark _)) (pw_or1 (pt_cmpR op_ne (pe_slice sl_txt (pv 1) (po_some (pe_un un_neg pe_int)) po_none) pe_str (nomark _)))))) (pss_one (ps_raise rfl (takes_of rfl rfl rfl rfl) (ExS.pmk_x x_InvalidCheck hr (by decide) rfl (pa_cons pe_str pa_nil)))) pss_nil)
    (pss_cons (ps_if (PW.pt (pw_and (pt_cmpR op_notN (pv 2) pe_non (nomark _)) (pw_and1 (PW.pt (pw_or (pt_not (pt_val (pe_c c_is_word hr (by decide) rfl (pa_cons (pv 2) pa_nil)))) (pw_or1 (pt_cmpR op_ne (pe_callB call_len_str (by rfl) T.b_len (by decide +kernel) (pa_cons (pv 2) pa_nil)) (pe_op op_sub (pe_callB call_len_str (by rfl) T.b_len (by decide +kernel) (pa_cons (pv 1) pa_nil)) pe_int) (nomark _)))))))) (pss_one (ps_raise rfl (takes_of rfl rfl rfl rfl) (ExS.pmk_x x_InvalidCheck hr (by decide) rfl (pa_cons pe_str pa_nil)))) pss_nil)
    (pss_cons (ps_fld (pv 0) (pv 1) rfl)
    (pss_one (ps_fld (pv 0) (pe_ifExp (pt_cmpR op_isN (pv 2) pe_non (nomark _)) (pe_op op_rep_str pe_str (pe_op op_sub (pe_callB call_len_str (by rfl) T.b_len (by decide +kernel) (pa_cons (pv 1) pa_nil)) pe_int)) (pv 2)) rfl))))), ?_⟩
    refine ⟨_, rfl, ?_⟩
    dsimp only [tNil, List.append_nil]
    refine spIsWord.any hp fun H1 s1 => ⟨_, rfl, ?_⟩
    cases ew : wordB xp with
    | false =>
      refine iteT ?_
      exact ExS.rd_x fun d H' s' _ hd => kP (polyB_no ew) d H' (fun b o e _ => (s1.trans s') _ _ e) hd
    | true =>
      obtain ⟨p, rfl⟩ := wordB_some ew
      refine iteF ?_
      rw [polyB_W] at kP
      have lp : p.length ≤ 10000 := by
        rcases hp with ⟨z, e, hz, _⟩ | ⟨h1, _⟩
        · rw [← V.str.inj e, W_len] at hz
          exact hz
        · exact absurd rfl (h1 _)
      have lw : (W p).length ≤ sizeLine := by rw [W_len]; exact sl_len (by omega)
      have wp : (W p).length = p.length := W_len p
      have bad : polyL p = false → ∀ H2, Same H H2 → ∀ d H', Same H2 H' → H' d = some (.xd [("word", .str "poly")]) → E (.ref CKI) (some d) H' := fun hb H2 s2 d H' s' hd => kP hb d H' (fun b o e _ => (s2.trans s') _ _ e) hd
      refine ⟨_, rfl, _, rfl, _, rfl, lw, rfl, _, rfl, ?_⟩
      rw [W_take (by decide)]
      by_cases e1 : p.take 1 = [true]
      · refine iteNS (congrArg V.str (by show W (p.take 1) = "1"; rw [e1, W_1])) ?_
        have pn : p ≠ [] := fun z => by rw [z] at e1; cases e1
        refine ⟨_, rfl, _, rfl, _, rfl, _, rfl, lw, rfl, _, rfl, ?_⟩
        rw [W_last pn]
        by_cases e2 : p.drop (p.length - 1) = [true]
        · refine iteNS (congrArg V.str (by rw [e2, W_1])) ?_
          have hP : polyL p = true := by unfold polyL; rw [decide_eq_true e1, decide_eq_true e2]; rfl
          have kS := kS p rfl hP
          have k := k p rfl hP
          clear bad kP
          have hp1 : ∀ {H2 : Hp}, Same H H2 → H2 a = some (.ins C dx []) := fun s2 => s2 _ _ ha
          have keep : ∀ {H2 : Hp} {o u : HO}, Same H H2 → ∀ b x, H b = some x → b ≠ a → upd (upd H2 a o) a u b = some x := fun s2 b x e n => by
            rw [upd_ne n, upd_ne n]
            exact s2 _ _ e
          by_cases en : xs = .non
          · subst en
            have ok : CkOk p (zs (p.length - 1)) := polyL_ok hP (by
              have := List.length_pos_iff.mpr pn
              unfold zs
              rw [List.length_replicate]
              omega)
            refine ⟨_, rfl, rfl, _, rfl, iteBF (by rw [decide_eq_true rfl]; rfl) ?_⟩
            refine ⟨_, rfl, _, rfl, a, C, dx, _, rfl, hp1 s1, CT.cl, CT.nP, (by show 0 < 1000; decide), ?_⟩
            refine ⟨_, rfl, rfl, _, rfl, iteDT rfl ?_⟩
            have ez : Txt.mul "0" (((W p).length : Int) - 1) = W (zs (p.length - 1)) := by rw [mul_0, W_len]; congr 2; omega
            have e0 : ("0" : Str).length = 1 := by decide +kernel
            refine ⟨_, rfl, _, rfl, lw, _, _, rfl, rfl, _, _, rfl, rfl, by omega, by omega, by rw [e0]; omega, ?_⟩
            rw [ez]
            refine ⟨_, rfl, a, C, dx, _, rfl, upd_same, CT.cl, CT.nS, (by show 1 < 1000; decide), ?_⟩
            exact k rfl _ _ (.inr ⟨rfl, rfl⟩) ok (keep s1) upd_same
          · refine ⟨_, rfl, rfl, _, rfl, iteBT (by rw [decide_eq_false en]; rfl) ?_⟩
            refine ⟨_, rfl, ?_⟩
            dsimp only [tNil, List.append_nil]
            refine spIsWord.any (hs.same s1) fun H2 s2 => ⟨_, rfl, ?_⟩
            have s12 := s1.trans s2
            cases ew2 : wordB xs with
            | false =>
              refine iteT ?_
              exact ExS.rd_x fun d H' s' _ hd => kS (startB_no en ew2) d H' (fun b o e _ => (s12.trans s') _ _ e) hd
            | true =>
              obtain ⟨st, rfl⟩ := wordB_some ew2
              refine iteF ?_
              have ls : st.length ≤ 10000 := by
                rcases hs with ⟨z, e, hz, _⟩ | ⟨h1, _⟩
                · rw [← V.str.inj e, W_len] at hz
                  exact hz
                · exact absurd rfl (h1 _)
              have lw2 : (W st).length ≤ sizeLine := by rw [W_len]; exact sl_len (by omega)
              have ws : (W st).length = st.length := W_len st
              refine ⟨_, rfl, _, rfl, lw2, _, rfl, _, rfl, lw, _, _, rfl, rfl, rfl, _, rfl, ?_⟩
              have lpos := List.length_pos_iff.mpr pn
              by_cases el : st.length + 1 = p.length
              · refine iteNS (by rw [ws, wp]; congr 1; omega) ?_
                refine ⟨_, rfl, _, rfl, a, C, dx, _, rfl, hp1 s12, CT.cl, CT.nP, (by show 0 < 1000; decide), ?_⟩
                refine ⟨_, rfl, rfl, _, rfl, iteDF en ?_⟩
                refine ⟨_, rfl, _, rfl, a, C, dx, _, rfl, upd_same, CT.cl, CT.nS, (by show 1 < 1000; decide), ?_⟩
                exact k (by rw [startB_W, decide_eq_true el]) _ _ (.inl rfl) (polyL_ok hP el) (keep s12) upd_same
              · refine iteNT (fun z => el (by rw [ws, wp] at z; have := V.int.inj z; omega)) ?_
                exact ExS.rd_x fun d H' s' _ hd => kS (by rw [startB_W, decide_eq_false el]) d H' (fun b o e _ => (s12.trans s') _ _ e) hd
        · refine iteNT (fun z => e2 (W_inj (by rw [V.str.inj z, W_1]))) ?_
          exact ExS.rd_x fun d H' s' _ hd => bad (by unfold polyL; rw [decide_eq_false e2, Bool.and_false]) H1 s1 d H' s' hd
      · refine iteNT (fun z => e1 (W_inj (by rw [← W_1]; exact V.str.inj z))) ?_
        exact ExS.rd_x fun d H' s' _ hd => bad (by unfold polyL; rw [decide_eq_false e1]; rfl) H1 s1 d H' s' hd
end
end U

set_option maxRecDepth 100000
set_option maxHeartbeats 4000000
set_option pp.maxSteps 400
namespace U
open PySem PySem.Spec PyProof.Rows
open L2 hiding Fun CX0 E0 pass0 Fun.binds
open C8 Lx SX
/-! a law's any values -/
def scalB : V → Bool
  | .non => true
  | .bl _ => true
  | .int _ => true
  | .str z => decide (z.length ≤ 10000) && PyData.strOk z
  | _ => false
theorem scal_any {K : PySem.W.Frag} {b : Addr} {H : Hp} {v : V} (h : scalB v = true) : AnyU K b H v := by
  cases v with
  | non => exact fun _ _ => anyS_non
  | bl x => exact fun _ _ => anyS_bl x
  | int i => exact fun _ _ => anyS_int i
  | str z =>
    have h : (decide (z.length ≤ 10000) && PyData.strOk z) = true := h
    rw [Bool.and_eq_true, decide_eq_true_iff] at h
    exact anyU_str h.1 h.2
  | _ => cases h
def spLeaf (K : PySem.W.Frag) : Sp := fun vs H Q _ => ∃ b : Addr, vs = [.ref b] ∧ Box H b ∧ ∀ v H', Up b H H' → AnyU K b H' v → Q v H'
def spAnyN (K : PySem.W.Frag) (n : Nat) : Sp := fun vs H Q _ => ∃ b : Addr, vs = [.ref b, .int n] ∧ Box H b ∧ ∀ v H', Up b H H' → AnyU K b H' v → Q v H'
def spAny (K : PySem.W.Frag) : Sp := fun vs H Q _ => ∃ (b : Addr) (n : Nat), vs = [.ref b, .int n] ∧ n ≤ 8 ∧ Box H b ∧ ∀ v H', Up b H H' → AnyU K b H' v → Q v H'
section
variable {P : Program} {w : World} {K : PySem.W.Frag} {mg : Str → Option Value} {base : Heap}
theorem sc_l_leaf : FnScope ["_law_box", "_law_some"] ["_law_box"] (fnScope s_l_leaf) := fnScope_by (by decide +kernel)
theorem cal_l_leaf {f : Addr} {fd : FuncData} (F : Def K mg "_law_leaf" s_l_leaf f fd) (b : Binds K fd ["_law_box"] []) (T : Tx mg) (c_l_one_of : Cal P w K mg base 2 "_law_one_of" spOneOf []) : Cal P w K mg base 3 "_law_leaf" (spLeaf K) [] := by
  refine cal0 F b .nil sc_l_leaf (fun vs H Q E h => ?_) (fun cdv A outer s H vs Q E hr h => ?_)
  · obtain ⟨_, rfl, _⟩ := h; rfl
  · obtain ⟨bx, rfl, hb, k⟩ := h
    refine ⟨_, (pss_cons (ps_set (i := 1) sc_l_leaf.nd rfl (.inl rfl) (pe_lst (pa_cons pe_non (pa_cons pe_bl (pa_cons pe_bl (pa_cons pe_int (pa_cons pe_int (pa_cons (pe_op op_sub pe_int pe_int) (pa_cons pe_int (pa_cons (pe_op op_pow pe_int pe_int) (pa_cons pe_str (pa_cons pe_str (pa_cons pe_str (pa_cons pe_str (pa_cons pe_str (pa_cons pe_str (pa_cons pe_str pa_nil)))))))))))))))))
    (pss_one (ps_ret (pe_c c_l_one_of hr (by decide) rfl (pa_cons (pv 0) (pa_cons (pe_op op_cat (pv 1) (pe_lst (pa_cons pe_str (pa_cons pe_str (pa_cons pe_str pa_nil))))) pa_nil)))))), ?_⟩
    refine ⟨_, _, rfl, rfl, _, _, rfl, rfl, ⟨by decide, by decide, by decide⟩, by show 15 ≤ sizeLine; decide, fun l1 n1 => ?_⟩
    have s1 := same_upd (o := .lst [.non, .bl true, .bl false, .int 0, .int 1, .int (0 - 1), .int 2, .int (10 ^ (9 : Int).toNat), .str "", .str "0", .str "1", .str "11", .str "01110", .str "2", .str "10a"]) n1
    have h1 : upd H l1 (.lst [.non, .bl true, .bl false, .int 0, .int 1, .int (0 - 1), .int 2, .int (10 ^ (9 : Int).toNat), .str "", .str "0", .str "1", .str "11", .str "01110", .str "2", .str "10a"]) l1 = some (.lst _) := upd_same
    refine ⟨_, rfl, _, rfl, by show 3 ≤ sizeLine; decide, fun l2 n2 => ?_⟩
    have s2 := same_upd (o := .lst [.str "flag 11", .str "1 start", .str " "]) n2
    refine ⟨l1, l2, _, _, rfl, rfl, s2 _ _ h1, upd_same, by show 18 ≤ sizeLine; decide, fun l3 n3 => ?_⟩
    have hb3 : ∀ {o : HO}, Box (upd (upd (upd H l1 (.lst [.non, .bl true, .bl false, .int 0, .int 1, .int (0 - 1), .int 2, .int (10 ^ (9 : Int).toNat), .str "", .str "0", .str "1", .str "11", .str "01110", .str "2", .str "10a"])) l2 (.lst [.str "flag 11", .str "1 start", .str " "])) l3 o) bx := fun {o} => hb.same ((s1.trans s2).trans (same_upd n3))
    refine ⟨bx, l3, _, rfl, hb3, upd_same, (hb.same (s1.trans s2)).ne n3, by show 0 < 18; decide, by show 18 < 1000; decide, fun v H' hv u => k v H' ((Up.of_same hb ((s1.trans s2).trans (same_upd n3))).trans u) (scal_any ?_)⟩
    have hall : ∀ x ∈ [V.non, .bl true, .bl false, .int 0, .int 1, .int (0 - 1), .int 2, .int (10 ^ (9 : Int).toNat), .str "", .str "0", .str "1", .str "11", .str "01110", .str "2", .str "10a"] ++ [V.str "flag 11", .str "1 start", .str " "], scalB x = true := List.all_eq_true.mp (by decide +kernel)
    exact hall v hv
theorem sc_l_any : FnScope ["_law_box", "_law_deep", "_law_form", "_law_found", "_law_turn"] ["_law_box", "_law_deep"] (fnScope s_l_any) := fnScope_by (by decide +kernel)
theorem any_fn {f : Addr} {fd : FuncData} (F : Def K mg "_law_any" s_l_any f fd) (b : Binds K fd ["_law_box", "_law_deep"] []) (T : Tx mg) (c_l_choose : Cal P w K mg base 1 "_law_choose" spChoose []) (c_l_leaf : Cal P w K mg base 3 "_law_leaf" (spLeaf K) []) (n : Nat) : FnOk P w K mg base CX0 (4 + n) f fd ["_law_box", "_law_deep"] (spAnyN K n) := by
  induction n with
  | zero =>
    refine fn0 F.fn sc_l_any (fun vs H Q E h => ?_) (fun cdv A outer s H vs Q E hr h => ?_)
    · obtain ⟨_, rfl, _⟩ := h; rfl
    · obtain ⟨bx, rfl, hb, k⟩ := h
      refine ⟨_, (pss_cons (ps_set (i := 2) sc_l_any.nd rfl (.inl rfl) (pe_ifExp (pt_cmpR op_gt (pv 1) pe_int (nomark _)) (pe_c c_l_choose hr (by decide) rfl (pa_cons (pv 0) (pa_cons pe_int pa_nil))) pe_int))
        (pss_cons (ps_if (pt_cmpR op_gt (pv 2) pe_int (nomark _)) (pss_one (ps_ret (pe_c c_l_leaf hr (by decide) rfl (pa_cons (pv 0) pa_nil)))) pss_nil) pss_never)), ?_⟩
      refine ⟨_, rfl, _, _, rfl, rfl, _, rfl, iteDF (by decide) ?_⟩
      refine ⟨_, rfl, _, _, rfl, rfl, _, rfl, iteDT (by decide) ?_⟩
      exact ⟨_, rfl, bx, rfl, hb, k⟩
  | succ n ih =>
    have c_l_any : Cal P w K mg base (4 + n) "_law_any" (spAnyN K n) [] := ⟨f, fd, _, [], ih, F.mgf, F.kp, b, .nil⟩
    refine fn0 F.fn sc_l_any (fun vs H Q E h => ?_) (fun cdv A outer s H vs Q E hr h => ?_)
    · obtain ⟨_, rfl, _⟩ := h; rfl
    · obtain ⟨bx, rfl, hb, k⟩ := h
      refine ⟨_, (pss_cons (ps_set (i := 2) sc_l_any.nd rfl (.inl rfl) (pe_ifExp (pt_cmpR op_gt (pv 1) pe_int (nomark _)) (pe_c c_l_choose hr (by show _ ≤ 4 + n; omega) rfl (pa_cons (pv 0) (pa_cons pe_int pa_nil))) pe_int))
    (pss_cons (ps_if (pt_cmpR op_gt (pv 2) pe_int (nomark _)) (pss_one (ps_ret (pe_c c_l_leaf hr (by show _ ≤ 4 + n; omega) rfl (pa_cons (pv 0) pa_nil)))) pss_nil)
    (pss_cons (ps_setLc (i := 3) (own := [("_law_turn", 4)]) (g := gName 4) (by rfl) sc_l_any.nd rfl rfl (sw_true rfl rfl rfl (by decide +kernel)) (pi_range1 (by rfl) T.b_range (pa_cons (pe_c c_l_choose hr (by show _ ≤ 4 + n; omega) rfl (pa_cons (pv 0) (pa_cons pe_int pa_nil))) pa_nil)) (blkOk_by (own := [("_law_turn", 4)]) (N := ["_law_box", "_law_deep", "_law_form", "_law_found", "_law_turn"]) (sc := fnScope s_l_any) (by decide +kernel)) (fun _ _ _ _ _ => (pg_name (i := 4) sc_l_any.nd rfl (.inl rfl))) (fun _ _ _ _ _ => pts_nil) (fun _ _ _ _ _ => (pe_c c_l_any hr (by show _ ≤ 4 + n; omega) rfl (pa_cons (pv 0) (pa_cons (pe_op op_sub (pv 1) pe_int) pa_nil)))))
    (pss_one (ps_ret (pe_ifExp (pt_cmpR op_eq (pv 2) pe_int (nomark _)) (pe_callTy call_tuple_of (by rfl) T.b_tuple (by decide +kernel) (pa_cons (pv 3) pa_nil)) (pv 3))))))), ?_⟩
      refine ⟨_, rfl, _, _, rfl, rfl, _, rfl, iteDT (by show (0 : Int) < ((n + 1 : Nat) : Int); omega) ?_⟩
      refine ⟨_, rfl, bx, 6, rfl, hb, by decide, by decide, fun d H1 d0 d6 u1 => ?_⟩
      refine ⟨_, rfl, _, _, rfl, rfl, _, rfl, ?_⟩
      by_cases c1 : d > 1
      · refine iteDT c1 ?_
        exact ⟨_, rfl, bx, rfl, u1.2, fun v H' u a => k v H' (u1.trans u) a⟩
      · refine iteDF c1 ?_
        refine ⟨_, rfl, bx, 4, rfl, u1.2, by decide, by decide, fun e H2 e0 e4 u2 => ?_⟩
        refine ⟨_, rfl, by omega, by omega, fun D nD => ?_⟩
        have u12 := u1.trans u2
        have Db : D ≠ bx := u2.2.ne nD
        refine lc_it (walk_range (lo := 0) (n := e.toNat)) (fun i H3 => Up bx H2 H3 ∧ ∃ vs : List V, H3 D = some (.lst vs) ∧ vs.length = i) ⟨(Up.refl u2.2).mut nD Db, [], upd_same, rfl⟩ (fun _ _ _ _ => trivial) ?_ ?_
        · rintro i x H3' H3 hi ⟨u3, vs, hD, lvs⟩ ⟨rfl, rfl⟩
          refine ⟨rfl, _, rfl, _, rfl, _, _, rfl, rfl, bx, by show [V.ref bx, V.int (((n + 1 : Nat) : Int) - 1)] = _; rw [show ((n + 1 : Nat) : Int) - 1 = (n : Int) by omega], u3.2, fun v H4 u4 av => ?_⟩
          exact ⟨_, u4.1 _ _ hD Db, sl_lt (by omega), (u3.trans u4).mut nD Db, vs ++ [v], by rw [upd_same], by rw [List.length_append, lvs]; rfl⟩
        rintro H3 ⟨u3, vs, hD, lvs⟩
        have u13 := u12.trans u3
        refine ⟨_, rfl, rfl, _, rfl, ?_⟩
        by_cases c2 : d = 0
        · refine iteDT (by rw [c2]) ?_
          refine ⟨_, rfl, D, _, rfl, .inl ⟨SqL.of hD, fun t nt => ?_⟩⟩
          have st := same_upd (o := .tup vs) nt
          exact k _ _ (u13.same st) (anyU_tup (u13.2.same st) upd_same)
        · refine iteDF (fun z => c2 (V.int.inj z)) ?_
          exact ⟨_, rfl, k _ _ u13 (anyU_lst hD Db)⟩
theorem cal_l_any {f : Addr} {fd : FuncData} (F : Def K mg "_law_any" s_l_any f fd) (b : Binds K fd ["_law_box", "_law_deep"] []) (T : Tx mg) (c_l_choose : Cal P w K mg base 1 "_law_choose" spChoose []) (c_l_leaf : Cal P w K mg base 3 "_law_leaf" (spLeaf K) []) : Cal P w K mg base 12 "_law_any" (spAny K) [] := by
  refine ⟨f, fd, _, [], ⟨fun vs H Q E h => ?_, fun A outer s H args us vs Q E hr e0 hb r h => ?_⟩, F.mgf, F.kp, b, .nil⟩
  · obtain ⟨_, _, rfl, _⟩ := h; rfl
  · obtain ⟨bx, n, rfl, hn, hbx, k⟩ := h
    exact (any_fn F b T c_l_choose c_l_leaf n).run A outer s H args us _ Q E (hr.mono (by omega)) e0 hb r ⟨bx, rfl, hbx, k⟩
end
def spIsRow (K : PySem.W.Frag) : Sp := fun vs H Q _ => ∃ x : V, vs = [x] ∧ AnyS K H x ∧ ∀ H', Same H H' → Q (.bl (wordB x)) H'
def oddL (z : Str) : List Nat := z.cps.toList.filter fun c => !decide (c ∈ ("01" : Str).cps.toList)
theorem oddL_nil {z : Str} : oddL z = [] ↔ isW z = true := by
  unfold oddL isW
  rw [List.filter_eq_nil_iff, List.all_eq_true]
  exact ⟨fun h c hc => by have := h c hc; simpa using this, fun h c hc => by have := h c hc; simpa using this⟩
def sgV (cs : List Nat) : List V := cs.map fun c => V.str ⟨#[c]⟩
theorem dp_sg {K : PySem.W.Frag} {H : Hp} : ∀ cs : List Nat, DpAll K H (sgV cs) (cs.map fun c => PyData.str ⟨#[c]⟩)
  | [] => .nil
  | _ :: r => .cons (.str _) (dp_sg r)
theorem sg_shaped {z : Str} (h : PyData.strOk z = true) (cs : List Nat) (hs : ∀ c ∈ cs, c ∈ z.cps.toList) : SeqAt.shaped (.list (cs.map fun c => PyData.str ⟨#[c]⟩)) = true := by
  unfold PyData.strOk at h
  rw [← Array.all_toList, List.all_eq_true] at h
  have key : ∀ cs : List Nat, (∀ c ∈ cs, c ∈ z.cps.toList) → PyData.canLayAll0 (cs.map fun c => PyData.str ⟨#[c]⟩) = true ∧ PyData.depthAll (cs.map fun c => PyData.str ⟨#[c]⟩) = 0 := fun cs => by
    induction cs with
    | nil => intro _; exact ⟨rfl, rfl⟩
    | cons c r ih =>
      intro hc
      obtain ⟨i1, i2⟩ := ih fun u hu => hc u (List.mem_cons_of_mem _ hu)
      refine ⟨?_, ?_⟩
      · show (PyData.strOk ⟨#[c]⟩ && PyData.canLayAll0 (r.map fun c => PyData.str ⟨#[c]⟩)) = true
        rw [i1, Bool.and_true]
        unfold PyData.strOk
        rw [← Array.all_toList]
        have := h c (hc c List.mem_cons_self)
        simpa using this
      · show max 0 (PyData.depthAll (r.map fun c => PyData.str ⟨#[c]⟩)) = 0
        rw [i2]; rfl
  obtain ⟨k1, k2⟩ := key cs hs
  unfold SeqAt.shaped
  rw [Bool.and_eq_true, decide_eq_true_iff]
  refine ⟨k1, ?_⟩
  show PyData.depthAll _ + 1 ≤ 64
  rw [k2]
  decide
section
variable {P : Program} {w : World} {K : PySem.W.Frag} {mg : Str → Option Value} {base : Heap}
theorem sc_l_is_row : FnScope ["_law_value", "_law_sign"] ["_law_value"] (fnScope s_l_is_row) := fnScope_by (by decide +kernel)
theorem cal_l_is_row {f : Addr} {fd : FuncData} (F : Def K mg "_law_is_row" s_l_is_row f fd) (b : Binds K fd ["_law_value"] []) (T : Tx mg) : Cal P w K mg base 1 "_law_is_row" (spIsRow K) [] := by
  refine cal0 F b .nil sc_l_is_row (fun vs H Q E h => ?_) (fun cdv A outer s H vs Q E hr h => ?_)
  · obtain ⟨_, rfl, _⟩ := h; rfl
  · obtain ⟨x, rfl, hx, k⟩ := h
    refine ⟨_, (pss_one (ps_ret (pe_and (pe_callB call_isi (by rfl) T.b_isinstance (by decide +kernel) (pa_cons (pv 0) (pa_cons (pe_bltn (v := .ty "str") (u := .type "str") (by rfl) T.b_str (by decide +kernel) rfl) pa_nil))) (pe_one (pe_cmpR (op_eqD hr.units) (pe_lc (own := [("_law_sign", 1)]) (g := gName 1) (by rfl) sc_l_is_row.nd (pi_str (pv 0)) (blkOk_by (own := [("_law_sign", 1)]) (N := ["_law_value", "_law_sign"]) (sc := fnScope s_l_is_row) (by decide +kernel)) (fun _ _ _ _ _ => (pg_name (i := 1) sc_l_is_row.nd rfl (.inl rfl))) (fun _ _ _ _ _ => (pts_one (pt_cmpR op_notIn_sign (pv 1) pe_str (by with_unfolding_all rfl)))) (fun _ _ _ _ _ => (pv 1))) (pe_lst pa_nil) (nomark _)))))), ?_⟩
    rcases hx with ⟨z, rfl, hz, ho⟩ | ⟨h1, t, h2, h3⟩
    · refine ⟨_, rfl, _, _, _, _, true, rfl, .ty _, .base (.str z), kit_ty (by decide +kernel), _, rfl, iteBT rfl ?_⟩
      refine ⟨_, rfl, z, rfl, fun D nD => ?_⟩
      refine lc_it walk_str (fun i H2 => Same H H2 ∧ H2 D = some (.lst (sgV ((z.cps.toList.take i).filter fun c => !decide (c ∈ ("01" : Str).cps.toList))))) ⟨same_upd nD, upd_same⟩ (fun _ _ _ _ => trivial) ?_ ?_
      · rintro i y H2' H2 hi ⟨s2, hD⟩ ⟨rfl, c, hc, rfl⟩
        have hc' : z.cps.toList[i]? = some c := by rw [Array.getElem?_toList]; exact hc
        have lz : z.length = z.cps.toList.length := TL.len_tl z
        refine ⟨rfl, _, rfl, c, _, rfl, rfl, _, rfl, ?_⟩
        by_cases hm : c ∈ ("01" : Str).cps.toList
        · refine iteBF (by rw [decide_eq_true hm]; rfl) ?_
          refine ⟨s2, ?_⟩
          rw [hD, List.take_add_one, hc', List.filter_append, show ((some c).toList.filter fun c => !decide (c ∈ ("01" : Str).cps.toList)) = [] by show [c].filter _ = _; rw [List.filter_cons, if_neg (by rw [decide_eq_true hm]; decide)]; rfl, List.append_nil]
        · refine iteBT (by rw [decide_eq_false hm]; rfl) ?_
          refine ⟨_, rfl, _, hD, ?_, same_mut' s2 nD, ?_⟩
          · unfold sgV
            rw [List.length_map]
            refine sl_lt (Nat.lt_of_le_of_lt (List.length_filter_le _ _) ?_)
            rw [List.length_take]
            omega
          · rw [upd_same, List.take_add_one, hc', List.filter_append, show ((some c).toList.filter fun c => !decide (c ∈ ("01" : Str).cps.toList)) = [c] by show [c].filter _ = _; rw [List.filter_cons, if_pos (by rw [decide_eq_false hm]; rfl)]; rfl]
            unfold sgV
            rw [List.map_append]
            rfl
      rintro H2 ⟨s2, hD⟩
      have e : z.cps.toList.take z.cps.size = z.cps.toList := List.take_of_length_le (by simp)
      rw [e] at hD
      refine ⟨by show 0 ≤ sizeLine; decide, fun l nl => ?_⟩
      have sl := same_upd (o := .lst []) nl
      have sh := sg_shaped ho (oddL z) fun c hc => (List.mem_filter.mp hc).1
      refine ⟨.list ((oddL z).map fun c => PyData.str ⟨#[c]⟩), .list [], .lst (SqL.of (sl _ _ hD)) (dp_sg _), .lst (SqL.of upd_same) .nil, sh, by decide, ?_⟩
      have ee : PyData.eqv (.list ((oddL z).map fun c => PyData.str ⟨#[c]⟩)) (.list []) = wordB (.str z) := by
        show _ = isW z
        cases eo : oddL z with
        | nil => rw [oddL_nil.mp eo]; rfl
        | cons c r =>
          cases ew : isW z with
          | false => rfl
          | true =>
            rw [oddL_nil.mpr ew] at eo
            cases eo
      rw [ee]
      exact k _ (s2.trans sl)
    · refine ⟨_, rfl, _, _, _, _, false, rfl, .ty _, h3 H (Same.refl H), h2, _, rfl, iteBF rfl ?_⟩
      have := k H (Same.refl H)
      rw [AnyS.no (K := K) (H := H) h1] at this
      exact this
end
def lenV : V → Nat
  | .str z => z.length
  | _ => 0
def namedM (xp xs : V) : V := if polyB xp then (if startB (lenV xp) xs then .non else .str "start") else .str "poly"
def spNamed (K : PySem.W.Frag) : Sp := fun vs H Q _ => ∃ xp xs : V, vs = [xp, xs] ∧ AnyS K H xp ∧ AnyS K H xs ∧ ∀ H', Same H H' → Q (namedM xp xs) H'
theorem named_W {p : List Bool} {xs : V} : namedM (.str (W p)) xs = if polyL p then (if startB p.length xs then .non else .str "start") else .str "poly" := by
  unfold namedM
  rw [polyB_W]
  show (if polyL p then (if startB (W p).length xs then _ else _) else _) = _
  rw [W_len]
section
variable {P : Program} {w : World} {K : PySem.W.Frag} {mg : Str → Option Value} {base : Heap}
theorem sc_l_named : FnScope ["_law_poly", "_law_start"] ["_law_poly", "_law_start"] (fnScope s_l_named) := fnScope_by (by decide +kernel)
theorem cal_l_named {f : Addr} {fd : FuncData} (F : Def K mg "_law_named" s_l_named f fd) (b : Binds K fd ["_law_poly", "_law_start"] []) (T : Tx mg) (c_l_is_row : Cal P w K mg base 1 "_law_is_row" (spIsRow K) []) : Cal P w K mg base 2 "_law_named" (spNamed K) [] := by
  refine cal0 F b .nil sc_l_named (fun vs H Q E h => ?_) (fun cdv A outer s H vs Q E hr h => ?_)
  · obtain ⟨_, _, rfl, _⟩ := h; rfl
  · obtain ⟨xp, xs, rfl, hp, hs, k⟩ := h
    refine ⟨_, (pss_cons (ps_if (PW.pt (pw_or (pt_not (pt_val (pe_c c_l_is_row hr (by decide) rfl (pa_cons (pv 0) pa_nil)))) (pw_or (pt_cmpR op_ne (pe_slice sl_txt (pv 0) po_none (po_some pe_int)) pe_str (nomark _)) (pw_or1 (pt_cmpR op_ne (pe_slice sl_txt (pv 0) (po_some (pe_op op_sub (pe_callB call_len_str (by rfl) T.b_len (by decide +kernel) (pa_cons (pv 0) pa_nil)) pe_int)) po_none) pe_str (nomark _)))))) (pss_one (ps_ret pe_str)) pss_nil)
    (pss_cons (ps_if (pt_cmpR op_isN (pv 1) pe_non (nomark _)) (pss_one (ps_ret pe_non)) pss_nil)
    (pss_one (ps_ret (pe_ifExp (PW.pt (pw_and (pt_val (pe_c c_l_is_row hr (by decide) rfl (pa_cons (pv 1) pa_nil))) (pw_and1 (pt_cmpR op_eq (pe_callB call_len_str (by rfl) T.b_len (by decide +kernel) (pa_cons (pv 1) pa_nil)) (pe_op op_sub (pe_callB call_len_str (by rfl) T.b_len (by decide +kernel) (pa_cons (pv 0) pa_nil)) pe_int) (nomark _))))) pe_non pe_str))))), ?_⟩
    refine ⟨_, rfl, xp, rfl, hp, fun H1 s1 => ⟨_, rfl, ?_⟩⟩
    cases ew : wordB xp with
    | false =>
      refine iteT ?_
      have := k H1 s1
      unfold namedM at this
      rw [polyB_no ew] at this
      exact this
    | true =>
      obtain ⟨p, rfl⟩ := wordB_some ew
      refine iteF ?_
      rw [named_W] at k
      have lp : p.length ≤ 10000 := by
        rcases hp with ⟨z, e, hz, _⟩ | ⟨h1, _⟩
        · rw [← V.str.inj e, W_len] at hz
          exact hz
        · exact absurd rfl (h1 _)
      have lw : (W p).length ≤ sizeLine := by rw [W_len]; exact sl_len (by omega)
      have wp : (W p).length = p.length := W_len p
      refine ⟨_, rfl, _, rfl, _, rfl, lw, rfl, _, rfl, ?_⟩
      rw [W_take (by decide)]
      by_cases e1 : p.take 1 = [true]
      · refine iteNS (congrArg V.str (by show W (p.take 1) = "1"; rw [e1, W_1])) ?_
        have pn : p ≠ [] := fun z => by rw [z] at e1; cases e1
        have lpos := List.length_pos_iff.mpr pn
        refine ⟨_, rfl, _, rfl, _, rfl, lw, _, _, rfl, rfl, _, rfl, _, rfl, lw, rfl, _, rfl, ?_⟩
        have esl : Txt.slice (W p) (some (((W p).length : Int) - 1)) none = W (p.drop (p.length - 1)) := by
          rw [wp, W_drop (by omega), show ((p.length : Int) - 1).toNat = p.length - 1 by omega]
        rw [esl]
        by_cases e2 : p.drop (p.length - 1) = [true]
        · refine iteNS (congrArg V.str (by rw [e2, W_1])) ?_
          have hP : polyL p = true := by unfold polyL; rw [decide_eq_true e1, decide_eq_true e2]; rfl
          rw [if_pos hP] at k
          by_cases en : xs = .non
          · subst en
            refine ⟨_, rfl, rfl, _, rfl, iteDT rfl ?_⟩
            exact k _ s1
          · refine ⟨_, rfl, rfl, _, rfl, iteDF en ?_⟩
            refine ⟨_, rfl, xs, rfl, hs.same s1, fun H2 s2 => ⟨_, rfl, ?_⟩⟩
            have s12 := s1.trans s2
            cases ew2 : wordB xs with
            | false =>
              refine iteF ?_
              have := k H2 s12
              rw [startB_no en ew2] at this
              exact this
            | true =>
              obtain ⟨st, rfl⟩ := wordB_some ew2
              refine iteT ?_
              have ls : st.length ≤ 10000 := by
                rcases hs with ⟨z, e, hz, _⟩ | ⟨h1, _⟩
                · rw [← V.str.inj e, W_len] at hz
                  exact hz
                · exact absurd rfl (h1 _)
              have lw2 : (W st).length ≤ sizeLine := by rw [W_len]; exact sl_len (by omega)
              have ws : (W st).length = st.length := W_len st
              refine ⟨_, rfl, _, rfl, lw2, _, rfl, _, rfl, lw, _, _, rfl, rfl, rfl, _, rfl, ?_⟩
              have := k H2 s12
              rw [startB_W] at this
              by_cases el : st.length + 1 = p.length
              · refine iteDT (by rw [ws, wp]; congr 1; omega) ?_
                rw [decide_eq_true el] at this
                exact this
              · refine iteDF (fun z => el (by rw [ws, wp] at z; have := V.int.inj z; omega)) ?_
                rw [decide_eq_false el] at this
                exact this
        · refine iteNT (fun z => e2 (W_inj (by rw [V.str.inj z, W_1]))) ?_
          have := k H1 s1
          rw [show polyL p = false by unfold polyL; rw [decide_eq_false e2, Bool.and_false]] at this
          exact this
      · refine iteNT (fun z => e1 (W_inj (by rw [← W_1]; exact V.str.inj z))) ?_
        have := k H1 s1
        rw [show polyL p = false by unfold polyL; rw [decide_eq_false e1]; rfl] at this
        exact this
end
end U

set_option maxRecDepth 100000
set_option maxHeartbeats 4000000
set_option pp.maxSteps 400
namespace U
open PySem PySem.Spec PyProof.Rows
open L2 hiding Fun CX0 E0 pass0 Fun.binds
open C8 Lx SX
theorem Same.madeY {H H' : Hp} {x dx : Addr} {C : Addr} (nx : H x = none) (ndx : H dx = none) (keep : ∀ b o, upd (upd H dx (.own x)) x (.ins C dx []) b = some o → b ≠ x → H' b = some o) : Same H H' := fun c o e =>
  keep c o (by rw [upd_ne (ne_of_none e nx), upd_ne (ne_of_none e ndx)]; exact e) (ne_of_none e nx)
section
variable {P : Program} {w : World} {K : PySem.W.Frag} {mg : Str → Option Value} {base : Heap}
theorem sc_l_heard : FnScope ["_law_poly", "_law_start", "_law_found", "e"] ["_law_poly", "_law_start"] (fnScope s_l_heard) := fnScope_by (by decide +kernel)
theorem cal_l_heard {f C CKI CFE CRu : Addr} {fd : FuncData} (F : Def K mg "_law_heard" s_l_heard f fd) (b : Binds K fd ["_law_poly", "_law_start"] []) (T : Tx mg) (g_InvalidCheck : mg "InvalidCheck" = some (.ref CKI)) (ex_InvalidCheck : PySem.W.exmOne K (.ref CKI) (.ref CKI) = some true) (XF_InvalidCheck : XfC K CKI) (nw_InvalidCheck : PySem.W.findIn K (.ref CKI) "word" = some none)
    (gi_FlipError : mg "FlipError" = some (.ref CFE)) (gi_InvalidRule : mg "InvalidRule" = some (.ref CRu)) (xc_InvalidCheck : L2.ExcC K CKI) (kon_check_flip : PySem.W.kitOne K (.ref CKI) (.ref CFE) = some true) (kon_check_rule : PySem.W.kitOne K (.ref CKI) (.ref CRu) = some false)
    (mX_Check2 : ExS.MakX P w K mg base 3 "Check" C (spCkInitX K C CKI) []) : Cal P w K mg base 5 "_law_heard" (spNamed K) [] := by
  refine cal0 F b .nil sc_l_heard (fun vs H Q E h => ?_) (fun cdv A outer s H vs Q E hr h => ?_)
  · obtain ⟨_, _, rfl, _⟩ := h; rfl
  · obtain ⟨xp, xs, rfl, hp, hs, k⟩ := h
    refine ⟨_, (pss_cons (ps_set (i := 2) sc_l_heard.nd rfl (.inl rfl) pe_non)
    (pss_cons (ps_try_as (i := 3) rfl rfl sc_l_heard.nd rfl rfl ⟨rfl, by decide, .inl g_InvalidCheck⟩ ExS.takes0 (fun W pn xe tk po => (pss_one (ps_expr (ExS.pe_mkT mX_Check2 hr (by decide) tk rfl (pa_cons (pv 0) (pa_cons (pv 1) pa_nil)))))) (fun a oe cls d pn zc zf => (pss_one (ps_set (i := 2) sc_l_heard.nd rfl (.inl rfl) (pe_ifExp (PW.pt (pw_and (pt_val (pe_callB (show CallR _ _ (ExS.rIsD K a cls d) from ExS.call_isD zc zf) (by rfl) T.b_isinstance (by decide +kernel) (pa_cons (pv 3) (pa_cons (pe_glob (v := .ref _) (by rfl) gi_FlipError rfl) pa_nil)))) (pw_and1 (pt_not (pt_val (pe_callB (show CallR _ _ (ExS.rIsD K a cls d) from ExS.call_isD zc zf) (by rfl) T.b_isinstance (by decide +kernel) (pa_cons (pv 3) (pa_cons (pe_glob (v := .ref _) (by rfl) gi_InvalidRule rfl) pa_nil)))))))) (pe_xf XF_InvalidCheck nw_InvalidCheck zc zf (pv 3)) pe_str)))))
    (pss_one (ps_ret (pv 2))))), ?_⟩
    refine ⟨_, rfl, _, rfl, fun x dx nx ndx nex => ?_⟩
    have sm : Same H (upd (upd H dx (.own x)) x (.ins C dx [])) := fun c o e => by
      rw [upd_ne (ne_of_none e nx), upd_ne (ne_of_none e ndx)]; exact e
    refine ⟨x, dx, xp, xs, rfl, upd_same, hp.same sm, hs.same sm, fun hP d H' keep hd => ?_, fun p ep hP hS d H' keep hd => ?_, fun p ep hP hS st H' _ _ keep _ => ?_⟩
    · refine ⟨true, ex_InvalidCheck, fun _ ea hea => ?_, fun z => by cases z⟩
      refine ⟨_, rfl, CKI, d, _, _, _, true, rfl, rfl, rfl, hd, xc_InvalidCheck, .own _, kon_check_flip, _, rfl, iteT ?_⟩
      refine ⟨_, rfl, CKI, d, _, _, _, false, rfl, rfl, rfl, hd, xc_InvalidCheck, .own _, kon_check_rule, _, rfl, iteT ?_⟩
      refine ⟨_, rfl, rfl, rfl, d, _, _, rfl, hd, rfl, ?_⟩
      have := k H' (Same.madeY nx ndx keep)
      unfold namedM at this
      rw [hP] at this
      exact ⟨_, rfl, this⟩
    · refine ⟨true, ex_InvalidCheck, fun _ ea hea => ?_, fun z => by cases z⟩
      refine ⟨_, rfl, CKI, d, _, _, _, true, rfl, rfl, rfl, hd, xc_InvalidCheck, .own _, kon_check_flip, _, rfl, iteT ?_⟩
      refine ⟨_, rfl, CKI, d, _, _, _, false, rfl, rfl, rfl, hd, xc_InvalidCheck, .own _, kon_check_rule, _, rfl, iteT ?_⟩
      refine ⟨_, rfl, rfl, rfl, d, _, _, rfl, hd, rfl, ?_⟩
      have := k H' (Same.madeY nx ndx keep)
      rw [ep, named_W, if_pos hP, hS] at this
      exact ⟨_, rfl, this⟩
    · refine ⟨rfl, _, rfl, ?_⟩
      have := k H' (Same.madeY nx ndx keep)
      rw [ep, named_W, if_pos hP, hS] at this
      exact this
end
def spLaw (K : PySem.W.Frag) : Sp := fun vs H Q _ => ∃ (a : Addr) (ns : List Int), vs = [.ref a] ∧ SqL K H a (ns.map V.int) ∧ ns.length ≤ 63 ∧ ∀ H', Q (.bl true) H'
theorem mk_ck0 {C : Addr} {H : Hp} {R : Addr → Hp → Prop} {E : XK} (k : ∀ x H', Same H H' → CkAt C H' x [true] [] → R x H') :
    ∀ x dx, H x = none → H dx = none → dx ≠ x → spCkInit C [.ref x, .str "1", .non] (upd (upd H dx (.own x)) x (.ins C dx [])) (fun v H2 => v = .non ∧ R x H2) E := by
  intro x dx nx ndx nex
  rw [W_1]
  exact ⟨x, dx, [true], [], .non, rfl, upd_same, ⟨rfl, rfl, rfl⟩, by decide, .inr ⟨rfl, rfl⟩, fun H5 keep hx => ⟨rfl, k x H5 (Same.madeY nx ndx keep) ⟨dx, hx⟩⟩⟩
/-- two values that are asked -/
def AskV (K : PySem.W.Frag) (b : Addr) (H : Hp) (r : Addr) : Prop := ∃ x y, H r = some (.tup [x, y]) ∧ AnyU K b H x ∧ AnyU K b H y
theorem AskV.same {K : PySem.W.Frag} {b : Addr} {H H' : Hp} {r : Addr} (h : AskV K b H r) (hb : Box H b) (s : Same H H') : AskV K b H' r := by
  obtain ⟨x, y, h1, h2, h3⟩ := h
  exact ⟨x, y, s _ _ h1, h2.up (Up.of_same hb s), h3.up (Up.of_same hb s)⟩
theorem askV {K : PySem.W.Frag} {b r : Addr} {H : Hp} {x y : V} (hb : Box H b) (n : H r = none) (hx : AnyU K b H x) (hy : AnyU K b H y) : Same H (upd H r (.tup [x, y])) ∧ AskV K b (upd H r (.tup [x, y])) r :=
  ⟨same_upd n, x, y, upd_same, hx.up (Up.of_same hb (same_upd n)), hy.up (Up.of_same hb (same_upd n))⟩
/-- a scalar, a list or a tuple -/
def AnyB (H : Hp) (v : V) : Prop := scalB v = true ∨ ∃ a xs, v = .ref a ∧ (H a = some (.lst xs) ∨ H a = some (.tup xs))
theorem AnyB.same {H H' : Hp} {v : V} (h : AnyB H v) (s : Same H H') : AnyB H' v := by
  rcases h with h | ⟨a, xs, e, h⟩
  · exact .inl h
  · exact .inr ⟨a, xs, e, h.imp (s _ _) (s _ _)⟩
theorem AnyB.u {K : PySem.W.Frag} {b : Addr} {H H1 : Hp} {v : V} (h : AnyB H v) (n : H b = none) (s : Same H H1) (hb : Box H1 b) : AnyU K b H1 v := by
  rcases h with h | ⟨a, xs, rfl, h⟩
  · exact scal_any h
  · rcases h with h | h
    · exact anyU_lst (s _ _ h) (ne_of_none h n)
    · exact anyU_tup hb (s _ _ h)
theorem ok_poly {p s : List Bool} (h : CkOk p s) : polyL p = true ∧ startB p.length (.str (W s)) = true ∧ startB p.length .non = true := by
  refine ⟨?_, by rw [startB_W, decide_eq_true h.len], rfl⟩
  have h1 := h.hd
  have h2 := h.last
  unfold polyL
  cases p with
  | nil => cases h1
  | cons b r =>
    have e1 : (b :: r).take 1 = [true] := by
      show [b] = [true]
      rw [List.head?_cons] at h1
      rw [Option.some.inj h1]
    have e2 : (b :: r).drop ((b :: r).length - 1) = [true] := W_inj (by rw [last1 h2, W_1])
    rw [decide_eq_true e1, decide_eq_true e2]
    rfl
theorem sOk_W (x : List Bool) : PyData.strOk (W x) = true := by
  unfold PyData.strOk
  rw [← Array.all_toList, W_tl, List.all_map, List.all_eq_true]
  intro b _
  cases b <;> decide
theorem anyU_W {K : PySem.W.Frag} {b : Addr} {H : Hp} {l : List Bool} (h : l.length ≤ 10000) : AnyU K b H (.str (W l)) := anyU_str (by rw [W_len]; exact h) (sOk_W l)
section
variable {P : Program} {w : World} {K : PySem.W.Frag} {mg : Str → Option Value} {base : Heap}
theorem sc_law : FnScope ["_law_script", "_law_some", "_law_odd", "_law_k", "_law_box", "_law_turn", "_law_poly", "_law_start", "_law_bad", "_law_worse", "_law_value", "_law_mate", "_law_asked", "_law_one", "_law_more"] ["_law_script"] (fnScope s_law) := fnScope_by (by decide +kernel)
theorem ok_law {f CK : Addr} {fd : FuncData} (F : Def K mg "law" s_law f fd) (T : Tx mg) (IS_Check : IsT K CK) (kon_check_str : PySem.W.kitOne K (.ref CK) (.type "str") = some false) (c_l_seed : Cal P w K mg base 1 "_law_seed" (spSeed K) []) (c_l_one_of : Cal P w K mg base 2 "_law_one_of" spOneOf []) (c_l_check : Cal P w K mg base 4 "_law_check" spCheck []) (c_l_any : Cal P w K mg base 12 "_law_any" (spAny K) []) (c_l_heard : Cal P w K mg base 5 "_law_heard" (spNamed K) []) (c_l_named : Cal P w K mg base 2 "_law_named" (spNamed K) [])
    (m_Check0 : Mak P w K mg base 2 "Check" CK (spCkInit CK) [.str "1", .non]) : FnOk P w K mg base CX0 14 f fd ["_law_script"] (spLaw K) := by
  refine fn0 F.fn sc_law (fun vs H Q E h => ?_) (fun cdv A outer s H vs Q E hr h => ?_)
  · obtain ⟨_, _, rfl, _⟩ := h; rfl
  · obtain ⟨a, ns, rfl, hS, hlen, k⟩ := h
    refine ⟨_, (pss_cons (ps_set (i := 1) sc_law.nd rfl (.inl rfl) (pe_lst (pa_cons pe_str (pa_cons pe_str (pa_cons pe_str (pa_cons pe_str (pa_cons pe_str (pa_cons pe_str (pa_cons pe_str (pa_cons pe_str (pa_cons pe_str (pa_cons pe_int (pa_cons pe_int (pa_cons pe_bl (pa_cons pe_non (pa_cons (pe_lst (pa_cons pe_str pa_nil)) (pa_cons (pe_tup (pa_cons pe_str (pa_cons pe_str pa_nil))) pa_nil)))))))))))))))))
    (pss_cons (ps_set (i := 2) sc_law.nd rfl (.inl rfl) (pe_lst (pa_cons pe_str (pa_cons pe_str (pa_cons pe_str (pa_cons pe_int (pa_cons pe_bl (pa_cons (pe_lst pa_nil) (pa_cons (pe_tup (pa_cons pe_str pa_nil)) (pa_cons (pe_lst (pa_cons pe_str pa_nil)) (pa_cons pe_str (pa_cons pe_str pa_nil))))))))))))
    (pss_cons (ps_for PassesOwn.never rfl (pi_range1 (by rfl) T.b_range (pa_cons (pe_callB (call_max2 rfl) (by rfl) T.b_max (by decide +kernel) (pa_cons pe_int (pa_cons (pe_callB (call_min2 rfl) (by rfl) T.b_min (by decide +kernel) (pa_cons pe_int (pa_cons (pe_callB call_len_seq (by rfl) T.b_len (by decide +kernel) (pa_cons (pv 0) pa_nil)) pa_nil))) pa_nil))) pa_nil)) (pg_name (i := 3) sc_law.nd rfl (.inl rfl))
    (pss_cons (ps_set (i := 4) sc_law.nd rfl (.inl rfl) (pe_c c_l_seed hr (by decide) rfl (pa_cons (pv 0) (pa_cons (pv 3) pa_nil))))
    (pss_cons (ps_for PassesOwn.never rfl (pi_range1 (by rfl) T.b_range (pa_cons pe_int pa_nil)) (pg_name (i := 5) sc_law.nd rfl (.inl rfl))
    (pss_cons (ps_asg (pe_c c_l_check hr (by decide) rfl (pa_cons (pv 4) (pa_cons pe_int pa_nil))) (pg_tup rfl (pgs_cons (pg_name (i := 6) sc_law.nd rfl (.inl rfl)) (pgs_cons (pg_name (i := 7) sc_law.nd rfl (.inl rfl)) pgs_nil))))
    (pss_cons (ps_if (PW.pt (pw_or (pt_cmpR op_notN (pe_c c_l_heard hr (by decide) rfl (pa_cons (pv 6) (pa_cons (pv 7) pa_nil))) pe_non (nomark _)) (pw_or1 (pt_cmpR op_notN (pe_c c_l_heard hr (by decide) rfl (pa_cons (pv 6) (pa_cons pe_non pa_nil))) pe_non (nomark _))))) (pss_one (ps_ret pe_bl)) pss_nil)
    (pss_cons (ps_par (i := 8) (j := 9) (by rfl) sc_law.nd rfl rfl (by decide) rfl rfl (pa_cons (pe_c c_l_one_of hr (by decide) rfl (pa_cons (pv 4) (pa_cons (pv 1) pa_nil))) (pa_cons (pe_c c_l_one_of hr (by decide) rfl (pa_cons (pv 4) (pa_cons (pe_op op_cat (pv 2) (pe_lst (pa_cons (pe_op op_add_str (pv 7) pe_str) (pa_cons (pe_lst (pa_cons (pv 7) pa_nil)) (pa_cons (pe_op op_add_str (pv 7) pe_str) pa_nil))))) pa_nil))) pa_nil)) (by rfl))
    (pss_cons (ps_par (i := 10) (j := 11) (by rfl) sc_law.nd rfl rfl (by decide) rfl rfl (pa_cons (pe_c c_l_any hr (by decide) rfl (pa_cons (pv 4) (pa_cons pe_int pa_nil))) (pa_cons (pe_lst (pa_cons (pe_c c_l_any hr (by decide) rfl (pa_cons (pv 4) (pa_cons pe_int pa_nil))) pa_nil)) pa_nil)) (by rfl))
    (pss_cons (ps_set (i := 12) sc_law.nd rfl (.inl rfl) (pe_lst (pa_cons (pe_tup (pa_cons (pv 8) (pa_cons (pv 7) pa_nil))) (pa_cons (pe_tup (pa_cons (pv 8) (pa_cons (pv 9) pa_nil))) (pa_cons (pe_tup (pa_cons (pv 6) (pa_cons (pv 9) pa_nil))) (pa_cons (pe_tup (pa_cons (pv 10) (pa_cons pe_non pa_nil))) (pa_cons (pe_tup (pa_cons (pv 6) (pa_cons (pv 10) pa_nil))) (pa_cons (pe_tup (pa_cons (pv 11) (pa_cons (pv 11) pa_nil))) pa_nil))))))))
    (pss_one (ps_for PassesOwn.never rfl (pi_list (pv 12)) (pg_tup rfl (pgs_cons (pg_name (i := 13) sc_law.nd rfl (.inl rfl)) (pgs_cons (pg_name (i := 14) sc_law.nd rfl (.inl rfl)) pgs_nil)))
    (pss_one (ps_if (pt_cmpR op_ne (pe_c c_l_heard hr (by decide) rfl (pa_cons (pv 13) (pa_cons (pv 14) pa_nil))) (pe_c c_l_named hr (by decide) rfl (pa_cons (pv 13) (pa_cons (pv 14) pa_nil))) (nomark _)) (pss_one (ps_ret pe_bl)) pss_nil))))))))))
    (pss_one (ps_if (PW.pt (pw_or (pt_cmpR op_ne (pe_c c_l_heard hr (by decide) rfl (pa_cons (pe_mk0 m_Check0 hr (by decide) rfl) (pa_cons pe_non pa_nil))) pe_str (nomark _)) (pw_or1 (pt_cmpR op_ne (pe_c c_l_heard hr (by decide) rfl (pa_cons pe_str (pa_cons (pe_mk0 m_Check0 hr (by decide) rfl) pa_nil))) pe_str (nomark _))))) (pss_one (ps_ret pe_bl)) pss_nil)))))
    (pss_one (ps_ret (pe_and (pe_cmpR op_isN (pe_c c_l_heard hr (by decide) rfl (pa_cons pe_str (pa_cons pe_str pa_nil))) pe_non (nomark _)) (pe_one (pe_cmpR op_eq (pe_c c_l_heard hr (by decide) rfl (pa_cons pe_str (pa_cons pe_str pa_nil))) pe_str (nomark _))))))))), ?_⟩
    refine ⟨by show 1 ≤ sizeLine; decide, fun a1 n1 => ⟨by show 2 ≤ sizeLine; decide, fun a2 n2 => ⟨by show 15 ≤ sizeLine; decide, fun l1 n3 => ?_⟩⟩⟩
    have s1 := same_upd (o := .lst [.str "1"]) n1
    have e1 : upd H a1 (.lst [.str "1"]) a1 = some (.lst [.str "1"]) := upd_same
    generalize upd H a1 (.lst [.str "1"]) = H1 at s1 e1 n2 n3 ⊢
    have s2 := same_upd (o := .tup [.str "1", .str "1"]) n2
    have e2 : upd H1 a2 (.tup [.str "1", .str "1"]) a2 = some (.tup [.str "1", .str "1"]) := upd_same
    generalize upd H1 a2 (.tup [.str "1", .str "1"]) = H2 at s2 e2 n3 ⊢
    have s3 := same_upd (o := .lst [.str "", .str "0", .str "10", .str "01", .str "12", .str "1 1", .str "1a1", .str "1\n", .str "-1", .int 1, .int 11, .bl true, .non, .ref a1, .ref a2]) n3
    have e3 : upd H2 l1 (.lst [.str "", .str "0", .str "10", .str "01", .str "12", .str "1 1", .str "1a1", .str "1\n", .str "-1", .int 1, .int 11, .bl true, .non, .ref a1, .ref a2]) l1 = some (.lst [.str "", .str "0", .str "10", .str "01", .str "12", .str "1 1", .str "1a1", .str "1\n", .str "-1", .int 1, .int 11, .bl true, .non, .ref a1, .ref a2]) := upd_same
    generalize upd H2 l1 (.lst [.str "", .str "0", .str "10", .str "01", .str "12", .str "1 1", .str "1a1", .str "1\n", .str "-1", .int 1, .int 11, .bl true, .non, .ref a1, .ref a2]) = H3 at s3 e3 ⊢
    have hl1 : ∀ v ∈ ([.str "", .str "0", .str "10", .str "01", .str "12", .str "1 1", .str "1a1", .str "1\n", .str "-1", .int 1, .int 11, .bl true, .non, .ref a1, .ref a2] : List V), AnyB H3 v := fun v hv => by
      have hsc : ∀ v ∈ ([.str "", .str "0", .str "10", .str "01", .str "12", .str "1 1", .str "1a1", .str "1\n", .str "-1", .int 1, .int 11, .bl true, .non] : List V), scalB v = true := List.all_eq_true.mp (by decide +kernel)
      rcases List.mem_append.mp (show v ∈ ([.str "", .str "0", .str "10", .str "01", .str "12", .str "1 1", .str "1a1", .str "1\n", .str "-1", .int 1, .int 11, .bl true, .non] : List V) ++ [.ref a1, .ref a2] from hv) with h | h
      · exact .inl (hsc v h)
      · rcases List.mem_cons.mp h with rfl | h
        · exact .inr ⟨a1, _, rfl, .inl (s3 _ _ (s2 _ _ e1))⟩
        · rw [List.mem_singleton.mp h]
          exact .inr ⟨a2, _, rfl, .inr (s3 _ _ e2)⟩
    have s13 := (s1.trans s2).trans s3
    have len1 : 0 < ([.str "", .str "0", .str "10", .str "01", .str "12", .str "1 1", .str "1a1", .str "1\n", .str "-1", .int 1, .int 11, .bl true, .non, .ref a1, .ref a2] : List V).length ∧ ([.str "", .str "0", .str "10", .str "01", .str "12", .str "1 1", .str "1a1", .str "1\n", .str "-1", .int 1, .int 11, .bl true, .non, .ref a1, .ref a2] : List V).length < 1000 := ⟨by show 0 < 15; decide, by show 15 < 1000; decide⟩
    generalize ([.str "", .str "0", .str "10", .str "01", .str "12", .str "1 1", .str "1a1", .str "1\n", .str "-1", .int 1, .int 11, .bl true, .non, .ref a1, .ref a2] : List V) = xs1 at e3 hl1 len1
    clear s1 s2 s3 e1 e2 n1 n2 n3
    refine ⟨by show 0 ≤ sizeLine; decide, fun a1 n1 => ⟨by show 1 ≤ sizeLine; decide, fun a2 n2 => ⟨by show 1 ≤ sizeLine; decide, fun a3 n3 => ⟨by show 10 ≤ sizeLine; decide, fun l2 n4 => ?_⟩⟩⟩⟩
    have s1 := same_upd (o := .lst []) n1
    have e1 : upd H3 a1 (.lst []) a1 = some (.lst []) := upd_same
    generalize upd H3 a1 (.lst []) = H4 at s1 e1 n2 n3 n4 ⊢
    have s2 := same_upd (o := .tup [.str "0"]) n2
    have e2 : upd H4 a2 (.tup [.str "0"]) a2 = some (.tup [.str "0"]) := upd_same
    generalize upd H4 a2 (.tup [.str "0"]) = H5 at s2 e2 n3 n4 ⊢
    have s3 := same_upd (o := .lst [.str "0"]) n3
    have e4 : upd H5 a3 (.lst [.str "0"]) a3 = some (.lst [.str "0"]) := upd_same
    generalize upd H5 a3 (.lst [.str "0"]) = H6 at s3 e4 n4 ⊢
    have s4 := same_upd (o := .lst [.str "2", .str "0 0", .str "00000", .int 0, .bl false, .ref a1, .ref a2, .ref a3, .str "a", .str "\n"]) n4
    have e5 : upd H6 l2 (.lst [.str "2", .str "0 0", .str "00000", .int 0, .bl false, .ref a1, .ref a2, .ref a3, .str "a", .str "\n"]) l2 = some (.lst [.str "2", .str "0 0", .str "00000", .int 0, .bl false, .ref a1, .ref a2, .ref a3, .str "a", .str "\n"]) := upd_same
    generalize upd H6 l2 (.lst [.str "2", .str "0 0", .str "00000", .int 0, .bl false, .ref a1, .ref a2, .ref a3, .str "a", .str "\n"]) = H7 at s4 e5 ⊢
    have hl2 : ∀ v ∈ ([.str "2", .str "0 0", .str "00000", .int 0, .bl false, .ref a1, .ref a2, .ref a3, .str "a", .str "\n"] : List V), AnyB H7 v := fun v hv => by
      have hsc : ∀ v ∈ ([.str "2", .str "0 0", .str "00000", .int 0, .bl false, .str "a", .str "\n"] : List V), scalB v = true := List.all_eq_true.mp (by decide +kernel)
      have hv : v ∈ ([.str "2", .str "0 0", .str "00000", .int 0, .bl false, .str "a", .str "\n"] : List V) ∨ v = .ref a1 ∨ v = .ref a2 ∨ v = .ref a3 := by
        simp only [List.mem_cons, List.not_mem_nil, or_false] at hv ⊢
        rcases hv with h | h | h | h | h | h | h | h | h | h <;> simp [h]
      rcases hv with h | rfl | rfl | rfl
      · exact .inl (hsc v h)
      · exact .inr ⟨a1, _, rfl, .inl (s4 _ _ (s3 _ _ (s2 _ _ e1)))⟩
      · exact .inr ⟨a2, _, rfl, .inr (s4 _ _ (s3 _ _ e2))⟩
      · exact .inr ⟨a3, _, rfl, .inl (s4 _ _ e4)⟩
    have s47 := ((s1.trans s2).trans s3).trans s4
    have len2 : ([.str "2", .str "0 0", .str "00000", .int 0, .bl false, .ref a1, .ref a2, .ref a3, .str "a", .str "\n"] : List V).length = 10 := rfl
    generalize ([.str "2", .str "0 0", .str "00000", .int 0, .bl false, .ref a1, .ref a2, .ref a3, .str "a", .str "\n"] : List V) = xs2 at e5 hl2 len2
    have e37 := s47 _ _ e3
    have hl17 : ∀ v ∈ xs1, AnyB H7 v := fun v hv => (hl1 v hv).same s47
    have s07 := s13.trans s47
    have hS7 := s07.seq hS
    clear s1 s2 s3 s4 e1 e2 e4 n1 n2 n3 n4 e3 hl1 s13 s47
    refine ⟨_, rfl, a, _, rfl, .inl hS7, _, _, rfl, _, _, rfl, _, rfl, by split <;> split <;> omega, by rw [List.length_map]; split <;> split <;> omega, ?_⟩
    refine for_it walk_range (fun i σ H2 => ∃ v3 v4 v5 v6 v7 v8 v9 v10 v11 v12 v13 v14 : Option V, σ = [some (.ref a), some (.ref l1), some (.ref l2), v3, v4, v5, v6, v7, v8, v9, v10, v11, v12, v13, v14] ∧ Same H7 H2) ⟨_, _, _, _, _, _, _, _, _, _, _, _, rfl, Same.refl _⟩ (fun _ _ _ _ _ => trivial) ?_ ?_
    · rintro i x σ H8' H8 hi ⟨v3, v4, v5, v6, v7, v8, v9, v10, v11, v12, v13, v14, rfl, s8⟩ ⟨rfl, rfl⟩
      refine ⟨_, rfl, _, rfl, a, ns, i, (by show [V.ref a, V.int (0 + (i : Int))] = _; rw [Int.zero_add]), s8.seq hS7, fun bx H9 nb s9 hb => ?_⟩
      have n7 : H7 bx = none := s8.free nb
      have s79 := s8.trans s9
      have b1 : l1 ≠ bx := ne_of_none e37 n7
      have b2 : l2 ≠ bx := ne_of_none e5 n7
      have an1 : ∀ v ∈ xs1, AnyU K bx H9 v := fun v hv => (hl17 v hv).u n7 s79 hb
      have an2 : ∀ v ∈ xs2, AnyU K bx H9 v := fun v hv => (hl2 v hv).u n7 s79 hb
      have e91 := s79 _ _ e37
      have e92 := s79 _ _ e5
      refine ⟨_, rfl, by decide, by decide, for_it walk_range (fun j σ H10 => ∃ v3 v5 v6 v7 v8 v9 v10 v11 v12 v13 v14 : Option V, σ = [some (.ref a), some (.ref l1), some (.ref l2), v3, some (.ref bx), v5, v6, v7, v8, v9, v10, v11, v12, v13, v14] ∧ Up bx H9 H10) ⟨_, _, _, _, _, _, _, _, _, _, _, rfl, Up.refl hb⟩ (fun _ _ _ _ _ => trivial) ?_ ?_⟩
      · rintro j y σ H10' H10 hj ⟨v3, v5, v6, v7, v8, v9, v10, v11, v12, v13, v14, rfl, u10⟩ ⟨rfl, rfl⟩
        refine ⟨_, rfl, bx, 4, rfl, u10.2, by decide, fun tc p st H11 ntc u11 htc ck lst => ?_⟩
        refine ⟨tc, _, rfl, SqT.of htc, rfl, _, _, rfl, _, _, rfl, rfl, ?_⟩
        have lp : p.length = st.length + 1 := ck.len.symm
        obtain ⟨ok1, ok2, ok3⟩ := ok_poly ck
        have u911 := u10.trans u11
        have ap : ∀ {H'}, AnyS K H' (.str (W p)) := anyS_str (by rw [W_len]; omega) (sOk_W p)
        have as : ∀ {H'}, AnyS K H' (.str (W st)) := anyS_str (by rw [W_len]; omega) (sOk_W st)
        refine ⟨_, rfl, _, rfl, _, _, rfl, ap, as, fun H12 s12 => ?_⟩
        rw [named_W, if_pos ok1, ok2]
        refine ⟨rfl, _, rfl, iteNS rfl ?_⟩
        refine ⟨_, rfl, _, _, rfl, ap, anyS_non, fun H13 s13 => ?_⟩
        rw [named_W, if_pos ok1, ok3]
        refine ⟨rfl, _, rfl, iteNS rfl ?_⟩
        have u913 := (u911.same s12).same s13
        clear htc ntc u11 u10 u911 s12 s13
        refine ⟨_, rfl, _, rfl, bx, l1, xs1, rfl, u913.2, u913.1 _ _ e91 b1, b1, len1.1, len1.2, fun bad H14 hbad u14 => ?_⟩
        have abad := ((an1 bad hbad).up u913).up u14
        have u914 := u913.trans u14
        clear u913 u14
        have ws : (W st).length = st.length := W_len st
        have l1' : ("1" : Str).length = 1 := by decide +kernel
        have l0' : ("0" : Str).length = 1 := by decide +kernel
        refine ⟨_, rfl, _, rfl, _, rfl, _, _, rfl, rfl, by rw [ws, l1']; exact sl_len (by omega), _, rfl, by show 1 ≤ sizeLine; decide, fun p1 np1 => ⟨_, rfl, _, _, rfl, rfl, by rw [ws, l0']; exact sl_len (by omega), by show 3 ≤ sizeLine; decide, fun p2 np2 => ?_⟩⟩
        have e1w : W st ++ ("1" : Str) = W (st ++ [true]) := by rw [W_1, W_cat]
        have e0w : W st ++ ("0" : Str) = W (st ++ [false]) := by rw [W_0, W_cat]
        rw [e1w, e0w]
        have sp1 := same_upd (o := .lst [.str (W st)]) np1
        have hp1 : upd H14 p1 (.lst [.str (W st)]) p1 = some (.lst [.str (W st)]) := upd_same
        generalize upd H14 p1 (.lst [.str (W st)]) = H15 at sp1 hp1 np2 ⊢
        have sp2 := same_upd (o := .lst [.str (W (st ++ [true])), .ref p1, .str (W (st ++ [false]))]) np2
        have hp2 : upd H15 p2 (.lst [.str (W (st ++ [true])), .ref p1, .str (W (st ++ [false]))]) p2 = some (.lst [.str (W (st ++ [true])), .ref p1, .str (W (st ++ [false]))]) := upd_same
        have hp12 := sp2 _ _ hp1
        generalize upd H15 p2 (.lst [.str (W (st ++ [true])), .ref p1, .str (W (st ++ [false]))]) = H16 at sp2 hp2 hp12 ⊢
        have u916 := (u914.same sp1).same sp2
        have p1b : p1 ≠ bx := u914.2.ne np1
        refine ⟨l2, p2, _, _, rfl, rfl, u916.1 _ _ e92 b2, hp2, by rw [len2]; show 10 + 3 ≤ sizeLine; decide, fun p3 np3 => ?_⟩
        have sp3 := same_upd (o := .lst (xs2 ++ [.str (W (st ++ [true])), .ref p1, .str (W (st ++ [false]))])) np3
        have hp3 : upd H16 p3 (.lst (xs2 ++ [.str (W (st ++ [true])), .ref p1, .str (W (st ++ [false]))])) p3 = some (.lst (xs2 ++ [.str (W (st ++ [true])), .ref p1, .str (W (st ++ [false]))])) := upd_same
        have hp13 := sp3 _ _ hp12
        have p3b : p3 ≠ bx := u916.2.ne np3
        generalize upd H16 p3 (.lst (xs2 ++ [.str (W (st ++ [true])), .ref p1, .str (W (st ++ [false]))])) = H17 at sp3 hp3 hp13 ⊢
        have u917 := u916.same sp3
        have abad17 := abad.up (Up.of_same u914.2 ((sp1.trans sp2).trans sp3))
        refine ⟨bx, p3, _, rfl, u917.2, hp3, p3b, by rw [List.length_append, len2]; show 0 < 13; decide, by rw [List.length_append, len2]; show 13 < 1000; decide, fun wo H18 hwo u18 => ⟨_, _, rfl, ?_⟩⟩
        have awo : AnyU K bx H18 wo := by
          rcases List.mem_append.mp hwo with h | h
          · exact ((an2 wo h).up u917).up u18
          · simp only [List.mem_cons, List.not_mem_nil, or_false] at h
            rcases h with rfl | rfl | rfl
            · exact anyU_W (by rw [List.length_append]; show st.length + 1 ≤ 10000; omega)
            · exact anyU_lst (u18.1 _ _ hp13 p1b) p1b
            · exact anyU_W (by rw [List.length_append]; show st.length + 1 ≤ 10000; omega)
        have abad18 := abad17.up u18
        have u918 := u917.trans u18
        clear hwo hp13 hp12 hp2 hp1 hp3 np1 np2 np3 sp1 sp2 sp3 u914 u916 u917 u18 abad abad17 e1w e0w
        refine ⟨_, rfl, bx, 8, rfl, by decide, u918.2, fun va H19 u19 ava => ?_⟩
        refine ⟨_, rfl, bx, 7, rfl, by decide, u19.2, fun vb H20 u20 avb => ⟨by show 1 ≤ sizeLine; decide, fun p1 np1 => ⟨_, _, rfl, ?_⟩⟩⟩
        have u920 := (u918.trans u19).trans u20
        have p1b' : p1 ≠ bx := u20.2.ne np1
        have sp1 := same_upd (o := .lst [vb]) np1
        have hp1 : upd H20 p1 (.lst [vb]) p1 = some (.lst [vb]) := upd_same
        have u20s := (u20).same sp1
        generalize upd H20 p1 (.lst [vb]) = H21 at sp1 hp1 u20s ⊢
        have ava21 := ava.up u20s
        have amate : AnyU K bx H21 (.ref p1) := anyU_lst hp1 p1b'
        have abad21 := (abad18.up u19).up u20s
        have awo21 := (awo.up u19).up u20s
        have u921 := u920.same sp1
        clear abad18 awo ava u918 u19 u20 u20s u920 sp1 np1 hp1 avb
        refine ⟨_, rfl, _, rfl, by show 2 ≤ sizeLine; decide, fun t1 m1 => ?_⟩
        have b1' : Box H21 bx := u921.2
        obtain ⟨q1, r1⟩ := askV (K := K) (x := bad) (y := .str (W st)) b1' m1 abad21 (anyU_W (by omega))
        generalize upd H21 t1 (.tup [bad, .str (W st)]) = J1 at q1 r1 ⊢
        have v1 : Up bx H21 J1 := Up.of_same u921.2 q1
        refine ⟨_, rfl, _, rfl, by show 2 ≤ sizeLine; decide, fun t2 m2 => ?_⟩
        have b2' : Box J1 bx := v1.2
        obtain ⟨q2, r2⟩ := askV (K := K) (x := bad) (y := wo) b2' m2 (abad21.up v1) (awo21.up v1)
        generalize upd J1 t2 (.tup [bad, wo]) = J2 at q2 r2 ⊢
        have v2 : Up bx H21 J2 := v1.same q2
        refine ⟨_, rfl, _, rfl, by show 2 ≤ sizeLine; decide, fun t3 m3 => ?_⟩
        have b3' : Box J2 bx := v2.2
        obtain ⟨q3, r3⟩ := askV (K := K) (x := .str (W p)) (y := wo) b3' m3 (anyU_W (by omega)) (awo21.up v2)
        generalize upd J2 t3 (.tup [.str (W p), wo]) = J3 at q3 r3 ⊢
        have v3 : Up bx H21 J3 := v2.same q3
        refine ⟨_, rfl, by show 2 ≤ sizeLine; decide, fun t4 m4 => ?_⟩
        have b4' : Box J3 bx := v3.2
        obtain ⟨q4, r4⟩ := askV (K := K) (x := va) (y := .non) b4' m4 (ava21.up v3) (scal_any rfl)
        generalize upd J3 t4 (.tup [va, .non]) = J4 at q4 r4 ⊢
        have v4 : Up bx H21 J4 := v3.same q4
        refine ⟨_, rfl, _, rfl, by show 2 ≤ sizeLine; decide, fun t5 m5 => ?_⟩
        have b5' : Box J4 bx := v4.2
        obtain ⟨q5, r5⟩ := askV (K := K) (x := .str (W p)) (y := va) b5' m5 (anyU_W (by omega)) (ava21.up v4)
        generalize upd J4 t5 (.tup [.str (W p), va]) = J5 at q5 r5 ⊢
        have v5 : Up bx H21 J5 := v4.same q5
        refine ⟨_, rfl, _, rfl, by show 2 ≤ sizeLine; decide, fun t6 m6 => ?_⟩
        have b6' : Box J5 bx := v5.2
        obtain ⟨q6, r6⟩ := askV (K := K) (x := .ref p1) (y := .ref p1) b6' m6 (amate.up v5) (amate.up v5)
        generalize upd J5 t6 (.tup [.ref p1, .ref p1]) = J6 at q6 r6 ⊢
        have v6 : Up bx H21 J6 := v5.same q6
        refine ⟨by show 6 ≤ sizeLine; decide, fun la nla => ?_⟩
        have qla := same_upd (o := .lst [.ref t1, .ref t2, .ref t3, .ref t4, .ref t5, .ref t6]) nla
        have hla : upd J6 la (.lst [.ref t1, .ref t2, .ref t3, .ref t4, .ref t5, .ref t6]) la = some (.lst [.ref t1, .ref t2, .ref t3, .ref t4, .ref t5, .ref t6]) := upd_same
        have ask : ∀ v ∈ ([.ref t1, .ref t2, .ref t3, .ref t4, .ref t5, .ref t6] : List V), ∃ r, v = .ref r ∧ AskV K bx (upd J6 la (.lst [.ref t1, .ref t2, .ref t3, .ref t4, .ref t5, .ref t6])) r := fun v hv => by
          simp only [List.mem_cons, List.not_mem_nil, or_false] at hv
          rcases hv with rfl | rfl | rfl | rfl | rfl | rfl
          · exact ⟨t1, rfl, (((((r1.same v1.2 q2).same v2.2 q3).same v3.2 q4).same v4.2 q5).same v5.2 q6).same v6.2 qla⟩
          · exact ⟨t2, rfl, ((((r2.same v2.2 q3).same v3.2 q4).same v4.2 q5).same v5.2 q6).same v6.2 qla⟩
          · exact ⟨t3, rfl, (((r3.same v3.2 q4).same v4.2 q5).same v5.2 q6).same v6.2 qla⟩
          · exact ⟨t4, rfl, ((r4.same v4.2 q5).same v5.2 q6).same v6.2 qla⟩
          · exact ⟨t5, rfl, (r5.same v5.2 q6).same v6.2 qla⟩
          · exact ⟨t6, rfl, r6.same v6.2 qla⟩
        have uJ := (u921.trans v6).same qla
        generalize upd J6 la (.lst [.ref t1, .ref t2, .ref t3, .ref t4, .ref t5, .ref t6]) = J7 at hla ask uJ ⊢
        generalize ([.ref t1, .ref t2, .ref t3, .ref t4, .ref t5, .ref t6] : List V) = xsl at hla ask
        clear r1 r2 r3 r4 r5 r6 q1 q2 q3 q4 q5 q6 v1 v2 v3 v4 v5 v6 qla nla
        refine ⟨_, rfl, la, rfl, ⟨_, SqL.of hla⟩, ?_⟩
        refine for_it (walk_list (xs := xsl)) (fun i2 σ H' => ∃ v3 v5 v6 v7 v8 v9 v10 v11 v12 v13 v14 : Option V, σ = [some (.ref a), some (.ref l1), some (.ref l2), v3, some (.ref bx), v5, v6, v7, v8, v9, v10, v11, v12, v13, v14] ∧ Same J7 H') ⟨_, _, _, _, _, _, _, _, _, _, _, rfl, Same.refl _⟩ (fun i2 σ H' _ h => by obtain ⟨_, _, _, _, _, _, _, _, _, _, _, _, h⟩ := h; exact SqL.of (h _ _ hla)) ?_ ?_
        · rintro i2 x2 σ H30' H30 hi2 ⟨v3, v5, v6, v7, v8, v9, v10, v11, v12, v13, v14, rfl, s30⟩ ⟨rfl, hx2⟩
          obtain ⟨r, rfl, hask⟩ := ask x2 (List.mem_of_getElem? hx2)
          obtain ⟨x, y, hr30, hx, hy⟩ := hask.same uJ.2 s30
          have hb30 := uJ.2.same s30
          refine ⟨r, _, rfl, SqT.of hr30, rfl, _, _, rfl, _, _, rfl, rfl, ?_⟩
          refine ⟨_, rfl, _, rfl, x, y, rfl, hx.now hb30, hy.now hb30, fun H31 s31 => ?_⟩
          refine ⟨_, rfl, _, rfl, x, y, rfl, (hx.now hb30).same s31, (hy.now hb30).same s31, fun H32 s32 => ?_⟩
          have hsc : scal (namedM x y) (namedM x y) = true := by
            unfold namedM
            split
            · split <;> rfl
            · rfl
          generalize namedM x y = nv at hsc ⊢
          refine ⟨hsc, _, rfl, iteNS rfl ?_⟩
          exact ⟨_, _, _, _, _, _, _, _, _, _, _, rfl, (s30.trans s31).trans s32⟩
        · rintro σ H30 ⟨v3, v5, v6, v7, v8, v9, v10, v11, v12, v13, v14, rfl, s30⟩
          exact ⟨_, _, _, _, _, _, _, _, _, _, _, rfl, uJ.same s30⟩
      · rintro σ H10 ⟨v3, v5, v6, v7, v8, v9, v10, v11, v12, v13, v14, rfl, u10⟩
        have aI : ∀ {x dx : Addr} {fs : List (Str × V)} {H' : Hp}, H' x = some (.ins CK dx fs) → AnyS K H' (.ref x) := fun e => .inr ⟨(fun _ z => by cases z), _, kon_check_str, fun _ s => IS_Check.ty (s _ _ e)⟩
        refine mk_ck0 fun x H11 s11 hx => ?_
        obtain ⟨dx, hx⟩ := hx
        refine ⟨.ref x, .non, rfl, aI hx, anyS_non, fun H12 s12 => ?_⟩
        refine ⟨rfl, _, rfl, iteNS rfl ?_⟩
        refine mk_ck0 fun x2 H13 s13 hx2 => ?_
        obtain ⟨dx2, hx2⟩ := hx2
        refine ⟨.str "11", .ref x2, rfl, anyS_str (by decide +kernel) (by decide +kernel), aI hx2, fun H14 s14 => ?_⟩
        have e11 : namedM (.str "11") (.ref x2) = .str "start" := by
          rw [show ("11" : Str) = W [true, true] by decide +kernel, named_W]
          rfl
        rw [e11]
        refine ⟨rfl, _, rfl, iteNS rfl ?_⟩
        have s1014 := ((s11.trans s12).trans s13).trans s14
        exact ⟨_, _, _, _, _, _, _, _, _, _, _, _, rfl, fun c o e => s1014 _ _ (u10.1 _ _ (s79 _ _ e) (ne_of_none e n7))⟩
    · rintro σ H8 ⟨v3, v4, v5, v6, v7, v8, v9, v10, v11, v12, v13, v14, rfl, s8⟩
      have e1 : namedM (.str "1") (.str "") = .non := by
        rw [W_1, W_nil, named_W]
        rfl
      have e2 : namedM (.str "1") (.str "0") = .str "start" := by
        rw [W_1, W_0, named_W]
        rfl
      have a1 : ∀ {z : Str} {H' : Hp}, (decide (z.length ≤ 10000) && PyData.strOk z) = true → AnyS K H' (.str z) := fun h => by
        rw [Bool.and_eq_true, decide_eq_true_iff] at h
        exact anyS_str h.1 h.2
      refine ⟨.str "1", .str "", rfl, a1 (by decide +kernel), a1 (by decide +kernel), fun H9 s9 => ?_⟩
      rw [e1]
      refine ⟨rfl, _, rfl, iteBT rfl ?_⟩
      refine ⟨.str "1", .str "0", rfl, a1 (by decide +kernel), a1 (by decide +kernel), fun H10 s10 => ?_⟩
      rw [e2]
      refine ⟨rfl, ?_⟩
      exact k _
end
end U

set_option maxRecDepth 100000
set_option maxHeartbeats 4000000
namespace U
open PySem PySem.Spec PyProof.Rows
open L2 hiding Fun CX0 E0 pass0 Fun.binds
open C8 Lx
theorem all_mk {l : PySem.W.OpenLaw} {w : World} {K : PySem.W.Frag} {h : Heap} {mg : Str → Option Value} {fa : Addr} (X : K.In h) (G : h.Ns mainGlobals mg) (hfa : mg "law" = some (.ref fa))
    {f_is_word : Addr} {od_is_word an_is_word : Option Addr} {sl_is_word : Array (Option Value)} {oc_is_word kV_is_word dc_is_word pm_is_word cd_is_word ct_is_word : Value}
    {f_l_seed : Addr} {od_l_seed an_l_seed : Option Addr} {sl_l_seed : Array (Option Value)} {oc_l_seed kV_l_seed dc_l_seed pm_l_seed cd_l_seed ct_l_seed : Value}
    {f_l_choose : Addr} {od_l_choose an_l_choose : Option Addr} {sl_l_choose : Array (Option Value)} {oc_l_choose kV_l_choose dc_l_choose pm_l_choose cd_l_choose ct_l_choose : Value}
    {f_l_one_of : Addr} {od_l_one_of an_l_one_of : Option Addr} {sl_l_one_of : Array (Option Value)} {oc_l_one_of kV_l_one_of dc_l_one_of pm_l_one_of cd_l_one_of ct_l_one_of : Value}
    {f_l_word : Addr} {od_l_word an_l_word : Option Addr} {sl_l_word : Array (Option Value)} {oc_l_word kV_l_word dc_l_word pm_l_word cd_l_word ct_l_word : Value}
    {f_l_check : Addr} {od_l_check an_l_check : Option Addr} {sl_l_check : Array (Option Value)} {oc_l_check kV_l_check dc_l_check pm_l_check cd_l_check ct_l_check : Value}
    {f_l_leaf : Addr} {od_l_leaf an_l_leaf : Option Addr} {sl_l_leaf : Array (Option Value)} {oc_l_leaf kV_l_leaf dc_l_leaf pm_l_leaf cd_l_leaf ct_l_leaf : Value}
    {f_l_any : Addr} {od_l_any an_l_any : Option Addr} {sl_l_any : Array (Option Value)} {oc_l_any kV_l_any dc_l_any pm_l_any cd_l_any ct_l_any : Value}
    {f_l_is_row : Addr} {od_l_is_row an_l_is_row : Option Addr} {sl_l_is_row : Array (Option Value)} {oc_l_is_row kV_l_is_row dc_l_is_row pm_l_is_row cd_l_is_row ct_l_is_row : Value}
    {f_l_heard : Addr} {od_l_heard an_l_heard : Option Addr} {sl_l_heard : Array (Option Value)} {oc_l_heard kV_l_heard dc_l_heard pm_l_heard cd_l_heard ct_l_heard : Value}
    {f_l_named : Addr} {od_l_named an_l_named : Option Addr} {sl_l_named : Array (Option Value)} {oc_l_named kV_l_named dc_l_named pm_l_named cd_l_named ct_l_named : Value}
    {f_law : Addr} {od_law an_law : Option Addr} {sl_law : Array (Option Value)} {oc_law kV_law dc_law pm_law cd_law ct_law : Value}
    {C_Check : Addr}
    {f_Check_init : Addr} {od_Check_init an_Check_init : Option Addr} {sl_Check_init : Array (Option Value)} {oc_Check_init kV_Check_init dc_Check_init pm_Check_init cd_Check_init ct_Check_init : Value}
    {dT_Check_init : Addr} {dd_Check_init : Option Addr} {dn_Check_init : Nat} {ds_Check_init : Array (Option Value)} {tD : Tok}
    {C_InvalidCheck f_InvalidCheck cc_InvalidCheck cda_InvalidCheck : Addr} {od_InvalidCheck an_InvalidCheck : Option Addr} {sl_InvalidCheck : Array (Option Value)} {oc_InvalidCheck kV_InvalidCheck dc_InvalidCheck pm_InvalidCheck ct_InvalidCheck : Value}
    {Enm_InvalidCheck Eq_InvalidCheck : Str} {EN_InvalidCheck : Addr} {Ebs_InvalidCheck Ebm_InvalidCheck : List Value} {Esn_InvalidCheck : List Str} {Esub_InvalidCheck : List Value} {Eab_InvalidCheck : Bool} {Ecol_InvalidCheck : Option Bool} {Edd_InvalidCheck : Option Addr} {E0_InvalidCheck E1_InvalidCheck E2_InvalidCheck E3_InvalidCheck E5_InvalidCheck : Option Value} {cl_InvalidCheck ccl_InvalidCheck : Value} {cld_InvalidCheck cdd_InvalidCheck : Option Addr} {csl_InvalidCheck ccs_InvalidCheck : Array (Option Value)} {cvs_InvalidCheck : Array Value} {file_InvalidCheck : Str} {ctf_InvalidCheck : Tok}
    {CGI_FlipError : Addr}
    {CGI_InvalidRule : Addr}
    {tB : Tok}
    (a_is_word : PySem.W.nsIn K mainGlobals "is_word" = some (some (.ref f_is_word)))
    (l_is_word : K.lookup f_is_word = some ⟨oc_is_word, od_is_word, .func (PySem.W.fnOf "is_word" "is_word" (fnArgs s_is_word) (fnBody s_is_word) (fnScope s_is_word) .none kV_is_word dc_is_word pm_is_word an_is_word cd_is_word ct_is_word), sl_is_word⟩)
    (c_is_word : PySem.W.codeIn K cd_is_word "is_word" = true)
    (k_is_word : PySem.W.keepIn K (.ref f_is_word) = true)
    (a_l_seed : PySem.W.nsIn K mainGlobals "_law_seed" = some (some (.ref f_l_seed)))
    (l_l_seed : K.lookup f_l_seed = some ⟨oc_l_seed, od_l_seed, .func (PySem.W.fnOf "_law_seed" "_law_seed" (fnArgs s_l_seed) (fnBody s_l_seed) (fnScope s_l_seed) .none kV_l_seed dc_l_seed pm_l_seed an_l_seed cd_l_seed ct_l_seed), sl_l_seed⟩)
    (c_l_seed : PySem.W.codeIn K cd_l_seed "_law_seed" = true)
    (k_l_seed : PySem.W.keepIn K (.ref f_l_seed) = true)
    (a_l_choose : PySem.W.nsIn K mainGlobals "_law_choose" = some (some (.ref f_l_choose)))
    (l_l_choose : K.lookup f_l_choose = some ⟨oc_l_choose, od_l_choose, .func (PySem.W.fnOf "_law_choose" "_law_choose" (fnArgs s_l_choose) (fnBody s_l_choose) (fnScope s_l_choose) .none kV_l_choose dc_l_choose pm_l_choose an_l_choose cd_l_choose ct_l_choose), sl_l_choose⟩)
    (c_l_choose : PySem.W.codeIn K cd_l_choose "_law_choose" = true)
    (k_l_choose : PySem.W.keepIn K (.ref f_l_choose) = true)
    (a_l_one_of : PySem.W.nsIn K mainGlobals "_law_one_of" = some (some (.ref f_l_one_of)))
    (l_l_one_of : K.lookup f_l_one_of = some ⟨oc_l_one_of, od_l_one_of, .func (PySem.W.fnOf "_law_one_of" "_law_one_of" (fnArgs s_l_one_of) (fnBody s_l_one_of) (fnScope s_l_one_of) .none kV_l_one_of dc_l_one_of pm_l_one_of an_l_one_of cd_l_one_of ct_l_one_of), sl_l_one_of⟩)
    (c_l_one_of : PySem.W.codeIn K cd_l_one_of "_law_one_of" = true)
    (k_l_one_of : PySem.W.keepIn K (.ref f_l_one_of) = true)
    (a_l_word : PySem.W.nsIn K mainGlobals "_law_word" = some (some (.ref f_l_word)))
    (l_l_word : K.lookup f_l_word = some ⟨oc_l_word, od_l_word, .func (PySem.W.fnOf "_law_word" "_law_word" (fnArgs s_l_word) (fnBody s_l_word) (fnScope s_l_word) .none kV_l_word dc_l_word pm_l_word an_l_word cd_l_word ct_l_word), sl_l_word⟩)
    (c_l_word : PySem.W.codeIn K cd_l_word "_law_word" = true)
    (k_l_word : PySem.W.keepIn K (.ref f_l_word) = true)
    (a_l_check : PySem.W.nsIn K mainGlobals "_law_check" = some (some (.ref f_l_check)))
    (l_l_check : K.lookup f_l_check = some ⟨oc_l_check, od_l_check, .func (PySem.W.fnOf "_law_check" "_law_check" (fnArgs s_l_check) (fnBody s_l_check) (fnScope s_l_check) .none kV_l_check dc_l_check pm_l_check an_l_check cd_l_check ct_l_check), sl_l_check⟩)
    (c_l_check : PySem.W.codeIn K cd_l_check "_law_check" = true)
    (k_l_check : PySem.W.keepIn K (.ref f_l_check) = true)
    (a_l_leaf : PySem.W.nsIn K mainGlobals "_law_leaf" = some (some (.ref f_l_leaf)))
    (l_l_leaf : K.lookup f_l_leaf = some ⟨oc_l_leaf, od_l_leaf, .func (PySem.W.fnOf "_law_leaf" "_law_leaf" (fnArgs s_l_leaf) (fnBody s_l_leaf) (fnScope s_l_leaf) .none kV_l_leaf dc_l_leaf pm_l_leaf an_l_leaf cd_l_leaf ct_l_leaf), sl_l_leaf⟩)
    (c_l_leaf : PySem.W.codeIn K cd_l_leaf "_law_leaf" = true)
    (k_l_leaf : PySem.W.keepIn K (.ref f_l_leaf) = true)
    (a_l_any : PySem.W.nsIn K mainGlobals "_law_any" = some (some (.ref f_l_any)))
    (l_l_any : K.lookup f_l_any = some ⟨oc_l_any, od_l_any, .func (PySem.W.fnOf "_law_any" "_law_any" (fnArgs s_l_any) (fnBody s_l_any) (fnScope s_l_any) .none kV_l_any dc_l_any pm_l_any an_l_any cd_l_any ct_l_any), sl_l_any⟩)
    (c_l_any : PySem.W.codeIn K cd_l_any "_law_any" = true)
    (k_l_any : PySem.W.keepIn K (.ref f_l_any) = true)
    (a_l_is_row : PySem.W.nsIn K mainGlobals "_law_is_row" = some (some (.ref f_l_is_row)))
    (l_l_is_row : K.lookup f_l_is_row = some ⟨oc_l_is_row, od_l_is_row, .func (PySem.W.fnOf "_law_is_row" "_law_is_row" (fnArgs s_l_is_row) (fnBody s_l_is_row) (fnScope s_l_is_row) .none kV_l_is_row dc_l_is_row pm_l_is_row an_l_is_row cd_l_is_row ct_l_is_row), sl_l_is_row⟩)
    (c_l_is_row : PySem.W.codeIn K cd_l_is_row "_law_is_row" = true)
    (k_l_is_row : PySem.W.keepIn K (.ref f_l_is_row) = true)
    (a_l_heard : PySem.W.nsIn K mainGlobals "_law_heard" = some (some (.ref f_l_heard)))
    (l_l_heard : K.lookup f_l_heard = some ⟨oc_l_heard, od_l_heard, .func (PySem.W.fnOf "_law_heard" "_law_heard" (fnArgs s_l_heard) (fnBody s_l_heard) (fnScope s_l_heard) .none kV_l_heard dc_l_heard pm_l_heard an_l_heard cd_l_heard ct_l_heard), sl_l_heard⟩)
    (c_l_heard : PySem.W.codeIn K cd_l_heard "_law_heard" = true)
    (k_l_heard : PySem.W.keepIn K (.ref f_l_heard) = true)
    (a_l_named : PySem.W.nsIn K mainGlobals "_law_named" = some (some (.ref f_l_named)))
    (l_l_named : K.lookup f_l_named = some ⟨oc_l_named, od_l_named, .func (PySem.W.fnOf "_law_named" "_law_named" (fnArgs s_l_named) (fnBody s_l_named) (fnScope s_l_named) .none kV_l_named dc_l_named pm_l_named an_l_named cd_l_named ct_l_named), sl_l_named⟩)
    (c_l_named : PySem.W.codeIn K cd_l_named "_law_named" = true)
    (k_l_named : PySem.W.keepIn K (.ref f_l_named) = true)
    (a_law : PySem.W.nsIn K mainGlobals "law" = some (some (.ref f_law)))
    (l_law : K.lookup f_law = some ⟨oc_law, od_law, .func (PySem.W.fnOf "law" "law" (fnArgs s_law) (fnBody s_law) (fnScope s_law) .none kV_law dc_law pm_law an_law cd_law ct_law), sl_law⟩)
    (c_law : PySem.W.codeIn K cd_law "law" = true)
    (k_law : PySem.W.keepIn K (.ref f_law) = true)
    (aC_Check : PySem.W.nsIn K mainGlobals "Check" = some (some (.ref C_Check)))
    (pg_Check : PySem.W.plainGet K C_Check Str.empty = true)
    (hd_Check : PySem.W.hasDictIn K C_Check = true)
    (po_Check : PySem.W.plainOver K C_Check = true)
    (sa_Check : PySem.W.findIn K (.ref C_Check) "__setattr__" = some (some (.builtin "object.__setattr__")))
    (mk_Check : PySem.W.makesIn K C_Check = true)
    (kc_Check : PySem.W.keepIn K (.ref C_Check) = true)
    (n_Check_poly : PySem.W.findIn K (.ref C_Check) "poly" = some none)
    (n_Check_start : PySem.W.findIn K (.ref C_Check) "start" = some none)
    (a_Check_init : PySem.W.findIn K (.ref C_Check) "__init__" = some (some (.ref f_Check_init)))
    (i_Check_init : PySem.W.isFn K (.ref f_Check_init) = true)
    (l_Check_init : K.lookup f_Check_init = some ⟨oc_Check_init, od_Check_init, .func (PySem.W.fnOf "__init__" "Check.__init__" (fnArgs s_Check_init) (fnBody s_Check_init) (fnScope s_Check_init) (.ref dT_Check_init) kV_Check_init dc_Check_init pm_Check_init an_Check_init cd_Check_init ct_Check_init), sl_Check_init⟩)
    (c_Check_init : PySem.W.codeIn K cd_Check_init "Check.__init__" = true)
    (k_Check_init : PySem.W.keepIn K (.ref f_Check_init) = true)
    (dl_Check_init : K.lookup dT_Check_init = some ⟨.type "tuple", dd_Check_init, .seq #[.str "1" tD, .none] dn_Check_init, ds_Check_init⟩)
    (aC_InvalidCheck : PySem.W.nsIn K mainGlobals "InvalidCheck" = some (some (.ref C_InvalidCheck)))
    (elk_InvalidCheck : K.lookup C_InvalidCheck = some (excClassObj Enm_InvalidCheck Eq_InvalidCheck C_InvalidCheck EN_InvalidCheck Ebs_InvalidCheck Ebm_InvalidCheck true Esn_InvalidCheck Esub_InvalidCheck Eab_InvalidCheck Ecol_InvalidCheck Edd_InvalidCheck E0_InvalidCheck E1_InvalidCheck E2_InvalidCheck E3_InvalidCheck E5_InvalidCheck "ValueError.__new__"))
    (erf_InvalidCheck : PySem.HandSPX.refsVE Ebm_InvalidCheck = true)
    (sa_InvalidCheck : PySem.W.findIn K (.ref C_InvalidCheck) "__setattr__" = some (some (.builtin "object.__setattr__")))
    (exC_InvalidCheck : PySem.W.subIn K (.ref C_InvalidCheck) (.type "BaseException") = some true)
    (tyC_InvalidCheck : PySem.W.typeIn K (.ref C_InvalidCheck) = some (.type "type"))
    (kC_InvalidCheck : PySem.W.keepIn K (.ref C_InvalidCheck) = true)
    (no_InvalidCheck : PySem.W.findIn K (.ref C_InvalidCheck) "word" = some none)
    (a_InvalidCheck : PySem.W.findIn K (.ref C_InvalidCheck) "__init__" = some (some (.ref f_InvalidCheck)))
    (t_InvalidCheck : PySem.W.typeIn K (.ref f_InvalidCheck) = some (.type "function"))
    (lk_InvalidCheck : K.lookup f_InvalidCheck = some ⟨oc_InvalidCheck, od_InvalidCheck, .func (PySem.W.fnX "__init__" "InvalidCheck.__init__" (fnArgs s_InvalidCheck_init) (fnBody s_InvalidCheck_init) (fnScope s_InvalidCheck_init) [("__class__", cc_InvalidCheck)] .none kV_InvalidCheck dc_InvalidCheck pm_InvalidCheck an_InvalidCheck (.ref cda_InvalidCheck) ct_InvalidCheck), sl_InvalidCheck⟩)
    (cd_InvalidCheck : PySem.W.codeIn K (.ref cda_InvalidCheck) "InvalidCheck.__init__" = true)
    (cell_InvalidCheck : K.lookup cc_InvalidCheck = some ⟨cl_InvalidCheck, cld_InvalidCheck, .cell (some (.ref C_InvalidCheck)), csl_InvalidCheck⟩)
    (code_InvalidCheck : K.lookup cda_InvalidCheck = some ⟨ccl_InvalidCheck, cdd_InvalidCheck, .fields cvs_InvalidCheck, ccs_InvalidCheck⟩)
    (cfl_InvalidCheck : cvs_InvalidCheck[2]? = some (.str file_InvalidCheck ctf_InvalidCheck))
    (fl_InvalidCheck : ((l.prog.main.file : Str) == file_InvalidCheck) = true)
    (tp_InvalidCheck : (l.prog.main.scope.names.lookup ("super" : Str)).isSome = false)
    (sub_InvalidCheck : PySem.W.mroIn K C_InvalidCheck (.ref C_InvalidCheck) = some true)
    (sup_InvalidCheck : PySem.W.nsIn K mainGlobals "super" = some none)
    (opq_InvalidCheck : PySem.W.nsIn K cStatics "thirdparty.any" = some none)
    (ini_InvalidCheck : PySem.W.ks_superIn K C_InvalidCheck C_InvalidCheck "__init__" = some (some (.builtin "ValueError.__init__")))
    (ve_InvalidCheck : PySem.W.subIn K (.ref C_InvalidCheck) (.type "ValueError") = some true)
    (ehd_InvalidCheck : PySem.W.hasDictIn K C_InvalidCheck = true)
    (esb_InvalidCheck : PySem.W.subIn K (.ref C_InvalidCheck) (.ref C_InvalidCheck) = some true)
    (ega_InvalidCheck : PySem.W.findIn K (.ref C_InvalidCheck) "__getattribute__" = some (some (.builtin "BaseException.__getattribute__")))
    (egg_InvalidCheck : PySem.W.findIn K (.ref C_InvalidCheck) "__getattr__" = some none)
    (mro_Check : PySem.W.mroIn K C_Check (.type "object") = some true)
    (cls_Check : PySem.W.findIn K (.ref C_Check) "__class__" = some (some (.builtin "object.__class__")))
    (clg_X : PySem.W.specialIn K (.builtin "object.__class__") "__get__" = some (some (.builtin "getset_descriptor.__get__")))
    (clt_X : PySem.W.takesIn K (.builtin "object.__class__") = some true)
    (kon_cs : PySem.W.kitOne K (.ref C_Check) (.type "str") = some false)
    (aGI_FlipError : PySem.W.nsIn K mainGlobals "FlipError" = some (some (.ref CGI_FlipError)))
    (aGI_InvalidRule : PySem.W.nsIn K mainGlobals "InvalidRule" = some (some (.ref CGI_InvalidRule)))
    (xg_InvalidCheck : PySem.W.findIn K (.ref C_InvalidCheck) "__getattribute__" = some (some (.builtin "BaseException.__getattribute__")))
    (xk_InvalidCheck : PySem.W.findIn K (.ref C_InvalidCheck) "__getattr__" = some none)
    (xs_InvalidCheck : PySem.W.subIn K (.ref C_InvalidCheck) (.type "BaseException") = some true)
    (xd_InvalidCheck : PySem.W.hasDictIn K C_InvalidCheck = true)
    (xa_InvalidCheck : PySem.W.findIn K (.ref C_InvalidCheck) "__class__" = some (some (.builtin "object.__class__")))
    (xm_InvalidCheck : PySem.W.mroIn K C_InvalidCheck (.type "object") = some true)
    (kon_cf : PySem.W.kitOne K (.ref C_InvalidCheck) (.ref CGI_FlipError) = some true)
    (kon_cr : PySem.W.kitOne K (.ref C_InvalidCheck) (.ref CGI_InvalidRule) = some false)
    (gBITS : PySem.W.nsIn K mainGlobals "BITS" = some (some (.str "01" tB)))
    (z_len : PySem.W.nsIn K mainGlobals "len" = some none)
    (z_abs : PySem.W.nsIn K mainGlobals "abs" = some none)
    (z_int : PySem.W.nsIn K mainGlobals "int" = some none)
    (z_range : PySem.W.nsIn K mainGlobals "range" = some none)
    (z_max : PySem.W.nsIn K mainGlobals "max" = some none)
    (z_min : PySem.W.nsIn K mainGlobals "min" = some none)
    (z_enumerate : PySem.W.nsIn K mainGlobals "enumerate" = some none)
    (z_zip : PySem.W.nsIn K mainGlobals "zip" = some none)
    (z_dict : PySem.W.nsIn K mainGlobals "dict" = some none)
    (z_list : PySem.W.nsIn K mainGlobals "list" = some none)
    (z_tuple : PySem.W.nsIn K mainGlobals "tuple" = some none)
    (z_isinstance : PySem.W.nsIn K mainGlobals "isinstance" = some none)
    (z_bool : PySem.W.nsIn K mainGlobals "bool" = some none)
    (z_str : PySem.W.nsIn K mainGlobals "str" = some none)
    (z_all : PySem.W.nsIn K mainGlobals "all" = some none)
    (z_any : PySem.W.nsIn K mainGlobals "any" = some none)
    (z_sum : PySem.W.nsIn K mainGlobals "sum" = some none)
    (z_sorted : PySem.W.nsIn K mainGlobals "sorted" = some none)
    (z_repr : PySem.W.nsIn K mainGlobals "repr" = some none) :
    ∃ fd : FuncData, (∀ (s : Shared) (v : Value), BindsTo s fd ⟨[v], []⟩ [("_law_script", v)]) ∧ ∀ base : Heap, K.In base → base.Ns mainGlobals mg → FnOk l.prog w K mg base CX0 14 fa fd ["_law_script"] (spLaw K) := by
  have e : f_law = fa := Value.ref.inj (Option.some.inj ((PySem.W.mg_of X G a_law).symm.trans hfa))
  subst e
  have T : Tx mg := ⟨PySem.W.mg_none_of X G z_len, PySem.W.mg_none_of X G z_abs, PySem.W.mg_none_of X G z_int, PySem.W.mg_none_of X G z_range, PySem.W.mg_none_of X G z_max, PySem.W.mg_none_of X G z_min, PySem.W.mg_none_of X G z_enumerate, PySem.W.mg_none_of X G z_zip, PySem.W.mg_none_of X G z_dict, PySem.W.mg_none_of X G z_list, PySem.W.mg_none_of X G z_tuple, PySem.W.mg_none_of X G z_isinstance, PySem.W.mg_none_of X G z_bool, PySem.W.mg_none_of X G z_str, PySem.W.mg_none_of X G z_all, PySem.W.mg_none_of X G z_any, PySem.W.mg_none_of X G z_sum, PySem.W.mg_none_of X G z_sorted, PySem.W.mg_none_of X G z_repr⟩
  have F_is_word : Def K mg "is_word" s_is_word f_is_word (PySem.W.fnOf "is_word" "is_word" (fnArgs s_is_word) (fnBody s_is_word) (fnScope s_is_word) .none kV_is_word dc_is_word pm_is_word an_is_word cd_is_word ct_is_word) := ⟨⟨_, _, _, _, _, _, _, _, _, _, rfl, l_is_word, c_is_word⟩, PySem.W.mg_of X G a_is_word, k_is_word⟩
  have b_is_word := C8.Fun.binds (ps := ["value"]) F_is_word.fn rfl fun _ _ _ _ _ _ us hl => match us, hl with | [_], _ => rfl
  have F_l_seed : Def K mg "_law_seed" s_l_seed f_l_seed (PySem.W.fnOf "_law_seed" "_law_seed" (fnArgs s_l_seed) (fnBody s_l_seed) (fnScope s_l_seed) .none kV_l_seed dc_l_seed pm_l_seed an_l_seed cd_l_seed ct_l_seed) := ⟨⟨_, _, _, _, _, _, _, _, _, _, rfl, l_l_seed, c_l_seed⟩, PySem.W.mg_of X G a_l_seed, k_l_seed⟩
  have b_l_seed := C8.Fun.binds (ps := ["_law_script", "_law_k"]) F_l_seed.fn rfl fun _ _ _ _ _ _ us hl => match us, hl with | [_, _], _ => rfl
  have F_l_choose : Def K mg "_law_choose" s_l_choose f_l_choose (PySem.W.fnOf "_law_choose" "_law_choose" (fnArgs s_l_choose) (fnBody s_l_choose) (fnScope s_l_choose) .none kV_l_choose dc_l_choose pm_l_choose an_l_choose cd_l_choose ct_l_choose) := ⟨⟨_, _, _, _, _, _, _, _, _, _, rfl, l_l_choose, c_l_choose⟩, PySem.W.mg_of X G a_l_choose, k_l_choose⟩
  have b_l_choose := C8.Fun.binds (ps := ["_law_box", "_law_many"]) F_l_choose.fn rfl fun _ _ _ _ _ _ us hl => match us, hl with | [_, _], _ => rfl
  have F_l_one_of : Def K mg "_law_one_of" s_l_one_of f_l_one_of (PySem.W.fnOf "_law_one_of" "_law_one_of" (fnArgs s_l_one_of) (fnBody s_l_one_of) (fnScope s_l_one_of) .none kV_l_one_of dc_l_one_of pm_l_one_of an_l_one_of cd_l_one_of ct_l_one_of) := ⟨⟨_, _, _, _, _, _, _, _, _, _, rfl, l_l_one_of, c_l_one_of⟩, PySem.W.mg_of X G a_l_one_of, k_l_one_of⟩
  have b_l_one_of := C8.Fun.binds (ps := ["_law_box", "_law_some"]) F_l_one_of.fn rfl fun _ _ _ _ _ _ us hl => match us, hl with | [_, _], _ => rfl
  have F_l_word : Def K mg "_law_word" s_l_word f_l_word (PySem.W.fnOf "_law_word" "_law_word" (fnArgs s_l_word) (fnBody s_l_word) (fnScope s_l_word) .none kV_l_word dc_l_word pm_l_word an_l_word cd_l_word ct_l_word) := ⟨⟨_, _, _, _, _, _, _, _, _, _, rfl, l_l_word, c_l_word⟩, PySem.W.mg_of X G a_l_word, k_l_word⟩
  have b_l_word := C8.Fun.binds (ps := ["_law_box", "_law_size"]) F_l_word.fn rfl fun _ _ _ _ _ _ us hl => match us, hl with | [_, _], _ => rfl
  have F_l_check : Def K mg "_law_check" s_l_check f_l_check (PySem.W.fnOf "_law_check" "_law_check" (fnArgs s_l_check) (fnBody s_l_check) (fnScope s_l_check) .none kV_l_check dc_l_check pm_l_check an_l_check cd_l_check ct_l_check) := ⟨⟨_, _, _, _, _, _, _, _, _, _, rfl, l_l_check, c_l_check⟩, PySem.W.mg_of X G a_l_check, k_l_check⟩
  have b_l_check := C8.Fun.binds (ps := ["_law_box", "_law_most"]) F_l_check.fn rfl fun _ _ _ _ _ _ us hl => match us, hl with | [_, _], _ => rfl
  have F_l_leaf : Def K mg "_law_leaf" s_l_leaf f_l_leaf (PySem.W.fnOf "_law_leaf" "_law_leaf" (fnArgs s_l_leaf) (fnBody s_l_leaf) (fnScope s_l_leaf) .none kV_l_leaf dc_l_leaf pm_l_leaf an_l_leaf cd_l_leaf ct_l_leaf) := ⟨⟨_, _, _, _, _, _, _, _, _, _, rfl, l_l_leaf, c_l_leaf⟩, PySem.W.mg_of X G a_l_leaf, k_l_leaf⟩
  have b_l_leaf := C8.Fun.binds (ps := ["_law_box"]) F_l_leaf.fn rfl fun _ _ _ _ _ _ us hl => match us, hl with | [_], _ => rfl
  have F_l_any : Def K mg "_law_any" s_l_any f_l_any (PySem.W.fnOf "_law_any" "_law_any" (fnArgs s_l_any) (fnBody s_l_any) (fnScope s_l_any) .none kV_l_any dc_l_any pm_l_any an_l_any cd_l_any ct_l_any) := ⟨⟨_, _, _, _, _, _, _, _, _, _, rfl, l_l_any, c_l_any⟩, PySem.W.mg_of X G a_l_any, k_l_any⟩
  have b_l_any := C8.Fun.binds (ps := ["_law_box", "_law_deep"]) F_l_any.fn rfl fun _ _ _ _ _ _ us hl => match us, hl with | [_, _], _ => rfl
  have F_l_is_row : Def K mg "_law_is_row" s_l_is_row f_l_is_row (PySem.W.fnOf "_law_is_row" "_law_is_row" (fnArgs s_l_is_row) (fnBody s_l_is_row) (fnScope s_l_is_row) .none kV_l_is_row dc_l_is_row pm_l_is_row an_l_is_row cd_l_is_row ct_l_is_row) := ⟨⟨_, _, _, _, _, _, _, _, _, _, rfl, l_l_is_row, c_l_is_row⟩, PySem.W.mg_of X G a_l_is_row, k_l_is_row⟩
  have b_l_is_row := C8.Fun.binds (ps := ["_law_value"]) F_l_is_row.fn rfl fun _ _ _ _ _ _ us hl => match us, hl with | [_], _ => rfl
  have F_l_heard : Def K mg "_law_heard" s_l_heard f_l_heard (PySem.W.fnOf "_law_heard" "_law_heard" (fnArgs s_l_heard) (fnBody s_l_heard) (fnScope s_l_heard) .none kV_l_heard dc_l_heard pm_l_heard an_l_heard cd_l_heard ct_l_heard) := ⟨⟨_, _, _, _, _, _, _, _, _, _, rfl, l_l_heard, c_l_heard⟩, PySem.W.mg_of X G a_l_heard, k_l_heard⟩
  have b_l_heard := C8.Fun.binds (ps := ["_law_poly", "_law_start"]) F_l_heard.fn rfl fun _ _ _ _ _ _ us hl => match us, hl with | [_, _], _ => rfl
  have F_l_named : Def K mg "_law_named" s_l_named f_l_named (PySem.W.fnOf "_law_named" "_law_named" (fnArgs s_l_named) (fnBody s_l_named) (fnScope s_l_named) .none kV_l_named dc_l_named pm_l_named an_l_named cd_l_named ct_l_named) := ⟨⟨_, _, _, _, _, _, _, _, _, _, rfl, l_l_named, c_l_named⟩, PySem.W.mg_of X G a_l_named, k_l_named⟩
  have b_l_named := C8.Fun.binds (ps := ["_law_poly", "_law_start"]) F_l_named.fn rfl fun _ _ _ _ _ _ us hl => match us, hl with | [_, _], _ => rfl
  have F_law : Def K mg "law" s_law f_law (PySem.W.fnOf "law" "law" (fnArgs s_law) (fnBody s_law) (fnScope s_law) .none kV_law dc_law pm_law an_law cd_law ct_law) := ⟨⟨_, _, _, _, _, _, _, _, _, _, rfl, l_law, c_law⟩, PySem.W.mg_of X G a_law, k_law⟩
  have b_law := C8.Fun.binds (ps := ["_law_script"]) F_law.fn rfl fun _ _ _ _ _ _ us hl => match us, hl with | [_], _ => rfl
  have TX_InvalidCheck : L2.OexC K C_InvalidCheck := ⟨⟨_, _, _, _, _, _, _, _, _, _, _, _, _, _, _, elk_InvalidCheck, erf_InvalidCheck⟩, sa_InvalidCheck, exC_InvalidCheck, tyC_InvalidCheck, kC_InvalidCheck⟩
  have EF_InvalidCheck : ExS.ExF l.prog K mg C_InvalidCheck "word" f_InvalidCheck cc_InvalidCheck cda_InvalidCheck file_InvalidCheck := ⟨TX_InvalidCheck, no_InvalidCheck, ⟨_, _, _, cell_InvalidCheck⟩, ⟨_, _, _, _, _, code_InvalidCheck, cfl_InvalidCheck⟩, fl_InvalidCheck, tp_InvalidCheck, sub_InvalidCheck, PySem.W.mg_none_of X G sup_InvalidCheck, opq_InvalidCheck, ini_InvalidCheck, ve_InvalidCheck⟩
  have XF_InvalidCheck : XfC K C_InvalidCheck := ⟨ega_InvalidCheck, egg_InvalidCheck, exC_InvalidCheck, ehd_InvalidCheck⟩
  have nw_InvalidCheck := no_InvalidCheck
  have g_InvalidCheck := PySem.W.mg_of X G aC_InvalidCheck
  have ex_InvalidCheck := PySem.W.exm_ref exC_InvalidCheck ehd_InvalidCheck tyC_InvalidCheck esb_InvalidCheck
  have CL_Check : Cls K C_Check := ⟨pg_Check, hd_Check, po_Check, sa_Check⟩
  have F_Check_init : C8.Fun K "__init__" "Check.__init__" s_Check_init f_Check_init (PySem.W.fnOf "__init__" "Check.__init__" (fnArgs s_Check_init) (fnBody s_Check_init) (fnScope s_Check_init) (.ref dT_Check_init) kV_Check_init dc_Check_init pm_Check_init an_Check_init cd_Check_init ct_Check_init) := ⟨_, _, _, _, _, _, _, _, _, _, rfl, l_Check_init, c_Check_init⟩
  have FD_Check_init : FunD K "__init__" "Check.__init__" (fnArgs s_Check_init) (fnBody s_Check_init) (fnScope s_Check_init) [.str "1", .non] [] f_Check_init (PySem.W.fnOf "__init__" "Check.__init__" (fnArgs s_Check_init) (fnBody s_Check_init) (fnScope s_Check_init) (.ref dT_Check_init) kV_Check_init dc_Check_init pm_Check_init an_Check_init cd_Check_init ct_Check_init) := ⟨⟨_, _, _, _, _, _, _, _, _, _, rfl, l_Check_init, c_Check_init, .inr ⟨List.cons_ne_nil _ _, _, _, _, _, rfl, dl_Check_init, rfl, .cons ⟨_, rfl⟩ (.cons rfl .nil)⟩, .inl rfl⟩, k_Check_init⟩
  obtain ⟨ds0_Check_init, vd0_Check_init, bd0_Check_init⟩ := FD_Check_init.binds1 (ps := ["self", "poly", "start"]) 1 0 (List.cons_ne_nil _ _) rfl fun _ _ _ _ _ _ _ us its h1 h2 => match us, its, h1, h2 with | [_], [_, _], _, _ => ⟨_, rfl, rfl⟩
  obtain ⟨ds1_Check_init, vd1_Check_init, bd1_Check_init⟩ := FD_Check_init.binds1 (ps := ["self", "poly", "start"]) 2 1 (List.cons_ne_nil _ _) rfl fun _ _ _ _ _ _ _ us its h1 h2 => match us, its, h1, h2 with | [_, _], [_, _], _, _ => ⟨_, rfl, rfl⟩
  obtain ⟨ds2_Check_init, vd2_Check_init, bd2_Check_init⟩ := FD_Check_init.binds1 (ps := ["self", "poly", "start"]) 3 2 (List.cons_ne_nil _ _) rfl fun _ _ _ _ _ _ _ us its h1 h2 => match us, its, h1, h2 with | [_, _, _], [_, _], _, _ => ⟨_, rfl, rfl⟩
  refine ⟨PySem.W.fnOf "law" "law" (fnArgs s_law) (fnBody s_law) (fnScope s_law) .none kV_law dc_law pm_law an_law cd_law ct_law, fun s v => .of_eq rfl, fun base _ _ => ?_⟩
  have IS_Check : IsT K C_Check := ⟨CL_Check, cls_Check, clg_X, clt_X, mro_Check⟩
  have kon_check_str := kon_cs
  have c_l_seed := cal_l_seed (P := l.prog) (w := w) (base := base) F_l_seed b_l_seed T
  have c_l_choose := cal_l_choose (P := l.prog) (w := w) (base := base) F_l_choose b_l_choose T
  have c_l_one_of := cal_l_one_of (P := l.prog) (w := w) (base := base) F_l_one_of b_l_one_of T c_l_choose
  have c_l_word := cal_l_word (P := l.prog) (w := w) (base := base) F_l_word b_l_word T c_l_one_of
  have c_l_check := cal_l_check (P := l.prog) (w := w) (base := base) F_l_check b_l_check T c_l_choose c_l_word
  have c_l_leaf := cal_l_leaf (P := l.prog) (w := w) (base := base) F_l_leaf b_l_leaf T c_l_one_of
  have c_l_any := cal_l_any (P := l.prog) (w := w) (base := base) F_l_any b_l_any T c_l_choose c_l_leaf
  have gi_FlipError := PySem.W.mg_of X G aGI_FlipError
  have gi_InvalidRule := PySem.W.mg_of X G aGI_InvalidRule
  have xc_InvalidCheck : L2.ExcC K C_InvalidCheck := ⟨xg_InvalidCheck, xk_InvalidCheck, xs_InvalidCheck, xd_InvalidCheck, xa_InvalidCheck, clg_X, clt_X, xm_InvalidCheck⟩
  have kon_check_flip := kon_cf
  have kon_check_rule := kon_cr
  have CT : CkT K C_Check := ⟨CL_Check, n_Check_poly, n_Check_start⟩
  have x_InvalidCheck : ExS.XMk l.prog w K mg base 1 "InvalidCheck" C_InvalidCheck "word" := ⟨f_InvalidCheck, _, ["self", "word"], TX_InvalidCheck, a_InvalidCheck, t_InvalidCheck, ExS.fn_exc (self := "self") (word := "word") (text := "wrong argument of a check") (k := 0) EF_InvalidCheck lk_InvalidCheck cd_InvalidCheck (NdefX.nscope_by (by decide +kernel)) (by decide +kernel) rfl rfl ⟨_, _, _, _, _, _, _, _, _, _, _, _, rfl, rfl⟩ (by decide) (by decide) (by decide) (by decide), .all (fun us hl => match us, hl with | [_, _], _ => rfl), g_InvalidCheck⟩
  have g_BITS := PySem.W.mg_of X G gBITS
  have c_is_word := cal_is_word (P := l.prog) (w := w) (base := base) F_is_word b_is_word T g_BITS
  have M_Check : Mk K C_Check f_Check_init := ⟨mk_Check, a_Check_init, i_Check_init, kc_Check⟩
  have i_okX_Check := ok_Check_initX (P := l.prog) (w := w) (base := base) F_Check_init T CT x_InvalidCheck c_is_word
  have mX_Check2 : ExS.MakX l.prog w K mg base 3 "Check" C_Check (spCkInitX K C_Check C_InvalidCheck) [] := ⟨_, _, _, _, M_Check, i_okX_Check, PySem.W.mg_of X G aC_Check, bd2_Check_init, vd2_Check_init⟩
  have c_l_heard := cal_l_heard (P := l.prog) (w := w) (base := base) F_l_heard b_l_heard T g_InvalidCheck ex_InvalidCheck XF_InvalidCheck nw_InvalidCheck gi_FlipError gi_InvalidRule xc_InvalidCheck kon_check_flip kon_check_rule mX_Check2
  have c_l_is_row := cal_l_is_row (P := l.prog) (w := w) (base := base) F_l_is_row b_l_is_row T
  have c_l_named := cal_l_named (P := l.prog) (w := w) (base := base) F_l_named b_l_named T c_l_is_row
  have i_ok_Check := ok_Check_init (P := l.prog) (w := w) (base := base) F_Check_init T CT c_is_word
  have m_Check0 : Mak l.prog w K mg base 2 "Check" C_Check (spCkInit C_Check) [.str "1", .non] := ⟨_, _, _, _, M_Check, i_ok_Check, PySem.W.mg_of X G aC_Check, bd0_Check_init, vd0_Check_init⟩
  exact ok_law F_law T IS_Check kon_check_str c_l_seed c_l_one_of c_l_check c_l_any c_l_heard c_l_named m_Check0
theorem walk {l : PySem.W.OpenLaw} {q : Program} {loose : List Str} {XP : (Str → Option Value) → Heap → Prop} {YP : World → Heap → Prop} {d : DefRec} {K : Params → PySem.W.Frag} (hn : l.most = some 63) (hdf : d.params.defaults = [])
    (hY : ∀ (w : World) (h : Heap), YP w h → (K w.params).In h)
    (F : ∀ (w : World) (mg : Str → Option Value) (fa : Addr) (h : Heap), (K w.params).In h → h.Ns mainGlobals mg → mg d.name = some (.ref fa) →
      ∃ fd : FuncData, (∀ (s : Shared) (u : Value), BindsTo s fd ⟨[u], []⟩ [("_law_script", u)]) ∧ ∀ base : Heap, (K w.params).In base → base.Ns mainGlobals mg → FnOk l.prog w (K w.params) mg base CX0 14 fa fd ["_law_script"] (spLaw (K w.params))) :
    PySem.W.WalkO q loose XP YP l.row.toRowW d [] (fun f vs => PySem.call f vs) :=
  L2.walk_of (n := 63) (k := 14) (x := "_law_script") (CX := fun _ => CX0) (sp := fun w => spLaw (K w.params)) hn (by decide) hdf ⟨rfl, by decide, by decide⟩ hY F (fun _ _ a ns hl _ hS => ⟨a, ns, rfl, hS, hl, fun _ => rfl⟩) fun _ _ _ _ _ z => z
end U

set_option pp.maxSteps 300
open PySem PySem.W PyProof.Rows
set_option maxRecDepth 100000 in
set_option maxHeartbeats 0 in
theorem PySem.Challenge.cw_unseenflips_k13_checks_refused_holds : PySem.Challenge.rw_unseenflips_k13_checks_refused.Holds := by
  w_on; o_law; k_head; (case hw => w_witness2)
  k_fill
  refine U.walk (l := PySem.Challenge.rw_unseenflips_k13_checks_refused) rfl rfl (fun w h Y => PySem.W.kIn_of Y) ?F
  case F =>
    intro w mg fa h KX G hmg
    refine' U.all_mk KX G hmg ?a_is_word ?l_is_word ?c_is_word ?k_is_word ?a_l_seed ?l_l_seed ?c_l_seed ?k_l_seed ?a_l_choose ?l_l_choose ?c_l_choose ?k_l_choose ?a_l_one_of ?l_l_one_of ?c_l_one_of ?k_l_one_of ?a_l_word ?l_l_word ?c_l_word ?k_l_word ?a_l_check ?l_l_check ?c_l_check ?k_l_check ?a_l_leaf ?l_l_leaf ?c_l_leaf ?k_l_leaf ?a_l_any ?l_l_any ?c_l_any ?k_l_any ?a_l_is_row ?l_l_is_row ?c_l_is_row ?k_l_is_row ?a_l_heard ?l_l_heard ?c_l_heard ?k_l_heard ?a_l_named ?l_l_named ?c_l_named ?k_l_named ?a_law ?l_law ?c_law ?k_law ?aC_Check ?pg_Check ?hd_Check ?po_Check ?sa_Check ?mk_Check ?kc_Check ?n_Check_poly ?n_Check_start ?a_Check_init ?i_Check_init ?l_Check_init ?c_Check_init ?k_Check_init ?dl_Check_init ?aC_InvalidCheck ?elk_InvalidCheck ?erf_InvalidCheck ?sa_InvalidCheck ?exC_InvalidCheck ?tyC_InvalidCheck ?kC_InvalidCheck ?no_InvalidCheck ?a_InvalidCheck ?t_InvalidCheck ?lk_InvalidCheck ?cd_InvalidCheck ?cell_InvalidCheck ?code_InvalidCheck ?cfl_InvalidCheck ?fl_InvalidCheck ?tp_InvalidCheck ?sub_InvalidCheck ?sup_InvalidCheck ?opq_InvalidCheck ?ini_InvalidCheck ?ve_InvalidCheck ?ehd_InvalidCheck ?esb_InvalidCheck ?ega_InvalidCheck ?egg_InvalidCheck ?mro_Check ?cls_Check ?clg_X ?clt_X ?kon_cs ?aGI_FlipError ?aGI_InvalidRule ?xg_InvalidCheck ?xk_InvalidCheck ?xs_InvalidCheck ?xd_InvalidCheck ?xa_InvalidCheck ?xm_InvalidCheck ?kon_cf ?kon_cr ?gBITS ?z_len ?z_abs ?z_int ?z_range ?z_max ?z_min ?z_enumerate ?z_zip ?z_dict ?z_list ?z_tuple ?z_isinstance ?z_bool ?z_str ?z_all ?z_any ?z_sum ?z_sorted ?z_repr
    (case a_is_word => k_is)
    (case l_is_word => k_is)
    (case c_is_word => k_is)
    (case k_is_word => k_is)
    (case a_l_seed => k_is)
    (case l_l_seed => k_is)
    (case c_l_seed => k_is)
    (case k_l_seed => k_is)
    (case a_l_choose => k_is)
    (case l_l_choose => k_is)
    (case c_l_choose => k_is)
    (case k_l_choose => k_is)
    (case a_l_one_of => k_is)
    (case l_l_one_of => k_is)
    (case c_l_one_of => k_is)
    (case k_l_one_of => k_is)
    (case a_l_word => k_is)
    (case l_l_word => k_is)
    (case c_l_word => k_is)
    (case k_l_word => k_is)
    (case a_l_check => k_is)
    (case l_l_check => k_is)
    (case c_l_check => k_is)
    (case k_l_check => k_is)
    (case a_l_leaf => k_is)
    (case l_l_leaf => k_is)
    (case c_l_leaf => k_is)
    (case k_l_leaf => k_is)
    (case a_l_any => k_is)
    (case l_l_any => k_is)
    (case c_l_any => k_is)
    (case k_l_any => k_is)
    (case a_l_is_row => k_is)
    (case l_l_is_row => k_is)
    (case c_l_is_row => k_is)
    (case k_l_is_row => k_is)
    (case a_l_heard => k_is)
    (case l_l_heard => k_is)
    (case c_l_heard => k_is)
    (case k_l_heard => k_is)
    (case a_l_named => k_is)
    (case l_l_named => k_is)
    (case c_l_named => k_is)
    (case k_l_named => k_is)
    (case a_law => k_is)
    (case l_law => k_is)
    (case c_law => k_is)
    (case k_law => k_is)
    (case aC_Check => k_is)
    (case pg_Check => k_is)
    (case hd_Check => k_is)
    (case po_Check => k_is)
    (case sa_Check => k_is)
    (case mk_Check => k_is)
    (case kc_Check => k_is)
    (case n_Check_poly => k_is)
    (case n_Check_start => k_is)
    (case a_Check_init => k_is)
    (case i_Check_init => k_is)
    (case l_Check_init => k_is)
    (case c_Check_init => k_is)
    (case k_Check_init => k_is)
    (case dl_Check_init => k_is)
    (case aC_InvalidCheck => k_is)
    (case elk_InvalidCheck => k_is)
    (case erf_InvalidCheck => decide +kernel)
    (case sa_InvalidCheck => k_is)
    (case exC_InvalidCheck => k_is)
    (case tyC_InvalidCheck => k_is)
    (case kC_InvalidCheck => k_is)
    (case no_InvalidCheck => k_is)
    (case a_InvalidCheck => k_is)
    (case t_InvalidCheck => k_is)
    (case lk_InvalidCheck => k_is)
    (case cd_InvalidCheck => k_is)
    (case cell_InvalidCheck => k_is)
    (case code_InvalidCheck => k_is)
    (case cfl_InvalidCheck => exact rfl)
    (case fl_InvalidCheck => decide +kernel)
    (case tp_InvalidCheck => decide +kernel)
    (case sub_InvalidCheck => k_is)
    (case sup_InvalidCheck => k_is)
    (case opq_InvalidCheck => k_is)
    (case ini_InvalidCheck => kernel_rfl)
    (case ve_InvalidCheck => k_is)
    (case ehd_InvalidCheck => k_is)
    (case esb_InvalidCheck => k_is)
    (case ega_InvalidCheck => k_is)
    (case egg_InvalidCheck => k_is)
    (case mro_Check => k_is)
    (case cls_Check => k_is)
    (case clg_X => k_is)
    (case clt_X => k_is)
    (case kon_cs => kernel_rfl)
    (case aGI_FlipError => k_is)
    (case aGI_InvalidRule => k_is)
    (case xg_InvalidCheck => k_is)
    (case xk_InvalidCheck => k_is)
    (case xs_InvalidCheck => k_is)
    (case xd_InvalidCheck => k_is)
    (case xa_InvalidCheck => k_is)
    (case xm_InvalidCheck => k_is)
    (case kon_cf => kernel_rfl)
    (case kon_cr => kernel_rfl)
    (case gBITS => k_is)
    (case z_len => k_is)
    (case z_abs => k_is)
    (case z_int => k_is)
    (case z_range => k_is)
    (case z_max => k_is)
    (case z_min => k_is)
    (case z_enumerate => k_is)
    (case z_zip => k_is)
    (case z_dict => k_is)
    (case z_list => k_is)
    (case z_tuple => k_is)
    (case z_isinstance => k_is)
    (case z_bool => k_is)
    (case z_str => k_is)
    (case z_all => k_is)
    (case z_any => k_is)
    (case z_sum => k_is)
    (case z_sorted => k_is)
    (case z_repr => k_is)
#print axioms PySem.Challenge.cw_unseenflips_k13_checks_refused_holds
