import PyProof.Rows.All
import Wide.All
import OpenK.AllK
import Wide.FinOn
import HandS.ForMost
import HandS.Codes
import HandS.FStr
import HandS.IsInst
import HandS.Star
import HandS.TupAny
import HandS.Style
import HandS.Walk
import KE.GoesEnum
import KE.GoesNew
import HandS.Property
import HandS.Defaults
import HandS.ClsMeth
import HandS.MakeKw
import KE.GoesZip
import HandS.SortOrd
import HandS.SortRule
import HandS.OwnEq
import HandS.CallLocal
import KE.KCallOwn
import HandS.Deep
import PySem.Challenge.RW_unseenflips_k10_whole_rules_and_their_te
set_option Elab.async false
set_option linter.all false
set_option maxRecDepth 100000
set_option maxHeartbeats 4000000
namespace Lx
open PySem PySem.Spec PyProof.Rows L2

/-! enumerate over a text -/
def ItES (x : Str) : It := ⟨fun i _ => i < x.cps.size, fun i H v H' => ∃ T c, v = .ref T ∧ H T = none ∧ H' = upd H T (.tup [.int (i : Nat), .str ⟨#[c]⟩]) ∧ x.cps[i]? = some c, fun i _ => x.cps.size ≤ i⟩
theorem turn_enumS {P : Program} {w : World} {K : PySem.W.Frag} {elts : List Expr} {kk : Nat} {tpos : Pos} (x : Str) (t : Tok) (e it : Addr) :
    Turn P w K (.Tuple elts kk tpos) (ItES x) [e, it] e (fun i h => (∃ old, IsEnum h e it ((i : Nat) : Int) old) ∧ h.IsStrIter it (strIterType x) x t i ∧ e ≠ it ∧ i ≤ x.cps.size) where
  mem := by simp
  obj := fun i h st b hb => by
    obtain ⟨⟨old, he⟩, ⟨o, ho, hc, hd⟩, _⟩ := st
    have e' : b = e ∨ b = it := by simpa using hb
    rcases e' with z | z
    · rw [z]; exact ⟨_, he, fun v q => nomatch q⟩
    · rw [z]; exact ⟨o, ho, fun v q => by rw [hd] at q; cases q⟩
  keep := fun i h h' st k => by
    obtain ⟨⟨old, he⟩, ⟨o, ho, r⟩, hne⟩ := st
    exact ⟨⟨old, k e (by simp) _ he⟩, ⟨o, k it (by simp) o ho, r⟩, hne⟩
  item := by
    intro X hP hw hK hc i pins s σ H E I hf st hg
    subst hP hw hK
    obtain ⟨⟨old, he⟩, hit, hne, _⟩ := st
    have hlt : i < x.cps.size := hg
    have hel : e < s.heap.objs.size := Heap.lt_size he
    have hil : it < s.heap.objs.size := by obtain ⟨_, q, _⟩ := hit; exact Heap.lt_size q
    have hh : X.A.in1.handled = none := I.ok.hd hc
    refine wpAny_pyNext_enum_itemC (Draws.text hh it x t) he hit hlt hne (by simpa using hne) fun v h' tk hP ho hit' hT hsz hk => ?_
    obtain ⟨c, u, hcx, rfl⟩ := hP
    refine ⟨_, rfl, wpAny_letOwnedTupleGo_enum (s := { s with heap := h', toks := tk + 1 }) ho fun h'' he' sb => ?_⟩
    have hT2 : h''.get? s.heap.objs.size = some { cls := .type "tuple", data := .seq #[.int i tk, .str ⟨#[c]⟩ u] } := (sb.2 _ (Nat.ne_of_gt hel)).trans hT
    have new : ObjOk X.prog X.w (upd H s.heap.objs.size (.tup [.int (i : Nat), .str ⟨#[c]⟩])) h'' s.heap.objs.size (.tup [.int (i : Nat), .str ⟨#[c]⟩]) :=
      ⟨by show 2 ≤ sizeLine; decide, [.int i tk, .str ⟨#[c]⟩ u], .cons ⟨_, rfl⟩ (.cons ⟨_, rfl⟩ .nil), ⟨_, hT2, rfl, _, rfl⟩⟩
    have I1 : Inv X pins σ (upd H s.heap.objs.size (.tup [.int (i : Nat), .str ⟨#[c]⟩])) { s with heap := h'', toks := tk + 1 } :=
      I.turnedNew (ch := [e, it]) (fun b ob hb q => (sb.2 b (fun z => hb (by simp [z]))).trans (hk b ob (fun z => hb (by simp [z])) (fun z => hb (by simp [z])) q)) hf (Nat.le_refl _) new
    refine ⟨.ref s.heap.objs.size, _, I1, rfl, ⟨_, c, rfl, I.hok.fresh (Nat.le_refl _), rfl, hcx⟩, ⟨⟨.str ⟨#[c]⟩ u, ?_⟩, ?_, hne, hlt⟩, fun b hb => ?_⟩
    · have e1 : ((i + 1 : Nat) : Int) = (i : Int) + 1 := by omega
      rw [e1]; exact he'
    · obtain ⟨o, ho', r⟩ := hit'
      exact ⟨o, (sb.2 it (Ne.symm hne)).trans ho', r⟩
    · have hb' : b < s.heap.objs.size := by
        have e' : b = e ∨ b = it := by simpa using hb
        rcases e' with z | z
        · rw [z]; exact hel
        · rw [z]; exact hil
      rw [upd_ne (Nat.ne_of_lt hb')]
      exact (hf b hb).1
  done := by
    intro X hP hw hK hc i pins s σ H E I hf st hg
    subst hP hw hK
    obtain ⟨⟨old, he⟩, hit, hne, hle⟩ := st
    have hge : x.cps.size ≤ i := hg
    have hi : i = x.cps.size := Nat.le_antisymm hle hge
    subst hi
    have hh : X.A.in1.handled = none := I.ok.hd hc
    obtain ⟨f0, f1, f2, f3, f4, f5⟩ := hf it (by simp)
    exact wpAny_pyNext_enum_endD (Draws.text hh it x t) he hit fun h' eb => ⟨rfl, I.turned (t' := s.toks) (fun b o hb q => eb b o hb q) f0 f1 f3 f4 f5⟩
  self := fun A i s Q E st h => let ⟨⟨_, he⟩, _⟩ := st; wpAny_pyIter_enum he h
def iEnumS (ta : TA) : TI := fun σ H R => ta σ H fun vs H1 => ∃ x, vs = [.str x] ∧ R (ItES x) H1
theorem pi_enumS {X : Cx} {e : Expr} {ta : TA} {p pos tpos : Pos} {elts : List Expr} {kk : Nat} (hg : Gl X "enumerate") (hm : X.mg "enumerate" = none) (ha : PA X [e] ta) (hs : starEach [e] X.env = [(false, eval e X.env)] := by rfl) :
    PI X (.Tuple elts kk tpos) (.Call (.Name "enumerate" p) [e] [] pos) (iEnumS ta) := by
  refine ⟨fun pins s σ H R I h => ?_⟩
  refine Call_ (ld_blt I hg hm boot_enumerate (PyProof.Rows.callWith_type1 (thn (ha.run pos pins s σ H _ I h) fun us s1 ⟨vs, H1, I1, r1, q1⟩ => ?_) hs rfl))
  obtain ⟨x, ex, q⟩ := q1
  subst ex
  cases r1 with
  | cons r rr =>
    cases rr
    obtain ⟨t, rfl⟩ := r
    refine call_enumerate_str fun h' he hit hsz hk => wpAny_pyIter_enum he ?_
    have I2 : Inv X pins σ H1 { s1 with heap := h' } := I1.kept (t' := s1.toks) hk
    refine ⟨s1.heap.objs.size + 1, [s1.heap.objs.size + 1, s1.heap.objs.size], _, _, H1, rfl, I2, turn_enumS x t (s1.heap.objs.size + 1) s1.heap.objs.size, ⟨⟨.none, he⟩, hit, Nat.succ_ne_self _, Nat.zero_le _⟩, fun b hb => ?_, q⟩
    have e' : b = s1.heap.objs.size + 1 ∨ b = s1.heap.objs.size := by simpa using hb
    have hle : s1.heap.objs.size ≤ b := by
      rcases e' with z | z
      · rw [z]; exact Nat.le_add_right _ _
      · rw [z]; exact Nat.le_refl _
    exact I1.fpOk hle (I1.hok.fresh hle)

/-! enumerate over a tuple -/
def ItET (K : PySem.W.Frag) (a : Addr) : It :=
  ⟨fun i H => ∃ (xs : List V) (x : V), SqT K H a xs ∧ xs[i]? = some x, fun i H v H' => ∃ T x, v = .ref T ∧ H T = none ∧ H' = upd H T (.tup [.int (i : Nat), x]) ∧ ∀ xs, SqT K H a xs → xs[i]? = some x, fun i H => ∃ xs : List V, SqT K H a xs ∧ xs.length ≤ i⟩
theorem meets_enumerate_newT (l : Addr) (items : Array Value) (n : Nat) (dct : Option Addr) (sl : Array (Option Value)) :
    Meets (Builtin.«enumerate.__new__» ⟨[.type "enumerate", .ref l], []⟩) (fun _ R s => s.heap.get? l = some { cls := .type "tuple", dict := dct, data := .seq items n, slots := sl } ∧
      R (.ok (.ret (.ref (s.heap.push { cls := .type "tuple_iterator", data := .fields #[.ref l, .int 0 0] }).objs.size)))
        { s with heap := (s.heap.push { cls := .type "tuple_iterator", data := .fields #[.ref l, .int 0 0] }).push { cls := .type "enumerate", data := .fields #[.none, .bool false, .ref s.heap.objs.size, rawInt 0, .none, .none] } }) :=
  .of_wp fun prog w A R s h => by
    obtain ⟨hp, g, d, tk, os⟩ := s; obtain ⟨hl, h⟩ := h
    have hsub := sub_enumerate
    have hL : Heap.IsTuple (Shared.heap ⟨hp, g, d, tk, os⟩) l items := ⟨_, hl, rfl, n, rfl⟩
    wp_walk using AutoSeq1.wpAny_loadPart' hl
    refine wpAny_stack_any fun st => wpAny_pure ?_
    split
    · rename_i c _ _ _ _ _
      cases (c == Value.type "enumerate")
      · wp_walk using AutoSeq1.wpAny_loadPart' hl, wpAny_pyIter_tuple hL
        exact ⟨_, rfl, h⟩
      · wp_walk using AutoSeq1.wpAny_loadPart' hl, wpAny_pyIter_tuple hL
        exact ⟨_, rfl, h⟩
    · wp_walk using AutoSeq1.wpAny_loadPart' hl, wpAny_pyIter_tuple hL
      exact ⟨_, rfl, h⟩
theorem call_enumerate_tup {prog : Program} {w : World} {A : Around} {E : Value → Shared → Prop} {s : Shared} {l : Addr} {items : Array Value} {Q : Value → Shared → Prop} (hL : s.heap.IsTuple l items)
    (h : ∀ h', IsEnum h' (s.heap.objs.size + 1) s.heap.objs.size 0 .none → h'.IsTupleIter s.heap.objs.size l 0 → h'.objs.size = s.heap.objs.size + 2 →
      (∀ b o, s.heap.get? b = some o → h'.get? b = some o) → Q (.ref (s.heap.objs.size + 1)) { s with heap := h' }) :
    wpAny (model prog w) A (call (.type "enumerate") [.ref l]) Q E s := by
  obtain ⟨⟨c, dct, dt, sl⟩, hl, hc, n, hd⟩ := hL
  replace hc : c = .type "tuple" := hc
  replace hd : dt = .seq items n := hd
  subst hc hd
  refine callType_new F.called_enumerate (by decide) (F.typeCall_enumerate_1 _) (F.newCall_enumerate_1 _) (fun obj => F.args_object_init_2 obj _) F.entry_enumerate_new
    (meets_enumerate_newT l items n dct sl) ⟨hl, ?_⟩
  have hz : (s.heap.push { cls := .type "tuple_iterator", data := .fields #[.ref l, .int 0 0] }).objs.size = s.heap.objs.size + 1 := Heap.size_push ..
  show _ ∧ _
  rw [hz]
  have he : IsEnum ((s.heap.push { cls := .type "tuple_iterator", data := .fields #[.ref l, .int 0 0] }).push
      { cls := .type "enumerate", data := .fields #[.none, .bool false, .ref s.heap.objs.size, rawInt 0, .none, .none] }) (s.heap.objs.size + 1) s.heap.objs.size 0 .none := by
    have := Heap.get?_push_size (s.heap.push { cls := .type "tuple_iterator", data := .fields #[.ref l, .int 0 0] })
      (o := { cls := .type "enumerate", data := .fields #[.none, .bool false, .ref s.heap.objs.size, rawInt 0, .none, .none] }) rfl
    rw [hz] at this; exact this
  refine ⟨⟨_, he, rfl⟩, h _ he ⟨_, Heap.get?_push_of_some _ (Heap.get?_push_size _ rfl), rfl, rfl⟩ (by rw [Heap.size_push, hz]) fun b o x => Heap.get?_push_of_some _ (Heap.get?_push_of_some _ x)⟩
theorem turn_enumT {P : Program} {w : World} {K : PySem.W.Frag} {elts : List Expr} {kk : Nat} {tpos : Pos} (a e it : Addr) :
    Turn P w K (.Tuple elts kk tpos) (ItET K a) [e, it] e (fun i h => (∃ old, IsEnum h e it ((i : Nat) : Int) old) ∧ h.IsTupleIter it a i ∧ e ≠ it ∧ a ≠ it ∧ a ≠ e) where
  mem := by simp
  obj := fun i h st b hb => by
    obtain ⟨⟨old, he⟩, ⟨o, ho, hc, hd⟩, _⟩ := st
    have e' : b = e ∨ b = it := by simpa using hb
    rcases e' with z | z
    · rw [z]; exact ⟨_, he, fun v q => nomatch q⟩
    · rw [z]; exact ⟨o, ho, fun v q => by rw [hd] at q; cases q⟩
  keep := fun i h h' st k => by
    obtain ⟨⟨old, he⟩, ⟨o, ho, r⟩, hne⟩ := st
    exact ⟨⟨old, k e (by simp) _ he⟩, ⟨o, k it (by simp) o ho, r⟩, hne⟩
  item := by
    intro X hP hw hK hc i pins s σ H E I hf st hg
    subst hP hw hK
    obtain ⟨⟨old, he⟩, hit, hne, hai, hae⟩ := st
    obtain ⟨xs, x, hq, hx⟩ := hg
    obtain ⟨its, rv, p, hz⟩ := I.tuple hq
    obtain ⟨u, hu, ru⟩ := rv.get hx
    have hel : e < s.heap.objs.size := Heap.lt_size he
    have hil : it < s.heap.objs.size := by obtain ⟨_, q, _⟩ := hit; exact Heap.lt_size q
    have hh : X.A.in1.handled = none := I.ok.hd hc
    have pT : s.heap.IsTuple a its.toArray := p
    have hlt : i < its.toArray.size := by
      have := (List.getElem?_eq_some_iff.mp hu).1
      simpa using this
    refine wpAny_pyNext_enum_itemC (Draws.tuple hh it a hai its.toArray) he ⟨hit, pT⟩ hlt hne (by simp [hne, Ne.symm hae]) fun v h' tk hP ho hit' hT hsz hk => ?_
    have ev : v = u := by
      have hP' : its.toArray[i]? = some v := hP
      rw [List.getElem?_toArray, hu] at hP'
      exact (Option.some.inj hP').symm
    subst ev
    refine ⟨_, rfl, wpAny_letOwnedTupleGo_enum (s := { s with heap := h', toks := tk + 1 }) ho fun h'' he' sb => ?_⟩
    have hT2 : h''.get? s.heap.objs.size = some { cls := .type "tuple", data := .seq #[.int i tk, v] } := (sb.2 _ (Nat.ne_of_gt hel)).trans hT
    have new : ObjOk X.prog X.w (upd H s.heap.objs.size (.tup [.int (i : Nat), x])) h'' s.heap.objs.size (.tup [.int (i : Nat), x]) :=
      ⟨by show 2 ≤ sizeLine; decide, [.int i tk, v], .cons ⟨_, rfl⟩ (.cons ru .nil), ⟨_, hT2, rfl, _, rfl⟩⟩
    have I1 : Inv X pins σ (upd H s.heap.objs.size (.tup [.int (i : Nat), x])) { s with heap := h'', toks := tk + 1 } :=
      I.turnedNew (ch := [e, it]) (fun b ob hb q => (sb.2 b (fun z => hb (by simp [z]))).trans (hk b ob (fun z => hb (by simp [z])) (fun z => hb (by simp [z])) q)) hf (Nat.le_refl _) new
    refine ⟨.ref s.heap.objs.size, _, I1, rfl, ⟨_, x, rfl, I.hok.fresh (Nat.le_refl _), rfl, fun ys hy => by rw [I.tuple_inj hy hq]; exact hx⟩, ⟨⟨v, ?_⟩, ?_, hne, hai, hae⟩, fun b hb => ?_⟩
    · have e1 : ((i + 1 : Nat) : Int) = (i : Int) + 1 := by omega
      rw [e1]; exact he'
    · obtain ⟨⟨o, ho', r⟩, _⟩ := hit'
      exact ⟨o, (sb.2 it (Ne.symm hne)).trans ho', r⟩
    · have hb' : b < s.heap.objs.size := by
        have e' : b = e ∨ b = it := by simpa using hb
        rcases e' with z | z
        · rw [z]; exact hel
        · rw [z]; exact hil
      rw [upd_ne (Nat.ne_of_lt hb')]
      exact (hf b hb).1
  done := by
    intro X hP hw hK hc i pins s σ H E I hf st hg
    subst hP hw hK
    obtain ⟨⟨old, he⟩, hit, hne, hai, hae⟩ := st
    obtain ⟨xs, hq, hx⟩ := hg
    obtain ⟨its, rv, p, hz⟩ := I.tuple hq
    have hl := rv.length
    have pT : s.heap.IsTuple a its.toArray := p
    have hh : X.A.in1.handled = none := I.ok.hd hc
    obtain ⟨f0, f1, f2, f3, f4, f5⟩ := hf it (by simp)
    have D : Draws X.prog X.w X.A.in1 it [it, a] i (fun _ _ => True) (fun j h => j = i ∧ h.IsTupleIter it a i ∧ h.IsTuple a its.toArray) :=
      { live := fun _ _ st => let ⟨o, ho, _⟩ := st.2.1; ⟨o, ho⟩
        frame := fun _ _ _ st hk => ⟨st.1, st.2.1.at fun o e => hk it (by simp) o e, st.2.2.at fun o e => hk a (by simp) o e⟩
        item := fun j s Q E hj st hQ => absurd st.1 (Nat.ne_of_lt hj)
        done := fun s Q E st hE => wpAny_nextOf_tuple_end hh st.2.1 st.2.2 (by simp; omega) hE }
    exact wpAny_pyNext_enum_endD D he ⟨rfl, hit, pT⟩ fun h' eb => ⟨rfl, I.turned (t' := s.toks) (fun b o hb q => eb b o hb q) f0 f1 f3 f4 f5⟩
  self := fun A i s Q E st h => let ⟨⟨_, he⟩, _⟩ := st; wpAny_pyIter_enum he h
def iEnumT (K : PySem.W.Frag) (ta : TA) : TI := fun σ H R => ta σ H fun vs H1 => ∃ a xs, vs = [.ref a] ∧ SqT K H1 a xs ∧ R (ItET K a) H1
theorem pi_enumT {X : Cx} {e : Expr} {ta : TA} {p pos tpos : Pos} {elts : List Expr} {kk : Nat} (hg : Gl X "enumerate") (hm : X.mg "enumerate" = none) (ha : PA X [e] ta) (hs : starEach [e] X.env = [(false, eval e X.env)] := by rfl) :
    PI X (.Tuple elts kk tpos) (.Call (.Name "enumerate" p) [e] [] pos) (iEnumT X.K ta) := by
  refine ⟨fun pins s σ H R I h => ?_⟩
  refine Call_ (ld_blt I hg hm boot_enumerate (PyProof.Rows.callWith_type1 (thn (ha.run pos pins s σ H _ I h) fun us s1 ⟨vs, H1, I1, r1, q1⟩ => ?_) hs rfl))
  obtain ⟨a, xs, ex, hq, q⟩ := q1
  subst ex
  cases r1 with
  | cons r rr =>
    cases rr
    cases r
    obtain ⟨its, rv, p', hz⟩ := I1.tuple hq
    have pT : s1.heap.IsTuple a its.toArray := p'
    have hlt : a < s1.heap.objs.size := by obtain ⟨o, ho, _⟩ := pT; exact Heap.lt_size ho
    refine call_enumerate_tup pT fun h' he hit hsz hk => wpAny_pyIter_enum he ?_
    have I2 : Inv X pins σ H1 { s1 with heap := h' } := I1.kept (t' := s1.toks) hk
    refine ⟨s1.heap.objs.size + 1, [s1.heap.objs.size + 1, s1.heap.objs.size], _, _, H1, rfl, I2, turn_enumT a (s1.heap.objs.size + 1) s1.heap.objs.size, ⟨⟨.none, he⟩, hit, Nat.succ_ne_self _, Nat.ne_of_lt hlt, Nat.ne_of_lt (Nat.lt_succ_of_lt hlt)⟩, fun b hb => ?_, q⟩
    have e' : b = s1.heap.objs.size + 1 ∨ b = s1.heap.objs.size := by simpa using hb
    have hle : s1.heap.objs.size ≤ b := by
      rcases e' with z | z
      · rw [z]; exact Nat.le_add_right _ _
      · rw [z]; exact Nat.le_refl _
    exact I1.fpOk hle (I1.hok.fresh hle)
/-- a list or a tuple, enumerated -/
def iEnumQ (K : PySem.W.Frag) (ta : TA) : TI := fun σ H R => iEnum K ta σ H R ∨ iEnumT K ta σ H R
theorem pi_enumQ {X : Cx} {e : Expr} {ta : TA} {p pos tpos : Pos} {elts : List Expr} {kk : Nat} (hg : Gl X "enumerate") (hm : X.mg "enumerate" = none) (ha : PA X [e] ta) (hs : starEach [e] X.env = [(false, eval e X.env)] := by rfl) :
    PI X (.Tuple elts kk tpos) (.Call (.Name "enumerate" p) [e] [] pos) (iEnumQ X.K ta) := by
  refine ⟨fun pins s σ H R I h => ?_⟩
  rcases h with h | h
  · exact (pi_enum hg hm ha hs).run pins s σ H R I h
  · exact (pi_enumT hg hm ha hs).run pins s σ H R I h
theorem walk_enumT {K : PySem.W.Frag} {a : Addr} {xs : List V} : Walk (ItET K a) xs.length (fun H => SqT K H a xs) (YPair (fun i => some (.int (i : Nat))) (fun i => xs[i]?)) := by
  refine ⟨fun i _ hi q => ⟨xs, xs[i], q, by simp [hi]⟩, fun _ q => ⟨xs, q, Nat.le_refl _⟩, fun i H v H' _ q y => ?_⟩
  obtain ⟨T, x, h1, h2, h3, h4⟩ := y
  exact ⟨T, .int (i : Nat), x, h1, h2, h3, rfl, h4 xs q⟩
theorem walk_enumS {x : Str} : Walk (ItES x) x.cps.size (fun _ => True) (fun i H v H' => ∃ T c, v = .ref T ∧ H T = none ∧ H' = upd H T (.tup [.int (i : Nat), .str ⟨#[c]⟩]) ∧ x.cps[i]? = some c) :=
  ⟨fun _ _ hi _ => hi, fun _ _ => Nat.le_refl _, fun _ _ _ _ _ _ y => y⟩
end Lx

set_option maxRecDepth 100000
set_option maxHeartbeats 4000000
namespace Lx
open PySem PySem.Spec PyProof.Rows L2
/-- n turns, each a new tuple whose items are as f says -/
def ItTup (n : Nat) (f : Nat → List V → Prop) : It :=
  ⟨fun i _ => i < n, fun i H v H' => ∃ T xs, v = .ref T ∧ H T = none ∧ H' = upd H T (.tup xs) ∧ f i xs, fun i _ => n ≤ i⟩
theorem turn_tuples {P : Program} {w : World} {K : PySem.W.Frag} {elts : List Expr} {kk : Nat} {tpos : Pos} {it : Addr} {fp wr : List Addr} {n : Nat} {Pt : Nat → Array Value → Prop} {St : Nat → Heap → Prop} {Mid : Nat → Addr → Heap → Prop} {f : Nat → List V → Prop}
    (Wk : ∀ A : Around, A.in1.handled = none → WalksT P w A it fp wr n Pt St Mid) (hrel : ∀ i vals, Pt i vals → ∃ xs, Vals xs vals.toList ∧ f i xs ∧ xs.length ≤ 8)
    (hobj : ∀ i h, St i h → ∀ b ∈ fp, ∃ o, h.get? b = some o ∧ ∀ v, o.data ≠ .cell v) (hmem : it ∈ fp)
    (hself : ∀ (A : Around) (i : Nat) (s : Shared) (Q : Value → Shared → Prop) (E : Value → Shared → Prop), St i s.heap → Q (.ref it) s → wpAny (model P w) A (pyIter (.ref it)) Q E s) :
    Turn P w K (.Tuple elts kk tpos) (ItTup n f) fp it (fun i h => St i h ∧ i ≤ n) where
  mem := hmem
  obj := fun i h st => hobj i h st.1
  keep := fun i h h' st k => ⟨(Wk {} rfl).frame i h h' st.1 k, st.2⟩
  item := by
    intro X hP hw hK hc i pins s σ H E I hf st hg
    subst hP hw hK
    have hh : X.A.in1.handled = none := I.ok.hd hc
    have hlt : i < n := hg
    refine (GoesN.ofWalksT (elts := elts) (k := kk) (pos := tpos) (Wk X.A hh)).goes i s _ _ hlt st.1 fun v h' tk hY st' hk htk => ?_
    obtain ⟨T, vals, rfl, hnew, hPt, hT⟩ := hY
    obtain ⟨xs, rv, hfx, hl⟩ := hrel i vals hPt
    have new : ObjOk X.prog X.w (upd H T (.tup xs)) h' T (.tup xs) := ⟨Nat.le_trans hl (by decide), vals.toList, rv, by rw [Array.toArray_toList]; exact hT⟩
    have I1 : Inv X pins σ (upd H T (.tup xs)) { s with heap := h', toks := tk } :=
      I.turnedNew (ch := fp) (fun b ob hb q => hk b ob (fun z => hb ((Wk X.A hh).sub b z)) q) hf hnew new
    refine ⟨.ref T, _, I1, rfl, ⟨T, xs, rfl, I.hok.fresh hnew, rfl, hfx⟩, ⟨st', hlt⟩, fun b hb => ?_⟩
    have hb' : b < s.heap.objs.size := by obtain ⟨o, ho, _⟩ := hobj i _ st.1 b hb; exact Heap.lt_size ho
    rw [upd_ne (Nat.ne_of_lt (Nat.lt_of_lt_of_le hb' hnew))]
    exact (hf b hb).1
  done := by
    intro X hP hw hK hc i pins s σ H E I hf st hg
    subst hP hw hK
    have hh : X.A.in1.handled = none := I.ok.hd hc
    have hge : n ≤ i := hg
    have hi : i = n := Nat.le_antisymm st.2 hge
    subst hi
    refine (Wk X.A hh).done s _ _ st.1 fun h' tk hk => ⟨rfl, ?_⟩
    exact I.turnedL (ch := fp) (fun c o hb q => hk c o (fun z => hb ((Wk X.A hh).sub c z)) q) hf
  self := fun A i s Q E st h => hself A i s Q E st.1 h
theorem walk_tuples {n : Nat} {f : Nat → List V → Prop} : Walk (ItTup n f) n (fun _ => True) (fun i H v H' => ∃ T xs, v = .ref T ∧ H T = none ∧ H' = upd H T (.tup xs) ∧ f i xs) :=
  ⟨fun _ _ hi _ => hi, fun _ _ => Nat.le_refl _, fun _ _ _ _ _ _ y => y⟩
/-! zip of two texts -/
def zipF (x y : Str) : Nat → List V → Prop := fun i xs => ∃ c d, x.cps[i]? = some c ∧ y.cps[i]? = some d ∧ xs = [.str ⟨#[c]⟩, .str ⟨#[d]⟩]
def iZipS (ta : TA) : TI := fun σ H R => ta σ H fun vs H1 => ∃ x y, vs = [.str x, .str y] ∧ R (ItTup (min x.cps.size y.cps.size) (zipF x y)) H1
theorem pi_zipS {X : Cx} {e e2 : Expr} {ta : TA} {p pos tpos : Pos} {elts : List Expr} {kk : Nat} (hg : Gl X "zip") (hm : X.mg "zip" = none) (ha : PA X [e, e2] ta)
    (hs : starEach [e, e2] X.env = (false, eval e X.env) :: starEach [e2] X.env := by rfl) (hpl : (backTo pos (starEach [e2] X.env)).any (·.1) = false := by rfl) :
    PI X (.Tuple elts kk tpos) (.Call (.Name "zip" p) [e, e2] [] pos) (iZipS ta) := by
  refine ⟨fun pins s σ H R I h => ?_⟩
  refine Call_ (ld_blt I hg hm PyProof.Rows.boot_zip (PyProof.Rows.callWith_type1 (thn (ha.run pos pins s σ H _ I h) fun us s1 ⟨vs, H1, I1, r1, q1⟩ => ?_) hs hpl))
  obtain ⟨x, y, ex, q⟩ := q1
  subst ex
  cases r1 with
  | cons r rr =>
    cases rr with
    | cons r' rr =>
      cases rr
      obtain ⟨t, rfl⟩ := r
      obtain ⟨t', rfl⟩ := r'
      refine zip_begins2 (begins_text x t) (begins_text y t') trivial trivial fun h' hz hTI hTO h1 h2 hsz hk => wpAny_pyIter_zip hz ?_
      have I2 : Inv X pins σ H1 { s1 with heap := h' } := I1.kept (t' := s1.toks) hk
      have sep := zip_sep2 (N := s1.heap.objs.size) (fp1 := []) (fp2 := []) (fun b hb => nomatch hb) (fun b hb => nomatch hb)
      have tn := turn_tuples (P := X.prog) (w := X.w) (K := X.K) (elts := elts) (kk := kk) (tpos := tpos) (f := zipF x y)
        (fun A hh => WalksT.zipD2 sep (Draws.text (prog := X.prog) (w := X.w) hh s1.heap.objs.size x t) (Draws.text (prog := X.prog) (w := X.w) hh (s1.heap.objs.size + 1) y t'))
        (fun i vals hv => by
          obtain ⟨x1, x2, ⟨c, u, hc, rfl⟩, ⟨d, u', hd, rfl⟩, rfl⟩ := hv
          exact ⟨[.str ⟨#[c]⟩, .str ⟨#[d]⟩], .cons ⟨_, rfl⟩ (.cons ⟨_, rfl⟩ .nil), ⟨c, d, hc, hd, rfl⟩, by show 2 ≤ 8; decide⟩)
        (fun i h st b hb => by
          obtain ⟨z1, z2, ⟨a1, a2, z3⟩, ⟨o1, e1, _, d1⟩, ⟨o2, e2, _, d2⟩⟩ := st
          have e' : b = s1.heap.objs.size + 4 ∨ b = s1.heap.objs.size + 2 ∨ b = s1.heap.objs.size + 3 ∨ b = s1.heap.objs.size ∨ b = s1.heap.objs.size + 1 := by simpa using hb
          rcases e' with q | q | q | q | q
          · rw [q]; exact ⟨_, z1, fun v q => nomatch q⟩
          · rw [q]; exact ⟨_, z2, fun v q => nomatch q⟩
          · rw [q]; exact ⟨_, z3, fun v q => nomatch q⟩
          · rw [q]; exact ⟨o1, e1, fun v q => by rw [d1] at q; cases q⟩
          · rw [q]; exact ⟨o2, e2, fun v q => by rw [d2] at q; cases q⟩)
        (by simp) (fun A i s Q E st h => wpAny_pyIter_zip st.1 h)
      refine ⟨s1.heap.objs.size + 4, _, _, _, H1, rfl, I2, tn, ⟨⟨hz, hTI, ⟨_, _, hTO⟩, ⟨_, h1, rfl, rfl⟩, ⟨_, h2, rfl, rfl⟩⟩, Nat.zero_le _⟩, fun c hcm => ?_, q⟩
      have e' : c = s1.heap.objs.size + 4 ∨ c = s1.heap.objs.size + 2 ∨ c = s1.heap.objs.size + 3 ∨ c = s1.heap.objs.size ∨ c = s1.heap.objs.size + 1 := by simpa using hcm
      have hle : s1.heap.objs.size ≤ c := by
        rcases e' with z | z | z | z | z
        · rw [z]; exact Nat.le_add_right _ _
        · rw [z]; exact Nat.le_add_right _ _
        · rw [z]; exact Nat.le_add_right _ _
        · rw [z]; exact Nat.le_refl _
        · rw [z]; exact Nat.le_add_right _ _
      exact I1.fpOk hle (I1.hok.fresh hle)
/-! text * int -/
section
variable {X : Cx}
theorem op_rep_str : OpR X (binaryOp .Mult) (fun x y H Q => ∃ (z : Str) (n : Int), x = .str z ∧ y = .int n ∧ n < 2 ^ 20 ∧ -(2 ^ 20) < n ∧ z.length * n.toNat ≤ 100000 ∧ Q (.str (Txt.mul z n)) H) := by
  intro pins s σ H x y u v Q I rx ry h
  obtain ⟨z, n, rfl, rfl, h1, h2, h3, q⟩ := h
  obtain ⟨t, rfl⟩ := rx
  obtain ⟨t', rfl⟩ := ry
  refine SB.mul ⟨?_, fun a b => ?_, fun a b => ?_⟩ fun t' k => ⟨.str (Txt.mul z n), H, I.tok _, ⟨_, rfl⟩, q⟩
  · rw [decide_eq_false (by omega), decide_eq_false (by omega)]; rfl
  · have e1 : ((z.length : Int)) ≤ 100000 := by
      have : z.length * 1 ≤ z.length * n.toNat := Nat.mul_le_mul_left _ (by omega)
      omega
    have e2 : (100000 : Int) ≤ (2 ^ 63 - 1) / n := by
      refine (Int.le_ediv_iff_mul_le (by omega)).mpr ?_
      omega
    omega
  · show decide (z.length * n.toNat > sizeLine) = false
    exact decide_eq_false (Nat.not_lt.mpr (Nat.le_trans h3 (by decide)))
end
/-! a class made without arguments; a def called without; a property -/
open C8 in
theorem pe_mk0 {X : Cx} {k j : Nat} {C : Addr} {x : Str} {sp : Sp} {dvs : List V} {p pos : Pos} (c : Mak X.prog X.w X.K X.mg X.base k x C sp dvs) (hr : Room j X.A) (hk : k + 1 ≤ j) (hg : Gl X x) (hdb : (x == ("__debug__" : Str)) = false := by decide) :
    PE X (.Call (.Name x p) [] [] pos) (tMake C sp dvs C8.E0 tNil) := by
  obtain ⟨f, fd, ps, ds, M, F, hm, b, d⟩ := c.ex
  exact pe_make0 M F (hr.mono hk) hg hm b d C8.pass0 hdb
open C8 in
theorem pe_c0 {X : Cx} {k j : Nat} {x : Str} {sp : Sp} {dvs : List V} {p pos : Pos} (c : Cal X.prog X.w X.K X.mg X.base k x sp dvs) (hr : Room j X.A) (hk : k ≤ j) (hg : Gl X x) (hdb : (x == ("__debug__" : Str)) = false := by decide) :
    PE X (.Call (.Name x p) [] [] pos) (tCall sp dvs C8.E0 tNil) := by
  obtain ⟨f, fd, ps, ds, F, hm, kp, b, d⟩ := c.ex
  exact pe_call0 F (hr.mono hk) hg hm kp b d C8.pass0 hdb
/-- a property of the class at C -/
structure Prp (P : Program) (w : World) (K : PySem.W.Frag) (mg : Str → Option Value) (base : Heap) (k : Nat) (C : Addr) (m : Str) (sp : Sp) : Prop where
  ex : ∃ (p f : Addr) (fd : FuncData) (ps : List Str), Cls K C ∧ PropOf K C m p f ∧ FnOk P w K mg base C8.CX0 k f fd ps sp ∧ Binds K fd ps []
theorem pe_pr {X : Cx} {k j : Nat} {C : Addr} {m : Str} {sp : Sp} {e : Expr} {ta : TE} {pos : Pos} (c : Prp X.prog X.w X.K X.mg X.base k C m sp) (hr : Room j X.A) (hk : k + 1 ≤ j) (he : PE X e ta) (hab : attributeBase e m X.env (eval e X.env) = eval e X.env := by rfl) :
    PE X (.Attribute e m pos) (tProp C sp [] C8.E0 ta) := by
  obtain ⟨p, f, fd, ps, hc, hp, F, b⟩ := c.ex
  exact pe_prop he hc hp F (hr.mono hk) b .nil C8.pass0 hab
end Lx

set_option maxRecDepth 100000
set_option maxHeartbeats 4000000
/-! sorted of pairs of texts -/
namespace SrT
open PySem PyProof.Rows SrtO
def IsTT (h : Heap) (v : Value) (x y : Str) : Prop := ∃ a o t u n, v = .ref a ∧ h.get? a = some o ∧ o.cls = .type "tuple" ∧ o.data = .seq #[.str x t, .str y u] n
theorem IsTT.keeps {h h' : Heap} {v : Value} {x y : Str} (p : IsTT h v x y) (k : ∀ b o, h.get? b = some o → o.cls = .type "tuple" → h'.get? b = some o) : IsTT h' v x y := by
  obtain ⟨a, o, t, u, n, e, ho, hc, hd⟩ := p
  exact ⟨a, o, t, u, n, e, k _ _ ho hc, hc, hd⟩
def lexT (p q : Str × Str) : Bool := if p.1 = q.1 then decide (p.2.cps.toList < q.2.cps.toList) else decide (p.1.cps.toList < q.1.cps.toList)
theorem str_of {a b : Str} (h : a.cps.toList = b.cps.toList) : a = b := TL.ext_tl h
theorem tri {a b : Str} (h1 : ¬ a.cps.toList < b.cps.toList) (h2 : ¬ b.cps.toList < a.cps.toList) : a = b :=
  str_of (List.le_antisymm (List.not_lt.mp h2) (List.not_lt.mp h1))
theorem lexT_no {p q : Str × Str} : lexT p q = false ↔ q.1.cps.toList < p.1.cps.toList ∨ (p.1 = q.1 ∧ ¬ p.2.cps.toList < q.2.cps.toList) := by
  unfold lexT
  by_cases e : p.1 = q.1
  · rw [if_pos e, decide_eq_false_iff_not]
    constructor
    · intro h; exact .inr ⟨e, h⟩
    · rintro (h | h)
      · rw [e] at h; exact absurd h (List.lt_irrefl _)
      · exact h.2
  · rw [if_neg e, decide_eq_false_iff_not]
    constructor
    · intro h
      by_cases c : q.1.cps.toList < p.1.cps.toList
      · exact .inl c
      · exact absurd (tri h c) e
    · rintro (h | h)
      · exact List.lt_asymm h
      · exact absurd h.1 e
theorem lexT_yes {p q : Str × Str} : lexT p q = true ↔ p.1.cps.toList < q.1.cps.toList ∨ (p.1 = q.1 ∧ p.2.cps.toList < q.2.cps.toList) := by
  unfold lexT
  by_cases e : p.1 = q.1
  · rw [if_pos e, decide_eq_true_eq]
    constructor
    · intro h; exact .inr ⟨e, h⟩
    · rintro (h | h)
      · rw [e] at h; exact absurd h (List.lt_irrefl _)
      · exact h.2
  · rw [if_neg e, decide_eq_true_eq]
    constructor
    · intro h; exact .inl h
    · rintro (h | h)
      · exact h
      · exact absurd h.1 e
theorem swo_T {α : Type} (k : α → Str × Str) : Swo fun v u => lexT (k v) (k u) := by
  refine ⟨fun x y h => ?_, fun x y z h1 h2 => ?_⟩
  · rcases lexT_yes.mp h with a | ⟨a, b⟩
    · exact lexT_no.mpr (.inl a)
    · exact lexT_no.mpr (.inr ⟨a.symm, List.lt_asymm b⟩)
  · refine lexT_no.mpr ?_
    rcases lexT_no.mp h1 with a | ⟨a, b⟩ <;> rcases lexT_no.mp h2 with c | ⟨c, d⟩
    · exact .inl (List.lt_trans a c)
    · rw [← c] at a; exact .inl a
    · rw [a] at c; exact .inl c
    · refine .inr ⟨c.trans a, fun hz => ?_⟩
      by_cases e : (k y).2.cps.toList < (k x).2.cps.toList
      · exact b e
      · by_cases g : (k z).2 = (k y).2
        · rw [g] at hz; exact b hz
        · by_cases i : (k y).2.cps.toList < (k z).2.cps.toList
          · exact b (List.lt_trans i hz)
          · exact g (tri d i)
section
variable {prog : Program} {w : World} {A : Around} {E : Value → Shared → Prop} {s : Shared}
theorem tt_cmp {vs : List Value} {k : Value → Str × Str} (hp : ∀ v ∈ vs, IsTT s.heap v (k v).1 (k v).2) : Cmp prog w A s (tuples' true) (fun p => p.1 ∈ vs) (lt2 fun v u => lexT (k v) (k u)) := by
  intro p q hm hm'
  have h1 := hp _ hm
  have h2 := hp _ hm'
  show wpAny (model prog w) A (keyLt' (tuples' true) p.1 q.1) (fun r s' => s' = s ∧ r = lexT (k p.1) (k q.1)) (fun _ _ => False) s
  unfold lexT
  generalize (k p.1).1 = x at h1 ⊢
  generalize (k p.1).2 = y at h1 ⊢
  generalize (k q.1).1 = x' at h2 ⊢
  generalize (k q.1).2 = y' at h2 ⊢
  obtain ⟨a, o, t, u, n, e, ho, hc, hd⟩ := h1
  obtain ⟨a', o', t', u', n', e', ho', hc', hd'⟩ := h2
  rw [e, e']
  refine PySem.W.kat_lt ho hd ho' hd' ?_
  show PySem.W.KatLex prog w A true (decide (2 < 2)) _ [(.str x t, .str x' t'), (.str y u, .str y' u')] 0 s
  refine PySem.W.kat_cons (SeqAt.EqAt.str_str x t x' t' prog w _ _ ?_)
  refine PySem.W.kat_go (fun e1 => ?_) (fun e1 => ?_)
  · have ex : x = x' := by simpa using e1
    refine PySem.W.kat_yes (PySem.W.kat_cons (SeqAt.EqAt.str_str y u y' u' prog w _ _ ?_))
    refine PySem.W.kat_go (fun e2 => ?_) (fun e2 => ?_)
    · have ey : y = y' := by simpa using e2
      have e3 : (if x = x' then decide (y.cps.toList < y'.cps.toList) else decide (x.cps.toList < x'.cps.toList)) = false := by
        rw [if_pos ex, ey]
        exact decide_eq_false (List.lt_irrefl _)
      exact PySem.W.kat_yes (PySem.W.kat_nil ⟨rfl, e3.symm⟩)
    · have e3 : (if x = x' then decide (y.cps.toList < y'.cps.toList) else decide (x.cps.toList < x'.cps.toList)) = decide (y.cps.toList < y'.cps.toList) := if_pos ex
      refine PySem.W.kat_no (PySem.W.kat_one _ _ (PyProof.Rows.lt_str ?_))
      exact (show s = s ∧ decide (y.cps.toList < y'.cps.toList) = (if x = x' then decide (y.cps.toList < y'.cps.toList) else decide (x.cps.toList < x'.cps.toList)) from ⟨rfl, e3.symm⟩)
  · have ex : ¬ x = x' := by simpa using e1
    have e3 : (if x = x' then decide (y.cps.toList < y'.cps.toList) else decide (x.cps.toList < x'.cps.toList)) = decide (x.cps.toList < x'.cps.toList) := if_neg ex
    exact PySem.W.kat_no (oneLt_str ⟨rfl, e3.symm⟩)
theorem firsts_T {h : Heap} : ∀ {vs : List Value}, (∀ v ∈ vs, ∃ x y, IsTT h v x y) → ∃ fs : List Value, PySem.W.KatTups h vs fs ∧ fs.length = vs.length ∧ ∀ f ∈ fs, ∃ x t, f = Value.str x t
  | [], _ => ⟨[], PySem.W.KatTups.nil, rfl, fun _ hm => by simp at hm⟩
  | v :: vs, hp => by
    obtain ⟨fs, h1, h2, h3⟩ := firsts_T (vs := vs) fun v' hm => hp v' (List.mem_cons_of_mem _ hm)
    obtain ⟨x, y, a, o, t, u, n, e, ho, hc, hd⟩ := hp v (List.mem_cons_self ..)
    subst e
    refine ⟨.str x t :: fs, PySem.W.KatTups.cons ho hc hd rfl h1, by rw [List.length_cons, List.length_cons, h2], fun f hm => ?_⟩
    rcases List.mem_cons.mp hm with rfl | hm
    · exact ⟨x, t, rfl⟩
    · exact h3 f hm
theorem tt_sortable {a : Addr} {vs : List Value} {k : Value → Str × Str} (h0 : 0 < vs.length) (hp : ∀ v ∈ vs, IsTT s.heap v (k v).1 (k v).2) (ha : ∀ o, s.heap.get? a = some o → o.cls ≠ .type "tuple") : SortableO prog w A s a vs fun v u => lexT (k v) (k u) := by
  intro h' keep
  have hp' : ∀ v ∈ vs, IsTT h' v (k v).1 (k v).2 := fun v hm => (hp v hm).keeps fun b o e c => keep b o (fun z => by subst z; exact ha o e c) e
  obtain ⟨fs, h1, h2, h3⟩ := firsts_T fun v hm => ⟨_, _, hp' v hm⟩
  refine ⟨tuples' true, fun Q E hq => ?_, tt_cmp hp'⟩
  refine PySem.W.kat_kind (T := .type "str") h1 (by omega) (fun f hm => ?_) (by rfl) ?_
  · obtain ⟨x, t, rfl⟩ := h3 f hm
    exact PySem.W.Looks.now
  · have e : (Value.type "str" != Value.type "tuple") = true := by first | decide +kernel | rfl | decide
    rw [e]
    exact hq
theorem collect_tup {l : Addr} {vs : List Value} {Q : List Value → Shared → Prop} (hl : s.heap.IsTuple l vs.toArray)
    (h : Q vs { s with heap := (s.heap.push (seqObj "list" #[] 0)).update s.heap.objs.size (Obj.mapSeq (· ++ vs.toArray)) }) (hsz : vs.length ≤ sizeLine) :
    wpAny (model prog w) A (collect (.ref l)) Q E s := by
  obtain ⟨o, ho, hc, n, hd⟩ := id hl
  unfold collect
  refine wpAny_bind (wpAny_runValue (codeAny_builtin entry_proto_collect' ?_))
  show wpAny _ _ (do again (.builtin "list.__iadd__" ⟨[← newList [], .ref l], []⟩)) _ _ s
  refine wpAny_bind (wpAny_newList (wpAny_pure ⟨Code.quiet_builtin _ (by decide +kernel), codeAny_builtin entry_list_iadd' ?_⟩))
  show wpAny _ _ (Builtin.List.listExtendWith (.ref s.heap.objs.size) (.ref l) (.ref s.heap.objs.size)) _ _ { s with heap := s.heap.push (seqObj "list" #[] 0) }
  unfold Builtin.List.listExtendWith
  have ho' : (s.heap.push (seqObj "list" #[] 0)).get? l = some o := Heap.get?_push_of_some _ ho
  refine wpAny_bind (wpAny_typeOf (T := "tuple") ⟨o, ho', hc⟩ ?_)
  have ht : (Value.type "tuple" == Value.type "tuple") = true := by rfl
  rw [if_pos (by rw [ht]; simp)]
  refine wpAny_bind (listItems_at ho' hd ?_)
  refine wpAny_bind (listItems_at (xs := #[]) (n := 0) (Heap.get?_push_size _ rfl) rfl ?_)
  rw [if_neg (by simp)]
  refine wpAny_bind (listUpdate_at (xs := #[]) (n := 0) (Heap.get?_push_size _ rfl) rfl ?_ (Nat.zero_le _) (by show (#[] ++ vs.toArray).size ≤ sizeLine + 1; simp only [Array.size_append, List.size_toArray, List.length_nil]; omega))
  refine wpAny_pure ?_
  show wpAny (model prog w) A (do
      let o ← load s.heap.objs.size
      match o.data with
      | .seq xs _ => pure xs.toList
      | _ => unsupported "internal:collect") Q E { s with heap := (s.heap.push (seqObj "list" #[] 0)).update s.heap.objs.size (Obj.mapSeq (· ++ vs.toArray)) }
  refine wpAny_bind (wpAny_load (get?_update_seq (Heap.get?_push_size _ rfl) _) ?_)
  show wpAny _ _ (pure ((#[] : Array Value) ++ vs.toArray).toList) Q E _
  rw [show ((#[] : Array Value) ++ vs.toArray).toList = vs by simp]
  exact wpAny_pure h
/-- sorted(x) of what is collected -/
theorem sorted_col {x : Value} {vs : List Value} {ltv : Value → Value → Bool} {Q : Value → Shared → Prop} (O : Swo ltv)
    (hcol : ∀ (A : Around) (E : Value → Shared → Prop) (Q : List Value → Shared → Prop), Q vs { s with heap := (s.heap.push (seqObj "list" #[] 0)).update s.heap.objs.size (Obj.mapSeq (· ++ vs.toArray)) } → wpAny (model prog w) A (collect x) Q E s) (hz : vs.length ≤ sizeLine)
    (hS : 2 ≤ vs.length → ∀ (h₁ : Heap) (a : Addr), h₁.get? a = some (seqObj "list" vs.toArray 0) → (∀ b o, s.heap.get? b = some o → b ≠ a ∧ h₁.get? b = some o) → SortableO prog w A.in1.in1 { s with heap := h₁ } a vs ltv)
    (h : ∀ out : List Value, Srtd ltv out → Stb ltv out vs → Q (.ref (s.heap.objs.size + 1)) { s with heap := sortedAll s.heap vs out.toArray }) :
    wpAny (model prog w) A (call (.builtin "sorted") [x]) Q E s := by
  refine Calls.call_function_entry kind_sorted plain_sorted entry_sorted (args_sorted1 _) ?_
  unfold Builtin.«sorted»
  refine wpAny_bind (m := checkCount "sorted" 1 1 _) (wpAny_pure ?_)
  refine wpAny_bind (hcol _ _ _ ?_)
  refine wpAny_bind (wpAny_newList ?_ hz)
  have hsz : ((s.heap.push (seqObj "list" #[] 0)).update s.heap.objs.size (Obj.mapSeq (· ++ vs.toArray))).objs.size = s.heap.objs.size + 1 := by
    rw [Heap.size_update, size_push']
  have hoL : (((s.heap.push (seqObj "list" #[] 0)).update s.heap.objs.size (Obj.mapSeq (· ++ vs.toArray))).push (seqObj "list" vs.toArray 0)).get? (s.heap.objs.size + 1) = some (seqObj "list" vs.toArray 0) := by
    rw [← hsz]; exact Heap.get?_push_size _ rfl
  have keep : ∀ b o, s.heap.get? b = some o → b ≠ s.heap.objs.size + 1 ∧ (((s.heap.push (seqObj "list" #[] 0)).update s.heap.objs.size (Obj.mapSeq (· ++ vs.toArray))).push (seqObj "list" vs.toArray 0)).get? b = some o := fun b o q => by
    have hlt : b < s.heap.objs.size := Heap.lt_size q
    refine ⟨Nat.ne_of_lt (Nat.lt_succ_of_lt hlt), Heap.get?_push_of_some _ ?_⟩
    rw [Heap.get?_update_ne _ _ _ _ (Nat.ne_of_lt hlt)]
    exact Heap.get?_push_of_some _ q
  show wpAny _ _ _ _ _ { s with heap := ((s.heap.push (seqObj "list" #[] 0)).update s.heap.objs.size (Obj.mapSeq (· ++ vs.toArray))).push (seqObj "list" vs.toArray 0) }
  rw [hsz]
  refine wpAny_bind (wpAny_holding (wpAny_call_entry slot_list_sort ⟨_, hoL, rfl⟩ entry_list_sort (list_sort_ord O hoL hz (fun h2 => hS h2 _ _ hoL keep) fun out hs hb => ⟨_, rfl, ?_⟩) (args_list_sort _)))
  exact wpAny_pure ⟨_, rfl, h out hs hb⟩
end
end SrT
namespace Lx
open PySem PySem.Spec PyProof.Rows L2
/-- sorted(xs), xs a list or a tuple of pairs of texts -/
def rSortedT (K : PySem.W.Frag) : List V → Hp → VK → Prop := fun vs H Q => ∃ (a : Addr) (ps : List Addr) (k : Addr → Str × Str), vs = [V.ref a] ∧ (SqL K H a (ps.map V.ref) ∨ SqT K H a (ps.map V.ref)) ∧ (∀ t ∈ ps, H t = some (.tup [.str (k t).1, .str (k t).2])) ∧
  ∀ (qs : List Addr) p, SrtO.Srtd (fun x y => SrT.lexT (k x) (k y)) qs → qs.Perm ps → H p = none → Q (.ref p) (upd H p (.lst (qs.map V.ref)))
section
variable {X : Cx}
theorem cr_sortedT : CallR X (.builtin "sorted") (rSortedT X.K) := by
  intro pins s σ H vs us Q I r h
  obtain ⟨a, ps, k, rfl, hs, hx, q⟩ := h
  obtain ⟨u, rfl, ru⟩ := vals1 r
  obtain rfl : u = Value.ref a := ru
  have com : ∀ its : List Value, Vals (ps.map V.ref) its → its.length ≤ sizeLine → (∀ (A : Around) (E : Value → Shared → Prop) (Q : List Value → Shared → Prop), Q its { s with heap := (s.heap.push (seqObj "list" #[] 0)).update s.heap.objs.size (Obj.mapSeq (· ++ its.toArray)) } → wpAny (model X.prog X.w) A (collect (.ref a)) Q E s) →
      wpAny (model X.prog X.w) X.A (call (.builtin "sorted") [Value.ref a]) (EP X pins σ Q) X.xe s := by
    intro its rv hz hcol
    have ei : its = ps.map Value.ref := by
      clear hcol hz hx q hs
      induction ps generalizing its with
      | nil => cases rv; rfl
      | cons x l ih =>
        cases rv with
        | cons h1 h2 =>
          rw [List.map_cons, ← ih _ h2]
          congr 1
    subst ei
    have hp : ∀ v ∈ ps.map Value.ref, SrT.IsTT s.heap v (match v with | .ref t => k t | _ => ("", "")).1 (match v with | .ref t => k t | _ => ("", "")).2 := by
      intro v hv
      obtain ⟨t, ht, rfl⟩ := List.mem_map.mp hv
      obtain ⟨_, its2, r2, o, ho, hc, n, hd⟩ := I.hok _ _ (hx t ht)
      obtain ⟨u1, u2, rfl, ri, rj⟩ := vals2 r2
      obtain ⟨t1, rfl⟩ := ri
      obtain ⟨t2, rfl⟩ := rj
      exact ⟨t, o, t1, t2, n, rfl, ho, hc, hd⟩
    refine SrT.sorted_col (SrT.swo_T fun v : Value => match v with | .ref t => k t | _ => ("", "")) hcol hz (fun h2 h₁ b hb kk => ?_) fun out h1 h2 => ?_
    · refine SrT.tt_sortable (s := { s with heap := h₁ }) (by omega) (fun v hm => (hp v hm).keeps fun b o e _ => (kk b o e).2) fun o e => ?_
      have e' : some o = some (seqObj "list" (ps.map Value.ref).toArray 0) := e.symm.trans hb
      cases e'
      intro c
      exact absurd (Value.type.inj c) (by decide)
    · obtain ⟨qs, rfl⟩ : ∃ qs : List Addr, out = qs.map Value.ref := by
        have hm : ∀ v ∈ out, ∃ t, v = Value.ref t := fun v hv => by
          obtain ⟨t, _, e⟩ := List.mem_map.mp (h2.perm.mem_iff.mp hv)
          exact ⟨t, e.symm⟩
        clear h1 h2
        induction out with
        | nil => exact ⟨[], rfl⟩
        | cons v r ih =>
          obtain ⟨t, rfl⟩ := hm v List.mem_cons_self
          obtain ⟨qs, rfl⟩ := ih fun v hv => hm v (List.mem_cons_of_mem _ hv)
          exact ⟨t :: qs, rfl⟩
      have perm : qs.Perm ps := by
        have h3 := h2.perm.map (fun v : Value => match v with | .ref t => t | _ => 0)
        rw [List.map_map, List.map_map] at h3
        have ef : ((fun v : Value => match v with | .ref t => t | _ => 0) ∘ Value.ref) = id := by funext t; rfl
        rw [ef, List.map_id, List.map_id] at h3
        exact h3
      have srt : SrtO.Srtd (fun x y => SrT.lexT (k x) (k y)) qs := List.pairwise_map.mp h1
      obtain ⟨n, hn⟩ := PyProof.Rows.sortedAll_at s.heap (ps.map Value.ref) (qs.map Value.ref).toArray
      have hd : s.heap.objs.size ≤ s.heap.objs.size + 1 := Nat.le_succ _
      have rq : Vals (qs.map V.ref) (qs.map Value.ref) := by
        clear h1 h2 perm srt hn
        induction qs with
        | nil => exact .nil
        | cons x l ih => exact .cons rfl ih
      refine ⟨.ref (s.heap.objs.size + 1), upd H (s.heap.objs.size + 1) (.lst (qs.map V.ref)), I.laid (t' := s.toks) (fun b o e => PyProof.Rows.sortedAll_old e) hd ⟨?_, _, n, rq, hn⟩, rfl, q qs _ srt perm (I.hok.fresh hd)⟩
      rw [List.length_map, perm.length_eq, ← List.length_map (f := Value.ref)]
      exact hz
  rcases hs with hs | hs
  · obtain ⟨its, rv, hl, hz⟩ := I.list hs
    exact com its rv (by rw [← rv.length]; exact hz) fun A E Q h => collect_list hl.isList h (by rw [← rv.length]; exact hz)
  · obtain ⟨its, rv, hl, hz⟩ := I.tuple hs
    exact com its rv (by rw [← rv.length]; exact hz) fun A E Q h => SrT.collect_tup (show s.heap.IsTuple a its.toArray from hl) h (by rw [← rv.length]; exact hz)
/-- a list or a tuple, walked -/
def iSeq (K : PySem.W.Frag) (tl : TE) : TI := fun σ H R => iList K tl σ H R ∨ iTup K tl σ H R
theorem pi_seq {tg l : Expr} {tl : TE} (hl : PE X l tl) : PI X tg l (iSeq X.K tl) := by
  refine ⟨fun pins s σ H R I h => ?_⟩
  rcases h with h | h
  · exact (pi_list hl).run pins s σ H R I h
  · exact (pi_tup hl).run pins s σ H R I h
theorem ty_list {K : PySem.W.Frag} {H : Hp} {a : Addr} {xs : List V} (h : SqL K H a xs) : TyX K H (.ref a) (.type "list") := by
  rcases h with (h | ⟨o, h⟩) | ⟨o, its, n, hk, hc, _⟩
  · exact .base (.lst h)
  · exact .base (.frz h)
  · exact .kList hk hc
theorem ty_tup {K : PySem.W.Frag} {H : Hp} {a : Addr} {xs : List V} (h : SqT K H a xs) : TyX K H (.ref a) (.type "tuple") := by
  rcases h with (h | ⟨o, h⟩) | ⟨o, its, n, hk, hc, _⟩
  · exact .base (.tup h)
  · exact .fTuple h
  · exact .kTuple hk hc
theorem same_tup {K : PySem.W.Frag} {H H' : Hp} {a : Addr} {xs : List V} (e : Same H H') (h : SqT K H a xs) : SqT K H' a xs := by
  rcases h with (h | ⟨o, h⟩) | h
  · exact .inl (.inl (e _ _ h))
  · exact .inl (.inr ⟨o, e _ _ h⟩)
  · exact .inr h
/-- a list or a tuple -/
def Sq (K : PySem.W.Frag) (H : Hp) (a : Addr) (xs : List V) : Prop := SqL K H a xs ∨ SqT K H a xs
theorem Sq.same {K : PySem.W.Frag} {H H' : Hp} {a : Addr} {xs : List V} (h : Sq K H a xs) (e : Same H H') : Sq K H' a xs := h.elim (fun h => .inl (e.seq h)) (fun h => .inr (same_tup e h))
end
end Lx

set_option maxRecDepth 100000
set_option maxHeartbeats 4000000
namespace Lx
open PySem PySem.Spec PyProof.Rows L2
section
variable {X : Cx} {k j : Nat} {C : Addr} {sp : Sp}
/-- a def run from a deeper place of the same frame -/
theorem run_sub {CX : CXT} {f : Addr} {fd : FuncData} {ps : List Str} {A : Around} {pins : List (Addr × Obj)} {σ : L2.St} {H : Hp} {s : Shared} {Q : VK} {E : XK} {us : List Value} {vs : List V} (F : FnOk X.prog X.w X.K X.mg X.base CX k f fd ps sp) (sb : Sub X k A) (hb : Binds X.K fd ps [])
    (hx : Passes CX X E) (I : Inv X pins σ H s) (r : Vals vs us) (h : sp vs H Q E) : wpAny (model X.prog X.w) A (call (.ref f) us) (EP X pins σ Q) X.xe s := by
  have e0 : Env0 X.prog X.w X.K X.mg X.base A X.stack s H := by
    have e := I.env0
    exact ⟨by rw [sb.fr]; exact e.frames, e.mod, e.bs, e.bsz, e.funs, e.frf, e.hok, e.bare⟩
  have hl : (us ++ []).length = ps.length := by rw [List.append_nil, ← r.length]; exact F.len _ _ _ _ h
  refine wpAny_call (codeAny_mono (F.run A X.stack s H ⟨us, []⟩ us vs Q E sb.room e0 (by have := hb s us I.kIn hl; simpa using this) r h) fun r s' hq => ?_)
  cases r with
  | error e => exact hx pins σ H s e s' I hq
  | ok fl =>
    cases fl with
    | ret w => exact I.after hq
    | next => exact False.elim hq
    | brk => exact False.elim hq
    | cont => exact False.elim hq
theorem vals_nil {ds : List Value} (h : Vals [] ds) : ds = [] := by cases h; rfl
theorem sub_in2 {A : Around} (hr : Room j A) (hk : k + 2 ≤ j) (hf : A.frames = X.A.frames) : Sub X k A.in1.in1 := by
  have s : Sub X (k + 2) A := ⟨hr.mono hk, hf⟩
  exact s.in1.in1
/-- str(o) by the text's own __str__ -/
def rStrO (C : Addr) (sp : Sp) : List V → Hp → VK → Prop := fun xs H Q => ∃ a dx fs, xs = [.ref a] ∧ H a = some (.ins C dx fs) ∧ sp [.ref a] H (fun v H' => ∃ z, v = .str z ∧ Q (.str z) H') C8.E0
theorem call_str_own (c : C8.Met X.prog X.w X.K X.mg X.base k C "__str__" sp []) (hr : Room j X.A) (hk : k + 2 ≤ j) : CallR X (.type "str") (rStrO C sp) := by
  intro pins s σ H xs us Q I rv h
  obtain ⟨a, dx, fs, rfl, ha, hsp⟩ := h
  obtain ⟨f, fd, ps, ds, _, me, F, b, d⟩ := c.ex
  obtain rfl := vals_nil d
  cases rv with
  | cons r rr =>
    cases rr
    cases r
    obtain ⟨mA, J, _⟩ := ins_get I.hok ha
    obtain ⟨od, J, _⟩ := J.look
    have sb : Sub X k X.A.in1.in1 := sub_in2 hr hk rfl
    refine PySem.W.kso_call sb.room.units0 I.kIn J me.at_ me.fn (wpAny_mono (run_sub (vs := [.ref a]) F sb b C8.pass0 I (.cons rfl .nil) hsp) (fun u s' q => ?_) fun _ _ x => x)
    obtain ⟨v, H', I', ru, z, ez, q⟩ := q
    subst ez
    obtain ⟨t, rfl⟩ := ru
    exact ⟨.str z, H', I', ⟨t, rfl⟩, q⟩
/-- len(o) by the text's own __len__ -/
def rLenO (C : Addr) (sp : Sp) : List V → Hp → VK → Prop := fun xs H Q => ∃ a dx fs, xs = [.ref a] ∧ H a = some (.ins C dx fs) ∧ sp [.ref a] H (fun v H' => ∃ n : Int, v = .int n ∧ 0 ≤ n ∧ n < 2 ^ 63 ∧ Q (.int n) H') C8.E0
theorem call_len_own (c : C8.Met X.prog X.w X.K X.mg X.base k C "__len__" sp []) (hr : Room j X.A) (hk : k + 2 ≤ j) : CallR X (.builtin "len") (rLenO C sp) := by
  intro pins s σ H xs us Q I rv h
  obtain ⟨a, dx, fs, rfl, ha, hsp⟩ := h
  obtain ⟨f, fd, ps, ds, _, me, F, b, d⟩ := c.ex
  obtain rfl := vals_nil d
  cases rv with
  | cons r rr =>
    cases rr
    cases r
    obtain ⟨mA, J, _⟩ := ins_get I.hok ha
    obtain ⟨od, J, _⟩ := J.look
    have sb : Sub X k X.A.in1 := (show Sub X (k + 1) X.A from ⟨hr.mono (by omega), rfl⟩).in1
    obtain ⟨m, hF⟩ := I.fr
    refine PySem.W.len_K hF I.ok.mod.kin J me.at_ me.fn (wpAny_mono (run_sub (vs := [.ref a]) F sb b C8.pass0 I (.cons rfl .nil) hsp) (fun u s' q => ?_) fun _ _ x => x)
    obtain ⟨v, H', I', ru, z, ez, h0, h1, q⟩ := q
    subst ez
    obtain ⟨t, rfl⟩ := ru
    exact ⟨⟨h0, h1⟩, .int z, H', I'.tok _, ⟨_, rfl⟩, q⟩
/-- o == p, both of the class at C, by the text's own __eq__ -/
def rEqO (C : Addr) (sp : Sp) : R2 := fun x y H Q => ∃ a b dx dy fs gs, x = .ref a ∧ y = .ref b ∧ H a = some (.ins C dx fs) ∧ H b = some (.ins C dy gs) ∧ sp [.ref a, .ref b] H (fun v H' => ∃ t : Bool, v = .bl t ∧ Q (.bl t) H') C8.E0
theorem op_eqOwn (c : C8.Met X.prog X.w X.K X.mg X.base k C "__eq__" sp []) (hr : Room j X.A) (hk : k ≤ j) : OpR X (compareOp .Eq) (rEqO C sp) := by
  intro pins s σ H x y v u Q I rx ry h
  obtain ⟨a, b, dx, dy, fs, gs, rfl, rfl, ha, hb, hsp⟩ := h
  obtain ⟨f, fd, ps, ds, _, me, F, bn, d⟩ := c.ex
  obtain rfl := vals_nil d
  cases rx
  cases ry
  obtain ⟨mA, J, _⟩ := ins_get I.hok ha
  obtain ⟨mB, J', _⟩ := ins_get I.hok hb
  obtain ⟨od, J, _⟩ := J.look
  obtain ⟨od', J', _⟩ := J'.look
  obtain ⟨m, hF⟩ := I.fr
  have sb : Sub X k X.A := ⟨hr.mono hk, rfl⟩
  show wpAny (model X.prog X.w) X.A (richCompare .Eq (.ref a) (.ref b)) (EP X pins σ Q) X.xe s
  refine PySem.W.cmp_K (op := .Eq) (tb := .ref C) sb.room.units0 hF I.ok.mod.kin J J'.type (by simp [PySem.W.notFirst]) me.at_ me.fn ?_
  refine wpAny_mono (run_sub (vs := [.ref a, .ref b]) F sb bn C8.pass0 I (.cons rfl (.cons rfl .nil)) hsp) (fun u s' q => ?_) fun _ _ x => x
  obtain ⟨v, H', I', ru, t, ez, q⟩ := q
  subst ez
  cases (show u = Value.bool t from ru)
  exact ⟨.bl t, H', I', rfl, q⟩
end
/-- what of the text != wants -/
structure NeT (K : PySem.W.Frag) (C : Addr) : Prop where
  mro : PySem.W.mroIn K C (.type "object") = some true
  ne : PySem.W.findIn K (.ref C) "__ne__" = some (some (.builtin "object.__ne__"))
section
open PySem.W
variable {M : Model} {prog : Program} {w : World} {A : Around} {E : Value → Shared → Prop} {s : Shared} {K : PySem.W.Frag} {x C f : Addr} {ox : Obj} {od : Option Obj} {b tb : Value}
theorem ifBound_bltn {name : Str} {id : String} {args : List Value} {Q : Option Value → Shared → Prop} (X : K.In s.heap) (I : PySem.W.InstAt s.heap x ox C od) (hs : PySem.W.findIn K (.ref C) name = some (some (.builtin id)))
    (hb : ∀ self, bindSpecial (.builtin id) self = pure (.builtin id, [self])) (h : wpAny M A (call (.builtin id) (.ref x :: args)) (fun v => Q (some v)) E s) : wpAny M A (callSpecialIfBound? (.ref x) name args) Q E s := by
  simp only [callSpecialIfBound?, bindSpecialIfBound?]
  refine wpAny_holding (wpAny_bind (wpAny_bind (wpAny_bind (I.type.here ((PySem.W.looks_findIn X hs).here ?_)))))
  refine wpAny_bind (wpAny_askSetting (wpAny_ite ?_))
  have fin : wpAny M A (call (.builtin id) ([.ref x] ++ args) >>= fun v => pure (some v)) Q E s := wpAny_bind (wpAny_mono h (fun v s' h' => wpAny_pure h') fun _ _ h' => h')
  split
  · exact wpAny_bind (wpAny_of_eq (hb _) (wpAny_pure (by exact fin)))
  · exact wpAny_tryCatch (wpAny_bind (wpAny_of_eq (hb _) (wpAny_pure (by exact fin))))
theorem ne_tree {Q : Fin → Shared → Prop} (hu : A.units < cLine) (X : K.In s.heap) (I : PySem.W.InstAt s.heap x ox C od) (he : PySem.W.findIn K (.ref C) "__eq__" = some (some (.ref f))) (hf : PySem.W.isFn K (.ref f) = true)
    (h : wpAny M A (call (.ref f) [.ref x, b]) (fun v s' => ∃ t : Bool, v = .bool t ∧ Q (.done (.ret (.bool (!t)))) s') E s) : wpAny M A (Builtin.«object.__ne__» ⟨[.ref x, b], []⟩) Q E s := by
  unfold Builtin.«object.__ne__»
  refine wpAny_bind (m := slotArgs "__ne__" 1 _) (wpAny_pure ?_)
  refine wpAny_bind (m := cRoomFor _ _) (wpAny_cRoomFor hu ?_)
  refine wpAny_bind (m := callSpecialIfBound? (.ref x) (Str.ofString "__eq__") _) (ifBound_K X I he hf (wpAny_mono h (fun r s' hr => ?_) fun _ _ y => y))
  obtain ⟨t, rfl, q⟩ := hr
  exact wpAny_bind (wpAny_truthy_bool (wpAny_pure q))
theorem cmp_neK {Q : Value → Shared → Prop} (hu : A.units < cLine) (hu1 : A.in1.units < cLine) (X : K.In s.heap) (I : PySem.W.InstAt s.heap x ox C od) (hb : Looks (model prog w) s.heap (typeOf b) tb) (hn : PySem.W.notFirst K C tb = true) (N : NeT K C)
    (he : PySem.W.findIn K (.ref C) "__eq__" = some (some (.ref f))) (hf : PySem.W.isFn K (.ref f) = true)
    (h : wpAny (model prog w) A.in1 (call (.ref f) [.ref x, b]) (fun v s' => ∃ t : Bool, v = .bool t ∧ Q (.bool (!t)) s') E s) : wpAny (model prog w) A (richCompare .NotEq (.ref x) b) Q E s := by
  have one : wpAny (model prog w) A (tryCompare (.ref x) (cmpInfo .NotEq).2.1 b) (fun r s' => ∃ v, r = some v ∧ Q v s') E s := by
    unfold tryCompare
    refine wpAny_bind (ifBound_bltn X I N.ne F.cmp_object.ne.bind ?_)
    refine wpAny_call (codeAny_call_builtin F.cmp_object.ne.plain F.cmpEntry_ne (PySem.W.check_slot F.cmpKind_ne F.cmpSplit_ne (I.type.andThen (PySem.W.looks_mroIn X N.mro)) (F.cmpArgs_ne _ _) (ne_tree hu1 X I he hf (wpAny_mono h (fun v s' hv => ?_) fun _ _ e => e))))
    obtain ⟨t, rfl, q⟩ := hv
    exact ⟨t, rfl, wpAny_pure ⟨_, rfl, q⟩⟩
  unfold richCompare
  simp only [oneThing_ref]
  refine wpAny_holding (wpAny_bind (wpAny_cRoomFor hu ?_))
  refine wpAny_bind (I.type.here (wpAny_bind (hb.here ?_)))
  split
  · rename_i q
    have e : subIn K tb (.ref C) = some false := by
      rcases Bool.or_eq_true_iff.mp hn with e | e
      · rw [beq_iff_eq.mp e] at q; simp at q
      · exact beq_iff_eq.mp e
    refine wpAny_bind ((looks_subIn X e).here ?_)
    simp only [Bool.false_eq_true, if_false]
    refine wpAny_bind (wpAny_mono one (fun r s' z => ?_) fun _ _ e => e)
    obtain ⟨v, rfl, hq⟩ := z
    exact wpAny_pure hq
  · refine wpAny_bind (wpAny_pure ?_)
    simp only [Bool.false_eq_true, if_false]
    refine wpAny_bind (wpAny_mono one (fun r s' z => ?_) fun _ _ e => e)
    obtain ⟨v, rfl, hq⟩ := z
    exact wpAny_pure hq
end
section
variable {X : Cx} {k j i : Nat} {C : Addr} {sp : Sp} {x y : Str} {dvs : List V} {p pos : Pos} {e : Expr} {es : List Expr} {t : TA}
/-- o != p -/
def rNeO (C : Addr) (sp : Sp) : R2 := fun x y H Q => ∃ a b dx dy fs gs, x = .ref a ∧ y = .ref b ∧ H a = some (.ins C dx fs) ∧ H b = some (.ins C dy gs) ∧ sp [.ref a, .ref b] H (fun v H' => ∃ t : Bool, v = .bl t ∧ Q (.bl (!t)) H') C8.E0
theorem op_neOwn (c : C8.Met X.prog X.w X.K X.mg X.base k C "__eq__" sp []) (N : NeT X.K C) (hr : Room j X.A) (hk : k + 1 ≤ j) : OpR X (compareOp .NotEq) (rNeO C sp) := by
  intro pins s σ H x y v u Q I rx ry h
  obtain ⟨a, b, dx, dy, fs, gs, rfl, rfl, ha, hb, hsp⟩ := h
  obtain ⟨f, fd, ps, ds, _, me, F, bn, d⟩ := c.ex
  obtain rfl := vals_nil d
  cases rx
  cases ry
  obtain ⟨mA, J, _⟩ := ins_get I.hok ha
  obtain ⟨mB, J', _⟩ := ins_get I.hok hb
  obtain ⟨od, J, _⟩ := J.look
  obtain ⟨od', J', _⟩ := J'.look
  have sb1 : Sub X (k + 1) X.A := ⟨hr.mono hk, rfl⟩
  have sb := sb1.in1
  show wpAny (model X.prog X.w) X.A (richCompare .NotEq (.ref a) (.ref b)) (EP X pins σ Q) X.xe s
  refine cmp_neK (tb := .ref C) sb1.room.units0 sb.room.units0 I.kIn J J'.type (by simp [PySem.W.notFirst]) N me.at_ me.fn ?_
  refine wpAny_mono (run_sub (vs := [.ref a, .ref b]) F sb bn C8.pass0 I (.cons rfl (.cons rfl .nil)) hsp) (fun u s' q => ?_) fun _ _ x => x
  obtain ⟨v, H', I', ru, t, ez, q⟩ := q
  subst ez
  cases (show u = Value.bool t from ru)
  exact ⟨t, rfl, .bl (!t), H', I', rfl, q⟩
/-- the class in the i-th slot is made -/
def tMakeL (i : Nat) (C : Addr) (sp : Sp) (dvs : List V) (t : TA) : TE := fun σ H Q => σ[i]? = some (some (.ref C)) ∧ tMake C sp dvs C8.E0 t σ H Q
theorem pe_mkL (i : Nat) (c : C8.Mak X.prog X.w X.K X.mg X.base k y C sp dvs) (hr : Room j X.A) (hk : k + 1 ≤ j) (ha : PA X (e :: es) t) (hN : X.N[i]? = some x := by rfl) (hv : Vis X.env.scope x := by first | exact Or.inl rfl | exact Or.inr (Or.inl rfl) | exact Or.inr (Or.inr rfl))
    (hdb : (x == ("__debug__" : Str)) = false := by decide) (hcd : (x == ("__classdict__" : Str)) = false := by decide)
    (he : starEach (e :: es) X.env = (false, eval e X.env) :: starEach es X.env := by rfl) (hpl : (backTo pos (starEach es X.env)).any (·.1) = false := by rfl) : PE X (.Call (.Name x p) (e :: es) [] pos) (tMakeL i C sp dvs t) := by
  obtain ⟨f, fd, ps, ds, M, F, hm, b, d⟩ := c.ex
  refine ⟨fun pins s σ H Q I h => ?_⟩
  obtain ⟨hs, ht⟩ := h
  refine wpAny_Call_Name_kw (thn ((pe_var (pos := p) hN hv hdb hcd).run pins s σ H (fun v H1 => v = .ref C ∧ H1 = H) I ⟨.ref C, hs, rfl, rfl⟩) fun u s1 ⟨v, H1, I1, r1, q1⟩ => ?_)
  obtain ⟨rfl, rfl⟩ := q1
  cases r1
  refine PySem.W.callWith_K (h₀ := X.base) I.ok.mod.kin M.kp (thn (ha.run pos pins s1 σ _ _ I1 ht) fun us s2 ⟨vs, H2, I2, r, q⟩ => ⟨I2.kIn, ?_⟩) he hpl
  exact run_make M F (hr.mono hk) b d C8.pass0 I2 r q
theorem pe_mkL0 (i : Nat) (c : C8.Mak X.prog X.w X.K X.mg X.base k y C sp dvs) (hr : Room j X.A) (hk : k + 1 ≤ j) (hN : X.N[i]? = some x := by rfl) (hv : Vis X.env.scope x := by first | exact Or.inl rfl | exact Or.inr (Or.inl rfl) | exact Or.inr (Or.inr rfl))
    (hdb : (x == ("__debug__" : Str)) = false := by decide) (hcd : (x == ("__classdict__" : Str)) = false := by decide) : PE X (.Call (.Name x p) [] [] pos) (tMakeL i C sp dvs tNil) := by
  obtain ⟨f, fd, ps, ds, M, F, hm, b, d⟩ := c.ex
  refine ⟨fun pins s σ H Q I h => ?_⟩
  obtain ⟨hs, ht⟩ := h
  refine wpAny_Call_Name_kw (thn ((pe_var (pos := p) hN hv hdb hcd).run pins s σ H (fun v H1 => v = .ref C ∧ H1 = H) I ⟨.ref C, hs, rfl, rfl⟩) fun u s1 ⟨v, H1, I1, r1, q1⟩ => ?_)
  obtain ⟨rfl, rfl⟩ := q1
  cases r1
  exact PySem.W.callWith_K0 I1.kIn M.kp (run_make (us := []) M F (hr.mono hk) b d C8.pass0 I1 .nil ht)
/-- a classmethod of the class at C, C the module's name x -/
structure CMt (P : Program) (w : World) (K : PySem.W.Frag) (mg : Str → Option Value) (base : Heap) (k : Nat) (x : Str) (C : Addr) (m : Str) (sp : Sp) : Prop where
  ex : ∃ (mc : Value) (p g : Addr) (fd : FuncData) (ps : List Str), mg x = some (.ref C) ∧ ClX.CRead K C mc ∧ ClX.CMet K C mc m p g ∧ FnOk P w K mg base C8.CX0 k g fd ps sp ∧ Binds K fd ps []
theorem pe_cm {m : Str} {apos : Pos} {pl : Sem Bool} (c : CMt X.prog X.w X.K X.mg X.base k x C m sp) (hr : Room j X.A) (hk : k ≤ j) (hg : Gl X x) (ha : PA X (e :: es) t) (hdb : (x == ("__debug__" : Str)) = false := by decide)
    (hst : starEach (e :: es) X.env = (false, eval e X.env) :: starEach es X.env := by rfl) (hpl : (backTo pos (starEach es X.env)).any (·.1) = false := by rfl)
    (ht : eval (.Call (.Attribute (.Name x p) m apos) (e :: es) [] pos) X.env = (do
      let ov ← eval (.Name x p) X.env
      standAt apos.atName
      let (f, first) ← holding [ov] (getMethod ov m pl)
      callWith pos f first (backTo pos (starEach (e :: es) X.env)) (backToKw pos (keywordEach [] X.env))) := by rfl) :
    PE X (.Call (.Attribute (.Name x p) m apos) (e :: es) [] pos) (ClX.tCMeth C sp C8.E0 (tC (.ref C)) t) := by
  obtain ⟨mc, q, g, fd, ps, hm, r, cm, F, b⟩ := c.ex
  exact ClX.pe_cmeth (pe_glob (v := .ref C) hg hm rfl hdb) r cm (F.raw b .nil |>.imp fun vs H Q E h => by rw [List.append_nil]; exact h) (hr.mono hk) C8.pass0 ha hst hpl ht
end
/-- what isinstance wants of a class -/
structure IsT (K : PySem.W.Frag) (C : Addr) : Prop where
  cl : Cls K C
  ha : PySem.W.findIn K (.ref C) "__class__" = some (some (.builtin "object.__class__"))
  hn : PySem.W.specialIn K (.builtin "object.__class__") "__get__" = some (some (.builtin "getset_descriptor.__get__"))
  ht : PySem.W.takesIn K (.builtin "object.__class__") = some true
  hm : PySem.W.mroIn K C (.type "object") = some true
theorem IsT.ty {K : PySem.W.Frag} {C a dx : Addr} {H : Hp} {fs : List (Str × V)} (I : IsT K C) (e : H a = some (.ins C dx fs)) : TyX K H (.ref a) (.ref C) := .base (.ins e I.cl I.ha I.hn I.ht I.hm)
theorem IsT.one {K : PySem.W.Frag} {C : Addr} (_ : IsT K C) : PySem.W.kitOne K (.ref C) (.ref C) = some true := by
  unfold PySem.W.kitOne
  rw [if_pos (beq_self_eq_true _)]
/-- an f-string inside a comprehension: its reading by a name -/
def tJn (ts : List TE) : TE := fun σ H Q => tJs ts Str.empty σ H fun out H1 => Q (.str out) H1
theorem pe_jn {X : Cx} {v1 v2 : Expr} {rest : List Expr} {ts : List TE} {pos : Pos} (h : PJ X (v1 :: v2 :: rest) ts) : PE X (.JoinedStr (v1 :: v2 :: rest) pos) (tJn ts) := pe_joined h
end Lx

set_option maxRecDepth 100000
set_option maxHeartbeats 4000000
namespace U
open PySem PySem.Spec PyProof.Rows
open L2 hiding Fun CX0 E0 pass0 Fun.binds
open C8 Lx SX
/-! words of bits as texts -/
def bt (b : Bool) : Nat := if b then 49 else 48
def W (l : List Bool) : Str := S (l.map bt)
theorem bt_inj : ∀ {a b : Bool}, bt a = bt b → a = b := by decide
theorem map_bt_inj : ∀ {a b : List Bool}, a.map bt = b.map bt → a = b
  | [], [], _ => rfl
  | [], _ :: _, h => by simp at h
  | _ :: _, [], h => by simp at h
  | x :: l, y :: m, h => by
    rw [List.map_cons, List.map_cons] at h
    injection h with h1 h2
    rw [bt_inj h1, map_bt_inj h2]
theorem W_inj {a b : List Bool} (h : W a = W b) : a = b := map_bt_inj (S_inj h)
theorem W_eq {a b : List Bool} : (W a = W b) ↔ a = b := ⟨W_inj, fun h => by rw [h]⟩
theorem W_len (a : List Bool) : (W a).length = a.length := by unfold W; rw [S_len, List.length_map]
theorem W_size (a : List Bool) : (W a).cps.size = a.length := by unfold W; simp
theorem W_cat (a b : List Bool) : W a ++ W b = W (a ++ b) := by unfold W; rw [S_cat, List.map_append]
theorem W_nil : ("" : Str) = W [] := by decide +kernel
theorem W_0 : ("0" : Str) = W [false] := by decide +kernel
theorem W_1 : ("1" : Str) = W [true] := by decide +kernel
theorem W_get {a : List Bool} {i : Nat} {c : Nat} (h : (W a).cps[i]? = some c) : ∃ b, a[i]? = some b ∧ c = bt b := by
  unfold W S at h
  rw [List.getElem?_toArray, List.getElem?_map] at h
  cases e : a[i]? with
  | none => rw [e] at h; cases h
  | some b => rw [e] at h; exact ⟨b, rfl, (Option.some.inj h).symm⟩
theorem W_bit (b : Bool) : (⟨#[bt b]⟩ : Str) = W [b] := rfl
theorem W_tl (a : List Bool) : (W a).cps.toList = a.map bt := rfl
theorem joinL_nil : ∀ ys : List (List Nat), TL.joinL [] ys = ys.flatten
  | [] => rfl
  | [p] => by simp [TL.joinL]
  | p :: q :: r => by
    show p ++ ([] ++ TL.joinL [] (q :: r)) = _
    rw [List.nil_append, joinL_nil (q :: r)]
    rfl
theorem join_W (ls : List (List Bool)) : Txt.join "" (ls.map W) = W ls.flatten := by
  have e : (ls.map W) = (ls.map (·.map bt)).map S := by rw [List.map_map]; rfl
  have e2 : ("" : Str) = S [] := by decide +kernel
  rw [e, e2, join_S, joinL_nil]
  unfold W
  rw [List.map_flatten]
theorem join_bits (l : List Bool) : Txt.join "" (l.map fun b => W [b]) = W l := by
  have e : (l.map fun b => W [b]) = (l.map fun b => [b]).map W := by rw [List.map_map]; rfl
  rw [e, join_W]
  congr 1
  induction l with
  | nil => rfl
  | cons b r ih => simp [ih]
theorem sum_lens : ∀ ls : List (List Bool), ((ls.map W).map (·.length)).sum = (ls.map (·.length)).sum
  | [] => rfl
  | l :: r => by
    rw [List.map_cons, List.map_cons, List.map_cons, List.sum_cons, List.sum_cons, W_len, sum_lens r]
theorem sl_len {n : Nat} (h : n ≤ 100000) : n ≤ sizeLine := Nat.le_trans h (by decide)
theorem sl_lt {n : Nat} (h : n < 100000) : n < sizeLine := Nat.lt_of_lt_of_le h (by decide)
def bitsV (l : List Bool) : List V := (l.map fun b => W [b]).map V.str
theorem lens_bits (l : List Bool) : ((l.map fun b => W [b]).map (·.length)).sum = l.length := by
  induction l with
  | nil => rfl
  | cons b r ih => rw [List.map_cons, List.map_cons, List.sum_cons, ih, W_len, List.length_cons]; simp only [List.length_cons, List.length_nil]; omega
theorem bitsV_len (l : List Bool) : (bitsV l).length = l.length := by unfold bitsV; rw [List.length_map, List.length_map]
theorem bitsV_snoc (l : List Bool) (b : Bool) : bitsV l ++ [V.str (W [b])] = bitsV (l ++ [b]) := by unfold bitsV; simp
theorem mem2 {v : V} (h : v ∈ ([.str "0", .str "1"] : List V)) : ∃ b : Bool, v = .str (W [b]) := by
  rcases List.mem_cons.mp h with rfl | h
  · exact ⟨false, by rw [W_0]⟩
  · rcases List.mem_cons.mp h with rfl | h
    · exact ⟨true, by rw [W_1]⟩
    · cases h
theorem empty_len : ("" : Str).length = 0 := by decide +kernel
/-! tests whose answer is known -/
theorem q_dec {c : Prop} [Decidable c] {Q : VK} {H : Hp} (hc : c) (h : Q (.bl true) H) : Q (.bl (decide c)) H := by rw [decide_eq_true hc]; exact h
theorem q_ndec {c : Prop} [Decidable c] {Q : VK} {H : Hp} (hc : ¬ c) (h : Q (.bl false) H) : Q (.bl (decide c)) H := by rw [decide_eq_false hc]; exact h
theorem iteDT {c A B : Prop} [Decidable c] (hc : c) (h : A) : if decide c = true then A else B := by rw [decide_eq_true hc]; exact iteT h
theorem iteDF {c A B : Prop} [Decidable c] (hc : ¬ c) (h : B) : if decide c = true then A else B := by rw [decide_eq_false hc]; exact iteF h
theorem iteNT {c A B : Prop} [Decidable c] (hc : ¬ c) (h : A) : if (!decide c) = true then A else B := by rw [decide_eq_false hc]; exact iteT h
theorem iteBT {b : Bool} {A B : Prop} (hc : b = true) (h : A) : if b = true then A else B := by rw [hc]; exact iteT h
theorem iteBF {b : Bool} {A B : Prop} (hc : b = false) (h : B) : if b = true then A else B := by rw [hc]; exact iteF h
def oW : Option (List Bool) → V
  | none => .non
  | some x => .str (W x)
/-! slices -/
theorem W_drop {a : List Bool} {i : Int} (h : 0 ≤ i) : Txt.slice (W a) (some i) none = W (a.drop i.toNat) := by
  unfold W; rw [slice_from h, List.map_drop]
theorem W_take {a : List Bool} {i : Int} (h : 0 ≤ i) : Txt.slice (W a) none (some i) = W (a.take i.toNat) := by
  unfold W; rw [slice_to h, List.map_take]
theorem repl_succ (l : List Bool) (n : Nat) : (List.replicate (n + 1) l).flatten = l ++ (List.replicate n l).flatten := by rw [List.replicate_succ]; rfl
theorem foldl_app : ∀ (n : Nat) (a b : Array Nat), ((List.replicate n a).foldl (· ++ ·) b).toList = b.toList ++ (List.replicate n a.toList).flatten
  | 0, a, b => by simp
  | n + 1, a, b => by
    rw [List.replicate_succ, List.foldl_cons, foldl_app n a (b ++ a), List.replicate_succ, List.flatten_cons, Array.toList_append, List.append_assoc]
theorem mul_W {l : List Bool} {n : Nat} (h : 1 ≤ n) : Txt.mul (W l) (n : Int) = W (List.replicate n l).flatten := by
  refine TL.ext_tl ?_
  unfold Txt.mul
  rw [if_neg (by omega)]
  by_cases c : (((n : Int) == 1) || (W l).length == 0) = true
  · rw [if_pos c]
    simp only [Bool.or_eq_true, beq_iff_eq] at c
    rcases c with c | c
    · have : n = 1 := by omega
      subst this
      simp
    · rw [W_len] at c
      have : l = [] := List.length_eq_zero_iff.mp c
      subst this
      rw [show (List.replicate n ([] : List Bool)).flatten = [] by simp]
  · rw [if_neg c]
    show ((List.replicate (n : Int).toNat (W l).cps).foldl (· ++ ·) #[]).toList = _
    rw [foldl_app, Int.toNat_natCast]
    show [] ++ (List.replicate n (l.map bt)).flatten = ((List.replicate n l).flatten).map bt
    rw [List.map_flatten, List.map_replicate, List.nil_append]
end U

set_option maxRecDepth 100000
set_option maxHeartbeats 4000000
/-! rules, in plain Lean -/
namespace U
abbrev Stf := List Bool × Bool
def putM (ss : List Stf) (l : List Bool) : Option Bool := (ss.find? fun s => s.1.isSuffixOf l).map (·.2)
/-- the bits that are put in behind l -/
inductive Ins (ss : List Stf) : List Bool → List Bool → Prop
  | stop {l : List Bool} : putM ss l = none → Ins ss l []
  | more {l x : List Bool} {b : Bool} : putM ss l = some b → Ins ss (l ++ [b]) x → Ins ss l (b :: x)
inductive Reach (ss : List Stf) : List Bool → Prop
  | nil : Reach ss []
  | next {l x : List Bool} {b : Bool} : Reach ss l → Ins ss (l ++ [b]) x → Reach ss (l ++ [b] ++ x)
def OkR (ss : List Stf) : Prop := ∀ l, Reach ss l → ∀ b, ∃ x, Ins ss (l ++ [b]) x
/-- each message ends, within n bits that are put in at a time -/
def OkN (n : Nat) (ss : List Stf) : Prop := ∀ l, Reach ss l → ∀ b, ∃ x, Ins ss (l ++ [b]) x ∧ x.length ≤ n
abbrev OkS (ss : List Stf) : Prop := OkN 19 ss
theorem OkN.ok {n : Nat} {ss : List Stf} (h : OkN n ss) : OkR ss := fun l r b => by
  obtain ⟨x, hx, _⟩ := h l r b
  exact ⟨x, hx⟩
theorem OkN.mono {n m : Nat} {ss : List Stf} (h : OkN n ss) (hn : n ≤ m) : OkN m ss := fun l r b => by
  obtain ⟨x, hx, h1⟩ := h l r b
  exact ⟨x, hx, Nat.le_trans h1 hn⟩
def tl (n : Nat) (l : List Bool) : List Bool := l.drop (l.length - n)
theorem tl_len (n : Nat) (l : List Bool) : (tl n l).length = min n l.length := by unfold tl; rw [List.length_drop]; omega
theorem tl_le (n : Nat) (l : List Bool) : (tl n l).length ≤ n := by rw [tl_len]; omega
theorem tl_id {n : Nat} {l : List Bool} (h : l.length ≤ n) : tl n l = l := by
  unfold tl
  rw [show l.length - n = 0 by omega, List.drop_zero]
theorem tl_tl {a b : Nat} (h : a ≤ b) (l : List Bool) : tl a (tl b l) = tl a l := by
  unfold tl
  rw [List.drop_drop, List.length_drop]
  congr 1
  omega
theorem tl_of {a b : Nat} (h : a ≤ b) {l m : List Bool} (e : tl b l = tl b m) : tl a l = tl a m := by rw [← tl_tl h l, e, tl_tl h m]
theorem tl_snoc0 (n : Nat) (l : List Bool) (b : Bool) : tl (n + 1) (l ++ [b]) = tl n l ++ [b] := by
  unfold tl
  rw [List.length_append, List.length_cons, List.length_nil, List.drop_append]
  have e : l.length + (0 + 1) - (n + 1) = l.length - n := by omega
  rw [e, show l.length - n - l.length = 0 by omega]
  rfl
theorem tl_zero (l : List Bool) : tl 0 l = [] := by unfold tl; rw [List.drop_eq_nil_iff]; omega
theorem tl_snoc {n : Nat} {l m : List Bool} {b : Bool} (e : tl n l = tl n m) : tl n (l ++ [b]) = tl n (m ++ [b]) := by
  cases n with
  | zero => rw [tl_zero, tl_zero]
  | succ n => rw [tl_snoc0, tl_snoc0, tl_of (Nat.le_succ n) e]
theorem tl_app {n : Nat} {l m : List Bool} (e : tl n l = tl n m) : ∀ x : List Bool, tl n (l ++ x) = tl n (m ++ x)
  | [] => by rw [List.append_nil, List.append_nil]; exact e
  | b :: x => by
    have := tl_app (tl_snoc (b := b) e) x
    rw [List.append_assoc, List.append_assoc] at this
    exact this
theorem suf_iff {p l : List Bool} : p.isSuffixOf l = true ↔ p = tl p.length l := by
  rw [List.isSuffixOf_iff_suffix, List.suffix_iff_eq_drop]
  rfl
theorem suf_tl {L : Nat} {p l m : List Bool} (h : p.length ≤ L) (e : tl L l = tl L m) : p.isSuffixOf l = p.isSuffixOf m := by
  rw [Bool.eq_iff_iff, suf_iff, suf_iff, tl_of h e]
theorem put_tl {L : Nat} {l m : List Bool} (e : tl L l = tl L m) : ∀ {ss : List Stf}, (∀ s ∈ ss, s.1.length ≤ L) → putM ss l = putM ss m
  | [], _ => rfl
  | s :: r, h => by
    have ih := put_tl e (ss := r) fun s hs => h s (List.mem_cons_of_mem _ hs)
    have es := suf_tl (h s List.mem_cons_self) e
    unfold putM at ih ⊢
    rw [List.find?_cons, List.find?_cons, es]
    cases s.1.isSuffixOf m with
    | true => rfl
    | false => exact ih
theorem Ins.tl {ss : List Stf} {L : Nat} (hL : ∀ s ∈ ss, s.1.length ≤ L) {l x : List Bool} (h : Ins ss l x) : ∀ {m}, tl L l = tl L m → Ins ss m x := by
  induction h with
  | stop h => intro m e; exact .stop (by rw [← put_tl e hL]; exact h)
  | more h _ ih => intro m e; exact .more (by rw [← put_tl e hL]; exact h) (ih (tl_snoc e))
theorem Ins.det {ss : List Stf} {l x : List Bool} (h : Ins ss l x) : ∀ {y}, Ins ss l y → x = y := by
  induction h with
  | stop h =>
    intro y hy
    cases hy with
    | stop _ => rfl
    | more h2 _ => rw [h] at h2; cases h2
  | more h _ ih =>
    intro y hy
    cases hy with
    | stop h2 => rw [h] at h2; cases h2
    | more h2 hx =>
      rw [h] at h2
      cases h2
      rw [ih hx]
theorem Ins.end {ss : List Stf} {l x : List Bool} (h : Ins ss l x) : putM ss (l ++ x) = none := by
  induction h with
  | stop h => rw [List.append_nil]; exact h
  | more _ _ ih => rw [List.append_assoc] at ih; exact ih
theorem Ins.drop {ss : List Stf} {l x : List Bool} (h : Ins ss l x) : ∀ {i}, i ≤ x.length → Ins ss (l ++ x.take i) (x.drop i) := by
  induction h with
  | stop h => intro i hi; rw [List.take_nil, List.drop_nil, List.append_nil]; exact .stop h
  | more h hx ih =>
    intro i hi
    cases i with
    | zero => rw [List.take_zero, List.append_nil, List.drop_zero]; exact .more h hx
    | succ i =>
      have := ih (i := i) (by rw [List.length_cons] at hi; omega)
      rw [List.append_assoc] at this
      exact this
theorem Ins.at {ss : List Stf} {l x : List Bool} (h : Ins ss l x) {i : Nat} {b : Bool} (hb : x[i]? = some b) : putM ss (l ++ x.take i) = some b := by
  have hi := (List.getElem?_eq_some_iff.mp hb).1
  have h2 := h.drop (Nat.le_of_lt hi)
  rw [List.drop_eq_getElem_cons hi] at h2
  cases h2 with
  | more h3 _ => rw [h3, ← hb, List.getElem?_eq_getElem hi]
theorem Ins.apart {ss : List Stf} {L : Nat} (hL : ∀ s ∈ ss, s.1.length ≤ L) {l x : List Bool} (h : Ins ss l x) {i j : Nat} (hi : i ≤ x.length) (hj : j ≤ x.length) (e : U.tl L (l ++ x.take i) = U.tl L (l ++ x.take j)) : i = j := by
  have := congrArg List.length (((h.drop hi).tl hL e).det (h.drop hj))
  rw [List.length_drop, List.length_drop] at this
  omega
/-! how many words there are -/
def allW : Nat → List (List Bool)
  | 0 => [[]]
  | n + 1 => [] :: ((allW n).map (false :: ·) ++ (allW n).map (true :: ·))
theorem allW_len : ∀ n, (allW n).length + 1 = 2 ^ (n + 1)
  | 0 => rfl
  | n + 1 => by
    have := allW_len n
    show ([] :: ((allW n).map (false :: ·) ++ (allW n).map (true :: ·))).length + 1 = _
    rw [List.length_cons, List.length_append, List.length_map, List.length_map, Nat.pow_succ]
    omega
theorem mem_allW : ∀ {n : Nat} {w : List Bool}, w.length ≤ n → w ∈ allW n
  | 0, [], _ => List.mem_cons_self
  | 0, _ :: _, h => by rw [List.length_cons] at h; omega
  | n + 1, [], _ => List.mem_cons_self
  | n + 1, b :: w, h => by
    have := mem_allW (n := n) (w := w) (by rw [List.length_cons] at h; omega)
    refine List.mem_cons_of_mem _ (List.mem_append.mpr ?_)
    cases b with
    | false => exact .inl (List.mem_map_of_mem this)
    | true => exact .inr (List.mem_map_of_mem this)
theorem nodup_le {α : Type} [DecidableEq α] : ∀ {l m : List α}, l.Nodup → (∀ x ∈ l, x ∈ m) → l.length ≤ m.length
  | [], _, _, _ => Nat.zero_le _
  | x :: r, m, hn, hs => by
    have hx := hs x List.mem_cons_self
    have hn' := List.nodup_cons.mp hn
    have h2 := nodup_le (l := r) (m := m.erase x) hn'.2 fun y hy => by
      have hne : y ≠ x := fun e => hn'.1 (e ▸ hy)
      exact (List.mem_erase_of_ne hne).mpr (hs y (List.mem_cons_of_mem _ hy))
    rw [List.length_erase_of_mem hx] at h2
    have := List.length_pos_of_mem hx
    rw [List.length_cons]
    omega
theorem words_le {ws : List (List Bool)} {n : Nat} (hn : ws.Nodup) (hl : ∀ w ∈ ws, w.length ≤ n) : ws.length + 1 ≤ 2 ^ (n + 1) := by
  have := nodup_le hn fun w hw => mem_allW (hl w hw)
  have := allW_len n
  omega
theorem Ins.len {ss : List Stf} {L : Nat} (hL : ∀ s ∈ ss, s.1.length ≤ L) {l x : List Bool} (h : Ins ss l x) : x.length + 1 ≤ 2 ^ (L + 1) := by
  have := words_le (ws := (List.range x.length).map fun i => U.tl L (l ++ x.take i)) (n := L) (by
    rw [List.nodup_iff_pairwise_ne, List.pairwise_map]
    refine List.Pairwise.imp_of_mem ?_ List.nodup_range
    intro a b ha hb hne e
    have ha' := List.mem_range.mp ha
    have hb' := List.mem_range.mp hb
    exact hne (h.apart hL (Nat.le_of_lt ha') (Nat.le_of_lt hb') e)) (fun w hw => by
      obtain ⟨i, _, rfl⟩ := List.mem_map.mp hw
      exact tl_le _ _)
  rw [List.length_map, List.length_range] at this
  exact this
/-! the order of the stuffs does not matter -/
def SufFree (ss : List Stf) : Prop := ss.Pairwise fun a b => ¬ a.1 <:+ b.1 ∧ ¬ b.1 <:+ a.1
theorem SufFree.ne {ss : List Stf} (h : SufFree ss) {a b : Stf} (ha : a ∈ ss) (hb : b ∈ ss) (n : a ≠ b) : ¬ a.1 <:+ b.1 := by
  unfold SufFree at h
  induction ss with
  | nil => cases ha
  | cons s r ih =>
    obtain ⟨h1, h2⟩ := List.pairwise_cons.mp h
    rcases List.mem_cons.mp ha with ea | ha'
    · rcases List.mem_cons.mp hb with eb | hb'
      · exact absurd (ea.trans eb.symm) n
      · rw [ea]; exact (h1 _ hb').1
    · rcases List.mem_cons.mp hb with eb | hb'
      · rw [eb]; exact (h1 _ ha').2
      · exact ih h2 ha' hb'
theorem put_iff {ss : List Stf} (h : SufFree ss) {l : List Bool} {b : Bool} : putM ss l = some b ↔ ∃ p, (p, b) ∈ ss ∧ p <:+ l := by
  unfold putM
  constructor
  · intro e
    obtain ⟨s, hs, rfl⟩ := Option.map_eq_some_iff.mp e
    exact ⟨s.1, List.mem_of_find?_eq_some hs, List.isSuffixOf_iff_suffix.mp (List.find?_some (p := fun s : Stf => s.1.isSuffixOf l) hs)⟩
  · rintro ⟨p, hm, hp⟩
    cases e : ss.find? fun s => s.1.isSuffixOf l with
    | none =>
      have := List.find?_eq_none.mp e _ hm
      exact absurd (List.isSuffixOf_iff_suffix.mpr hp) this
    | some s =>
      have hs := List.mem_of_find?_eq_some e
      have hq : s.1 <:+ l := List.isSuffixOf_iff_suffix.mp (List.find?_some (p := fun s : Stf => s.1.isSuffixOf l) e)
      by_cases n : s = (p, b)
      · rw [n]; rfl
      · rcases List.suffix_or_suffix_of_suffix hq hp with z | z
        · exact absurd z (h.ne hs hm n)
        · exact absurd z (h.ne hm hs (Ne.symm n))
theorem SufFree.perm {ss ts : List Stf} (h : SufFree ss) (p : ss.Perm ts) : SufFree ts := by
  unfold SufFree at h ⊢
  exact (List.Perm.pairwise_iff (fun ⟨a, b⟩ => ⟨b, a⟩) p).mp h
theorem put_perm {ss ts : List Stf} (h : SufFree ss) (p : ss.Perm ts) (l : List Bool) : putM ss l = putM ts l := by
  refine Option.ext fun b => ?_
  rw [put_iff h, put_iff (h.perm p)]
  constructor
  · rintro ⟨q, hm, hq⟩; exact ⟨q, p.mem_iff.mp hm, hq⟩
  · rintro ⟨q, hm, hq⟩; exact ⟨q, p.mem_iff.mpr hm, hq⟩
theorem Ins.congr {ss ts : List Stf} (h : ∀ l, putM ss l = putM ts l) {l x : List Bool} (i : Ins ss l x) : Ins ts l x := by
  induction i with
  | stop e => exact .stop (by rw [← h]; exact e)
  | more e _ ih => exact .more (by rw [← h]; exact e) ih
theorem Reach.congr {ss ts : List Stf} (h : ∀ l, putM ss l = putM ts l) {l : List Bool} (r : Reach ss l) : Reach ts l := by
  induction r with
  | nil => exact .nil
  | next _ i ih => exact .next ih (i.congr h)
theorem OkR.congr {ss ts : List Stf} (h : ∀ l, putM ss l = putM ts l) (o : OkR ss) : OkR ts := fun l r b => by
  obtain ⟨x, hx⟩ := o l (r.congr fun l => (h l).symm) b
  exact ⟨x, hx.congr h⟩
/-! so many puts, one behind another -/
def stP (ss : List Stf) (l : List Bool) : List Bool := match putM ss l with
  | none => l
  | some b => l ++ [b]
def itP (ss : List Stf) : Nat → List Bool → List Bool
  | 0, l => l
  | n + 1, l => itP ss n (stP ss l)
theorem itP_succ (ss : List Stf) : ∀ (n : Nat) (l : List Bool), itP ss (n + 1) l = stP ss (itP ss n l)
  | 0, _ => rfl
  | n + 1, l => itP_succ ss n (stP ss l)
theorem itP_stop {ss : List Stf} {l : List Bool} (h : putM ss l = none) : ∀ n, itP ss n l = l
  | 0 => rfl
  | n + 1 => by
    show itP ss n (stP ss l) = l
    have e : stP ss l = l := by unfold stP; rw [h]
    rw [e, itP_stop h n]
theorem itP_add (ss : List Stf) : ∀ (i j : Nat) (l : List Bool), itP ss (i + j) l = itP ss j (itP ss i l)
  | 0, j, l => by rw [Nat.zero_add]; rfl
  | i + 1, j, l => by rw [show i + 1 + j = (i + j) + 1 by omega]; exact itP_add ss i j (stP ss l)
theorem itP_rest {ss : List Stf} {i n : Nat} {l : List Bool} (h : putM ss (itP ss i l) = none) (hi : i ≤ n) : itP ss n l = itP ss i l := by
  rw [show n = i + (n - i) by omega, itP_add, itP_stop h]
theorem itP_or (ss : List Stf) : ∀ (n : Nat) (l : List Bool), (itP ss n l).length = l.length + n ∨ ∃ x, Ins ss l x ∧ itP ss n l = l ++ x
  | 0, l => .inl rfl
  | n + 1, l => by
    cases e : putM ss l with
    | none => exact .inr ⟨[], .stop e, by rw [itP_stop e, List.append_nil]⟩
    | some b =>
      have es : stP ss l = l ++ [b] := by unfold stP; rw [e]
      show (itP ss n (stP ss l)).length = _ ∨ ∃ x, Ins ss l x ∧ itP ss n (stP ss l) = l ++ x
      rw [es]
      rcases itP_or ss n (l ++ [b]) with h | ⟨x, h1, h2⟩
      · left; rw [h, List.length_append, List.length_cons, List.length_nil]; omega
      · exact .inr ⟨b :: x, .more e h1, by rw [h2, List.append_assoc]; rfl⟩
theorem itP_le (ss : List Stf) : ∀ (n : Nat) (l : List Bool), l.length ≤ (itP ss n l).length ∧ (itP ss n l).length ≤ l.length + n
  | 0, l => ⟨Nat.le_refl _, Nat.le_refl _⟩
  | n + 1, l => by
    have h := itP_le ss n (stP ss l)
    have e : l.length ≤ (stP ss l).length ∧ (stP ss l).length ≤ l.length + 1 := by
      unfold stP
      cases putM ss l with
      | none => exact ⟨Nat.le_refl _, Nat.le_succ _⟩
      | some b => show l.length ≤ (l ++ [b]).length ∧ (l ++ [b]).length ≤ _; rw [List.length_append, List.length_cons, List.length_nil]; omega
    show l.length ≤ (itP ss n (stP ss l)).length ∧ (itP ss n (stP ss l)).length ≤ _
    omega
/-- a closed set of standings, of 5 bits at most, shows that no message is without end -/
theorem okS_of {ss : List Stf} (kn : List (List Bool)) (hL : ∀ s ∈ ss, s.1.length ≤ 5) (h0 : [] ∈ kn) (hc : ∀ w ∈ kn, ∀ b, (itP ss 24 (w ++ [b])).length ≤ w.length + 20 ∧ tl 5 (itP ss 24 (w ++ [b])) ∈ kn) : OkS ss := by
  have hx : ∀ w ∈ kn, ∀ b, ∃ x, Ins ss (w ++ [b]) x ∧ tl 5 (w ++ [b] ++ x) ∈ kn ∧ x.length ≤ 19 := fun w hw b => by
    obtain ⟨h1, h2⟩ := hc w hw b
    rcases itP_or ss 24 (w ++ [b]) with h | ⟨x, hi, e⟩
    · rw [h, List.length_append, List.length_cons, List.length_nil] at h1; omega
    · rw [e] at h2 h1; exact ⟨x, hi, h2, by rw [List.length_append, List.length_append, List.length_cons, List.length_nil] at h1; omega⟩
  have hr : ∀ l, Reach ss l → ∃ w ∈ kn, tl 5 w = tl 5 l := fun l r => by
    induction r with
    | nil => exact ⟨[], h0, rfl⟩
    | @next l x b r i ih =>
      obtain ⟨w, hw, e⟩ := ih
      obtain ⟨y, hy, hm, _⟩ := hx w hw b
      have e2 := tl_snoc (b := b) e
      have ey := (hy.tl hL e2).det i
      subst ey
      exact ⟨_, hm, by rw [tl_tl (Nat.le_refl 5)]; exact tl_app e2 y⟩
  intro l r b
  obtain ⟨w, hw, e⟩ := hr l r
  obtain ⟨y, hy, _, h19⟩ := hx w hw b
  exact ⟨y, hy.tl hL (tl_snoc e), h19⟩
theorem okS_dec {ss : List Stf} (hL : (ss.all fun s => decide (s.1.length ≤ 5)) = true) (h : ((allW 5).all fun w => [false, true].all fun b => decide ((itP ss 24 (w ++ [b])).length ≤ w.length + 20)) = true) : OkS ss := by
  refine okS_of (allW 5) (fun s hs => of_decide_eq_true (List.all_eq_true.mp hL s hs)) (mem_allW (by decide)) fun w hw b => ⟨?_, mem_allW (tl_le _ _)⟩
  have := List.all_eq_true.mp (List.all_eq_true.mp h w hw) b (by cases b <;> decide)
  exact of_decide_eq_true this
theorem okS_11 : OkS [([true, true], false)] := okS_dec (by decide +kernel) (by decide +kernel)
theorem okS_001 : OkS [([false, false, true], true)] := okS_dec (by decide +kernel) (by decide +kernel)
theorem okS_1 : OkS [([true], false)] := okS_dec (by decide +kernel) (by decide +kernel)
theorem okS_00 : OkS [([false, false], true)] := okS_dec (by decide +kernel) (by decide +kernel)
theorem okS_nil : OkS [] := okS_dec (by decide +kernel) (by decide +kernel)
theorem okR_nil : OkR [] := okS_nil.ok
theorem OkN.congr {n : Nat} {ss ts : List Stf} (h : ∀ l, putM ss l = putM ts l) (o : OkN n ss) : OkN n ts := fun l r b => by
  obtain ⟨x, hx, hl⟩ := o l (r.congr fun l => (h l).symm) b
  exact ⟨x, hx.congr h, hl⟩
/-- the line for a message -/
inductive Body (ss : List Stf) : List Bool → List Bool → Prop
  | nil : Body ss [] []
  | snoc {m l x : List Bool} {b : Bool} : Body ss m l → Ins ss (l ++ [b]) x → Body ss (m ++ [b]) (l ++ [b] ++ x)
theorem Body.reach {ss : List Stf} {m l : List Bool} (h : Body ss m l) : Reach ss l := by
  induction h with
  | nil => exact .nil
  | snoc _ i ih => exact .next ih i
theorem Body.congr {ss ts : List Stf} (h : ∀ l, putM ss l = putM ts l) {m l : List Bool} (b : Body ss m l) : Body ts m l := by
  induction b with
  | nil => exact .nil
  | snoc _ i ih => exact .snoc ih (i.congr h)
theorem body_steps {N : Nat} {ss : List Stf} (o : OkN N ss) (m : List Bool) : ∃ f : Nat → List Bool, f 0 = [] ∧ (∀ i b, m[i]? = some b → ∃ x, Ins ss (f i ++ [b]) x ∧ x.length ≤ N ∧ f (i + 1) = f i ++ [b] ++ x) ∧ (∀ i, i ≤ m.length → Body ss (m.take i) (f i) ∧ (f i).length ≤ (N + 1) * i) := by
  have step : ∀ (n : Nat) (hn : n ≤ m.length), ∃ f : Nat → List Bool, f 0 = [] ∧ (∀ i b, i < n → m[i]? = some b → ∃ x, Ins ss (f i ++ [b]) x ∧ x.length ≤ N ∧ f (i + 1) = f i ++ [b] ++ x) ∧ (∀ i, i ≤ n → Body ss (m.take i) (f i) ∧ (f i).length ≤ (N + 1) * i) := by
    intro n
    induction n with
    | zero => exact fun _ => ⟨fun _ => [], rfl, fun i b h => absurd h (Nat.not_lt_zero _), fun i h => by rw [Nat.le_zero.mp h, List.take_zero]; exact ⟨.nil, Nat.le_refl _⟩⟩
    | succ n ih =>
      intro hn
      obtain ⟨f, h0, h1, h2⟩ := ih (by omega)
      have hb : m[n]? = some m[n] := List.getElem?_eq_getElem (by omega)
      obtain ⟨hB, hl⟩ := h2 n (Nat.le_refl _)
      obtain ⟨x, hx, hx19⟩ := o (f n) hB.reach m[n]
      refine ⟨fun i => if i = n + 1 then f n ++ [m[n]] ++ x else f i, ?_, fun i b hi hb' => ?_, fun i hi => ?_⟩
      · show (if 0 = n + 1 then _ else f 0) = []
        rw [if_neg (by omega), h0]
      · show ∃ y, Ins ss ((if i = n + 1 then _ else f i) ++ [b]) y ∧ _ ∧ (if i + 1 = n + 1 then f n ++ [m[n]] ++ x else f (i + 1)) = (if i = n + 1 then f n ++ [m[n]] ++ x else f i) ++ [b] ++ y
        rw [if_neg (show ¬ i = n + 1 by omega)]
        by_cases e : i = n
        · subst e
          rw [hb] at hb'
          cases hb'
          rw [if_pos rfl]
          exact ⟨x, hx, hx19, rfl⟩
        · rw [if_neg (by omega)]
          exact h1 i b (by omega) hb'
      · show Body ss (m.take i) (if i = n + 1 then _ else f i) ∧ (if i = n + 1 then f n ++ [m[n]] ++ x else f i).length ≤ (N + 1) * i
        by_cases e : i = n + 1
        · subst e
          rw [if_pos rfl, List.take_add_one, hb]
          refine ⟨.snoc hB hx, ?_⟩
          rw [List.length_append, List.length_append, List.length_cons, List.length_nil, Nat.mul_add]
          omega
        · rw [if_neg e]
          exact h2 i (by omega)
  obtain ⟨f, h0, h1, h2⟩ := step m.length (Nat.le_refl _)
  exact ⟨f, h0, fun i b hb => h1 i b (List.getElem?_eq_some_iff.mp hb).1 hb, h2⟩
theorem Ins.itP {ss : List Stf} {l x : List Bool} (h : Ins ss l x) : ∀ n, itP ss n l = l ++ x.take n := by
  induction h with
  | stop h => intro n; rw [itP_stop h, List.take_nil, List.append_nil]
  | @more l x b h _ ih =>
    intro n
    cases n with
    | zero => rw [List.take_zero, List.append_nil]; rfl
    | succ n =>
      have es : stP ss l = l ++ [b] := by unfold stP; rw [h]
      show U.itP ss n (stP ss l) = _
      rw [es, ih n, List.append_assoc]
      rfl
theorem ins_of_itP {ss : List Stf} {l y : List Bool} {j : Nat} (h : itP ss j l = l ++ y) (hn : putM ss (l ++ y) = none) (hj : y.length = j) : Ins ss l y := by
  rcases itP_or ss (j + 1) l with c | ⟨x, hx, e⟩
  · rw [itP_succ, h] at c
    unfold stP at c
    rw [hn] at c
    have c' : (l ++ y).length = l.length + (j + 1) := c
    rw [List.length_append] at c'
    omega
  · rw [itP_succ, h] at e
    unfold stP at e
    rw [hn] at e
    have e' : l ++ y = l ++ x := e
    rw [List.append_cancel_left e']
    exact hx
/-- the line for a message, as a function -/
def bodyF (ss : List Stf) (m : List Bool) : List Bool := m.foldl (fun l b => itP ss 40 (l ++ [b])) []
theorem Body.isF {ss : List Stf} (o : OkN 39 ss) {m l : List Bool} (h : Body ss m l) : l = bodyF ss m := by
  induction h with
  | nil => rfl
  | @snoc m l x b hb hi ih =>
    obtain ⟨y, hy, h39⟩ := o l hb.reach b
    have e := hi.det hy
    subst e
    unfold bodyF
    rw [List.foldl_append]
    show _ = itP ss 40 (bodyF ss m ++ [b])
    rw [← ih, hi.itP, List.take_of_length_le (by omega)]
theorem body_ex {ss : List Stf} (o : OkN 39 ss) (m : List Bool) : Body ss m (bodyF ss m) := by
  obtain ⟨f, _, _, h⟩ := body_steps o m
  have := (h m.length (Nat.le_refl _)).1
  rw [List.take_length] at this
  rw [← this.isF o]
  exact this
end U

set_option maxRecDepth 100000
set_option maxHeartbeats 4000000
namespace U
open PySem PySem.Spec PyProof.Rows L2
def top (i : Nat) : Stmt := PySem.Challenge.pw_unseenflips_k10_whole_rules_and_their_te.main.body.getD i (.Pass ⟨0, 0, 0, 0⟩)
abbrev s_InvalidRule_init : Stmt := inClass (top 2) 0
abbrev s_InvalidText_init : Stmt := inClass (top 3) 0
abbrev s_is_sequence : Stmt := top 6
abbrev s_is_word : Stmt := top 7
abbrev s_is_bit : Stmt := top 8
abbrev s_other : Stmt := top 9
abbrev s_swapped_word : Stmt := top 10
abbrev s_tail : Stmt := top 11
abbrev s_is_stuff : Stmt := top 13
abbrev s_are_stuffs : Stmt := top 14
abbrev s_stuff_in : Stmt := top 15
abbrev s_Rule_init : Stmt := inClass (top 16) 0
abbrev s_Rule_read : Stmt := inClass (top 16) 1
abbrev s_Rule_longest : Stmt := inClass (top 16) 2
abbrev s_Rule_swapped : Stmt := inClass (top 16) 3
abbrev s_Rule_put : Stmt := inClass (top 16) 4
abbrev s_Rule_put_in : Stmt := inClass (top 16) 5
abbrev s_Rule_is_endless : Stmt := inClass (top 16) 6
abbrev s_Rule_len : Stmt := inClass (top 16) 7
abbrev s_Rule_iter : Stmt := inClass (top 16) 8
abbrev s_Rule_eq : Stmt := inClass (top 16) 9
abbrev s_Rule_str : Stmt := inClass (top 16) 10
abbrev s_l_seed : Stmt := top 18
abbrev s_l_choose : Stmt := top 19
abbrev s_l_one_of : Stmt := top 20
abbrev s_l_word : Stmt := top 21
abbrev s_l_put : Stmt := top 22
abbrev s_l_is_rule : Stmt := top 23
abbrev s_l_rule : Stmt := top 24
abbrev s_l_made : Stmt := top 25
abbrev s_law : Stmt := top 26
structure Tx (mg : Str → Option Value) : Prop where
  b_len : mg "len" = none
  b_abs : mg "abs" = none
  b_int : mg "int" = none
  b_range : mg "range" = none
  b_max : mg "max" = none
  b_min : mg "min" = none
  b_enumerate : mg "enumerate" = none
  b_zip : mg "zip" = none
  b_dict : mg "dict" = none
  b_list : mg "list" = none
  b_tuple : mg "tuple" = none
  b_isinstance : mg "isinstance" = none
  b_bool : mg "bool" = none
  b_str : mg "str" = none
  b_all : mg "all" = none
  b_any : mg "any" = none
  b_sum : mg "sum" = none
  b_sorted : mg "sorted" = none
  b_repr : mg "repr" = none
end U

set_option maxRecDepth 100000
set_option maxHeartbeats 4000000
namespace U
open PySem PySem.Spec PyProof.Rows
open L2 hiding Fun CX0 E0 pass0 Fun.binds
open C8 Lx
local macro_rules | `(tactic| walk_at "g") => `(tactic| repeat (first | (refine ⟨_, rfl, ?_⟩) | (refine ⟨_, _, rfl, rfl, ?_⟩) | (refine ⟨rfl, ?_⟩) | (refine .inl ⟨_, rfl, ?_⟩)))
/-- the box: a list of two ints -/
def Box (H : Hp) (b : Addr) : Prop := ∃ x y : Int, H b = some (.lst [.int x, .int y])
/-- all but the box at b stands as it stood; the box is a box -/
def Up (b : Addr) (H H' : Hp) : Prop := (∀ c o, H c = some o → c ≠ b → H' c = some o) ∧ Box H' b
theorem Box.same {b : Addr} {H H' : Hp} (h : Box H b) (y : Same H H') : Box H' b := by obtain ⟨i, j, e⟩ := h; exact ⟨i, j, y _ _ e⟩
theorem Up.refl {b : Addr} {H : Hp} (h : Box H b) : Up b H H := ⟨fun _ _ e _ => e, h⟩
theorem Up.trans {b : Addr} {H H1 H2 : Hp} (x : Up b H H1) (y : Up b H1 H2) : Up b H H2 := ⟨fun c o e n => y.1 c o (x.1 c o e n) n, y.2⟩
theorem Up.same {b : Addr} {H H1 H2 : Hp} (x : Up b H H1) (y : Same H1 H2) : Up b H H2 := ⟨fun c o e n => y c o (x.1 c o e n), x.2.same y⟩
theorem Up.of_same {b : Addr} {H H2 : Hp} (h : Box H b) (y : Same H H2) : Up b H H2 := (Up.refl h).same y
theorem same_upd {H : Hp} {p : Addr} {o : HO} (h : H p = none) : Same H (upd H p o) := fun b x e => by
  rw [upd_ne (ne_of_none e h)]
  exact e
theorem same_mut' {H H1 : Hp} {p : Addr} {o : HO} (s : Same H H1) (n : H p = none) : Same H (upd H1 p o) := fun c u e => by
  rw [upd_ne (ne_of_none e n)]
  exact s _ _ e
theorem Box.ne {H : Hp} {b p : Addr} (h : Box H b) (n : H p = none) : p ≠ b := by
  obtain ⟨i, j, e⟩ := h
  intro z
  rw [z, e] at n
  cases n
/-- a thing that is no list of two ints is not the box -/
theorem Box.neT {H : Hp} {b p : Addr} {xs : List V} (h : Box H b) (n : H p = some (.tup xs)) : p ≠ b := by
  obtain ⟨i, j, e⟩ := h
  intro z
  rw [z, e] at n
  cases n
/-- an object that H doesn't know, changed -/
theorem Up.mut {b : Addr} {H H1 : Hp} {p : Addr} {o : HO} (x : Up b H H1) (h : H p = none) (n : p ≠ b) : Up b H (upd H1 p o) :=
  ⟨fun c u e nc => by rw [upd_ne (ne_of_none e h)]; exact x.1 c u e nc, by obtain ⟨i, j, e⟩ := x.2; exact ⟨i, j, by rw [upd_ne (Ne.symm n)]; exact e⟩⟩
theorem Up.free {b : Addr} {H H1 : Hp} {p : Addr} (x : Up b H H1) (h : H1 p = none) : H p = none := by
  cases e : H p with
  | none => rfl
  | some o =>
    by_cases n : p = b
    · obtain ⟨i, j, e2⟩ := x.2
      rw [n, e2] at h
      cases h
    · rw [x.1 p o e n] at h
      cases h
/-- what is no list stands as it stood -/
def NL (H H' : Hp) : Prop := ∀ c o, H c = some o → (∀ xs, o ≠ .lst xs) → H' c = some o
theorem NL.refl (H : Hp) : NL H H := fun _ _ e _ => e
theorem NL.trans {H H1 H2 : Hp} (a : NL H H1) (b : NL H1 H2) : NL H H2 := fun c o e n => b c o (a c o e n) n
theorem NL.of {H H' : Hp} (s : Same H H') : NL H H' := fun c o e _ => s c o e
theorem Up.nl {b : Addr} {H H' : Hp} (hb : Box H b) (u : Up b H H') : NL H H' := fun c o e n => u.1 c o e fun z => by
  obtain ⟨i, j, hb⟩ := hb
  rw [z, hb] at e
  exact n _ (Option.some.inj e).symm
theorem nl_upd {H : Hp} {q : Addr} {xs : List V} {o : HO} (h : H q = some (.lst xs)) : NL H (upd H q o) := fun c u e n => by
  have nq : c ≠ q := fun z => by
    rw [z, h] at e
    exact n _ (Option.some.inj e).symm
  rw [upd_ne nq]
  exact e
theorem NL.tup {H H' : Hp} {a : Addr} {xs : List V} (n : NL H H') (h : H a = some (.tup xs)) : H' a = some (.tup xs) := n _ _ h fun _ z => by cases z
theorem NL.ins {H H' : Hp} {a C dx : Addr} {fs : List (Str × V)} (n : NL H H') (h : H a = some (.ins C dx fs)) : H' a = some (.ins C dx fs) := n _ _ h fun _ z => by cases z
def spSeed (K : PySem.W.Frag) : Sp := fun vs H Q _ => ∃ (a : Addr) (ns : List Int) (k : Nat), vs = [.ref a, .int k] ∧ SqL K H a (ns.map V.int) ∧
  ∀ p H', H p = none → Same H H' → Box H' p → Q (.ref p) H'
def spChoose : Sp := fun vs H Q _ => ∃ (b : Addr) (m : Int), vs = [.ref b, .int m] ∧ Box H b ∧ 0 < m ∧ m < 1073741824 ∧
  ∀ (d : Int) H', 0 ≤ d → d < m → Up b H H' → Q (.int d) H'
def spOneOf : Sp := fun vs H Q _ => ∃ (b l : Addr) (xs : List V), vs = [.ref b, .ref l] ∧ Box H b ∧ H l = some (.lst xs) ∧ l ≠ b ∧ 0 < xs.length ∧ xs.length < 1000 ∧
  ∀ (v : V) H', v ∈ xs → Up b H H' → Q v H'
theorem cell_at {ns : List Int} {k : Int} (h0 : 0 ≤ k) (h1 : k < ns.length) : ∃ z, atI (ns.map V.int) k = some (V.int z) := by
  obtain ⟨j, rfl⟩ := Int.eq_ofNat_of_zero_le h0
  have h2 : j < ns.length := by omega
  exact ⟨ns[j], atI_nat (by simp [h2])⟩
section
variable {P : Program} {w : World} {K : PySem.W.Frag} {mg : Str → Option Value} {base : Heap}
theorem sc_l_choose : FnScope ["_law_box", "_law_many", "_law_digit", "_law_raw"] ["_law_box", "_law_many"] (fnScope s_l_choose) := fnScope_by (by decide +kernel)
theorem cal_l_choose {f : Addr} {fd : FuncData} (F : Def K mg "_law_choose" s_l_choose f fd) (b : Binds K fd ["_law_box", "_law_many"] []) (T : Tx mg) : Cal P w K mg base 1 "_law_choose" spChoose [] := by
  refine cal0 F b .nil sc_l_choose (fun vs H Q E h => ?_) (fun cdv A outer s H vs Q E hr h => ?_)
  · obtain ⟨_, _, rfl, _⟩ := h; rfl
  · obtain ⟨bx, m, rfl, ⟨x, y, hb⟩, m0, m1, k⟩ := h
    refine ⟨_, (pss_cons (ps_if (pt_cmpR op_gt (pe_ix ix_list (pv 0) pe_int (fun _ _ => rfl)) pe_int (nomark _)) (pss_cons (ps_set (i := 2) sc_l_choose.nd rfl (.inl rfl) (pe_op op_mod (pe_callTy call_int1 (by rfl) T.b_int (by decide +kernel) (pa_cons (pe_ix ix_list (pv 0) pe_int (fun _ _ => rfl)) pa_nil)) (pv 1)))
    (pss_cons (ps_asg (pe_op op_fdiv (pe_ix ix_list (pv 0) pe_int (fun _ _ => rfl)) (pv 1)) (pg_sub (pv 0) pe_int set_list))
    (pss_one (ps_ret (pv 2))))) pss_nil)
    (pss_cons (ps_set (i := 3) sc_l_choose.nd rfl (.inl rfl) (pe_op op_mod (pe_callTy call_int1 (by rfl) T.b_int (by decide +kernel) (pa_cons (pe_op op_add (pe_op op_mul (pe_ix ix_list (pv 0) pe_int (fun _ _ => rfl)) pe_int) pe_int) pa_nil)) pe_int))
    (pss_cons (ps_asg (pe_op op_add (pe_op op_mod (pe_callTy call_int1 (by rfl) T.b_int (by decide +kernel) (pa_cons (pe_op op_add (pe_op op_mul (pv 3) pe_int) pe_int) pa_nil)) pe_int) pe_int) (pg_sub (pv 0) pe_int set_list))
    (pss_one (ps_ret (pe_op op_mod (pe_callTy call_int1 (by rfl) T.b_int (by decide +kernel) (pa_cons (pe_op op_fdiv (pe_op op_add (pe_op op_mul (pv 3) pe_int) (pe_ix ix_list (pv 0) pe_int (fun _ _ => rfl))) pe_int) pa_nil)) (pv 1))))))), ?_⟩
    have up : ∀ x' y' : Int, Up bx H (upd H bx (.lst [.int x', .int y'])) := fun x' y' => ⟨fun c o e n => by rw [upd_ne n]; exact e, _, _, upd_same⟩
    refine ⟨_, rfl, bx, _, _, _, rfl, rfl, SqL.of hb, atI_nat (j := 0) rfl, _, _, rfl, rfl, _, rfl, ?_⟩
    refine ite2 (fun h1 => ?_) (fun h1 => ?_)
    · refine ⟨_, rfl, bx, _, _, _, rfl, rfl, SqL.of hb, atI_nat (j := 0) rfl, .inl ⟨_, rfl, _, rfl, _, _, rfl, rfl, m0, ?_⟩⟩
      refine ⟨_, rfl, bx, _, _, _, rfl, rfl, SqL.of hb, atI_nat (j := 0) rfl, _, rfl, _, _, rfl, rfl, ⟨m0, m1⟩, _, rfl, bx, _, _, 0, rfl, rfl, hb, rfl, ?_⟩
      exact ⟨_, rfl, k _ _ (Int.emod_nonneg _ (by omega)) (Int.emod_lt_of_pos _ m0) (up _ _)⟩
    · refine ⟨_, rfl, bx, _, _, _, rfl, rfl, SqL.of hb, atI_nat (j := 1) rfl, _, _, rfl, rfl, .inr ⟨by decide, by decide⟩, _, _, rfl, rfl, .inl ⟨_, rfl, _, _, rfl, rfl, (by show (0 : Int) < 2147483563; decide), ?_⟩⟩
      refine ⟨_, rfl, _, _, rfl, rfl, .inr ⟨by decide, by decide⟩, _, _, rfl, rfl, .inl ⟨_, rfl, _, _, rfl, rfl, (by show (0 : Int) < 2147483629; decide), _, _, rfl, rfl, _, rfl, bx, _, _, 1, rfl, rfl, hb, rfl, ?_⟩⟩
      refine ⟨_, rfl, _, _, rfl, rfl, .inr ⟨by decide, by decide⟩, _, rfl, bx, _, _, _, rfl, rfl, SqL.of upd_same, atI_nat (j := 1) rfl, _, _, rfl, rfl, _, _, rfl, rfl, ⟨by decide, by decide⟩, .inl ⟨_, rfl, _, rfl, _, _, rfl, rfl, m0, ?_⟩⟩
      exact k _ _ (Int.emod_nonneg _ (by omega)) (Int.emod_lt_of_pos _ m0) (up _ _)
theorem sc_l_seed : FnScope ["_law_script", "_law_k", "_law_cell"] ["_law_script", "_law_k"] (fnScope s_l_seed) := fnScope_by (by decide +kernel)
theorem cal_l_seed {f : Addr} {fd : FuncData} (F : Def K mg "_law_seed" s_l_seed f fd) (b : Binds K fd ["_law_script", "_law_k"] []) (T : Tx mg) : Cal P w K mg base 1 "_law_seed" (spSeed K) [] := by
  refine cal0 F b .nil sc_l_seed (fun vs H Q E h => ?_) (fun cdv A outer s H vs Q E hr h => ?_)
  · obtain ⟨_, _, _, rfl, _⟩ := h; rfl
  · obtain ⟨a, ns, n, rfl, hS, k⟩ := h
    refine ⟨_, (pss_cons (ps_set (i := 2) sc_l_seed.nd rfl (.inl rfl) (pe_op op_add (pe_op op_mul pe_int (pv 1)) pe_int))
    (pss_cons (ps_if (pt_cmpR op_lt (pv 1) (pe_callB call_len_seq (by rfl) T.b_len (by decide +kernel) (pa_cons (pv 0) pa_nil)) (nomark _)) (pss_one (ps_set (i := 2) sc_l_seed.nd rfl (.inl rfl) (pe_callB call_abs (by rfl) T.b_abs (by decide +kernel) (pa_cons (pe_ix ix_list (pv 0) (pv 1) (fun _ _ => rfl)) pa_nil)))) (pss_one (ps_if (pt_cmpR op_gt (pe_callB call_len_seq (by rfl) T.b_len (by decide +kernel) (pa_cons (pv 0) pa_nil)) pe_int (nomark _)) (pss_one (ps_set (i := 2) sc_l_seed.nd rfl (.inl rfl) (pe_op op_add (pv 2) (pe_op op_mul (pe_op op_mod (pe_callTy call_int1 (by rfl) T.b_int (by decide +kernel) (pa_cons (pe_callB call_abs (by rfl) T.b_abs (by decide +kernel) (pa_cons (pe_ix ix_list (pv 0) (pe_op op_mod (pe_callTy call_int1 (by rfl) T.b_int (by decide +kernel) (pa_cons (pv 1) pa_nil)) (pe_callB call_len_seq (by rfl) T.b_len (by decide +kernel) (pa_cons (pv 0) pa_nil))) (fun _ _ => rfl)) pa_nil)) pa_nil)) pe_int) pe_int)))) pss_nil)))
    (pss_one (ps_ret (pe_lst (pa_cons (pe_ifExp (pt_cmpR op_ge (pv 2) (pe_op op_pow pe_int pe_int) (nomark _)) (pv 2) pe_int) (pa_cons (pe_op op_add (pe_op op_mod (pe_callTy call_int1 (by rfl) T.b_int (by decide +kernel) (pa_cons (pe_op op_add (pe_op op_mul (pe_op op_mod (pe_callTy call_int1 (by rfl) T.b_int (by decide +kernel) (pa_cons (pv 2) pa_nil)) pe_int) pe_int) (pe_op op_mul pe_int (pv 1))) pa_nil)) pe_int) pe_int) pa_nil))))))), ?_⟩
    have fin : ∀ z : Int, tRet (tLst (tCons (tIf (tTest (tOp (rI0 fun i j => V.bl (decide (j ≤ i))) (tVar 2) (tOp (rI CPow fun i j => V.int (i ^ j.toNat)) (tC (V.int 10)) (tC (V.int 18))))) (tVar 2) (tC (V.int 0))) (tCons (tOp (rI0 fun i j => V.int (i + j)) (tOp (rI (fun _ j => 0 < j) fun i j => V.int (i % j)) (tCB (fun xs H Q => (∃ i, xs = [V.int i] ∧ Q (V.int i) H) ∨ ∃ k, xs = [V.bl k] ∧ Q (V.int (if k = true then 1 else 0)) H) (tCons (tOp (rI0 fun i j => V.int (i + j)) (tOp (rI CMul fun i j => V.int (i * j)) (tOp (rI (fun _ j => 0 < j) fun i j => V.int (i % j)) (tCB (fun xs H Q => (∃ i, xs = [V.int i] ∧ Q (V.int i) H) ∨ ∃ k, xs = [V.bl k] ∧ Q (V.int (if k = true then 1 else 0)) H) (tCons (tVar 2) tNil)) (tC (V.int 2147483629))) (tC (V.int 48271))) (tOp (rI CMul fun i j => V.int (i * j)) (tC (V.int 39019)) (tVar 1))) tNil)) (tC (V.int 2147483629))) (tC (V.int 1))) tNil))) { nx := fun _ H' => Q .non H', rt := Q } [some (.ref a), some (.int n), some (.int z)] H := by
      intro z
      refine ⟨_, rfl, _, _, rfl, rfl, ⟨by decide, by decide, by decide⟩, _, _, rfl, rfl, _, rfl, ?_⟩
      refine ite2 (fun h1 => ?_) (fun h1 => ?_)
      all_goals
        first
          | refine ⟨_, rfl, _, rfl, .inl ⟨_, rfl, _, _, rfl, rfl, (by show (0 : Int) < 2147483629; decide), _, _, rfl, rfl, .inr ⟨by decide, by decide⟩, _, rfl, _, _, rfl, rfl, .inl ⟨by decide, by decide⟩, _, _, rfl, rfl, .inl ⟨_, rfl, _, _, rfl, rfl, (by show (0 : Int) < 2147483629; decide), _, _, rfl, rfl, ?_⟩⟩⟩
          | refine ⟨_, rfl, .inl ⟨_, rfl, _, _, rfl, rfl, (by show (0 : Int) < 2147483629; decide), _, _, rfl, rfl, .inr ⟨by decide, by decide⟩, _, rfl, _, _, rfl, rfl, .inl ⟨by decide, by decide⟩, _, _, rfl, rfl, .inl ⟨_, rfl, _, _, rfl, rfl, (by show (0 : Int) < 2147483629; decide), _, _, rfl, rfl, ?_⟩⟩⟩
        exact ⟨by show 2 ≤ sizeLine; decide, fun p hp => k p _ hp (same_upd hp) ⟨_, _, upd_same⟩⟩
    refine ⟨_, rfl, _, _, rfl, rfl, .inl ⟨by decide, by decide⟩, _, _, rfl, rfl, ?_⟩
    refine ⟨_, rfl, _, rfl, a, _, rfl, .inl hS, _, _, rfl, rfl, _, rfl, ?_⟩
    refine ite2 (fun h1 => ?_) (fun h1 => ?_)
    · have h2 : (n : Int) < ((ns.map V.int).length : Int) := of_decide_eq_true h1
      rw [List.length_map] at h2
      obtain ⟨z, hz⟩ := cell_at (ns := ns) (by omega : (0 : Int) ≤ n) h2
      refine ⟨_, rfl, _, rfl, a, _, _, _, rfl, rfl, hS, hz, _, rfl, ?_⟩
      exact fin _
    · refine ⟨_, rfl, a, _, rfl, .inl hS, _, _, rfl, rfl, _, rfl, ?_⟩
      refine ite2 (fun h3 => ?_) (fun h3 => ?_)
      · have h4 : (0 : Int) < ((ns.map V.int).length : Int) := of_decide_eq_true h3
        have h5 := h4
        rw [List.length_map] at h5
        obtain ⟨z, hz⟩ := cell_at (ns := ns) (k := (n : Int) % ((ns.map V.int).length : Int)) (Int.emod_nonneg _ (by omega)) (by have := Int.emod_lt_of_pos (n : Int) h4; rw [List.length_map] at this ⊢; exact this)
        refine ⟨_, rfl, _, rfl, _, rfl, .inl ⟨_, rfl, _, rfl, a, _, rfl, .inl hS, _, _, rfl, rfl, h4, a, _, _, _, rfl, rfl, hS, hz, _, rfl, .inl ⟨_, rfl, _, _, rfl, rfl, (by show (0 : Int) < 2147483629; decide), _, _, rfl, rfl, .inr ⟨by decide, by decide⟩, _, _, rfl, rfl, ?_⟩⟩⟩
        exact fin _
      · exact fin _
theorem sc_l_one_of : FnScope ["_law_box", "_law_some"] ["_law_box", "_law_some"] (fnScope s_l_one_of) := fnScope_by (by decide +kernel)
theorem cal_l_one_of {f : Addr} {fd : FuncData} (F : Def K mg "_law_one_of" s_l_one_of f fd) (b : Binds K fd ["_law_box", "_law_some"] []) (T : Tx mg) (c_l_choose : Cal P w K mg base 1 "_law_choose" spChoose []) : Cal P w K mg base 2 "_law_one_of" spOneOf [] := by
  refine cal0 F b .nil sc_l_one_of (fun vs H Q E h => ?_) (fun cdv A outer s H vs Q E hr h => ?_)
  · obtain ⟨_, _, _, rfl, _⟩ := h; rfl
  · obtain ⟨bx, l, xs, rfl, hb, hl, nl, x0, x1, k⟩ := h
    refine ⟨_, (pss_one (ps_ret (pe_ix ix_list (pv 1) (pe_c c_l_choose hr (by decide) rfl (pa_cons (pv 0) (pa_cons (pe_callB call_len_seq (by rfl) T.b_len (by decide +kernel) (pa_cons (pv 1) pa_nil)) pa_nil))) (fun _ _ => rfl)))), ?_⟩
    refine ⟨_, rfl, _, rfl, _, rfl, l, _, rfl, .inl (SqL.of hl), bx, _, rfl, hb, by omega, by omega, fun d H' d0 d1 u => ?_⟩
    obtain ⟨j, rfl⟩ := Int.eq_ofNat_of_zero_le d0
    have hj : j < xs.length := by omega
    have g : xs[j]? = some xs[j] := by simp [hj]
    exact ⟨l, xs, _, xs[j], rfl, rfl, SqL.of (u.1 l _ hl nl), atI_nat g, k _ _ (List.getElem_mem hj) u⟩
end
end U

set_option maxRecDepth 100000
set_option maxHeartbeats 4000000
namespace U
open PySem PySem.Spec PyProof.Rows
open L2 hiding Fun CX0 E0 pass0 Fun.binds
open C8 Lx SX
/-! words told -/
def isW (z : Str) : Bool := z.cps.toList.all fun c => decide (c ∈ ("01" : Str).cps.toList)
theorem isW_W (l : List Bool) : isW (W l) = true := by
  unfold isW
  rw [W_tl, List.all_map, List.all_eq_true]
  intro b _
  cases b <;> decide +kernel
/-- is_word of any value: a text, or a thing whose type is not str -/
def spIsWord (K : PySem.W.Frag) : Sp := fun vs H Q _ => ∃ x, vs = [x] ∧ ((∃ z : Str, x = .str z ∧ z.length ≤ 100000 ∧ ∀ H', Same H H' → Q (.bl (isW z)) H') ∨
  (∃ t, TyX K H x t ∧ PySem.W.kitOne K t (.type "str") = some false ∧ Q (.bl false) H))
theorem spIsWord.word {K : PySem.W.Frag} {H : Hp} {Q : VK} {E : XK} {l : List Bool} (hl : l.length ≤ 100000) (k : ∀ H', Same H H' → Q (.bl true) H') : spIsWord K [.str (W l)] H Q E :=
  ⟨_, rfl, .inl ⟨_, rfl, by rw [W_len]; exact hl, fun H' s => by rw [isW_W]; exact k H' s⟩⟩
section
variable {P : Program} {w : World} {K : PySem.W.Frag} {mg : Str → Option Value} {base : Heap}
theorem sc_is_word : FnScope ["value", "sign"] ["value"] (fnScope s_is_word) := fnScope_by (by decide +kernel)
theorem cal_is_word {f : Addr} {fd : FuncData} {tB : Tok} (F : Def K mg "is_word" s_is_word f fd) (b : Binds K fd ["value"] []) (T : Tx mg) (g_BITS : mg "BITS" = some (.str "01" tB)) : Cal P w K mg base 1 "is_word" (spIsWord K) [] := by
  refine cal0 F b .nil sc_is_word (fun vs H Q E h => ?_) (fun cdv A outer s H vs Q E hr h => ?_)
  · obtain ⟨_, rfl, _⟩ := h; rfl
  · obtain ⟨_, rfl, h⟩ := h
    refine ⟨_, (pss_one (ps_ret (pe_and (pe_callB call_isi (by rfl) T.b_isinstance (by decide +kernel) (pa_cons (pv 0) (pa_cons (pe_bltn (v := .ty "str") (u := .type "str") (by rfl) T.b_str (by decide +kernel) rfl) pa_nil))) (pe_one (pe_callB (cr_all rfl) (by rfl) T.b_all (by decide +kernel) (pa_cons (pe_lc (own := [("sign", 1)]) (g := gName 1) (by rfl) sc_is_word.nd (pi_str (pv 0)) (blkOk_by (own := [("sign", 1)]) (N := ["value", "sign"]) (sc := fnScope s_is_word) (by decide +kernel)) (fun _ _ _ _ _ => (pg_name (i := 1) sc_is_word.nd rfl (.inl rfl))) (fun _ _ _ _ _ => pts_nil) (fun _ _ _ _ _ => (pe_cmpR op_in_sign (pv 1) (pe_glob (v := .str "01") (by rfl) g_BITS ⟨_, rfl⟩) (by with_unfolding_all rfl)))) pa_nil)))))), ?_⟩
    rcases h with ⟨z, rfl, hz, k⟩ | ⟨t, ht, hk, k⟩
    · refine ⟨_, rfl, _, _, _, _, true, rfl, .ty _, .base (.str z), kit_ty (by decide +kernel), _, rfl, ?_⟩
      refine ⟨_, rfl, z, rfl, fun D nD => ?_⟩
      refine lc_it walk_str (fun i H2 => Same H H2 ∧ H2 D = some (.lst (((z.cps.toList.take i).map fun c => decide (c ∈ ("01" : Str).cps.toList)).map V.bl))) ⟨same_upd nD, upd_same⟩ (fun _ _ _ _ => trivial) ?_ ?_
      · rintro i x H2 H3 hi ⟨s2, hD⟩ ⟨rfl, c, hc, rfl⟩
        refine ⟨rfl, ?_⟩
        refine ⟨_, rfl, c, _, rfl, rfl, _, hD, ?_, ?_, ?_⟩
        · rw [List.length_map, List.length_map, List.length_take]
          have e : z.length = z.cps.toList.length := TL.len_tl z
          exact sl_lt (by have : z.cps.size = z.cps.toList.length := by simp
                          omega)
        · intro c' o e
          rw [upd_ne (ne_of_none e nD)]
          exact s2 _ _ e
        · have hc' : z.cps.toList[i]? = some c := by rw [Array.getElem?_toList]; exact hc
          rw [upd_same, List.take_add_one, hc']
          simp
      · rintro H2 ⟨s2, hD⟩
        have e : z.cps.toList.take z.cps.size = z.cps.toList := List.take_of_length_le (by simp)
        rw [e] at hD
        refine ⟨D, _, rfl, SqL.of hD, ?_⟩
        have e2 : (List.map (fun c => decide (c ∈ ("01" : Str).cps.toList)) z.cps.toList).all id = isW z := by
          unfold isW
          rw [List.all_map]
          rfl
        rw [e2]
        exact k H2 s2
    · exact ⟨_, rfl, _, _, _, _, false, rfl, .ty _, ht, hk, _, rfl, k⟩
end
end U

set_option maxRecDepth 100000
set_option maxHeartbeats 4000000
namespace Lx
open PySem PySem.Spec PyProof.Rows L2
theorem Sq.of_same {K : PySem.W.Frag} {H H' : Hp} {a : Addr} {xs : List V} (h : Sq K H a xs) (e : Same H H') : Sq K H' a xs := h.same e
/-- a list or a tuple, walked: what holds behind -/
theorem iSeq_var {K : PySem.W.Frag} {i : Nat} {σ : L2.St} {H : Hp} {R : It → Hp → Prop} {a : Addr} {xs : List V} (hv : σ[i]? = some (some (.ref a))) (hS : Sq K H a xs)
    (h : ∀ (J : It) (G : Hp → Prop), (∀ H', Same H H' → G H') → Walk J xs.length G (YAt xs) → R J H) : iSeq K (tVar i) σ H R := by
  rcases hS with hS | hS
  · exact .inl ⟨_, hv, a, rfl, ⟨xs, hS⟩, h _ _ (fun H' s => s.seq hS) walk_list⟩
  · exact .inr ⟨_, hv, a, rfl, ⟨xs, hS⟩, h _ _ (fun H' s => same_tup s hS) walk_tup⟩
theorem iEnumQ_var {K : PySem.W.Frag} {i : Nat} {σ : L2.St} {H : Hp} {R : It → Hp → Prop} {a : Addr} {xs : List V} (hv : σ[i]? = some (some (.ref a))) (hS : Sq K H a xs)
    (h : ∀ (J : It) (G : Hp → Prop), (∀ H', Same H H' → G H') → Walk J xs.length G (YPair (fun i => some (.int (i : Nat))) (fun i => xs[i]?)) → R J H) : iEnumQ K (tCons (tVar i) tNil) σ H R := by
  rcases hS with hS | hS
  · exact .inl ⟨_, hv, a, xs, rfl, hS, h _ _ (fun H' s => s.seq hS) walk_enum⟩
  · exact .inr ⟨_, hv, a, xs, rfl, hS, h _ _ (fun H' s => same_tup s hS) walk_enumT⟩
theorem cut_whole {xs : List V} {lo hi : Option Int} (h1 : HT.sIx xs.length 0 lo = 0) (h2 : HT.sIx xs.length xs.length hi = xs.length) : cutV xs lo hi = xs := by
  unfold cutV
  rw [h1, h2, List.drop_zero, Nat.sub_zero, List.take_length]
theorem slQ_of {K : PySem.W.Frag} {H : Hp} {Q : VK} {a : Addr} {xs : List V} {lo hi : Option Int} (hS : Sq K H a xs) (h : ∀ p H', Same H H' → Sq K H' p (cutV xs lo hi) → Q (.ref p) H') : rSlL K (.ref a) lo hi H Q ∨ rSlA K (.ref a) lo hi H Q := by
  rcases hS with hS | hS
  · exact .inl ⟨a, xs, rfl, hS, fun p hp => h p _ (fun b x e => by rw [upd_ne (ne_of_none e hp)]; exact e) (.inl (SqL.of upd_same))⟩
  · refine .inr ⟨a, xs, rfl, hS, fun c => h a H (Same.refl H) ?_, fun _ p hp => h p _ (fun b x e => by rw [upd_ne (ne_of_none e hp)]; exact e) (.inr (SqT.of upd_same))⟩
    rw [cut_whole c.1 c.2]
    exact .inr hS
theorem Sq.star {K : PySem.W.Frag} {H : Hp} {a : Addr} {xs : List V} (h : Sq K H a xs) : SqT K H a xs ∨ SqL K H a xs := h.elim .inr .inl
end Lx
namespace U
open PySem PySem.Spec PyProof.Rows
open L2 hiding Fun CX0 E0 pass0 Fun.binds
open C8 Lx SX StX
/-! texts -/
theorem W_ends (l p : List Bool) : Txt.endswith (W l) (W p) = p.isSuffixOf l := by
  unfold Txt.endswith
  rw [PySem.StrLaws.subAt_eq, W_len, W_len, W_tl, W_tl, ← List.map_drop, ← List.map_take, Bool.eq_iff_iff, List.isSuffixOf_iff_suffix, Bool.and_eq_true, decide_eq_true_eq, beq_iff_eq]
  constructor
  · rintro ⟨h1, h2⟩
    have h3 := map_bt_inj h2
    rw [List.take_of_length_le (by rw [List.length_drop]; omega)] at h3
    rw [← h3]
    exact List.drop_suffix _ _
  · intro h
    have hl := h.length_le
    refine ⟨by omega, ?_⟩
    rw [List.take_of_length_le (by rw [List.length_drop]; omega), ← List.suffix_iff_eq_drop.mp h]
theorem W_tail (l : List Bool) (n : Nat) : Txt.slice (W l) (some (if (((W l).length : Nat) : Int) - (n : Int) > 0 then (((W l).length : Nat) : Int) - (n : Int) else 0)) none = W (tl n l) := by
  rw [W_drop (by split <;> omega)]
  congr 1
  unfold tl
  rw [W_len]
  congr 1
  split <;> omega
/-! stuffs -/
def StV (H : Hp) (kb : Addr → Stf) (ps : List Addr) : Prop := ∀ t ∈ ps, H t = some (.tup [.str (W (kb t).1), .str (W [(kb t).2])])
theorem StV.same {H H' : Hp} {kb : Addr → Stf} {ps : List Addr} (h : StV H kb ps) (e : Same H H') : StV H' kb ps := fun t ht => e _ _ (h t ht)
theorem StV.nl {H H' : Hp} {kb : Addr → Stf} {ps : List Addr} (h : StV H kb ps) (e : NL H H') : StV H' kb ps := fun t ht => e.tup (h t ht)
theorem StV.perm {H : Hp} {kb : Addr → Stf} {ps qs : List Addr} (h : StV H kb ps) (p : qs.Perm ps) : StV H kb qs := fun t ht => h t (p.mem_iff.mp ht)
def ruF (f : List Bool) (t : Addr) : List (Str × V) := putF "stuffs" (.ref t) (putF "flag" (.str (W f)) [])
theorem fs_ne : ¬ (("flag" : Str) = "stuffs") := by decide +kernel
theorem ruF_flag (f : List Bool) (t : Addr) : (ruF f t).lookup ("flag" : Str) = some (.str (W f)) := by
  unfold ruF
  rw [lookup_putF, if_neg fs_ne, lookup_putF, if_pos rfl]
theorem ruF_stuffs (f : List Bool) (t : Addr) : (ruF f t).lookup ("stuffs" : Str) = some (.ref t) := by
  unfold ruF
  rw [lookup_putF, if_pos rfl]
theorem ruF_no (f : List Bool) (t : Addr) {m : Str} (h1 : ¬ m = "stuffs") (h2 : ¬ m = "flag") : (ruF f t).lookup m = none := by
  unfold ruF
  rw [lookup_putF, if_neg h1, lookup_putF, if_neg h2]
  all_goals rfl
def RuAt (C : Addr) (H : Hp) (a : Addr) (f : List Bool) (ss : List Stf) : Prop :=
  ∃ dx t ps kb, H a = some (.ins C dx (ruF f t)) ∧ H t = some (.tup (ps.map V.ref)) ∧ StV H kb ps ∧ ss = ps.map kb
theorem RuAt.same {C : Addr} {H H' : Hp} {a : Addr} {f : List Bool} {ss : List Stf} (h : RuAt C H a f ss) (e : Same H H') : RuAt C H' a f ss := by
  obtain ⟨dx, t, ps, kb, h1, h2, h3, h4⟩ := h
  exact ⟨dx, t, ps, kb, e _ _ h1, e _ _ h2, h3.same e, h4⟩
theorem RuAt.nl {C : Addr} {H H' : Hp} {a : Addr} {f : List Bool} {ss : List Stf} (h : RuAt C H a f ss) (e : NL H H') : RuAt C H' a f ss := by
  obtain ⟨dx, t, ps, kb, h1, h2, h3, h4⟩ := h
  exact ⟨dx, t, ps, kb, e.ins h1, e.tup h2, h3.nl e, h4⟩
def longM (ss : List Stf) : Nat := ss.foldr (fun s m => max s.1.length m) 0
theorem longM_le : ∀ {ss : List Stf} {s : Stf}, s ∈ ss → s.1.length ≤ longM ss
  | x :: r, s, h => by
    show s.1.length ≤ max x.1.length (longM r)
    rcases List.mem_cons.mp h with e | h
    · rw [e]; omega
    · have := longM_le h; omega
theorem longM_max : ∀ {ss : List Stf} {n : Nat}, (∀ s ∈ ss, s.1.length ≤ n) → longM ss ≤ n
  | [], _, _ => Nat.zero_le _
  | x :: r, n, h => by
    have := longM_max (ss := r) fun s hs => h s (List.mem_cons_of_mem _ hs)
    have := h x List.mem_cons_self
    show max x.1.length (longM r) ≤ n
    omega
theorem longM_perm {ss ts : List Stf} (p : ss.Perm ts) : longM ss = longM ts :=
  Nat.le_antisymm (longM_max fun s hs => longM_le (p.mem_iff.mp hs)) (longM_max fun s hs => longM_le (p.mem_iff.mpr hs))
theorem longM_is {ss : List Stf} {m : Int} (hm : m ∈ (0 : Int) :: ss.map fun s => (s.1.length : Int)) (hx : ∀ y ∈ (0 : Int) :: ss.map fun s => (s.1.length : Int), y ≤ m) : m = (longM ss : Nat) := by
  have h0 := hx 0 List.mem_cons_self
  have h1 : longM ss ≤ m.toNat := longM_max fun s hs => by
    have := hx _ (List.mem_cons_of_mem _ (List.mem_map_of_mem (f := fun s : Stf => (s.1.length : Int)) hs))
    omega
  rcases List.mem_cons.mp hm with e | h
  · omega
  · obtain ⟨s, hs, rfl⟩ := List.mem_map.mp h
    have := longM_le hs
    omega
def oB : Option Bool → V
  | none => .non
  | some b => .str (W [b])
theorem oB_non (o : Option Bool) : decide (oB o = .non) = o.isNone := by
  cases o with
  | none => exact decide_eq_true rfl
  | some b => exact decide_eq_false (fun z => by cases z)
/-- the class as the top leaves it -/
structure RuT (K : PySem.W.Frag) (C : Addr) : Prop where
  cl : Cls K C
  nF : NoAttr K C "flag"
  nS : NoAttr K C "stuffs"
def spIsSeq (K : PySem.W.Frag) : Sp := fun vs H Q _ => ∃ a xs, vs = [.ref a] ∧ Sq K H a xs ∧ ∀ H', Same H H' → Q (.bl true) H'
def spIsBit : Sp := fun vs H Q _ => ∃ b, vs = [.str (W [b])] ∧ ∀ H', Same H H' → Q (.bl true) H'
def spIsStuff : Sp := fun vs H Q _ => ∃ (t : Addr) (p : List Bool) (b : Bool), vs = [.ref t] ∧ H t = some (.tup [.str (W p), .str (W [b])]) ∧ p ≠ [] ∧ p.length ≤ 1000 ∧ ∀ H', Same H H' → Q (.bl true) H'
def spTail : Sp := fun vs H Q _ => ∃ (l : List Bool) (n : Nat), vs = [.str (W l), .int n] ∧ l.length ≤ 100000 ∧ Q (.str (W (tl n l))) H
def spLongest (C : Addr) : Sp := fun vs H Q _ => ∃ (a : Addr) (f : List Bool) (ss : List Stf), vs = [.ref a] ∧ RuAt C H a f ss ∧ ss.length ≤ 1000 ∧ (∀ s ∈ ss, s.1.length ≤ 1000) ∧ ∀ H', Same H H' → Q (.int (longM ss : Nat)) H'
def spPut (C : Addr) : Sp := fun vs H Q _ => ∃ (a : Addr) (f : List Bool) (ss : List Stf) (l : List Bool), vs = [.ref a, .str (W l)] ∧ RuAt C H a f ss ∧ ∀ H', Same H H' → Q (oB (putM ss l)) H'
section
variable {P : Program} {w : World} {K : PySem.W.Frag} {mg : Str → Option Value} {base : Heap}
theorem sc_is_sequence : FnScope ["value"] ["value"] (fnScope s_is_sequence) := fnScope_by (by decide +kernel)
theorem cal_is_sequence {f : Addr} {fd : FuncData} (F : Def K mg "is_sequence" s_is_sequence f fd) (b : Binds K fd ["value"] []) (T : Tx mg) : Cal P w K mg base 1 "is_sequence" (spIsSeq K) [] := by
  refine cal0 F b .nil sc_is_sequence (fun vs H Q E h => ?_) (fun cdv A outer s H vs Q E hr h => ?_)
  · obtain ⟨_, _, rfl, _⟩ := h; rfl
  · obtain ⟨a, xs, rfl, hS, k⟩ := h
    refine ⟨_, (pss_one (ps_ret (pe_callB call_isiT (by rfl) T.b_isinstance (by decide +kernel) (pa_cons (pv 0) (pa_cons (pe_tup (pa_cons (pe_bltn (v := .ty "list") (u := .type "list") (by rfl) T.b_list (by decide +kernel) rfl) (pa_cons (pe_bltn (v := .ty "tuple") (u := .type "tuple") (by rfl) T.b_tuple (by decide +kernel) rfl) pa_nil))) pa_nil))))), ?_⟩
    refine ⟨_, rfl, by show 2 ≤ sizeLine; decide, fun tp htp => ?_⟩
    have hS' := hS.same (same_upd (o := .tup [.ty "list", .ty "tuple"]) htp)
    rcases hS' with hS' | hS'
    · exact ⟨_, tp, _, _, _, true, rfl, upd_same, .cons (.ty _) (.cons (.ty _) .nil), ty_list hS', by first | exact kit_any (by decide +kernel) | rfl | decide +kernel, k _ (same_upd htp)⟩
    · exact ⟨_, tp, _, _, _, true, rfl, upd_same, .cons (.ty _) (.cons (.ty _) .nil), ty_tup hS', by first | exact kit_any (by decide +kernel) | rfl | decide +kernel, k _ (same_upd htp)⟩
theorem sc_is_bit : FnScope ["value"] ["value"] (fnScope s_is_bit) := fnScope_by (by decide +kernel)
theorem cal_is_bit {f : Addr} {fd : FuncData} (F : Def K mg "is_bit" s_is_bit f fd) (b : Binds K fd ["value"] []) (T : Tx mg) (c_is_word : Cal P w K mg base 1 "is_word" (spIsWord K) []) : Cal P w K mg base 2 "is_bit" spIsBit [] := by
  refine cal0 F b .nil sc_is_bit (fun vs H Q E h => ?_) (fun cdv A outer s H vs Q E hr h => ?_)
  · obtain ⟨_, rfl, _⟩ := h; rfl
  · obtain ⟨x, rfl, k⟩ := h
    refine ⟨_, (pss_one (ps_ret (pe_and (pe_c c_is_word hr (by decide) rfl (pa_cons (pv 0) pa_nil)) (pe_one (pe_cmpR op_eq (pe_callB call_len_str (by rfl) T.b_len (by decide +kernel) (pa_cons (pv 0) pa_nil)) pe_int (nomark _)))))), ?_⟩
    have l1 : (W [x]).length = 1 := W_len _
    refine ⟨_, rfl, _, rfl, .inl ⟨_, rfl, by rw [l1]; decide, fun H1 s1 => ⟨_, rfl, iteBT (isW_W _) ?_⟩⟩⟩
    refine ⟨_, rfl, _, rfl, by rw [l1]; decide, ?_⟩
    rw [l1]
    exact ⟨rfl, q_dec (Q := Q) rfl (k H1 s1)⟩
theorem sc_is_stuff : FnScope ["value"] ["value"] (fnScope s_is_stuff) := fnScope_by (by decide +kernel)
theorem cal_is_stuff {f : Addr} {fd : FuncData} (F : Def K mg "is_stuff" s_is_stuff f fd) (b : Binds K fd ["value"] []) (T : Tx mg) (c_is_word : Cal P w K mg base 1 "is_word" (spIsWord K) []) (c_is_bit : Cal P w K mg base 2 "is_bit" spIsBit []) : Cal P w K mg base 3 "is_stuff" spIsStuff [] := by
  refine cal0 F b .nil sc_is_stuff (fun vs H Q E h => ?_) (fun cdv A outer s H vs Q E hr h => ?_)
  · obtain ⟨_, _, _, rfl, _⟩ := h; rfl
  · obtain ⟨t, p, x, rfl, ht, hp, hl, k⟩ := h
    refine ⟨_, (pss_cons (ps_if (PW.pt (pw_or (pt_not (pt_val (pe_callB call_isi (by rfl) T.b_isinstance (by decide +kernel) (pa_cons (pv 0) (pa_cons (pe_bltn (v := .ty "tuple") (u := .type "tuple") (by rfl) T.b_tuple (by decide +kernel) rfl) pa_nil))))) (pw_or1 (pt_cmpR op_ne (pe_callB call_len_seq (by rfl) T.b_len (by decide +kernel) (pa_cons (pv 0) pa_nil)) pe_int (nomark _))))) (pss_one (ps_ret pe_bl)) pss_nil)
    (pss_one (ps_ret (pe_and (pe_c c_is_word hr (by decide) rfl (pa_cons (pe_ix ix_tup (pv 0) pe_int (fun _ _ => rfl)) pa_nil)) (pe_and (pe_cmpR op_gt (pe_callB call_len_str (by rfl) T.b_len (by decide +kernel) (pa_cons (pe_ix ix_tup (pv 0) pe_int (fun _ _ => rfl)) pa_nil)) pe_int (nomark _)) (pe_one (pe_c c_is_bit hr (by decide) rfl (pa_cons (pe_ix ix_tup (pv 0) pe_int (fun _ _ => rfl)) pa_nil)))))))), ?_⟩
    have lp : (W p).length ≤ sizeLine := by rw [W_len]; exact sl_len (by omega)
    refine ⟨_, rfl, _, _, _, _, true, rfl, .ty _, .base (.tup ht), kit_ty (by decide +kernel), _, rfl, ?_⟩
    refine ⟨_, rfl, t, _, rfl, .inr (SqT.of ht), rfl, _, rfl, iteNS rfl ?_⟩
    refine ⟨_, rfl, t, _, 0, _, rfl, rfl, SqT.of ht, rfl, _, rfl, .inl ⟨_, rfl, by rw [W_len]; omega, fun H1 s1 => ⟨_, rfl, iteBT (isW_W _) ?_⟩⟩⟩
    have ht1 := s1 _ _ ht
    refine ⟨_, rfl, t, _, 0, _, rfl, rfl, SqT.of ht1, rfl, _, rfl, lp, ?_⟩
    refine ⟨_, _, rfl, rfl, _, rfl, iteDT ?_ ?_⟩
    · rw [W_len]
      have : p.length ≠ 0 := fun z => hp (List.length_eq_zero_iff.mp z)
      omega
    · refine ⟨_, rfl, t, _, 1, _, rfl, rfl, SqT.of ht1, rfl, x, rfl, fun H2 s2 => k H2 (s1.trans s2)⟩
theorem sc_tail : FnScope ["line", "size"] ["line", "size"] (fnScope s_tail) := fnScope_by (by decide +kernel)
theorem cal_tail {f : Addr} {fd : FuncData} (F : Def K mg "tail" s_tail f fd) (b : Binds K fd ["line", "size"] []) (T : Tx mg) : Cal P w K mg base 1 "tail" spTail [] := by
  refine cal0 F b .nil sc_tail (fun vs H Q E h => ?_) (fun cdv A outer s H vs Q E hr h => ?_)
  · obtain ⟨_, _, rfl, _⟩ := h; rfl
  · obtain ⟨l, n, rfl, hl, k⟩ := h
    refine ⟨_, (pss_one (ps_ret (pe_slice sl_txt (pv 0) (po_some (pe_callB (call_max2 rfl) (by rfl) T.b_max (by decide +kernel) (pa_cons pe_int (pa_cons (pe_op op_sub (pe_callB call_len_str (by rfl) T.b_len (by decide +kernel) (pa_cons (pv 0) pa_nil)) (pv 1)) pa_nil)))) po_none))), ?_⟩
    have lw : (W l).length ≤ sizeLine := by rw [W_len]; exact sl_len (by omega)
    refine ⟨_, rfl, _, rfl, _, rfl, lw, _, rfl, _, _, rfl, rfl, _, _, rfl, _, rfl, _, rfl, lw, ?_⟩
    rw [W_tail]
    exact k
theorem sc_Rule_longest : FnScope ["self", "pattern", "bit"] ["self"] (fnScope s_Rule_longest) := fnScope_by (by decide +kernel)
theorem ok_longest {f C : Addr} {fd : FuncData} (F : C8.Fun K "longest" "Rule.longest" s_Rule_longest f fd) (T : Tx mg) (RT : RuT K C) : FnOk P w K mg base CX0 1 f fd ["self"] (spLongest C) := by
  refine fn0 F sc_Rule_longest (fun vs H Q E h => ?_) (fun cdv A outer s H vs Q E hr h => ?_)
  · obtain ⟨_, _, _, rfl, _⟩ := h; rfl
  · obtain ⟨a, fl, ss, rfl, ⟨dx, t, ps, kb, ha, ht, hs, rfl⟩, hn, hl, k⟩ := h
    refine ⟨_, (pss_one (ps_ret (pe_callB (cr_max rfl) (by rfl) T.b_max (by decide +kernel) (pa_cons (pe_lst (pa_cons pe_int (pa_star (pe_lc (own := [("pattern", 1), ("bit", 2)]) (g := gTup K 2 (gCons (gName 1) (gCons (gName 2) gNil))) (by rfl) sc_Rule_longest.nd (pi_tup (pe_fld (pv 0) rfl)) (blkOk_by (own := [("pattern", 1), ("bit", 2)]) (N := ["self", "pattern", "bit"]) (sc := fnScope s_Rule_longest) (by decide +kernel)) (fun _ _ _ _ _ => (pg_tup rfl (pgs_cons (pg_name (i := 1) sc_Rule_longest.nd rfl (.inl rfl)) (pgs_cons (pg_name (i := 2) sc_Rule_longest.nd rfl (.inl rfl)) pgs_nil)))) (fun _ _ _ _ _ => pts_nil) (fun _ _ _ _ _ => (pe_callB call_len_str (by rfl) T.b_len (by decide +kernel) (pa_cons (pv 1) pa_nil)))) pa_nil))) pa_nil)))), ?_⟩
    refine ⟨_, rfl, a, C, dx, _, _, rfl, ha, RT.cl, RT.nS, ruF_stuffs _ _, t, rfl, ⟨_, SqT.of ht⟩, fun D nD => ?_⟩
    refine lc_it (walk_tup (xs := ps.map V.ref)) (fun i H2 => Same H H2 ∧ H2 D = some (.lst ((((ps.take i).map kb).map fun s => (s.1.length : Int)).map V.int))) ⟨same_upd nD, upd_same⟩ (fun i H2 _ h2 => SqT.of (h2.1 _ _ ht)) ?_ ?_
    · rintro i x H2 H3 hi ⟨s2, hD⟩ ⟨rfl, hx⟩
      rw [List.getElem?_map] at hx
      obtain ⟨q, hq, rfl⟩ := Option.map_eq_some_iff.mp hx
      have hqm : q ∈ ps := List.mem_of_getElem? hq
      have lq : (kb q).1.length ≤ 1000 := hl _ (List.mem_map_of_mem hqm)
      refine ⟨q, _, rfl, SqT.of (s2 _ _ (hs q hqm)), rfl, ?_⟩
      refine ⟨_, _, rfl, _, _, rfl, rfl, rfl, ?_⟩
      refine ⟨_, rfl, _, rfl, by rw [W_len]; exact sl_len (by omega), _, hD, ?_, ?_, ?_⟩
      · rw [List.length_map] at hi
        rw [List.length_map, List.length_map, List.length_map, List.length_take]
        rw [List.length_map] at hn
        exact sl_lt (by omega)
      · intro c' o e
        rw [upd_ne (ne_of_none e nD)]
        exact s2 _ _ e
      · rw [upd_same, List.take_add_one, hq, W_len]
        simp
    · rintro H2 ⟨s2, hD⟩
      rw [List.length_map, List.take_length] at hD
      refine ⟨D, _, rfl, .inr (SqL.of hD), ?_⟩
      have hn' : ps.length ≤ 1000 := by rw [List.length_map] at hn; exact hn
      refine ⟨?_, fun p hp => ?_⟩
      · simp only [List.length_cons, List.length_append, List.length_map, List.length_nil]
        exact sl_len (by omega)
      · refine ⟨p, (0 : Int) :: (ps.map kb).map fun s => (s.1.length : Int), rfl, ?_, by rw [List.length_cons]; omega, fun m hm hx => ?_⟩
        · refine SqL.of (upd_same.trans ?_)
          simp
        · rw [longM_is hm hx]
          exact k _ (s2.trans (same_upd hp))
theorem sc_Rule_put : FnScope ["self", "line", "pattern", "bit"] ["self", "line"] (fnScope s_Rule_put) := fnScope_by (by decide +kernel)
theorem met_put {f C : Addr} {fd : FuncData} (F : C8.Fun K "put" "Rule.put" s_Rule_put f fd) (me : Meth K C "put" f) (b : Binds K fd ["self", "line"] []) (T : Tx mg) (RT : RuT K C) : Met P w K mg base 1 C "put" (spPut C) [] := by
  refine met0 RT.cl me F b sc_Rule_put (fun vs H Q E h => ?_) (fun cdv A outer s H vs Q E hr h => ?_)
  · obtain ⟨_, _, _, _, rfl, _⟩ := h; rfl
  · obtain ⟨a, fl, ss, l, rfl, ⟨dx, t, ps, kb, ha, ht, hs, rfl⟩, k⟩ := h
    refine ⟨_, (pss_cons (ps_for PassesOwn.never rfl (pi_tup (pe_fld (pv 0) rfl)) (pg_tup rfl (pgs_cons (pg_name (i := 2) sc_Rule_put.nd rfl (.inl rfl)) (pgs_cons (pg_name (i := 3) sc_Rule_put.nd rfl (.inl rfl)) pgs_nil)))
    (pss_one (ps_if (pt_val (pe_m1 PySem.F.slot_str_endswith PySem.F.type_str_endswith mt_endswith (pv 1) (pv 2))) (pss_one (ps_ret (pv 3))) pss_nil)))
    (pss_one (ps_ret pe_non))), ?_⟩
    refine ⟨_, rfl, a, C, dx, _, _, rfl, ha, RT.cl, RT.nS, ruF_stuffs _ _, t, rfl, ⟨_, SqT.of ht⟩, ?_⟩
    refine for_it (walk_tup (xs := ps.map V.ref)) (fun i σ H2 => ∃ v2 v3 : Option V, σ = [some (.ref a), some (.str (W l)), v2, v3] ∧ H2 = H ∧ ∀ j q, j < i → ps[j]? = some q → (kb q).1.isSuffixOf l = false) ⟨none, none, rfl, rfl, fun j q hj => absurd hj (Nat.not_lt_zero _)⟩ (fun i σ H2 _ h2 => by obtain ⟨_, _, _, rfl, _⟩ := h2; exact SqT.of ht) ?_ ?_
    · rintro i x σ H2 H3 hi ⟨v2, v3, rfl, rfl, hno⟩ ⟨rfl, hx⟩
      rw [List.getElem?_map] at hx
      obtain ⟨q, hq, rfl⟩ := Option.map_eq_some_iff.mp hx
      have hqm : q ∈ ps := List.mem_of_getElem? hq
      refine ⟨q, _, rfl, SqT.of (hs q hqm), rfl, ?_⟩
      refine ⟨_, _, rfl, _, _, rfl, rfl, ?_⟩
      refine ⟨_, rfl, ⟨_, rfl⟩, _, rfl, _, _, rfl, rfl, _, rfl, ?_⟩
      rw [W_ends]
      cases e : (kb q).1.isSuffixOf l with
      | true =>
        refine ⟨_, rfl, ?_⟩
        have ep : putM (ps.map kb) l = some (kb q).2 := by
          have hf : (ps.map kb).find? (fun s => s.1.isSuffixOf l) = some (kb q) := by
            rw [List.find?_eq_some_iff_getElem]
            have hi' := (List.getElem?_eq_some_iff.mp hq)
            obtain ⟨hi1, hi2⟩ := hi'
            refine ⟨e, i, by rw [List.length_map]; exact hi1, by rw [List.getElem_map, hi2], fun j hj => ?_⟩
            rw [List.getElem_map]
            have := hno j ps[j] hj (List.getElem?_eq_getElem _)
            rw [this]
            rfl
          unfold putM
          rw [hf]
          rfl
        have := k _ (Same.refl _)
        rw [ep] at this
        exact this
      | false =>
        refine ⟨_, _, rfl, rfl, fun j q' hj hq' => ?_⟩
        by_cases ej : j = i
        · subst ej
          rw [hq] at hq'
          cases hq'
          exact e
        · exact hno j q' (by omega) hq'
    · rintro σ H2 ⟨v2, v3, rfl, rfl, hno⟩
      have ep : putM (ps.map kb) l = none := by
        have hf : (ps.map kb).find? (fun s => s.1.isSuffixOf l) = none := by
          rw [List.find?_eq_none]
          intro s hs'
          obtain ⟨q, hq, rfl⟩ := List.mem_map.mp hs'
          obtain ⟨j, hj⟩ := List.getElem?_of_mem hq
          have := hno j q (by rw [List.length_map]; exact (List.getElem?_eq_some_iff.mp hj).1) hj
          rw [this]
          decide
        unfold putM
        rw [hf]
        rfl
      have := k _ (Same.refl _)
      rw [ep] at this
      exact this
end
end U

set_option maxRecDepth 100000
set_option maxHeartbeats 4000000
namespace U
open PySem PySem.Spec PyProof.Rows
open L2 hiding Fun CX0 E0 pass0 Fun.binds
open C8 Lx SX StX
theorem sf_at {ps : List Addr} {kb : Addr → Stf} {i : Nat} {q : Addr} (h : SufFree (ps.map kb)) (hq : ps[i]? = some q) : ∀ q' ∈ ps.take i ++ ps.drop (i + 1), ¬ (kb q').1 <:+ (kb q).1 := by
  obtain ⟨hi, rfl⟩ := List.getElem?_eq_some_iff.mp hq
  have e : ps = ps.take i ++ ps[i] :: ps.drop (i + 1) := by rw [← List.drop_eq_getElem_cons hi, List.take_append_drop]
  unfold SufFree at h
  rw [List.pairwise_map] at h
  generalize ps.take i = A at e ⊢
  generalize ps.drop (i + 1) = B at e ⊢
  generalize ps[i] = q at e ⊢
  rw [e, List.pairwise_append, List.pairwise_cons] at h
  obtain ⟨_, ⟨h2, _⟩, h3⟩ := h
  intro q' hq'
  rcases List.mem_append.mp hq' with m | m
  · exact (h3 q' m q List.mem_cons_self).1
  · exact (h2 q' m).2
theorem cut_to {xs : List V} {i : Nat} (h : i < xs.length) : cutV xs none (some (i : Int)) = xs.take i := by
  unfold cutV
  rw [HT.sIx_none, HT.sIx_nat, List.drop_zero, Nat.sub_zero, Nat.min_eq_left (Nat.le_of_lt h)]
theorem cut_from {xs : List V} {i : Nat} (h : i < xs.length) : cutV xs (some ((i : Int) + 1)) none = xs.drop (i + 1) := by
  unfold cutV
  rw [HT.sIx_none, show ((i : Int) + 1) = ((i + 1 : Nat) : Int) by omega, HT.sIx_nat, Nat.min_eq_left (by omega), List.take_of_length_le (by rw [List.length_drop]; omega)]
/-- stuffs that make a rule -/
structure StOk (ss : List Stf) : Prop where
  few : ss.length ≤ 1000
  pos : ∀ s ∈ ss, s.1 ≠ []
  long : longM ss ≤ 9
  free : SufFree ss
theorem StOk.l9 {ss : List Stf} (h : StOk ss) : ∀ s ∈ ss, s.1.length ≤ 9 := fun s hs => Nat.le_trans (longM_le hs) h.long
theorem StOk.perm {ss ts : List Stf} (h : StOk ss) (p : ss.Perm ts) : StOk ts := ⟨by rw [← p.length_eq]; exact h.few, fun s hs => h.pos s (p.mem_iff.mpr hs), by rw [← longM_perm p]; exact h.long, h.free.perm p⟩
def spAre (K : PySem.W.Frag) : Sp := fun vs H Q _ => ∃ (a : Addr) (ps : List Addr) (kb : Addr → Stf), vs = [.ref a] ∧ Sq K H a (ps.map V.ref) ∧ StV H kb ps ∧ StOk (ps.map kb) ∧ ∀ H', Same H H' → Q (.bl true) H'
def spPutIn (C : Addr) : Sp := fun vs H Q _ => ∃ (a : Addr) (f : List Bool) (ss : List Stf) (l x : List Bool), vs = [.ref a, .str (W l)] ∧ RuAt C H a f ss ∧ ss.length ≤ 1000 ∧ longM ss ≤ 9 ∧ l.length ≤ 50000 ∧ Ins ss l x ∧ ∀ H', Same H H' → Q (.str (W x)) H'
def spEndless (C : Addr) : Sp := fun vs H Q _ => ∃ (a : Addr) (f : List Bool) (ss : List Stf), vs = [.ref a] ∧ RuAt C H a f ss ∧ ss.length ≤ 1000 ∧ longM ss ≤ 9 ∧ OkR ss ∧ ∀ H', Same H H' → Q (.bl false) H'
def kst (ws : List (List Bool)) : List (Key × V) := ws.map fun w => (Sum.inr (W w), V.bl true)
theorem val_in {ws : List (List Bool)} {w : List Bool} (h : w ∈ ws) : valV (kst ws) (Sum.inr (W w)) = some (.bl true) := by
  unfold valV kst
  induction ws with
  | nil => cases h
  | cons x r ih =>
    rw [List.map_cons, List.find?_cons]
    by_cases e : x = w
    · rw [e, decide_eq_true rfl]; rfl
    · rw [decide_eq_false (fun z => e (W_inj (Sum.inr.inj z)))]
      rcases List.mem_cons.mp h with z | h
      · exact absurd z.symm e
      · exact ih h
theorem val_out {ws : List (List Bool)} {w : List Bool} (h : ¬ w ∈ ws) : valV (kst ws) (Sum.inr (W w)) = none := by
  unfold valV kst
  have : (ws.map fun w => ((Sum.inr (W w) : Key), V.bl true)).find? (fun kv => decide (kv.1 = Sum.inr (W w))) = none := by
    rw [List.find?_eq_none]
    intro kv hk
    obtain ⟨x, hx, rfl⟩ := List.mem_map.mp hk
    rw [decide_eq_true_eq]
    intro z
    exact h (W_inj (Sum.inr.inj z) ▸ hx)
  rw [this]
  rfl
theorem put_out {ws : List (List Bool)} {w : List Bool} (h : ¬ w ∈ ws) : putK (kst ws) (Sum.inr (W w)) (.bl true) = kst (ws ++ [w]) := by
  have e : ((kst ws).any fun kv => decide (kv.1 = Sum.inr (W w))) = false := by
    rw [List.any_eq_false]
    intro kv hk
    unfold kst at hk
    obtain ⟨x, hx, rfl⟩ := List.mem_map.mp hk
    rw [decide_eq_true_eq]
    intro z
    exact h (W_inj (Sum.inr.inj z) ▸ hx)
  unfold putK
  rw [e]
  unfold kst
  rw [List.map_append]
  rfl
section
variable {P : Program} {w : World} {K : PySem.W.Frag} {mg : Str → Option Value} {base : Heap}
theorem sc_are_stuffs : FnScope ["value", "one", "at", "stuff", "rest", "pattern", "bit"] ["value"] (fnScope s_are_stuffs) := fnScope_by (by decide +kernel)
theorem cal_are_stuffs {f : Addr} {fd : FuncData} (F : Def K mg "are_stuffs" s_are_stuffs f fd) (b : Binds K fd ["value"] []) (T : Tx mg) (c_is_sequence : Cal P w K mg base 1 "is_sequence" (spIsSeq K) []) (c_is_stuff : Cal P w K mg base 3 "is_stuff" spIsStuff []) : Cal P w K mg base 4 "are_stuffs" (spAre K) [] := by
  refine cal0 F b .nil sc_are_stuffs (fun vs H Q E h => ?_) (fun cdv A outer s H vs Q E hr h => ?_)
  · obtain ⟨_, _, _, rfl, _⟩ := h; rfl
  · obtain ⟨a, ps, kb, rfl, hS, hs, ok, k⟩ := h
    refine ⟨_, (pss_cons (ps_if (PW.pt (pw_or (pt_not (pt_val (pe_c c_is_sequence hr (by decide) rfl (pa_cons (pv 0) pa_nil)))) (pw_or1 (pt_not (pt_val (pe_callB (cr_all rfl) (by rfl) T.b_all (by decide +kernel) (pa_cons (pe_lc (own := [("one", 1)]) (g := gName 1) (by rfl) sc_are_stuffs.nd (pi_seq (pv 0)) (blkOk_by (own := [("one", 1)]) (N := ["value", "one", "at", "stuff", "rest", "pattern", "bit"]) (sc := fnScope s_are_stuffs) (by decide +kernel)) (fun _ _ _ _ _ => (pg_name (i := 1) sc_are_stuffs.nd rfl (.inl rfl))) (fun _ _ _ _ _ => pts_nil) (fun _ _ _ _ _ => (pe_c c_is_stuff hr (by decide) rfl (pa_cons (pv 1) pa_nil)))) pa_nil))))))) (pss_one (ps_ret pe_bl)) pss_nil)
    (pss_cons (ps_for PassesOwn.never rfl (pi_enumQ (by rfl) T.b_enumerate (pa_cons (pv 0) pa_nil)) (pg_tup rfl (pgs_cons (pg_name (i := 2) sc_are_stuffs.nd rfl (.inl rfl)) (pgs_cons (pg_name (i := 3) sc_are_stuffs.nd rfl (.inr rfl)) pgs_nil)))
    (pss_cons (ps_set (i := 4) sc_are_stuffs.nd rfl (.inl rfl) (pe_lst (pa_star (pe_slice (SlR.or sl_list sl_tupA) (pv 0) po_none (po_some (pv 2))) (pa_star (pe_slice (SlR.or sl_list sl_tupA) (pv 0) (po_some (pe_op op_add (pv 2) pe_int)) po_none) pa_nil))))
    (pss_one (ps_if (pt_val (pe_callB (cr_any rfl) (by rfl) T.b_any (by decide +kernel) (pa_cons (pe_lc (own := [("pattern", 5), ("bit", 6)]) (g := gTup K 2 (gCons (gName 5) (gCons (gName 6) gNil))) (by rfl) sc_are_stuffs.nd (pi_list (pv 4)) (blkOk_by (own := [("pattern", 5), ("bit", 6)]) (N := ["value", "one", "at", "stuff", "rest", "pattern", "bit"]) (sc := fnScope s_are_stuffs) (by decide +kernel)) (fun _ _ _ _ _ => (pg_tup rfl (pgs_cons (pg_name (i := 5) sc_are_stuffs.nd rfl (.inl rfl)) (pgs_cons (pg_name (i := 6) sc_are_stuffs.nd rfl (.inl rfl)) pgs_nil)))) (fun _ _ _ _ _ => pts_nil) (fun _ _ _ _ _ => (pe_m1 PySem.F.slot_str_endswith PySem.F.type_str_endswith mt_endswith (pe_ix (show IxR _ (rIxT K) from ix_tup) (pv 3) pe_int (fun _ _ => rfl)) (pv 5)))) pa_nil))) (pss_one (ps_ret pe_bl)) pss_nil))))
    (pss_one (ps_ret pe_bl)))), ?_⟩
    have hn : ps.length ≤ 1000 := by have := ok.few; rw [List.length_map] at this; exact this
    refine ⟨_, rfl, a, _, rfl, hS, fun H1 s1 => ⟨_, rfl, ?_⟩⟩
    have hS1 := hS.same s1
    refine iSeq_var rfl hS1 fun J G hG wk D nD => ?_
    refine lc_it wk (fun i H2 => Same H1 H2 ∧ H2 D = some (.lst ((List.replicate i true).map V.bl))) ⟨same_upd nD, upd_same⟩ (fun i H2 _ h2 => hG _ h2.1) ?_ ?_
    · rintro i x H2 H3 hi ⟨s2, hD⟩ ⟨rfl, hx⟩
      rw [List.getElem?_map] at hx
      obtain ⟨q, hq, rfl⟩ := Option.map_eq_some_iff.mp hx
      have hqm : q ∈ ps := List.mem_of_getElem? hq
      have mk : kb q ∈ ps.map kb := List.mem_map_of_mem hqm
      rw [List.length_map] at hi
      refine ⟨rfl, ?_⟩
      refine ⟨_, rfl, q, (kb q).1, (kb q).2, rfl, (s1.trans s2) _ _ (hs q hqm), ok.pos _ mk, Nat.le_trans (ok.l9 _ mk) (by decide), fun H4 s4 => ⟨_, s4 _ _ hD, ?_, ?_, ?_⟩⟩
      · rw [List.length_map, List.length_replicate]; exact sl_lt (by omega)
      · intro c' o e
        rw [upd_ne (ne_of_none e nD)]
        exact (s2.trans s4) _ _ e
      · rw [upd_same, List.replicate_succ', List.map_append]; rfl
    · rintro H2 ⟨s2, hD⟩
      refine ⟨D, _, rfl, SqL.of hD, _, rfl, ?_⟩
      have et : (List.replicate (ps.map V.ref).length true).all id = true := by simp
      rw [et]
      have hS2 := hS1.same s2
      have s02 := s1.trans s2
      refine iEnumQ_var rfl hS2 fun J G hG wk => ?_
      refine for_it wk (fun i σ H3 => ∃ v1 v2 v3 v4 v5 v6 : Option V, σ = [some (.ref a), v1, v2, v3, v4, v5, v6] ∧ Same H2 H3) ⟨none, none, none, none, none, none, rfl, Same.refl _⟩ (fun i σ H3 _ h3 => by obtain ⟨_, _, _, _, _, _, _, s3⟩ := h3; exact hG _ s3) ?_ ?_
      · rintro i x σ H3 H4 hi ⟨v1, v2, v3, v4, v5, v6, rfl, s3⟩ ⟨T', y1, y2, rfl, nT, rfl, h1, h2⟩
        cases h1
        replace h2 : (ps.map V.ref)[i]? = some y2 := h2
        rw [List.getElem?_map] at h2
        obtain ⟨q, hq, rfl⟩ := Option.map_eq_some_iff.mp h2
        have hqm : q ∈ ps := List.mem_of_getElem? hq
        refine ⟨T', _, rfl, SqT.of upd_same, rfl, _, _, rfl, _, _, rfl, rfl, ?_⟩
        have s4 : Same H2 (upd H3 T' (.tup [.int (i : Nat), .ref q])) := s3.trans (same_upd nT)
        generalize upd H3 T' (.tup [.int (i : Nat), .ref q]) = H4 at s4
        have hS4 := hS2.same s4
        refine ⟨_, rfl, _, rfl, _, rfl, slQ_of hS4 fun p1 H5 s5 h5 => ⟨p1, _, rfl, h5.star, ?_⟩⟩
        refine ⟨_, rfl, _, rfl, _, _, rfl, rfl, _, rfl, slQ_of (hS4.same s5) fun p2 H6 s6 h6 => ⟨p2, _, rfl, h6.star, ?_⟩⟩
        have el : cutV (ps.map V.ref) none (some ((i : Nat) : Int)) ++ (cutV (ps.map V.ref) (some (((i : Nat) : Int) + 1)) none ++ []) = (ps.take i ++ ps.drop (i + 1)).map V.ref := by
          rw [cut_to hi, cut_from hi, List.append_nil, List.map_append, List.map_take, List.map_drop]
        refine ⟨?_, fun R nR => ?_⟩
        · show (cutV (ps.map V.ref) none (some ((i : Nat) : Int)) ++ (cutV (ps.map V.ref) (some (((i : Nat) : Int) + 1)) none ++ [])).length ≤ sizeLine
          rw [el, List.length_map, List.length_append, List.length_take, List.length_drop]
          exact sl_len (by omega)
        · have hR : upd H6 R (.lst (cutV (ps.map V.ref) none (some ((i : Nat) : Int)) ++ (cutV (ps.map V.ref) (some (((i : Nat) : Int) + 1)) none ++ []))) R = some (.lst ((ps.take i ++ ps.drop (i + 1)).map V.ref)) := by rw [upd_same, el]
          have s7 : Same H2 (upd H6 R (.lst (cutV (ps.map V.ref) none (some ((i : Nat) : Int)) ++ (cutV (ps.map V.ref) (some (((i : Nat) : Int) + 1)) none ++ [])))) := ((s4.trans s5).trans s6).trans (same_upd nR)
          show gName 4 _ _ (upd H6 R (.lst (cutV (ps.map V.ref) none (some ((i : Nat) : Int)) ++ (cutV (ps.map V.ref) (some (((i : Nat) : Int) + 1)) none ++ [])))) _
          generalize upd H6 R (.lst (cutV (ps.map V.ref) none (some ((i : Nat) : Int)) ++ (cutV (ps.map V.ref) (some (((i : Nat) : Int) + 1)) none ++ []))) = H7 at hR s7 ⊢
          refine ⟨_, rfl, R, rfl, ⟨_, SqL.of hR⟩, fun D2 nD2 => ?_⟩
          have ne := sf_at ok.free hq
          have hlen : (ps.take i ++ ps.drop (i + 1)).length ≤ 1000 := by
            rw [List.length_append, List.length_take, List.length_drop]; omega
          have hsub : ∀ q' ∈ ps.take i ++ ps.drop (i + 1), q' ∈ ps := fun q' hq' => by
            rcases List.mem_append.mp hq' with m | m
            · exact List.mem_of_mem_take m
            · exact List.mem_of_mem_drop m
          generalize ps.take i ++ ps.drop (i + 1) = rs at hR ne hlen hsub
          refine lc_it (walk_list (xs := rs.map V.ref)) (fun j H8 => Same H7 H8 ∧ H8 D2 = some (.lst ((List.replicate j false).map V.bl))) ⟨same_upd nD2, upd_same⟩ (fun j H8 _ h8 => h8.1.seq (SqL.of hR)) ?_ ?_
          · rintro j x H8 H9 hj ⟨s8, hD2⟩ ⟨rfl, hx⟩
            rw [List.getElem?_map] at hx
            obtain ⟨q', hq', rfl⟩ := Option.map_eq_some_iff.mp hx
            have hm' : q' ∈ rs := List.mem_of_getElem? hq'
            rw [List.length_map] at hj
            have s28 := s02.trans (s7.trans s8)
            refine ⟨q', _, rfl, SqT.of (s28 _ _ (hs q' (hsub _ hm'))), rfl, _, _, rfl, _, _, rfl, rfl, rfl, ?_⟩
            refine ⟨_, rfl, q, _, 0, _, rfl, rfl, SqT.of (s28 _ _ (hs q hqm)), rfl, ⟨_, rfl⟩, _, rfl, _, _, rfl, rfl, _, hD2, ?_, ?_, ?_⟩
            · rw [List.length_map, List.length_replicate]; exact sl_lt (by omega)
            · intro c' o e
              rw [upd_ne (ne_of_none e nD2)]
              exact s8 _ _ e
            · have ef : Txt.endswith (W (kb q).1) (W (kb q').1) = false := by
                rw [W_ends]
                cases e : (kb q').1.isSuffixOf (kb q).1 with
                | false => rfl
                | true => exact absurd (List.isSuffixOf_iff_suffix.mp e) (ne q' hm')
              rw [upd_same, ef, List.replicate_succ', List.map_append]
              rfl
          · rintro H8 ⟨s8, hD2⟩
            refine ⟨D2, _, rfl, SqL.of hD2, _, rfl, ?_⟩
            have et : (List.replicate (rs.map V.ref).length false).any id = false := by simp
            rw [et]
            exact ⟨_, _, _, _, _, _, rfl, s7.trans s8⟩
      · rintro σ H3 ⟨v1, v2, v3, v4, v5, v6, rfl, s3⟩
        exact k H3 (s02.trans s3)
end
end U

set_option maxRecDepth 100000
set_option maxHeartbeats 4000000
namespace U
open PySem PySem.Spec PyProof.Rows
open L2 hiding Fun CX0 E0 pass0 Fun.binds
open C8 Lx SX StX
theorem p10 {n : Nat} (h : n ≤ 9) : 2 ^ (n + 1) ≤ 1024 := Nat.le_trans (Nat.pow_le_pow_right (by decide) (show n + 1 ≤ 10 by omega)) (by decide)
section
variable {P : Program} {w : World} {K : PySem.W.Frag} {mg : Str → Option Value} {base : Heap}
theorem sc_Rule_put_in : FnScope ["self", "line", "found", "known", "bit", "standing"] ["self", "line"] (fnScope s_Rule_put_in) := fnScope_by (by decide +kernel)
theorem met_put_in {f C : Addr} {fd : FuncData} (F : C8.Fun K "put_in" "Rule.put_in" s_Rule_put_in f fd) (me : Meth K C "put_in" f) (b : Binds K fd ["self", "line"] []) (T : Tx mg) (RT : RuT K C)
    (c_put : Met P w K mg base 1 C "put" (spPut C) []) (p_longest : Prp P w K mg base 1 C "longest" (spLongest C)) (c_tail : Cal P w K mg base 1 "tail" spTail []) : Met P w K mg base 3 C "put_in" (spPutIn C) [] := by
  refine met0 RT.cl me F b sc_Rule_put_in (fun vs H Q E h => ?_) (fun cdv A outer s H vs Q E hr h => ?_)
  · obtain ⟨_, _, _, _, _, rfl, _⟩ := h; rfl
  · obtain ⟨a, fl, ss, l, x, rfl, hR, hn, h9, hl, hI, k⟩ := h
    refine ⟨_, (pss_cons (ps_par (i := 2) (j := 3) (by rfl) sc_Rule_put_in.nd rfl rfl (by decide) rfl rfl (pa_cons pe_str (pa_cons pe_dnewK pa_nil)) (by rfl))
    (pss_cons (ps_set (i := 4) sc_Rule_put_in.nd rfl (.inl rfl) (pe_mt (pl := _) c_put hr (by decide) (pv 0) (pa_cons (pv 1) pa_nil)))
    (pss_cons (ps_while PassesOwn.never (pt_cmpR op_notN (pv 4) pe_non (nomark _))
    (pss_cons (ps_set (i := 5) sc_Rule_put_in.nd rfl (.inl rfl) (pe_c c_tail hr (by decide) rfl (pa_cons (pe_op op_add_str (pv 1) (pv 2)) (pa_cons (pe_pr p_longest hr (by decide) (pv 0)) pa_nil))))
    (pss_cons (ps_if (pt_cmp (pc_din (hu_of hr) (pv 5) (pv 3))) (pss_one (ps_ret pe_non)) pss_nil)
    (pss_cons (ps_dput (hu_of hr) (pv 3) (pv 5) pe_bl rfl)
    (pss_cons (ps_aug (i := 2) sc_Rule_put_in.nd rfl (.inl rfl) (pv 4) iop_add_str)
    (pss_one (ps_set (i := 4) sc_Rule_put_in.nd rfl (.inl rfl) (pe_mt (pl := _) c_put hr (by decide) (pv 0) (pa_cons (pe_op op_add_str (pv 1) (pv 2)) pa_nil)))))))))
    (pss_one (ps_ret (pv 2)))))), ?_⟩
    have hL : ∀ s ∈ ss, s.1.length ≤ longM ss := fun s hs => longM_le hs
    have hx : x.length ≤ 1024 := by have := hI.len hL; have := p10 h9; omega
    have hat : ∀ {H2 : Hp}, Same H H2 → ∃ dx t, H2 a = some (.ins C dx (ruF fl t)) := fun s2 => by
      obtain ⟨dx, t, _, _, ha, _⟩ := hR.same s2
      exact ⟨dx, t, ha⟩
    refine fun D nD => ⟨_, _, rfl, ?_⟩
    have s1 : Same H (upd H D (.dK [])) := same_upd nD
    have hD1 : upd H D (.dK []) D = some (.dK []) := upd_same
    generalize upd H D (.dK []) = H1 at s1 hD1
    obtain ⟨dx, t, ha⟩ := hat s1
    refine ⟨_, rfl, a, dx, _, rfl, ha, ruF_no _ _ (by decide +kernel) (by decide +kernel), _, rfl, a, fl, ss, l, rfl, hR.same s1, fun H2 s2 => ?_⟩
    refine ⟨fun m σ H3 => ∃ (j : Nat) (v5 : Option V), j + m = x.length ∧ σ = [some (.ref a), some (.str (W l)), some (.str (W (x.take j))), some (.ref D), some (oB (putM ss (l ++ x.take j))), v5] ∧ Same H H3 ∧ H3 D = some (.dK (kst ((List.range j).map fun i => tl (longM ss) (l ++ x.take i)))),
      ⟨x.length, 0, none, by omega, by rw [List.take_zero, List.append_nil, ← W_nil]; rfl, s1.trans s2, s2 _ _ hD1⟩, ?_⟩
    rintro m σ H3 ⟨j, v5, hj, rfl, s3, hD3⟩
    refine ⟨_, rfl, rfl, _, rfl, ?_⟩
    rw [oB_non]
    by_cases hlt : j < x.length
    · have hb : x[j]? = some x[j] := List.getElem?_eq_getElem hlt
      have hput := hI.at hb
      rw [hput]
      have lx : (x.take j).length ≤ 1024 := by rw [List.length_take]; omega
      have e1 : (W l).length = l.length := W_len l
      have e2 : (W (x.take j)).length = (x.take j).length := W_len _
      refine ⟨fun σ' H' => ∃ m', m' < m ∧ ∃ (j : Nat) (v5 : Option V), j + m' = x.length ∧ σ' = [some (.ref a), some (.str (W l)), some (.str (W (x.take j))), some (.ref D), some (oB (putM ss (l ++ x.take j))), v5] ∧ Same H H' ∧ H' D = some (.dK (kst ((List.range j).map fun i => tl (longM ss) (l ++ x.take i)))), fun _ _ h => h, ?_⟩
      obtain ⟨dx3, t3, ha3⟩ := hat s3
      refine ⟨_, rfl, _, rfl, _, _, rfl, rfl, by rw [e1, e2]; exact sl_len (by omega), _, rfl, a, dx3, _, rfl, ha3, a, fl, ss, rfl, hR.same s3, hn, fun s hs => Nat.le_trans (longM_le hs) (by omega), fun H4 s4 => ?_⟩
      refine ⟨l ++ x.take j, longM ss, by rw [← W_cat]; rfl, by rw [List.length_append]; omega, ?_⟩
      have hD4 := s4 _ _ hD3
      have nin : ¬ tl (longM ss) (l ++ x.take j) ∈ (List.range j).map fun i => tl (longM ss) (l ++ x.take i) := fun hm => by
        obtain ⟨i, hi, e⟩ := List.mem_map.mp hm
        have hi' := List.mem_range.mp hi
        have := hI.apart hL (Nat.le_of_lt (Nat.lt_trans hi' hlt)) (Nat.le_of_lt hlt) e
        omega
      refine ⟨_, rfl, _, rfl, D, _, rfl, DGet.k (k := .inr (W (tl (longM ss) (l ++ x.take j)))) hD4, _, rfl, iteBF (by rw [val_out nin]; rfl) ?_⟩
      refine ⟨_, rfl, _, rfl, D, _, rfl, DPut.k (k := .inr (W (tl (longM ss) (l ++ x.take j)))) hD4 (by unfold kst; rw [List.length_map, List.length_map, List.length_range]; exact sl_lt (by omega)), ?_⟩
      rw [put_out nin]
      have et : x.take (j + 1) = x.take j ++ [x[j]] := by rw [List.take_add_one, hb]; rfl
      have ek : ((List.range j).map fun i => tl (longM ss) (l ++ x.take i)) ++ [tl (longM ss) (l ++ x.take j)] = (List.range (j + 1)).map fun i => tl (longM ss) (l ++ x.take i) := by
        rw [List.range_succ, List.map_append]; rfl
      rw [ek]
      have s5 : Same H (upd H4 D (.dK (kst ((List.range (j + 1)).map fun i => tl (longM ss) (l ++ x.take i))))) := fun c o e => by
        rw [upd_ne (ne_of_none e nD)]
        exact (s3.trans s4) _ _ e
      have hD5 : upd H4 D (.dK (kst ((List.range (j + 1)).map fun i => tl (longM ss) (l ++ x.take i)))) D = some (.dK (kst ((List.range (j + 1)).map fun i => tl (longM ss) (l ++ x.take i)))) := upd_same
      generalize upd H4 D (.dK (kst ((List.range (j + 1)).map fun i => tl (longM ss) (l ++ x.take i)))) = H5 at s5 hD5
      have e3 : (W [x[j]]).length = 1 := W_len _
      refine ⟨_, rfl, _, rfl, _, _, rfl, rfl, by rw [e2, e3]; exact sl_len (by omega), ?_⟩
      rw [W_cat, ← et]
      have e4 : (W (x.take (j + 1))).length = (x.take (j + 1)).length := W_len _
      obtain ⟨dx5, t5, ha5⟩ := hat s5
      refine ⟨_, rfl, a, dx5, _, rfl, ha5, ruF_no _ _ (by decide +kernel) (by decide +kernel), _, rfl, _, rfl, _, _, rfl, rfl, by rw [e1, e4, et, List.length_append]; exact sl_len (by simp only [List.length_cons, List.length_nil]; omega), ?_⟩
      refine ⟨a, fl, ss, l ++ x.take (j + 1), by rw [← W_cat]; rfl, hR.same s5, fun H6 s6 => ?_⟩
      exact ⟨m - 1, by omega, j + 1, _, by omega, rfl, s5.trans s6, s6 _ _ hD5⟩
    · have hj' : j = x.length := by omega
      subst hj'
      rw [List.take_length, hI.end]
      exact ⟨_, rfl, k H3 s3⟩
end
end U

set_option maxRecDepth 100000
set_option maxHeartbeats 4000000
namespace U
open PySem PySem.Spec PyProof.Rows
open L2 hiding Fun CX0 E0 pass0 Fun.binds
open C8 Lx SX StX
/-- the standings that wait, and are known -/
structure Bfs (ss : List Stf) (H H2 : Hp) (q d : Addr) (ws : List (List Bool)) : Prop where
  same : Same H H2
  wait : H2 q = some (.lst (ws.map fun w => V.str (W w)))
  known : H2 d = some (.dK (kst ws))
  nodup : ws.Nodup
  short : ∀ w ∈ ws, w.length ≤ longM ss
  reach : ∀ w ∈ ws, ∃ l, Reach ss l ∧ tl (longM ss) l = w
theorem Bfs.on {ss : List Stf} {H H2 H3 : Hp} {q d : Addr} {ws : List (List Bool)} (b : Bfs ss H H2 q d ws) (s : Same H2 H3) : Bfs ss H H3 q d ws :=
  ⟨b.same.trans s, s _ _ b.wait, s _ _ b.known, b.nodup, b.short, b.reach⟩
theorem Bfs.few {ss : List Stf} {H H2 : Hp} {q d : Addr} {ws : List (List Bool)} (b : Bfs ss H H2 q d ws) : ws.length + 1 ≤ 2 ^ (longM ss + 1) := words_le b.nodup b.short
def key (s : Stf) : Str × Str := (W s.1, W [s.2])
def SortedS (ss : List Stf) : Prop := SrtO.Srtd (fun x y => SrT.lexT (key x) (key y)) ss
def spRuInit (K : PySem.W.Frag) (C : Addr) : Sp := fun vs H Q _ => ∃ (a dx s : Addr) (f : List Bool) (ps : List Addr) (kb : Addr → Stf), vs = [.ref a, .str (W f), .ref s] ∧ H a = some (.ins C dx []) ∧ Sq K H s (ps.map V.ref) ∧ StV H kb ps ∧ StOk (ps.map kb) ∧ OkR (ps.map kb) ∧ 2 ≤ f.length ∧ f.length ≤ 1000 ∧
  ∀ H' ss, (∀ b o, H b = some o → b ≠ a → H' b = some o) → ss.Perm (ps.map kb) → SortedS ss → RuAt C H' a f ss → Q .non H'
theorem pwS {qs : List Addr} {kb : Addr → Stf} (h : SrtO.Srtd (fun x y => SrT.lexT (key (kb x)) (key (kb y))) qs) : SortedS (qs.map kb) := List.pairwise_map.mpr h
section
variable {P : Program} {w : World} {K : PySem.W.Frag} {mg : Str → Option Value} {base : Heap}
theorem sc_Rule_is_endless : FnScope ["self", "waiting", "known", "at", "bit", "line", "more", "standing"] ["self"] (fnScope s_Rule_is_endless) := fnScope_by (by decide +kernel)
theorem met_is_endless {f C : Addr} {fd : FuncData} {tB : Tok} (F : C8.Fun K "is_endless" "Rule.is_endless" s_Rule_is_endless f fd) (me : Meth K C "is_endless" f) (b : Binds K fd ["self"] []) (T : Tx mg) (RT : RuT K C) (g_BITS : mg "BITS" = some (.str "01" tB))
    (c_put_in : Met P w K mg base 3 C "put_in" (spPutIn C) []) (p_longest : Prp P w K mg base 1 C "longest" (spLongest C)) (c_tail : Cal P w K mg base 1 "tail" spTail []) : Met P w K mg base 4 C "is_endless" (spEndless C) [] := by
  refine met0 RT.cl me F b sc_Rule_is_endless (fun vs H Q E h => ?_) (fun cdv A outer s H vs Q E hr h => ?_)
  · obtain ⟨_, _, _, rfl, _⟩ := h; rfl
  · obtain ⟨a, fl, ss, rfl, hR, hn, h9, hO, k⟩ := h
    refine ⟨_, (pss_cons (ps_par3 (i := 1) (j := 2) (l := 3) (by rfl) sc_Rule_is_endless.nd rfl rfl rfl (by decide) (by decide) (by decide) rfl rfl rfl (pa_cons (pe_lst (pa_cons pe_str pa_nil)) (pa_cons (pe_disp (pps_cons pe_str pe_bl pps_nil) (by rfl) (by rfl) (fun z => by cases z) (by decide)) (pa_cons pe_int pa_nil))) (by rfl))
    (pss_cons (ps_while PassesOwn.never (pt_cmpR op_lt (pv 3) (pe_callB call_len_seq (by rfl) T.b_len (by decide +kernel) (pa_cons (pv 1) pa_nil)) (nomark _))
    (pss_cons (ps_for PassesOwn.never rfl (pi_str (pe_glob (v := .str "01") (by rfl) g_BITS ⟨_, rfl⟩)) (pg_name (i := 4) sc_Rule_is_endless.nd rfl (.inl rfl))
    (pss_cons (ps_set (i := 5) sc_Rule_is_endless.nd rfl (.inl rfl) (pe_op op_add_str (pe_ix ix_list (pv 1) (pv 3) (fun _ _ => rfl)) (pv 4)))
    (pss_cons (ps_set (i := 6) sc_Rule_is_endless.nd rfl (.inl rfl) (pe_mt (pl := _) c_put_in hr (by decide) (pv 0) (pa_cons (pv 5) pa_nil)))
    (pss_cons (ps_if (pt_cmpR op_isN (pv 6) pe_non (nomark _)) (pss_one (ps_ret pe_bl)) pss_nil)
    (pss_cons (ps_set (i := 7) sc_Rule_is_endless.nd rfl (.inl rfl) (pe_c c_tail hr (by decide) rfl (pa_cons (pe_op op_add_str (pv 5) (pv 6)) (pa_cons (pe_pr p_longest hr (by decide) (pv 0)) pa_nil))))
    (pss_one (ps_if (pt_cmp (pc_dnotin (hu_of hr) (pv 7) (pv 2))) (pss_cons (ps_dput (hu_of hr) (pv 2) (pv 7) pe_bl rfl)
    (pss_one (ps_expr (pe_bm PySem.F.plainAttrs_list PySem.F.slot_list_append PySem.F.type_list_append mt_append (pv 1) (pa_cons (pv 7) pa_nil))))) pss_nil)))))))
    (pss_one (ps_aug (i := 3) sc_Rule_is_endless.nd rfl (.inl rfl) pe_int ip_add))))
    (pss_one (ps_ret pe_bl)))), ?_⟩
    have hL : ∀ s ∈ ss, s.1.length ≤ longM ss := fun s hs => longM_le hs
    have hpw := p10 h9
    have hat : ∀ {H2 : Hp}, Same H H2 → ∃ dx t, H2 a = some (.ins C dx (ruF fl t)) := fun s2 => by
      obtain ⟨dx, t, _, _, ha, _⟩ := hR.same s2
      exact ⟨dx, t, ha⟩
    refine ⟨by show 1 ≤ sizeLine; decide, fun q nq d nd => ⟨upd_same, [(.inr "", .bl true)], rfl, by decide, _, _, _, rfl, ?_⟩⟩
    have nqd : q ≠ d := fun z => by rw [← z, upd_same] at nd; cases nd
    have b0 : Bfs ss H (upd (upd (upd H q (.lst [.str ""])) d (.dK [])) d (.dK (mergeK [] [(.inr "", .bl true)]))) q d [[]] := by
      refine ⟨fun c o e => ?_, ?_, ?_, ?_, ?_, ?_⟩
      · have n1 := ne_of_none e nq
        have n2 : c ≠ d := fun z => by rw [z] at e n1; rw [upd_ne n1, e] at nd; cases nd
        rw [upd_ne n2, upd_ne n2, upd_ne n1]
        exact e
      · rw [upd_ne nqd, upd_ne nqd, upd_same, W_nil]; rfl
      · rw [upd_same, W_nil]; rfl
      · simp
      · intro w hw; rw [List.mem_singleton.mp hw]; exact Nat.zero_le _
      · intro w hw; rw [List.mem_singleton.mp hw]; exact ⟨[], .nil, by unfold tl; rw [List.drop_nil]⟩
    have nq0 : H q = none := nq
    have nd0 : H d = none := by
      cases e : H d with
      | none => rfl
      | some o => rw [upd_ne (Ne.symm nqd), e] at nd; cases nd
    generalize upd (upd (upd H q (.lst [.str ""])) d (.dK [])) d (.dK (mergeK [] [(.inr "", .bl true)])) = H1 at b0
    refine ⟨fun m σ H2 => ∃ (n : Nat) (ws : List (List Bool)) (v4 v5 v6 v7 : Option V), σ = [some (.ref a), some (.ref q), some (.ref d), some (.int n), v4, v5, v6, v7] ∧ Bfs ss H H2 q d ws ∧ n ≤ ws.length ∧ m + n = 2 ^ (longM ss + 1),
      ⟨2 ^ (longM ss + 1), 0, [[]], none, none, none, none, rfl, b0, Nat.zero_le _, by omega⟩, ?_⟩
    rintro m σ H2 ⟨n, ws, v4, v5, v6, v7, rfl, B2, hn2, hm⟩
    have few2 := B2.few
    refine ⟨_, rfl, _, rfl, q, _, rfl, .inl (SqL.of B2.wait), _, _, rfl, rfl, _, rfl, ?_⟩
    rw [List.length_map]
    by_cases hlt : n < ws.length
    · refine iteDT (by omega) ?_
      refine ⟨fun σ' H' => ∃ m', m' < m ∧ ∃ (n : Nat) (ws : List (List Bool)) (v4 v5 v6 v7 : Option V), σ' = [some (.ref a), some (.ref q), some (.ref d), some (.int n), v4, v5, v6, v7] ∧ Bfs ss H H' q d ws ∧ n ≤ ws.length ∧ m' + n = 2 ^ (longM ss + 1), fun _ _ h => h, ?_⟩
      refine ⟨_, rfl, for_it walk_str (fun i σ H3 => ∃ (ws : List (List Bool)) (v4 v5 v6 v7 : Option V), σ = [some (.ref a), some (.ref q), some (.ref d), some (.int n), v4, v5, v6, v7] ∧ Bfs ss H H3 q d ws ∧ n < ws.length) ⟨ws, _, _, _, _, rfl, B2, hlt⟩ (fun _ _ _ _ _ => trivial) ?_ ?_⟩
      · rintro i x σ H3 H3' hi ⟨ws, v4, v5, v6, v7, rfl, B3, hlt3⟩ ⟨rfl, c, hc, rfl⟩
        have e01 : ("01" : Str) = W [false, true] := by decide +kernel
        rw [e01] at hc
        obtain ⟨bb, _, rfl⟩ := W_get hc
        have hw : (ws.map fun w => V.str (W w))[n]? = some (.str (W ws[n])) := by rw [List.getElem?_map, List.getElem?_eq_getElem hlt3]; rfl
        have hmem : ws[n] ∈ ws := List.getElem_mem hlt3
        generalize ws[n] = w0 at hw hmem
        have hs0 := B3.short _ hmem
        have few3 := B3.few
        obtain ⟨l0, hr0, rfl⟩ := B3.reach _ hmem
        obtain ⟨y, hy⟩ := hO l0 hr0 bb
        have ht0 : tl (longM ss) l0 = tl (longM ss) (tl (longM ss) l0) := (tl_tl (Nat.le_refl _) _).symm
        have hy' := hy.tl hL (tl_snoc (b := bb) ht0)
        have hyl := hy.len hL
        have hnx : tl (longM ss) (l0 ++ [bb] ++ y) = tl (longM ss) (tl (longM ss) l0 ++ [bb] ++ y) := tl_app (tl_snoc (b := bb) ht0) y
        have hrn : Reach ss (l0 ++ [bb] ++ y) := .next hr0 hy
        generalize tl (longM ss) l0 = w0 at *
        have ew : W w0 ++ (⟨#[bt bb]⟩ : Str) = W (w0 ++ [bb]) := W_cat w0 [bb]
        have el : (W w0).length + (⟨#[bt bb]⟩ : Str).length ≤ sizeLine := by
          have e1 : (W w0).length = w0.length := W_len _
          have e2 : (⟨#[bt bb]⟩ : Str).length = 1 := W_len [bb]
          rw [e1, e2]; exact sl_len (by omega)
        refine ⟨_, rfl, _, rfl, q, _, _, _, rfl, rfl, SqL.of B3.wait, atI_nat hw, _, rfl, _, _, rfl, rfl, el, ?_⟩
        rw [ew]
        obtain ⟨dx3, t3, ha3⟩ := hat B3.same
        have hl1 : (w0 ++ [bb]).length ≤ 10 := by rw [List.length_append, List.length_cons, List.length_nil]; omega
        refine ⟨_, rfl, a, dx3, _, rfl, ha3, ruF_no _ _ (by decide +kernel) (by decide +kernel), _, rfl, a, fl, ss, w0 ++ [bb], y, rfl, hR.same B3.same, hn, h9, by omega, hy', fun H4 s4 => ?_⟩
        have B4 := B3.on s4
        refine ⟨_, rfl, rfl, _, rfl, iteDF (fun z => by cases z) ?_⟩
        obtain ⟨dx4, t4, ha4⟩ := hat B4.same
        have e3 : (W (w0 ++ [bb])).length = (w0 ++ [bb]).length := W_len _
        have e4 : (W y).length = y.length := W_len _
        refine ⟨_, rfl, _, rfl, _, _, rfl, rfl, by rw [e3, e4]; exact sl_len (by omega), _, rfl, a, dx4, _, rfl, ha4, a, fl, ss, rfl, hR.same B4.same, hn, fun s hs => Nat.le_trans (longM_le hs) (by omega), fun H5 s5 => ?_⟩
        have B5 := B4.on s5
        refine ⟨w0 ++ [bb] ++ y, longM ss, by rw [← W_cat (w0 ++ [bb]) y]; rfl, by rw [List.length_append]; omega, ?_⟩
        refine ⟨_, rfl, _, rfl, d, _, rfl, DGet.k (k := .inr (W (tl (longM ss) (w0 ++ [bb] ++ y)))) B5.known, _, rfl, ?_⟩
        by_cases hin : tl (longM ss) (w0 ++ [bb] ++ y) ∈ ws
        · refine iteBF (by rw [val_in hin]; rfl) ?_
          exact ⟨ws, _, _, _, _, rfl, B5, hlt3⟩
        · refine iteBT (by rw [val_out hin]; rfl) ?_
          refine ⟨_, rfl, _, rfl, d, _, rfl, DPut.k (k := .inr (W (tl (longM ss) (w0 ++ [bb] ++ y)))) B5.known (by unfold kst; rw [List.length_map]; exact sl_lt (by omega)), ?_⟩
          rw [put_out hin]
          have hW6 : upd H5 d (.dK (kst (ws ++ [tl (longM ss) (w0 ++ [bb] ++ y)]))) q = some (.lst (ws.map fun w => V.str (W w))) := by rw [upd_ne nqd]; exact B5.wait
          refine ⟨_, rfl, .inl ⟨rfl, _, SqL.of hW6⟩, _, rfl, q, _, _, rfl, rfl, hW6, by rw [List.length_map]; exact sl_lt (by omega), ?_⟩
          refine ⟨ws ++ [tl (longM ss) (w0 ++ [bb] ++ y)], _, _, _, _, rfl, ⟨fun c o e => ?_, ?_, ?_, ?_, ?_, ?_⟩, ?_⟩
          · rw [upd_ne (ne_of_none e nq0), upd_ne (ne_of_none e nd0)]
            exact B5.same _ _ e
          · rw [upd_same, List.map_append]; rfl
          · rw [upd_ne (Ne.symm nqd), upd_same]
          · rw [List.nodup_append]
            refine ⟨B5.nodup, by simp, fun u hu v hv e => ?_⟩
            rw [List.mem_singleton.mp hv] at e
            exact hin (e ▸ hu)
          · intro u hu
            rcases List.mem_append.mp hu with m | m
            · exact B5.short _ m
            · rw [List.mem_singleton.mp m]; exact tl_le _ _
          · intro u hu
            rcases List.mem_append.mp hu with m | m
            · exact B5.reach _ m
            · rw [List.mem_singleton.mp m]; exact ⟨_, hrn, hnx⟩
          · rw [List.length_append]; omega
      · rintro σ H3 ⟨ws, v4, v5, v6, v7, rfl, B3, hlt3⟩
        refine ⟨_, rfl, _, _, rfl, rfl, ?_⟩
        refine ⟨m - 1, by omega, n + 1, ws, _, _, _, _, rfl, B3, hlt3, by omega⟩
    · refine iteDF (by omega) ?_
      exact k H2 B2.same
theorem sc_Rule_init : FnScope ["self", "flag", "stuffs"] ["self", "flag", "stuffs"] (fnScope s_Rule_init) := fnScope_by (by decide +kernel)
theorem ok_Rule_init {f C : Addr} {fd : FuncData} (F : C8.Fun K "__init__" "Rule.__init__" s_Rule_init f fd) (T : Tx mg) (RT : RuT K C) (c_is_word : Cal P w K mg base 1 "is_word" (spIsWord K) []) (c_are_stuffs : Cal P w K mg base 4 "are_stuffs" (spAre K) []) (c_is_endless : Met P w K mg base 4 C "is_endless" (spEndless C) []) :
    FnOk P w K mg base CX0 5 f fd ["self", "flag", "stuffs"] (spRuInit K C) := by
  refine fn0 F sc_Rule_init (fun vs H Q E h => ?_) (fun cdv A outer s H vs Q E hr h => ?_)
  · obtain ⟨_, _, _, _, _, _, rfl, _⟩ := h; rfl
  · obtain ⟨a, dx, sq, fl, ps, kb, rfl, ha, hS, hs, ok, hO, h2, hl, k⟩ := h
    refine ⟨_, (pss_cons (ps_if (PW.pt (pw_or (pt_not (pt_val (pe_c c_is_word hr (by decide) rfl (pa_cons (pv 1) pa_nil)))) (pw_or1 (pt_cmpR op_lt (pe_callB call_len_str (by rfl) T.b_len (by decide +kernel) (pa_cons (pv 1) pa_nil)) pe_int (nomark _))))) (pss_one ps_never) pss_nil)
    (pss_cons (ps_if (pt_not (pt_val (pe_c c_are_stuffs hr (by decide) rfl (pa_cons (pv 2) pa_nil)))) (pss_one ps_never) pss_nil)
    (pss_cons (ps_fld (pv 0) (pv 1) rfl)
    (pss_cons (ps_fld (pv 0) (pe_callTy call_tuple_of (by rfl) T.b_tuple (by decide +kernel) (pa_cons (pe_callB cr_sortedT (by rfl) T.b_sorted (by decide +kernel) (pa_cons (pv 2) pa_nil)) pa_nil)) rfl)
    (pss_one (ps_if (pt_val (pe_mt0 (pl := _) c_is_endless hr (by decide) (pv 0))) (pss_one ps_never) pss_nil)))))), ?_⟩
    have lf : (W fl).length = fl.length := W_len fl
    refine ⟨_, rfl, _, rfl, .inl ⟨_, rfl, by rw [lf]; omega, fun H1 s1 => ⟨_, rfl, iteBF (by rw [isW_W]; rfl) ?_⟩⟩⟩
    refine ⟨_, rfl, _, rfl, by rw [lf]; exact sl_len (by omega), _, _, rfl, rfl, _, rfl, iteDF (by rw [lf]; omega) ?_⟩
    refine ⟨_, rfl, sq, ps, kb, rfl, hS.same s1, hs.same s1, ok, fun H2 s2 => ⟨_, rfl, ?_⟩⟩
    have s02 := s1.trans s2
    have ha2 := s02 _ _ ha
    refine ⟨_, rfl, _, rfl, a, C, dx, _, rfl, ha2, RT.cl, RT.nF, by decide, ?_⟩
    have keep3 : ∀ c o, H c = some o → c ≠ a → upd H2 a (.ins C dx (putF "flag" (.str (W fl)) [])) c = some o := fun c o e n => by rw [upd_ne n]; exact s02 _ _ e
    have ha3 : upd H2 a (.ins C dx (putF "flag" (.str (W fl)) [])) a = some (.ins C dx (putF "flag" (.str (W fl)) [])) := upd_same
    have hs3 : StV (upd H2 a (.ins C dx (putF "flag" (.str (W fl)) []))) kb ps := fun t ht => keep3 _ _ (hs t ht) (ne_of (hs t ht) ha (by intro z; cases z))
    have hS3 : SqL K (upd H2 a (.ins C dx (putF "flag" (.str (W fl)) []))) sq (ps.map V.ref) ∨ SqT K (upd H2 a (.ins C dx (putF "flag" (.str (W fl)) []))) sq (ps.map V.ref) := by
      rcases hS with ((h | ⟨o, h⟩) | h) | ((h | ⟨o, h⟩) | h)
      · exact .inl (.inl (.inl (keep3 _ _ h (ne_of h ha (by intro z; cases z)))))
      · exact .inl (.inl (.inr ⟨o, keep3 _ _ h (ne_of h ha (by intro z; cases z))⟩))
      · exact .inl (.inr h)
      · exact .inr (.inl (.inl (keep3 _ _ h (ne_of h ha (by intro z; cases z)))))
      · exact .inr (.inl (.inr ⟨o, keep3 _ _ h (ne_of h ha (by intro z; cases z))⟩))
      · exact .inr (.inr h)
    generalize upd H2 a (.ins C dx (putF "flag" (.str (W fl)) [])) = H3 at keep3 ha3 hs3 hS3
    refine ⟨_, rfl, sq, ps, fun t => key (kb t), rfl, hS3, fun t ht => hs3 t ht, fun qs p1 srt prm n1 => ?_⟩
    refine ⟨p1, _, rfl, .inl ⟨SqL.of upd_same, fun p2 n2 => ?_⟩⟩
    have s5 : Same H3 (upd (upd H3 p1 (.lst (qs.map V.ref))) p2 (.tup (qs.map V.ref))) := (same_upd n1).trans (same_upd n2)
    have hT5 : upd (upd H3 p1 (.lst (qs.map V.ref))) p2 (.tup (qs.map V.ref)) p2 = some (.tup (qs.map V.ref)) := upd_same
    generalize upd (upd H3 p1 (.lst (qs.map V.ref))) p2 (.tup (qs.map V.ref)) = H5 at s5 hT5
    have ha5 := s5 _ _ ha3
    refine ⟨_, rfl, a, C, dx, _, rfl, ha5, RT.cl, RT.nS, by show 1 < 1000; decide, ?_⟩
    have na2 : p2 ≠ a := ne_of hT5 ha5 (by intro z; cases z)
    have keep6 : ∀ c o, H3 c = some o → c ≠ a → upd H5 a (.ins C dx (putF "stuffs" (.ref p2) (putF "flag" (.str (W fl)) []))) c = some o := fun c o e n => by rw [upd_ne n]; exact s5 _ _ e
    have ha6 : upd H5 a (.ins C dx (putF "stuffs" (.ref p2) (putF "flag" (.str (W fl)) []))) a = some (.ins C dx (ruF fl p2)) := upd_same
    have hT6 : upd H5 a (.ins C dx (putF "stuffs" (.ref p2) (putF "flag" (.str (W fl)) []))) p2 = some (.tup (qs.map V.ref)) := by rw [upd_ne na2]; exact hT5
    generalize upd H5 a (.ins C dx (putF "stuffs" (.ref p2) (putF "flag" (.str (W fl)) []))) = H6 at keep6 ha6 hT6
    have hs6 : StV H6 kb qs := StV.perm (fun t ht => keep6 _ _ (hs3 t ht) (ne_of (hs3 t ht) ha3 (by intro z; cases z))) prm
    have pm : (qs.map kb).Perm (ps.map kb) := prm.map kb
    have hR6 : RuAt C H6 a fl (qs.map kb) := ⟨dx, p2, qs, kb, ha6, hT6, hs6, rfl⟩
    have ok6 := ok.perm pm.symm
    refine ⟨_, rfl, a, dx, _, rfl, ha6, ruF_no _ _ (by decide +kernel) (by decide +kernel), a, fl, qs.map kb, rfl, hR6, ok6.few, ok6.long, hO.congr fun l => put_perm ok.free pm.symm l, fun H7 s7 => ⟨_, rfl, ?_⟩⟩
    exact k H7 (qs.map kb) (fun c o e n => s7 _ _ (keep6 _ _ (keep3 _ _ e n) n)) pm (pwS srt) (hR6.same s7)
end
end U

set_option maxRecDepth 100000
set_option maxHeartbeats 4000000
namespace U
open PySem PySem.Spec PyProof.Rows
open L2 hiding Fun CX0 E0 pass0 Fun.binds
open C8 Lx SX
/-- _law_word(box, few, many) -/
def spWordF : Sp := fun vs H Q _ => ∃ (b : Addr) (few many : Nat), vs = [.ref b, .int few, .int many] ∧ Box H b ∧ few ≤ many ∧ many < 1000 ∧
  ∀ (l : List Bool) H', few ≤ l.length → l.length ≤ many → Up b H H' → Q (.str (W l)) H'
section
variable {P : Program} {w : World} {K : PySem.W.Frag} {mg : Str → Option Value} {base : Heap}
theorem sc_l_word : FnScope ["_law_box", "_law_few", "_law_many", "_law_turn"] ["_law_box", "_law_few", "_law_many"] (fnScope s_l_word) := fnScope_by (by decide +kernel)
theorem cal_l_word {f : Addr} {fd : FuncData} (F : Def K mg "_law_word" s_l_word f fd) (b : Binds K fd ["_law_box", "_law_few", "_law_many"] []) (T : Tx mg)
    (c_l_choose : Cal P w K mg base 1 "_law_choose" spChoose []) (c_l_one_of : Cal P w K mg base 2 "_law_one_of" spOneOf []) : Cal P w K mg base 3 "_law_word" spWordF [] := by
  refine cal0 F b .nil sc_l_word (fun vs H Q E h => ?_) (fun cdv A outer s H vs Q E hr h => ?_)
  · obtain ⟨_, _, _, rfl, _⟩ := h; rfl
  · obtain ⟨bx, few, many, rfl, hb, h1, h2, k⟩ := h
    refine ⟨_, (pss_one (ps_ret (pe_join pe_str (pe_lc (own := [("_law_turn", 3)]) (g := gName 3) (by rfl) sc_l_word.nd (pi_range1 (by rfl) T.b_range (pa_cons (pe_op op_add (pv 1) (pe_c c_l_choose hr (by decide) rfl (pa_cons (pv 0) (pa_cons (pe_op op_add (pe_op op_sub (pv 2) (pv 1)) pe_int) pa_nil)))) pa_nil)) (blkOk_by (own := [("_law_turn", 3)]) (N := ["_law_box", "_law_few", "_law_many", "_law_turn"]) (sc := fnScope s_l_word) (by decide +kernel)) (fun _ _ _ _ _ => (pg_name (i := 3) sc_l_word.nd rfl (.inl rfl))) (fun _ _ _ _ _ => pts_nil) (fun _ _ _ _ _ => (pe_c c_l_one_of hr (by decide) rfl (pa_cons (pv 0) (pa_cons (pe_lst (pa_cons pe_str (pa_cons pe_str pa_nil))) pa_nil)))))))), ?_⟩
    refine ⟨⟨_, rfl⟩, ?_⟩
    refine ⟨_, rfl, _, rfl, _, rfl, _, rfl, _, _, rfl, rfl, _, _, rfl, rfl, bx, _, rfl, hb, (by omega), (by omega), fun d H1 d0 d1 u1 => ?_⟩
    refine ⟨_, _, rfl, rfl, _, rfl, by omega, by omega, fun D nD => ?_⟩
    have nb : D ≠ bx := u1.2.ne nD
    refine lc_it (walk_range (lo := 0) (n := ((few : Int) + d).toNat)) (fun i H2 => ∃ l : List Bool, l.length = i ∧ Up bx H H2 ∧ H2 D = some (.lst (bitsV l)))
      ⟨[], rfl, u1.mut (u1.free nD) nb, upd_same⟩ (fun _ _ _ _ => trivial) ?_ ?_
    · rintro i x H2 H3 hi ⟨l, rfl, u2, hD⟩ ⟨rfl, rfl⟩
      refine ⟨rfl, ?_⟩
      refine ⟨_, rfl, by show 2 ≤ sizeLine; decide, fun p hp => ?_⟩
      have np : p ≠ bx := u2.2.ne hp
      refine ⟨bx, p, _, rfl, u2.2.same (same_upd hp), upd_same, np, by decide, by decide, fun v H4 hv u4 => ?_⟩
      obtain ⟨b, rfl⟩ := mem2 hv
      have hD4 : H4 D = some (.lst (bitsV l)) := u4.1 _ _ (same_upd hp _ _ hD) nb
      refine ⟨_, hD4, ?_, l ++ [b], by simp, ?_, ?_⟩
      · unfold bitsV; rw [List.length_map, List.length_map]; exact sl_lt (by omega)
      · exact ((u2.same (same_upd hp)).trans u4).mut (u1.free nD) nb
      · rw [upd_same]; unfold bitsV; simp
    · rintro H2 ⟨l, hl, u2, hD⟩
      refine ⟨_, D, l.map fun b => W [b], rfl, rfl, .inl (SqL.of hD), ?_, ?_⟩
      · rw [lens_bits]
        have e0 : ("" : Str).length = 0 := by decide +kernel
        rw [e0]; omega
      · show Q (.str (Txt.join "" (l.map fun b => W [b]))) H2
        rw [join_bits]
        exact k l H2 (by omega) (by omega) u2
end
end U


set_option maxRecDepth 100000
set_option maxHeartbeats 4000000
namespace U
open PySem PySem.Spec PyProof.Rows
open L2 hiding Fun CX0 E0 pass0 Fun.binds
open C8 Lx SX StX
/-- a rule as the law tells it -/
def Told (H : Hp) (t : Addr) (f : List Bool) (ss : List Stf) : Prop := ∃ l ps kb, H t = some (.tup [.str (W f), .ref l]) ∧ H l = some (.lst (ps.map V.ref)) ∧ StV H kb ps ∧ ss = ps.map kb
theorem Told.same {H H' : Hp} {t : Addr} {f : List Bool} {ss : List Stf} (h : Told H t f ss) (e : Same H H') : Told H' t f ss := by
  obtain ⟨l, ps, kb, h1, h2, h3, h4⟩ := h
  exact ⟨l, ps, kb, e _ _ h1, e _ _ h2, h3.same e, h4⟩
theorem refs_ne {ps : List Addr} {i j : Int} : ps.map V.ref ≠ [.int i, .int j] := fun z => by
  cases ps with
  | nil => cases z
  | cons p r => cases (List.cons.inj z).1
theorem Box.neL {H : Hp} {b l : Addr} {ps : List Addr} (hb : Box H b) (h : H l = some (.lst (ps.map V.ref))) : l ≠ b := fun z => by
  obtain ⟨i, j, hb⟩ := hb
  rw [z, hb] at h
  exact refs_ne (HO.lst.inj (Option.some.inj h)).symm
theorem Told.up {b : Addr} {H H' : Hp} {t : Addr} {f : List Bool} {ss : List Stf} (hb : Box H b) (h : Told H t f ss) (e : Up b H H') : Told H' t f ss := by
  obtain ⟨l, ps, kb, h1, h2, h3, h4⟩ := h
  exact ⟨l, ps, kb, e.1 _ _ h1 (hb.neT h1), e.1 _ _ h2 (hb.neL h2), fun t ht => e.1 _ _ (h3 t ht) (hb.neT (h3 t ht)), h4⟩
theorem RuAt.up {C b : Addr} {H H' : Hp} {a : Addr} {f : List Bool} {ss : List Stf} (hb : Box H b) (h : RuAt C H a f ss) (e : Up b H H') : RuAt C H' a f ss := h.nl (e.nl hb)
def putL (ss : List Stf) (l : List Bool) : List Bool := match putM ss l with
  | none => []
  | some b => [b]
theorem putL_len (ss : List Stf) (l : List Bool) : (putL ss l).length ≤ 1 := by unfold putL; cases putM ss l <;> simp
theorem stP_eq (ss : List Stf) (l : List Bool) : stP ss l = l ++ putL ss l := by
  unfold stP putL
  cases putM ss l with
  | none => rw [List.append_nil]
  | some b => rfl
theorem putL_head {ss : List Stf} {l : List Bool} : putM ss l = ((ss.filter fun s => s.1.isSuffixOf l).map (·.2)).head? := by
  unfold putM
  rw [List.head?_map, List.head?_filter]
def dS (x : List Bool) : PyData := .str (W x)
theorem dp_strs {K : PySem.W.Frag} {H : Hp} : ∀ xs : List (List Bool), DpAll K H (xs.map fun x => V.str (W x)) (xs.map dS)
  | [] => .nil
  | x :: r => .cons (.str _) (dp_strs r)
theorem strOk_W (x : List Bool) : PyData.strOk (W x) = true := by
  unfold PyData.strOk
  simp only [W, S, List.all_toArray, List.all_map, List.all_eq_true]
  intro b _
  cases b <;> decide +kernel
/-- data that can be compared -/
def DOk (n : Nat) (d : PyData) : Prop := PyData.canLay0 d = true ∧ PyData.depth d ≤ n
theorem dok_str (x : List Bool) : DOk 0 (.str (W x)) := ⟨strOk_W x, Nat.le_refl _⟩
theorem dok_all {n : Nat} : ∀ {ds : List PyData}, (∀ d ∈ ds, DOk n d) → PyData.canLayAll0 ds = true ∧ PyData.depthAll ds ≤ n
  | [], _ => ⟨rfl, Nat.zero_le _⟩
  | d :: r, h => by
    have h1 := h d List.mem_cons_self
    have h2 := dok_all (ds := r) fun d hd => h d (List.mem_cons_of_mem _ hd)
    refine ⟨?_, ?_⟩
    · show (PyData.canLay0 d && PyData.canLayAll0 r) = true
      rw [h1.1, h2.1]; rfl
    · show max (PyData.depth d) (PyData.depthAll r) ≤ n
      have := h1.2; have := h2.2; omega
theorem dok_list {n : Nat} {ds : List PyData} (h : ∀ d ∈ ds, DOk n d) : DOk (n + 1) (.list ds) := ⟨(dok_all h).1, Nat.succ_le_succ (dok_all h).2⟩
theorem dok_tup {n : Nat} {ds : List PyData} (h : ∀ d ∈ ds, DOk n d) : DOk (n + 1) (.tuple ds) := ⟨(dok_all h).1, Nat.succ_le_succ (dok_all h).2⟩
theorem DOk.shaped {n : Nat} {d : PyData} (h : DOk n d) (hn : n ≤ 64) : SeqAt.shaped d = true := by
  unfold SeqAt.shaped
  rw [h.1, decide_eq_true (Nat.le_trans h.2 hn)]
  rfl
theorem shaped_strs (xs : List (List Bool)) : SeqAt.shaped (.list (xs.map dS)) = true := (dok_list (n := 0) fun d hd => by
  obtain ⟨x, _, rfl⟩ := List.mem_map.mp hd
  exact dok_str x).shaped (by decide)
theorem shaped_nil : SeqAt.shaped (.list []) = true := by decide +kernel
theorem eqv_nil (ds : List PyData) : PyData.eqv (.list ds) (.list []) = ds.isEmpty := by cases ds <;> rfl
end U

set_option maxRecDepth 100000
set_option maxHeartbeats 4000000
namespace U
open PySem PySem.Spec PyProof.Rows
open L2 hiding Fun CX0 E0 pass0 Fun.binds
open C8 Lx SX StX
def spLPut : Sp := fun vs H Q _ => ∃ (t : Addr) (f l : List Bool) (ss : List Stf), vs = [.ref t, .str (W l)] ∧ Told H t f ss ∧ l.length ≤ 50000 ∧ ss.length ≤ 1000 ∧ (∀ s ∈ ss, s.1.length ≤ 1000) ∧ ∀ H', Same H H' → Q (.str (W (putL ss l))) H'
def spIsRule : Sp := fun vs H Q _ => ∃ (t : Addr) (f : List Bool) (ss : List Stf), vs = [.ref t] ∧ Told H t f ss ∧ ss.length ≤ 1000 ∧ (∀ s ∈ ss, s.1.length ≤ 5) ∧ ∀ r H', Same H H' → (r = true → SufFree ss ∧ OkS ss) → Q (.bl r) H'
/-- closed so far -/
def Cls1 (ss : List Stf) (kn : List (List Bool)) (w : List Bool) (b : Bool) : Prop := (itP ss 24 (w ++ [b])).length ≤ w.length + 20 ∧ tl 5 (itP ss 24 (w ++ [b])) ∈ kn
theorem Cls1.more {ss : List Stf} {kn : List (List Bool)} {w u : List Bool} {b : Bool} (h : Cls1 ss kn w b) : Cls1 ss (kn ++ [u]) w b := ⟨h.1, List.mem_append_left _ h.2⟩
structure Dfs (ss : List Stf) (H H2 : Hp) (q d : Addr) (kn wt : List (List Bool)) : Prop where
  same : Same H H2
  wait : H2 q = some (.lst (wt.map fun w => V.str (W w)))
  known : H2 d = some (.dK (kst kn))
  nodup : kn.Nodup
  short : ∀ w ∈ kn, w.length ≤ 5
  sub : ∀ w ∈ wt, w ∈ kn
  nil : [] ∈ kn
  le : wt.length ≤ kn.length
theorem Dfs.on {ss : List Stf} {H H2 H3 : Hp} {q d : Addr} {kn wt : List (List Bool)} (b : Dfs ss H H2 q d kn wt) (s : Same H2 H3) : Dfs ss H H3 q d kn wt :=
  ⟨b.same.trans s, s _ _ b.wait, s _ _ b.known, b.nodup, b.short, b.sub, b.nil, b.le⟩
theorem Dfs.few {ss : List Stf} {H H2 : Hp} {q d : Addr} {kn wt : List (List Bool)} (b : Dfs ss H H2 q d kn wt) : kn.length ≤ 63 := by
  have := words_le b.nodup b.short
  have e : (2 : Nat) ^ (5 + 1) = 64 := by decide
  omega
theorem sufFree_of {ss : List Stf} (h : ∀ (i j : Nat) (a b : Stf), i ≠ j → ss[i]? = some a → ss[j]? = some b → b.1.isSuffixOf a.1 = false) : SufFree ss := by
  unfold SufFree
  rw [List.pairwise_iff_getElem]
  intro i j hi hj hij
  have e1 := h i j _ _ (by omega) (List.getElem?_eq_getElem hi) (List.getElem?_eq_getElem hj)
  have e2 := h j i _ _ (by omega) (List.getElem?_eq_getElem hj) (List.getElem?_eq_getElem hi)
  refine ⟨fun z => ?_, fun z => ?_⟩
  · rw [List.isSuffixOf_iff_suffix.mpr z] at e2; cases e2
  · rw [List.isSuffixOf_iff_suffix.mpr z] at e1; cases e1
section
variable {P : Program} {w : World} {K : PySem.W.Frag} {mg : Str → Option Value} {base : Heap}
theorem sc_l_put : FnScope ["_law_rule_here", "_law_line", "_law_some", "_law_pattern", "_law_bit"] ["_law_rule_here", "_law_line"] (fnScope s_l_put) := fnScope_by (by decide +kernel)
theorem cal_l_put {f : Addr} {fd : FuncData} (F : Def K mg "_law_put" s_l_put f fd) (b : Binds K fd ["_law_rule_here", "_law_line"] []) (T : Tx mg) : Cal P w K mg base 1 "_law_put" spLPut [] := by
  refine cal0 F b .nil sc_l_put (fun vs H Q E h => ?_) (fun cdv A outer s H vs Q E hr h => ?_)
  · obtain ⟨_, _, _, _, rfl, _⟩ := h; rfl
  · obtain ⟨t, fl, l, ss, rfl, ⟨r, ps, kb, ht, hl, hs, rfl⟩, h1, h2, h3, k⟩ := h
    refine ⟨_, (pss_cons (ps_setLc (i := 2) (own := [("_law_pattern", 3), ("_law_bit", 4)]) (g := gTup K 2 (gCons (gName 3) (gCons (gName 4) gNil))) (by rfl) sc_l_put.nd rfl rfl (sw_true rfl rfl rfl (by decide +kernel)) (pi_list (pe_ix ix_tup (pv 0) pe_int (fun _ _ => rfl))) (blkOk_by (own := [("_law_pattern", 3), ("_law_bit", 4)]) (N := ["_law_rule_here", "_law_line", "_law_some", "_law_pattern", "_law_bit"]) (sc := fnScope s_l_put) (by decide +kernel)) (fun _ _ _ _ _ => (pg_tup rfl (pgs_cons (pg_name (i := 3) sc_l_put.nd rfl (.inl rfl)) (pgs_cons (pg_name (i := 4) sc_l_put.nd rfl (.inl rfl)) pgs_nil)))) (fun _ _ _ _ _ => (pts_one (pt_cmpR op_eq (pe_slice sl_txt (pv 1) (po_some (pe_callB (call_max2 rfl) (by rfl) T.b_max (by decide +kernel) (pa_cons pe_int (pa_cons (pe_op op_sub (pe_callB call_len_str (by rfl) T.b_len (by decide +kernel) (pa_cons (pv 1) pa_nil)) (pe_callB call_len_str (by rfl) T.b_len (by decide +kernel) (pa_cons (pv 3) pa_nil))) pa_nil)))) po_none) (pv 3) (nomark _)))) (fun _ _ _ _ _ => (pv 4)))
    (pss_one (ps_ret (pe_ifExp (pt_cmpR (op_neD hr.units) (pv 2) (pe_lst pa_nil) (nomark _)) (pe_ix ix_list (pv 2) pe_int (fun _ _ => rfl)) pe_str)))), ?_⟩
    have lw : (W l).length ≤ sizeLine := by rw [W_len]; exact sl_len (by omega)
    refine ⟨_, rfl, t, _, 1, _, rfl, rfl, SqT.of ht, rfl, r, rfl, ⟨_, SqL.of hl⟩, fun D nD => ?_⟩
    refine lc_it (walk_list (xs := ps.map V.ref)) (fun i H2 => Same H H2 ∧ H2 D = some (.lst (((((ps.take i).map kb).filter fun s => s.1.isSuffixOf l).map fun s => [s.2]).map fun x => V.str (W x)))) ⟨same_upd nD, upd_same⟩ (fun i H2 _ h2 => h2.1.seq (SqL.of hl)) ?_ ?_
    · rintro i x H2 H3 hi ⟨s2, hD⟩ ⟨rfl, hx⟩
      rw [List.getElem?_map] at hx
      obtain ⟨q, hq, rfl⟩ := Option.map_eq_some_iff.mp hx
      have hqm : q ∈ ps := List.mem_of_getElem? hq
      have lq : (W (kb q).1).length ≤ sizeLine := by rw [W_len]; exact sl_len (Nat.le_trans (h3 _ (List.mem_map_of_mem hqm)) (by decide))
      refine ⟨q, _, rfl, SqT.of (s2 _ _ (hs q hqm)), rfl, _, _, rfl, _, _, rfl, rfl, rfl, ?_⟩
      refine ⟨_, rfl, _, rfl, _, rfl, lw, _, rfl, _, rfl, lq, _, _, rfl, rfl, _, _, rfl, _, rfl, _, rfl, lw, _, rfl, rfl, _, rfl, ?_⟩
      rw [W_tail, W_len (kb q).1]
      have et : (ps.take (i + 1)).map kb = (ps.take i).map kb ++ [kb q] := by rw [List.take_add_one, hq, List.map_append]; rfl
      by_cases c : (kb q).1.isSuffixOf l = true
      · refine iteDT (by rw [← suf_iff.mp c]) ?_
        refine ⟨_, rfl, _, hD, ?_, ?_, ?_⟩
        · rw [List.length_map, List.length_map]
          refine sl_lt (Nat.lt_of_le_of_lt (List.length_filter_le _ _) ?_)
          rw [List.length_map, List.length_take]
          rw [List.length_map] at h2
          omega
        · intro c' o e
          rw [upd_ne (ne_of_none e nD)]
          exact s2 _ _ e
        · rw [upd_same, et, List.filter_append, List.map_append, List.map_append, List.filter_cons_of_pos (p := fun s : Stf => s.1.isSuffixOf l) c]
          rfl
      · refine iteDF (fun z => c (suf_iff.mpr (W_inj (V.str.inj z)).symm)) ?_
        refine ⟨s2, ?_⟩
        rw [hD, et, List.filter_append, List.filter_cons_of_neg (p := fun s : Stf => s.1.isSuffixOf l) c, List.filter_nil, List.append_nil]
    · rintro H2 ⟨s2, hD⟩
      rw [List.length_map, List.take_length] at hD
      refine ⟨_, rfl, Nat.zero_le _, fun p hp => ?_⟩
      have hp2 := putL_head (ss := ps.map kb) (l := l)
      have hD2 : upd H2 p (.lst []) D = some (.lst ((((ps.map kb).filter fun s => s.1.isSuffixOf l).map fun s => [s.2]).map fun x => V.str (W x))) := same_upd hp _ _ hD
      have s3 := s2.trans (same_upd (o := .lst []) hp)
      refine ⟨.list ((((ps.map kb).filter fun s => s.1.isSuffixOf l).map fun s => [s.2]).map dS), .list [], .lst (SqL.of hD2) (dp_strs _), .lst (SqL.of upd_same) .nil, shaped_strs _, shaped_nil, _, rfl, ?_⟩
      rw [eqv_nil]
      have k3 := k _ s3
      unfold putL at k3
      rw [hp2] at k3
      generalize (ps.map kb).filter (fun s => s.1.isSuffixOf l) = fs at hD2 k3
      cases fs with
      | nil =>
        show Q (.str "") _
        rw [W_nil]
        exact k3
      | cons x r =>
        exact ⟨_, rfl, D, _, 0, .str (W [x.2]), rfl, rfl, SqL.of hD2, atI_nat (j := 0) rfl, k3⟩
end
end U

set_option maxRecDepth 100000
set_option maxHeartbeats 4000000
namespace U
open PySem PySem.Spec PyProof.Rows
open L2 hiding Fun CX0 E0 pass0 Fun.binds
open C8 Lx SX StX
theorem W_tail5 (l : List Bool) : Txt.slice (W l) (some (if (((W l).length : Nat) : Int) - 5 > 0 then (((W l).length : Nat) : Int) - 5 else 0)) none = W (tl 5 l) := W_tail l 5
theorem pop_end {wt : List (List Bool)} {w : List Bool} : ((wt ++ [w]).map fun w => V.str (W w))[((wt ++ [w]).map fun w => V.str (W w)).length - 1]? = some (.str (W w)) := by
  rw [List.length_map, List.length_append, List.getElem?_map, List.length_cons, List.length_nil, List.getElem?_append_right (by omega), show wt.length + (0 + 1) - 1 - wt.length = 0 by omega]
  rfl
theorem pop_rest {wt : List (List Bool)} {w : List Bool} : ((wt ++ [w]).map fun w => V.str (W w)).dropLast = wt.map fun w => V.str (W w) := by
  rw [List.map_append]
  exact List.dropLast_concat
section
variable {P : Program} {w : World} {K : PySem.W.Frag} {mg : Str → Option Value} {base : Heap}
theorem sc_l_is_rule : FnScope ["_law_rule_here", "_law_names", "_law_pattern", "_law_bit", "_law_at", "_law_one", "_law_spot", "_law_other_one", "_law_known", "_law_waiting", "_law_behind", "_law_line", "_law_turn", "_law_there"] ["_law_rule_here"] (fnScope s_l_is_rule) := fnScope_by (by decide +kernel)
theorem cal_l_is_rule {f : Addr} {fd : FuncData} (F : Def K mg "_law_is_rule" s_l_is_rule f fd) (b : Binds K fd ["_law_rule_here"] []) (T : Tx mg) (c_l_put : Cal P w K mg base 1 "_law_put" spLPut []) : Cal P w K mg base 2 "_law_is_rule" spIsRule [] := by
  refine cal0 F b .nil sc_l_is_rule (fun vs H Q E h => ?_) (fun cdv A outer s H vs Q E hr h => ?_)
  · obtain ⟨_, _, _, rfl, _⟩ := h; rfl
  · obtain ⟨t, fl, ss, rfl, htold, h2, h3, k⟩ := h
    refine ⟨_, (pss_cons (ps_setLc (i := 1) (own := [("_law_pattern", 2), ("_law_bit", 3)]) (g := gTup K 2 (gCons (gName 2) (gCons (gName 3) gNil))) (by rfl) sc_l_is_rule.nd rfl rfl (sw_true rfl rfl rfl (by decide +kernel)) (pi_list (pe_ix ix_tup (pv 0) pe_int (fun _ _ => rfl))) (blkOk_by (own := [("_law_pattern", 2), ("_law_bit", 3)]) (N := ["_law_rule_here", "_law_names", "_law_pattern", "_law_bit", "_law_at", "_law_one", "_law_spot", "_law_other_one", "_law_known", "_law_waiting", "_law_behind", "_law_line", "_law_turn", "_law_there"]) (sc := fnScope s_l_is_rule) (by decide +kernel)) (fun _ _ _ _ _ => (pg_tup rfl (pgs_cons (pg_name (i := 2) sc_l_is_rule.nd rfl (.inl rfl)) (pgs_cons (pg_name (i := 3) sc_l_is_rule.nd rfl (.inl rfl)) pgs_nil)))) (fun _ _ _ _ _ => pts_nil) (fun _ _ _ _ _ => (pv 2)))
    (pss_cons (ps_for PassesOwn.never rfl (pi_enum (by rfl) T.b_enumerate (pa_cons (pv 1) pa_nil)) (pg_tup rfl (pgs_cons (pg_name (i := 4) sc_l_is_rule.nd rfl (.inl rfl)) (pgs_cons (pg_name (i := 5) sc_l_is_rule.nd rfl (.inl rfl)) pgs_nil)))
    (pss_one (ps_for PassesOwn.never rfl (pi_enum (by rfl) T.b_enumerate (pa_cons (pv 1) pa_nil)) (pg_tup rfl (pgs_cons (pg_name (i := 6) sc_l_is_rule.nd rfl (.inl rfl)) (pgs_cons (pg_name (i := 7) sc_l_is_rule.nd rfl (.inl rfl)) pgs_nil)))
    (pss_one (ps_if (PW.pt (pw_and (pt_cmpR op_ne (pv 4) (pv 6) (nomark _)) (pw_and1 (pt_val (pe_m1 PySem.F.slot_str_endswith PySem.F.type_str_endswith mt_endswith (pv 5) (pv 7)))))) (pss_one (ps_ret pe_bl)) pss_nil)))))
    (pss_cons (ps_par (i := 8) (j := 9) (by rfl) sc_l_is_rule.nd rfl rfl (by decide) rfl rfl (pa_cons (pe_disp (pps_cons pe_str pe_bl pps_nil) (by rfl) (by rfl) (fun z => by cases z) (by decide)) (pa_cons (pe_lst (pa_cons pe_str pa_nil)) pa_nil)) (by rfl))
    (pss_cons (ps_while PassesOwn.never (pt_cmpR (op_neD hr.units) (pv 9) (pe_lst pa_nil) (nomark _))
    (pss_cons (ps_set (i := 10) sc_l_is_rule.nd rfl (.inl rfl) (pe_bm0 PySem.F.plainAttrs_list PySem.F.slot_list_pop PySem.F.type_list_pop mt_pop (pv 9)))
    (pss_one (ps_for PassesOwn.never rfl (pi_str pe_str) (pg_name (i := 3) sc_l_is_rule.nd rfl (.inl rfl))
    (pss_cons (ps_set (i := 11) sc_l_is_rule.nd rfl (.inl rfl) (pe_op op_add_str (pv 10) (pv 3)))
    (pss_cons (ps_for PassesOwn.never rfl (pi_range1 (by rfl) T.b_range (pa_cons pe_int pa_nil)) (pg_name (i := 12) sc_l_is_rule.nd rfl (.inl rfl))
    (pss_one (ps_set (i := 11) sc_l_is_rule.nd rfl (.inl rfl) (pe_op op_add_str (pv 11) (pe_c c_l_put hr (by decide) rfl (pa_cons (pv 0) (pa_cons (pv 11) pa_nil)))))))
    (pss_cons (ps_if (pt_cmpR op_gt (pe_callB call_len_str (by rfl) T.b_len (by decide +kernel) (pa_cons (pv 11) pa_nil)) (pe_op op_add (pe_callB call_len_str (by rfl) T.b_len (by decide +kernel) (pa_cons (pv 10) pa_nil)) pe_int) (nomark _)) (pss_one (ps_ret pe_bl)) pss_nil)
    (pss_cons (ps_set (i := 13) sc_l_is_rule.nd rfl (.inl rfl) (pe_slice sl_txt (pv 11) (po_some (pe_callB (call_max2 rfl) (by rfl) T.b_max (by decide +kernel) (pa_cons pe_int (pa_cons (pe_op op_sub (pe_callB call_len_str (by rfl) T.b_len (by decide +kernel) (pa_cons (pv 11) pa_nil)) pe_int) pa_nil)))) po_none))
    (pss_one (ps_if (pt_cmp (pc_dnotin (hu_of hr) (pv 13) (pv 8))) (pss_cons (ps_dput (hu_of hr) (pv 8) (pv 13) pe_bl rfl)
    (pss_one (ps_expr (pe_bm PySem.F.plainAttrs_list PySem.F.slot_list_append PySem.F.type_list_append mt_append (pv 9) (pa_cons (pv 13) pa_nil))))) pss_nil))))))))))
    (pss_one (ps_ret pe_bl)))))), ?_⟩
    obtain ⟨r, ps, kb, ht, hl, hs, hss⟩ := id htold
    have lss : ss.length = ps.length := by rw [hss, List.length_map]
    refine ⟨_, rfl, t, _, 1, _, rfl, rfl, SqT.of ht, rfl, r, rfl, ⟨_, SqL.of hl⟩, fun D nD => ?_⟩
    refine lc_it (walk_list (xs := ps.map V.ref)) (fun i H2 => Same H H2 ∧ H2 D = some (.lst ((ss.take i).map fun s => V.str (W s.1)))) ⟨same_upd nD, upd_same⟩ (fun i H2 _ h2 => h2.1.seq (SqL.of hl)) ?_ ?_
    · rintro i x H2 H3 hi ⟨s2, hD⟩ ⟨rfl, hx⟩
      rw [List.getElem?_map] at hx
      obtain ⟨q, hq, rfl⟩ := Option.map_eq_some_iff.mp hx
      have hqm : q ∈ ps := List.mem_of_getElem? hq
      have hsi : ss[i]? = some (kb q) := by rw [hss, List.getElem?_map, hq]; rfl
      rw [List.length_map] at hi
      refine ⟨q, _, rfl, SqT.of (s2 _ _ (hs q hqm)), rfl, _, _, rfl, _, _, rfl, rfl, rfl, ?_⟩
      refine ⟨_, rfl, _, hD, ?_, ?_, ?_⟩
      · rw [List.length_map, List.length_take]; exact sl_lt (by omega)
      · intro c' o e
        rw [upd_ne (ne_of_none e nD)]
        exact s2 _ _ e
      · rw [upd_same, List.take_add_one, hsi, List.map_append]; rfl
    · rintro H2 ⟨s2, hD⟩
      rw [List.length_map, ← lss, List.take_length] at hD
      have at' : ∀ {i : Nat} {y : V}, (ss.map fun s => V.str (W s.1))[i]? = some y → ∃ a, ss[i]? = some a ∧ y = .str (W a.1) := fun {i y} h => by
        rw [List.getElem?_map] at h
        obtain ⟨a, ha, e⟩ := Option.map_eq_some_iff.mp h
        exact ⟨a, ha, e.symm⟩
      refine ⟨_, rfl, D, _, rfl, SqL.of hD, ?_⟩
      refine for_it walk_enum (fun i σ H3 => ∃ v2 v3 v4 v5 v6 v7 v8 v9 v10 v11 v12 v13 : Option V, σ = [some (.ref t), some (.ref D), v2, v3, v4, v5, v6, v7, v8, v9, v10, v11, v12, v13] ∧ Same H H3 ∧ H3 D = some (.lst (ss.map fun s => V.str (W s.1))) ∧ ∀ (i' j : Nat) (a b : Stf), i' < i → i' ≠ j → ss[i']? = some a → ss[j]? = some b → b.1.isSuffixOf a.1 = false)
        ⟨none, none, none, none, none, none, none, none, none, none, none, none, rfl, s2, hD, fun i' j a b h => absurd h (Nat.not_lt_zero _)⟩ (fun i σ H3 _ h3 => by obtain ⟨_, _, _, _, _, _, _, _, _, _, _, _, _, _, h, _⟩ := h3; exact SqL.of h) ?_ ?_
      · rintro i x σ H3 H3' hi ⟨v2, v3, v4, v5, v6, v7, v8, v9, v10, v11, v12, v13, rfl, s3, hD3, hno⟩ ⟨T', y1, y2, rfl, nT, rfl, e1, e2⟩
        cases e1
        obtain ⟨a, ha, rfl⟩ := at' e2
        refine ⟨T', _, rfl, SqT.of upd_same, rfl, _, _, rfl, _, _, rfl, rfl, ?_⟩
        have s4 : Same H (upd H3 T' (.tup [.int (i : Nat), .str (W a.1)])) := s3.trans (same_upd nT)
        have hD4 : upd H3 T' (.tup [.int (i : Nat), .str (W a.1)]) D = some (.lst (ss.map fun s => V.str (W s.1))) := same_upd nT _ _ hD3
        generalize upd H3 T' (.tup [.int (i : Nat), .str (W a.1)]) = H4 at s4 hD4
        refine ⟨_, rfl, D, _, rfl, SqL.of hD4, ?_⟩
        refine for_it walk_enum (fun j σ H5 => ∃ v2 v3 v6 v7 v8 v9 v10 v11 v12 v13 : Option V, σ = [some (.ref t), some (.ref D), v2, v3, some (.int (i : Nat)), some (.str (W a.1)), v6, v7, v8, v9, v10, v11, v12, v13] ∧ Same H H5 ∧ H5 D = some (.lst (ss.map fun s => V.str (W s.1))) ∧ ∀ (j' : Nat) (b : Stf), j' < j → i ≠ j' → ss[j']? = some b → b.1.isSuffixOf a.1 = false)
          ⟨_, _, _, _, _, _, _, _, _, _, rfl, s4, hD4, fun j' b h => absurd h (Nat.not_lt_zero _)⟩ (fun i σ H3 _ h3 => by obtain ⟨_, _, _, _, _, _, _, _, _, _, _, _, h, _⟩ := h3; exact SqL.of h) ?_ ?_
        · rintro j x σ H5 H5' hj ⟨v2, v3, v6, v7, v8, v9, v10, v11, v12, v13, rfl, s5, hD5, hno5⟩ ⟨T2, y1, y2, rfl, nT2, rfl, e1, e2⟩
          cases e1
          obtain ⟨b', hb', rfl⟩ := at' e2
          refine ⟨T2, _, rfl, SqT.of upd_same, rfl, _, _, rfl, _, _, rfl, rfl, ?_⟩
          have s6 : Same H (upd H5 T2 (.tup [.int (j : Nat), .str (W b'.1)])) := s5.trans (same_upd nT2)
          have hD6 : upd H5 T2 (.tup [.int (j : Nat), .str (W b'.1)]) D = some (.lst (ss.map fun s => V.str (W s.1))) := same_upd nT2 _ _ hD5
          generalize upd H5 T2 (.tup [.int (j : Nat), .str (W b'.1)]) = H6 at s6 hD6
          refine ⟨_, rfl, _, rfl, rfl, _, rfl, ?_⟩
          by_cases ij : i = j
          · refine iteNS (by rw [ij]) ?_
            refine ⟨_, _, _, _, _, _, _, _, _, _, rfl, s6, hD6, fun j' b hj' nij hb => ?_⟩
            exact hno5 j' b (by omega) nij hb
          · refine iteNT (fun z => ij (by have := V.int.inj z; omega)) ?_
            refine ⟨_, rfl, ⟨_, rfl⟩, _, rfl, _, _, rfl, rfl, _, rfl, ?_⟩
            rw [W_ends]
            cases ce : b'.1.isSuffixOf a.1 with
            | true => exact k false _ s6 (fun z => by cases z)
            | false =>
              refine ⟨_, _, _, _, _, _, _, _, _, _, rfl, s6, hD6, fun j' b hj' nij hb => ?_⟩
              by_cases ej : j' = j
              · subst ej
                rw [hb'] at hb
                cases hb
                exact ce
              · exact hno5 j' b (by omega) nij hb
        · rintro σ H5 ⟨v2, v3, v6, v7, v8, v9, v10, v11, v12, v13, rfl, s5, hD5, hno5⟩
          refine ⟨_, _, _, _, _, _, _, _, _, _, _, _, rfl, s5, hD5, fun i' j a' b' hi' nij ha' hb' => ?_⟩
          by_cases ei : i' = i
          · subst ei
            rw [ha] at ha'
            cases ha'
            exact hno5 j b' (by rw [List.length_map]; exact (List.getElem?_eq_some_iff.mp hb').1) nij hb'
          · exact hno i' j a' b' (by omega) nij ha' hb'
      · rintro σ H3 ⟨v2, v3, v4, v5, v6, v7, v8, v9, v10, v11, v12, v13, rfl, s3, hD3, hno⟩
        have hfree : SufFree ss := sufFree_of fun i j a b nij ha hb => hno i j a b (by rw [List.length_map]; exact (List.getElem?_eq_some_iff.mp ha).1) nij ha hb
        clear hno hD3 hD s2
        refine fun d nd => ⟨upd_same, [(.inr "", .bl true)], rfl, by decide, by show 1 ≤ sizeLine; decide, fun q nq => ⟨_, _, rfl, ?_⟩⟩
        have nqd : q ≠ d := fun z => by rw [z, upd_same] at nq; cases nq
        have nd0 : H d = none := s3.free nd
        have nq0 : H q = none := by
          cases e : H q with
          | none => rfl
          | some o => rw [upd_ne nqd, upd_ne nqd, s3 _ _ e] at nq; cases nq
        have b0 : Dfs ss H (upd (upd (upd H3 d (.dK [])) d (.dK (mergeK [] [(.inr "", .bl true)]))) q (.lst [.str ""])) q d [[]] [[]] := by
          refine ⟨fun c o e => ?_, ?_, ?_, by simp, ?_, fun w hw => hw, List.mem_cons_self, Nat.le_refl _⟩
          · have n1 := ne_of_none e nd0
            have n2 := ne_of_none e nq0
            rw [upd_ne n2, upd_ne n1, upd_ne n1]
            exact s3 _ _ e
          · rw [upd_same, W_nil]; rfl
          · rw [upd_ne (Ne.symm nqd), upd_same, W_nil]; rfl
          · intro w hw; rw [List.mem_singleton.mp hw]; exact Nat.zero_le _
        generalize upd (upd (upd H3 d (.dK [])) d (.dK (mergeK [] [(.inr "", .bl true)]))) q (.lst [.str ""]) = H4 at b0
        refine ⟨fun m σ H5 => ∃ (kn wt : List (List Bool)) (v2 v3 v4 v5 v6 v7 v10 v11 v12 v13 : Option V), σ = [some (.ref t), some (.ref D), v2, v3, v4, v5, v6, v7, some (.ref d), some (.ref q), v10, v11, v12, v13] ∧ Dfs ss H H5 q d kn wt ∧ (∀ w ∈ kn, w ∈ wt ∨ ∀ b, Cls1 ss kn w b) ∧ m = wt.length + 2 * (64 - kn.length),
          ⟨_, [[]], [[]], _, _, _, _, _, _, _, _, _, _, rfl, b0, fun w hw => .inl hw, rfl⟩, ?_⟩
        rintro m σ H5 ⟨kn, wt, v2, v3, v4, v5, v6, v7, v10, v11, v12, v13, rfl, B5, hcl, rfl⟩
        refine ⟨_, rfl, Nat.zero_le _, fun p hp => ?_⟩
        have B6 := B5.on (same_upd (o := .lst []) hp)
        refine ⟨.list (wt.map dS), .list [], .lst (SqL.of B6.wait) (dp_strs _), .lst (SqL.of upd_same) .nil, shaped_strs _, shaped_nil, _, rfl, ?_⟩
        generalize upd H5 p (.lst []) = H6 at B6
        rw [eqv_nil]
        rcases List.eq_nil_or_concat wt with rfl | ⟨wt', w0, rfl⟩
        · refine k true H6 B6.same fun _ => ⟨hfree, okS_of kn h3 B6.nil fun w hw b => ?_⟩
          rcases hcl w hw with z | z
          · cases z
          · exact z b
        · rw [List.concat_eq_append] at *
          refine iteBT (by simp) ?_
          refine ⟨fun σ' H' => ∃ m', m' < (wt' ++ [w0]).length + 2 * (64 - kn.length) ∧ ∃ (kn wt : List (List Bool)) (v2 v3 v4 v5 v6 v7 v10 v11 v12 v13 : Option V), σ' = [some (.ref t), some (.ref D), v2, v3, v4, v5, v6, v7, some (.ref d), some (.ref q), v10, v11, v12, v13] ∧ Dfs ss H H' q d kn wt ∧ (∀ w ∈ kn, w ∈ wt ∨ ∀ b, Cls1 ss kn w b) ∧ m' = wt.length + 2 * (64 - kn.length), fun _ _ h => h, ?_⟩
          refine ⟨_, rfl, .inl ⟨rfl, _, SqL.of B6.wait⟩, q, _, .str (W w0), rfl, rfl, B6.wait, pop_end, ?_⟩
          rw [pop_rest]
          have w0k : w0 ∈ kn := B6.sub _ (List.mem_append_right _ List.mem_cons_self)
          have l0 : w0.length ≤ 5 := B6.short _ w0k
          have B7 : Dfs ss H (upd H6 q (.lst (wt'.map fun w => V.str (W w)))) q d kn wt' := by
            refine ⟨fun c o e => ?_, upd_same, ?_, B6.nodup, B6.short, fun w hw => B6.sub w (List.mem_append_left _ hw), B6.nil, by have := B6.le; rw [List.length_append] at this; omega⟩
            · rw [upd_ne (ne_of_none e nq0)]; exact B6.same _ _ e
            · rw [upd_ne (Ne.symm nqd)]; exact B6.known
          generalize upd H6 q (.lst (wt'.map fun w => V.str (W w))) = H7 at B7
          have hm0 : wt'.length + 2 * (64 - kn.length) < (wt' ++ [w0]).length + 2 * (64 - kn.length) := by rw [List.length_append, List.length_cons, List.length_nil]; omega
          have hcl7 : ∀ u ∈ kn, u ∈ wt' ∨ u = w0 ∨ ∀ b, Cls1 ss kn u b := fun u hu => by
            rcases hcl u hu with z | z
            · rcases List.mem_append.mp z with z | z
              · exact .inl z
              · exact .inr (.inl (List.mem_singleton.mp z))
            · exact .inr (.inr z)
          generalize (wt' ++ [w0]).length + 2 * (64 - kn.length) = m at hm0 ⊢
          refine ⟨_, rfl, for_it walk_str (fun i σ H8 => ∃ (kn wt : List (List Bool)) (v2 v3 v4 v5 v6 v7 v11 v12 v13 : Option V), σ = [some (.ref t), some (.ref D), v2, v3, v4, v5, v6, v7, some (.ref d), some (.ref q), some (.str (W w0)), v11, v12, v13] ∧ Dfs ss H H8 q d kn wt ∧ w0 ∈ kn ∧ (∀ u ∈ kn, u ∈ wt ∨ u = w0 ∨ ∀ b, Cls1 ss kn u b) ∧ (∀ (j : Nat) (b : Bool), j < i → [false, true][j]? = some b → Cls1 ss kn w0 b) ∧ wt.length + 2 * (64 - kn.length) < m)
            ⟨kn, wt', _, _, _, _, _, _, _, _, _, rfl, B7, w0k, hcl7, fun j b h => absurd h (Nat.not_lt_zero _), hm0⟩ (fun _ _ _ _ _ => trivial) ?_ ?_⟩
          · clear hcl7 B7 B6 B5 hm0 w0k hcl
            rintro i x σ H8 H8' hi ⟨kn, wt, v2, v3, v4, v5, v6, v7, v11, v12, v13, rfl, B8, w0k, hcl8, hbits, hm8⟩ ⟨rfl, c, hc, rfl⟩
            have e01 : ("01" : Str) = W [false, true] := by decide +kernel
            rw [e01] at hc
            obtain ⟨bb, hbb, rfl⟩ := W_get hc
            have ew : W w0 ++ (⟨#[bt bb]⟩ : Str) = W (w0 ++ [bb]) := W_cat w0 [bb]
            have el : (W w0).length + (⟨#[bt bb]⟩ : Str).length ≤ sizeLine := by
              have e1 : (W w0).length = w0.length := W_len _
              have e2 : (⟨#[bt bb]⟩ : Str).length = 1 := W_len [bb]
              rw [e1, e2]; exact sl_len (by omega)
            refine ⟨_, rfl, _, rfl, _, _, rfl, rfl, el, ?_⟩
            rw [ew]
            have hll : (w0 ++ [bb]).length ≤ 6 := by rw [List.length_append, List.length_cons, List.length_nil]; omega
            refine ⟨_, rfl, by decide, by decide, for_it walk_range (fun i σ H9 => ∃ (v12 v13 : Option V), σ = [some (.ref t), some (.ref D), v2, some (.str ⟨#[bt bb]⟩), v4, v5, v6, v7, some (.ref d), some (.ref q), some (.str (W w0)), some (.str (W (itP ss i (w0 ++ [bb])))), v12, v13] ∧ Same H8' H9) ⟨_, _, rfl, Same.refl _⟩ (fun _ _ _ _ _ => trivial) ?_ ?_⟩
            · rintro i9 x σ H9 H9' hi9 ⟨v12, v13, rfl, s9⟩ ⟨rfl, rfl⟩
              have hi24 : i9 < 24 := hi9
              have hle := itP_le ss i9 (w0 ++ [bb])
              have e1 : (W (itP ss i9 (w0 ++ [bb]))).length = (itP ss i9 (w0 ++ [bb])).length := W_len _
              refine ⟨_, rfl, _, rfl, _, rfl, t, fl, _, ss, rfl, (htold.same B8.same).same s9, by omega, h2, fun s hs => Nat.le_trans (h3 s hs) (by decide), fun H10 s10 => ⟨_, _, rfl, rfl, ?_, ?_⟩⟩
              · have e2 : (W (putL ss (itP ss i9 (w0 ++ [bb])))).length = (putL ss (itP ss i9 (w0 ++ [bb]))).length := W_len _
                have := putL_len ss (itP ss i9 (w0 ++ [bb]))
                rw [e1, e2]; exact sl_len (by omega)
              · rw [W_cat, ← stP_eq, ← itP_succ]
                exact ⟨_, _, rfl, s9.trans s10⟩
            · rintro σ H9 ⟨v12, v13, rfl, s9⟩
              have hle := itP_le ss 24 (w0 ++ [bb])
              have e24 : (24 : Int).toNat = 24 := rfl
              have B9 := B8.on s9
              have e1 : (W (itP ss 24 (w0 ++ [bb]))).length = (itP ss 24 (w0 ++ [bb])).length := W_len _
              have e2 : (W w0).length = w0.length := W_len _
              have l1 : (W (itP ss 24 (w0 ++ [bb]))).length ≤ sizeLine := by rw [e1]; exact sl_len (by omega)
              refine ⟨_, rfl, _, rfl, l1, _, rfl, _, rfl, by rw [e2]; exact sl_len (by omega), _, _, rfl, rfl, _, _, rfl, rfl, _, rfl, ?_⟩
              by_cases cl : w0.length + 20 < (itP ss 24 (w0 ++ [bb])).length
              · refine iteDT (by rw [e2]; show _ < (((W (itP ss 24 (w0 ++ [bb]))).length : Nat) : Int); rw [e1]; omega) ?_
                exact k false _ B9.same (fun z => by cases z)
              · refine iteDF (by rw [e2]; show ¬ _ < (((W (itP ss 24 (w0 ++ [bb]))).length : Nat) : Int); rw [e1]; omega) ?_
                refine ⟨_, rfl, _, rfl, _, rfl, l1, _, _, rfl, rfl, _, _, rfl, _, rfl, _, rfl, l1, ?_⟩
                show gName 13 (.str (Txt.slice (W (itP ss 24 (w0 ++ [bb]))) (some (if (((W (itP ss 24 (w0 ++ [bb]))).length : Nat) : Int) - 5 > 0 then (((W (itP ss 24 (w0 ++ [bb]))).length : Nat) : Int) - 5 else 0)) none)) _ _ _
                rw [W_tail5]
                refine ⟨_, rfl, _, rfl, d, _, rfl, DGet.k (k := .inr (W (tl 5 (itP ss 24 (w0 ++ [bb]))))) B9.known, _, rfl, ?_⟩
                have few9 := B9.few
                by_cases hin : tl 5 (itP ss 24 (w0 ++ [bb])) ∈ kn
                · refine iteBF (by rw [val_in hin]; rfl) ?_
                  refine ⟨kn, wt, _, _, _, _, _, _, _, _, _, rfl, B9, w0k, hcl8, fun j b hj hb => ?_, hm8⟩
                  by_cases ej : j = i
                  · subst ej
                    rw [hbb] at hb
                    cases hb
                    exact ⟨by omega, hin⟩
                  · exact hbits j b (by omega) hb
                · refine iteBT (by rw [val_out hin]; rfl) ?_
                  refine ⟨_, rfl, _, rfl, d, _, rfl, DPut.k (k := .inr (W (tl 5 (itP ss 24 (w0 ++ [bb]))))) B9.known (by unfold kst; rw [List.length_map]; exact sl_lt (by omega)), ?_⟩
                  rw [put_out hin]
                  have hW : upd H9 d (.dK (kst (kn ++ [tl 5 (itP ss 24 (w0 ++ [bb]))]))) q = some (.lst (wt.map fun w => V.str (W w))) := by rw [upd_ne nqd]; exact B9.wait
                  have wtl : wt.length < 1000 := by have := B9.le; omega
                  refine ⟨_, rfl, .inl ⟨rfl, _, SqL.of hW⟩, _, rfl, q, _, _, rfl, rfl, hW, by rw [List.length_map]; exact sl_lt (by omega), ?_⟩
                  refine ⟨kn ++ [tl 5 (itP ss 24 (w0 ++ [bb]))], wt ++ [tl 5 (itP ss 24 (w0 ++ [bb]))], _, _, _, _, _, _, _, _, _, rfl, ⟨fun c o e => ?_, ?_, ?_, ?_, ?_, ?_, List.mem_append_left _ B9.nil, by have := B9.le; rw [List.length_append, List.length_append]; exact Nat.add_le_add_right this _⟩, List.mem_append_left _ w0k, fun u hu => ?_, fun j b hj hb => ?_, ?_⟩
                  · rw [upd_ne (ne_of_none e nq0), upd_ne (ne_of_none e nd0)]
                    exact B9.same _ _ e
                  · rw [upd_same, List.map_append]; rfl
                  · rw [upd_ne (Ne.symm nqd), upd_same]
                  · rw [List.nodup_append]
                    refine ⟨B9.nodup, by simp, fun u hu v hv e => ?_⟩
                    rw [List.mem_singleton.mp hv] at e
                    exact hin (e ▸ hu)
                  · intro u hu
                    rcases List.mem_append.mp hu with z | z
                    · exact B9.short _ z
                    · rw [List.mem_singleton.mp z]; exact tl_le _ _
                  · intro u hu
                    rcases List.mem_append.mp hu with z | z
                    · exact List.mem_append_left _ (B9.sub _ z)
                    · exact List.mem_append_right _ z
                  · rcases List.mem_append.mp hu with z | z
                    · rcases hcl8 u z with z | z | z
                      · exact .inl (List.mem_append_left _ z)
                      · exact .inr (.inl z)
                      · exact .inr (.inr fun b => (z b).more)
                    · exact .inl (List.mem_append_right _ z)
                  · by_cases ej : j = i
                    · subst ej
                      rw [hbb] at hb
                      cases hb
                      exact ⟨by omega, List.mem_append_right _ List.mem_cons_self⟩
                    · exact (hbits j b (by omega) hb).more
                  · rw [List.length_append, List.length_append, List.length_cons, List.length_nil]; omega
          · rintro σ H8 ⟨kn, wt, v2, v3, v4, v5, v6, v7, v11, v12, v13, rfl, B8, w0k, hcl8, hbits, hm8⟩
            refine ⟨_, hm8, kn, wt, _, _, _, _, _, _, _, _, _, _, rfl, B8, fun u hu => ?_, rfl⟩
            rcases hcl8 u hu with z | z | z
            · exact .inl z
            · rw [z]
              refine .inr fun b => ?_
              have e2 : ("01" : Str).cps.size = 2 := by decide +kernel
              cases b with
              | false => exact hbits 0 false (by rw [e2]; decide) rfl
              | true => exact hbits 1 true (by rw [e2]; decide) rfl
            · exact .inr z
end
end U

set_option maxRecDepth 100000
set_option maxHeartbeats 4000000
namespace U
open PySem PySem.Spec PyProof.Rows
open L2 hiding Fun CX0 E0 pass0 Fun.binds
open C8 Lx SX StX
def spRule : Sp := fun vs H Q _ => ∃ (b : Addr) (wd lo : Nat), vs = [.ref b, .int wd, .int lo] ∧ Box H b ∧ 2 ≤ wd ∧ wd ≤ 100 ∧ 1 ≤ lo ∧ lo ≤ 5 ∧
  ∀ (t : Addr) (f : List Bool) (ss : List Stf) H', Up b H H' → Told H' t f ss → 2 ≤ f.length → f.length ≤ max wd 3 → ss.length ≤ 2 → StOk ss → OkS ss → (∀ s ∈ ss, s.1.length ≤ lo) → Q (.ref t) H'
theorem told_const {H : Hp} {p1 p2 p3 : Addr} {z0 z1 z2 : Str} {f p : List Bool} {b : Bool} (e0 : z0 = W f) (e1 : z1 = W p) (e2 : z2 = W [b]) (n1 : H p1 = none) (n2 : upd H p1 (.tup [.str z1, .str z2]) p2 = none) (n3 : upd (upd H p1 (.tup [.str z1, .str z2])) p2 (.lst [.ref p1]) p3 = none) :
    Same H (upd (upd (upd H p1 (.tup [.str z1, .str z2])) p2 (.lst [.ref p1])) p3 (.tup [.str z0, .ref p2])) ∧ Told (upd (upd (upd H p1 (.tup [.str z1, .str z2])) p2 (.lst [.ref p1])) p3 (.tup [.str z0, .ref p2])) p3 f [(p, b)] := by
  refine ⟨((same_upd n1).trans (same_upd n2)).trans (same_upd n3), p2, [p1], fun _ => (p, b), ?_, ?_, ?_, rfl⟩
  · rw [upd_same, e0]
  · exact same_upd n3 _ _ upd_same
  · intro t ht
    rw [List.mem_singleton.mp ht, ← e1, ← e2]
    exact same_upd n3 _ _ (same_upd n2 _ _ upd_same)
/-- one of the rules that the law knows -/
def Good1 (m n : Nat) (H : Hp) (x : Addr) : Prop := ∃ f p b, Told H x f [(p, b)] ∧ 2 ≤ f.length ∧ f.length ≤ m ∧ p ≠ [] ∧ p.length ≤ n ∧ OkS [(p, b)]
theorem Good1.same {m n : Nat} {H H' : Hp} {x : Addr} (h : Good1 m n H x) (e : Same H H') : Good1 m n H' x := by
  obtain ⟨f, p, b, h1, h2⟩ := h
  exact ⟨f, p, b, h1.same e, h2⟩
theorem Good1.up {m n : Nat} {b : Addr} {H H' : Hp} {x : Addr} (hb : Box H b) (h : Good1 m n H x) (e : Up b H H') : Good1 m n H' x := by
  obtain ⟨f, p, b, h1, h2⟩ := h
  exact ⟨f, p, b, h1.up hb e, h2⟩
theorem told1 {H : Hp} {x : Addr} {f p : List Bool} {b : Bool} (h : Told H x f [(p, b)]) : ∃ l q, H x = some (.tup [.str (W f), .ref l]) ∧ H l = some (.lst [.ref q]) ∧ H q = some (.tup [.str (W p), .str (W [b])]) := by
  obtain ⟨l, ps, kb, h1, h2, h3, h4⟩ := h
  cases ps with
  | nil => cases h4
  | cons q r =>
    cases r with
    | cons _ _ => have := congrArg List.length h4; simp at this
    | nil =>
      have e : kb q = (p, b) := (List.cons.inj h4).1.symm
      have := h3 q List.mem_cons_self
      rw [e] at this
      exact ⟨l, q, h1, h2, this⟩
theorem told_dp {K : PySem.W.Frag} {m n : Nat} {H : Hp} {x : Addr} (h : Good1 m n H x) : ∃ d, Dp K H (.ref x) d ∧ DOk 3 d := by
  obtain ⟨f, p, b, h1, _⟩ := h
  obtain ⟨l, q, hx, hl, hq⟩ := told1 h1
  refine ⟨.tuple [.str (W f), .list [.tuple [.str (W p), .str (W [b])]]], .tup (SqT.of hx) (.cons (.str _) (.cons (.lst (SqL.of hl) (.cons (.tup (SqT.of hq) (.cons (.str _) (.cons (.str _) .nil))) .nil)) .nil)), ?_⟩
  have w0 : ∀ {n : Nat} (x : List Bool), DOk n (.str (W x)) := fun x => ⟨strOk_W x, Nat.zero_le _⟩
  refine dok_tup fun d hd => ?_
  rcases List.mem_cons.mp hd with rfl | hd
  · exact w0 _
  · rw [List.mem_singleton.mp hd]
    refine dok_list fun d hd => ?_
    rw [List.mem_singleton.mp hd]
    refine dok_tup fun d hd => ?_
    rcases List.mem_cons.mp hd with rfl | hd
    · exact w0 _
    · rw [List.mem_singleton.mp hd]; exact w0 _
theorem tolds_dp {K : PySem.W.Frag} {m n : Nat} {H : Hp} : ∀ {ts : List Addr}, (∀ x ∈ ts, Good1 m n H x) → ∃ ds, DpAll K H (ts.map V.ref) ds ∧ (∀ d ∈ ds, DOk 3 d) ∧ ds.isEmpty = ts.isEmpty
  | [], _ => ⟨[], .nil, (fun _ h => nomatch h), rfl⟩
  | x :: r, h => by
    obtain ⟨d, h1, h2⟩ := told_dp (K := K) (h x List.mem_cons_self)
    obtain ⟨ds, h3, h4, _⟩ := tolds_dp (K := K) (ts := r) fun y hy => h y (List.mem_cons_of_mem _ hy)
    refine ⟨d :: ds, .cons h1 h3, fun e he => ?_, rfl⟩
    rcases List.mem_cons.mp he with rfl | he
    · exact h2
    · exact h4 e he
theorem stOk1 {p : List Bool} {b : Bool} (h0 : p ≠ []) (h : p.length ≤ 5) : StOk [(p, b)] := by
  refine ⟨by show 1 ≤ 1000; decide, fun s hs => ?_, ?_, List.pairwise_singleton _ _⟩
  · rw [List.mem_singleton.mp hs]; exact h0
  · refine longM_max fun s hs => ?_
    rw [List.mem_singleton.mp hs]
    show p.length ≤ 9
    omega
theorem mem5 {v : V} (h : v ∈ ([.int 0, .int 1, .int 1, .int 1, .int 2] : List V)) : ∃ n : Nat, v = .int n ∧ n ≤ 2 := by
  rcases List.mem_cons.mp h with rfl | h
  · exact ⟨0, rfl, by decide⟩
  · rcases List.mem_cons.mp h with rfl | h
    · exact ⟨1, rfl, by decide⟩
    · rcases List.mem_cons.mp h with rfl | h
      · exact ⟨1, rfl, by decide⟩
      · rcases List.mem_cons.mp h with rfl | h
        · exact ⟨1, rfl, by decide⟩
        · exact ⟨2, List.mem_singleton.mp h, by decide⟩
section
variable {P : Program} {w : World} {K : PySem.W.Frag} {mg : Str → Option Value} {base : Heap}
theorem sc_l_rule : FnScope ["_law_box", "_law_widest", "_law_longest_one", "_law_some", "_law_one", "_law_turn", "_law_stuffs", "_law_more", "_law_told"] ["_law_box", "_law_widest", "_law_longest_one"] (fnScope s_l_rule) := fnScope_by (by decide +kernel)
theorem cal_l_rule {f : Addr} {fd : FuncData} (F : Def K mg "_law_rule" s_l_rule f fd) (b : Binds K fd ["_law_box", "_law_widest", "_law_longest_one"] []) (T : Tx mg) (c_l_choose : Cal P w K mg base 1 "_law_choose" spChoose []) (c_l_one_of : Cal P w K mg base 2 "_law_one_of" spOneOf []) (c_l_word : Cal P w K mg base 3 "_law_word" spWordF [])
    (c_l_is_rule : Cal P w K mg base 2 "_law_is_rule" spIsRule []) : Cal P w K mg base 4 "_law_rule" spRule [] := by
  refine cal0 F b .nil sc_l_rule (fun vs H Q E h => ?_) (fun cdv A outer s H vs Q E hr h => ?_)
  · obtain ⟨_, _, _, rfl, _⟩ := h; rfl
  · obtain ⟨bx, wd, lo, rfl, hb, w2, w100, l1, l5, k⟩ := h
    refine ⟨_, (pss_cons (ps_set (i := 3) sc_l_rule.nd rfl (.inl rfl) (pe_lst (pa_cons (pe_tup (pa_cons pe_str (pa_cons (pe_lst (pa_cons (pe_tup (pa_cons pe_str (pa_cons pe_str pa_nil))) pa_nil)) pa_nil))) (pa_cons (pe_tup (pa_cons pe_str (pa_cons (pe_lst (pa_cons (pe_tup (pa_cons pe_str (pa_cons pe_str pa_nil))) pa_nil)) pa_nil))) (pa_cons (pe_tup (pa_cons pe_str (pa_cons (pe_lst (pa_cons (pe_tup (pa_cons pe_str (pa_cons pe_str pa_nil))) pa_nil)) pa_nil))) (pa_cons (pe_tup (pa_cons pe_str (pa_cons (pe_lst (pa_cons (pe_tup (pa_cons pe_str (pa_cons pe_str pa_nil))) pa_nil)) pa_nil))) pa_nil))))))
    (pss_cons (ps_setLc (i := 3) (own := [("_law_one", 4)]) (g := gName 4) (by rfl) sc_l_rule.nd rfl rfl (sw_true rfl rfl rfl (by decide +kernel)) (pi_list (pv 3)) (blkOk_by (own := [("_law_one", 4)]) (N := ["_law_box", "_law_widest", "_law_longest_one", "_law_some", "_law_one", "_law_turn", "_law_stuffs", "_law_more", "_law_told"]) (sc := fnScope s_l_rule) (by decide +kernel)) (fun _ _ _ _ _ => (pg_name (i := 4) sc_l_rule.nd rfl (.inl rfl))) (fun _ _ _ _ _ => (pts_one (PW.pt (pw_and (pt_cmpR op_le (pe_callB call_len_str (by rfl) T.b_len (by decide +kernel) (pa_cons (pe_ix (show IxR _ (rIxT K) from ix_tup) (pv 4) pe_int (fun _ _ => rfl)) pa_nil)) (pv 1) (nomark _)) (pw_and1 (pt_cmpR op_le (pe_callB call_len_str (by rfl) T.b_len (by decide +kernel) (pa_cons (pe_ix (show IxR _ (rIxT K) from ix_tup) (pe_ix (show IxR _ (rIxL K) from ix_list) (pe_ix (show IxR _ (rIxT K) from ix_tup) (pv 4) pe_int (fun _ _ => rfl)) pe_int (fun _ _ => rfl)) pe_int (fun _ _ => rfl)) pa_nil)) (pv 2) (nomark _))))))) (fun _ _ _ _ _ => (pv 4)))
    (pss_cut (ps_if (PW.pt (pw_and (pt_cmpR (op_neD hr.units) (pv 3) (pe_lst pa_nil) (nomark _)) (pw_and1 (pt_cmpR op_eq (pe_c c_l_choose hr (by decide) rfl (pa_cons (pv 0) (pa_cons pe_int pa_nil))) pe_int (nomark _))))) (pss_one (ps_ret (pe_c c_l_one_of hr (by decide) rfl (pa_cons (pv 0) (pa_cons (pv 3) pa_nil))))) pss_nil)
    (pss_cons (ps_for PassesOwn.never rfl (pi_range1 (by rfl) T.b_range (pa_cons pe_int pa_nil)) (pg_name (i := 5) sc_l_rule.nd rfl (.inl rfl))
    (pss_cons (ps_set (i := 6) sc_l_rule.nd rfl (.inl rfl) (pe_lst pa_nil))
    (pss_cons (ps_for PassesOwn.never rfl (pi_range1 (by rfl) T.b_range (pa_cons (pe_c c_l_one_of hr (by decide) rfl (pa_cons (pv 0) (pa_cons (pe_lst (pa_cons pe_int (pa_cons pe_int (pa_cons pe_int (pa_cons pe_int (pa_cons pe_int pa_nil)))))) pa_nil))) pa_nil)) (pg_name (i := 7) sc_l_rule.nd rfl (.inl rfl))
    (pss_one (ps_expr (pe_bm PySem.F.plainAttrs_list PySem.F.slot_list_append PySem.F.type_list_append mt_append (pv 6) (pa_cons (pe_tup (pa_cons (pe_c c_l_word hr (by decide) rfl (pa_cons (pv 0) (pa_cons pe_int (pa_cons (pv 2) pa_nil)))) (pa_cons (pe_c c_l_one_of hr (by decide) rfl (pa_cons (pv 0) (pa_cons (pe_lst (pa_cons pe_str (pa_cons pe_str pa_nil))) pa_nil))) pa_nil))) pa_nil)))))
    (pss_cons (ps_set (i := 8) sc_l_rule.nd rfl (.inl rfl) (pe_tup (pa_cons (pe_c c_l_word hr (by decide) rfl (pa_cons (pv 0) (pa_cons pe_int (pa_cons (pv 1) pa_nil)))) (pa_cons (pv 6) pa_nil))))
    (pss_one (ps_if (pt_val (pe_c c_l_is_rule hr (by decide) rfl (pa_cons (pv 8) pa_nil))) (pss_one (ps_ret (pv 8))) pss_nil))))))
    (pss_one (ps_ret (pe_tup (pa_cons pe_str (pa_cons (pe_lst pa_nil) pa_nil))))))))), ?_⟩
    have i1 : 1 ≤ sizeLine := by decide
    have i2 : 2 ≤ sizeLine := by decide
    refine ⟨i2, fun a1 na1 => ⟨i1, fun a2 na2 => ⟨i2, fun a3 na3 => ?_⟩⟩⟩
    obtain ⟨sa, ta⟩ := told_const (z0 := "01110") (z1 := "11") (z2 := "0") (f := [false, true, true, true, false]) (p := [true, true]) (b := false) (by decide +kernel) (by decide +kernel) (by decide +kernel) na1 na2 na3
    generalize upd (upd (upd H a1 (.tup [.str "11", .str "0"])) a2 (.lst [.ref a1])) a3 (.tup [.str "01110", .ref a2]) = Ha at sa ta
    refine ⟨i2, fun b1 nb1 => ⟨i1, fun b2 nb2 => ⟨i2, fun b3 nb3 => ?_⟩⟩⟩
    obtain ⟨sb, tb⟩ := told_const (z0 := "0010") (z1 := "001") (z2 := "1") (f := [false, false, true, false]) (p := [false, false, true]) (b := true) (by decide +kernel) (by decide +kernel) (by decide +kernel) nb1 nb2 nb3
    generalize upd (upd (upd Ha b1 (.tup [.str "001", .str "1"])) b2 (.lst [.ref b1])) b3 (.tup [.str "0010", .ref b2]) = Hb at sb tb
    refine ⟨i2, fun c1 nc1 => ⟨i1, fun c2 nc2 => ⟨i2, fun c3 nc3 => ?_⟩⟩⟩
    obtain ⟨sc, tc⟩ := told_const (z0 := "11") (z1 := "1") (z2 := "0") (f := [true, true]) (p := [true]) (b := false) (by decide +kernel) (by decide +kernel) (by decide +kernel) nc1 nc2 nc3
    generalize upd (upd (upd Hb c1 (.tup [.str "1", .str "0"])) c2 (.lst [.ref c1])) c3 (.tup [.str "11", .ref c2]) = Hc at sc tc
    refine ⟨i2, fun d1 nd1 => ⟨i1, fun d2 nd2 => ⟨i2, fun d3 nd3 => ?_⟩⟩⟩
    obtain ⟨sd, td⟩ := told_const (z0 := "10001") (z1 := "00") (z2 := "1") (f := [true, false, false, false, true]) (p := [false, false]) (b := true) (by decide +kernel) (by decide +kernel) (by decide +kernel) nd1 nd2 nd3
    generalize upd (upd (upd Hc d1 (.tup [.str "00", .str "1"])) d2 (.lst [.ref d1])) d3 (.tup [.str "10001", .ref d2]) = Hd at sd td
    refine ⟨by show 4 ≤ sizeLine; decide, fun L nL => ?_⟩
    have sL : Same H (upd Hd L (.lst [.ref a3, .ref b3, .ref c3, .ref d3])) := ((((sa.trans sb).trans sc).trans sd)).trans (same_upd nL)
    have hL : upd Hd L (.lst [.ref a3, .ref b3, .ref c3, .ref d3]) L = some (.lst ([a3, b3, c3, d3].map V.ref)) := upd_same
    have hG : ∀ x ∈ [a3, b3, c3, d3], Good1 5 3 (upd Hd L (.lst [.ref a3, .ref b3, .ref c3, .ref d3])) x := fun x hx => by
      have g : Good1 5 3 Hd x := by
        rcases List.mem_cons.mp hx with rfl | hx
        · exact ⟨_, _, _, ((ta.same sb).same sc).same sd, by decide, by decide, by decide, by decide, okS_11⟩
        · rcases List.mem_cons.mp hx with rfl | hx
          · exact ⟨_, _, _, (tb.same sc).same sd, by decide, by decide, by decide, by decide, okS_001⟩
          · rcases List.mem_cons.mp hx with rfl | hx
            · exact ⟨_, _, _, tc.same sd, by decide, by decide, by decide, by decide, okS_1⟩
            · rw [List.mem_singleton.mp hx]
              exact ⟨_, _, _, td, by decide, by decide, by decide, by decide, okS_00⟩
      exact g.same (same_upd nL)
    generalize upd Hd L (.lst [.ref a3, .ref b3, .ref c3, .ref d3]) = H5 at sL hL hG
    clear td tc tb ta sd sc sb sa
    have las : [a3, b3, c3, d3].length ≤ 900 := by show 4 ≤ 900; decide
    generalize [a3, b3, c3, d3] = as at hL hG las
    refine ⟨_, rfl, L, rfl, ⟨_, SqL.of hL⟩, fun D nD => ?_⟩
    refine lc_it (walk_list (xs := as.map V.ref)) (fun i H2 => Same H5 H2 ∧ ∃ ts : List Addr, H2 D = some (.lst (ts.map V.ref)) ∧ ts.length ≤ i ∧ ∀ x ∈ ts, Good1 wd lo H5 x) ⟨same_upd nD, [], upd_same, Nat.zero_le _, fun _ h => nomatch h⟩ (fun i H2 _ h2 => h2.1.seq (SqL.of hL)) ?_ ?_
    · rintro i x H2 H3 hi ⟨s2, ts, hD, hts, hall⟩ ⟨rfl, hx⟩
      rw [List.getElem?_map] at hx
      obtain ⟨x, hq, rfl⟩ := Option.map_eq_some_iff.mp hx
      have g := hG x (List.mem_of_getElem? hq)
      obtain ⟨f0, p0, b0, tx, f2, f5, p1, p3, okr⟩ := id g
      obtain ⟨l, q, hx5, hl5, hq5⟩ := told1 tx
      rw [List.length_map] at hi
      have ef : (W f0).length = f0.length := W_len _
      have ep : (W p0).length = p0.length := W_len _
      refine ⟨rfl, ?_⟩
      refine ⟨_, rfl, x, _, 0, _, rfl, rfl, SqT.of (s2 _ _ hx5), rfl, _, rfl, by rw [ef]; exact sl_len (by omega), _, rfl, _, _, rfl, rfl, _, rfl, ?_⟩
      by_cases cf : f0.length ≤ wd
      · refine iteDT (by rw [ef]; omega) ?_
        refine ⟨_, rfl, x, _, 1, _, rfl, rfl, SqT.of (s2 _ _ hx5), rfl, l, _, 0, _, rfl, rfl, SqL.of (s2 _ _ hl5), rfl, q, _, 0, _, rfl, rfl, SqT.of (s2 _ _ hq5), rfl, _, rfl, by rw [ep]; exact sl_len (by omega), _, rfl, _, _, rfl, rfl, _, rfl, ?_⟩
        by_cases cp : p0.length ≤ lo
        · refine iteDT (by rw [ep]; omega) ?_
          refine ⟨_, rfl, _, hD, by rw [List.length_map]; exact sl_lt (by omega), ?_, ts ++ [x], ?_, by rw [List.length_append, List.length_cons, List.length_nil]; omega, fun y hy => ?_⟩
          · intro c' o e
            rw [upd_ne (ne_of_none e nD)]
            exact s2 _ _ e
          · rw [upd_same, List.map_append]; rfl
          · rcases List.mem_append.mp hy with m | m
            · exact hall y m
            · rw [List.mem_singleton.mp m]
              exact ⟨f0, p0, b0, tx, f2, cf, p1, cp, okr⟩
        · refine iteDF (by rw [ep]; omega) ?_
          exact ⟨s2, ts, hD, by omega, hall⟩
      · refine iteDF (by rw [ef]; omega) ?_
        exact ⟨s2, ts, hD, by omega, hall⟩
    · rintro H2 ⟨s2, ts, hD, hts, hall⟩
      rw [List.length_map] at hts
      have s02 : Same H H2 := sL.trans s2
      have hall2 : ∀ x ∈ ts, Good1 wd lo H2 x := fun x hx => (hall x hx).same s2
      clear hall hG hL
      have nDb : D ≠ bx := Box.ne (hb.same sL) nD
      have hD0 : H D = none := sL.free nD
      refine ⟨fun σ' H' => σ' = [some (.ref bx), some (.int wd), some (.int lo), some (.ref D), none, none, none, none, none] ∧ Up bx H H', ?_, ?_⟩
      · refine ⟨_, rfl, Nat.zero_le _, fun p hp => ?_⟩
        have s3 : Same H2 (upd H2 p (.lst [])) := same_upd hp
        obtain ⟨ds, hds, hok, hem⟩ := tolds_dp (K := K) fun x hx => (hall2 x hx).same s3
        refine ⟨.list ds, .list [], .lst (SqL.of (s3 _ _ hD)) hds, .lst (SqL.of upd_same) .nil, (dok_list hok).shaped (by decide), shaped_nil, _, rfl, ?_⟩
        rw [eqv_nil, hem]
        have s03 := s02.trans s3
        have hall3 : ∀ x ∈ ts, Good1 wd lo (upd H2 p (.lst [])) x := fun x hx => (hall2 x hx).same s3
        have hD3 := s3 _ _ hD
        generalize upd H2 p (.lst []) = H3 at s03 hall3 hD3
        cases hte : ts.isEmpty with
        | true => exact ⟨rfl, Up.of_same hb s03⟩
        | false =>
          have u3 := Up.of_same hb s03
          refine ⟨_, rfl, bx, 2, rfl, u3.2, by decide, by decide, fun d H4 d0 d1 u4 => ⟨rfl, _, rfl, ?_⟩⟩
          have u34 := u3.trans u4
          have hD4 := u4.1 _ _ hD3 nDb
          refine ite2 (fun _ => ?_) (fun _ => ⟨rfl, u34⟩)
          have hne : ts ≠ [] := fun z => by rw [z] at hte; cases hte
          refine ⟨_, rfl, _, rfl, bx, D, _, rfl, u34.2, hD4, nDb, ?_, ?_, fun v H5' hv u5 => ?_⟩
          · rw [List.length_map]; exact List.length_pos_iff.mpr hne
          · rw [List.length_map]; omega
          · obtain ⟨x, hx, rfl⟩ := List.mem_map.mp hv
            obtain ⟨f0, p0, b0, tx, h2, h5, hp0, hlo, okr⟩ := ((hall3 x hx).up u3.2 u4).up u34.2 u5
            refine k x f0 [(p0, b0)] H5' (u34.trans u5) tx h2 (by omega) (by show 1 ≤ 2; decide) (stOk1 hp0 (by omega)) okr fun s hs => ?_
            rw [List.mem_singleton.mp hs]
            exact hlo
      · clear hall2 hD hts s02 s2 hD0 nDb
        rintro σ' H3 ⟨rfl, u3⟩
        refine ⟨_, rfl, by decide, by decide, for_it walk_range (fun i σ H4 => ∃ v5 v6 v7 v8 : Option V, σ = [some (.ref bx), some (.int wd), some (.int lo), some (.ref D), none, v5, v6, v7, v8] ∧ Up bx H H4) ⟨_, _, _, _, rfl, u3⟩ (fun _ _ _ _ _ => trivial) ?_ ?_⟩
        · rintro i x σ H4 H4' hi ⟨v5, v6, v7, v8, rfl, u4⟩ ⟨rfl, rfl⟩
          refine ⟨Nat.zero_le _, fun S nS => ?_⟩
          have nSb : S ≠ bx := u4.2.ne nS
          have nS0 : H S = none := u4.free nS
          have u5 : Up bx H (upd H4' S (.lst [])) := u4.same (same_upd nS)
          have hS5 : upd H4' S (.lst []) S = some (.lst []) := upd_same
          generalize upd H4' S (.lst []) = H5' at u5 hS5
          refine ⟨_, rfl, by show 5 ≤ sizeLine; decide, fun l0 nl0 => ?_⟩
          have u6 := u5.same (same_upd (o := .lst [.int 0, .int 1, .int 1, .int 1, .int 2]) nl0)
          refine ⟨bx, l0, _, rfl, u6.2, upd_same, u5.2.ne nl0, by decide, by decide, fun v H7 hv u7 => ?_⟩
          obtain ⟨n, rfl, hn⟩ := mem5 hv
          have hS7 := u7.1 _ _ (same_upd nl0 _ _ hS5) nSb
          have u67 := u6.trans u7
          refine ⟨_, rfl, by omega, by omega, for_it walk_range (fun j σ H8 => ∃ (v7 : Option V) (ps : List Addr) (kb : Addr → Stf), σ = [some (.ref bx), some (.int wd), some (.int lo), some (.ref D), none, some (.int (0 + (i : Int))), some (.ref S), v7, v8] ∧ Up bx H H8 ∧ H8 S = some (.lst (ps.map V.ref)) ∧ StV H8 kb ps ∧ ps.length = j ∧ ∀ s ∈ ps.map kb, s.1 ≠ [] ∧ s.1.length ≤ lo) ⟨_, [], fun _ => ([], false), rfl, u67, hS7, (fun _ h => nomatch h), rfl, (fun _ h => nomatch h)⟩ (fun _ _ _ _ _ => trivial) ?_ ?_⟩
          · rintro j x σ H8 H8' hj ⟨v7, ps, kb, rfl, u8, hS8, hst, hps, hpat⟩ ⟨rfl, rfl⟩
            have hj2 : j < 2 := by
              have : j < ((n : Int)).toNat := hj
              omega
            refine ⟨_, rfl, .inl ⟨rfl, _, SqL.of hS8⟩, _, rfl, _, rfl, bx, 1, lo, rfl, u8.2, l1, by omega, fun pw H9 pw1 pwl u9 => ?_⟩
            have u89 := u8.trans u9
            refine ⟨_, rfl, i2, fun l1' nl1 => ?_⟩
            have u10 := u89.same (same_upd (o := .lst [.str "0", .str "1"]) nl1)
            refine ⟨bx, l1', _, rfl, u10.2, upd_same, u89.2.ne nl1, by decide, by decide, fun v H11 hv u11 => ?_⟩
            obtain ⟨bb, rfl⟩ := mem2 hv
            have u1011 := u10.trans u11
            refine ⟨i2, fun q nq => ?_⟩
            have hS11 : H11 S = some (.lst (ps.map V.ref)) := u11.1 _ _ (same_upd nl1 _ _ (u9.1 _ _ hS8 nSb)) nSb
            have hst11 : StV H11 kb ps := fun t ht => u11.1 _ _ (same_upd nl1 _ _ (u9.1 _ _ (hst t ht) (u8.2.neT (hst t ht)))) (u8.2.neT (hst t ht))
            have u12 := u1011.same (same_upd (o := .tup [.str (W pw), .str (W [bb])]) nq)
            have hS12 := same_upd (o := .tup [.str (W pw), .str (W [bb])]) nq _ _ hS11
            have hst12 : StV (upd H11 q (.tup [.str (W pw), .str (W [bb])])) (fun a => if a = q then (pw, bb) else kb a) (ps ++ [q]) := fun t ht => by
              rcases List.mem_append.mp ht with m | m
              · have nt : t ≠ q := ne_of_none (hst11 t m) nq
                rw [upd_ne nt]
                simp only [if_neg nt]
                exact hst11 t m
              · rw [List.mem_singleton.mp m, upd_same]
                simp only [if_pos]
            have hmk : (ps ++ [q]).map (fun a => if a = q then (pw, bb) else kb a) = ps.map kb ++ [(pw, bb)] := by
              rw [List.map_append]
              congr 1
              · refine List.map_congr_left fun t ht => if_neg (ne_of_none (hst11 t ht) nq)
              · show [if q = q then (pw, bb) else kb q] = _
                rw [if_pos rfl]
            generalize upd H11 q (.tup [.str (W pw), .str (W [bb])]) = H12 at u12 hS12 hst12
            refine ⟨S, _, _, rfl, rfl, hS12, by rw [List.length_map]; exact sl_lt (by omega), ?_⟩
            have uS : Up bx H (upd H12 S (.lst (ps.map V.ref ++ [.ref q]))) := u12.mut nS0 nSb
            refine ⟨_, ps ++ [q], fun a => if a = q then (pw, bb) else kb a, rfl, uS, by rw [upd_same, List.map_append]; rfl, fun t ht => ?_, by rw [List.length_append, List.length_cons, List.length_nil]; omega, ?_⟩
            · rw [upd_ne (ne_of (hst12 t ht) hS12 (by intro z; cases z))]
              exact hst12 t ht
            · rw [hmk]
              intro s hs
              rcases List.mem_append.mp hs with m | m
              · exact hpat s m
              · rw [List.mem_singleton.mp m]
                exact ⟨fun z => by rw [show pw = [] from z] at pw1; exact absurd pw1 (by decide), pwl⟩
          · rintro σ H8 ⟨v7, ps, kb, rfl, u8, hS8, hst, hps, hpat⟩
            refine ⟨_, rfl, _, rfl, bx, 2, wd, rfl, u8.2, w2, by omega, fun fw H9 fw2 fwl u9 => ⟨_, rfl, i2, fun t nt => ?_⟩⟩
            have u89 := u8.trans u9
            have hS9 := u9.1 _ _ hS8 nSb
            have hst9 : StV H9 kb ps := fun t ht => u9.1 _ _ (hst t ht) (u8.2.neT (hst t ht))
            have told : Told (upd H9 t (.tup [.str (W fw), .ref S])) t fw (ps.map kb) := ⟨S, ps, kb, upd_same, same_upd nt _ _ hS9, hst9.same (same_upd nt), rfl⟩
            have u10 := u89.same (same_upd (o := .tup [.str (W fw), .ref S]) nt)
            generalize upd H9 t (.tup [.str (W fw), .ref S]) = H10 at told u10
            have hn2 : ps.length ≤ 2 := by
              have : ps.length = ((n : Int)).toNat := hps
              omega
            refine ⟨_, rfl, t, fw, ps.map kb, rfl, told, by rw [List.length_map]; omega, fun s hs => Nat.le_trans (hpat s hs).2 l5, fun r H11 s11 hr11 => ⟨_, rfl, ?_⟩⟩
            cases r with
            | true =>
              obtain ⟨hfree, hokr⟩ := hr11 rfl
              refine ⟨_, rfl, ?_⟩
              refine k t fw (ps.map kb) H11 (u10.same s11) (told.same s11) fw2 (by omega) (by rw [List.length_map]; exact hn2) ⟨by rw [List.length_map]; omega, fun s hs => (hpat s hs).1, longM_max fun s hs => Nat.le_trans (hpat s hs).2 (by omega), hfree⟩ hokr fun s hs => (hpat s hs).2
            | false => exact ⟨_, _, _, _, rfl, u10.same s11⟩
        · rintro σ H4 ⟨v5, v6, v7, v8, rfl, u4⟩
          refine ⟨Nat.zero_le _, fun l nl => ⟨i2, fun t nt => ?_⟩⟩
          have st : Same H4 (upd (upd H4 l (.lst [])) t (.tup [.str "110", .ref l])) := (same_upd nl).trans (same_upd nt)
          refine k t [true, true, false] [] _ (u4.same st) ⟨l, [], fun _ => ([], false), ?_, same_upd nt _ _ upd_same, (fun _ h => nomatch h), rfl⟩ (by decide) (by show 3 ≤ max wd 3; omega) (Nat.zero_le _) ⟨Nat.zero_le _, (fun _ h => nomatch h), Nat.zero_le _, .nil⟩ okS_nil (fun _ h => nomatch h)
          rw [upd_same]
          have e : ("110" : Str) = W [true, true, false] := by decide +kernel
          rw [e]
end
end U

set_option maxRecDepth 100000
set_option maxHeartbeats 4000000
namespace U
open PySem PySem.Spec PyProof.Rows
open L2 hiding Fun CX0 E0 pass0 Fun.binds
open C8 Lx SX StX
def spMade (C : Addr) : Sp := fun vs H Q _ => ∃ (t : Addr) (f : List Bool) (ss : List Stf), vs = [.ref t] ∧ Told H t f ss ∧ StOk ss ∧ OkR ss ∧ 2 ≤ f.length ∧ f.length ≤ 1000 ∧
  ∀ a ss' H', Same H H' → ss'.Perm ss → SortedS ss' → RuAt C H' a f ss' → Q (.ref a) H'
theorem scal_oB (a b : Option Bool) : scal (oB a) (oB b) = true := by cases a <;> cases b <;> rfl
theorem scal_oB2 (a : Option Bool) (b : Bool) : scal (oB a) (.str (W [b])) = true := by cases a <;> rfl
def spLaw (K : PySem.W.Frag) : Sp := fun vs H Q _ => ∃ (a : Addr) (ns : List Int), vs = [.ref a] ∧ SqL K H a (ns.map V.int) ∧ ns.length ≤ 63 ∧ ∀ H', Q (.bl true) H'
/-- at most one pattern ends a line -/
theorem one_ends {ss : List Stf} (h : SufFree ss) (l : List Bool) : (ss.filter fun s => s.1.isSuffixOf l).length ≤ 1 := by
  have hp : (ss.filter fun s => s.1.isSuffixOf l).Pairwise fun a b => ¬ a.1 <:+ b.1 ∧ ¬ b.1 <:+ a.1 := List.Pairwise.filter _ h
  have hm : ∀ s ∈ ss.filter fun s => s.1.isSuffixOf l, s.1 <:+ l := fun s hs => List.isSuffixOf_iff_suffix.mp (List.mem_filter.mp hs).2
  generalize ss.filter (fun s => s.1.isSuffixOf l) = fs at hp hm
  match fs, hp, hm with
  | [], _, _ => exact Nat.zero_le _
  | [_], _, _ => exact Nat.le_refl _
  | a :: b :: r, hp, hm =>
    have h1 := (List.pairwise_cons.mp hp).1 b List.mem_cons_self
    rcases List.suffix_or_suffix_of_suffix (hm a List.mem_cons_self) (hm b (List.mem_cons_of_mem _ List.mem_cons_self)) with z | z
    · exact absurd z h1.1
    · exact absurd z h1.2
theorem put_app {ss : List Stf} (h : SufFree ss) {p : List Bool} {b : Bool} (hm : (p, b) ∈ ss) (x : List Bool) : putM ss (x ++ p) = some b := (put_iff h).mpr ⟨p, hm, List.suffix_append _ _⟩
theorem put_tail {ss : List Stf} (h : SufFree ss) {p : List Bool} {b : Bool} (hm : (p, b) ∈ ss) (hp : p ≠ []) : putM ss p.tail = none := by
  cases e : putM ss p.tail with
  | none => rfl
  | some c =>
    obtain ⟨q, hq, hs⟩ := (put_iff h).mp e
    have hl := hs.length_le
    have hpl : 0 < p.length := List.length_pos_iff.mpr hp
    rw [List.length_tail] at hl
    have ne : (q, c) ≠ (p, b) := fun z => by
      have : q = p := congrArg Prod.fst z
      rw [this] at hl
      omega
    exact absurd (hs.trans (List.tail_suffix p)) (h.ne hq hm ne)
def reprO : Option Bool → Str
  | none => "None"
  | some b => reprText (W [b])
theorem reprO_len (b : Bool) : (reprText (W [b])).length ≤ sizeLine := by
  have e : (reprText (W [b])).length ≤ 10 := by cases b <;> decide +kernel
  exact Nat.le_trans e (by decide)
theorem call_repr_oB {X : Cx} : CallR X (.builtin "repr") (fun xs H Q => ∃ o, xs = [oB o] ∧ Q (.str (reprO o)) H) := by
  intro pins s σ H xs us Q I r h
  obtain ⟨o, rfl, q⟩ := h
  obtain ⟨u, rfl, ru⟩ := vals1 r
  cases o with
  | none =>
    obtain rfl : u = Value.none := ru
    exact PySem.P.repr_of_none ⟨.str _, H, I.tok _, ⟨_, rfl⟩, q⟩
  | some b =>
    obtain ⟨t, rfl⟩ := ru
    exact PySem.P.repr_of_str ⟨.str _, H, I.tok _, ⟨_, rfl⟩, q⟩ (reprO_len b)
section
variable {P : Program} {w : World} {K : PySem.W.Frag} {mg : Str → Option Value} {base : Heap}
theorem sc_l_made : FnScope ["_law_rule_here"] ["_law_rule_here"] (fnScope s_l_made) := fnScope_by (by decide +kernel)
theorem cal_l_made {f C : Addr} {fd : FuncData} (F : Def K mg "_law_made" s_l_made f fd) (b : Binds K fd ["_law_rule_here"] []) (T : Tx mg) (m_Rule2 : Mak P w K mg base 5 "Rule" C (spRuInit K C) []) : Cal P w K mg base 7 "_law_made" (spMade C) [] := by
  refine cal0 F b .nil sc_l_made (fun vs H Q E h => ?_) (fun cdv A outer s H vs Q E hr h => ?_)
  · obtain ⟨_, _, _, rfl, _⟩ := h; rfl
  · obtain ⟨t, fl, ss, rfl, ⟨l, ps, kb, ht, hl, hs, rfl⟩, ok, hO, h2, hlen, k⟩ := h
    refine ⟨_, (pss_one (ps_ret (pe_mk m_Rule2 hr (by decide) rfl (pa_cons (pe_ix ix_tup (pv 0) pe_int (fun _ _ => rfl)) (pa_cons (pe_ix ix_tup (pv 0) pe_int (fun _ _ => rfl)) pa_nil))))), ?_⟩
    refine ⟨_, rfl, t, _, 0, _, rfl, rfl, SqT.of ht, rfl, _, rfl, t, _, 1, _, rfl, rfl, SqT.of ht, rfl, fun x dx nx ndx nex => ?_⟩
    have sm : Same H (upd (upd H dx (.own x)) x (.ins C dx [])) := fun c o e => by
      rw [upd_ne (ne_of_none e nx), upd_ne (ne_of_none e ndx)]; exact e
    refine ⟨x, dx, l, fl, ps, kb, rfl, upd_same, .inl (SqL.of (sm _ _ hl)), hs.same sm, ok, hO, h2, hlen, fun H' ss' keep pm srt hR => ⟨rfl, ?_⟩⟩
    exact k x ss' H' (Same.made nx ndx keep) pm srt hR
end
end U

set_option maxRecDepth 100000
set_option maxHeartbeats 4000000
namespace U
open PySem PySem.Spec PyProof.Rows
open L2 hiding Fun CX0 E0 pass0 Fun.binds
open C8 Lx SX StX
/-! texts of rules -/
def stT (s : Stf) : Str := W s.1 ++ ":" ++ W [s.2]
def ruWs (f : List Bool) (ss : List Stf) : List Str := "flag" :: W f :: (if ss = [] then [] else "put" :: ss.map stT)
def ruT (f : List Bool) (ss : List Stf) : Str := Txt.join " " (ruWs f ss)
theorem lenC (a b : Str) : (a ++ b).length = a.length + b.length := by
  rw [TL.len_tl, TL.len_tl a, TL.len_tl b]
  have := TL.tl_append a b
  show (TL.tl (a ++ b)).length = _
  rw [this, List.length_append]
theorem no_in (c : Nat) (h : ¬ c = 48 ∧ ¬ c = 49) (l : List Bool) : c ∉ TL.tl (W l) := by
  show c ∉ l.map bt
  intro z
  obtain ⟨b, _, e⟩ := List.mem_map.mp z
  cases b
  · exact h.1 e.symm
  · exact h.2 e.symm
theorem sp_tl : TL.tl (" " : Str) = 32 :: [] := by decide +kernel
theorem co_tl : TL.tl (":" : Str) = 58 :: [] := by decide +kernel
theorem sp_st (s : Stf) : (32 : Nat) ∉ TL.tl (stT s) := by
  unfold stT
  rw [TL.tl_append, TL.tl_append, co_tl]
  intro z
  rcases List.mem_append.mp z with z | z
  · rcases List.mem_append.mp z with z | z
    · exact no_in 32 (by decide) _ z
    · exact absurd (List.mem_singleton.mp z) (by decide)
  · exact no_in 32 (by decide) _ z
theorem sp_ws (f : List Bool) (ss : List Stf) : ∀ p ∈ ruWs f ss, (32 : Nat) ∉ TL.tl p := by
  intro p hp
  unfold ruWs at hp
  rcases List.mem_cons.mp hp with rfl | hp
  · decide +kernel
  · rcases List.mem_cons.mp hp with rfl | hp
    · exact no_in 32 (by decide) _
    · split at hp
      · cases hp
      · rcases List.mem_cons.mp hp with rfl | hp
        · decide +kernel
        · obtain ⟨s, _, rfl⟩ := List.mem_map.mp hp
          exact sp_st s
theorem ruT_split (f : List Bool) (ss : List Stf) : Txt.split (ruT f ss) " " = ruWs f ss :=
  TL.split_join sp_tl (by decide +kernel) (by unfold ruWs; exact List.cons_ne_nil _ _) (sp_ws f ss)
theorem stT_part (s : Stf) : Txt.partition (stT s) ":" = (W s.1, (":" : Str), W [s.2]) := TL.partition_app co_tl (no_in 58 (by decide) _)
theorem stT_inj {s t : Stf} (h : stT s = stT t) : s = t := by
  have e := congrArg (fun z => Txt.partition z ":") h
  simp only [stT_part] at e
  have e1 := W_inj (congrArg Prod.fst e)
  have e2 := W_inj (congrArg (fun z => z.2.2) e)
  exact Prod.ext e1 (List.cons.inj e2).1
theorem map_stT_inj : ∀ {ss ts : List Stf}, ss.map stT = ts.map stT → ss = ts
  | [], [], _ => rfl
  | [], _ :: _, h => by simp at h
  | _ :: _, [], h => by simp at h
  | a :: l, b :: m, h => by
    rw [List.map_cons, List.map_cons] at h
    injection h with h1 h2
    rw [stT_inj h1, map_stT_inj h2]
theorem ruT_inj {f f' : List Bool} {ss ss' : List Stf} (h : ruT f ss = ruT f' ss') : f = f' ∧ ss = ss' := by
  have e := congrArg (fun z => Txt.split z " ") h
  simp only [ruT_split] at e
  unfold ruWs at e
  injection e with _ e
  injection e with e1 e2
  refine ⟨W_inj e1, ?_⟩
  by_cases c : ss = []
  · by_cases c' : ss' = []
    · rw [c, c']
    · rw [if_pos c, if_neg c'] at e2; cases e2
  · by_cases c' : ss' = []
    · rw [if_neg c, if_pos c'] at e2; cases e2
    · rw [if_neg c, if_neg c'] at e2
      injection e2 with _ e2
      exact map_stT_inj e2
theorem ruT_eq {f f' : List Bool} {ss ss' : List Stf} : ruT f ss = ruT f' ss' ↔ (f = f' ∧ ss = ss') := ⟨ruT_inj, fun h => by rw [h.1, h.2]⟩
/-! a sorted row of stuffs is one -/
theorem key_inj {s t : Stf} (h : key s = key t) : s = t := by
  have e1 := W_inj (congrArg Prod.fst h)
  have e2 := W_inj (congrArg Prod.snd h)
  exact Prod.ext e1 (List.cons.inj e2).1
theorem lex_anti {s t : Stf} (h1 : SrT.lexT (key s) (key t) = false) (h2 : SrT.lexT (key t) (key s) = false) : s = t := by
  refine key_inj ?_
  rcases SrT.lexT_no.mp h1 with a | ⟨a, b⟩
  · rcases SrT.lexT_no.mp h2 with c | ⟨c, d⟩
    · exact absurd c (List.lt_asymm a)
    · rw [c] at a; exact absurd a (List.lt_irrefl _)
  · rcases SrT.lexT_no.mp h2 with c | ⟨c, d⟩
    · rw [a] at c; exact absurd c (List.lt_irrefl _)
    · refine Prod.ext a ?_
      exact TL.ext_tl (List.le_antisymm (List.not_lt.mp d) (List.not_lt.mp b))
theorem sorted_one : ∀ {ss ts : List Stf}, ss.Perm ts → SortedS ss → SortedS ts → ss = ts
  | [], ts, p, _, _ => (List.Perm.nil_eq p)
  | a :: l, [], p, _, _ => absurd (List.Perm.eq_nil p) (List.cons_ne_nil _ _)
  | a :: l, b :: m, p, h1, h2 => by
    obtain ⟨a1, a2⟩ := List.pairwise_cons.mp h1
    obtain ⟨b1, b2⟩ := List.pairwise_cons.mp h2
    have e : a = b := by
      rcases List.mem_cons.mp (p.mem_iff.mp (List.mem_cons_self (a := a) (l := l))) with z | z
      · exact z
      · rcases List.mem_cons.mp (p.mem_iff.mpr (List.mem_cons_self (a := b) (l := m))) with y | y
        · exact y.symm
        · exact lex_anti (b1 a z) (a1 b y)
    subst e
    rw [sorted_one (List.Perm.cons_inv p) a2 b2]
theorem RuAt.few {C : Addr} {H : Hp} {a : Addr} {f : List Bool} {ss : List Stf} (h : RuAt C H a f ss) : ∃ dx t, H a = some (.ins C dx (ruF f t)) := by
  obtain ⟨dx, t, _, _, h1, _⟩ := h
  exact ⟨dx, t, h1⟩
/-- a rule that is small enough for its text -/
structure RuSm (f : List Bool) (ss : List Stf) : Prop where
  fl : f.length ≤ 1000
  few : ss.length ≤ 1000
  long : ∀ s ∈ ss, s.1.length ≤ 9
theorem StOk.sm {f : List Bool} {ss : List Stf} (h : StOk ss) (hf : f.length ≤ 1000) : RuSm f ss := ⟨hf, h.few, h.l9⟩
def spRuStr (C : Addr) : Sp := fun vs H Q _ => ∃ (a : Addr) (f : List Bool) (ss : List Stf), vs = [.ref a] ∧ RuAt C H a f ss ∧ RuSm f ss ∧ ∀ H', Same H H' → Q (.str (ruT f ss)) H'
def spRuEq (C : Addr) : Sp := fun vs H Q _ => ∃ (a b : Addr) (f f' : List Bool) (ss ss' : List Stf), vs = [.ref a, .ref b] ∧ RuAt C H a f ss ∧ RuSm f ss ∧ RuAt C H b f' ss' ∧ RuSm f' ss' ∧ ∀ H', Same H H' → Q (.bl (decide (f = f' ∧ ss = ss'))) H'
def spRuLen (C : Addr) : Sp := fun vs H Q _ => ∃ (a : Addr) (f : List Bool) (ss : List Stf), vs = [.ref a] ∧ RuAt C H a f ss ∧ Q (.int (ss.length : Nat)) H
theorem stT_len {s : Stf} (h : s.1.length ≤ 9) : (stT s).length ≤ 11 := by
  unfold stT
  rw [lenC, lenC, W_len, W_len, show (":" : Str).length = 1 by decide +kernel]
  simp only [List.length_cons, List.length_nil]
  omega
theorem sum_st : ∀ {ss : List Stf}, (∀ s ∈ ss, s.1.length ≤ 9) → ((ss.map stT).map (·.length)).sum ≤ 11 * ss.length
  | [], _ => Nat.le_refl _
  | s :: r, h => by
    have h1 := stT_len (h s List.mem_cons_self)
    have h2 := sum_st fun t ht => h t (List.mem_cons_of_mem _ ht)
    rw [List.map_cons, List.map_cons, List.sum_cons, List.length_cons]
    omega
section
variable {P : Program} {w : World} {K : PySem.W.Frag} {mg : Str → Option Value} {base : Heap}
theorem sc_Rule_str : FnScope ["self", "told", "pattern", "bit"] ["self"] (fnScope s_Rule_str) := fnScope_by (by decide +kernel)
theorem met_Rule_str {f C : Addr} {fd : FuncData} (F : C8.Fun K "__str__" "Rule.__str__" s_Rule_str f fd) (me : Meth K C "__str__" f) (b : Binds K fd ["self"] []) (T : Tx mg) (RT : RuT K C) : Met P w K mg base 1 C "__str__" (spRuStr C) [] := by
  refine met0 RT.cl me F b sc_Rule_str (fun vs H Q E h => ?_) (fun cdv A outer s H vs Q E hr h => ?_)
  · obtain ⟨_, _, _, rfl, _⟩ := h; rfl
  · obtain ⟨a, fl, ss, rfl, hR, sm, k⟩ := h
    refine ⟨_, (pss_cons (ps_setLc (i := 1) (own := [("pattern", 2), ("bit", 3)]) (g := gTup K 2 (gCons (gName 2) (gCons (gName 3) gNil))) (by rfl) sc_Rule_str.nd rfl rfl (sw_true rfl rfl rfl (by decide +kernel)) (pi_tup (pe_fld (pv 0) rfl)) (blkOk_by (own := [("pattern", 2), ("bit", 3)]) (N := ["self", "told", "pattern", "bit"]) (sc := fnScope s_Rule_str) (by decide +kernel)) (fun _ _ _ _ _ => (pg_tup rfl (pgs_cons (pg_name (i := 2) sc_Rule_str.nd rfl (.inl rfl)) (pgs_cons (pg_name (i := 3) sc_Rule_str.nd rfl (.inl rfl)) pgs_nil)))) (fun _ _ _ _ _ => pts_nil) (fun _ _ _ _ _ => (pe_jn (.cons (pe_fmt (pv 2)) (.cons pe_str (.cons (pe_fmt (pv 3)) .nil))))))
    (pss_one (ps_ret (pe_join pe_str (pe_lst (pa_cons pe_str (pa_cons (pe_fld (pv 0) rfl) (pa_star (pe_ifExp (pt_cmpR op_gt (pe_callB call_len_seq (by rfl) T.b_len (by decide +kernel) (pa_cons (pv 1) pa_nil)) pe_int (nomark _)) (pe_lst (pa_cons pe_str (pa_star (pv 1) pa_nil))) (pe_lst pa_nil)) pa_nil)))))))), ?_⟩
    obtain ⟨dx, t, ps, kb, ha, ht, hv, rfl⟩ := id hR
    refine ⟨_, rfl, a, C, dx, _, _, rfl, ha, RT.cl, RT.nS, ruF_stuffs _ _, t, rfl, ⟨_, SqT.of ht⟩, fun D nD => ?_⟩
    refine lc_it (walk_tup (xs := ps.map V.ref)) (fun i H2 => Same H H2 ∧ H2 D = some (.lst ((((ps.map kb).take i).map stT).map V.str))) ⟨same_upd nD, upd_same⟩ (fun i H2 _ h2 => SqT.of (h2.1 _ _ ht)) ?_ ?_
    · rintro i x H2 H3 hi ⟨s2, hD⟩ ⟨rfl, hx⟩
      rw [List.getElem?_map] at hx
      obtain ⟨q, hq, rfl⟩ := Option.map_eq_some_iff.mp hx
      have hqm := List.mem_of_getElem? hq
      have hqv := s2 _ _ (hv q hqm)
      have l9 := sm.long (kb q) (List.mem_map.mpr ⟨q, hqm, rfl⟩)
      have e1 : Str.empty ++ W (kb q).1 = W (kb q).1 := by
        have e : Str.empty = W [] := by decide +kernel
        rw [e, W_cat]; rfl
      have l1 : (":" : Str).length = 1 := by decide +kernel
      refine ⟨q, _, rfl, SqT.of hqv, rfl, _, _, rfl, _, _, rfl, rfl, rfl, ?_⟩
      refine ⟨_, rfl, .inl ⟨_, rfl, by rw [W_len]; exact sl_len (by omega), _, rfl, by rw [e1, W_len]; exact sl_len (by omega), ?_⟩⟩
      refine ⟨_, rfl, by rw [e1, lenC, W_len, l1]; exact sl_len (by omega), ?_⟩
      refine ⟨_, rfl, .inl ⟨_, rfl, by rw [W_len]; exact sl_len (by show 1 ≤ 100000; decide), _, rfl, by rw [e1, lenC, lenC, W_len, W_len, l1]; exact sl_len (by simp only [List.length_cons, List.length_nil]; omega), ?_⟩⟩
      refine ⟨_, hD, ?_, ?_, ?_⟩
      · rw [List.length_map, List.length_map, List.length_take]
        have := sm.few
        exact sl_lt (by omega)
      · intro c o e
        rw [upd_ne (ne_of_none e nD)]
        exact s2 _ _ e
      · rw [upd_same, e1, List.take_add_one, List.getElem?_map, hq]
        simp [stT]
    · rintro H2 ⟨s2, hD⟩
      have el : ((ps.map kb).take (ps.map V.ref).length) = ps.map kb := List.take_of_length_le (by simp)
      rw [el] at hD
      have lk : (ps.map kb).length ≤ 1000 := sm.few
      have ls := sum_st sm.long
      refine ⟨⟨_, rfl⟩, ?_⟩
      refine ⟨_, rfl, a, C, dx, _, _, rfl, s2 _ _ ha, RT.cl, RT.nF, ruF_flag _ _, ?_⟩
      refine ⟨_, rfl, D, _, rfl, .inl (SqL.of hD), _, _, rfl, rfl, _, rfl, ?_⟩
      have l4 : ("flag" : Str).length = 4 := by decide +kernel
      have l3 : ("put" : Str).length = 3 := by decide +kernel
      have l1 : (" " : Str).length = 1 := by decide +kernel
      by_cases c : ps.map kb = []
      · refine iteDF (by rw [c]; decide) ?_
        refine ⟨Nat.zero_le _, fun p np => ?_⟩
        refine ⟨p, _, rfl, .inr (SqL.of upd_same), ?_⟩
        refine ⟨by show 2 ≤ sizeLine; decide, fun q nq => ?_⟩
        refine ⟨_, q, ["flag", W fl], rfl, rfl, .inl (SqL.of upd_same), ?_, ?_⟩
        · rw [l1]
          simp only [List.map_cons, List.map_nil, List.sum_cons, List.sum_nil, l4, W_len, List.length_cons, List.length_nil]
          have := sm.fl
          omega
        · have := k _ ((s2.trans (same_upd np)).trans (same_upd (o := .lst [.str "flag", .str (W fl)]) nq))
          unfold ruT ruWs at this
          rw [if_pos c] at this
          exact this
      · have c1 : 0 < (ps.map kb).length := List.length_pos_iff.mpr c
        refine iteDT (by rw [List.length_map, List.length_map]; omega) ?_
        refine ⟨_, rfl, D, _, rfl, .inr (SqL.of hD), by rw [List.length_cons, List.append_nil, List.length_map, List.length_map]; exact sl_len (by omega), fun p np => ?_⟩
        refine ⟨p, _, rfl, .inr (SqL.of upd_same), by rw [List.length_cons, List.length_cons, List.append_nil, List.length_cons, List.append_nil, List.length_map, List.length_map]; exact sl_len (by omega), fun q nq => ?_⟩
        refine ⟨_, q, "flag" :: W fl :: "put" :: (ps.map kb).map stT, rfl, rfl, .inl (SqL.of (by rw [upd_same]; simp)), ?_, ?_⟩
        · rw [l1]
          simp only [List.map_cons, List.sum_cons, l4, l3, W_len, List.length_cons, List.length_map] at ls lk ⊢
          have := sm.fl
          omega
        · have e := (s2.trans (same_upd np)).trans (same_upd (o := .lst ((V.str "flag" :: V.str (W fl) :: ((V.str "put" :: (((ps.map kb).map stT).map V.str ++ [])) ++ [])))) nq)
          have := k _ e
          unfold ruT ruWs at this
          rw [if_neg c] at this
          exact this
theorem sc_Rule_eq : FnScope ["self", "other"] ["self", "other"] (fnScope s_Rule_eq) := fnScope_by (by decide +kernel)
theorem met_Rule_eq {f C : Addr} {fd : FuncData} (F : C8.Fun K "__eq__" "Rule.__eq__" s_Rule_eq f fd) (me : Meth K C "__eq__" f) (b : Binds K fd ["self", "other"] []) (T : Tx mg) (RT : RuT K C) (g_Rule : mg "Rule" = some (.ref C)) (IS_Rule : IsT K C)
    (c_Rule_str : Met P w K mg base 1 C "__str__" (spRuStr C) []) : Met P w K mg base 4 C "__eq__" (spRuEq C) [] := by
  refine met0 RT.cl me F b sc_Rule_eq (fun vs H Q E h => ?_) (fun cdv A outer s H vs Q E hr h => ?_)
  · obtain ⟨_, _, _, _, _, _, rfl, _⟩ := h; rfl
  · obtain ⟨a, b, fl, fl', ss, ss', rfl, ra, h1, rb, h2, k⟩ := h
    refine ⟨_, (pss_one (ps_ret (pe_and (pe_callB call_isi (by rfl) T.b_isinstance (by decide +kernel) (pa_cons (pv 1) (pa_cons (pe_glob (v := .ref C) (by rfl) g_Rule rfl) pa_nil))) (pe_one (pe_cmpR op_eq (pe_callTy (call_str_own c_Rule_str hr (by decide)) (by rfl) T.b_str (by decide +kernel) (pa_cons (pv 0) pa_nil)) (pe_callTy (call_str_own c_Rule_str hr (by decide)) (by rfl) T.b_str (by decide +kernel) (pa_cons (pv 1) pa_nil)) (nomark _)))))), ?_⟩
    obtain ⟨dx, t, ha⟩ := ra.few
    obtain ⟨dy, t', hb⟩ := rb.few
    refine ⟨_, rfl, _, _, _, _, true, rfl, .own C, IS_Rule.ty hb, IS_Rule.one, _, rfl, ?_⟩
    refine ⟨_, rfl, a, dx, _, rfl, ha, a, fl, ss, rfl, ra, h1, fun H1 s1 => ⟨_, rfl, ?_⟩⟩
    refine ⟨_, rfl, b, dy, _, rfl, s1 _ _ hb, b, fl', ss', rfl, rb.same s1, h2, fun H2 s2 => ⟨_, rfl, rfl, ?_⟩⟩
    have e : decide (V.str (ruT fl ss) = V.str (ruT fl' ss')) = decide (fl = fl' ∧ ss = ss') := by
      rw [decide_eq_decide]
      exact ⟨fun z => ruT_inj (V.str.inj z), fun z => by rw [z.1, z.2]⟩
    rw [e]
    exact k H2 (s1.trans s2)
theorem sc_Rule_len : FnScope ["self"] ["self"] (fnScope s_Rule_len) := fnScope_by (by decide +kernel)
theorem met_Rule_len {f C : Addr} {fd : FuncData} (F : C8.Fun K "__len__" "Rule.__len__" s_Rule_len f fd) (me : Meth K C "__len__" f) (b : Binds K fd ["self"] []) (T : Tx mg) (RT : RuT K C) : Met P w K mg base 1 C "__len__" (spRuLen C) [] := by
  refine met0 RT.cl me F b sc_Rule_len (fun vs H Q E h => ?_) (fun cdv A outer s H vs Q E hr h => ?_)
  · obtain ⟨_, _, _, rfl, _⟩ := h; rfl
  · obtain ⟨a, fl, ss, rfl, hR, k⟩ := h
    refine ⟨_, (pss_one (ps_ret (pe_callB call_len_seq (by rfl) T.b_len (by decide +kernel) (pa_cons (pe_fld (pv 0) rfl) pa_nil)))), ?_⟩
    obtain ⟨dx, t, ps, kb, ha, ht, hv, rfl⟩ := id hR
    refine ⟨_, rfl, a, C, dx, _, _, rfl, ha, RT.cl, RT.nS, ruF_stuffs _ _, t, _, rfl, .inr (SqT.of ht), ?_⟩
    rw [List.length_map] at k ⊢
    exact k
end
end U

set_option maxRecDepth 100000
namespace U
/-! 0 and 1 exchanged -/
def sw (l : List Bool) : List Bool := l.map not
def swS (s : Stf) : Stf := (sw s.1, !s.2)
theorem sw_len (l : List Bool) : (sw l).length = l.length := List.length_map _
theorem sw_sw (l : List Bool) : sw (sw l) = l := by
  unfold sw
  rw [List.map_map]
  exact (List.map_congr_left fun b _ => Bool.not_not b).trans (List.map_id l)
theorem sw_app (a b : List Bool) : sw (a ++ b) = sw a ++ sw b := List.map_append
theorem sw_inj {a b : List Bool} (h : sw a = sw b) : a = b := by rw [← sw_sw a, h, sw_sw]
theorem swS_swS (s : Stf) : swS (swS s) = s := by
  unfold swS
  exact Prod.ext (sw_sw s.1) (Bool.not_not s.2)
theorem map_sw2 (ss : List Stf) : (ss.map swS).map swS = ss := by
  rw [List.map_map]
  exact (List.map_congr_left fun s _ => swS_swS s).trans (List.map_id ss)
theorem sw_suf {p l : List Bool} : sw p <:+ sw l ↔ p <:+ l := by
  constructor
  · rintro ⟨t, h⟩
    refine ⟨sw t, ?_⟩
    have := congrArg sw h
    rw [sw_app, sw_sw, sw_sw] at this
    exact this
  · rintro ⟨t, rfl⟩
    exact ⟨sw t, by rw [sw_app]⟩
theorem sw_isSuf (p l : List Bool) : (sw p).isSuffixOf (sw l) = p.isSuffixOf l := by
  rw [Bool.eq_iff_iff, List.isSuffixOf_iff_suffix, List.isSuffixOf_iff_suffix]
  exact sw_suf
theorem put_sw (l : List Bool) : ∀ ss : List Stf, putM (ss.map swS) (sw l) = (putM ss l).map not
  | [] => rfl
  | s :: r => by
    unfold putM
    rw [List.map_cons, List.find?_cons, List.find?_cons]
    show Option.map (fun x => x.2) (match (sw s.1).isSuffixOf (sw l) with | true => some (swS s) | false => _) = _
    rw [sw_isSuf]
    cases s.1.isSuffixOf l with
    | true => rfl
    | false => exact put_sw l r
theorem Ins.sw {ss : List Stf} {l x : List Bool} (h : Ins ss l x) : Ins (ss.map swS) (U.sw l) (U.sw x) := by
  induction h with
  | stop h => exact .stop (by rw [put_sw, h]; rfl)
  | more h _ ih =>
    refine .more (by rw [put_sw, h]; rfl) ?_
    rw [sw_app] at ih
    exact ih
theorem Reach.sw {ss : List Stf} {l : List Bool} (h : Reach ss l) : Reach (ss.map swS) (U.sw l) := by
  induction h with
  | nil => exact .nil
  | next _ i ih =>
    have := i.sw
    rw [sw_app] at this
    have r := Reach.next ih this
    rw [sw_app, sw_app]
    exact r
theorem OkN.sw {n : Nat} {ss : List Stf} (h : OkN n ss) : OkN n (ss.map swS) := fun l r b => by
  have r2 := r.sw
  rw [map_sw2] at r2
  obtain ⟨x, hx, hl⟩ := h _ r2 (!b)
  refine ⟨U.sw x, ?_, by rw [sw_len]; exact hl⟩
  have := hx.sw
  rw [sw_app, sw_sw] at this
  have e : U.sw [!b] = [b] := by cases b <;> rfl
  rw [e] at this
  exact this
theorem OkR.sw {ss : List Stf} (h : OkR ss) : OkR (ss.map swS) := fun l r b => by
  have r2 := r.sw
  rw [map_sw2] at r2
  obtain ⟨x, hx⟩ := h _ r2 (!b)
  refine ⟨U.sw x, ?_⟩
  have := hx.sw
  rw [sw_app, sw_sw] at this
  have e : U.sw [!b] = [b] := by cases b <;> rfl
  rw [e] at this
  exact this
theorem Body.sw {ss : List Stf} {m l : List Bool} (h : Body ss m l) : Body (ss.map swS) (U.sw m) (U.sw l) := by
  induction h with
  | nil => exact .nil
  | snoc _ i ih =>
    have := i.sw
    rw [sw_app] at this
    have r := Body.snoc ih this
    rw [sw_app, sw_app, sw_app]
    exact r
theorem SufFree.sw {ss : List Stf} (h : SufFree ss) : SufFree (ss.map swS) := by
  unfold SufFree at h ⊢
  rw [List.pairwise_map]
  refine h.imp fun {a b} hab => ?_
  exact ⟨fun z => hab.1 (sw_suf.mp z), fun z => hab.2 (sw_suf.mp z)⟩
end U

set_option maxRecDepth 100000
set_option maxHeartbeats 4000000
namespace U
open PySem PySem.Spec PyProof.Rows
open L2 hiding Fun CX0 E0 pass0 Fun.binds
open C8 Lx SX StX
theorem longM_sw : ∀ ss : List Stf, longM (ss.map swS) = longM ss
  | [] => rfl
  | s :: r => by
    show max (sw s.1).length (longM (r.map swS)) = max s.1.length (longM r)
    rw [sw_len, longM_sw r]
theorem StOk.sw {ss : List Stf} (h : StOk ss) : StOk (ss.map swS) := ⟨by rw [List.length_map]; exact h.few, fun s hs => by
    obtain ⟨t, ht, rfl⟩ := List.mem_map.mp hs
    intro z
    exact h.pos t ht (List.length_eq_zero_iff.mp (by rw [← sw_len]; exact List.length_eq_zero_iff.mpr z)), by rw [longM_sw]; exact h.long, h.free.sw⟩
def spOther : Sp := fun vs H Q _ => ∃ b : Bool, vs = [.str (W [b])] ∧ Q (.str (W [!b])) H
def spSwW : Sp := fun vs H Q _ => ∃ l : List Bool, vs = [.str (W l)] ∧ l.length ≤ 10000 ∧ ∀ H', Same H H' → Q (.str (W (sw l))) H'
def spSwapped (C : Addr) : Sp := fun vs H Q _ => ∃ (a : Addr) (f : List Bool) (ss : List Stf), vs = [.ref a] ∧ RuAt C H a f ss ∧ StOk ss ∧ OkR ss ∧ 2 ≤ f.length ∧ f.length ≤ 1000 ∧
  ∀ x ss' H', Same H H' → ss'.Perm (ss.map swS) → SortedS ss' → RuAt C H' x (sw f) ss' → Q (.ref x) H'
/-- a pair more in a list of stuffs -/
theorem st_push {H : Hp} {D z : Addr} {qs : List Addr} {kc : Addr → Stf} {zs : List V} {s : Stf} (hD : H D = some (.lst (qs.map V.ref))) (hS : StV H kc qs) (hz : H z = none) (ez : zs = [.str (W s.1), .str (W [s.2])]) :
    ∃ kc' : Addr → Stf, upd (upd H z (.tup zs)) D (.lst (qs.map V.ref ++ [.ref z])) D = some (.lst ((qs ++ [z]).map V.ref)) ∧ StV (upd (upd H z (.tup zs)) D (.lst (qs.map V.ref ++ [.ref z]))) kc' (qs ++ [z]) ∧ (qs ++ [z]).map kc' = qs.map kc ++ [s] := by
  subst ez
  have zq : ∀ y ∈ qs, y ≠ z := fun y hy => ne_of_none (hS y hy) hz
  have nDz : z ≠ D := (ne_of_none hD hz).symm
  refine ⟨fun y => if y = z then s else kc y, by rw [upd_same, List.map_append]; rfl, fun y hy => ?_, ?_⟩
  · have ny : y ≠ D := by
      rcases List.mem_append.mp hy with h1 | h1
      · exact ne_of (hS y h1) hD (by intro z; cases z)
      · rw [List.mem_singleton.mp h1]; exact nDz
    rw [upd_ne ny]
    dsimp only
    rcases List.mem_append.mp hy with h1 | h1
    · rw [if_neg (zq y h1), upd_ne (zq y h1)]
      exact hS y h1
    · rw [List.mem_singleton.mp h1, if_pos rfl]
      exact upd_same
  · rw [List.map_append]
    congr 1
    · exact List.map_congr_left fun y hy => if_neg (zq y hy)
    · show [if z = z then s else kc z] = [s]
      rw [if_pos rfl]
/-- a rule made of stuffs in a list or a tuple -/
theorem mk_ru {K : PySem.W.Frag} {C : Addr} {H : Hp} {l : Addr} {z : Str} {f : List Bool} {ps : List Addr} {kb : Addr → Stf} {R : Addr → Hp → Prop} {E : XK} (hz : z = W f) (hl : Sq K H l (ps.map V.ref)) (hs : StV H kb ps) (ok : StOk (ps.map kb)) (hO : OkR (ps.map kb)) (h2 : 2 ≤ f.length) (h3 : f.length ≤ 1000)
    (k : ∀ x ss' H', Same H H' → ss'.Perm (ps.map kb) → SortedS ss' → RuAt C H' x f ss' → R x H') :
    ∀ x dx, H x = none → H dx = none → dx ≠ x → spRuInit K C [.ref x, .str z, .ref l] (upd (upd H dx (.own x)) x (.ins C dx [])) (fun v H2 => v = .non ∧ R x H2) E := by
  subst hz
  intro x dx nx ndx nex
  have sm : Same H (upd (upd H dx (.own x)) x (.ins C dx [])) := fun c o e => by
    rw [upd_ne (ne_of_none e nx), upd_ne (ne_of_none e ndx)]; exact e
  exact ⟨x, dx, l, f, ps, kb, rfl, upd_same, hl.of_same sm, hs.same sm, ok, hO, h2, h3, fun H' ss' keep pm srt hR => ⟨rfl, k x ss' H' (Same.made nx ndx keep) pm srt hR⟩⟩
/-- a rule with one stuff, written -/
theorem mk_one {K : PySem.W.Frag} {C : Addr} {H : Hp} {p1 p2 : Addr} {z u v : Str} {f p : List Bool} {b : Bool} {R : Addr → Hp → Prop} {E : XK} (hz : z = W f) (hu : u = W p) (hv : v = W [b]) (n1 : H p1 = none) (n2 : upd H p1 (.tup [.str u, .str v]) p2 = none) (ok : StOk [(p, b)]) (hO : OkR [(p, b)]) (h2 : 2 ≤ f.length) (h3 : f.length ≤ 1000)
    (k : ∀ x H', Same H H' → RuAt C H' x f [(p, b)] → R x H') :
    ∀ x dx, upd (upd H p1 (.tup [.str u, .str v])) p2 (.lst [.ref p1]) x = none → upd (upd H p1 (.tup [.str u, .str v])) p2 (.lst [.ref p1]) dx = none → dx ≠ x →
      spRuInit K C [.ref x, .str z, .ref p2] (upd (upd (upd (upd H p1 (.tup [.str u, .str v])) p2 (.lst [.ref p1])) dx (.own x)) x (.ins C dx [])) (fun v H2 => v = .non ∧ R x H2) E := by
  subst hu hv
  refine mk_ru (ps := [p1]) (kb := fun _ => (p, b)) hz (.inl (SqL.of upd_same)) (fun t ht => ?_) ok hO h2 h3 fun x ss' H' s pm srt hR => ?_
  · rw [List.mem_singleton.mp ht, upd_ne (fun z => by rw [z, upd_same] at n2; cases n2)]
    exact upd_same
  · have es : ss' = [(p, b)] := List.perm_singleton.mp pm
    subst es
    exact k x H' (((same_upd n1).trans (same_upd n2)).trans s) hR
section
variable {P : Program} {w : World} {K : PySem.W.Frag} {mg : Str → Option Value} {base : Heap}
theorem sc_other : FnScope ["bit"] ["bit"] (fnScope s_other) := fnScope_by (by decide +kernel)
theorem cal_other {f : Addr} {fd : FuncData} (F : Def K mg "other" s_other f fd) (b : Binds K fd ["bit"] []) (T : Tx mg) : Cal P w K mg base 1 "other" spOther [] := by
  refine cal0 F b .nil sc_other (fun vs H Q E h => ?_) (fun cdv A outer s H vs Q E hr h => ?_)
  · obtain ⟨_, rfl, _⟩ := h; rfl
  · obtain ⟨b, rfl, k⟩ := h
    refine ⟨_, (pss_one (ps_ret (pe_ifExp (pt_cmpR op_eq (pv 0) pe_str (nomark _)) pe_str pe_str))), ?_⟩
    refine ⟨_, rfl, rfl, _, rfl, ?_⟩
    cases b with
    | false =>
      refine iteDT (show V.str (W [false]) = V.str "0" by decide +kernel) ?_
      show Q (.str "1") H
      rw [W_1]; exact k
    | true =>
      refine iteDF (show ¬ V.str (W [true]) = V.str "0" by decide +kernel) ?_
      show Q (.str "0") H
      rw [W_0]; exact k
theorem sc_swapped_word : FnScope ["word", "bit"] ["word"] (fnScope s_swapped_word) := fnScope_by (by decide +kernel)
theorem cal_swapped_word {f : Addr} {fd : FuncData} (F : Def K mg "swapped_word" s_swapped_word f fd) (b : Binds K fd ["word"] []) (T : Tx mg) (c_other : Cal P w K mg base 1 "other" spOther []) : Cal P w K mg base 2 "swapped_word" spSwW [] := by
  refine cal0 F b .nil sc_swapped_word (fun vs H Q E h => ?_) (fun cdv A outer s H vs Q E hr h => ?_)
  · obtain ⟨_, rfl, _⟩ := h; rfl
  · obtain ⟨l, rfl, hl, k⟩ := h
    refine ⟨_, (pss_one (ps_ret (pe_join pe_str (pe_lc (own := [("bit", 1)]) (g := gName 1) (by rfl) sc_swapped_word.nd (pi_str (pv 0)) (blkOk_by (own := [("bit", 1)]) (N := ["word", "bit"]) (sc := fnScope s_swapped_word) (by decide +kernel)) (fun _ _ _ _ _ => (pg_name (i := 1) sc_swapped_word.nd rfl (.inl rfl))) (fun _ _ _ _ _ => pts_nil) (fun _ _ _ _ _ => (pe_c c_other hr (by decide) rfl (pa_cons (pv 1) pa_nil))))))), ?_⟩
    refine ⟨⟨_, rfl⟩, _, rfl, _, rfl, fun D nD => ?_⟩
    refine lc_it walk_str (fun i H2 => Same H H2 ∧ H2 D = some (.lst (bitsV (sw (l.take i))))) ⟨same_upd nD, upd_same⟩ (fun _ _ _ _ => trivial) ?_ ?_
    · rintro i x H2 H3 hi ⟨s2, hD⟩ ⟨rfl, c, hc, rfl⟩
      obtain ⟨bb, hbb, rfl⟩ := W_get hc
      refine ⟨rfl, _, rfl, bb, rfl, _, hD, ?_, ?_, ?_⟩
      · rw [bitsV_len, sw_len, List.length_take]; exact sl_lt (by omega)
      · intro c' o e'
        rw [upd_ne (ne_of_none e' nD)]
        exact s2 _ _ e'
      · rw [upd_same, bitsV_snoc, List.take_add_one, hbb, sw_app]
        rfl
    · rintro H2 ⟨s2, hD⟩
      rw [W_size, List.take_length] at hD
      refine ⟨_, D, _, rfl, rfl, .inl (SqL.of hD), ?_, ?_⟩
      · rw [lens_bits, empty_len, sw_len]; omega
      · show Q (.str (Txt.join "" ((sw l).map fun b => W [b]))) H2
        rw [join_bits]
        exact k H2 s2
theorem sc_Rule_swapped : FnScope ["self", "stuffs", "pattern", "bit"] ["self"] (fnScope s_Rule_swapped) := fnScope_by (by decide +kernel)
theorem met_swapped {f C : Addr} {fd : FuncData} (F : C8.Fun K "swapped" "Rule.swapped" s_Rule_swapped f fd) (me : Meth K C "swapped" f) (b : Binds K fd ["self"] []) (T : Tx mg) (RT : RuT K C) (c_swapped_word : Cal P w K mg base 2 "swapped_word" spSwW [])
    (m_Rule2 : Mak P w K mg base 5 "Rule" C (spRuInit K C) []) : Met P w K mg base 7 C "swapped" (spSwapped C) [] := by
  refine met0 RT.cl me F b sc_Rule_swapped (fun vs H Q E h => ?_) (fun cdv A outer s H vs Q E hr h => ?_)
  · obtain ⟨_, _, _, rfl, _⟩ := h; rfl
  · obtain ⟨a, fl, ss, rfl, hR, ok, hO, f2, f1000, k⟩ := h
    refine ⟨_, (pss_cons (ps_setLc (i := 1) (own := [("pattern", 2), ("bit", 3)]) (g := gTup K 2 (gCons (gName 2) (gCons (gName 3) gNil))) (by rfl) sc_Rule_swapped.nd rfl rfl (sw_true rfl rfl rfl (by decide +kernel)) (pi_tup (pe_fld (pv 0) rfl)) (blkOk_by (own := [("pattern", 2), ("bit", 3)]) (N := ["self", "stuffs", "pattern", "bit"]) (sc := fnScope s_Rule_swapped) (by decide +kernel)) (fun _ _ _ _ _ => (pg_tup rfl (pgs_cons (pg_name (i := 2) sc_Rule_swapped.nd rfl (.inl rfl)) (pgs_cons (pg_name (i := 3) sc_Rule_swapped.nd rfl (.inl rfl)) pgs_nil)))) (fun _ _ _ _ _ => pts_nil) (fun _ _ _ _ _ => (pe_tup (pa_cons (pe_c c_swapped_word hr (by decide) rfl (pa_cons (pv 2) pa_nil)) (pa_cons (pe_c c_swapped_word hr (by decide) rfl (pa_cons (pv 3) pa_nil)) pa_nil)))))
    (pss_one (ps_ret (pe_mk m_Rule2 hr (by decide) rfl (pa_cons (pe_c c_swapped_word hr (by decide) rfl (pa_cons (pe_fld (pv 0) rfl) pa_nil)) (pa_cons (pv 1) pa_nil)))))), ?_⟩
    obtain ⟨dx, t, ps, kb, ha, ht, hv, rfl⟩ := id hR
    refine ⟨_, rfl, a, C, dx, _, _, rfl, ha, RT.cl, RT.nS, ruF_stuffs _ _, t, rfl, ⟨_, SqT.of ht⟩, fun D nD => ?_⟩
    refine lc_it (walk_tup (xs := ps.map V.ref)) (fun i H2 => Same H H2 ∧ ∃ (qs : List Addr) (kc : Addr → Stf), H2 D = some (.lst (qs.map V.ref)) ∧ StV H2 kc qs ∧ qs.map kc = ((ps.map kb).take i).map swS) ⟨same_upd nD, [], fun _ => ([], false), upd_same, (fun _ h => nomatch h), rfl⟩ (fun i H2 _ h2 => SqT.of (h2.1 _ _ ht)) ?_ ?_
    · rintro i x H2 H3 hi ⟨s2, qs, kc, hD, hS, em⟩ ⟨rfl, hx⟩
      rw [List.getElem?_map] at hx
      obtain ⟨q, hq, rfl⟩ := Option.map_eq_some_iff.mp hx
      have hqm := List.mem_of_getElem? hq
      have hqv := s2 _ _ (hv q hqm)
      have l9 := ok.l9 (kb q) (List.mem_map.mpr ⟨q, hqm, rfl⟩)
      refine ⟨q, _, rfl, SqT.of hqv, rfl, _, _, rfl, _, _, rfl, rfl, rfl, ?_⟩
      refine ⟨_, rfl, (kb q).1, rfl, by omega, fun H4 s4 => ?_⟩
      refine ⟨_, rfl, [(kb q).2], rfl, by show 1 ≤ 10000; decide, fun H5 s5 => ?_⟩
      refine ⟨by show 2 ≤ sizeLine; decide, fun z nz => ?_⟩
      have s25 := s4.trans s5
      have hD5 := s25 _ _ hD
      have s26 := s25.trans (same_upd (o := .tup [.str (W (sw (kb q).1)), .str (W (sw [(kb q).2]))]) nz)
      have hD6 := s26 _ _ hD
      have nDz : z ≠ D := ne_of_none hD5 nz |>.symm
      have zq : ∀ y ∈ qs, y ≠ z := fun y hy => ne_of_none (s25 _ _ (hS y hy)) nz
      have lq : qs.length = i := by
        have := congrArg List.length em
        rw [List.length_map, List.length_map, List.length_take, List.length_map] at this
        have hi' := (List.getElem?_eq_some_iff.mp hq).1
        omega
      have hi' := (List.getElem?_eq_some_iff.mp hq).1
      have few := ok.few
      rw [List.length_map] at few
      refine ⟨_, hD6, by rw [List.length_map]; exact sl_lt (by omega), ?_, qs ++ [z], fun y => if y = z then swS (kb q) else kc y, ?_, ?_, ?_⟩
      · intro c o e
        rw [upd_ne (ne_of_none e nD)]
        exact s26 _ _ (s2 _ _ e)
      · rw [upd_same, List.map_append]; rfl
      · intro y hy
        have ny : y ≠ D := by
          rcases List.mem_append.mp hy with h1 | h1
          · exact ne_of (hS y h1) hD (by intro z; cases z)
          · rw [List.mem_singleton.mp h1]; exact nDz
        rw [upd_ne ny]
        dsimp only
        rcases List.mem_append.mp hy with h1 | h1
        · rw [if_neg (zq y h1)]
          exact s26 _ _ (hS y h1)
        · rw [List.mem_singleton.mp h1, if_pos rfl]
          exact upd_same
      · rw [List.map_append, List.take_add_one, List.getElem?_map, hq, List.map_append]
        congr 1
        · rw [← em]
          exact List.map_congr_left fun y hy => if_neg (zq y hy)
        · show [if z = z then swS (kb q) else kc z] = [swS (kb q)]
          rw [if_pos rfl]
    · rintro H2 ⟨s2, qs, kc, hD, hS, em⟩
      have el : ((ps.map kb).take (ps.map V.ref).length) = ps.map kb := List.take_of_length_le (by simp)
      rw [el] at em
      refine ⟨_, rfl, a, C, dx, _, _, rfl, s2 _ _ ha, RT.cl, RT.nF, ruF_flag _ _, fl, rfl, by omega, fun H3 s3 => ?_⟩
      refine ⟨_, rfl, fun x dx' nx ndx nex => ?_⟩
      have sm : Same H3 (upd (upd H3 dx' (.own x)) x (.ins C dx' [])) := fun c o e => by
        rw [upd_ne (ne_of_none e nx), upd_ne (ne_of_none e ndx)]; exact e
      refine ⟨x, dx', D, sw fl, qs, kc, rfl, upd_same, .inl (SqL.of (sm _ _ (s3 _ _ hD))), (hS.same s3).same sm, by rw [em]; exact ok.sw, by rw [em]; exact hO.sw, by rw [sw_len]; exact f2, by rw [sw_len]; exact f1000, fun H' ss' keep pm srt hR' => ⟨rfl, ?_⟩⟩
      rw [em] at pm
      exact k x ss' H' ((s2.trans s3).trans (Same.made nx ndx keep)) pm srt hR'
end
end U

set_option maxRecDepth 100000
set_option maxHeartbeats 4000000
namespace U
open PySem PySem.Spec PyProof.Rows
open L2 hiding Fun CX0 E0 pass0 Fun.binds
open C8 Lx SX StX
theorem u65 {k : Nat} {A : Around} (r : Room k A) : A.units + 65 < cLine := by have := r.un; omega
/-! stuffs as data -/
def pairD (s : Stf) : PyData := .tuple [.str (W s.1), .str (W [s.2])]
theorem sOk_W (l : List Bool) : PyData.strOk (W l) = true := by
  unfold PyData.strOk
  show ((l.map bt).toArray.all _) = true
  rw [List.all_toArray, List.all_map, List.all_eq_true]
  intro b _
  cases b <;> rfl
theorem canLay_pairs : ∀ ss : List Stf, PyData.canLayAll0 (ss.map pairD) = true
  | [] => by simp [PyData.canLayAll0]
  | s :: r => by
    rw [List.map_cons, PyData.canLayAll0, canLay_pairs r, Bool.and_true]
    unfold pairD
    simp only [PyData.canLay0, PyData.canLayAll0, sOk_W, Bool.and_true]
theorem depth_pairs : ∀ ss : List Stf, PyData.depthAll (ss.map pairD) ≤ 1
  | [] => by simp [PyData.depthAll]
  | s :: r => by
    have := depth_pairs r
    rw [List.map_cons, PyData.depthAll]
    have e : PyData.depth (pairD s) = 1 := by unfold pairD; simp [PyData.depth, PyData.depthAll]
    rw [e]
    omega
theorem shaped_tup (ss : List Stf) : SeqAt.shaped (.tuple (ss.map pairD)) = true := by
  unfold SeqAt.shaped
  rw [PyData.canLay0, canLay_pairs, Bool.true_and]
  refine decide_eq_true ?_
  rw [PyData.depth]
  have := depth_pairs ss
  omega
theorem shaped_lst (ss : List Stf) : SeqAt.shaped (.list (ss.map pairD)) = true := by
  unfold SeqAt.shaped
  rw [PyData.canLay0, canLay_pairs, Bool.true_and]
  refine decide_eq_true ?_
  rw [PyData.depth]
  have := depth_pairs ss
  omega
theorem beq_W (a b : List Bool) : (W a == W b) = decide (a = b) := by
  rw [Bool.eq_iff_iff, beq_iff_eq, decide_eq_true_iff]
  exact W_eq
theorem eqv_pair (s t : Stf) : PyData.eqv (pairD s) (pairD t) = decide (s = t) := by
  unfold pairD
  simp only [PyData.eqv, PyData.eqvAll, beq_W, Bool.and_true]
  obtain ⟨p, b⟩ := s
  obtain ⟨q, c⟩ := t
  rw [Bool.eq_iff_iff]
  simp
theorem eqv_pairs : ∀ ss ts : List Stf, PyData.eqvAll (ss.map pairD) (ts.map pairD) = decide (ss = ts)
  | [], [] => by simp [PyData.eqvAll]
  | [], _ :: _ => by simp [PyData.eqvAll]
  | _ :: _, [] => by simp [PyData.eqvAll]
  | s :: r, t :: q => by
    rw [List.map_cons, List.map_cons, PyData.eqvAll, eqv_pair, eqv_pairs r q, Bool.eq_iff_iff]
    simp
theorem eqv_tup (ss ts : List Stf) : PyData.eqv (.tuple (ss.map pairD)) (.tuple (ts.map pairD)) = decide (ss = ts) := by rw [PyData.eqv, eqv_pairs]
theorem eqv_lst (ss ts : List Stf) : PyData.eqv (.list (ss.map pairD)) (.list (ts.map pairD)) = decide (ss = ts) := by rw [PyData.eqv, eqv_pairs]
theorem dp_all {K : PySem.W.Frag} {H : Hp} {kb : Addr → Stf} : ∀ {ps : List Addr}, StV H kb ps → DpAll K H (ps.map V.ref) ((ps.map kb).map pairD)
  | [], _ => .nil
  | p :: r, h => .cons (.tup (SqT.of (h p List.mem_cons_self)) (.cons (.str _) (.cons (.str _) .nil))) (dp_all fun t ht => h t (List.mem_cons_of_mem _ ht))
theorem no_none (ss : List Stf) : ((ss.map pairD).any fun z => PyData.eqv z .none) = false := by
  rw [List.any_eq_false]
  intro z hz
  obtain ⟨s, _, rfl⟩ := List.mem_map.mp hz
  unfold pairD
  simp [PyData.eqv]
end U

set_option maxRecDepth 100000
set_option maxHeartbeats 4000000
namespace U
open PySem PySem.Spec PyProof.Rows
open L2 hiding Fun CX0 E0 pass0 Fun.binds
open C8 Lx SX StX
def spStuffIn : Sp := fun vs H Q _ => ∃ s : Stf, vs = [.str (stT s)] ∧ s.1 ≠ [] ∧ s.1.length ≤ 9 ∧ ∀ t H', H t = none → Same H H' → H' t = some (.tup [.str (W s.1), .str (W [s.2])]) → Q (.ref t) H'
def spRuRead (C : Addr) : Sp := fun vs H Q _ => ∃ (f : List Bool) (ss : List Stf), vs = [.ref C, .str (ruT f ss)] ∧ StOk ss ∧ OkR ss ∧ 2 ≤ f.length ∧ f.length ≤ 1000 ∧
  ∀ x ss' H', Same H H' → ss'.Perm ss → SortedS ss' → RuAt C H' x f ss' → Q (.ref x) H'
theorem ruT_len {f : List Bool} {ss : List Stf} (sm : RuSm f ss) : (ruT f ss).length ≤ 20000 := by
  have ls := sum_st sm.long
  have h1 := sm.fl
  have h2 := sm.few
  have h : ∀ ys : List Str, (Txt.join " " ys).length ≤ (ys.map (·.length)).sum + ys.length := by
    intro ys
    rw [TL.join_eq, TL.len_tl]
    show (TL.tl (Str.join " " ys)).length ≤ _
    rw [TL.tl_join, sp_tl]
    induction ys with
    | nil => exact Nat.zero_le _
    | cons y r ih =>
      cases r with
      | nil =>
        show (TL.tl y).length ≤ _
        simp only [List.map_cons, List.map_nil, List.sum_cons, List.sum_nil, List.length_cons, List.length_nil]
        rw [TL.len_tl]
        exact Nat.le_add_right _ _
      | cons y2 r2 =>
        have e : TL.joinL [32] (List.map TL.tl (y :: y2 :: r2)) = TL.tl y ++ ([32] ++ TL.joinL [32] (List.map TL.tl (y2 :: r2))) := rfl
        have e4 : ((y :: y2 :: r2).map (·.length)).sum = y.length + ((y2 :: r2).map (·.length)).sum := by rw [List.map_cons, List.sum_cons]
        have e5 : (y :: y2 :: r2).length = (y2 :: r2).length + 1 := rfl
        rw [e, e4, e5, List.length_append, List.length_append]
        have e2 : y.length = (TL.tl y).length := TL.len_tl y
        have e3 : ([32] : List Nat).length = 1 := rfl
        omega
  refine Nat.le_trans (h _) ?_
  unfold ruWs
  have l4 : ("flag" : Str).length = 4 := by decide +kernel
  have l3 : ("put" : Str).length = 3 := by decide +kernel
  split
  · simp only [List.map_cons, List.map_nil, List.sum_cons, List.sum_nil, l4, W_len, List.length_cons, List.length_nil]
    omega
  · simp only [List.map_cons, List.sum_cons, l4, l3, W_len, List.length_cons, List.length_map]
    omega
section
variable {P : Program} {w : World} {K : PySem.W.Frag} {mg : Str → Option Value} {base : Heap}
theorem sc_stuff_in : FnScope ["word", "pattern", "sign", "bit"] ["word"] (fnScope s_stuff_in) := fnScope_by (by decide +kernel)
theorem cal_stuff_in {f : Addr} {fd : FuncData} (F : Def K mg "stuff_in" s_stuff_in f fd) (b : Binds K fd ["word"] []) (T : Tx mg) (c_is_stuff : Cal P w K mg base 3 "is_stuff" spIsStuff []) : Cal P w K mg base 4 "stuff_in" spStuffIn [] := by
  refine cal0 F b .nil sc_stuff_in (fun vs H Q E h => ?_) (fun cdv A outer s H vs Q E hr h => ?_)
  · obtain ⟨_, rfl, _⟩ := h; rfl
  · obtain ⟨s, rfl, hp, hl, k⟩ := h
    refine ⟨_, (pss_cons (ps_asg (pe_partition (pv 0) pe_str) (pg_tup rfl (pgs_cons (pg_name (i := 1) sc_stuff_in.nd rfl (.inl rfl)) (pgs_cons (pg_name (i := 2) sc_stuff_in.nd rfl (.inl rfl)) (pgs_cons (pg_name (i := 3) sc_stuff_in.nd rfl (.inl rfl)) pgs_nil)))))
    (pss_one (ps_ret (pe_ifExp (PW.pt (pw_and (pt_cmpR op_eq (pv 2) pe_str (nomark _)) (pw_and1 (pt_val (pe_c c_is_stuff hr (by decide) rfl (pa_cons (pe_tup (pa_cons (pv 1) (pa_cons (pv 3) pa_nil))) pa_nil)))))) (pe_tup (pa_cons (pv 1) (pa_cons (pv 3) pa_nil))) pe_non)))), ?_⟩
    have l11 := stT_len hl
    refine ⟨_, rfl, ⟨_, rfl⟩, _, _, rfl, rfl, by decide +kernel, Nat.le_trans l11 (by decide), fun t nt => ?_⟩
    have s1 : Same H _ := same_upd (o := .tup [.str (Txt.partition (stT s) ":").1, .str (Txt.partition (stT s) ":").2.1, .str (Txt.partition (stT s) ":").2.2]) nt
    refine ⟨t, _, rfl, SqT.of upd_same, rfl, _, _, rfl, _, _, rfl, _, _, rfl, rfl, ?_⟩
    generalize upd H t _ = H1 at s1
    rw [stT_part]
    refine ⟨_, rfl, rfl, _, rfl, iteDT rfl ?_⟩
    refine ⟨_, rfl, _, rfl, by show 2 ≤ sizeLine; decide, fun t2 n2 => ?_⟩
    refine ⟨t2, s.1, s.2, rfl, upd_same, hp, by omega, fun H2 s2 => ⟨_, rfl, iteT ?_⟩⟩
    refine ⟨_, rfl, _, rfl, by show 2 ≤ sizeLine; decide, fun t3 n3 => ?_⟩
    have s3 := (s1.trans (same_upd n2)).trans s2
    exact k t3 _ (s3.free n3) (s3.trans (same_upd n3)) upd_same
theorem sc_Rule_read : FnScope ["cls", "text", "words", "stuffs", "word"] ["cls", "text"] (fnScope s_Rule_read) := fnScope_by (by decide +kernel)
theorem ok_Rule_read {f C : Addr} {fd : FuncData} (F : C8.Fun K "read" "Rule.read" s_Rule_read f fd) (T : Tx mg) (RT : RuT K C) (c_is_word : Cal P w K mg base 1 "is_word" (spIsWord K) []) (c_stuff_in : Cal P w K mg base 4 "stuff_in" spStuffIn [])
    (m_Rule2 : Mak P w K mg base 5 "Rule" C (spRuInit K C) []) : FnOk P w K mg base CX0 7 f fd ["cls", "text"] (spRuRead C) := by
  refine fn0 F sc_Rule_read (fun vs H Q E h => ?_) (fun cdv A outer s H vs Q E hr h => ?_)
  · obtain ⟨_, _, rfl, _⟩ := h; rfl
  · obtain ⟨fl, ss, rfl, ok, hO, h2, h3, k⟩ := h
    refine ⟨_, (pss_cons (ps_set (i := 2) sc_Rule_read.nd rfl (.inl rfl) (pe_ifExp (pt_val (pe_callB call_isi (by rfl) T.b_isinstance (by decide +kernel) (pa_cons (pv 1) (pa_cons (pe_bltn (v := .ty "str") (u := .type "str") (by rfl) T.b_str (by decide +kernel) rfl) pa_nil)))) (pe_split (pv 1) pe_str) (pe_lst pa_nil)))
    (pss_cons (ps_if (PW.pt (pw_or (pt_cmpR op_lt (pe_callB call_len_seq (by rfl) T.b_len (by decide +kernel) (pa_cons (pv 2) pa_nil)) pe_int (nomark _)) (pw_or (pt_cmpR op_ne (pe_ix ix_list (pv 2) pe_int (fun _ _ => rfl)) pe_str (nomark _)) (pw_or (pt_not (pt_val (pe_c c_is_word hr (by decide) rfl (pa_cons (pe_ix ix_list (pv 2) pe_int (fun _ _ => rfl)) pa_nil)))) (pw_or1 (pt_cmpR op_eq (pe_ix ix_list (pv 2) pe_int (fun _ _ => rfl)) pe_str (nomark _))))))) (pss_one ps_never) pss_nil)
    (pss_cut (ps_if (PW.pt (pw_and (pt_cmpR op_gt (pe_callB call_len_seq (by rfl) T.b_len (by decide +kernel) (pa_cons (pv 2) pa_nil)) pe_int (nomark _)) (pw_and1 (PW.pt (pw_or (pt_cmpR op_ne (pe_ix ix_list (pv 2) pe_int (fun _ _ => rfl)) pe_str (nomark _)) (pw_or1 (pt_cmpR op_eq (pe_callB call_len_seq (by rfl) T.b_len (by decide +kernel) (pa_cons (pv 2) pa_nil)) pe_int (nomark _)))))))) (pss_one ps_never) pss_nil)
    (pss_cons (ps_setLc (i := 3) (own := [("word", 4)]) (g := gName 4) (by rfl) sc_Rule_read.nd rfl rfl (sw_true rfl rfl rfl (by decide +kernel)) (pi_list (pe_slice sl_list (pv 2) (po_some pe_int) po_none)) (blkOk_by (own := [("word", 4)]) (N := ["cls", "text", "words", "stuffs", "word"]) (sc := fnScope s_Rule_read) (by decide +kernel)) (fun _ _ _ _ _ => (pg_name (i := 4) sc_Rule_read.nd rfl (.inl rfl))) (fun _ _ _ _ _ => pts_nil) (fun _ _ _ _ _ => (pe_c c_stuff_in hr (by decide) rfl (pa_cons (pv 4) pa_nil))))
    (pss_cons (ps_if (pt_cmpR (op_inD (u65 hr)) pe_non (pv 3) (by with_unfolding_all rfl)) (pss_one ps_never) pss_nil)
    (pss_one (ps_ret (pe_mkL 0 m_Rule2 hr (by decide) (pa_cons (pe_ix ix_list (pv 2) pe_int (fun _ _ => rfl)) (pa_cons (pv 3) pa_nil)))))))))), ?_⟩
    have sm : RuSm fl ss := ok.sm h3
    have lt := ruT_len sm
    refine ⟨_, rfl, _, _, _, _, true, rfl, .ty _, .base (.str _), kit_ty (by decide +kernel), _, rfl, ?_⟩
    refine ⟨_, rfl, ⟨_, rfl⟩, _, _, rfl, rfl, by decide +kernel, sl_len (by omega), fun q nq => ?_⟩
    rw [ruT_split]
    have hq0 : upd H q (.lst ((ruWs fl ss).map V.str)) q = some (.lst ((ruWs fl ss).map V.str)) := upd_same
    have s1 : Same H (upd H q (.lst ((ruWs fl ss).map V.str))) := same_upd nq
    generalize upd H q (.lst ((ruWs fl ss).map V.str)) = H1 at hq0 s1
    have hL : (ruWs fl ss).length = if ss = [] then 2 else ss.length + 3 := by
      unfold ruWs
      split <;> simp
    have hq : SqL K H1 q ((ruWs fl ss).map V.str) := SqL.of hq0
    have a0 : atI ((ruWs fl ss).map V.str) 0 = some (.str "flag") := atI_nat (j := 0) rfl
    have a1 : atI ((ruWs fl ss).map V.str) 1 = some (.str (W fl)) := atI_nat (j := 1) rfl
    have nf : fl ≠ [] := fun z => by rw [z] at h2; cases h2
    refine ⟨_, rfl, q, _, rfl, .inl hq, _, _, rfl, rfl, _, rfl, iteDF (by rw [List.length_map, hL]; split <;> omega) ?_⟩
    refine ⟨_, rfl, q, _, _, _, rfl, rfl, hq, a0, rfl, _, rfl, iteNS rfl ?_⟩
    refine ⟨_, rfl, q, _, _, _, rfl, rfl, hq, a1, _, rfl, .inl ⟨_, rfl, by rw [W_len]; omega, fun H2 s2 => ⟨_, rfl, iteBF (by rw [isW_W]; rfl) ?_⟩⟩⟩
    have hq2 : SqL K H2 q ((ruWs fl ss).map V.str) := SqL.of (s2 _ _ hq0)
    refine ⟨_, rfl, q, _, _, _, rfl, rfl, hq2, a1, rfl, _, rfl, iteDF (fun z => nf (by rw [W_nil] at z; exact W_inj (V.str.inj z))) ?_⟩
    -- the second test
    refine ⟨fun σ' H' => σ' = [some (.ref C), some (.str (ruT fl ss)), some (.ref q), none, none] ∧ H' = H2, ?_, ?_⟩
    · refine ⟨_, rfl, q, _, rfl, .inl hq2, _, _, rfl, rfl, _, rfl, ?_⟩
      by_cases c : ss = []
      · refine iteDF (by rw [List.length_map, hL, if_pos c]; omega) ?_
        exact ⟨rfl, rfl⟩
      · refine iteDT (by rw [List.length_map, hL, if_neg c]; omega) ?_
        have a2 : atI ((ruWs fl ss).map V.str) 2 = some (.str "put") := atI_nat (j := 2) (by unfold ruWs; rw [if_neg c]; rfl)
        have c1 : 0 < ss.length := List.length_pos_iff.mpr c
        refine ⟨_, rfl, q, _, _, _, rfl, rfl, hq2, a2, rfl, _, rfl, iteNS rfl ?_⟩
        refine ⟨_, rfl, q, _, rfl, .inl hq2, rfl, _, rfl, iteDF (by rw [List.length_map, hL, if_neg c]; intro z; have := V.int.inj z; omega) ?_⟩
        exact ⟨rfl, rfl⟩
    · rintro σ' H' ⟨rfl, rfl⟩
      have e3 : cutV ((ruWs fl ss).map V.str) (some 3) none = (ss.map stT).map V.str := by
        by_cases c : ss = []
        · unfold ruWs
          rw [if_pos c, c]
          rfl
        · have e := cut_from (xs := (ruWs fl ss).map V.str) (i := 2) (by rw [List.length_map, hL, if_neg c]; omega)
          have e' : (((2 : Nat) : Int) + 1) = 3 := rfl
          rw [e'] at e
          rw [e]
          unfold ruWs
          rw [if_neg c]
          rfl
      refine ⟨_, rfl, _, rfl, q, _, rfl, hq2, fun p np => ?_⟩
      rw [e3]
      have hp : upd H' p (.lst ((ss.map stT).map V.str)) p = some (.lst ((ss.map stT).map V.str)) := upd_same
      have s3 : Same H' (upd H' p (.lst ((ss.map stT).map V.str))) := same_upd np
      generalize upd H' p (.lst ((ss.map stT).map V.str)) = H3 at hp s3
      refine ⟨p, rfl, ⟨_, SqL.of hp⟩, fun D nD => ?_⟩
      refine lc_it (walk_list (xs := (ss.map stT).map V.str)) (fun i H4 => Same H3 H4 ∧ ∃ (qs : List Addr) (kc : Addr → Stf), H4 D = some (.lst (qs.map V.ref)) ∧ StV H4 kc qs ∧ qs.map kc = ss.take i) ⟨same_upd nD, [], fun _ => ([], false), upd_same, (fun _ h => nomatch h), rfl⟩ (fun i H4 _ h4 => SqL.of (h4.1 _ _ hp)) ?_ ?_
      · rintro i x H4 H4' hi ⟨s4, qs, kc, hD, hS, em⟩ ⟨rfl, hx⟩
        rw [List.getElem?_map, List.getElem?_map, Option.map_map] at hx
        obtain ⟨st, hst, rfl⟩ := Option.map_eq_some_iff.mp hx
        have hm := List.mem_of_getElem? hst
        refine ⟨rfl, _, rfl, st, rfl, ok.pos st hm, ok.l9 st hm, fun z H5 nz s5 hz => ?_⟩
        have lq : qs.length ≤ 1000 := by
          have := congrArg List.length em
          rw [List.length_map, List.length_take] at this
          have := ok.few
          omega
        have hD5 := s5 _ _ hD
        have zD : z ≠ D := (ne_of_none hD nz).symm
        have zq : ∀ y ∈ qs, y ≠ z := fun y hy => ne_of_none (hS y hy) nz
        refine ⟨_, hD5, by rw [List.length_map]; exact sl_lt (by omega), ?_, qs ++ [z], fun y => if y = z then st else kc y, ?_, ?_, ?_⟩
        · intro c o e
          rw [upd_ne (ne_of_none e nD)]
          exact s5 _ _ (s4 _ _ e)
        · rw [upd_same, List.map_append]; rfl
        · intro y hy
          have ny : y ≠ D := by
            rcases List.mem_append.mp hy with h1 | h1
            · exact ne_of (hS y h1) hD (by intro z; cases z)
            · rw [List.mem_singleton.mp h1]; exact zD
          rw [upd_ne ny]
          dsimp only
          rcases List.mem_append.mp hy with h1 | h1
          · rw [if_neg (zq y h1)]
            exact s5 _ _ (hS y h1)
          · rw [List.mem_singleton.mp h1, if_pos rfl]
            exact hz
        · rw [List.map_append, List.take_add_one, hst]
          congr 1
          · rw [← em]
            exact List.map_congr_left fun y hy => if_neg (zq y hy)
          · show [if z = z then st else kc z] = [st]
            rw [if_pos rfl]
      · rintro H4 ⟨s4, qs, kc, hD, hS, em⟩
        rw [List.length_map, List.length_map, List.take_length] at em
        refine ⟨_, rfl, _, _, .non, .lst (SqL.of hD) (dp_all hS), by decide +kernel, shaped_lst _, _, rfl, iteBF (no_none _) ?_⟩
        have s24 := s3.trans s4
        refine ⟨rfl, _, rfl, q, _, _, _, rfl, rfl, SqL.of (s24 _ _ (s2 _ _ hq0)), a1, _, rfl, ?_⟩
        refine mk_ru rfl (.inl (SqL.of hD)) hS (by rw [em]; exact ok) (by rw [em]; exact hO) h2 h3 fun x ss' H5 s5 pm srt hR => ?_
        rw [em] at pm
        exact k x ss' H5 (((s1.trans s2).trans s24).trans s5) pm srt hR
end
end U

set_option maxRecDepth 100000
set_option maxHeartbeats 4000000
namespace U
open PySem PySem.Spec PyProof.Rows
open L2 hiding Fun CX0 E0 pass0 Fun.binds
open C8 Lx SX StX
theorem put_cons {ss : List Stf} (h : SufFree ss) {l : List Bool} {b c : Bool} (e : putM ss l = some b) : putM ss (c :: l) = some b := by
  obtain ⟨p, hp, hs⟩ := (put_iff h).mp e
  exact (put_iff h).mpr ⟨p, hp, hs.trans (List.suffix_cons _ _)⟩
theorem tl_cons {L : Nat} {l : List Bool} (c : Bool) (h : L ≤ l.length) : tl L (c :: l) = tl L l := by
  unfold tl
  rw [List.length_cons, show l.length + 1 - L = (l.length - L) + 1 by omega, List.drop_succ_cons]
def ruD (f : List Bool) (ss : List Stf) : PyData := .tuple [.str (W f), .tuple (ss.map pairD)]
theorem ruD_eqv (f f' : List Bool) (ss ss' : List Stf) : PyData.eqv (ruD f ss) (ruD f' ss') = decide (f = f' ∧ ss = ss') := by
  unfold ruD
  simp only [PyData.eqv, PyData.eqvAll, beq_W, eqv_pairs, Bool.and_true]
  rw [Bool.eq_iff_iff]
  simp
theorem ruD_shaped (f : List Bool) (ss : List Stf) : SeqAt.shaped (ruD f ss) = true := by
  unfold SeqAt.shaped ruD
  simp only [PyData.canLay0, PyData.canLayAll0, sOk_W, canLay_pairs, Bool.and_true, Bool.true_and]
  refine decide_eq_true ?_
  have := depth_pairs ss
  simp only [PyData.depth, PyData.depthAll]
  omega
section
variable {P : Program} {w : World} {K : PySem.W.Frag} {mg : Str → Option Value} {base : Heap}
theorem sc_law : FnScope ["_law_script", "_law_k", "_law_box", "_law_turn", "_law_one", "_law_two", "_law_again", "_law_wide", "_law_more", "_law_line"] ["_law_script"] (fnScope s_law) := fnScope_by (by decide +kernel)
theorem ok_law {f C : Addr} {fd : FuncData} (F : Def K mg "law" s_law f fd) (T : Tx mg) (RT : RuT K C) (NE_Rule : NeT K C)
    (c_l_seed : Cal P w K mg base 1 "_law_seed" (spSeed K) []) (c_l_word : Cal P w K mg base 3 "_law_word" spWordF []) (c_l_rule : Cal P w K mg base 4 "_law_rule" spRule []) (c_l_made : Cal P w K mg base 7 "_law_made" (spMade C) [])
    (c_put : Met P w K mg base 1 C "put" (spPut C) []) (p_longest : Prp P w K mg base 1 C "longest" (spLongest C)) (c_swapped : Met P w K mg base 7 C "swapped" (spSwapped C) []) (c_Rule_str : Met P w K mg base 1 C "__str__" (spRuStr C) []) (c_Rule_eq : Met P w K mg base 4 C "__eq__" (spRuEq C) []) (c_Rule_len : Met P w K mg base 1 C "__len__" (spRuLen C) [])
    (m_Rule2 : Mak P w K mg base 5 "Rule" C (spRuInit K C) []) (cm_Rule_read : CMt P w K mg base 7 "Rule" C "read" (spRuRead C)) :
    FnOk P w K mg base CX0 8 f fd ["_law_script"] (spLaw K) := by
  refine fn0 F.fn sc_law (fun vs H Q E h => ?_) (fun cdv A outer s H vs Q E hr h => ?_)
  · obtain ⟨_, _, rfl, _⟩ := h; rfl
  · obtain ⟨a, ns, rfl, hS, hlen, k⟩ := h
    refine ⟨_, (pss_cons (ps_for PassesOwn.never rfl (pi_range1 (by rfl) T.b_range (pa_cons (pe_callB (call_max2 rfl) (by rfl) T.b_max (by decide +kernel) (pa_cons pe_int (pa_cons (pe_callB (call_min2 rfl) (by rfl) T.b_min (by decide +kernel) (pa_cons pe_int (pa_cons (pe_callB call_len_seq (by rfl) T.b_len (by decide +kernel) (pa_cons (pv 0) pa_nil)) pa_nil))) pa_nil))) pa_nil)) (pg_name (i := 1) sc_law.nd rfl (.inl rfl))
    (pss_cons (ps_set (i := 2) sc_law.nd rfl (.inl rfl) (pe_c c_l_seed hr (by decide) rfl (pa_cons (pv 0) (pa_cons (pv 1) pa_nil))))
    (pss_one (ps_for PassesOwn.never rfl (pi_range1 (by rfl) T.b_range (pa_cons pe_int pa_nil)) (pg_name (i := 3) sc_law.nd rfl (.inl rfl))
    (pss_cons (ps_par (i := 4) (j := 5) (by rfl) sc_law.nd rfl rfl (by decide) rfl rfl (pa_cons (pe_c c_l_made hr (by decide) rfl (pa_cons (pe_c c_l_rule hr (by decide) rfl (pa_cons (pv 2) (pa_cons pe_int (pa_cons pe_int pa_nil)))) pa_nil)) (pa_cons (pe_c c_l_made hr (by decide) rfl (pa_cons (pe_c c_l_rule hr (by decide) rfl (pa_cons (pv 2) (pa_cons pe_int (pa_cons pe_int pa_nil)))) pa_nil)) pa_nil)) (by rfl))
    (pss_cons (ps_set (i := 6) sc_law.nd rfl (.inl rfl) (pe_cm (pl := _) cm_Rule_read hr (by decide) rfl (pa_cons (pe_callTy (call_str_own c_Rule_str hr (by decide)) (by rfl) T.b_str (by decide +kernel) (pa_cons (pv 4) pa_nil)) pa_nil)))
    (pss_cut (ps_set (i := 7) sc_law.nd rfl (.inl rfl) (pe_ifExp (pt_cmpR op_lt (pe_callB call_len_str (by rfl) T.b_len (by decide +kernel) (pa_cons (pe_fld (pv 4) rfl) pa_nil)) pe_int (nomark _)) (pe_mk m_Rule2 hr (by decide) rfl (pa_cons (pe_op op_add_str (pe_fld (pv 4) rfl) pe_str) (pa_cons (pe_callTy call_list_of (by rfl) T.b_list (by decide +kernel) (pa_cons (pe_fld (pv 4) rfl) pa_nil)) pa_nil))) (pv 4)))
    (pss_cons (ps_if (PW.pt (pw_or (pt_cmpR (op_neOwn c_Rule_eq NE_Rule hr (by decide)) (pv 6) (pv 4) (nomark _)) (pw_or1 (pt_cmpR op_ne (pe_cmpR op_eq (pe_callTy (call_str_own c_Rule_str hr (by decide)) (by rfl) T.b_str (by decide +kernel) (pa_cons (pv 4) pa_nil)) (pe_callTy (call_str_own c_Rule_str hr (by decide)) (by rfl) T.b_str (by decide +kernel) (pa_cons (pv 5) pa_nil)) (nomark _)) (pe_cmpR (op_eqOwn c_Rule_eq hr (by decide)) (pv 4) (pv 5) (nomark _)) (nomark _))))) (pss_one (ps_ret pe_bl)) pss_nil)
    (pss_cons (ps_if (pt_cmpR op_ne (pe_cmpR (op_eqOwn c_Rule_eq hr (by decide)) (pe_mt0 (pl := _) c_swapped hr (by decide) (pv 4)) (pe_mt0 (pl := _) c_swapped hr (by decide) (pv 5)) (nomark _)) (pe_cmpR (op_eqOwn c_Rule_eq hr (by decide)) (pv 4) (pv 5) (nomark _)) (nomark _)) (pss_one (ps_ret pe_bl)) pss_nil)
    (pss_cons (ps_if (pt_cmpR (op_neOwn c_Rule_eq NE_Rule hr (by decide)) (pe_mt0 (pl := _) c_swapped hr (by decide) (pe_mt0 (pl := _) c_swapped hr (by decide) (pv 4))) (pv 4) (nomark _)) (pss_one (ps_ret pe_bl)) pss_nil)
    (pss_cons (ps_if (pt_cmpR op_ne (pe_cmpR (op_eqOwn c_Rule_eq hr (by decide)) (pv 4) (pv 5) (nomark _)) (pe_cmpR (op_eqD hr.units) (pe_tup (pa_cons (pe_fld (pv 4) rfl) (pa_cons (pe_fld (pv 4) rfl) pa_nil))) (pe_tup (pa_cons (pe_fld (pv 5) rfl) (pa_cons (pe_fld (pv 5) rfl) pa_nil))) (nomark _)) (nomark _)) (pss_one (ps_ret pe_bl)) pss_nil)
    (pss_cons (ps_for PassesOwn.never rfl (pi_range1 (by rfl) T.b_range (pa_cons pe_int pa_nil)) (pg_name (i := 8) sc_law.nd rfl (.inl rfl))
    (pss_cons (ps_set (i := 9) sc_law.nd rfl (.inl rfl) (pe_c c_l_word hr (by decide) rfl (pa_cons (pv 2) (pa_cons pe_int (pa_cons pe_int pa_nil)))))
    (pss_cons (ps_if (pt_cmpR op_ne (pe_mt (pl := _) c_put hr (by decide) (pv 6) (pa_cons (pv 9) pa_nil)) (pe_mt (pl := _) c_put hr (by decide) (pv 4) (pa_cons (pv 9) pa_nil)) (nomark _)) (pss_one (ps_ret pe_bl)) pss_nil)
    (pss_cons (ps_if (pt_cmpR op_ne (pe_mt (pl := _) c_put hr (by decide) (pv 7) (pa_cons (pv 9) pa_nil)) (pe_mt (pl := _) c_put hr (by decide) (pv 4) (pa_cons (pv 9) pa_nil)) (nomark _)) (pss_one (ps_ret pe_bl)) pss_nil)
    (pss_cut (ps_if (PW.pt (pw_and (pt_cmpR op_ne (pe_mt (pl := _) c_put hr (by decide) (pv 4) (pa_cons (pe_op op_add_str pe_str (pv 9)) pa_nil)) (pe_mt (pl := _) c_put hr (by decide) (pv 4) (pa_cons (pv 9) pa_nil)) (nomark _)) (pw_and1 (pt_cmpR op_notN (pe_mt (pl := _) c_put hr (by decide) (pv 4) (pa_cons (pv 9) pa_nil)) pe_non (nomark _))))) (pss_one (ps_ret pe_bl)) pss_nil)
    (pss_one (ps_if (PW.pt (pw_and (pt_cmpR op_ge (pe_callB call_len_str (by rfl) T.b_len (by decide +kernel) (pa_cons (pv 9) pa_nil)) (pe_pr p_longest hr (by decide) (pv 4)) (nomark _)) (pw_and1 (pt_cmpR op_ne (pe_mt (pl := _) c_put hr (by decide) (pv 4) (pa_cons (pe_op op_add_str pe_str (pv 9)) pa_nil)) (pe_mt (pl := _) c_put hr (by decide) (pv 4) (pa_cons (pv 9) pa_nil)) (nomark _))))) (pss_one (ps_ret pe_bl)) pss_nil)))))))
    (pss_cons (ps_if (PW.pt (pw_or (pt_cmpR op_ne (pe_callB (call_len_own c_Rule_len hr (by decide)) (by rfl) T.b_len (by decide +kernel) (pa_cons (pv 4) pa_nil)) (pe_callB (call_len_own c_Rule_len hr (by decide)) (by rfl) T.b_len (by decide +kernel) (pa_cons (pv 7) pa_nil)) (nomark _)) (pw_or1 (pt_cmpR op_ne (pe_pr p_longest hr (by decide) (pv 4)) (pe_pr p_longest hr (by decide) (pv 7)) (nomark _))))) (pss_one (ps_ret pe_bl)) pss_nil)
    (pss_one (ps_if (pt_cmpR op_ne (pe_cmpR (op_eqOwn c_Rule_eq hr (by decide)) (pv 7) (pv 4) (nomark _)) (pe_cmpR op_eq (pe_callB call_len_str (by rfl) T.b_len (by decide +kernel) (pa_cons (pe_fld (pv 4) rfl) pa_nil)) pe_int (nomark _)) (nomark _)) (pss_one (ps_ret pe_bl)) pss_nil)))))))))))))))
    (pss_one (ps_ret pe_bl))), ?_⟩
    refine ⟨_, rfl, a, _, rfl, .inl hS, _, _, rfl, _, _, rfl, _, rfl, by split <;> split <;> omega, by rw [List.length_map]; split <;> split <;> omega, ?_⟩
    refine for_it walk_range (fun i σ H2 => ∃ v1 v2 v3 v4 v5 v6 v7 v8 v9 : Option V, σ = [some (.ref a), v1, v2, v3, v4, v5, v6, v7, v8, v9] ∧ Same H H2) ⟨_, _, _, _, _, _, _, _, _, rfl, Same.refl _⟩ (fun _ _ _ _ _ => trivial) ?_ ?_
    · rintro i x σ H2' H2 hi ⟨v1, v2, v3, v4, v5, v6, v7, v8, v9, rfl, s2⟩ ⟨rfl, rfl⟩
      refine ⟨_, rfl, _, rfl, a, ns, i, (by show [V.ref a, V.int (0 + (i : Int))] = _; rw [Int.zero_add]), s2.seq hS, fun bx H1 nb s1 hb => ?_⟩
      refine ⟨_, rfl, by decide, by decide, for_it walk_range (fun j σ H3 => ∃ v1 v3 v4 v5 v6 v7 v8 v9 : Option V, σ = [some (.ref a), v1, some (.ref bx), v3, v4, v5, v6, v7, v8, v9] ∧ Up bx H1 H3) ⟨_, _, _, _, _, _, _, _, rfl, Up.refl hb⟩ (fun _ _ _ _ _ => trivial) ?_ ?_⟩
      · rintro j y σ H3' H3 hj ⟨v1, v3, v4, v5, v6, v7, v8, v9, rfl, u3⟩ ⟨rfl, rfl⟩
        -- one, two
        refine ⟨_, rfl, bx, 6, 4, rfl, u3.2, by decide, by decide, by decide, by decide, fun t fl ss0 H4 u4 told f2 f6 ss2 ok0 hO0 hlo => ?_⟩
        refine ⟨t, fl, ss0, rfl, told, ok0, hO0.ok, f2, by omega, fun m ss H5 s5 pm srt hR => ?_⟩
        have ok := ok0.perm pm.symm
        have hO : OkR ss := hO0.ok.congr fun l => (put_perm ok.free pm l).symm
        have u5 := (u3.trans u4).same s5
        refine ⟨_, rfl, bx, 6, 4, rfl, u5.2, by decide, by decide, by decide, by decide, fun t' fl' ss0' H6 u6 told' f2' f6' ss2' ok0' hO0' hlo' => ?_⟩
        refine ⟨t', fl', ss0', rfl, told', ok0', hO0'.ok, f2', by omega, fun m' ss' H7 s7 pm' srt' hR' => ⟨_, _, rfl, ?_⟩⟩
        have ok' := ok0'.perm pm'.symm
        have hO' : OkR ss' := hO0'.ok.congr fun l => (put_perm ok'.free pm' l).symm
        have u7 := (u5.trans u6).same s7
        have hR7 := (hR.nl (u6.nl u5.2)).same s7
        clear told told' u6 u4 hR
        have f1 : fl.length ≤ 1000 := by omega
        have f1' : fl'.length ≤ 1000 := by omega
        have sm := ok.sm f1
        have sm' := ok'.sm f1'
        -- again
        obtain ⟨d7, t7, hm7⟩ := hR7.few
        refine ⟨rfl, _, rfl, m, d7, _, rfl, hm7, m, fl, ss, rfl, hR7, sm, fun H8 s8 => ⟨_, rfl, fl, ss, rfl, ok, hO, f2, f1, fun g ssg H9 s9 pmg srtg hG => ?_⟩⟩
        have eg := sorted_one pmg srtg srt
        subst eg
        have s79 := s8.trans s9
        have hR9 := hR7.same s79
        have hR9' := hR'.same s79
        have u9 := u7.same s79
        -- wide
        refine ⟨fun σ' H' => ∃ (wd : Addr) (wf : List Bool), σ' = [some (.ref a), v1, some (.ref bx), some (.int (0 + (j : Int))), some (.ref m), some (.ref m'), some (.ref g), some (.ref wd), v8, v9] ∧ Up bx H1 H' ∧ RuAt C H' m fl ssg ∧ RuAt C H' m' fl' ss' ∧ RuAt C H' g fl ssg ∧ RuAt C H' wd wf ssg ∧ wf.length ≤ 1000 ∧ (wf = fl ↔ fl.length = 6), ?_, ?_⟩
        · obtain ⟨d9, t9, ps, kb, hm9, ht9, hv9, ess⟩ := id hR9
          refine ⟨_, rfl, m, C, d9, _, _, rfl, hm9, RT.cl, RT.nF, ruF_flag _ _, _, rfl, by rw [W_len]; exact sl_len (by omega), _, _, rfl, rfl, _, rfl, ?_⟩
          by_cases c : fl.length < 6
          · refine iteDT (by rw [W_len]; omega) ?_
            refine ⟨_, rfl, m, C, d9, _, _, rfl, hm9, RT.cl, RT.nF, ruF_flag _ _, _, _, rfl, rfl, by rw [W_len, show ("0" : Str).length = 1 by decide +kernel]; exact sl_len (by omega), ?_⟩
            refine ⟨_, rfl, m, C, d9, _, _, rfl, hm9, RT.cl, RT.nS, ruF_stuffs _ _, t9, _, rfl, .inr (SqT.of ht9), fun l nl => ?_⟩
            refine mk_ru (f := fl ++ [false]) (by rw [W_0, W_cat]) (.inl (SqL.of upd_same)) (hv9.same (same_upd nl)) (by rw [← ess]; exact ok) (by rw [← ess]; exact hO) (by rw [List.length_append]; omega) (by rw [List.length_append]; show _ + 1 ≤ _; omega) fun x ssx H10 s10 pmx srtx hX => ?_
            rw [← ess] at pmx
            have ex := sorted_one pmx srtx srt
            subst ex
            have s910 := (same_upd (o := .lst (ps.map V.ref)) nl).trans s10
            refine ⟨x, fl ++ [false], rfl, u9.same s910, hR9.same s910, hR9'.same s910, hG.same s910, hX, by rw [List.length_append]; show _ + 1 ≤ _; omega, ?_⟩
            constructor
            · intro z
              have := congrArg List.length z
              rw [List.length_append] at this
              simp only [List.length_cons, List.length_nil] at this
              omega
            · intro z; omega
          · refine iteDF (by rw [W_len]; omega) ?_
            exact ⟨_, rfl, m, fl, rfl, u9, hR9, hR9', hG, hR9, f1, fun _ => by omega, fun _ => rfl⟩
        · rintro σ' H10 ⟨wd, wf, rfl, u10, hR10, hR10', hG10, hW10, wf1, ewf⟩
          have smw := ok.sm wf1
          obtain ⟨d, t, hm⟩ := hR10.few
          obtain ⟨d', t', hm'⟩ := hR10'.few
          obtain ⟨dg, tg, hg⟩ := hG10.few
          obtain ⟨dw, tw, hw⟩ := hW10.few
          -- again != one, ..
          refine ⟨_, rfl, _, rfl, g, m, dg, d, _, _, rfl, rfl, hg, hm, g, m, fl, fl, ssg, ssg, rfl, hG10, sm, hR10, sm, fun H11 s11 => ⟨_, rfl, _, rfl, iteBF (by rw [decide_eq_true ⟨rfl, rfl⟩]; rfl) ?_⟩⟩
          refine ⟨_, rfl, m, d, _, rfl, s11 _ _ hm, m, fl, ssg, rfl, hR10.same s11, sm, fun H12 s12 => ⟨_, rfl, ?_⟩⟩
          have s12' := s11.trans s12
          refine ⟨_, rfl, m', d', _, rfl, s12' _ _ hm', m', fl', ss', rfl, hR10'.same s12', sm', fun H13 s13 => ⟨_, rfl, rfl, ?_⟩⟩
          have s13' := s12'.trans s13
          refine ⟨_, rfl, _, rfl, m, m', d, d', _, _, rfl, rfl, s13' _ _ hm, s13' _ _ hm', m, m', fl, fl', ssg, ss', rfl, hR10.same s13', sm, hR10'.same s13', sm', fun H14 s14 => ⟨_, rfl, rfl, _, rfl, iteNS ?_ ?_⟩⟩
          · congr 1
            rw [decide_eq_decide]
            exact ⟨fun z => ruT_inj (V.str.inj z), fun z => by rw [z.1, z.2]⟩
          have s14' := s13'.trans s14
          -- swapped
          refine ⟨_, rfl, m, d, _, rfl, s14' _ _ hm, ruF_no _ _ (by decide +kernel) (by decide +kernel), m, fl, ssg, rfl, hR10.same s14', ok, hO, f2, f1, fun n st H15 s15 pm1 srt1 hN => ?_⟩
          have s15' := s14'.trans s15
          refine ⟨_, rfl, m', d', _, rfl, s15' _ _ hm', ruF_no _ _ (by decide +kernel) (by decide +kernel), m', fl', ss', rfl, hR10'.same s15', ok', hO', f2', f1', fun n' st' H16 s16 pm2 srt2 hN' => ?_⟩
          have s16' := s15'.trans s16
          have hN16 := hN.same s16
          obtain ⟨dn, tn, hn⟩ := hN16.few
          obtain ⟨dn', tn', hn'⟩ := hN'.few
          have okn := ok.sw.perm pm1.symm
          have okn' := ok'.sw.perm pm2.symm
          have hOn : OkR st := hO.sw.congr fun l => (put_perm okn.free pm1 l).symm
          have fs : (sw fl).length ≤ 1000 := by rw [sw_len]; exact f1
          have fs' : (sw fl').length ≤ 1000 := by rw [sw_len]; exact f1'
          have fs2 : 2 ≤ (sw fl).length := by rw [sw_len]; exact f2
          refine ⟨n, n', dn, dn', _, _, rfl, rfl, hn, hn', n, n', _, _, st, st', rfl, hN16, okn.sm fs, hN', okn'.sm fs', fun H17 s17 => ⟨_, rfl, ?_⟩⟩
          have s17' := s16'.trans s17
          refine ⟨_, rfl, _, rfl, m, m', d, d', _, _, rfl, rfl, s17' _ _ hm, s17' _ _ hm', m, m', fl, fl', ssg, ss', rfl, hR10.same s17', sm, hR10'.same s17', sm', fun H18 s18 => ⟨_, rfl, rfl, _, rfl, iteNS ?_ ?_⟩⟩
          · congr 1
            rw [decide_eq_decide]
            constructor
            · rintro ⟨z1, z2⟩
              refine ⟨sw_inj z1, sorted_one ?_ srt srt'⟩
              subst z2
              have := (pm1.symm.trans pm2).map swS
              rw [map_sw2, map_sw2] at this
              exact this
            · rintro ⟨z1, z2⟩
              subst z1 z2
              exact ⟨rfl, sorted_one (pm1.trans pm2.symm) srt1 srt2⟩
          have s18' := s17'.trans s18
          -- swapped twice
          refine ⟨_, rfl, m, d, _, rfl, s18' _ _ hm, ruF_no _ _ (by decide +kernel) (by decide +kernel), m, fl, ssg, rfl, hR10.same s18', ok, hO, f2, f1, fun q sq H19 s19 pm3 srt3 hB => ?_⟩
          obtain ⟨db, tb, hbb⟩ := hB.few
          have okq := ok.sw.perm pm3.symm
          have hOq : OkR sq := hO.sw.congr fun l => (put_perm okq.free pm3 l).symm
          refine ⟨q, db, _, rfl, hbb, ruF_no _ _ (by decide +kernel) (by decide +kernel), q, sw fl, sq, rfl, hB, okq, hOq, fs2, fs, fun q2 sq2 H20 s20 pm4 srt4 hD => ?_⟩
          rw [sw_sw] at hD
          have eq2 : sq2 = ssg := sorted_one (pm4.trans ((pm3.map swS).trans (by rw [map_sw2]))) srt4 srt
          subst eq2
          have s20' := (s18'.trans s19).trans s20
          obtain ⟨dd, td, hdd⟩ := hD.few
          refine ⟨_, rfl, q2, m, dd, d, _, _, rfl, rfl, hdd, s20' _ _ hm, q2, m, fl, fl, sq2, sq2, rfl, hD, sm, hR10.same s20', sm, fun H21 s21 => ⟨_, rfl, _, rfl, iteBF (by rw [decide_eq_true ⟨rfl, rfl⟩]; rfl) ?_⟩⟩
          have s21' := s20'.trans s21
          -- (one == two) != ((..) == (..))
          refine ⟨_, rfl, _, rfl, m, m', d, d', _, _, rfl, rfl, s21' _ _ hm, s21' _ _ hm', m, m', fl, fl', sq2, ss', rfl, hR10.same s21', sm, hR10'.same s21', sm', fun H22 s22 => ⟨_, rfl, ?_⟩⟩
          have s22' := s21'.trans s22
          obtain ⟨d1, t1, ps1, kb1, h11, h12, h13, e1⟩ := hR10.same s22'
          obtain ⟨d2, t2, ps2, kb2, h21, h22, h23, e2⟩ := hR10'.same s22'
          refine ⟨_, rfl, m, C, d1, _, _, rfl, h11, RT.cl, RT.nF, ruF_flag _ _, _, rfl, m, C, d1, _, _, rfl, h11, RT.cl, RT.nS, ruF_stuffs _ _, by show 2 ≤ sizeLine; decide, fun w1 nw1 => ?_⟩
          have sw1 := same_upd (o := .tup [.str (W fl), .ref t1]) nw1
          refine ⟨_, rfl, m', C, d2, _, _, rfl, sw1 _ _ h21, RT.cl, RT.nF, ruF_flag _ _, _, rfl, m', C, d2, _, _, rfl, sw1 _ _ h21, RT.cl, RT.nS, ruF_stuffs _ _, by show 2 ≤ sizeLine; decide, fun w2 nw2 => ?_⟩
          have sw2 := same_upd (o := .tup [.str (W fl'), .ref t2]) nw2
          have hw1 := sw2 _ _ (upd_same (H := H22) (a := w1) (o := .tup [.str (W fl), .ref t1]))
          have sw12 := sw1.trans sw2
          refine ⟨ruD fl sq2, ruD fl' ss', ?_, ?_, ruD_shaped _ _, ruD_shaped _ _, ?_⟩
          · rw [e1]
            exact .tup (SqT.of hw1) (.cons (.str _) (.cons (.tup (SqT.of (sw12 _ _ h12)) (dp_all (h13.same sw12))) .nil))
          · rw [e2]
            exact .tup (SqT.of upd_same) (.cons (.str _) (.cons (.tup (SqT.of (sw12 _ _ h22)) (dp_all (h23.same sw12))) .nil))
          refine ⟨rfl, _, rfl, iteNS (by rw [ruD_eqv]) ?_⟩
          have s23' := s22'.trans sw12
          have u23 := u10.same s23'
          have hR23 := hR10.same s23'
          have hG23 := hG10.same s23'
          have hW23 := hW10.same s23'
          generalize upd (upd H22 w1 _) w2 _ = H23 at u23 hR23 hG23 hW23
          clear s23' sw12 hw1 sw2 nw2 sw1 nw1
          -- the lines
          refine ⟨_, rfl, by decide, by decide, for_it walk_range (fun j σ H3 => ∃ v1 v3 v8 v9 : Option V, σ = [some (.ref a), v1, some (.ref bx), v3, some (.ref m), some (.ref m'), some (.ref g), some (.ref wd), v8, v9] ∧ Up bx H1 H3 ∧ RuAt C H3 m fl sq2 ∧ RuAt C H3 g fl sq2 ∧ RuAt C H3 wd wf sq2) ⟨_, _, _, _, rfl, u23, hR23, hG23, hW23⟩ (fun _ _ _ _ _ => trivial) ?_ ?_⟩
          · clear hR23 hG23 hW23 u23
            rintro j2 y2 σ H24' H24 hj2 ⟨v1, v3, v8, v9, rfl, u24, hR24, hG24, hW24⟩ ⟨rfl, rfl⟩
            refine ⟨_, rfl, bx, 0, 12, rfl, u24.2, by decide, by decide, fun l H25 _ hl u25 => ?_⟩
            have n25 := u25.nl u24.2
            have u25' := u24.trans u25
            have hR25 := hR24.nl n25
            have hG25 := hG24.nl n25
            have hW25 := hW24.nl n25
            obtain ⟨d, t, hm⟩ := hR25.few
            obtain ⟨dg, tg, hg⟩ := hG25.few
            obtain ⟨dw, tw, hw⟩ := hW25.few
            refine ⟨_, rfl, g, dg, _, rfl, hg, ruF_no _ _ (by decide +kernel) (by decide +kernel), _, rfl, g, _, sq2, l, rfl, hG25, fun H26 s26 => ?_⟩
            refine ⟨_, rfl, m, d, _, rfl, s26 _ _ hm, ruF_no _ _ (by decide +kernel) (by decide +kernel), _, rfl, m, _, sq2, l, rfl, hR25.same s26, fun H27 s27 => ⟨scal_oB _ _, _, rfl, iteNS rfl ?_⟩⟩
            have s27' := s26.trans s27
            refine ⟨_, rfl, wd, dw, _, rfl, s27' _ _ hw, ruF_no _ _ (by decide +kernel) (by decide +kernel), _, rfl, wd, _, sq2, l, rfl, hW25.same s27', fun H28 s28 => ?_⟩
            have s28' := s27'.trans s28
            refine ⟨_, rfl, m, d, _, rfl, s28' _ _ hm, ruF_no _ _ (by decide +kernel) (by decide +kernel), _, rfl, m, _, sq2, l, rfl, hR25.same s28', fun H29 s29 => ⟨scal_oB _ _, _, rfl, iteNS rfl ?_⟩⟩
            have s29' := s28'.trans s29
            have l0 : ("0" : Str) ++ W l = W (false :: l) := by rw [W_0, W_cat]; rfl
            have l1 : ("1" : Str) ++ W l = W (true :: l) := by rw [W_1, W_cat]; rfl
            have b0 : ("0" : Str).length + (W l).length ≤ sizeLine := by rw [W_len, show ("0" : Str).length = 1 by decide +kernel]; exact sl_len (by omega)
            have b1 : ("1" : Str).length + (W l).length ≤ sizeLine := by rw [W_len, show ("1" : Str).length = 1 by decide +kernel]; exact sl_len (by omega)
            refine ⟨fun σ' H' => σ' = [some (.ref a), v1, some (.ref bx), v3, some (.ref m), some (.ref m'), some (.ref g), some (.ref wd), some (.int (0 + (j2 : Int))), some (.str (W l))] ∧ Same H25 H', ?_, ?_⟩
            · refine ⟨_, rfl, m, d, _, rfl, s29' _ _ hm, ruF_no _ _ (by decide +kernel) (by decide +kernel), _, rfl, _, _, rfl, rfl, b0, ?_⟩
              rw [l0]
              refine ⟨m, _, sq2, _, rfl, hR25.same s29', fun H30 s30 => ?_⟩
              have s30' := s29'.trans s30
              refine ⟨_, rfl, m, d, _, rfl, s30' _ _ hm, ruF_no _ _ (by decide +kernel) (by decide +kernel), _, rfl, m, _, sq2, l, rfl, hR25.same s30', fun H31 s31 => ⟨scal_oB _ _, _, rfl, ?_⟩⟩
              have s31' := s30'.trans s31
              cases e : putM sq2 l with
              | some b =>
                rw [put_cons ok.free e]
                exact iteNS rfl ⟨rfl, s31'⟩
              | none =>
                refine ite2 (fun _ => ?_) (fun _ => ⟨rfl, s31'⟩)
                refine ⟨_, rfl, m, d, _, rfl, s31' _ _ hm, ruF_no _ _ (by decide +kernel) (by decide +kernel), _, rfl, m, _, sq2, l, rfl, hR25.same s31', fun H32 s32 => ?_⟩
                rw [e]
                exact ⟨rfl, _, rfl, ⟨rfl, s31'.trans s32⟩⟩
            · rintro σ' H30 ⟨rfl, s30⟩
              refine ⟨_, rfl, _, rfl, by rw [W_len]; exact sl_len (by omega), _, rfl, m, d, _, rfl, s30 _ _ hm, m, _, sq2, rfl, hR25.same s30, ok.few, fun s hs => Nat.le_trans (ok.l9 s hs) (by decide), fun H31 s31 => ⟨_, _, rfl, rfl, _, rfl, ?_⟩⟩
              have s31' := s30.trans s31
              rw [W_len]
              refine ite2 (fun h1 => ?_) (fun h1 => ?_)
              · have h2 : ((longM sq2 : Nat) : Int) ≤ ((l.length : Nat) : Int) := of_decide_eq_true h1
                refine ⟨_, rfl, m, d, _, rfl, s31' _ _ hm, ruF_no _ _ (by decide +kernel) (by decide +kernel), _, rfl, _, _, rfl, rfl, b1, ?_⟩
                rw [l1]
                refine ⟨m, _, sq2, _, rfl, hR25.same s31', fun H32 s32 => ?_⟩
                have s32' := s31'.trans s32
                refine ⟨_, rfl, m, d, _, rfl, s32' _ _ hm, ruF_no _ _ (by decide +kernel) (by decide +kernel), _, rfl, m, _, sq2, l, rfl, hR25.same s32', fun H33 s33 => ⟨scal_oB _ _, _, rfl, iteNS ?_ ?_⟩⟩
                · rw [put_tl (tl_cons true (by omega : longM sq2 ≤ l.length)) fun s hs => longM_le hs]
                · have s' := s32'.trans s33
                  exact ⟨_, _, _, _, rfl, u25'.same s', hR25.same s', hG25.same s', hW25.same s'⟩
              · exact ⟨_, _, _, _, rfl, u25'.same s31', hR25.same s31', hG25.same s31', hW25.same s31'⟩
          · clear hR23 hG23 hW23 u23
            rintro σ H24 ⟨v1, v3, v8, v9, rfl, u24, hR24, hG24, hW24⟩
            obtain ⟨d, t, hm⟩ := hR24.few
            obtain ⟨dw, tw, hw⟩ := hW24.few
            have few := ok.few
            refine ⟨_, rfl, m, d, _, rfl, hm, m, _, sq2, rfl, hR24, _, rfl, by omega, by omega, ?_⟩
            refine ⟨_, rfl, wd, dw, _, rfl, hw, wd, _, sq2, rfl, hW24, _, rfl, by omega, by omega, rfl, _, rfl, iteNS rfl ?_⟩
            refine ⟨_, rfl, m, d, _, rfl, hm, m, _, sq2, rfl, hR24, few, fun s hs => Nat.le_trans (ok.l9 s hs) (by decide), fun H25 s25 => ?_⟩
            refine ⟨_, rfl, wd, dw, _, rfl, s25 _ _ hw, wd, _, sq2, rfl, hW24.same s25, few, fun s hs => Nat.le_trans (ok.l9 s hs) (by decide), fun H26 s26 => ⟨rfl, _, rfl, iteNS rfl ?_⟩⟩
            have s26' := s25.trans s26
            refine ⟨_, rfl, _, rfl, wd, m, dw, d, _, _, rfl, rfl, s26' _ _ hw, s26' _ _ hm, wd, m, wf, fl, sq2, sq2, rfl, hW24.same s26', smw, hR24.same s26', sm, fun H27 s27 => ⟨_, rfl, ?_⟩⟩
            have s27' := s26'.trans s27
            refine ⟨_, rfl, m, C, d, _, _, rfl, s27' _ _ hm, RT.cl, RT.nF, ruF_flag _ _, _, rfl, by rw [W_len]; exact sl_len (by omega), rfl, rfl, _, rfl, iteNS ?_ ?_⟩
            · congr 1
              rw [decide_eq_decide, W_len]
              constructor
              · rintro ⟨z, _⟩
                rw [ewf.mp z]
                rfl
              · intro z
                have := V.int.inj z
                exact ⟨ewf.mpr (by omega), rfl⟩
            · exact ⟨_, _, _, _, _, _, _, _, rfl, u24.same s27'⟩
      · rintro σ H3 ⟨v1, v3, v4, v5, v6, v7, v8, v9, rfl, u3⟩
        exact ⟨_, _, _, _, _, _, _, _, _, rfl, fun c o e => u3.1 c o (s1 _ _ (s2 _ _ e)) (ne_of_none (s2 _ _ e) nb)⟩
    · rintro σ H2 ⟨v1, v2, v3, v4, v5, v6, v7, v8, v9, rfl, s2⟩
      exact k H2
end
end U

set_option maxRecDepth 100000
set_option maxHeartbeats 4000000
namespace U
open PySem PySem.Spec PyProof.Rows
open L2 hiding Fun CX0 E0 pass0 Fun.binds
open C8 Lx
theorem all_mk {l : PySem.W.OpenLaw} {w : World} {K : PySem.W.Frag} {h : Heap} {mg : Str → Option Value} {fa : Addr} (X : K.In h) (G : h.Ns mainGlobals mg) (hfa : mg "law" = some (.ref fa))
    {f_is_sequence : Addr} {od_is_sequence an_is_sequence : Option Addr} {sl_is_sequence : Array (Option Value)} {oc_is_sequence kV_is_sequence dc_is_sequence pm_is_sequence cd_is_sequence ct_is_sequence : Value}
    {f_is_word : Addr} {od_is_word an_is_word : Option Addr} {sl_is_word : Array (Option Value)} {oc_is_word kV_is_word dc_is_word pm_is_word cd_is_word ct_is_word : Value}
    {f_is_bit : Addr} {od_is_bit an_is_bit : Option Addr} {sl_is_bit : Array (Option Value)} {oc_is_bit kV_is_bit dc_is_bit pm_is_bit cd_is_bit ct_is_bit : Value}
    {f_other : Addr} {od_other an_other : Option Addr} {sl_other : Array (Option Value)} {oc_other kV_other dc_other pm_other cd_other ct_other : Value}
    {f_swapped_word : Addr} {od_swapped_word an_swapped_word : Option Addr} {sl_swapped_word : Array (Option Value)} {oc_swapped_word kV_swapped_word dc_swapped_word pm_swapped_word cd_swapped_word ct_swapped_word : Value}
    {f_tail : Addr} {od_tail an_tail : Option Addr} {sl_tail : Array (Option Value)} {oc_tail kV_tail dc_tail pm_tail cd_tail ct_tail : Value}
    {f_is_stuff : Addr} {od_is_stuff an_is_stuff : Option Addr} {sl_is_stuff : Array (Option Value)} {oc_is_stuff kV_is_stuff dc_is_stuff pm_is_stuff cd_is_stuff ct_is_stuff : Value}
    {f_are_stuffs : Addr} {od_are_stuffs an_are_stuffs : Option Addr} {sl_are_stuffs : Array (Option Value)} {oc_are_stuffs kV_are_stuffs dc_are_stuffs pm_are_stuffs cd_are_stuffs ct_are_stuffs : Value}
    {f_stuff_in : Addr} {od_stuff_in an_stuff_in : Option Addr} {sl_stuff_in : Array (Option Value)} {oc_stuff_in kV_stuff_in dc_stuff_in pm_stuff_in cd_stuff_in ct_stuff_in : Value}
    {f_l_seed : Addr} {od_l_seed an_l_seed : Option Addr} {sl_l_seed : Array (Option Value)} {oc_l_seed kV_l_seed dc_l_seed pm_l_seed cd_l_seed ct_l_seed : Value}
    {f_l_choose : Addr} {od_l_choose an_l_choose : Option Addr} {sl_l_choose : Array (Option Value)} {oc_l_choose kV_l_choose dc_l_choose pm_l_choose cd_l_choose ct_l_choose : Value}
    {f_l_one_of : Addr} {od_l_one_of an_l_one_of : Option Addr} {sl_l_one_of : Array (Option Value)} {oc_l_one_of kV_l_one_of dc_l_one_of pm_l_one_of cd_l_one_of ct_l_one_of : Value}
    {f_l_word : Addr} {od_l_word an_l_word : Option Addr} {sl_l_word : Array (Option Value)} {oc_l_word kV_l_word dc_l_word pm_l_word cd_l_word ct_l_word : Value}
    {f_l_put : Addr} {od_l_put an_l_put : Option Addr} {sl_l_put : Array (Option Value)} {oc_l_put kV_l_put dc_l_put pm_l_put cd_l_put ct_l_put : Value}
    {f_l_is_rule : Addr} {od_l_is_rule an_l_is_rule : Option Addr} {sl_l_is_rule : Array (Option Value)} {oc_l_is_rule kV_l_is_rule dc_l_is_rule pm_l_is_rule cd_l_is_rule ct_l_is_rule : Value}
    {f_l_rule : Addr} {od_l_rule an_l_rule : Option Addr} {sl_l_rule : Array (Option Value)} {oc_l_rule kV_l_rule dc_l_rule pm_l_rule cd_l_rule ct_l_rule : Value}
    {f_l_made : Addr} {od_l_made an_l_made : Option Addr} {sl_l_made : Array (Option Value)} {oc_l_made kV_l_made dc_l_made pm_l_made cd_l_made ct_l_made : Value}
    {f_law : Addr} {od_law an_law : Option Addr} {sl_law : Array (Option Value)} {oc_law kV_law dc_law pm_law cd_law ct_law : Value}
    {C_Rule : Addr}
    {f_Rule_put : Addr} {od_Rule_put an_Rule_put : Option Addr} {sl_Rule_put : Array (Option Value)} {oc_Rule_put kV_Rule_put dc_Rule_put pm_Rule_put cd_Rule_put ct_Rule_put : Value}
    {f_Rule_longest : Addr} {od_Rule_longest an_Rule_longest : Option Addr} {sl_Rule_longest : Array (Option Value)} {oc_Rule_longest kV_Rule_longest dc_Rule_longest pm_Rule_longest cd_Rule_longest ct_Rule_longest : Value}
    {p_Rule_longest : Addr} {pr_Rule_longest : List Value}
    {f_Rule_put_in : Addr} {od_Rule_put_in an_Rule_put_in : Option Addr} {sl_Rule_put_in : Array (Option Value)} {oc_Rule_put_in kV_Rule_put_in dc_Rule_put_in pm_Rule_put_in cd_Rule_put_in ct_Rule_put_in : Value}
    {f_Rule_is_endless : Addr} {od_Rule_is_endless an_Rule_is_endless : Option Addr} {sl_Rule_is_endless : Array (Option Value)} {oc_Rule_is_endless kV_Rule_is_endless dc_Rule_is_endless pm_Rule_is_endless cd_Rule_is_endless ct_Rule_is_endless : Value}
    {f_Rule_init : Addr} {od_Rule_init an_Rule_init : Option Addr} {sl_Rule_init : Array (Option Value)} {oc_Rule_init kV_Rule_init dc_Rule_init pm_Rule_init cd_Rule_init ct_Rule_init : Value}
    {dT_Rule_init : Addr} {dd_Rule_init : Option Addr} {dn_Rule_init : Nat} {ds_Rule_init : Array (Option Value)} {dE_R : Addr} {dde_R : Option Addr} {dne_R : Nat} {dse_R : Array (Option Value)}
    {f_Rule_swapped : Addr} {od_Rule_swapped an_Rule_swapped : Option Addr} {sl_Rule_swapped : Array (Option Value)} {oc_Rule_swapped kV_Rule_swapped dc_Rule_swapped pm_Rule_swapped cd_Rule_swapped ct_Rule_swapped : Value}
    {f_Rule_str : Addr} {od_Rule_str an_Rule_str : Option Addr} {sl_Rule_str : Array (Option Value)} {oc_Rule_str kV_Rule_str dc_Rule_str pm_Rule_str cd_Rule_str ct_Rule_str : Value}
    {f_Rule_eq : Addr} {od_Rule_eq an_Rule_eq : Option Addr} {sl_Rule_eq : Array (Option Value)} {oc_Rule_eq kV_Rule_eq dc_Rule_eq pm_Rule_eq cd_Rule_eq ct_Rule_eq : Value}
    {f_Rule_len : Addr} {od_Rule_len an_Rule_len : Option Addr} {sl_Rule_len : Array (Option Value)} {oc_Rule_len kV_Rule_len dc_Rule_len pm_Rule_len cd_Rule_len ct_Rule_len : Value}
    {f_Rule_read : Addr} {od_Rule_read an_Rule_read : Option Addr} {sl_Rule_read : Array (Option Value)} {oc_Rule_read kV_Rule_read dc_Rule_read pm_Rule_read cd_Rule_read ct_Rule_read : Value}
    {p_Rule_read : Addr} {pr_Rule_read : List Value}
    {tB : Tok}
    (a_is_sequence : PySem.W.nsIn K mainGlobals "is_sequence" = some (some (.ref f_is_sequence)))
    (l_is_sequence : K.lookup f_is_sequence = some ⟨oc_is_sequence, od_is_sequence, .func (PySem.W.fnOf "is_sequence" "is_sequence" (fnArgs s_is_sequence) (fnBody s_is_sequence) (fnScope s_is_sequence) .none kV_is_sequence dc_is_sequence pm_is_sequence an_is_sequence cd_is_sequence ct_is_sequence), sl_is_sequence⟩)
    (c_is_sequence : PySem.W.codeIn K cd_is_sequence "is_sequence" = true)
    (k_is_sequence : PySem.W.keepIn K (.ref f_is_sequence) = true)
    (a_is_word : PySem.W.nsIn K mainGlobals "is_word" = some (some (.ref f_is_word)))
    (l_is_word : K.lookup f_is_word = some ⟨oc_is_word, od_is_word, .func (PySem.W.fnOf "is_word" "is_word" (fnArgs s_is_word) (fnBody s_is_word) (fnScope s_is_word) .none kV_is_word dc_is_word pm_is_word an_is_word cd_is_word ct_is_word), sl_is_word⟩)
    (c_is_word : PySem.W.codeIn K cd_is_word "is_word" = true)
    (k_is_word : PySem.W.keepIn K (.ref f_is_word) = true)
    (a_is_bit : PySem.W.nsIn K mainGlobals "is_bit" = some (some (.ref f_is_bit)))
    (l_is_bit : K.lookup f_is_bit = some ⟨oc_is_bit, od_is_bit, .func (PySem.W.fnOf "is_bit" "is_bit" (fnArgs s_is_bit) (fnBody s_is_bit) (fnScope s_is_bit) .none kV_is_bit dc_is_bit pm_is_bit an_is_bit cd_is_bit ct_is_bit), sl_is_bit⟩)
    (c_is_bit : PySem.W.codeIn K cd_is_bit "is_bit" = true)
    (k_is_bit : PySem.W.keepIn K (.ref f_is_bit) = true)
    (a_other : PySem.W.nsIn K mainGlobals "other" = some (some (.ref f_other)))
    (l_other : K.lookup f_other = some ⟨oc_other, od_other, .func (PySem.W.fnOf "other" "other" (fnArgs s_other) (fnBody s_other) (fnScope s_other) .none kV_other dc_other pm_other an_other cd_other ct_other), sl_other⟩)
    (c_other : PySem.W.codeIn K cd_other "other" = true)
    (k_other : PySem.W.keepIn K (.ref f_other) = true)
    (a_swapped_word : PySem.W.nsIn K mainGlobals "swapped_word" = some (some (.ref f_swapped_word)))
    (l_swapped_word : K.lookup f_swapped_word = some ⟨oc_swapped_word, od_swapped_word, .func (PySem.W.fnOf "swapped_word" "swapped_word" (fnArgs s_swapped_word) (fnBody s_swapped_word) (fnScope s_swapped_word) .none kV_swapped_word dc_swapped_word pm_swapped_word an_swapped_word cd_swapped_word ct_swapped_word), sl_swapped_word⟩)
    (c_swapped_word : PySem.W.codeIn K cd_swapped_word "swapped_word" = true)
    (k_swapped_word : PySem.W.keepIn K (.ref f_swapped_word) = true)
    (a_tail : PySem.W.nsIn K mainGlobals "tail" = some (some (.ref f_tail)))
    (l_tail : K.lookup f_tail = some ⟨oc_tail, od_tail, .func (PySem.W.fnOf "tail" "tail" (fnArgs s_tail) (fnBody s_tail) (fnScope s_tail) .none kV_tail dc_tail pm_tail an_tail cd_tail ct_tail), sl_tail⟩)
    (c_tail : PySem.W.codeIn K cd_tail "tail" = true)
    (k_tail : PySem.W.keepIn K (.ref f_tail) = true)
    (a_is_stuff : PySem.W.nsIn K mainGlobals "is_stuff" = some (some (.ref f_is_stuff)))
    (l_is_stuff : K.lookup f_is_stuff = some ⟨oc_is_stuff, od_is_stuff, .func (PySem.W.fnOf "is_stuff" "is_stuff" (fnArgs s_is_stuff) (fnBody s_is_stuff) (fnScope s_is_stuff) .none kV_is_stuff dc_is_stuff pm_is_stuff an_is_stuff cd_is_stuff ct_is_stuff), sl_is_stuff⟩)
    (c_is_stuff : PySem.W.codeIn K cd_is_stuff "is_stuff" = true)
    (k_is_stuff : PySem.W.keepIn K (.ref f_is_stuff) = true)
    (a_are_stuffs : PySem.W.nsIn K mainGlobals "are_stuffs" = some (some (.ref f_are_stuffs)))
    (l_are_stuffs : K.lookup f_are_stuffs = some ⟨oc_are_stuffs, od_are_stuffs, .func (PySem.W.fnOf "are_stuffs" "are_stuffs" (fnArgs s_are_stuffs) (fnBody s_are_stuffs) (fnScope s_are_stuffs) .none kV_are_stuffs dc_are_stuffs pm_are_stuffs an_are_stuffs cd_are_stuffs ct_are_stuffs), sl_are_stuffs⟩)
    (c_are_stuffs : PySem.W.codeIn K cd_are_stuffs "are_stuffs" = true)
    (k_are_stuffs : PySem.W.keepIn K (.ref f_are_stuffs) = true)
    (a_stuff_in : PySem.W.nsIn K mainGlobals "stuff_in" = some (some (.ref f_stuff_in)))
    (l_stuff_in : K.lookup f_stuff_in = some ⟨oc_stuff_in, od_stuff_in, .func (PySem.W.fnOf "stuff_in" "stuff_in" (fnArgs s_stuff_in) (fnBody s_stuff_in) (fnScope s_stuff_in) .none kV_stuff_in dc_stuff_in pm_stuff_in an_stuff_in cd_stuff_in ct_stuff_in), sl_stuff_in⟩)
    (c_stuff_in : PySem.W.codeIn K cd_stuff_in "stuff_in" = true)
    (k_stuff_in : PySem.W.keepIn K (.ref f_stuff_in) = true)
    (a_l_seed : PySem.W.nsIn K mainGlobals "_law_seed" = some (some (.ref f_l_seed)))
    (l_l_seed : K.lookup f_l_seed = some ⟨oc_l_seed, od_l_seed, .func (PySem.W.fnOf "_law_seed" "_law_seed" (fnArgs s_l_seed) (fnBody s_l_seed) (fnScope s_l_seed) .none kV_l_seed dc_l_seed pm_l_seed an_l_seed cd_l_seed ct_l_seed), sl_l_seed⟩)
    (c_l_seed : PySem.W.codeIn K cd_l_seed "_law_seed" = true)
    (k_l_seed : PySem.W.keepIn K (.ref f_l_seed) = true)
    (a_l_choose : PySem.W.nsIn K mainGlobals "_law_choose" = some (some (.ref f_l_choose)))
    (l_l_choose : K.lookup f_l_choose = some ⟨oc_l_choose, od_l_choose, .func (PySem.W.fnOf "_law_choose" "_law_choose" (fnArgs s_l_choose) (fnBody s_l_choose) (fnScope s_l_choose) .none kV_l_choose dc_l_choose pm_l_choose an_l_choose cd_l_choose ct_l_choose), sl_l_choose⟩)
    (c_l_choose : PySem.W.codeIn K cd_l_choose "_law_choose" = true)
    (k_l_choose : PySem.W.keepIn K (.ref f_l_choose) = true)
    (a_l_one_of : PySem.W.nsIn K mainGlobals "_law_one_of" = some (some (.ref f_l_one_of)))
    (l_l_one_of : K.lookup f_l_one_of = some ⟨oc_l_one_of, od_l_one_of, .func (PySem.W.fnOf "_law_one_of" "_law_one_of" (fnArgs s_l_one_of) (fnBody s_l_one_of) (fnScope s_l_one_of) .none kV_l_one_of dc_l_one_of pm_l_one_of an_l_one_of cd_l_one_of ct_l_one_of), sl_l_one_of⟩)
    (c_l_one_of : PySem.W.codeIn K cd_l_one_of "_law_one_of" = true)
    (k_l_one_of : PySem.W.keepIn K (.ref f_l_one_of) = true)
    (a_l_word : PySem.W.nsIn K mainGlobals "_law_word" = some (some (.ref f_l_word)))
    (l_l_word : K.lookup f_l_word = some ⟨oc_l_word, od_l_word, .func (PySem.W.fnOf "_law_word" "_law_word" (fnArgs s_l_word) (fnBody s_l_word) (fnScope s_l_word) .none kV_l_word dc_l_word pm_l_word an_l_word cd_l_word ct_l_word), sl_l_word⟩)
    (c_l_word : PySem.W.codeIn K cd_l_word "_law_word" = true)
    (k_l_word : PySem.W.keepIn K (.ref f_l_word) = true)
    (a_l_put : PySem.W.nsIn K mainGlobals "_law_put" = some (some (.ref f_l_put)))
    (l_l_put : K.lookup f_l_put = some ⟨oc_l_put, od_l_put, .func (PySem.W.fnOf "_law_put" "_law_put" (fnArgs s_l_put) (fnBody s_l_put) (fnScope s_l_put) .none kV_l_put dc_l_put pm_l_put an_l_put cd_l_put ct_l_put), sl_l_put⟩)
    (c_l_put : PySem.W.codeIn K cd_l_put "_law_put" = true)
    (k_l_put : PySem.W.keepIn K (.ref f_l_put) = true)
    (a_l_is_rule : PySem.W.nsIn K mainGlobals "_law_is_rule" = some (some (.ref f_l_is_rule)))
    (l_l_is_rule : K.lookup f_l_is_rule = some ⟨oc_l_is_rule, od_l_is_rule, .func (PySem.W.fnOf "_law_is_rule" "_law_is_rule" (fnArgs s_l_is_rule) (fnBody s_l_is_rule) (fnScope s_l_is_rule) .none kV_l_is_rule dc_l_is_rule pm_l_is_rule an_l_is_rule cd_l_is_rule ct_l_is_rule), sl_l_is_rule⟩)
    (c_l_is_rule : PySem.W.codeIn K cd_l_is_rule "_law_is_rule" = true)
    (k_l_is_rule : PySem.W.keepIn K (.ref f_l_is_rule) = true)
    (a_l_rule : PySem.W.nsIn K mainGlobals "_law_rule" = some (some (.ref f_l_rule)))
    (l_l_rule : K.lookup f_l_rule = some ⟨oc_l_rule, od_l_rule, .func (PySem.W.fnOf "_law_rule" "_law_rule" (fnArgs s_l_rule) (fnBody s_l_rule) (fnScope s_l_rule) .none kV_l_rule dc_l_rule pm_l_rule an_l_rule cd_l_rule ct_l_rule), sl_l_rule⟩)
    (c_l_rule : PySem.W.codeIn K cd_l_rule "_law_rule" = true)
    (k_l_rule : PySem.W.keepIn K (.ref f_l_rule) = true)
    (a_l_made : PySem.W.nsIn K mainGlobals "_law_made" = some (some (.ref f_l_made)))
    (l_l_made : K.lookup f_l_made = some ⟨oc_l_made, od_l_made, .func (PySem.W.fnOf "_law_made" "_law_made" (fnArgs s_l_made) (fnBody s_l_made) (fnScope s_l_made) .none kV_l_made dc_l_made pm_l_made an_l_made cd_l_made ct_l_made), sl_l_made⟩)
    (c_l_made : PySem.W.codeIn K cd_l_made "_law_made" = true)
    (k_l_made : PySem.W.keepIn K (.ref f_l_made) = true)
    (a_law : PySem.W.nsIn K mainGlobals "law" = some (some (.ref f_law)))
    (l_law : K.lookup f_law = some ⟨oc_law, od_law, .func (PySem.W.fnOf "law" "law" (fnArgs s_law) (fnBody s_law) (fnScope s_law) .none kV_law dc_law pm_law an_law cd_law ct_law), sl_law⟩)
    (c_law : PySem.W.codeIn K cd_law "law" = true)
    (k_law : PySem.W.keepIn K (.ref f_law) = true)
    (aC_Rule : PySem.W.nsIn K mainGlobals "Rule" = some (some (.ref C_Rule)))
    (pg_Rule : PySem.W.plainGet K C_Rule Str.empty = true)
    (hd_Rule : PySem.W.hasDictIn K C_Rule = true)
    (po_Rule : PySem.W.plainOver K C_Rule = true)
    (sa_Rule : PySem.W.findIn K (.ref C_Rule) "__setattr__" = some (some (.builtin "object.__setattr__")))
    (mk_Rule : PySem.W.makesIn K C_Rule = true)
    (kc_Rule : PySem.W.keepIn K (.ref C_Rule) = true)
    (n_Rule_flag : PySem.W.findIn K (.ref C_Rule) "flag" = some none)
    (n_Rule_stuffs : PySem.W.findIn K (.ref C_Rule) "stuffs" = some none)
    (a_Rule_put : PySem.W.findIn K (.ref C_Rule) "put" = some (some (.ref f_Rule_put)))
    (i_Rule_put : PySem.W.isFn K (.ref f_Rule_put) = true)
    (l_Rule_put : K.lookup f_Rule_put = some ⟨oc_Rule_put, od_Rule_put, .func (PySem.W.fnOf "put" "Rule.put" (fnArgs s_Rule_put) (fnBody s_Rule_put) (fnScope s_Rule_put) .none kV_Rule_put dc_Rule_put pm_Rule_put an_Rule_put cd_Rule_put ct_Rule_put), sl_Rule_put⟩)
    (c_Rule_put : PySem.W.codeIn K cd_Rule_put "Rule.put" = true)
    (k_Rule_put : PySem.W.keepIn K (.ref f_Rule_put) = true)
    (a_Rule_longest : PySem.W.findIn K (.ref C_Rule) "longest" = some (some (.ref p_Rule_longest)))
    (g_Rule_longest : PySem.W.specialIn K (.ref p_Rule_longest) "__get__" = some (some (.builtin "property.__get__")))
    (t_Rule_longest : PySem.W.takesIn K (.ref p_Rule_longest) = some true)
    (r_Rule_longest : PySem.W.recIn K p_Rule_longest "property" = some (.ref f_Rule_longest :: pr_Rule_longest))
    (l_Rule_longest : K.lookup f_Rule_longest = some ⟨oc_Rule_longest, od_Rule_longest, .func (PySem.W.fnOf "longest" "Rule.longest" (fnArgs s_Rule_longest) (fnBody s_Rule_longest) (fnScope s_Rule_longest) .none kV_Rule_longest dc_Rule_longest pm_Rule_longest an_Rule_longest cd_Rule_longest ct_Rule_longest), sl_Rule_longest⟩)
    (c_Rule_longest : PySem.W.codeIn K cd_Rule_longest "Rule.longest" = true)
    (a_Rule_put_in : PySem.W.findIn K (.ref C_Rule) "put_in" = some (some (.ref f_Rule_put_in)))
    (i_Rule_put_in : PySem.W.isFn K (.ref f_Rule_put_in) = true)
    (l_Rule_put_in : K.lookup f_Rule_put_in = some ⟨oc_Rule_put_in, od_Rule_put_in, .func (PySem.W.fnOf "put_in" "Rule.put_in" (fnArgs s_Rule_put_in) (fnBody s_Rule_put_in) (fnScope s_Rule_put_in) .none kV_Rule_put_in dc_Rule_put_in pm_Rule_put_in an_Rule_put_in cd_Rule_put_in ct_Rule_put_in), sl_Rule_put_in⟩)
    (c_Rule_put_in : PySem.W.codeIn K cd_Rule_put_in "Rule.put_in" = true)
    (k_Rule_put_in : PySem.W.keepIn K (.ref f_Rule_put_in) = true)
    (a_Rule_is_endless : PySem.W.findIn K (.ref C_Rule) "is_endless" = some (some (.ref f_Rule_is_endless)))
    (i_Rule_is_endless : PySem.W.isFn K (.ref f_Rule_is_endless) = true)
    (l_Rule_is_endless : K.lookup f_Rule_is_endless = some ⟨oc_Rule_is_endless, od_Rule_is_endless, .func (PySem.W.fnOf "is_endless" "Rule.is_endless" (fnArgs s_Rule_is_endless) (fnBody s_Rule_is_endless) (fnScope s_Rule_is_endless) .none kV_Rule_is_endless dc_Rule_is_endless pm_Rule_is_endless an_Rule_is_endless cd_Rule_is_endless ct_Rule_is_endless), sl_Rule_is_endless⟩)
    (c_Rule_is_endless : PySem.W.codeIn K cd_Rule_is_endless "Rule.is_endless" = true)
    (k_Rule_is_endless : PySem.W.keepIn K (.ref f_Rule_is_endless) = true)
    (a_Rule_init : PySem.W.findIn K (.ref C_Rule) "__init__" = some (some (.ref f_Rule_init)))
    (i_Rule_init : PySem.W.isFn K (.ref f_Rule_init) = true)
    (l_Rule_init : K.lookup f_Rule_init = some ⟨oc_Rule_init, od_Rule_init, .func (PySem.W.fnOf "__init__" "Rule.__init__" (fnArgs s_Rule_init) (fnBody s_Rule_init) (fnScope s_Rule_init) (.ref dT_Rule_init) kV_Rule_init dc_Rule_init pm_Rule_init an_Rule_init cd_Rule_init ct_Rule_init), sl_Rule_init⟩)
    (c_Rule_init : PySem.W.codeIn K cd_Rule_init "Rule.__init__" = true)
    (k_Rule_init : PySem.W.keepIn K (.ref f_Rule_init) = true)
    (dl_Rule_init : K.lookup dT_Rule_init = some ⟨.type "tuple", dd_Rule_init, .seq #[.ref dE_R] dn_Rule_init, ds_Rule_init⟩)
    (dlE_Rule : K.lookup dE_R = some ⟨.type "tuple", dde_R, .seq #[] dne_R, dse_R⟩)
    (a_Rule_swapped : PySem.W.findIn K (.ref C_Rule) "swapped" = some (some (.ref f_Rule_swapped)))
    (i_Rule_swapped : PySem.W.isFn K (.ref f_Rule_swapped) = true)
    (l_Rule_swapped : K.lookup f_Rule_swapped = some ⟨oc_Rule_swapped, od_Rule_swapped, .func (PySem.W.fnOf "swapped" "Rule.swapped" (fnArgs s_Rule_swapped) (fnBody s_Rule_swapped) (fnScope s_Rule_swapped) .none kV_Rule_swapped dc_Rule_swapped pm_Rule_swapped an_Rule_swapped cd_Rule_swapped ct_Rule_swapped), sl_Rule_swapped⟩)
    (c_Rule_swapped : PySem.W.codeIn K cd_Rule_swapped "Rule.swapped" = true)
    (k_Rule_swapped : PySem.W.keepIn K (.ref f_Rule_swapped) = true)
    (a_Rule_str : PySem.W.findIn K (.ref C_Rule) "__str__" = some (some (.ref f_Rule_str)))
    (i_Rule_str : PySem.W.isFn K (.ref f_Rule_str) = true)
    (l_Rule_str : K.lookup f_Rule_str = some ⟨oc_Rule_str, od_Rule_str, .func (PySem.W.fnOf "__str__" "Rule.__str__" (fnArgs s_Rule_str) (fnBody s_Rule_str) (fnScope s_Rule_str) .none kV_Rule_str dc_Rule_str pm_Rule_str an_Rule_str cd_Rule_str ct_Rule_str), sl_Rule_str⟩)
    (c_Rule_str : PySem.W.codeIn K cd_Rule_str "Rule.__str__" = true)
    (k_Rule_str : PySem.W.keepIn K (.ref f_Rule_str) = true)
    (a_Rule_eq : PySem.W.findIn K (.ref C_Rule) "__eq__" = some (some (.ref f_Rule_eq)))
    (i_Rule_eq : PySem.W.isFn K (.ref f_Rule_eq) = true)
    (l_Rule_eq : K.lookup f_Rule_eq = some ⟨oc_Rule_eq, od_Rule_eq, .func (PySem.W.fnOf "__eq__" "Rule.__eq__" (fnArgs s_Rule_eq) (fnBody s_Rule_eq) (fnScope s_Rule_eq) .none kV_Rule_eq dc_Rule_eq pm_Rule_eq an_Rule_eq cd_Rule_eq ct_Rule_eq), sl_Rule_eq⟩)
    (c_Rule_eq : PySem.W.codeIn K cd_Rule_eq "Rule.__eq__" = true)
    (k_Rule_eq : PySem.W.keepIn K (.ref f_Rule_eq) = true)
    (a_Rule_len : PySem.W.findIn K (.ref C_Rule) "__len__" = some (some (.ref f_Rule_len)))
    (i_Rule_len : PySem.W.isFn K (.ref f_Rule_len) = true)
    (l_Rule_len : K.lookup f_Rule_len = some ⟨oc_Rule_len, od_Rule_len, .func (PySem.W.fnOf "__len__" "Rule.__len__" (fnArgs s_Rule_len) (fnBody s_Rule_len) (fnScope s_Rule_len) .none kV_Rule_len dc_Rule_len pm_Rule_len an_Rule_len cd_Rule_len ct_Rule_len), sl_Rule_len⟩)
    (c_Rule_len : PySem.W.codeIn K cd_Rule_len "Rule.__len__" = true)
    (k_Rule_len : PySem.W.keepIn K (.ref f_Rule_len) = true)
    (a_Rule_read : PySem.W.findCls K (.ref C_Rule) (.type "type") "read" = some (.get (.builtin "classmethod.__get__") (.ref p_Rule_read) .none (.ref C_Rule)))
    (r_Rule_read : PySem.W.recIn K p_Rule_read "classmethod" = some (.ref f_Rule_read :: pr_Rule_read))
    (fi_Rule_read : PySem.W.fnIn K f_Rule_read = true)
    (l_Rule_read : K.lookup f_Rule_read = some ⟨oc_Rule_read, od_Rule_read, .func (PySem.W.fnOf "read" "Rule.read" (fnArgs s_Rule_read) (fnBody s_Rule_read) (fnScope s_Rule_read) .none kV_Rule_read dc_Rule_read pm_Rule_read an_Rule_read cd_Rule_read ct_Rule_read), sl_Rule_read⟩)
    (c_Rule_read : PySem.W.codeIn K cd_Rule_read "Rule.read" = true)
    (rd_Rule : PySem.W.readsIn K C_Rule (.type "type") = true)
    (ga_Rule : PySem.W.specialIn K (.ref C_Rule) "__getattribute__" = some (some (.builtin "type.__getattribute__")))
    (mro_Rule : PySem.W.mroIn K C_Rule (.type "object") = some true)
    (neq_Rule : PySem.W.findIn K (.ref C_Rule) "__ne__" = some (some (.builtin "object.__ne__")))
    (gBITS : PySem.W.nsIn K mainGlobals "BITS" = some (some (.str "01" tB)))
    (cls_Rule : PySem.W.findIn K (.ref C_Rule) "__class__" = some (some (.builtin "object.__class__")))
    (clg_X : PySem.W.specialIn K (.builtin "object.__class__") "__get__" = some (some (.builtin "getset_descriptor.__get__")))
    (clt_X : PySem.W.takesIn K (.builtin "object.__class__") = some true)
    (z_len : PySem.W.nsIn K mainGlobals "len" = some none)
    (z_abs : PySem.W.nsIn K mainGlobals "abs" = some none)
    (z_int : PySem.W.nsIn K mainGlobals "int" = some none)
    (z_range : PySem.W.nsIn K mainGlobals "range" = some none)
    (z_max : PySem.W.nsIn K mainGlobals "max" = some none)
    (z_min : PySem.W.nsIn K mainGlobals "min" = some none)
    (z_enumerate : PySem.W.nsIn K mainGlobals "enumerate" = some none)
    (z_zip : PySem.W.nsIn K mainGlobals "zip" = some none)
    (z_dict : PySem.W.nsIn K mainGlobals "dict" = some none)
    (z_list : PySem.W.nsIn K mainGlobals "list" = some none)
    (z_tuple : PySem.W.nsIn K mainGlobals "tuple" = some none)
    (z_isinstance : PySem.W.nsIn K mainGlobals "isinstance" = some none)
    (z_bool : PySem.W.nsIn K mainGlobals "bool" = some none)
    (z_str : PySem.W.nsIn K mainGlobals "str" = some none)
    (z_all : PySem.W.nsIn K mainGlobals "all" = some none)
    (z_any : PySem.W.nsIn K mainGlobals "any" = some none)
    (z_sum : PySem.W.nsIn K mainGlobals "sum" = some none)
    (z_sorted : PySem.W.nsIn K mainGlobals "sorted" = some none)
    (z_repr : PySem.W.nsIn K mainGlobals "repr" = some none) :
    ∃ fd : FuncData, (∀ (s : Shared) (v : Value), BindsTo s fd ⟨[v], []⟩ [("_law_script", v)]) ∧ ∀ base : Heap, K.In base → base.Ns mainGlobals mg → FnOk l.prog w K mg base CX0 8 fa fd ["_law_script"] (spLaw K) := by
  have e : f_law = fa := Value.ref.inj (Option.some.inj ((PySem.W.mg_of X G a_law).symm.trans hfa))
  subst e
  have T : Tx mg := ⟨PySem.W.mg_none_of X G z_len, PySem.W.mg_none_of X G z_abs, PySem.W.mg_none_of X G z_int, PySem.W.mg_none_of X G z_range, PySem.W.mg_none_of X G z_max, PySem.W.mg_none_of X G z_min, PySem.W.mg_none_of X G z_enumerate, PySem.W.mg_none_of X G z_zip, PySem.W.mg_none_of X G z_dict, PySem.W.mg_none_of X G z_list, PySem.W.mg_none_of X G z_tuple, PySem.W.mg_none_of X G z_isinstance, PySem.W.mg_none_of X G z_bool, PySem.W.mg_none_of X G z_str, PySem.W.mg_none_of X G z_all, PySem.W.mg_none_of X G z_any, PySem.W.mg_none_of X G z_sum, PySem.W.mg_none_of X G z_sorted, PySem.W.mg_none_of X G z_repr⟩
  have F_is_sequence : Def K mg "is_sequence" s_is_sequence f_is_sequence (PySem.W.fnOf "is_sequence" "is_sequence" (fnArgs s_is_sequence) (fnBody s_is_sequence) (fnScope s_is_sequence) .none kV_is_sequence dc_is_sequence pm_is_sequence an_is_sequence cd_is_sequence ct_is_sequence) := ⟨⟨_, _, _, _, _, _, _, _, _, _, rfl, l_is_sequence, c_is_sequence⟩, PySem.W.mg_of X G a_is_sequence, k_is_sequence⟩
  have b_is_sequence := C8.Fun.binds (ps := ["value"]) F_is_sequence.fn rfl fun _ _ _ _ _ _ us hl => match us, hl with | [_], _ => rfl
  have F_is_word : Def K mg "is_word" s_is_word f_is_word (PySem.W.fnOf "is_word" "is_word" (fnArgs s_is_word) (fnBody s_is_word) (fnScope s_is_word) .none kV_is_word dc_is_word pm_is_word an_is_word cd_is_word ct_is_word) := ⟨⟨_, _, _, _, _, _, _, _, _, _, rfl, l_is_word, c_is_word⟩, PySem.W.mg_of X G a_is_word, k_is_word⟩
  have b_is_word := C8.Fun.binds (ps := ["value"]) F_is_word.fn rfl fun _ _ _ _ _ _ us hl => match us, hl with | [_], _ => rfl
  have F_is_bit : Def K mg "is_bit" s_is_bit f_is_bit (PySem.W.fnOf "is_bit" "is_bit" (fnArgs s_is_bit) (fnBody s_is_bit) (fnScope s_is_bit) .none kV_is_bit dc_is_bit pm_is_bit an_is_bit cd_is_bit ct_is_bit) := ⟨⟨_, _, _, _, _, _, _, _, _, _, rfl, l_is_bit, c_is_bit⟩, PySem.W.mg_of X G a_is_bit, k_is_bit⟩
  have b_is_bit := C8.Fun.binds (ps := ["value"]) F_is_bit.fn rfl fun _ _ _ _ _ _ us hl => match us, hl with | [_], _ => rfl
  have F_other : Def K mg "other" s_other f_other (PySem.W.fnOf "other" "other" (fnArgs s_other) (fnBody s_other) (fnScope s_other) .none kV_other dc_other pm_other an_other cd_other ct_other) := ⟨⟨_, _, _, _, _, _, _, _, _, _, rfl, l_other, c_other⟩, PySem.W.mg_of X G a_other, k_other⟩
  have b_other := C8.Fun.binds (ps := ["bit"]) F_other.fn rfl fun _ _ _ _ _ _ us hl => match us, hl with | [_], _ => rfl
  have F_swapped_word : Def K mg "swapped_word" s_swapped_word f_swapped_word (PySem.W.fnOf "swapped_word" "swapped_word" (fnArgs s_swapped_word) (fnBody s_swapped_word) (fnScope s_swapped_word) .none kV_swapped_word dc_swapped_word pm_swapped_word an_swapped_word cd_swapped_word ct_swapped_word) := ⟨⟨_, _, _, _, _, _, _, _, _, _, rfl, l_swapped_word, c_swapped_word⟩, PySem.W.mg_of X G a_swapped_word, k_swapped_word⟩
  have b_swapped_word := C8.Fun.binds (ps := ["word"]) F_swapped_word.fn rfl fun _ _ _ _ _ _ us hl => match us, hl with | [_], _ => rfl
  have F_tail : Def K mg "tail" s_tail f_tail (PySem.W.fnOf "tail" "tail" (fnArgs s_tail) (fnBody s_tail) (fnScope s_tail) .none kV_tail dc_tail pm_tail an_tail cd_tail ct_tail) := ⟨⟨_, _, _, _, _, _, _, _, _, _, rfl, l_tail, c_tail⟩, PySem.W.mg_of X G a_tail, k_tail⟩
  have b_tail := C8.Fun.binds (ps := ["line", "size"]) F_tail.fn rfl fun _ _ _ _ _ _ us hl => match us, hl with | [_, _], _ => rfl
  have F_is_stuff : Def K mg "is_stuff" s_is_stuff f_is_stuff (PySem.W.fnOf "is_stuff" "is_stuff" (fnArgs s_is_stuff) (fnBody s_is_stuff) (fnScope s_is_stuff) .none kV_is_stuff dc_is_stuff pm_is_stuff an_is_stuff cd_is_stuff ct_is_stuff) := ⟨⟨_, _, _, _, _, _, _, _, _, _, rfl, l_is_stuff, c_is_stuff⟩, PySem.W.mg_of X G a_is_stuff, k_is_stuff⟩
  have b_is_stuff := C8.Fun.binds (ps := ["value"]) F_is_stuff.fn rfl fun _ _ _ _ _ _ us hl => match us, hl with | [_], _ => rfl
  have F_are_stuffs : Def K mg "are_stuffs" s_are_stuffs f_are_stuffs (PySem.W.fnOf "are_stuffs" "are_stuffs" (fnArgs s_are_stuffs) (fnBody s_are_stuffs) (fnScope s_are_stuffs) .none kV_are_stuffs dc_are_stuffs pm_are_stuffs an_are_stuffs cd_are_stuffs ct_are_stuffs) := ⟨⟨_, _, _, _, _, _, _, _, _, _, rfl, l_are_stuffs, c_are_stuffs⟩, PySem.W.mg_of X G a_are_stuffs, k_are_stuffs⟩
  have b_are_stuffs := C8.Fun.binds (ps := ["value"]) F_are_stuffs.fn rfl fun _ _ _ _ _ _ us hl => match us, hl with | [_], _ => rfl
  have F_stuff_in : Def K mg "stuff_in" s_stuff_in f_stuff_in (PySem.W.fnOf "stuff_in" "stuff_in" (fnArgs s_stuff_in) (fnBody s_stuff_in) (fnScope s_stuff_in) .none kV_stuff_in dc_stuff_in pm_stuff_in an_stuff_in cd_stuff_in ct_stuff_in) := ⟨⟨_, _, _, _, _, _, _, _, _, _, rfl, l_stuff_in, c_stuff_in⟩, PySem.W.mg_of X G a_stuff_in, k_stuff_in⟩
  have b_stuff_in := C8.Fun.binds (ps := ["word"]) F_stuff_in.fn rfl fun _ _ _ _ _ _ us hl => match us, hl with | [_], _ => rfl
  have F_l_seed : Def K mg "_law_seed" s_l_seed f_l_seed (PySem.W.fnOf "_law_seed" "_law_seed" (fnArgs s_l_seed) (fnBody s_l_seed) (fnScope s_l_seed) .none kV_l_seed dc_l_seed pm_l_seed an_l_seed cd_l_seed ct_l_seed) := ⟨⟨_, _, _, _, _, _, _, _, _, _, rfl, l_l_seed, c_l_seed⟩, PySem.W.mg_of X G a_l_seed, k_l_seed⟩
  have b_l_seed := C8.Fun.binds (ps := ["_law_script", "_law_k"]) F_l_seed.fn rfl fun _ _ _ _ _ _ us hl => match us, hl with | [_, _], _ => rfl
  have F_l_choose : Def K mg "_law_choose" s_l_choose f_l_choose (PySem.W.fnOf "_law_choose" "_law_choose" (fnArgs s_l_choose) (fnBody s_l_choose) (fnScope s_l_choose) .none kV_l_choose dc_l_choose pm_l_choose an_l_choose cd_l_choose ct_l_choose) := ⟨⟨_, _, _, _, _, _, _, _, _, _, rfl, l_l_choose, c_l_choose⟩, PySem.W.mg_of X G a_l_choose, k_l_choose⟩
  have b_l_choose := C8.Fun.binds (ps := ["_law_box", "_law_many"]) F_l_choose.fn rfl fun _ _ _ _ _ _ us hl => match us, hl with | [_, _], _ => rfl
  have F_l_one_of : Def K mg "_law_one_of" s_l_one_of f_l_one_of (PySem.W.fnOf "_law_one_of" "_law_one_of" (fnArgs s_l_one_of) (fnBody s_l_one_of) (fnScope s_l_one_of) .none kV_l_one_of dc_l_one_of pm_l_one_of an_l_one_of cd_l_one_of ct_l_one_of) := ⟨⟨_, _, _, _, _, _, _, _, _, _, rfl, l_l_one_of, c_l_one_of⟩, PySem.W.mg_of X G a_l_one_of, k_l_one_of⟩
  have b_l_one_of := C8.Fun.binds (ps := ["_law_box", "_law_some"]) F_l_one_of.fn rfl fun _ _ _ _ _ _ us hl => match us, hl with | [_, _], _ => rfl
  have F_l_word : Def K mg "_law_word" s_l_word f_l_word (PySem.W.fnOf "_law_word" "_law_word" (fnArgs s_l_word) (fnBody s_l_word) (fnScope s_l_word) .none kV_l_word dc_l_word pm_l_word an_l_word cd_l_word ct_l_word) := ⟨⟨_, _, _, _, _, _, _, _, _, _, rfl, l_l_word, c_l_word⟩, PySem.W.mg_of X G a_l_word, k_l_word⟩
  have b_l_word := C8.Fun.binds (ps := ["_law_box", "_law_few", "_law_many"]) F_l_word.fn rfl fun _ _ _ _ _ _ us hl => match us, hl with | [_, _, _], _ => rfl
  have F_l_put : Def K mg "_law_put" s_l_put f_l_put (PySem.W.fnOf "_law_put" "_law_put" (fnArgs s_l_put) (fnBody s_l_put) (fnScope s_l_put) .none kV_l_put dc_l_put pm_l_put an_l_put cd_l_put ct_l_put) := ⟨⟨_, _, _, _, _, _, _, _, _, _, rfl, l_l_put, c_l_put⟩, PySem.W.mg_of X G a_l_put, k_l_put⟩
  have b_l_put := C8.Fun.binds (ps := ["_law_rule_here", "_law_line"]) F_l_put.fn rfl fun _ _ _ _ _ _ us hl => match us, hl with | [_, _], _ => rfl
  have F_l_is_rule : Def K mg "_law_is_rule" s_l_is_rule f_l_is_rule (PySem.W.fnOf "_law_is_rule" "_law_is_rule" (fnArgs s_l_is_rule) (fnBody s_l_is_rule) (fnScope s_l_is_rule) .none kV_l_is_rule dc_l_is_rule pm_l_is_rule an_l_is_rule cd_l_is_rule ct_l_is_rule) := ⟨⟨_, _, _, _, _, _, _, _, _, _, rfl, l_l_is_rule, c_l_is_rule⟩, PySem.W.mg_of X G a_l_is_rule, k_l_is_rule⟩
  have b_l_is_rule := C8.Fun.binds (ps := ["_law_rule_here"]) F_l_is_rule.fn rfl fun _ _ _ _ _ _ us hl => match us, hl with | [_], _ => rfl
  have F_l_rule : Def K mg "_law_rule" s_l_rule f_l_rule (PySem.W.fnOf "_law_rule" "_law_rule" (fnArgs s_l_rule) (fnBody s_l_rule) (fnScope s_l_rule) .none kV_l_rule dc_l_rule pm_l_rule an_l_rule cd_l_rule ct_l_rule) := ⟨⟨_, _, _, _, _, _, _, _, _, _, rfl, l_l_rule, c_l_rule⟩, PySem.W.mg_of X G a_l_rule, k_l_rule⟩
  have b_l_rule := C8.Fun.binds (ps := ["_law_box", "_law_widest", "_law_longest_one"]) F_l_rule.fn rfl fun _ _ _ _ _ _ us hl => match us, hl with | [_, _, _], _ => rfl
  have F_l_made : Def K mg "_law_made" s_l_made f_l_made (PySem.W.fnOf "_law_made" "_law_made" (fnArgs s_l_made) (fnBody s_l_made) (fnScope s_l_made) .none kV_l_made dc_l_made pm_l_made an_l_made cd_l_made ct_l_made) := ⟨⟨_, _, _, _, _, _, _, _, _, _, rfl, l_l_made, c_l_made⟩, PySem.W.mg_of X G a_l_made, k_l_made⟩
  have b_l_made := C8.Fun.binds (ps := ["_law_rule_here"]) F_l_made.fn rfl fun _ _ _ _ _ _ us hl => match us, hl with | [_], _ => rfl
  have F_law : Def K mg "law" s_law f_law (PySem.W.fnOf "law" "law" (fnArgs s_law) (fnBody s_law) (fnScope s_law) .none kV_law dc_law pm_law an_law cd_law ct_law) := ⟨⟨_, _, _, _, _, _, _, _, _, _, rfl, l_law, c_law⟩, PySem.W.mg_of X G a_law, k_law⟩
  have b_law := C8.Fun.binds (ps := ["_law_script"]) F_law.fn rfl fun _ _ _ _ _ _ us hl => match us, hl with | [_], _ => rfl
  have CL_Rule : Cls K C_Rule := ⟨pg_Rule, hd_Rule, po_Rule, sa_Rule⟩
  have F_Rule_put : C8.Fun K "put" "Rule.put" s_Rule_put f_Rule_put (PySem.W.fnOf "put" "Rule.put" (fnArgs s_Rule_put) (fnBody s_Rule_put) (fnScope s_Rule_put) .none kV_Rule_put dc_Rule_put pm_Rule_put an_Rule_put cd_Rule_put ct_Rule_put) := ⟨_, _, _, _, _, _, _, _, _, _, rfl, l_Rule_put, c_Rule_put⟩
  have b_Rule_put := C8.Fun.binds (ps := ["self", "line"]) F_Rule_put rfl fun _ _ _ _ _ _ us hl => match us, hl with | [_, _], _ => rfl
  have F_Rule_longest : C8.Fun K "longest" "Rule.longest" s_Rule_longest f_Rule_longest (PySem.W.fnOf "longest" "Rule.longest" (fnArgs s_Rule_longest) (fnBody s_Rule_longest) (fnScope s_Rule_longest) .none kV_Rule_longest dc_Rule_longest pm_Rule_longest an_Rule_longest cd_Rule_longest ct_Rule_longest) := ⟨_, _, _, _, _, _, _, _, _, _, rfl, l_Rule_longest, c_Rule_longest⟩
  have b_Rule_longest := C8.Fun.binds (ps := ["self"]) F_Rule_longest rfl fun _ _ _ _ _ _ us hl => match us, hl with | [_], _ => rfl
  have F_Rule_put_in : C8.Fun K "put_in" "Rule.put_in" s_Rule_put_in f_Rule_put_in (PySem.W.fnOf "put_in" "Rule.put_in" (fnArgs s_Rule_put_in) (fnBody s_Rule_put_in) (fnScope s_Rule_put_in) .none kV_Rule_put_in dc_Rule_put_in pm_Rule_put_in an_Rule_put_in cd_Rule_put_in ct_Rule_put_in) := ⟨_, _, _, _, _, _, _, _, _, _, rfl, l_Rule_put_in, c_Rule_put_in⟩
  have b_Rule_put_in := C8.Fun.binds (ps := ["self", "line"]) F_Rule_put_in rfl fun _ _ _ _ _ _ us hl => match us, hl with | [_, _], _ => rfl
  have F_Rule_is_endless : C8.Fun K "is_endless" "Rule.is_endless" s_Rule_is_endless f_Rule_is_endless (PySem.W.fnOf "is_endless" "Rule.is_endless" (fnArgs s_Rule_is_endless) (fnBody s_Rule_is_endless) (fnScope s_Rule_is_endless) .none kV_Rule_is_endless dc_Rule_is_endless pm_Rule_is_endless an_Rule_is_endless cd_Rule_is_endless ct_Rule_is_endless) := ⟨_, _, _, _, _, _, _, _, _, _, rfl, l_Rule_is_endless, c_Rule_is_endless⟩
  have b_Rule_is_endless := C8.Fun.binds (ps := ["self"]) F_Rule_is_endless rfl fun _ _ _ _ _ _ us hl => match us, hl with | [_], _ => rfl
  have F_Rule_init : C8.Fun K "__init__" "Rule.__init__" s_Rule_init f_Rule_init (PySem.W.fnOf "__init__" "Rule.__init__" (fnArgs s_Rule_init) (fnBody s_Rule_init) (fnScope s_Rule_init) (.ref dT_Rule_init) kV_Rule_init dc_Rule_init pm_Rule_init an_Rule_init cd_Rule_init ct_Rule_init) := ⟨_, _, _, _, _, _, _, _, _, _, rfl, l_Rule_init, c_Rule_init⟩
  have FD_Rule_init : FunD K "__init__" "Rule.__init__" (fnArgs s_Rule_init) (fnBody s_Rule_init) (fnScope s_Rule_init) [.ref dE_R] [] f_Rule_init (PySem.W.fnOf "__init__" "Rule.__init__" (fnArgs s_Rule_init) (fnBody s_Rule_init) (fnScope s_Rule_init) (.ref dT_Rule_init) kV_Rule_init dc_Rule_init pm_Rule_init an_Rule_init cd_Rule_init ct_Rule_init) := ⟨⟨_, _, _, _, _, _, _, _, _, _, rfl, l_Rule_init, c_Rule_init, .inr ⟨List.cons_ne_nil _ _, _, _, _, _, rfl, dl_Rule_init, rfl, .cons rfl .nil⟩, .inl rfl⟩, k_Rule_init⟩
  obtain ⟨ds0_Rule_init, vd0_Rule_init, bd0_Rule_init⟩ := FD_Rule_init.binds1 (ps := ["self", "flag", "stuffs"]) 2 0 (List.cons_ne_nil _ _) rfl fun _ _ _ _ _ _ _ us its h1 h2 => match us, its, h1, h2 with | [_, _], [_], _, _ => ⟨_, rfl, rfl⟩
  obtain ⟨ds1_Rule_init, vd1_Rule_init, bd1_Rule_init⟩ := FD_Rule_init.binds1 (ps := ["self", "flag", "stuffs"]) 3 1 (List.cons_ne_nil _ _) rfl fun _ _ _ _ _ _ _ us its h1 h2 => match us, its, h1, h2 with | [_, _, _], [_], _, _ => ⟨_, rfl, rfl⟩
  have F_Rule_swapped : C8.Fun K "swapped" "Rule.swapped" s_Rule_swapped f_Rule_swapped (PySem.W.fnOf "swapped" "Rule.swapped" (fnArgs s_Rule_swapped) (fnBody s_Rule_swapped) (fnScope s_Rule_swapped) .none kV_Rule_swapped dc_Rule_swapped pm_Rule_swapped an_Rule_swapped cd_Rule_swapped ct_Rule_swapped) := ⟨_, _, _, _, _, _, _, _, _, _, rfl, l_Rule_swapped, c_Rule_swapped⟩
  have b_Rule_swapped := C8.Fun.binds (ps := ["self"]) F_Rule_swapped rfl fun _ _ _ _ _ _ us hl => match us, hl with | [_], _ => rfl
  have F_Rule_str : C8.Fun K "__str__" "Rule.__str__" s_Rule_str f_Rule_str (PySem.W.fnOf "__str__" "Rule.__str__" (fnArgs s_Rule_str) (fnBody s_Rule_str) (fnScope s_Rule_str) .none kV_Rule_str dc_Rule_str pm_Rule_str an_Rule_str cd_Rule_str ct_Rule_str) := ⟨_, _, _, _, _, _, _, _, _, _, rfl, l_Rule_str, c_Rule_str⟩
  have b_Rule_str := C8.Fun.binds (ps := ["self"]) F_Rule_str rfl fun _ _ _ _ _ _ us hl => match us, hl with | [_], _ => rfl
  have F_Rule_eq : C8.Fun K "__eq__" "Rule.__eq__" s_Rule_eq f_Rule_eq (PySem.W.fnOf "__eq__" "Rule.__eq__" (fnArgs s_Rule_eq) (fnBody s_Rule_eq) (fnScope s_Rule_eq) .none kV_Rule_eq dc_Rule_eq pm_Rule_eq an_Rule_eq cd_Rule_eq ct_Rule_eq) := ⟨_, _, _, _, _, _, _, _, _, _, rfl, l_Rule_eq, c_Rule_eq⟩
  have b_Rule_eq := C8.Fun.binds (ps := ["self", "other"]) F_Rule_eq rfl fun _ _ _ _ _ _ us hl => match us, hl with | [_, _], _ => rfl
  have F_Rule_len : C8.Fun K "__len__" "Rule.__len__" s_Rule_len f_Rule_len (PySem.W.fnOf "__len__" "Rule.__len__" (fnArgs s_Rule_len) (fnBody s_Rule_len) (fnScope s_Rule_len) .none kV_Rule_len dc_Rule_len pm_Rule_len an_Rule_len cd_Rule_len ct_Rule_len) := ⟨_, _, _, _, _, _, _, _, _, _, rfl, l_Rule_len, c_Rule_len⟩
  have b_Rule_len := C8.Fun.binds (ps := ["self"]) F_Rule_len rfl fun _ _ _ _ _ _ us hl => match us, hl with | [_], _ => rfl
  have F_Rule_read : C8.Fun K "read" "Rule.read" s_Rule_read f_Rule_read (PySem.W.fnOf "read" "Rule.read" (fnArgs s_Rule_read) (fnBody s_Rule_read) (fnScope s_Rule_read) .none kV_Rule_read dc_Rule_read pm_Rule_read an_Rule_read cd_Rule_read ct_Rule_read) := ⟨_, _, _, _, _, _, _, _, _, _, rfl, l_Rule_read, c_Rule_read⟩
  have b_Rule_read := C8.Fun.binds (ps := ["cls", "text"]) F_Rule_read rfl fun _ _ _ _ _ _ us hl => match us, hl with | [_, _], _ => rfl
  refine ⟨PySem.W.fnOf "law" "law" (fnArgs s_law) (fnBody s_law) (fnScope s_law) .none kV_law dc_law pm_law an_law cd_law ct_law, fun s v => .of_eq rfl, fun base _ _ => ?_⟩
  have RT : RuT K C_Rule := ⟨CL_Rule, n_Rule_flag, n_Rule_stuffs⟩
  have NE_Rule : NeT K C_Rule := ⟨mro_Rule, neq_Rule⟩
  have c_l_seed := cal_l_seed (P := l.prog) (w := w) (base := base) F_l_seed b_l_seed T
  have c_l_choose := cal_l_choose (P := l.prog) (w := w) (base := base) F_l_choose b_l_choose T
  have c_l_one_of := cal_l_one_of (P := l.prog) (w := w) (base := base) F_l_one_of b_l_one_of T c_l_choose
  have c_l_word := cal_l_word (P := l.prog) (w := w) (base := base) F_l_word b_l_word T c_l_choose c_l_one_of
  have c_l_put := cal_l_put (P := l.prog) (w := w) (base := base) F_l_put b_l_put T
  have c_l_is_rule := cal_l_is_rule (P := l.prog) (w := w) (base := base) F_l_is_rule b_l_is_rule T c_l_put
  have c_l_rule := cal_l_rule (P := l.prog) (w := w) (base := base) F_l_rule b_l_rule T c_l_choose c_l_one_of c_l_word c_l_is_rule
  have g_BITS := PySem.W.mg_of X G gBITS
  have c_is_word := cal_is_word (P := l.prog) (w := w) (base := base) F_is_word b_is_word T g_BITS
  have c_is_sequence := cal_is_sequence (P := l.prog) (w := w) (base := base) F_is_sequence b_is_sequence T
  have c_is_bit := cal_is_bit (P := l.prog) (w := w) (base := base) F_is_bit b_is_bit T c_is_word
  have c_is_stuff := cal_is_stuff (P := l.prog) (w := w) (base := base) F_is_stuff b_is_stuff T c_is_word c_is_bit
  have c_are_stuffs := cal_are_stuffs (P := l.prog) (w := w) (base := base) F_are_stuffs b_are_stuffs T c_is_sequence c_is_stuff
  have c_put := met_put (P := l.prog) (w := w) (base := base) F_Rule_put ⟨a_Rule_put, i_Rule_put, k_Rule_put⟩ b_Rule_put T RT
  have p_longest : Prp l.prog w K mg base 1 C_Rule "longest" (spLongest C_Rule) := ⟨_, _, _, _, CL_Rule, ⟨a_Rule_longest, g_Rule_longest, t_Rule_longest, ⟨_, r_Rule_longest⟩⟩, ok_longest F_Rule_longest T RT, b_Rule_longest⟩
  have c_tail := cal_tail (P := l.prog) (w := w) (base := base) F_tail b_tail T
  have c_put_in := met_put_in (P := l.prog) (w := w) (base := base) F_Rule_put_in ⟨a_Rule_put_in, i_Rule_put_in, k_Rule_put_in⟩ b_Rule_put_in T RT c_put p_longest c_tail
  have c_is_endless := met_is_endless (P := l.prog) (w := w) (base := base) F_Rule_is_endless ⟨a_Rule_is_endless, i_Rule_is_endless, k_Rule_is_endless⟩ b_Rule_is_endless T RT g_BITS c_put_in p_longest c_tail
  have M_Rule : Mk K C_Rule f_Rule_init := ⟨mk_Rule, a_Rule_init, i_Rule_init, kc_Rule⟩
  have i_ok_Rule := ok_Rule_init (P := l.prog) (w := w) (base := base) F_Rule_init T RT c_is_word c_are_stuffs c_is_endless
  have m_Rule2 : Mak l.prog w K mg base 5 "Rule" C_Rule (spRuInit K C_Rule) [] := ⟨_, _, _, _, M_Rule, i_ok_Rule, PySem.W.mg_of X G aC_Rule, bd1_Rule_init, vd1_Rule_init⟩
  have c_l_made := cal_l_made (P := l.prog) (w := w) (base := base) F_l_made b_l_made T m_Rule2
  have c_other := cal_other (P := l.prog) (w := w) (base := base) F_other b_other T
  have c_swapped_word := cal_swapped_word (P := l.prog) (w := w) (base := base) F_swapped_word b_swapped_word T c_other
  have c_swapped := met_swapped (P := l.prog) (w := w) (base := base) F_Rule_swapped ⟨a_Rule_swapped, i_Rule_swapped, k_Rule_swapped⟩ b_Rule_swapped T RT c_swapped_word m_Rule2
  have c_Rule_str := met_Rule_str (P := l.prog) (w := w) (base := base) F_Rule_str ⟨a_Rule_str, i_Rule_str, k_Rule_str⟩ b_Rule_str T RT
  have g_Rule : mg "Rule" = some (.ref C_Rule) := PySem.W.mg_of X G aC_Rule
  have IS_Rule : IsT K C_Rule := ⟨CL_Rule, cls_Rule, clg_X, clt_X, mro_Rule⟩
  have c_Rule_eq := met_Rule_eq (P := l.prog) (w := w) (base := base) F_Rule_eq ⟨a_Rule_eq, i_Rule_eq, k_Rule_eq⟩ b_Rule_eq T RT g_Rule IS_Rule c_Rule_str
  have c_Rule_len := met_Rule_len (P := l.prog) (w := w) (base := base) F_Rule_len ⟨a_Rule_len, i_Rule_len, k_Rule_len⟩ b_Rule_len T RT
  have c_stuff_in := cal_stuff_in (P := l.prog) (w := w) (base := base) F_stuff_in b_stuff_in T c_is_stuff
  have cm_Rule_read : CMt l.prog w K mg base 7 "Rule" C_Rule "read" (spRuRead C_Rule) := ⟨_, _, _, _, _, PySem.W.mg_of X G aC_Rule, ⟨rd_Rule, ga_Rule⟩, ⟨a_Rule_read, ⟨_, r_Rule_read⟩, fi_Rule_read⟩, ok_Rule_read F_Rule_read T RT c_is_word c_stuff_in m_Rule2, b_Rule_read⟩
  exact ok_law F_law T RT NE_Rule c_l_seed c_l_word c_l_rule c_l_made c_put p_longest c_swapped c_Rule_str c_Rule_eq c_Rule_len m_Rule2 cm_Rule_read
theorem walk {l : PySem.W.OpenLaw} {q : Program} {loose : List Str} {XP : (Str → Option Value) → Heap → Prop} {YP : World → Heap → Prop} {d : DefRec} {K : Params → PySem.W.Frag} (hn : l.most = some 63) (hdf : d.params.defaults = [])
    (hY : ∀ (w : World) (h : Heap), YP w h → (K w.params).In h)
    (F : ∀ (w : World) (mg : Str → Option Value) (fa : Addr) (h : Heap), (K w.params).In h → h.Ns mainGlobals mg → mg d.name = some (.ref fa) →
      ∃ fd : FuncData, (∀ (s : Shared) (u : Value), BindsTo s fd ⟨[u], []⟩ [("_law_script", u)]) ∧ ∀ base : Heap, (K w.params).In base → base.Ns mainGlobals mg → FnOk l.prog w (K w.params) mg base CX0 8 fa fd ["_law_script"] (spLaw (K w.params))) :
    PySem.W.WalkO q loose XP YP l.row.toRowW d [] (fun f vs => PySem.call f vs) :=
  L2.walk_of (n := 63) (k := 8) (x := "_law_script") (CX := fun _ => CX0) (sp := fun w => spLaw (K w.params)) hn (by decide) hdf ⟨rfl, by decide, by decide⟩ hY F (fun _ _ a ns hl _ hS => ⟨a, ns, rfl, hS, hl, fun _ => rfl⟩) fun _ _ _ _ _ z => z
end U

set_option pp.maxSteps 300
open PySem PySem.W PyProof.Rows
set_option maxRecDepth 100000 in
set_option maxHeartbeats 0 in
theorem PySem.Challenge.cw_unseenflips_k10_whole_rules_and_their_te_holds : PySem.Challenge.rw_unseenflips_k10_whole_rules_and_their_te.Holds := by
  w_on; o_law; k_head; (case hw => w_witness2)
  k_fill
  refine U.walk (l := PySem.Challenge.rw_unseenflips_k10_whole_rules_and_their_te) rfl rfl (fun w h Y => PySem.W.kIn_of Y) ?F
  case F =>
    intro w mg fa h KX G hmg
    refine' U.all_mk KX G hmg ?a_is_sequence ?l_is_sequence ?c_is_sequence ?k_is_sequence ?a_is_word ?l_is_word ?c_is_word ?k_is_word ?a_is_bit ?l_is_bit ?c_is_bit ?k_is_bit ?a_other ?l_other ?c_other ?k_other ?a_swapped_word ?l_swapped_word ?c_swapped_word ?k_swapped_word ?a_tail ?l_tail ?c_tail ?k_tail ?a_is_stuff ?l_is_stuff ?c_is_stuff ?k_is_stuff ?a_are_stuffs ?l_are_stuffs ?c_are_stuffs ?k_are_stuffs ?a_stuff_in ?l_stuff_in ?c_stuff_in ?k_stuff_in ?a_l_seed ?l_l_seed ?c_l_seed ?k_l_seed ?a_l_choose ?l_l_choose ?c_l_choose ?k_l_choose ?a_l_one_of ?l_l_one_of ?c_l_one_of ?k_l_one_of ?a_l_word ?l_l_word ?c_l_word ?k_l_word ?a_l_put ?l_l_put ?c_l_put ?k_l_put ?a_l_is_rule ?l_l_is_rule ?c_l_is_rule ?k_l_is_rule ?a_l_rule ?l_l_rule ?c_l_rule ?k_l_rule ?a_l_made ?l_l_made ?c_l_made ?k_l_made ?a_law ?l_law ?c_law ?k_law ?aC_Rule ?pg_Rule ?hd_Rule ?po_Rule ?sa_Rule ?mk_Rule ?kc_Rule ?n_Rule_flag ?n_Rule_stuffs ?a_Rule_put ?i_Rule_put ?l_Rule_put ?c_Rule_put ?k_Rule_put ?a_Rule_longest ?g_Rule_longest ?t_Rule_longest ?r_Rule_longest ?l_Rule_longest ?c_Rule_longest ?a_Rule_put_in ?i_Rule_put_in ?l_Rule_put_in ?c_Rule_put_in ?k_Rule_put_in ?a_Rule_is_endless ?i_Rule_is_endless ?l_Rule_is_endless ?c_Rule_is_endless ?k_Rule_is_endless ?a_Rule_init ?i_Rule_init ?l_Rule_init ?c_Rule_init ?k_Rule_init ?dl_Rule_init ?dlE_Rule ?a_Rule_swapped ?i_Rule_swapped ?l_Rule_swapped ?c_Rule_swapped ?k_Rule_swapped ?a_Rule_str ?i_Rule_str ?l_Rule_str ?c_Rule_str ?k_Rule_str ?a_Rule_eq ?i_Rule_eq ?l_Rule_eq ?c_Rule_eq ?k_Rule_eq ?a_Rule_len ?i_Rule_len ?l_Rule_len ?c_Rule_len ?k_Rule_len ?a_Rule_read ?r_Rule_read ?fi_Rule_read ?l_Rule_read ?c_Rule_read ?rd_Rule ?ga_Rule ?mro_Rule ?neq_Rule ?gBITS ?cls_Rule ?clg_X ?clt_X ?z_len ?z_abs ?z_int ?z_range ?z_max ?z_min ?z_enumerate ?z_zip ?z_dict ?z_list ?z_tuple ?z_isinstance ?z_bool ?z_str ?z_all ?z_any ?z_sum ?z_sorted ?z_repr
    (case a_is_sequence => k_is)
    (case l_is_sequence => k_is)
    (case c_is_sequence => k_is)
    (case k_is_sequence => k_is)
    (case a_is_word => k_is)
    (case l_is_word => k_is)
    (case c_is_word => k_is)
    (case k_is_word => k_is)
    (case a_is_bit => k_is)
    (case l_is_bit => k_is)
    (case c_is_bit => k_is)
    (case k_is_bit => k_is)
    (case a_other => k_is)
    (case l_other => k_is)
    (case c_other => k_is)
    (case k_other => k_is)
    (case a_swapped_word => k_is)
    (case l_swapped_word => k_is)
    (case c_swapped_word => k_is)
    (case k_swapped_word => k_is)
    (case a_tail => k_is)
    (case l_tail => k_is)
    (case c_tail => k_is)
    (case k_tail => k_is)
    (case a_is_stuff => k_is)
    (case l_is_stuff => k_is)
    (case c_is_stuff => k_is)
    (case k_is_stuff => k_is)
    (case a_are_stuffs => k_is)
    (case l_are_stuffs => k_is)
    (case c_are_stuffs => k_is)
    (case k_are_stuffs => k_is)
    (case a_stuff_in => k_is)
    (case l_stuff_in => k_is)
    (case c_stuff_in => k_is)
    (case k_stuff_in => k_is)
    (case a_l_seed => k_is)
    (case l_l_seed => k_is)
    (case c_l_seed => k_is)
    (case k_l_seed => k_is)
    (case a_l_choose => k_is)
    (case l_l_choose => k_is)
    (case c_l_choose => k_is)
    (case k_l_choose => k_is)
    (case a_l_one_of => k_is)
    (case l_l_one_of => k_is)
    (case c_l_one_of => k_is)
    (case k_l_one_of => k_is)
    (case a_l_word => k_is)
    (case l_l_word => k_is)
    (case c_l_word => k_is)
    (case k_l_word => k_is)
    (case a_l_put => k_is)
    (case l_l_put => k_is)
    (case c_l_put => k_is)
    (case k_l_put => k_is)
    (case a_l_is_rule => k_is)
    (case l_l_is_rule => k_is)
    (case c_l_is_rule => k_is)
    (case k_l_is_rule => k_is)
    (case a_l_rule => k_is)
    (case l_l_rule => k_is)
    (case c_l_rule => k_is)
    (case k_l_rule => k_is)
    (case a_l_made => k_is)
    (case l_l_made => k_is)
    (case c_l_made => k_is)
    (case k_l_made => k_is)
    (case a_law => k_is)
    (case l_law => k_is)
    (case c_law => k_is)
    (case k_law => k_is)
    (case aC_Rule => k_is)
    (case pg_Rule => k_is)
    (case hd_Rule => k_is)
    (case po_Rule => k_is)
    (case sa_Rule => k_is)
    (case mk_Rule => k_is)
    (case kc_Rule => k_is)
    (case n_Rule_flag => k_is)
    (case n_Rule_stuffs => k_is)
    (case a_Rule_put => k_is)
    (case i_Rule_put => k_is)
    (case l_Rule_put => k_is)
    (case c_Rule_put => k_is)
    (case k_Rule_put => k_is)
    (case a_Rule_longest => k_is)
    (case g_Rule_longest => k_is)
    (case t_Rule_longest => k_is)
    (case r_Rule_longest => k_is)
    (case l_Rule_longest => k_is)
    (case c_Rule_longest => k_is)
    (case a_Rule_put_in => k_is)
    (case i_Rule_put_in => k_is)
    (case l_Rule_put_in => k_is)
    (case c_Rule_put_in => k_is)
    (case k_Rule_put_in => k_is)
    (case a_Rule_is_endless => k_is)
    (case i_Rule_is_endless => k_is)
    (case l_Rule_is_endless => k_is)
    (case c_Rule_is_endless => k_is)
    (case k_Rule_is_endless => k_is)
    (case a_Rule_init => k_is)
    (case i_Rule_init => k_is)
    (case l_Rule_init => k_is)
    (case c_Rule_init => k_is)
    (case k_Rule_init => k_is)
    (case dl_Rule_init => k_is)
    (case dlE_Rule => k_is)
    (case a_Rule_swapped => k_is)
    (case i_Rule_swapped => k_is)
    (case l_Rule_swapped => k_is)
    (case c_Rule_swapped => k_is)
    (case k_Rule_swapped => k_is)
    (case a_Rule_str => k_is)
    (case i_Rule_str => k_is)
    (case l_Rule_str => k_is)
    (case c_Rule_str => k_is)
    (case k_Rule_str => k_is)
    (case a_Rule_eq => k_is)
    (case i_Rule_eq => k_is)
    (case l_Rule_eq => k_is)
    (case c_Rule_eq => k_is)
    (case k_Rule_eq => k_is)
    (case a_Rule_len => k_is)
    (case i_Rule_len => k_is)
    (case l_Rule_len => k_is)
    (case c_Rule_len => k_is)
    (case k_Rule_len => k_is)
    (case a_Rule_read => k_is)
    (case r_Rule_read => k_is)
    (case fi_Rule_read => k_is)
    (case l_Rule_read => k_is)
    (case c_Rule_read => k_is)
    (case rd_Rule => k_is)
    (case ga_Rule => k_is)
    (case mro_Rule => k_is)
    (case neq_Rule => k_is)
    (case gBITS => k_is)
    (case cls_Rule => k_is)
    (case clg_X => k_is)
    (case clt_X => k_is)
    (case z_len => k_is)
    (case z_abs => k_is)
    (case z_int => k_is)
    (case z_range => k_is)
    (case z_max => k_is)
    (case z_min => k_is)
    (case z_enumerate => k_is)
    (case z_zip => k_is)
    (case z_dict => k_is)
    (case z_list => k_is)
    (case z_tuple => k_is)
    (case z_isinstance => k_is)
    (case z_bool => k_is)
    (case z_str => k_is)
    (case z_all => k_is)
    (case z_any => k_is)
    (case z_sum => k_is)
    (case z_sorted => k_is)
    (case z_repr => k_is)
#print axioms PySem.Challenge.cw_unseenflips_k10_whole_rules_and_their_te_holds
