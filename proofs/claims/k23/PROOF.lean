import PyProof.Rows.All
import Wide.All
import OpenK.AllK
import Wide.FinOn
import HandS.ForMost
import HandS.Codes
import HandS.FStr
import HandS.IsInst
import HandS.Star
import HandS.TupAny
import HandS.Style
import HandS.Walk
import KE.GoesEnum
import KE.GoesNew
import HandS.Property
import HandS.Defaults
import HandS.ClsMeth
import HandS.MakeKw
import KE.GoesZip
import HandS.SortOrd
import HandS.SortRule
import HandS.OwnEq
import HandS.CallLocal
import KE.KCallOwn
import HandS.ExcInit
import HandS.Nested
import HandS.TryOnly
import KE.KExcSuper
import HandS.ExcOwn
import HandS.ExcIs
import HandS.ExcField
import HandS.Replace
import HandS.Deep
import PySem.Challenge.RW_unseenflips_k23_checks_and_lines_by_name
set_option Elab.async false
set_option linter.all false
set_option maxRecDepth 100000
set_option maxHeartbeats 4000000
namespace Lx
open PySem PySem.Spec PyProof.Rows L2

/-! enumerate over a text -/
def ItES (x : Str) : It := ⟨fun i _ => i < x.cps.size, fun i H v H' => ∃ T c, v = .ref T ∧ H T = none ∧ H' = upd H T (.tup [.int (i : Nat), .str ⟨#[c]⟩]) ∧ x.cps[i]? = some c, fun i _ => x.cps.size ≤ i⟩
theorem turn_enumS {P : Program} {w : World} {K : PySem.W.Frag} {elts : List Expr} {kk : Nat} {tpos : Pos} (x : Str) (t : Tok) (e it : Addr) :
    Turn P w K (.Tuple elts kk tpos) (ItES x) [e, it] e (fun i h => (∃ old, IsEnum h e it ((i : Nat) : Int) old) ∧ h.IsStrIter it (strIterType x) x t i ∧ e ≠ it ∧ i ≤ x.cps.size) where
  mem := by simp
  obj := fun i h st b hb => by
    obtain ⟨⟨old, he⟩, ⟨o, ho, hc, hd⟩, _⟩ := st
    have e' : b = e ∨ b = it := by simpa using hb
    rcases e' with z | z
    · rw [z]; exact ⟨_, he, fun v q => nomatch q⟩
    · rw [z]; exact ⟨o, ho, fun v q => by rw [hd] at q; cases q⟩
  keep := fun i h h' st k => by
    obtain ⟨⟨old, he⟩, ⟨o, ho, r⟩, hne⟩ := st
    exact ⟨⟨old, k e (by simp) _ he⟩, ⟨o, k it (by simp) o ho, r⟩, hne⟩
  item := by
    intro X hP hw hK hc i pins s σ H E I hf st hg
    subst hP hw hK
    obtain ⟨⟨old, he⟩, hit, hne, _⟩ := st
    have hlt : i < x.cps.size := hg
    have hel : e < s.heap.objs.size := Heap.lt_size he
    have hil : it < s.heap.objs.size := by obtain ⟨_, q, _⟩ := hit; exact Heap.lt_size q
    have hh : X.A.in1.handled = none := I.ok.hd hc
    refine wpAny_pyNext_enum_itemC (Draws.text hh it x t) he hit hlt hne (by simpa using hne) fun v h' tk hP ho hit' hT hsz hk => ?_
    obtain ⟨c, u, hcx, rfl⟩ := hP
    refine ⟨_, rfl, wpAny_letOwnedTupleGo_enum (s := { s with heap := h', toks := tk + 1 }) ho fun h'' he' sb => ?_⟩
    have hT2 : h''.get? s.heap.objs.size = some { cls := .type "tuple", data := .seq #[.int i tk, .str ⟨#[c]⟩ u] } := (sb.2 _ (Nat.ne_of_gt hel)).trans hT
    have new : ObjOk X.prog X.w (upd H s.heap.objs.size (.tup [.int (i : Nat), .str ⟨#[c]⟩])) h'' s.heap.objs.size (.tup [.int (i : Nat), .str ⟨#[c]⟩]) :=
      ⟨by show 2 ≤ sizeLine; decide, [.int i tk, .str ⟨#[c]⟩ u], .cons ⟨_, rfl⟩ (.cons ⟨_, rfl⟩ .nil), ⟨_, hT2, rfl, _, rfl⟩⟩
    have I1 : Inv X pins σ (upd H s.heap.objs.size (.tup [.int (i : Nat), .str ⟨#[c]⟩])) { s with heap := h'', toks := tk + 1 } :=
      I.turnedNew (ch := [e, it]) (fun b ob hb q => (sb.2 b (fun z => hb (by simp [z]))).trans (hk b ob (fun z => hb (by simp [z])) (fun z => hb (by simp [z])) q)) hf (Nat.le_refl _) new
    refine ⟨.ref s.heap.objs.size, _, I1, rfl, ⟨_, c, rfl, I.hok.fresh (Nat.le_refl _), rfl, hcx⟩, ⟨⟨.str ⟨#[c]⟩ u, ?_⟩, ?_, hne, hlt⟩, fun b hb => ?_⟩
    · have e1 : ((i + 1 : Nat) : Int) = (i : Int) + 1 := by omega
      rw [e1]; exact he'
    · obtain ⟨o, ho', r⟩ := hit'
      exact ⟨o, (sb.2 it (Ne.symm hne)).trans ho', r⟩
    · have hb' : b < s.heap.objs.size := by
        have e' : b = e ∨ b = it := by simpa using hb
        rcases e' with z | z
        · rw [z]; exact hel
        · rw [z]; exact hil
      rw [upd_ne (Nat.ne_of_lt hb')]
      exact (hf b hb).1
  done := by
    intro X hP hw hK hc i pins s σ H E I hf st hg
    subst hP hw hK
    obtain ⟨⟨old, he⟩, hit, hne, hle⟩ := st
    have hge : x.cps.size ≤ i := hg
    have hi : i = x.cps.size := Nat.le_antisymm hle hge
    subst hi
    have hh : X.A.in1.handled = none := I.ok.hd hc
    obtain ⟨f0, f1, f2, f3, f4, f5⟩ := hf it (by simp)
    exact wpAny_pyNext_enum_endD (Draws.text hh it x t) he hit fun h' eb => ⟨rfl, I.turned (t' := s.toks) (fun b o hb q => eb b o hb q) f0 f1 f3 f4 f5⟩
  self := fun A i s Q E st h => let ⟨⟨_, he⟩, _⟩ := st; wpAny_pyIter_enum he h
def iEnumS (ta : TA) : TI := fun σ H R => ta σ H fun vs H1 => ∃ x, vs = [.str x] ∧ R (ItES x) H1
theorem pi_enumS {X : Cx} {e : Expr} {ta : TA} {p pos tpos : Pos} {elts : List Expr} {kk : Nat} (hg : Gl X "enumerate") (hm : X.mg "enumerate" = none) (ha : PA X [e] ta) (hs : starEach [e] X.env = [(false, eval e X.env)] := by rfl) :
    PI X (.Tuple elts kk tpos) (.Call (.Name "enumerate" p) [e] [] pos) (iEnumS ta) := by
  refine ⟨fun pins s σ H R I h => ?_⟩
  refine Call_ (ld_blt I hg hm boot_enumerate (PyProof.Rows.callWith_type1 (thn (ha.run pos pins s σ H _ I h) fun us s1 ⟨vs, H1, I1, r1, q1⟩ => ?_) hs rfl))
  obtain ⟨x, ex, q⟩ := q1
  subst ex
  cases r1 with
  | cons r rr =>
    cases rr
    obtain ⟨t, rfl⟩ := r
    refine call_enumerate_str fun h' he hit hsz hk => wpAny_pyIter_enum he ?_
    have I2 : Inv X pins σ H1 { s1 with heap := h' } := I1.kept (t' := s1.toks) hk
    refine ⟨s1.heap.objs.size + 1, [s1.heap.objs.size + 1, s1.heap.objs.size], _, _, H1, rfl, I2, turn_enumS x t (s1.heap.objs.size + 1) s1.heap.objs.size, ⟨⟨.none, he⟩, hit, Nat.succ_ne_self _, Nat.zero_le _⟩, fun b hb => ?_, q⟩
    have e' : b = s1.heap.objs.size + 1 ∨ b = s1.heap.objs.size := by simpa using hb
    have hle : s1.heap.objs.size ≤ b := by
      rcases e' with z | z
      · rw [z]; exact Nat.le_add_right _ _
      · rw [z]; exact Nat.le_refl _
    exact I1.fpOk hle (I1.hok.fresh hle)

/-! enumerate over a tuple -/
def ItET (K : PySem.W.Frag) (a : Addr) : It :=
  ⟨fun i H => ∃ (xs : List V) (x : V), SqT K H a xs ∧ xs[i]? = some x, fun i H v H' => ∃ T x, v = .ref T ∧ H T = none ∧ H' = upd H T (.tup [.int (i : Nat), x]) ∧ ∀ xs, SqT K H a xs → xs[i]? = some x, fun i H => ∃ xs : List V, SqT K H a xs ∧ xs.length ≤ i⟩
theorem meets_enumerate_newT (l : Addr) (items : Array Value) (n : Nat) (dct : Option Addr) (sl : Array (Option Value)) :
    Meets (Builtin.«enumerate.__new__» ⟨[.type "enumerate", .ref l], []⟩) (fun _ R s => s.heap.get? l = some { cls := .type "tuple", dict := dct, data := .seq items n, slots := sl } ∧
      R (.ok (.ret (.ref (s.heap.push { cls := .type "tuple_iterator", data := .fields #[.ref l, .int 0 0] }).objs.size)))
        { s with heap := (s.heap.push { cls := .type "tuple_iterator", data := .fields #[.ref l, .int 0 0] }).push { cls := .type "enumerate", data := .fields #[.none, .bool false, .ref s.heap.objs.size, rawInt 0, .none, .none] } }) :=
  .of_wp fun prog w A R s h => by
    obtain ⟨hp, g, d, tk, os⟩ := s; obtain ⟨hl, h⟩ := h
    have hsub := sub_enumerate
    have hL : Heap.IsTuple (Shared.heap ⟨hp, g, d, tk, os⟩) l items := ⟨_, hl, rfl, n, rfl⟩
    wp_walk using AutoSeq1.wpAny_loadPart' hl
    refine wpAny_stack_any fun st => wpAny_pure ?_
    split
    · rename_i c _ _ _ _ _
      cases (c == Value.type "enumerate")
      · wp_walk using AutoSeq1.wpAny_loadPart' hl, wpAny_pyIter_tuple hL
        exact ⟨_, rfl, h⟩
      · wp_walk using AutoSeq1.wpAny_loadPart' hl, wpAny_pyIter_tuple hL
        exact ⟨_, rfl, h⟩
    · wp_walk using AutoSeq1.wpAny_loadPart' hl, wpAny_pyIter_tuple hL
      exact ⟨_, rfl, h⟩
theorem call_enumerate_tup {prog : Program} {w : World} {A : Around} {E : Value → Shared → Prop} {s : Shared} {l : Addr} {items : Array Value} {Q : Value → Shared → Prop} (hL : s.heap.IsTuple l items)
    (h : ∀ h', IsEnum h' (s.heap.objs.size + 1) s.heap.objs.size 0 .none → h'.IsTupleIter s.heap.objs.size l 0 → h'.objs.size = s.heap.objs.size + 2 →
      (∀ b o, s.heap.get? b = some o → h'.get? b = some o) → Q (.ref (s.heap.objs.size + 1)) { s with heap := h' }) :
    wpAny (model prog w) A (call (.type "enumerate") [.ref l]) Q E s := by
  obtain ⟨⟨c, dct, dt, sl⟩, hl, hc, n, hd⟩ := hL
  replace hc : c = .type "tuple" := hc
  replace hd : dt = .seq items n := hd
  subst hc hd
  refine callType_new F.called_enumerate (by decide) (F.typeCall_enumerate_1 _) (F.newCall_enumerate_1 _) (fun obj => F.args_object_init_2 obj _) F.entry_enumerate_new
    (meets_enumerate_newT l items n dct sl) ⟨hl, ?_⟩
  have hz : (s.heap.push { cls := .type "tuple_iterator", data := .fields #[.ref l, .int 0 0] }).objs.size = s.heap.objs.size + 1 := Heap.size_push ..
  show _ ∧ _
  rw [hz]
  have he : IsEnum ((s.heap.push { cls := .type "tuple_iterator", data := .fields #[.ref l, .int 0 0] }).push
      { cls := .type "enumerate", data := .fields #[.none, .bool false, .ref s.heap.objs.size, rawInt 0, .none, .none] }) (s.heap.objs.size + 1) s.heap.objs.size 0 .none := by
    have := Heap.get?_push_size (s.heap.push { cls := .type "tuple_iterator", data := .fields #[.ref l, .int 0 0] })
      (o := { cls := .type "enumerate", data := .fields #[.none, .bool false, .ref s.heap.objs.size, rawInt 0, .none, .none] }) rfl
    rw [hz] at this; exact this
  refine ⟨⟨_, he, rfl⟩, h _ he ⟨_, Heap.get?_push_of_some _ (Heap.get?_push_size _ rfl), rfl, rfl⟩ (by rw [Heap.size_push, hz]) fun b o x => Heap.get?_push_of_some _ (Heap.get?_push_of_some _ x)⟩
theorem turn_enumT {P : Program} {w : World} {K : PySem.W.Frag} {elts : List Expr} {kk : Nat} {tpos : Pos} (a e it : Addr) :
    Turn P w K (.Tuple elts kk tpos) (ItET K a) [e, it] e (fun i h => (∃ old, IsEnum h e it ((i : Nat) : Int) old) ∧ h.IsTupleIter it a i ∧ e ≠ it ∧ a ≠ it ∧ a ≠ e) where
  mem := by simp
  obj := fun i h st b hb => by
    obtain ⟨⟨old, he⟩, ⟨o, ho, hc, hd⟩, _⟩ := st
    have e' : b = e ∨ b = it := by simpa using hb
    rcases e' with z | z
    · rw [z]; exact ⟨_, he, fun v q => nomatch q⟩
    · rw [z]; exact ⟨o, ho, fun v q => by rw [hd] at q; cases q⟩
  keep := fun i h h' st k => by
    obtain ⟨⟨old, he⟩, ⟨o, ho, r⟩, hne⟩ := st
    exact ⟨⟨old, k e (by simp) _ he⟩, ⟨o, k it (by simp) o ho, r⟩, hne⟩
  item := by
    intro X hP hw hK hc i pins s σ H E I hf st hg
    subst hP hw hK
    obtain ⟨⟨old, he⟩, hit, hne, hai, hae⟩ := st
    obtain ⟨xs, x, hq, hx⟩ := hg
    obtain ⟨its, rv, p, hz⟩ := I.tuple hq
    obtain ⟨u, hu, ru⟩ := rv.get hx
    have hel : e < s.heap.objs.size := Heap.lt_size he
    have hil : it < s.heap.objs.size := by obtain ⟨_, q, _⟩ := hit; exact Heap.lt_size q
    have hh : X.A.in1.handled = none := I.ok.hd hc
    have pT : s.heap.IsTuple a its.toArray := p
    have hlt : i < its.toArray.size := by
      have := (List.getElem?_eq_some_iff.mp hu).1
      simpa using this
    refine wpAny_pyNext_enum_itemC (Draws.tuple hh it a hai its.toArray) he ⟨hit, pT⟩ hlt hne (by simp [hne, Ne.symm hae]) fun v h' tk hP ho hit' hT hsz hk => ?_
    have ev : v = u := by
      have hP' : its.toArray[i]? = some v := hP
      rw [List.getElem?_toArray, hu] at hP'
      exact (Option.some.inj hP').symm
    subst ev
    refine ⟨_, rfl, wpAny_letOwnedTupleGo_enum (s := { s with heap := h', toks := tk + 1 }) ho fun h'' he' sb => ?_⟩
    have hT2 : h''.get? s.heap.objs.size = some { cls := .type "tuple", data := .seq #[.int i tk, v] } := (sb.2 _ (Nat.ne_of_gt hel)).trans hT
    have new : ObjOk X.prog X.w (upd H s.heap.objs.size (.tup [.int (i : Nat), x])) h'' s.heap.objs.size (.tup [.int (i : Nat), x]) :=
      ⟨by show 2 ≤ sizeLine; decide, [.int i tk, v], .cons ⟨_, rfl⟩ (.cons ru .nil), ⟨_, hT2, rfl, _, rfl⟩⟩
    have I1 : Inv X pins σ (upd H s.heap.objs.size (.tup [.int (i : Nat), x])) { s with heap := h'', toks := tk + 1 } :=
      I.turnedNew (ch := [e, it]) (fun b ob hb q => (sb.2 b (fun z => hb (by simp [z]))).trans (hk b ob (fun z => hb (by simp [z])) (fun z => hb (by simp [z])) q)) hf (Nat.le_refl _) new
    refine ⟨.ref s.heap.objs.size, _, I1, rfl, ⟨_, x, rfl, I.hok.fresh (Nat.le_refl _), rfl, fun ys hy => by rw [I.tuple_inj hy hq]; exact hx⟩, ⟨⟨v, ?_⟩, ?_, hne, hai, hae⟩, fun b hb => ?_⟩
    · have e1 : ((i + 1 : Nat) : Int) = (i : Int) + 1 := by omega
      rw [e1]; exact he'
    · obtain ⟨⟨o, ho', r⟩, _⟩ := hit'
      exact ⟨o, (sb.2 it (Ne.symm hne)).trans ho', r⟩
    · have hb' : b < s.heap.objs.size := by
        have e' : b = e ∨ b = it := by simpa using hb
        rcases e' with z | z
        · rw [z]; exact hel
        · rw [z]; exact hil
      rw [upd_ne (Nat.ne_of_lt hb')]
      exact (hf b hb).1
  done := by
    intro X hP hw hK hc i pins s σ H E I hf st hg
    subst hP hw hK
    obtain ⟨⟨old, he⟩, hit, hne, hai, hae⟩ := st
    obtain ⟨xs, hq, hx⟩ := hg
    obtain ⟨its, rv, p, hz⟩ := I.tuple hq
    have hl := rv.length
    have pT : s.heap.IsTuple a its.toArray := p
    have hh : X.A.in1.handled = none := I.ok.hd hc
    obtain ⟨f0, f1, f2, f3, f4, f5⟩ := hf it (by simp)
    have D : Draws X.prog X.w X.A.in1 it [it, a] i (fun _ _ => True) (fun j h => j = i ∧ h.IsTupleIter it a i ∧ h.IsTuple a its.toArray) :=
      { live := fun _ _ st => let ⟨o, ho, _⟩ := st.2.1; ⟨o, ho⟩
        frame := fun _ _ _ st hk => ⟨st.1, st.2.1.at fun o e => hk it (by simp) o e, st.2.2.at fun o e => hk a (by simp) o e⟩
        item := fun j s Q E hj st hQ => absurd st.1 (Nat.ne_of_lt hj)
        done := fun s Q E st hE => wpAny_nextOf_tuple_end hh st.2.1 st.2.2 (by simp; omega) hE }
    exact wpAny_pyNext_enum_endD D he ⟨rfl, hit, pT⟩ fun h' eb => ⟨rfl, I.turned (t' := s.toks) (fun b o hb q => eb b o hb q) f0 f1 f3 f4 f5⟩
  self := fun A i s Q E st h => let ⟨⟨_, he⟩, _⟩ := st; wpAny_pyIter_enum he h
def iEnumT (K : PySem.W.Frag) (ta : TA) : TI := fun σ H R => ta σ H fun vs H1 => ∃ a xs, vs = [.ref a] ∧ SqT K H1 a xs ∧ R (ItET K a) H1
theorem pi_enumT {X : Cx} {e : Expr} {ta : TA} {p pos tpos : Pos} {elts : List Expr} {kk : Nat} (hg : Gl X "enumerate") (hm : X.mg "enumerate" = none) (ha : PA X [e] ta) (hs : starEach [e] X.env = [(false, eval e X.env)] := by rfl) :
    PI X (.Tuple elts kk tpos) (.Call (.Name "enumerate" p) [e] [] pos) (iEnumT X.K ta) := by
  refine ⟨fun pins s σ H R I h => ?_⟩
  refine Call_ (ld_blt I hg hm boot_enumerate (PyProof.Rows.callWith_type1 (thn (ha.run pos pins s σ H _ I h) fun us s1 ⟨vs, H1, I1, r1, q1⟩ => ?_) hs rfl))
  obtain ⟨a, xs, ex, hq, q⟩ := q1
  subst ex
  cases r1 with
  | cons r rr =>
    cases rr
    cases r
    obtain ⟨its, rv, p', hz⟩ := I1.tuple hq
    have pT : s1.heap.IsTuple a its.toArray := p'
    have hlt : a < s1.heap.objs.size := by obtain ⟨o, ho, _⟩ := pT; exact Heap.lt_size ho
    refine call_enumerate_tup pT fun h' he hit hsz hk => wpAny_pyIter_enum he ?_
    have I2 : Inv X pins σ H1 { s1 with heap := h' } := I1.kept (t' := s1.toks) hk
    refine ⟨s1.heap.objs.size + 1, [s1.heap.objs.size + 1, s1.heap.objs.size], _, _, H1, rfl, I2, turn_enumT a (s1.heap.objs.size + 1) s1.heap.objs.size, ⟨⟨.none, he⟩, hit, Nat.succ_ne_self _, Nat.ne_of_lt hlt, Nat.ne_of_lt (Nat.lt_succ_of_lt hlt)⟩, fun b hb => ?_, q⟩
    have e' : b = s1.heap.objs.size + 1 ∨ b = s1.heap.objs.size := by simpa using hb
    have hle : s1.heap.objs.size ≤ b := by
      rcases e' with z | z
      · rw [z]; exact Nat.le_add_right _ _
      · rw [z]; exact Nat.le_refl _
    exact I1.fpOk hle (I1.hok.fresh hle)
/-- a list or a tuple, enumerated -/
def iEnumQ (K : PySem.W.Frag) (ta : TA) : TI := fun σ H R => iEnum K ta σ H R ∨ iEnumT K ta σ H R
theorem pi_enumQ {X : Cx} {e : Expr} {ta : TA} {p pos tpos : Pos} {elts : List Expr} {kk : Nat} (hg : Gl X "enumerate") (hm : X.mg "enumerate" = none) (ha : PA X [e] ta) (hs : starEach [e] X.env = [(false, eval e X.env)] := by rfl) :
    PI X (.Tuple elts kk tpos) (.Call (.Name "enumerate" p) [e] [] pos) (iEnumQ X.K ta) := by
  refine ⟨fun pins s σ H R I h => ?_⟩
  rcases h with h | h
  · exact (pi_enum hg hm ha hs).run pins s σ H R I h
  · exact (pi_enumT hg hm ha hs).run pins s σ H R I h
theorem walk_enumT {K : PySem.W.Frag} {a : Addr} {xs : List V} : Walk (ItET K a) xs.length (fun H => SqT K H a xs) (YPair (fun i => some (.int (i : Nat))) (fun i => xs[i]?)) := by
  refine ⟨fun i _ hi q => ⟨xs, xs[i], q, by simp [hi]⟩, fun _ q => ⟨xs, q, Nat.le_refl _⟩, fun i H v H' _ q y => ?_⟩
  obtain ⟨T, x, h1, h2, h3, h4⟩ := y
  exact ⟨T, .int (i : Nat), x, h1, h2, h3, rfl, h4 xs q⟩
theorem walk_enumS {x : Str} : Walk (ItES x) x.cps.size (fun _ => True) (fun i H v H' => ∃ T c, v = .ref T ∧ H T = none ∧ H' = upd H T (.tup [.int (i : Nat), .str ⟨#[c]⟩]) ∧ x.cps[i]? = some c) :=
  ⟨fun _ _ hi _ => hi, fun _ _ => Nat.le_refl _, fun _ _ _ _ _ _ y => y⟩
end Lx

set_option maxRecDepth 100000
set_option maxHeartbeats 4000000
namespace Lx
open PySem PySem.Spec PyProof.Rows L2
/-- n turns, each a new tuple whose items are as f says -/
def ItTup (n : Nat) (f : Nat → List V → Prop) : It :=
  ⟨fun i _ => i < n, fun i H v H' => ∃ T xs, v = .ref T ∧ H T = none ∧ H' = upd H T (.tup xs) ∧ f i xs, fun i _ => n ≤ i⟩
theorem turn_tuples {P : Program} {w : World} {K : PySem.W.Frag} {elts : List Expr} {kk : Nat} {tpos : Pos} {it : Addr} {fp wr : List Addr} {n : Nat} {Pt : Nat → Array Value → Prop} {St : Nat → Heap → Prop} {Mid : Nat → Addr → Heap → Prop} {f : Nat → List V → Prop}
    (Wk : ∀ A : Around, A.in1.handled = none → WalksT P w A it fp wr n Pt St Mid) (hrel : ∀ i vals, Pt i vals → ∃ xs, Vals xs vals.toList ∧ f i xs ∧ xs.length ≤ 8)
    (hobj : ∀ i h, St i h → ∀ b ∈ fp, ∃ o, h.get? b = some o ∧ ∀ v, o.data ≠ .cell v) (hmem : it ∈ fp)
    (hself : ∀ (A : Around) (i : Nat) (s : Shared) (Q : Value → Shared → Prop) (E : Value → Shared → Prop), St i s.heap → Q (.ref it) s → wpAny (model P w) A (pyIter (.ref it)) Q E s) :
    Turn P w K (.Tuple elts kk tpos) (ItTup n f) fp it (fun i h => St i h ∧ i ≤ n) where
  mem := hmem
  obj := fun i h st => hobj i h st.1
  keep := fun i h h' st k => ⟨(Wk {} rfl).frame i h h' st.1 k, st.2⟩
  item := by
    intro X hP hw hK hc i pins s σ H E I hf st hg
    subst hP hw hK
    have hh : X.A.in1.handled = none := I.ok.hd hc
    have hlt : i < n := hg
    refine (GoesN.ofWalksT (elts := elts) (k := kk) (pos := tpos) (Wk X.A hh)).goes i s _ _ hlt st.1 fun v h' tk hY st' hk htk => ?_
    obtain ⟨T, vals, rfl, hnew, hPt, hT⟩ := hY
    obtain ⟨xs, rv, hfx, hl⟩ := hrel i vals hPt
    have new : ObjOk X.prog X.w (upd H T (.tup xs)) h' T (.tup xs) := ⟨Nat.le_trans hl (by decide), vals.toList, rv, by rw [Array.toArray_toList]; exact hT⟩
    have I1 : Inv X pins σ (upd H T (.tup xs)) { s with heap := h', toks := tk } :=
      I.turnedNew (ch := fp) (fun b ob hb q => hk b ob (fun z => hb ((Wk X.A hh).sub b z)) q) hf hnew new
    refine ⟨.ref T, _, I1, rfl, ⟨T, xs, rfl, I.hok.fresh hnew, rfl, hfx⟩, ⟨st', hlt⟩, fun b hb => ?_⟩
    have hb' : b < s.heap.objs.size := by obtain ⟨o, ho, _⟩ := hobj i _ st.1 b hb; exact Heap.lt_size ho
    rw [upd_ne (Nat.ne_of_lt (Nat.lt_of_lt_of_le hb' hnew))]
    exact (hf b hb).1
  done := by
    intro X hP hw hK hc i pins s σ H E I hf st hg
    subst hP hw hK
    have hh : X.A.in1.handled = none := I.ok.hd hc
    have hge : n ≤ i := hg
    have hi : i = n := Nat.le_antisymm st.2 hge
    subst hi
    refine (Wk X.A hh).done s _ _ st.1 fun h' tk hk => ⟨rfl, ?_⟩
    exact I.turnedL (ch := fp) (fun c o hb q => hk c o (fun z => hb ((Wk X.A hh).sub c z)) q) hf
  self := fun A i s Q E st h => hself A i s Q E st.1 h
theorem walk_tuples {n : Nat} {f : Nat → List V → Prop} : Walk (ItTup n f) n (fun _ => True) (fun i H v H' => ∃ T xs, v = .ref T ∧ H T = none ∧ H' = upd H T (.tup xs) ∧ f i xs) :=
  ⟨fun _ _ hi _ => hi, fun _ _ => Nat.le_refl _, fun _ _ _ _ _ _ y => y⟩
/-! zip of two texts -/
def zipF (x y : Str) : Nat → List V → Prop := fun i xs => ∃ c d, x.cps[i]? = some c ∧ y.cps[i]? = some d ∧ xs = [.str ⟨#[c]⟩, .str ⟨#[d]⟩]
def iZipS (ta : TA) : TI := fun σ H R => ta σ H fun vs H1 => ∃ x y, vs = [.str x, .str y] ∧ R (ItTup (min x.cps.size y.cps.size) (zipF x y)) H1
theorem pi_zipS {X : Cx} {e e2 : Expr} {ta : TA} {p pos tpos : Pos} {elts : List Expr} {kk : Nat} (hg : Gl X "zip") (hm : X.mg "zip" = none) (ha : PA X [e, e2] ta)
    (hs : starEach [e, e2] X.env = (false, eval e X.env) :: starEach [e2] X.env := by rfl) (hpl : (backTo pos (starEach [e2] X.env)).any (·.1) = false := by rfl) :
    PI X (.Tuple elts kk tpos) (.Call (.Name "zip" p) [e, e2] [] pos) (iZipS ta) := by
  refine ⟨fun pins s σ H R I h => ?_⟩
  refine Call_ (ld_blt I hg hm PyProof.Rows.boot_zip (PyProof.Rows.callWith_type1 (thn (ha.run pos pins s σ H _ I h) fun us s1 ⟨vs, H1, I1, r1, q1⟩ => ?_) hs hpl))
  obtain ⟨x, y, ex, q⟩ := q1
  subst ex
  cases r1 with
  | cons r rr =>
    cases rr with
    | cons r' rr =>
      cases rr
      obtain ⟨t, rfl⟩ := r
      obtain ⟨t', rfl⟩ := r'
      refine zip_begins2 (begins_text x t) (begins_text y t') trivial trivial fun h' hz hTI hTO h1 h2 hsz hk => wpAny_pyIter_zip hz ?_
      have I2 : Inv X pins σ H1 { s1 with heap := h' } := I1.kept (t' := s1.toks) hk
      have sep := zip_sep2 (N := s1.heap.objs.size) (fp1 := []) (fp2 := []) (fun b hb => nomatch hb) (fun b hb => nomatch hb)
      have tn := turn_tuples (P := X.prog) (w := X.w) (K := X.K) (elts := elts) (kk := kk) (tpos := tpos) (f := zipF x y)
        (fun A hh => WalksT.zipD2 sep (Draws.text (prog := X.prog) (w := X.w) hh s1.heap.objs.size x t) (Draws.text (prog := X.prog) (w := X.w) hh (s1.heap.objs.size + 1) y t'))
        (fun i vals hv => by
          obtain ⟨x1, x2, ⟨c, u, hc, rfl⟩, ⟨d, u', hd, rfl⟩, rfl⟩ := hv
          exact ⟨[.str ⟨#[c]⟩, .str ⟨#[d]⟩], .cons ⟨_, rfl⟩ (.cons ⟨_, rfl⟩ .nil), ⟨c, d, hc, hd, rfl⟩, by show 2 ≤ 8; decide⟩)
        (fun i h st b hb => by
          obtain ⟨z1, z2, ⟨a1, a2, z3⟩, ⟨o1, e1, _, d1⟩, ⟨o2, e2, _, d2⟩⟩ := st
          have e' : b = s1.heap.objs.size + 4 ∨ b = s1.heap.objs.size + 2 ∨ b = s1.heap.objs.size + 3 ∨ b = s1.heap.objs.size ∨ b = s1.heap.objs.size + 1 := by simpa using hb
          rcases e' with q | q | q | q | q
          · rw [q]; exact ⟨_, z1, fun v q => nomatch q⟩
          · rw [q]; exact ⟨_, z2, fun v q => nomatch q⟩
          · rw [q]; exact ⟨_, z3, fun v q => nomatch q⟩
          · rw [q]; exact ⟨o1, e1, fun v q => by rw [d1] at q; cases q⟩
          · rw [q]; exact ⟨o2, e2, fun v q => by rw [d2] at q; cases q⟩)
        (by simp) (fun A i s Q E st h => wpAny_pyIter_zip st.1 h)
      refine ⟨s1.heap.objs.size + 4, _, _, _, H1, rfl, I2, tn, ⟨⟨hz, hTI, ⟨_, _, hTO⟩, ⟨_, h1, rfl, rfl⟩, ⟨_, h2, rfl, rfl⟩⟩, Nat.zero_le _⟩, fun c hcm => ?_, q⟩
      have e' : c = s1.heap.objs.size + 4 ∨ c = s1.heap.objs.size + 2 ∨ c = s1.heap.objs.size + 3 ∨ c = s1.heap.objs.size ∨ c = s1.heap.objs.size + 1 := by simpa using hcm
      have hle : s1.heap.objs.size ≤ c := by
        rcases e' with z | z | z | z | z
        · rw [z]; exact Nat.le_add_right _ _
        · rw [z]; exact Nat.le_add_right _ _
        · rw [z]; exact Nat.le_add_right _ _
        · rw [z]; exact Nat.le_refl _
        · rw [z]; exact Nat.le_add_right _ _
      exact I1.fpOk hle (I1.hok.fresh hle)
/-! text * int -/
section
variable {X : Cx}
theorem op_rep_str : OpR X (binaryOp .Mult) (fun x y H Q => ∃ (z : Str) (n : Int), x = .str z ∧ y = .int n ∧ n < 2 ^ 20 ∧ -(2 ^ 20) < n ∧ z.length * n.toNat ≤ 100000 ∧ Q (.str (Txt.mul z n)) H) := by
  intro pins s σ H x y u v Q I rx ry h
  obtain ⟨z, n, rfl, rfl, h1, h2, h3, q⟩ := h
  obtain ⟨t, rfl⟩ := rx
  obtain ⟨t', rfl⟩ := ry
  refine SB.mul ⟨?_, fun a b => ?_, fun a b => ?_⟩ fun t' k => ⟨.str (Txt.mul z n), H, I.tok _, ⟨_, rfl⟩, q⟩
  · rw [decide_eq_false (by omega), decide_eq_false (by omega)]; rfl
  · have e1 : ((z.length : Int)) ≤ 100000 := by
      have : z.length * 1 ≤ z.length * n.toNat := Nat.mul_le_mul_left _ (by omega)
      omega
    have e2 : (100000 : Int) ≤ (2 ^ 63 - 1) / n := by
      refine (Int.le_ediv_iff_mul_le (by omega)).mpr ?_
      omega
    omega
  · show decide (z.length * n.toNat > sizeLine) = false
    exact decide_eq_false (Nat.not_lt.mpr (Nat.le_trans h3 (by decide)))
end
/-! a class made without arguments; a def called without; a property -/
open C8 in
theorem pe_mk0 {X : Cx} {k j : Nat} {C : Addr} {x : Str} {sp : Sp} {dvs : List V} {p pos : Pos} (c : Mak X.prog X.w X.K X.mg X.base k x C sp dvs) (hr : Room j X.A) (hk : k + 1 ≤ j) (hg : Gl X x) (hdb : (x == ("__debug__" : Str)) = false := by decide) :
    PE X (.Call (.Name x p) [] [] pos) (tMake C sp dvs C8.E0 tNil) := by
  obtain ⟨f, fd, ps, ds, M, F, hm, b, d⟩ := c.ex
  exact pe_make0 M F (hr.mono hk) hg hm b d C8.pass0 hdb
open C8 in
theorem pe_c0 {X : Cx} {k j : Nat} {x : Str} {sp : Sp} {dvs : List V} {p pos : Pos} (c : Cal X.prog X.w X.K X.mg X.base k x sp dvs) (hr : Room j X.A) (hk : k ≤ j) (hg : Gl X x) (hdb : (x == ("__debug__" : Str)) = false := by decide) :
    PE X (.Call (.Name x p) [] [] pos) (tCall sp dvs C8.E0 tNil) := by
  obtain ⟨f, fd, ps, ds, F, hm, kp, b, d⟩ := c.ex
  exact pe_call0 F (hr.mono hk) hg hm kp b d C8.pass0 hdb
/-- a property of the class at C -/
structure Prp (P : Program) (w : World) (K : PySem.W.Frag) (mg : Str → Option Value) (base : Heap) (k : Nat) (C : Addr) (m : Str) (sp : Sp) : Prop where
  ex : ∃ (p f : Addr) (fd : FuncData) (ps : List Str), Cls K C ∧ PropOf K C m p f ∧ FnOk P w K mg base C8.CX0 k f fd ps sp ∧ Binds K fd ps []
theorem pe_pr {X : Cx} {k j : Nat} {C : Addr} {m : Str} {sp : Sp} {e : Expr} {ta : TE} {pos : Pos} (c : Prp X.prog X.w X.K X.mg X.base k C m sp) (hr : Room j X.A) (hk : k + 1 ≤ j) (he : PE X e ta) (hab : attributeBase e m X.env (eval e X.env) = eval e X.env := by rfl) :
    PE X (.Attribute e m pos) (tProp C sp [] C8.E0 ta) := by
  obtain ⟨p, f, fd, ps, hc, hp, F, b⟩ := c.ex
  exact pe_prop he hc hp F (hr.mono hk) b .nil C8.pass0 hab
end Lx

set_option maxRecDepth 100000
set_option maxHeartbeats 4000000
/-! sorted of pairs of texts -/
namespace SrT
open PySem PyProof.Rows SrtO
def IsTT (h : Heap) (v : Value) (x y : Str) : Prop := ∃ a o t u n, v = .ref a ∧ h.get? a = some o ∧ o.cls = .type "tuple" ∧ o.data = .seq #[.str x t, .str y u] n
theorem IsTT.keeps {h h' : Heap} {v : Value} {x y : Str} (p : IsTT h v x y) (k : ∀ b o, h.get? b = some o → o.cls = .type "tuple" → h'.get? b = some o) : IsTT h' v x y := by
  obtain ⟨a, o, t, u, n, e, ho, hc, hd⟩ := p
  exact ⟨a, o, t, u, n, e, k _ _ ho hc, hc, hd⟩
def lexT (p q : Str × Str) : Bool := if p.1 = q.1 then decide (p.2.cps.toList < q.2.cps.toList) else decide (p.1.cps.toList < q.1.cps.toList)
theorem str_of {a b : Str} (h : a.cps.toList = b.cps.toList) : a = b := TL.ext_tl h
theorem tri {a b : Str} (h1 : ¬ a.cps.toList < b.cps.toList) (h2 : ¬ b.cps.toList < a.cps.toList) : a = b :=
  str_of (List.le_antisymm (List.not_lt.mp h2) (List.not_lt.mp h1))
theorem lexT_no {p q : Str × Str} : lexT p q = false ↔ q.1.cps.toList < p.1.cps.toList ∨ (p.1 = q.1 ∧ ¬ p.2.cps.toList < q.2.cps.toList) := by
  unfold lexT
  by_cases e : p.1 = q.1
  · rw [if_pos e, decide_eq_false_iff_not]
    constructor
    · intro h; exact .inr ⟨e, h⟩
    · rintro (h | h)
      · rw [e] at h; exact absurd h (List.lt_irrefl _)
      · exact h.2
  · rw [if_neg e, decide_eq_false_iff_not]
    constructor
    · intro h
      by_cases c : q.1.cps.toList < p.1.cps.toList
      · exact .inl c
      · exact absurd (tri h c) e
    · rintro (h | h)
      · exact List.lt_asymm h
      · exact absurd h.1 e
theorem lexT_yes {p q : Str × Str} : lexT p q = true ↔ p.1.cps.toList < q.1.cps.toList ∨ (p.1 = q.1 ∧ p.2.cps.toList < q.2.cps.toList) := by
  unfold lexT
  by_cases e : p.1 = q.1
  · rw [if_pos e, decide_eq_true_eq]
    constructor
    · intro h; exact .inr ⟨e, h⟩
    · rintro (h | h)
      · rw [e] at h; exact absurd h (List.lt_irrefl _)
      · exact h.2
  · rw [if_neg e, decide_eq_true_eq]
    constructor
    · intro h; exact .inl h
    · rintro (h | h)
      · exact h
      · exact absurd h.1 e
theorem swo_T {α : Type} (k : α → Str × Str) : Swo fun v u => lexT (k v) (k u) := by
  refine ⟨fun x y h => ?_, fun x y z h1 h2 => ?_⟩
  · rcases lexT_yes.mp h with a | ⟨a, b⟩
    · exact lexT_no.mpr (.inl a)
    · exact lexT_no.mpr (.inr ⟨a.symm, List.lt_asymm b⟩)
  · refine lexT_no.mpr ?_
    rcases lexT_no.mp h1 with a | ⟨a, b⟩ <;> rcases lexT_no.mp h2 with c | ⟨c, d⟩
    · exact .inl (List.lt_trans a c)
    · rw [← c] at a; exact .inl a
    · rw [a] at c; exact .inl c
    · refine .inr ⟨c.trans a, fun hz => ?_⟩
      by_cases e : (k y).2.cps.toList < (k x).2.cps.toList
      · exact b e
      · by_cases g : (k z).2 = (k y).2
        · rw [g] at hz; exact b hz
        · by_cases i : (k y).2.cps.toList < (k z).2.cps.toList
          · exact b (List.lt_trans i hz)
          · exact g (tri d i)
section
variable {prog : Program} {w : World} {A : Around} {E : Value → Shared → Prop} {s : Shared}
theorem tt_cmp {vs : List Value} {k : Value → Str × Str} (hp : ∀ v ∈ vs, IsTT s.heap v (k v).1 (k v).2) : Cmp prog w A s (tuples' true) (fun p => p.1 ∈ vs) (lt2 fun v u => lexT (k v) (k u)) := by
  intro p q hm hm'
  have h1 := hp _ hm
  have h2 := hp _ hm'
  show wpAny (model prog w) A (keyLt' (tuples' true) p.1 q.1) (fun r s' => s' = s ∧ r = lexT (k p.1) (k q.1)) (fun _ _ => False) s
  unfold lexT
  generalize (k p.1).1 = x at h1 ⊢
  generalize (k p.1).2 = y at h1 ⊢
  generalize (k q.1).1 = x' at h2 ⊢
  generalize (k q.1).2 = y' at h2 ⊢
  obtain ⟨a, o, t, u, n, e, ho, hc, hd⟩ := h1
  obtain ⟨a', o', t', u', n', e', ho', hc', hd'⟩ := h2
  rw [e, e']
  refine PySem.W.kat_lt ho hd ho' hd' ?_
  show PySem.W.KatLex prog w A true (decide (2 < 2)) _ [(.str x t, .str x' t'), (.str y u, .str y' u')] 0 s
  refine PySem.W.kat_cons (SeqAt.EqAt.str_str x t x' t' prog w _ _ ?_)
  refine PySem.W.kat_go (fun e1 => ?_) (fun e1 => ?_)
  · have ex : x = x' := by simpa using e1
    refine PySem.W.kat_yes (PySem.W.kat_cons (SeqAt.EqAt.str_str y u y' u' prog w _ _ ?_))
    refine PySem.W.kat_go (fun e2 => ?_) (fun e2 => ?_)
    · have ey : y = y' := by simpa using e2
      have e3 : (if x = x' then decide (y.cps.toList < y'.cps.toList) else decide (x.cps.toList < x'.cps.toList)) = false := by
        rw [if_pos ex, ey]
        exact decide_eq_false (List.lt_irrefl _)
      exact PySem.W.kat_yes (PySem.W.kat_nil ⟨rfl, e3.symm⟩)
    · have e3 : (if x = x' then decide (y.cps.toList < y'.cps.toList) else decide (x.cps.toList < x'.cps.toList)) = decide (y.cps.toList < y'.cps.toList) := if_pos ex
      refine PySem.W.kat_no (PySem.W.kat_one _ _ (PyProof.Rows.lt_str ?_))
      exact (show s = s ∧ decide (y.cps.toList < y'.cps.toList) = (if x = x' then decide (y.cps.toList < y'.cps.toList) else decide (x.cps.toList < x'.cps.toList)) from ⟨rfl, e3.symm⟩)
  · have ex : ¬ x = x' := by simpa using e1
    have e3 : (if x = x' then decide (y.cps.toList < y'.cps.toList) else decide (x.cps.toList < x'.cps.toList)) = decide (x.cps.toList < x'.cps.toList) := if_neg ex
    exact PySem.W.kat_no (oneLt_str ⟨rfl, e3.symm⟩)
theorem firsts_T {h : Heap} : ∀ {vs : List Value}, (∀ v ∈ vs, ∃ x y, IsTT h v x y) → ∃ fs : List Value, PySem.W.KatTups h vs fs ∧ fs.length = vs.length ∧ ∀ f ∈ fs, ∃ x t, f = Value.str x t
  | [], _ => ⟨[], PySem.W.KatTups.nil, rfl, fun _ hm => by simp at hm⟩
  | v :: vs, hp => by
    obtain ⟨fs, h1, h2, h3⟩ := firsts_T (vs := vs) fun v' hm => hp v' (List.mem_cons_of_mem _ hm)
    obtain ⟨x, y, a, o, t, u, n, e, ho, hc, hd⟩ := hp v (List.mem_cons_self ..)
    subst e
    refine ⟨.str x t :: fs, PySem.W.KatTups.cons ho hc hd rfl h1, by rw [List.length_cons, List.length_cons, h2], fun f hm => ?_⟩
    rcases List.mem_cons.mp hm with rfl | hm
    · exact ⟨x, t, rfl⟩
    · exact h3 f hm
theorem tt_sortable {a : Addr} {vs : List Value} {k : Value → Str × Str} (h0 : 0 < vs.length) (hp : ∀ v ∈ vs, IsTT s.heap v (k v).1 (k v).2) (ha : ∀ o, s.heap.get? a = some o → o.cls ≠ .type "tuple") : SortableO prog w A s a vs fun v u => lexT (k v) (k u) := by
  intro h' keep
  have hp' : ∀ v ∈ vs, IsTT h' v (k v).1 (k v).2 := fun v hm => (hp v hm).keeps fun b o e c => keep b o (fun z => by subst z; exact ha o e c) e
  obtain ⟨fs, h1, h2, h3⟩ := firsts_T fun v hm => ⟨_, _, hp' v hm⟩
  refine ⟨tuples' true, fun Q E hq => ?_, tt_cmp hp'⟩
  refine PySem.W.kat_kind (T := .type "str") h1 (by omega) (fun f hm => ?_) (by rfl) ?_
  · obtain ⟨x, t, rfl⟩ := h3 f hm
    exact PySem.W.Looks.now
  · have e : (Value.type "str" != Value.type "tuple") = true := by first | decide +kernel | rfl | decide
    rw [e]
    exact hq
theorem collect_tup {l : Addr} {vs : List Value} {Q : List Value → Shared → Prop} (hl : s.heap.IsTuple l vs.toArray)
    (h : Q vs { s with heap := (s.heap.push (seqObj "list" #[] 0)).update s.heap.objs.size (Obj.mapSeq (· ++ vs.toArray)) }) (hsz : vs.length ≤ sizeLine) :
    wpAny (model prog w) A (collect (.ref l)) Q E s := by
  obtain ⟨o, ho, hc, n, hd⟩ := id hl
  unfold collect
  refine wpAny_bind (wpAny_runValue (codeAny_builtin entry_proto_collect' ?_))
  show wpAny _ _ (do again (.builtin "list.__iadd__" ⟨[← newList [], .ref l], []⟩)) _ _ s
  refine wpAny_bind (wpAny_newList (wpAny_pure ⟨Code.quiet_builtin _ (by decide +kernel), codeAny_builtin entry_list_iadd' ?_⟩))
  show wpAny _ _ (Builtin.List.listExtendWith (.ref s.heap.objs.size) (.ref l) (.ref s.heap.objs.size)) _ _ { s with heap := s.heap.push (seqObj "list" #[] 0) }
  unfold Builtin.List.listExtendWith
  have ho' : (s.heap.push (seqObj "list" #[] 0)).get? l = some o := Heap.get?_push_of_some _ ho
  refine wpAny_bind (wpAny_typeOf (T := "tuple") ⟨o, ho', hc⟩ ?_)
  have ht : (Value.type "tuple" == Value.type "tuple") = true := by rfl
  rw [if_pos (by rw [ht]; simp)]
  refine wpAny_bind (listItems_at ho' hd ?_)
  refine wpAny_bind (listItems_at (xs := #[]) (n := 0) (Heap.get?_push_size _ rfl) rfl ?_)
  rw [if_neg (by simp)]
  refine wpAny_bind (listUpdate_at (xs := #[]) (n := 0) (Heap.get?_push_size _ rfl) rfl ?_ (Nat.zero_le _) (by show (#[] ++ vs.toArray).size ≤ sizeLine + 1; simp only [Array.size_append, List.size_toArray, List.length_nil]; omega))
  refine wpAny_pure ?_
  show wpAny (model prog w) A (do
      let o ← load s.heap.objs.size
      match o.data with
      | .seq xs _ => pure xs.toList
      | _ => unsupported "internal:collect") Q E { s with heap := (s.heap.push (seqObj "list" #[] 0)).update s.heap.objs.size (Obj.mapSeq (· ++ vs.toArray)) }
  refine wpAny_bind (wpAny_load (get?_update_seq (Heap.get?_push_size _ rfl) _) ?_)
  show wpAny _ _ (pure ((#[] : Array Value) ++ vs.toArray).toList) Q E _
  rw [show ((#[] : Array Value) ++ vs.toArray).toList = vs by simp]
  exact wpAny_pure h
/-- sorted(x) of what is collected -/
theorem sorted_col {x : Value} {vs : List Value} {ltv : Value → Value → Bool} {Q : Value → Shared → Prop} (O : Swo ltv)
    (hcol : ∀ (A : Around) (E : Value → Shared → Prop) (Q : List Value → Shared → Prop), Q vs { s with heap := (s.heap.push (seqObj "list" #[] 0)).update s.heap.objs.size (Obj.mapSeq (· ++ vs.toArray)) } → wpAny (model prog w) A (collect x) Q E s) (hz : vs.length ≤ sizeLine)
    (hS : 2 ≤ vs.length → ∀ (h₁ : Heap) (a : Addr), h₁.get? a = some (seqObj "list" vs.toArray 0) → (∀ b o, s.heap.get? b = some o → b ≠ a ∧ h₁.get? b = some o) → SortableO prog w A.in1.in1 { s with heap := h₁ } a vs ltv)
    (h : ∀ out : List Value, Srtd ltv out → Stb ltv out vs → Q (.ref (s.heap.objs.size + 1)) { s with heap := sortedAll s.heap vs out.toArray }) :
    wpAny (model prog w) A (call (.builtin "sorted") [x]) Q E s := by
  refine Calls.call_function_entry kind_sorted plain_sorted entry_sorted (args_sorted1 _) ?_
  unfold Builtin.«sorted»
  refine wpAny_bind (m := checkCount "sorted" 1 1 _) (wpAny_pure ?_)
  refine wpAny_bind (hcol _ _ _ ?_)
  refine wpAny_bind (wpAny_newList ?_ hz)
  have hsz : ((s.heap.push (seqObj "list" #[] 0)).update s.heap.objs.size (Obj.mapSeq (· ++ vs.toArray))).objs.size = s.heap.objs.size + 1 := by
    rw [Heap.size_update, size_push']
  have hoL : (((s.heap.push (seqObj "list" #[] 0)).update s.heap.objs.size (Obj.mapSeq (· ++ vs.toArray))).push (seqObj "list" vs.toArray 0)).get? (s.heap.objs.size + 1) = some (seqObj "list" vs.toArray 0) := by
    rw [← hsz]; exact Heap.get?_push_size _ rfl
  have keep : ∀ b o, s.heap.get? b = some o → b ≠ s.heap.objs.size + 1 ∧ (((s.heap.push (seqObj "list" #[] 0)).update s.heap.objs.size (Obj.mapSeq (· ++ vs.toArray))).push (seqObj "list" vs.toArray 0)).get? b = some o := fun b o q => by
    have hlt : b < s.heap.objs.size := Heap.lt_size q
    refine ⟨Nat.ne_of_lt (Nat.lt_succ_of_lt hlt), Heap.get?_push_of_some _ ?_⟩
    rw [Heap.get?_update_ne _ _ _ _ (Nat.ne_of_lt hlt)]
    exact Heap.get?_push_of_some _ q
  show wpAny _ _ _ _ _ { s with heap := ((s.heap.push (seqObj "list" #[] 0)).update s.heap.objs.size (Obj.mapSeq (· ++ vs.toArray))).push (seqObj "list" vs.toArray 0) }
  rw [hsz]
  refine wpAny_bind (wpAny_holding (wpAny_call_entry slot_list_sort ⟨_, hoL, rfl⟩ entry_list_sort (list_sort_ord O hoL hz (fun h2 => hS h2 _ _ hoL keep) fun out hs hb => ⟨_, rfl, ?_⟩) (args_list_sort _)))
  exact wpAny_pure ⟨_, rfl, h out hs hb⟩
end
end SrT
namespace Lx
open PySem PySem.Spec PyProof.Rows L2
/-- sorted(xs), xs a list or a tuple of pairs of texts -/
def rSortedT (K : PySem.W.Frag) : List V → Hp → VK → Prop := fun vs H Q => ∃ (a : Addr) (ps : List Addr) (k : Addr → Str × Str), vs = [V.ref a] ∧ (SqL K H a (ps.map V.ref) ∨ SqT K H a (ps.map V.ref)) ∧ (∀ t ∈ ps, H t = some (.tup [.str (k t).1, .str (k t).2])) ∧
  ∀ (qs : List Addr) p, SrtO.Srtd (fun x y => SrT.lexT (k x) (k y)) qs → qs.Perm ps → H p = none → Q (.ref p) (upd H p (.lst (qs.map V.ref)))
section
variable {X : Cx}
theorem cr_sortedT : CallR X (.builtin "sorted") (rSortedT X.K) := by
  intro pins s σ H vs us Q I r h
  obtain ⟨a, ps, k, rfl, hs, hx, q⟩ := h
  obtain ⟨u, rfl, ru⟩ := vals1 r
  obtain rfl : u = Value.ref a := ru
  have com : ∀ its : List Value, Vals (ps.map V.ref) its → its.length ≤ sizeLine → (∀ (A : Around) (E : Value → Shared → Prop) (Q : List Value → Shared → Prop), Q its { s with heap := (s.heap.push (seqObj "list" #[] 0)).update s.heap.objs.size (Obj.mapSeq (· ++ its.toArray)) } → wpAny (model X.prog X.w) A (collect (.ref a)) Q E s) →
      wpAny (model X.prog X.w) X.A (call (.builtin "sorted") [Value.ref a]) (EP X pins σ Q) X.xe s := by
    intro its rv hz hcol
    have ei : its = ps.map Value.ref := by
      clear hcol hz hx q hs
      induction ps generalizing its with
      | nil => cases rv; rfl
      | cons x l ih =>
        cases rv with
        | cons h1 h2 =>
          rw [List.map_cons, ← ih _ h2]
          congr 1
    subst ei
    have hp : ∀ v ∈ ps.map Value.ref, SrT.IsTT s.heap v (match v with | .ref t => k t | _ => ("", "")).1 (match v with | .ref t => k t | _ => ("", "")).2 := by
      intro v hv
      obtain ⟨t, ht, rfl⟩ := List.mem_map.mp hv
      obtain ⟨_, its2, r2, o, ho, hc, n, hd⟩ := I.hok _ _ (hx t ht)
      obtain ⟨u1, u2, rfl, ri, rj⟩ := vals2 r2
      obtain ⟨t1, rfl⟩ := ri
      obtain ⟨t2, rfl⟩ := rj
      exact ⟨t, o, t1, t2, n, rfl, ho, hc, hd⟩
    refine SrT.sorted_col (SrT.swo_T fun v : Value => match v with | .ref t => k t | _ => ("", "")) hcol hz (fun h2 h₁ b hb kk => ?_) fun out h1 h2 => ?_
    · refine SrT.tt_sortable (s := { s with heap := h₁ }) (by omega) (fun v hm => (hp v hm).keeps fun b o e _ => (kk b o e).2) fun o e => ?_
      have e' : some o = some (seqObj "list" (ps.map Value.ref).toArray 0) := e.symm.trans hb
      cases e'
      intro c
      exact absurd (Value.type.inj c) (by decide)
    · obtain ⟨qs, rfl⟩ : ∃ qs : List Addr, out = qs.map Value.ref := by
        have hm : ∀ v ∈ out, ∃ t, v = Value.ref t := fun v hv => by
          obtain ⟨t, _, e⟩ := List.mem_map.mp (h2.perm.mem_iff.mp hv)
          exact ⟨t, e.symm⟩
        clear h1 h2
        induction out with
        | nil => exact ⟨[], rfl⟩
        | cons v r ih =>
          obtain ⟨t, rfl⟩ := hm v List.mem_cons_self
          obtain ⟨qs, rfl⟩ := ih fun v hv => hm v (List.mem_cons_of_mem _ hv)
          exact ⟨t :: qs, rfl⟩
      have perm : qs.Perm ps := by
        have h3 := h2.perm.map (fun v : Value => match v with | .ref t => t | _ => 0)
        rw [List.map_map, List.map_map] at h3
        have ef : ((fun v : Value => match v with | .ref t => t | _ => 0) ∘ Value.ref) = id := by funext t; rfl
        rw [ef, List.map_id, List.map_id] at h3
        exact h3
      have srt : SrtO.Srtd (fun x y => SrT.lexT (k x) (k y)) qs := List.pairwise_map.mp h1
      obtain ⟨n, hn⟩ := PyProof.Rows.sortedAll_at s.heap (ps.map Value.ref) (qs.map Value.ref).toArray
      have hd : s.heap.objs.size ≤ s.heap.objs.size + 1 := Nat.le_succ _
      have rq : Vals (qs.map V.ref) (qs.map Value.ref) := by
        clear h1 h2 perm srt hn
        induction qs with
        | nil => exact .nil
        | cons x l ih => exact .cons rfl ih
      refine ⟨.ref (s.heap.objs.size + 1), upd H (s.heap.objs.size + 1) (.lst (qs.map V.ref)), I.laid (t' := s.toks) (fun b o e => PyProof.Rows.sortedAll_old e) hd ⟨?_, _, n, rq, hn⟩, rfl, q qs _ srt perm (I.hok.fresh hd)⟩
      rw [List.length_map, perm.length_eq, ← List.length_map (f := Value.ref)]
      exact hz
  rcases hs with hs | hs
  · obtain ⟨its, rv, hl, hz⟩ := I.list hs
    exact com its rv (by rw [← rv.length]; exact hz) fun A E Q h => collect_list hl.isList h (by rw [← rv.length]; exact hz)
  · obtain ⟨its, rv, hl, hz⟩ := I.tuple hs
    exact com its rv (by rw [← rv.length]; exact hz) fun A E Q h => SrT.collect_tup (show s.heap.IsTuple a its.toArray from hl) h (by rw [← rv.length]; exact hz)
/-- a list or a tuple, walked -/
def iSeq (K : PySem.W.Frag) (tl : TE) : TI := fun σ H R => iList K tl σ H R ∨ iTup K tl σ H R
theorem pi_seq {tg l : Expr} {tl : TE} (hl : PE X l tl) : PI X tg l (iSeq X.K tl) := by
  refine ⟨fun pins s σ H R I h => ?_⟩
  rcases h with h | h
  · exact (pi_list hl).run pins s σ H R I h
  · exact (pi_tup hl).run pins s σ H R I h
theorem ty_list {K : PySem.W.Frag} {H : Hp} {a : Addr} {xs : List V} (h : SqL K H a xs) : TyX K H (.ref a) (.type "list") := by
  rcases h with (h | ⟨o, h⟩) | ⟨o, its, n, hk, hc, _⟩
  · exact .base (.lst h)
  · exact .base (.frz h)
  · exact .kList hk hc
theorem ty_tup {K : PySem.W.Frag} {H : Hp} {a : Addr} {xs : List V} (h : SqT K H a xs) : TyX K H (.ref a) (.type "tuple") := by
  rcases h with (h | ⟨o, h⟩) | ⟨o, its, n, hk, hc, _⟩
  · exact .base (.tup h)
  · exact .fTuple h
  · exact .kTuple hk hc
theorem same_tup {K : PySem.W.Frag} {H H' : Hp} {a : Addr} {xs : List V} (e : Same H H') (h : SqT K H a xs) : SqT K H' a xs := by
  rcases h with (h | ⟨o, h⟩) | h
  · exact .inl (.inl (e _ _ h))
  · exact .inl (.inr ⟨o, e _ _ h⟩)
  · exact .inr h
/-- a list or a tuple -/
def Sq (K : PySem.W.Frag) (H : Hp) (a : Addr) (xs : List V) : Prop := SqL K H a xs ∨ SqT K H a xs
theorem Sq.same {K : PySem.W.Frag} {H H' : Hp} {a : Addr} {xs : List V} (h : Sq K H a xs) (e : Same H H') : Sq K H' a xs := h.elim (fun h => .inl (e.seq h)) (fun h => .inr (same_tup e h))
end
end Lx

set_option maxRecDepth 100000
set_option maxHeartbeats 4000000
namespace Lx
open PySem PySem.Spec PyProof.Rows L2
section
variable {X : Cx} {k j : Nat} {C : Addr} {sp : Sp}
/-- a def run from a deeper place of the same frame -/
theorem run_sub {CX : CXT} {f : Addr} {fd : FuncData} {ps : List Str} {A : Around} {pins : List (Addr × Obj)} {σ : L2.St} {H : Hp} {s : Shared} {Q : VK} {E : XK} {us : List Value} {vs : List V} (F : FnOk X.prog X.w X.K X.mg X.base CX k f fd ps sp) (sb : Sub X k A) (hb : Binds X.K fd ps [])
    (hx : Passes CX X E) (I : Inv X pins σ H s) (r : Vals vs us) (h : sp vs H Q E) : wpAny (model X.prog X.w) A (call (.ref f) us) (EP X pins σ Q) X.xe s := by
  have e0 : Env0 X.prog X.w X.K X.mg X.base A X.stack s H := by
    have e := I.env0
    exact ⟨by rw [sb.fr]; exact e.frames, e.mod, e.bs, e.bsz, e.funs, e.frf, e.hok, e.bare⟩
  have hl : (us ++ []).length = ps.length := by rw [List.append_nil, ← r.length]; exact F.len _ _ _ _ h
  refine wpAny_call (codeAny_mono (F.run A X.stack s H ⟨us, []⟩ us vs Q E sb.room e0 (by have := hb s us I.kIn hl; simpa using this) r h) fun r s' hq => ?_)
  cases r with
  | error e => exact hx pins σ H s e s' I hq
  | ok fl =>
    cases fl with
    | ret w => exact I.after hq
    | next => exact False.elim hq
    | brk => exact False.elim hq
    | cont => exact False.elim hq
theorem vals_nil {ds : List Value} (h : Vals [] ds) : ds = [] := by cases h; rfl
theorem sub_in2 {A : Around} (hr : Room j A) (hk : k + 2 ≤ j) (hf : A.frames = X.A.frames) : Sub X k A.in1.in1 := by
  have s : Sub X (k + 2) A := ⟨hr.mono hk, hf⟩
  exact s.in1.in1
/-- str(o) by the text's own __str__ -/
def rStrO (C : Addr) (sp : Sp) : List V → Hp → VK → Prop := fun xs H Q => ∃ a dx fs, xs = [.ref a] ∧ H a = some (.ins C dx fs) ∧ sp [.ref a] H (fun v H' => ∃ z, v = .str z ∧ Q (.str z) H') C8.E0
theorem call_str_own (c : C8.Met X.prog X.w X.K X.mg X.base k C "__str__" sp []) (hr : Room j X.A) (hk : k + 2 ≤ j) : CallR X (.type "str") (rStrO C sp) := by
  intro pins s σ H xs us Q I rv h
  obtain ⟨a, dx, fs, rfl, ha, hsp⟩ := h
  obtain ⟨f, fd, ps, ds, _, me, F, b, d⟩ := c.ex
  obtain rfl := vals_nil d
  cases rv with
  | cons r rr =>
    cases rr
    cases r
    obtain ⟨mA, J, _⟩ := ins_get I.hok ha
    obtain ⟨od, J, _⟩ := J.look
    have sb : Sub X k X.A.in1.in1 := sub_in2 hr hk rfl
    refine PySem.W.kso_call sb.room.units0 I.kIn J me.at_ me.fn (wpAny_mono (run_sub (vs := [.ref a]) F sb b C8.pass0 I (.cons rfl .nil) hsp) (fun u s' q => ?_) fun _ _ x => x)
    obtain ⟨v, H', I', ru, z, ez, q⟩ := q
    subst ez
    obtain ⟨t, rfl⟩ := ru
    exact ⟨.str z, H', I', ⟨t, rfl⟩, q⟩
/-- len(o) by the text's own __len__ -/
def rLenO (C : Addr) (sp : Sp) : List V → Hp → VK → Prop := fun xs H Q => ∃ a dx fs, xs = [.ref a] ∧ H a = some (.ins C dx fs) ∧ sp [.ref a] H (fun v H' => ∃ n : Int, v = .int n ∧ 0 ≤ n ∧ n < 2 ^ 63 ∧ Q (.int n) H') C8.E0
theorem call_len_own (c : C8.Met X.prog X.w X.K X.mg X.base k C "__len__" sp []) (hr : Room j X.A) (hk : k + 2 ≤ j) : CallR X (.builtin "len") (rLenO C sp) := by
  intro pins s σ H xs us Q I rv h
  obtain ⟨a, dx, fs, rfl, ha, hsp⟩ := h
  obtain ⟨f, fd, ps, ds, _, me, F, b, d⟩ := c.ex
  obtain rfl := vals_nil d
  cases rv with
  | cons r rr =>
    cases rr
    cases r
    obtain ⟨mA, J, _⟩ := ins_get I.hok ha
    obtain ⟨od, J, _⟩ := J.look
    have sb : Sub X k X.A.in1 := (show Sub X (k + 1) X.A from ⟨hr.mono (by omega), rfl⟩).in1
    obtain ⟨m, hF⟩ := I.fr
    refine PySem.W.len_K hF I.ok.mod.kin J me.at_ me.fn (wpAny_mono (run_sub (vs := [.ref a]) F sb b C8.pass0 I (.cons rfl .nil) hsp) (fun u s' q => ?_) fun _ _ x => x)
    obtain ⟨v, H', I', ru, z, ez, h0, h1, q⟩ := q
    subst ez
    obtain ⟨t, rfl⟩ := ru
    exact ⟨⟨h0, h1⟩, .int z, H', I'.tok _, ⟨_, rfl⟩, q⟩
/-- o == p, both of the class at C, by the text's own __eq__ -/
def rEqO (C : Addr) (sp : Sp) : R2 := fun x y H Q => ∃ a b dx dy fs gs, x = .ref a ∧ y = .ref b ∧ H a = some (.ins C dx fs) ∧ H b = some (.ins C dy gs) ∧ sp [.ref a, .ref b] H (fun v H' => ∃ t : Bool, v = .bl t ∧ Q (.bl t) H') C8.E0
theorem op_eqOwn (c : C8.Met X.prog X.w X.K X.mg X.base k C "__eq__" sp []) (hr : Room j X.A) (hk : k ≤ j) : OpR X (compareOp .Eq) (rEqO C sp) := by
  intro pins s σ H x y v u Q I rx ry h
  obtain ⟨a, b, dx, dy, fs, gs, rfl, rfl, ha, hb, hsp⟩ := h
  obtain ⟨f, fd, ps, ds, _, me, F, bn, d⟩ := c.ex
  obtain rfl := vals_nil d
  cases rx
  cases ry
  obtain ⟨mA, J, _⟩ := ins_get I.hok ha
  obtain ⟨mB, J', _⟩ := ins_get I.hok hb
  obtain ⟨od, J, _⟩ := J.look
  obtain ⟨od', J', _⟩ := J'.look
  obtain ⟨m, hF⟩ := I.fr
  have sb : Sub X k X.A := ⟨hr.mono hk, rfl⟩
  show wpAny (model X.prog X.w) X.A (richCompare .Eq (.ref a) (.ref b)) (EP X pins σ Q) X.xe s
  refine PySem.W.cmp_K (op := .Eq) (tb := .ref C) sb.room.units0 hF I.ok.mod.kin J J'.type (by simp [PySem.W.notFirst]) me.at_ me.fn ?_
  refine wpAny_mono (run_sub (vs := [.ref a, .ref b]) F sb bn C8.pass0 I (.cons rfl (.cons rfl .nil)) hsp) (fun u s' q => ?_) fun _ _ x => x
  obtain ⟨v, H', I', ru, t, ez, q⟩ := q
  subst ez
  cases (show u = Value.bool t from ru)
  exact ⟨.bl t, H', I', rfl, q⟩
end
/-- what of the text != wants -/
structure NeT (K : PySem.W.Frag) (C : Addr) : Prop where
  mro : PySem.W.mroIn K C (.type "object") = some true
  ne : PySem.W.findIn K (.ref C) "__ne__" = some (some (.builtin "object.__ne__"))
section
open PySem.W
variable {M : Model} {prog : Program} {w : World} {A : Around} {E : Value → Shared → Prop} {s : Shared} {K : PySem.W.Frag} {x C f : Addr} {ox : Obj} {od : Option Obj} {b tb : Value}
theorem ifBound_bltn {name : Str} {id : String} {args : List Value} {Q : Option Value → Shared → Prop} (X : K.In s.heap) (I : PySem.W.InstAt s.heap x ox C od) (hs : PySem.W.findIn K (.ref C) name = some (some (.builtin id)))
    (hb : ∀ self, bindSpecial (.builtin id) self = pure (.builtin id, [self])) (h : wpAny M A (call (.builtin id) (.ref x :: args)) (fun v => Q (some v)) E s) : wpAny M A (callSpecialIfBound? (.ref x) name args) Q E s := by
  simp only [callSpecialIfBound?, bindSpecialIfBound?]
  refine wpAny_holding (wpAny_bind (wpAny_bind (wpAny_bind (I.type.here ((PySem.W.looks_findIn X hs).here ?_)))))
  refine wpAny_bind (wpAny_askSetting (wpAny_ite ?_))
  have fin : wpAny M A (call (.builtin id) ([.ref x] ++ args) >>= fun v => pure (some v)) Q E s := wpAny_bind (wpAny_mono h (fun v s' h' => wpAny_pure h') fun _ _ h' => h')
  split
  · exact wpAny_bind (wpAny_of_eq (hb _) (wpAny_pure (by exact fin)))
  · exact wpAny_tryCatch (wpAny_bind (wpAny_of_eq (hb _) (wpAny_pure (by exact fin))))
theorem ne_tree {Q : Fin → Shared → Prop} (hu : A.units < cLine) (X : K.In s.heap) (I : PySem.W.InstAt s.heap x ox C od) (he : PySem.W.findIn K (.ref C) "__eq__" = some (some (.ref f))) (hf : PySem.W.isFn K (.ref f) = true)
    (h : wpAny M A (call (.ref f) [.ref x, b]) (fun v s' => ∃ t : Bool, v = .bool t ∧ Q (.done (.ret (.bool (!t)))) s') E s) : wpAny M A (Builtin.«object.__ne__» ⟨[.ref x, b], []⟩) Q E s := by
  unfold Builtin.«object.__ne__»
  refine wpAny_bind (m := slotArgs "__ne__" 1 _) (wpAny_pure ?_)
  refine wpAny_bind (m := cRoomFor _ _) (wpAny_cRoomFor hu ?_)
  refine wpAny_bind (m := callSpecialIfBound? (.ref x) (Str.ofString "__eq__") _) (ifBound_K X I he hf (wpAny_mono h (fun r s' hr => ?_) fun _ _ y => y))
  obtain ⟨t, rfl, q⟩ := hr
  exact wpAny_bind (wpAny_truthy_bool (wpAny_pure q))
theorem cmp_neK {Q : Value → Shared → Prop} (hu : A.units < cLine) (hu1 : A.in1.units < cLine) (X : K.In s.heap) (I : PySem.W.InstAt s.heap x ox C od) (hb : Looks (model prog w) s.heap (typeOf b) tb) (hn : PySem.W.notFirst K C tb = true) (N : NeT K C)
    (he : PySem.W.findIn K (.ref C) "__eq__" = some (some (.ref f))) (hf : PySem.W.isFn K (.ref f) = true)
    (h : wpAny (model prog w) A.in1 (call (.ref f) [.ref x, b]) (fun v s' => ∃ t : Bool, v = .bool t ∧ Q (.bool (!t)) s') E s) : wpAny (model prog w) A (richCompare .NotEq (.ref x) b) Q E s := by
  have one : wpAny (model prog w) A (tryCompare (.ref x) (cmpInfo .NotEq).2.1 b) (fun r s' => ∃ v, r = some v ∧ Q v s') E s := by
    unfold tryCompare
    refine wpAny_bind (ifBound_bltn X I N.ne F.cmp_object.ne.bind ?_)
    refine wpAny_call (codeAny_call_builtin F.cmp_object.ne.plain F.cmpEntry_ne (PySem.W.check_slot F.cmpKind_ne F.cmpSplit_ne (I.type.andThen (PySem.W.looks_mroIn X N.mro)) (F.cmpArgs_ne _ _) (ne_tree hu1 X I he hf (wpAny_mono h (fun v s' hv => ?_) fun _ _ e => e))))
    obtain ⟨t, rfl, q⟩ := hv
    exact ⟨t, rfl, wpAny_pure ⟨_, rfl, q⟩⟩
  unfold richCompare
  simp only [oneThing_ref]
  refine wpAny_holding (wpAny_bind (wpAny_cRoomFor hu ?_))
  refine wpAny_bind (I.type.here (wpAny_bind (hb.here ?_)))
  split
  · rename_i q
    have e : subIn K tb (.ref C) = some false := by
      rcases Bool.or_eq_true_iff.mp hn with e | e
      · rw [beq_iff_eq.mp e] at q; simp at q
      · exact beq_iff_eq.mp e
    refine wpAny_bind ((looks_subIn X e).here ?_)
    simp only [Bool.false_eq_true, if_false]
    refine wpAny_bind (wpAny_mono one (fun r s' z => ?_) fun _ _ e => e)
    obtain ⟨v, rfl, hq⟩ := z
    exact wpAny_pure hq
  · refine wpAny_bind (wpAny_pure ?_)
    simp only [Bool.false_eq_true, if_false]
    refine wpAny_bind (wpAny_mono one (fun r s' z => ?_) fun _ _ e => e)
    obtain ⟨v, rfl, hq⟩ := z
    exact wpAny_pure hq
end
section
variable {X : Cx} {k j i : Nat} {C : Addr} {sp : Sp} {x y : Str} {dvs : List V} {p pos : Pos} {e : Expr} {es : List Expr} {t : TA}
/-- o != p -/
def rNeO (C : Addr) (sp : Sp) : R2 := fun x y H Q => ∃ a b dx dy fs gs, x = .ref a ∧ y = .ref b ∧ H a = some (.ins C dx fs) ∧ H b = some (.ins C dy gs) ∧ sp [.ref a, .ref b] H (fun v H' => ∃ t : Bool, v = .bl t ∧ Q (.bl (!t)) H') C8.E0
theorem op_neOwn (c : C8.Met X.prog X.w X.K X.mg X.base k C "__eq__" sp []) (N : NeT X.K C) (hr : Room j X.A) (hk : k + 1 ≤ j) : OpR X (compareOp .NotEq) (rNeO C sp) := by
  intro pins s σ H x y v u Q I rx ry h
  obtain ⟨a, b, dx, dy, fs, gs, rfl, rfl, ha, hb, hsp⟩ := h
  obtain ⟨f, fd, ps, ds, _, me, F, bn, d⟩ := c.ex
  obtain rfl := vals_nil d
  cases rx
  cases ry
  obtain ⟨mA, J, _⟩ := ins_get I.hok ha
  obtain ⟨mB, J', _⟩ := ins_get I.hok hb
  obtain ⟨od, J, _⟩ := J.look
  obtain ⟨od', J', _⟩ := J'.look
  have sb1 : Sub X (k + 1) X.A := ⟨hr.mono hk, rfl⟩
  have sb := sb1.in1
  show wpAny (model X.prog X.w) X.A (richCompare .NotEq (.ref a) (.ref b)) (EP X pins σ Q) X.xe s
  refine cmp_neK (tb := .ref C) sb1.room.units0 sb.room.units0 I.kIn J J'.type (by simp [PySem.W.notFirst]) N me.at_ me.fn ?_
  refine wpAny_mono (run_sub (vs := [.ref a, .ref b]) F sb bn C8.pass0 I (.cons rfl (.cons rfl .nil)) hsp) (fun u s' q => ?_) fun _ _ x => x
  obtain ⟨v, H', I', ru, t, ez, q⟩ := q
  subst ez
  cases (show u = Value.bool t from ru)
  exact ⟨t, rfl, .bl (!t), H', I', rfl, q⟩
/-- the class in the i-th slot is made -/
def tMakeL (i : Nat) (C : Addr) (sp : Sp) (dvs : List V) (t : TA) : TE := fun σ H Q => σ[i]? = some (some (.ref C)) ∧ tMake C sp dvs C8.E0 t σ H Q
theorem pe_mkL (i : Nat) (c : C8.Mak X.prog X.w X.K X.mg X.base k y C sp dvs) (hr : Room j X.A) (hk : k + 1 ≤ j) (ha : PA X (e :: es) t) (hN : X.N[i]? = some x := by rfl) (hv : Vis X.env.scope x := by first | exact Or.inl rfl | exact Or.inr (Or.inl rfl) | exact Or.inr (Or.inr rfl))
    (hdb : (x == ("__debug__" : Str)) = false := by decide) (hcd : (x == ("__classdict__" : Str)) = false := by decide)
    (he : starEach (e :: es) X.env = (false, eval e X.env) :: starEach es X.env := by rfl) (hpl : (backTo pos (starEach es X.env)).any (·.1) = false := by rfl) : PE X (.Call (.Name x p) (e :: es) [] pos) (tMakeL i C sp dvs t) := by
  obtain ⟨f, fd, ps, ds, M, F, hm, b, d⟩ := c.ex
  refine ⟨fun pins s σ H Q I h => ?_⟩
  obtain ⟨hs, ht⟩ := h
  refine wpAny_Call_Name_kw (thn ((pe_var (pos := p) hN hv hdb hcd).run pins s σ H (fun v H1 => v = .ref C ∧ H1 = H) I ⟨.ref C, hs, rfl, rfl⟩) fun u s1 ⟨v, H1, I1, r1, q1⟩ => ?_)
  obtain ⟨rfl, rfl⟩ := q1
  cases r1
  refine PySem.W.callWith_K (h₀ := X.base) I.ok.mod.kin M.kp (thn (ha.run pos pins s1 σ _ _ I1 ht) fun us s2 ⟨vs, H2, I2, r, q⟩ => ⟨I2.kIn, ?_⟩) he hpl
  exact run_make M F (hr.mono hk) b d C8.pass0 I2 r q
theorem pe_mkL0 (i : Nat) (c : C8.Mak X.prog X.w X.K X.mg X.base k y C sp dvs) (hr : Room j X.A) (hk : k + 1 ≤ j) (hN : X.N[i]? = some x := by rfl) (hv : Vis X.env.scope x := by first | exact Or.inl rfl | exact Or.inr (Or.inl rfl) | exact Or.inr (Or.inr rfl))
    (hdb : (x == ("__debug__" : Str)) = false := by decide) (hcd : (x == ("__classdict__" : Str)) = false := by decide) : PE X (.Call (.Name x p) [] [] pos) (tMakeL i C sp dvs tNil) := by
  obtain ⟨f, fd, ps, ds, M, F, hm, b, d⟩ := c.ex
  refine ⟨fun pins s σ H Q I h => ?_⟩
  obtain ⟨hs, ht⟩ := h
  refine wpAny_Call_Name_kw (thn ((pe_var (pos := p) hN hv hdb hcd).run pins s σ H (fun v H1 => v = .ref C ∧ H1 = H) I ⟨.ref C, hs, rfl, rfl⟩) fun u s1 ⟨v, H1, I1, r1, q1⟩ => ?_)
  obtain ⟨rfl, rfl⟩ := q1
  cases r1
  exact PySem.W.callWith_K0 I1.kIn M.kp (run_make (us := []) M F (hr.mono hk) b d C8.pass0 I1 .nil ht)
/-- a classmethod of the class at C, C the module's name x -/
structure CMt (P : Program) (w : World) (K : PySem.W.Frag) (mg : Str → Option Value) (base : Heap) (k : Nat) (x : Str) (C : Addr) (m : Str) (sp : Sp) : Prop where
  ex : ∃ (mc : Value) (p g : Addr) (fd : FuncData) (ps : List Str), mg x = some (.ref C) ∧ ClX.CRead K C mc ∧ ClX.CMet K C mc m p g ∧ FnOk P w K mg base C8.CX0 k g fd ps sp ∧ Binds K fd ps []
theorem pe_cm {m : Str} {apos : Pos} {pl : Sem Bool} (c : CMt X.prog X.w X.K X.mg X.base k x C m sp) (hr : Room j X.A) (hk : k ≤ j) (hg : Gl X x) (ha : PA X (e :: es) t) (hdb : (x == ("__debug__" : Str)) = false := by decide)
    (hst : starEach (e :: es) X.env = (false, eval e X.env) :: starEach es X.env := by rfl) (hpl : (backTo pos (starEach es X.env)).any (·.1) = false := by rfl)
    (ht : eval (.Call (.Attribute (.Name x p) m apos) (e :: es) [] pos) X.env = (do
      let ov ← eval (.Name x p) X.env
      standAt apos.atName
      let (f, first) ← holding [ov] (getMethod ov m pl)
      callWith pos f first (backTo pos (starEach (e :: es) X.env)) (backToKw pos (keywordEach [] X.env))) := by rfl) :
    PE X (.Call (.Attribute (.Name x p) m apos) (e :: es) [] pos) (ClX.tCMeth C sp C8.E0 (tC (.ref C)) t) := by
  obtain ⟨mc, q, g, fd, ps, hm, r, cm, F, b⟩ := c.ex
  exact ClX.pe_cmeth (pe_glob (v := .ref C) hg hm rfl hdb) r cm (F.raw b .nil |>.imp fun vs H Q E h => by rw [List.append_nil]; exact h) (hr.mono hk) C8.pass0 ha hst hpl ht
end
/-- what isinstance wants of a class -/
structure IsT (K : PySem.W.Frag) (C : Addr) : Prop where
  cl : Cls K C
  ha : PySem.W.findIn K (.ref C) "__class__" = some (some (.builtin "object.__class__"))
  hn : PySem.W.specialIn K (.builtin "object.__class__") "__get__" = some (some (.builtin "getset_descriptor.__get__"))
  ht : PySem.W.takesIn K (.builtin "object.__class__") = some true
  hm : PySem.W.mroIn K C (.type "object") = some true
theorem IsT.ty {K : PySem.W.Frag} {C a dx : Addr} {H : Hp} {fs : List (Str × V)} (I : IsT K C) (e : H a = some (.ins C dx fs)) : TyX K H (.ref a) (.ref C) := .base (.ins e I.cl I.ha I.hn I.ht I.hm)
theorem IsT.one {K : PySem.W.Frag} {C : Addr} (_ : IsT K C) : PySem.W.kitOne K (.ref C) (.ref C) = some true := by
  unfold PySem.W.kitOne
  rw [if_pos (beq_self_eq_true _)]
/-- an f-string inside a comprehension: its reading by a name -/
def tJn (ts : List TE) : TE := fun σ H Q => tJs ts Str.empty σ H fun out H1 => Q (.str out) H1
theorem pe_jn {X : Cx} {v1 v2 : Expr} {rest : List Expr} {ts : List TE} {pos : Pos} (h : PJ X (v1 :: v2 :: rest) ts) : PE X (.JoinedStr (v1 :: v2 :: rest) pos) (tJn ts) := pe_joined h
end Lx

set_option maxRecDepth 100000
set_option maxHeartbeats 4000000
set_option pp.maxSteps 400
/-! calls by names alone -/
namespace Lx
open PySem PySem.Spec PyProof.Rows L2
/-- the values at some places -/
def pick {α : Type} (is : List Nat) (zs : List α) : List α := is.filterMap fun i => zs[i]?
def pickM (is : List Nat) (v : V) (zs : List V) : List V := v :: pick is zs
theorem vals_get : ∀ {zs : List V} {ws : List Value}, Vals zs ws → ∀ i : Nat, (∃ v u, zs[i]? = some v ∧ ws[i]? = some u ∧ RelV v u) ∨ (zs[i]? = none ∧ ws[i]? = none)
  | _, _, .nil, _ => .inr ⟨rfl, rfl⟩
  | _, _, .cons h _, 0 => .inl ⟨_, _, rfl, rfl, h⟩
  | _, _, .cons _ r, i + 1 => vals_get r i
theorem vals_pick {zs : List V} {ws : List Value} : ∀ (is : List Nat), Vals zs ws → Vals (pick is zs) (pick is ws)
  | [], _ => .nil
  | i :: is, r => by
    show Vals (List.filterMap _ (i :: is)) (List.filterMap _ (i :: is))
    rw [List.filterMap_cons, List.filterMap_cons]
    rcases vals_get r i with ⟨v, u, h1, h2, h3⟩ | ⟨h1, h2⟩
    · rw [h1, h2]; exact .cons h3 (vals_pick is r)
    · rw [h1, h2]; exact vals_pick is r
/-- a def called by the names ks, in this order; gV puts the values in the parameters' order -/
structure CalK (P : Program) (w : World) (K : PySem.W.Frag) (mg : Str → Option Value) (base : Heap) (k : Nat) (x : Str) (sp : Sp) (ks : List Str) (gV : List V → List V) : Prop where
  ex : ∃ (f : Addr) (fd : FuncData) (ps : List Str) (g : List Value → List Value → List Value), FnOk P w K mg base C8.CX0 k f fd ps sp ∧ mg x = some (.ref f) ∧ PySem.W.keepIn K (.ref f) = true ∧ KBn K fd ps 0 ks g (fun _ zs => gV zs)
structure MetK (P : Program) (w : World) (K : PySem.W.Frag) (mg : Str → Option Value) (base : Heap) (k : Nat) (C : Addr) (m : Str) (sp : Sp) (ks : List Str) (gV : V → List V → List V) : Prop where
  ex : ∃ (f : Addr) (fd : FuncData) (ps : List Str) (g : List Value → List Value → List Value), Cls K C ∧ Meth K C m f ∧ FnOk P w K mg base C8.CX0 k f fd ps sp ∧ KBn K fd ps 1 ks g (fun vs zs => gV (vs.headD .non) zs)
structure MakK (P : Program) (w : World) (K : PySem.W.Frag) (mg : Str → Option Value) (base : Heap) (k : Nat) (x : Str) (C : Addr) (sp : Sp) (ks : List Str) (gV : V → List V → List V) : Prop where
  ex : ∃ (f : Addr) (fd : FuncData) (ps : List Str) (g : List Value → List Value → List Value), Mk K C f ∧ FnOk P w K mg base C8.CX0 k f fd ps sp ∧ mg x = some (.ref C) ∧ KBn K fd ps 1 ks g (fun vs zs => gV (vs.headD .non) zs)
def tCallW (m : Nat) (sp : Sp) (gV : List V → List V) (tk : TA) : TE := fun σ H Q => tk σ H fun zs H1 => zs.length = m ∧ sp (gV zs) H1 Q C8.E0
def tMethW (C : Addr) (m : Str) (n : Nat) (sp : Sp) (gV : V → List V → List V) (ta : TE) (tk : TA) : TE := fun σ H Q => ta σ H fun x H1 => ∃ a dx fs, x = .ref a ∧ H1 a = some (.ins C dx fs) ∧ fs.lookup m = none ∧
  tk σ H1 fun zs H2 => zs.length = n ∧ sp (gV x zs) H2 Q C8.E0
def tMakeW (C : Addr) (n : Nat) (sp : Sp) (gV : V → List V → List V) (tk : TA) : TE := fun σ H Q => tk σ H fun zs H1 => zs.length = n ∧ ∀ x dx, H1 x = none → H1 dx = none → dx ≠ x →
  sp (gV (.ref x) zs) (upd (upd H1 dx (.own x)) x (.ins C dx [])) (fun v H2 => v = .non ∧ Q (.ref x) H2) C8.E0
section
variable {X : Cx} {k j : Nat} {C : Addr} {sp : Sp} {x m : Str} {p pos apos : Pos} {kws : List Keyword} {tk : TA} {ta : TE} {o : Expr} {ks : List Str} {gV : List V → List V} {gW : V → List V → List V}
theorem pe_cK (c : CalK X.prog X.w X.K X.mg X.base k x sp ks gV) (hr : Room j X.A) (hk : k ≤ j) (hg : Gl X x) (hkw : PK X kws tk) (hall : (backToKw pos (keywordEach kws X.env)).all (·.1.isSome) = true := by rfl) (hks : (backToKw pos (keywordEach kws X.env)).filterMap (·.1) = ks := by rfl)
    (hdb : (x == ("__debug__" : Str)) = false := by decide) (hpl : ((backTo pos (starEach [] X.env)).any (·.1) || (backToKw pos (keywordEach kws X.env)).any (·.1.isNone)) = false := by rfl) :
    PE X (.Call (.Name x p) [] kws pos) (tCallW ks.length sp gV tk) := by
  obtain ⟨f, fd, ps, g, F, hm, kp, b⟩ := c.ex
  refine ⟨fun pins s σ H Q I h => ?_⟩
  refine wpAny_Call_Name_kw (ld_glob I hg hm ?_ hdb)
  refine PySem.W.callWith_KW0 (first := []) (h₀ := X.base) I.ok.mod.kin kp hall (thn (hkw.run pos pins s σ H _ I h) fun ws s2 ⟨zs, H2, I2, rz, l2, q2⟩ => ⟨I2.kIn, ?_⟩) hpl
  rw [hks]
  exact run_fnN (us := []) (vs := []) F (hr.mono hk) b C8.pass0 I2 .nil rz rfl l2 q2
theorem pe_mtK {pl : Sem Bool} (c : MetK X.prog X.w X.K X.mg X.base k C m sp ks gW) (hr : Room j X.A) (hk : k ≤ j) (he : PE X o ta) (hkw : PK X kws tk) (hall : (backToKw pos (keywordEach kws X.env)).all (·.1.isSome) = true := by rfl) (hks : (backToKw pos (keywordEach kws X.env)).filterMap (·.1) = ks := by rfl)
    (hpl : ((backTo pos (starEach [] X.env)).any (·.1) || (backToKw pos (keywordEach kws X.env)).any (·.1.isNone)) = false := by rfl)
    (ht : eval (.Call (.Attribute o m apos) [] kws pos) X.env = (do
      let ov ← eval o X.env
      standAt apos.atName
      let (f, first) ← holding [ov] (getMethod ov m pl)
      callWith pos f first (backTo pos (starEach [] X.env)) (backToKw pos (keywordEach kws X.env))) := by rfl) :
    PE X (.Call (.Attribute o m apos) [] kws pos) (tMethW C m ks.length sp gW ta tk) := by
  obtain ⟨f, fd, ps, g, hc, hm, F, b⟩ := c.ex
  refine ⟨fun pins s σ H Q I h => ?_⟩
  refine PySem.W.methodCall_KW (pl := pl) (thn (he.run pins s σ H _ I h) fun u s1 ⟨x, H1, I1, rx, a, dx, fs, ex, ea, l, q⟩ => ?_) ht
  subst ex
  obtain rfl : u = Value.ref a := rx
  refine getmeth_ok I1 ea hc hm l ?_
  refine PySem.W.callWith_KW0 (first := [.ref a]) (h₀ := X.base) I.ok.mod.kin hm.kp hall (thn (hkw.run pos pins s1 σ H1 _ I1 q) fun ws s2 ⟨zs, H2, I2, rz, l2, q2⟩ => ⟨I2.kIn, ?_⟩) hpl
  rw [hks]
  exact run_fnN (us := [.ref a]) (vs := [.ref a]) F (hr.mono hk) b C8.pass0 I2 (.cons rfl .nil) rz rfl l2 q2
theorem pe_mkK (c : MakK X.prog X.w X.K X.mg X.base k x C sp ks gW) (hr : Room j X.A) (hk : k + 1 ≤ j) (hg : Gl X x) (hkw : PK X kws tk) (hall : (backToKw pos (keywordEach kws X.env)).all (·.1.isSome) = true := by rfl) (hks : (backToKw pos (keywordEach kws X.env)).filterMap (·.1) = ks := by rfl)
    (hdb : (x == ("__debug__" : Str)) = false := by decide) (hpl : ((backTo pos (starEach [] X.env)).any (·.1) || (backToKw pos (keywordEach kws X.env)).any (·.1.isNone)) = false := by rfl) :
    PE X (.Call (.Name x p) [] kws pos) (tMakeW C ks.length sp gW tk) := by
  obtain ⟨f, fd, ps, g, M, F, hm, b⟩ := c.ex
  refine ⟨fun pins s σ H Q I h => ?_⟩
  refine wpAny_Call_Name_kw (ld_glob I hg hm ?_ hdb)
  refine PySem.W.callWith_KW0 (first := []) (h₀ := X.base) I.ok.mod.kin M.kp hall (thn (hkw.run pos pins s σ H _ I h) fun ws s2 ⟨zs, H2, I2, rz, l2, q2⟩ => ⟨I2.kIn, ?_⟩) hpl
  rw [hks]
  exact run_makeN (n := 0) (us := []) (vs := []) M F (hr.mono hk) b C8.pass0 I2 .nil rz rfl l2 q2
end
end Lx

set_option maxRecDepth 100000
set_option maxHeartbeats 4000000
/-! own errors whose __init__ says super().__init__(text, x) and self.f = x -/
namespace ExS
open PySem PySem.Spec PyProof.Rows L2 NdefX
/-- what such an __init__ does to the error at a -/
def spXI (C : Addr) (fld : Str) : Sp := fun vs H Q _ => ∃ (a : Addr) (v : V), vs = [.ref a, v] ∧ H a = some (exo a C none) ∧
  ∀ dx, H dx = none → dx ≠ a → Q .non (upd (upd H dx (exd dx [(fld, v)])) a (exo a C (some dx)))
/-- the built-in __init__ bound to the error, called: nothing of it is told -/
theorem call_mw {X : Cx} {pins : List (Addr × Obj)} {σ : L2.St} {H : Hp} {s : Shared} {a C u : Addr} {us : List Value} {Q : Value → Shared → Prop} {E : Value → Shared → Prop} {A : Around}
    (T : OexC X.K C) (I : Inv X pins σ H s) (e : H a = some (exo a C none)) (hu : s.heap.get? u = some (PySem.W.kxs_mw "ValueError.__init__" a)) (hl : us.length ≤ sizeLine) (h : ∀ s', Inv X pins σ H s' → Q .none s') :
    wpAny (model X.prog X.w) A (call (.ref u) us) Q E s := by
  obtain ⟨nm, q, N, bs, bm, sn, sub, ab, col, dd, k0, k1, k2, k3, k5, hC, hbm⟩ := T.cls
  obtain ⟨t1, ho⟩ := exo_at I.hok e
  obtain ⟨hp, g, d, t, os⟩ := s
  have fin : ∀ h' : Heap, (∀ b o, b ≠ a → hp.get? b = some o → h'.get? b = some o) → h'.get? a = some (PySem.W.excObj C hp.objs.size none .none) → Q .none ⟨h', g, d, t, os⟩ := fun h' k hx => by
    have J := I.write (t' := t) (x := a) (e := a) (o := exo a C none) (by rw [e]; exact True.intro) (.inl rfl) k ⟨_, hx⟩ (exo_ok hx)
    have eu : upd H a (exo a C none) = H := funext fun b => by
      by_cases hb : b = a
      · rw [hb, upd_same, e]
      · rw [upd_ne hb]
    rw [eu] at J
    exact h _ J
  refine wpAny_call (codeAny_of_tree ?_)
  show wpAny _ A.in1 (callAny (.ref u) ⟨us, []⟩) _ _ _
  simp only [callAny]
  refine wpAny_bind (wpAny_load hu ?_)
  simp only [PySem.W.kxs_mw, show (Value.type "method-wrapper" == Value.type "method" || Value.type "method-wrapper" == Value.type "builtin_function_or_method" || Value.type "method-wrapper" == Value.type "method-wrapper") = true by decide, if_true]
  refine PySem.W.KFB.if_so (by decide) ?_
  refine wpAny_bind (PySem.W.check_bound_init F.excBase_ValueError.toExcCallFacts (I.kIn _ _ hC) ho rfl ?_)
  refine wpAny_bind (wpAny_pure (wpAny_pure ?_))
  refine ⟨plainId_quiet F.excBase_ValueError.init.plain _, codeAny_builtin F.excBase_ValueError.initEntry ?_⟩
  exact PySem.W.exc_init_tree (cls := .ref C) (t0 := t1) (dv := none) (c2 := .none) (c3 := .none) (b4 := .bool false) ho hl fun h' k hx _ => fin h' k hx
/-- the two statements of such an __init__ -/
def Body2 (self word fld text : Str) (body : List Stmt) : Prop := ∃ (p0 p1 p2 p3 p4 p5 p6 p7 p8 p9 p10 : Pos) (j : Nat), body = [.Expr (.Call (.Attribute (.Call (.Name "super" p0) [] [] p1) "__init__" p2) [.Constant (.str text) j p3, .Name word p4] [] p5) p6, .Assign [.Attribute (.Name self p7) fld p8] (.Name word p9) p10] ∧ (p2.endLine == p5.line) = true
theorem eval_sup {o : Expr} {name : Str} {apos pos : Pos} {e1 e2 : Expr} {env : Env} (hl : (apos.endLine == pos.line) = true) (h1 : starEach [e1, e2] env = [(false, eval e1 env), (false, eval e2 env)]) :
    eval (.Call (.Attribute o name apos) [e1, e2] [] pos) env = (do
      let ov ← attributeBase o name env (eval o env)
      standAt apos.atName
      let (f, first) ← holding [ov] (getMethod ov name (do return (← importBound o env).getD true))
      callWith pos f first (backTo pos (starEach [e1, e2] env)) []) := by
  have hp : methodCallPos true o env apos pos = pure pos := by unfold methodCallPos; rw [hl]; rfl
  show (do
    let ov ← attributeBase o name env (eval o env)
    standAt apos.atName
    methodCall o name apos pos env ov 2 (backTo pos (starEach [e1, e2] env)) []) = _
  rw [h1]
  have hm : ∀ ov, methodCall o name apos pos env ov 2 (backTo pos [(false, eval e1 env), (false, eval e2 env)]) [] = (do
      let (f, first) ← holding [ov] (getMethod ov name (do return (← importBound o env).getD true))
      callWith pos f first (backTo pos [(false, eval e1 env), (false, eval e2 env)]) []) := fun ov => by
    unfold methodCall
    have hf : methodCallForm 2 (backTo pos [(false, eval e1 env), (false, eval e2 env)]) [] = true := rfl
    rw [hf, hp]
    rfl
  simp only [hm]
structure ExF (P : Program) (K : PySem.W.Frag) (mg : Str → Option Value) (C : Addr) (fld : Str) (f cc cda : Addr) (file : Str) : Prop where
  T : OexC K C
  no : PySem.W.findIn K (.ref C) fld = some none
  cell : ∃ cl cld csl, K.lookup cc = some ⟨cl, cld, .cell (some (.ref C)), csl⟩
  code : ∃ ccl cdd vs ccs tf, K.lookup cda = some ⟨ccl, cdd, .fields vs, ccs⟩ ∧ vs[2]? = some (.str file tf)
  file : ((P.main.file : Str) == file) = true
  top : (P.main.scope.names.lookup ("super" : Str)).isSome = false
  sub : PySem.W.mroIn K C (.ref C) = some true
  sup : mg "super" = none
  opq : PySem.W.nsIn K cStatics "thirdparty.any" = some none
  ini : PySem.W.ks_superIn K C C "__init__" = some (some (.builtin "ValueError.__init__"))
  ve : PySem.W.subIn K (.ref C) (.type "ValueError") = some true
theorem fn_exc {P : Program} {w : World} {K : PySem.W.Frag} {mg : Str → Option Value} {base : Heap} {C f cc cda : Addr} {name qual self word fld text file : Str} {params : Arguments} {body : List Stmt} {scope : Scope} {dV kV doc pm ct oc : Value} {an od : Option Addr} {osl : Array (Option Value)} {ar : Arg} {k : Nat}
    (X : ExF P K mg C fld f cc cda file) (lk : K.lookup f = some ⟨oc, od, .func (PySem.W.fnX name qual params body scope [("__class__", cc)] dV kV doc pm an (.ref cda) ct), osl⟩) (hcd : PySem.W.codeIn K (.ref cda) qual = true)
    (S : NScope [self, word, "__class__"] [self, word] ["__class__"] scope) (hks : scope.names.lookup ("super" : Str) = some .globalImplicit) (hp : (params.posonlyargs ++ params.args).head? = some ar) (har : ar.arg = self) (hb2 : Body2 self word fld text body) (hd0 : (self == ("__debug__" : Str)) = false) (hd1 : (word == ("__debug__" : Str)) = false) (hc0 : (self == ("__classdict__" : Str)) = false) (hc1 : (word == ("__classdict__" : Str)) = false) :
    FnOk P w K mg base CX0 (k + 1) f (PySem.W.fnX name qual params body scope [("__class__", cc)] dV kV doc pm an (.ref cda) ct) [self, word] (spXI C fld) := by
  refine ⟨fun vs H Q E h => by obtain ⟨_, _, rfl, _⟩ := h; rfl, fun A outer s H args us vs Q E hr e0 hb r hsp => ?_⟩
  obtain ⟨a, v, rfl, ha, kk⟩ := hsp
  obtain ⟨u1, rfl, rv⟩ : ∃ u1, us = [.ref a, u1] ∧ RelV v u1 := by
    cases r with
    | @cons _ u0 _ ur ra rr =>
      obtain rfl : u0 = Value.ref a := ra
      cases rr with
      | @cons _ u1 _ ur2 rv rn =>
        cases rn
        exact ⟨u1, rfl, rv⟩
  have KX : K.In s.heap := e0.mod.kin.keeps fun b o e => (e0.bs b o e).1
  have lim : s.heap.NoLimit := e0.mod.nolimit.keeps fun b o e => (e0.bs b o e).1
  obtain ⟨cl, cld, csl, lcc⟩ := X.cell
  obtain ⟨ccl, cdd, cvs, ccs, tf, lcd, hvs⟩ := X.code
  refine codeAny_call_function hr.depth (KX _ _ lk) rfl S.co S.gen rfl (PySem.W.codeRec_of KX hcd) (hb _ _ _ _ ?_)
  refine wpAny_newFunctionEnv S.nocell (fun ⟨n, _⟩ hy => S.par n (List.of_mem_zip hy).1) (fun h₁ hns hsb => ⟨lim.fresh _ hsb, ?_⟩) S.kind
  show codeAny _ _ (.func body (PySem.W.envX qual scope s.heap.objs.size f (.ref cda) [("__class__", cc)])) _ _
  refine ks_codeAny_funcAt ?_
  have kp : ∀ b o, s.heap.get? b = some o → h₁.get? b = some o := fun b o e => hsb.extBut b o (Nat.ne_of_lt (Heap.lt_size e)) (Heap.get?_push_of_some _ e)
  have hcb := e0.bs _ _ (e0.mod.kin _ _ lcc)
  have C0 : CellsAt [("__class__", cc)] ["__class__"] [some (.ref C)] s.heap H := by
    have one : ∀ y c, ([("__class__", cc)] : List (Str × Addr)).lookup y = some c → y = "__class__" ∧ c = cc := fun y c e => by
      rw [List.lookup_cons] at e
      split at e
      · rename_i z
        exact ⟨eq_of_beq z, (Option.some.inj e).symm⟩
      · cases e
    refine ⟨rfl, fun y c e => ?_, fun x y c e1 e2 => (one x c e1).1.trans (one y c e2).1.symm, fun i y e => ?_⟩
    · rw [(one y c e).2]
      exact ⟨hcb.2, _, _, hcb.1, rfl⟩
    · match i, e with
      | 0, e =>
        rw [← Option.some.inj e]
        exact ⟨cc, rfl, fun v hv => ⟨.ref C, by cases hv; exact rfl, _, hcb.1, rfl⟩⟩
  have I : Inv (ncx CX0 P w K mg base [self, word, "__class__"] ⟨name, qual, params, body, scope, [("__class__", cc)], cda⟩ f A outer s H E) [] (startF [self, word, "__class__"] [.ref a, v] [some (.ref C)]) H { s with heap := h₁, toks := s.toks + ([self, word].zip [Value.ref a, u1]).length } :=
    inv_startN (F := ⟨name, qual, params, body, scope, [("__class__", cc)], cda⟩) S hr.hd e0 rfl r C0 hns kp
  have KX1 : K.In h₁ := KX.keeps kp
  obtain ⟨p0, p1, p2, p3, p4, p5, p6, p7, p8, p9, p10, j, rfl, hline⟩ := hb2
  have hkc : scope.names.lookup ("__class__" : Str) = some .free := S.frk _ (List.mem_singleton.mpr rfl)
  have hself : scope.names.lookup self = some .local := S.par _ List.mem_cons_self
  have hword : scope.names.lookup word = some .local := S.par _ (List.mem_cons_of_mem _ List.mem_cons_self)
  obtain ⟨nm, q, N, bs, bm, sn, sub, ab, col, dd, k0, k1, k2, k3, k5, hC, hbm⟩ := X.T.cls
  have hcl : PySem.W.clsIn K C = some { name := nm, bases := bs, mro := .ref C :: bm, ns := N, qualname := q, hasDict := true, slotNames := sn, subclasses := sub, abstract := ab, collection := col, hasDel := false } := by unfold PySem.W.clsIn; rw [hC] <;> rfl
  obtain ⟨t1, hoa⟩ := exo_at I.hok ha
  obtain ⟨mb, b1, b2⟩ := I.mod.blt
  have boot : bootBuiltins "super" = some (.type "super") := by first | boot_by_name | rfl | kernel_rfl
  have hne : a ≠ C := fun z => by
    have := KX1 _ _ hC
    rw [← z, hoa] at this
    cases this
  refine ks_wpAt_execs_cons (ks_wpAt_Expr_any (ks_wpAt_MethodCall ?_ (eval_sup hline rfl)) I.quiet rfl)
  refine ks_wpAt_super_base (f := f) (cc := cda) hks hkc (by decide) rfl (KX1 _ _ lk) rfl hp rfl (KX1 _ _ lcd) rfl hvs X.file X.top ?_
  refine PySem.W.ks_loadName_global I.ok.kind hks (Calls.loadGlobal_builtin (I.mod.glob.keeps I.bk) X.sup (b1.keeps I.bk) ((b2 _ (by decide)).trans boot) ⟨rfl, ?_⟩)
  refine wpAny_loadName_free I.ok.kind hkc rfl ⟨_, kp _ _ hcb.1, rfl⟩ ?_
  rw [har]
  have ndp : [self, word].Nodup := (List.nodup_append.mp (show ([self, word] ++ [("__class__" : Str)]).Nodup from S.nd)).1
  refine wpAny_loadName_local I.ok.kind hself hns (zip_look (i := 0) ndp rfl rfl) ?_
  refine ks_wpAny_isType_cls (KX1 _ _ hC) rfl ⟨rfl, ?_⟩
  refine ks_wpAny_call_super (KX1 _ _ hC) rfl hoa rfl (fun c z => by cases z) (PySem.W.looks_mroIn KX1 X.sub) (fun h2 e2 kq => ?_)
  have I2 := I.kept (h' := h2) (t' := s.toks + ([self, word].zip [Value.ref a, u1]).length) kq
  have KX2 : K.In h2 := KX1.keeps kq
  have hoa2 := kq _ _ hoa
  have hal : PySem.W.alongIn K "__init__" (((Value.ref C :: bm).dropWhile (· != .ref C)).drop 1) = some (some (.builtin "ValueError.__init__")) := by
    have := X.ini
    unfold PySem.W.ks_superIn at this
    rw [hcl] at this
    exact this
  have IA : PySem.W.InstAt h2 a (PySem.W.excObj C t1 none .none) C none := ⟨hoa2, rfl, rfl, trivial⟩
  refine PySem.W.kxs_getMethod PySem.W.kxs_ValueError (l₀ := .ref C :: bm) e2 (PySem.W.looks_opaque KX2 X.opq) ?_ rfl KX2 hal (IA.type.andThen (PySem.W.looks_subIn KX2 X.ve)) hne (by decide) ?_
  · exact fun A Q E s k q => wpAny_bind ((PySem.W.looks_clsIn KX2 hcl) A _ E s k (wpAny_pure q))
  have kp3 : ∀ b o, h2.get? b = some o → (h2.push (PySem.W.kxs_mw "ValueError.__init__" a)).get? b = some o := fun b o e => Heap.get?_push_of_some _ e
  have I3 := I2.kept (h' := h2.push (PySem.W.kxs_mw "ValueError.__init__" a)) (t' := s.toks + ([self, word].zip [Value.ref a, u1]).length + 1) kp3
  have hu3 : (h2.push (PySem.W.kxs_mw "ValueError.__init__" a)).get? h2.objs.size = some (PySem.W.kxs_mw "ValueError.__init__" a) := Heap.get?_push_at rfl rfl
  have I4 := I3.pins_of (pins' := [(h2.objs.size, PySem.W.kxs_mw "ValueError.__init__" a)]) fun p hp => by
    rw [List.mem_singleton.mp hp]
    exact ⟨hu3, I2.hok.fresh (Nat.le_refl _), (Nat.ne_of_lt I2.lt).symm, I2.nofs (Nat.le_refl _), fun v z => by cases z⟩
  have pw : PE (ncx CX0 P w K mg base [self, word, "__class__"] ⟨name, qual, params, [.Expr (.Call (.Attribute (.Call (.Name "super" p0) [] [] p1) "__init__" p2) [.Constant (.str text) j p3, .Name word p4] [] p5) p6, .Assign [.Attribute (.Name self p7) fld p8] (.Name word p9) p10], scope, [("__class__", cc)], cda⟩ f A outer s H E) (.Name word p4) (tVar 1) := pe_var rfl (.inl hword) hd1 hc1
  have pa := pa_cons (pe_str (x := text) (j := j) (pos := p3)) (pa_cons pw pa_nil)
  refine PySem.W.kxs_callWith (i := "ValueError.__init__") (x := a) rfl (PySem.Calls.evalArgs_plain (thn (pa.run p5 _ _ _ _ (fun vs H1 => vs = [.str text, v] ∧ H1 = H) I4 ⟨v, rfl, rfl, rfl⟩) fun ws s5 h5 => ?_))
  obtain ⟨vs5, H5, I5, r5, rfl, rfl⟩ := h5
  have hu5 := (I5.pin _ (List.mem_append_right _ (List.mem_singleton.mpr rfl))).1
  have l5 : ws.length ≤ sizeLine := by
    have := Paired.length r5
    rw [← this]
    show 2 ≤ sizeLine
    decide
  refine ⟨hu5, ?_⟩
  refine call_mw X.T (I5.pins_of (pins' := []) fun p hp => absurd hp (by exact List.not_mem_nil)) ha hu5 l5 fun s6 I6 => ?_
  have pself : PE (ncx CX0 P w K mg base [self, word, "__class__"] ⟨name, qual, params, [.Expr (.Call (.Attribute (.Call (.Name "super" p0) [] [] p1) "__init__" p2) [.Constant (.str text) j p3, .Name word p4] [] p5) p6, .Assign [.Attribute (.Name self p7) fld p8] (.Name word p9) p10], scope, [("__class__", cc)], cda⟩ f A outer s H5 E) (.Name self p7) (tVar 0) := pe_var rfl (.inl hself) hd0 hc0
  have pword : PE (ncx CX0 P w K mg base [self, word, "__class__"] ⟨name, qual, params, [.Expr (.Call (.Attribute (.Call (.Name "super" p0) [] [] p1) "__init__" p2) [.Constant (.str text) j p3, .Name word p4] [] p5) p6, .Assign [.Attribute (.Name self p7) fld p8] (.Name word p9) p10], scope, [("__class__", cc)], cda⟩ f A outer s H5 E) (.Name word p9) (tVar 1) := pe_var rfl (.inl hword) hd1 hc1
  have st := pss_one (ps_ost (f := fld) (p' := p8) (pos := p10) pself pword)
  refine wpAt_of_wpAny (wpAny_mono (st.run [] s6 _ H5 { nx := fun _ H' => Q .non H', rt := Q } I6 ⟨v, rfl, .ref a, rfl, a, C, rfl, X.T, X.no, .inl ⟨ha, fun dx n ne => kk dx n ne⟩⟩) (fun fl s7 hs => ?_) fun e s' hs => hs)
  cases fl with
  | ret u =>
    obtain ⟨v7, σ7, H7, J, r7, q7⟩ := hs
    exact ⟨v7, H7, J.os, J.bare, J.base, J.hok, r7, q7⟩
  | next =>
    obtain ⟨σ7, H7, J, q7⟩ := hs
    exact ⟨.non, H7, J.os, J.bare, J.base, J.hok, rfl, q7⟩
  | brk =>
    obtain ⟨_, _, _, q7⟩ := hs
    exact False.elim q7
  | cont =>
    obtain ⟨_, _, _, q7⟩ := hs
    exact False.elim q7
end ExS

set_option maxRecDepth 100000
set_option maxHeartbeats 4000000
namespace ExS
open PySem PySem.Spec PyProof.Rows L2
/-- an own error's class under its name -/
structure XMk (P : Program) (w : World) (K : PySem.W.Frag) (mg : Str → Option Value) (base : Heap) (k : Nat) (x : Str) (C : Addr) (fld : Str) : Prop where
  ex : ∃ (fI : Addr) (fd : FuncData) (ps : List Str), OexC K C ∧ PySem.W.findIn K (.ref C) "__init__" = some (some (.ref fI)) ∧ PySem.W.typeIn K (.ref fI) = some (.type "function") ∧ FnOk P w K mg base L2.CX0 k fI fd ps (spXI C fld) ∧ Binds K fd ps [] ∧ mg x = some (.ref C)
section
variable {X : Cx} {x fld : Str} {C : Addr} {k j : Nat} {p pos : Pos} {e : Expr} {es : List Expr} {ta : TA}
theorem pmk_x (c : XMk X.prog X.w X.K X.mg X.base k x C fld) (hr : Room j X.A) (hk : k + 1 ≤ j) (hg : Gl X x) (ha : PA X (e :: es) ta)
    (hdb : (x == ("__debug__" : Str)) = false := by decide) (he : starEach (e :: es) X.env = (false, eval e X.env) :: starEach es X.env := by rfl) (hpl : (backTo pos (starEach es X.env)).any (·.1) = false := by rfl) :
    PMk X (.Call (.Name x p) (e :: es) [] pos) (tMkO C (spXI C fld) [] ta) := by
  obtain ⟨fI, fd, ps, T, iC, tI, F, b, hm⟩ := c.ex
  exact pmk_oex T iC tI F (hr.mono hk) b .nil L2.pass0 hg hm ha hdb he hpl
end
theorem exo_exd {a C d : Addr} {o : Option Addr} {fs : List (Str × V)} {H : Hp} (h1 : H a = some (exo a C o)) (h2 : H d = none) : d ≠ a := fun z => by
  rw [z, h1] at h2
  cases h2
/-- what the making of such an error asks -/
theorem rd_x {C : Addr} {fld : Str} {H1 : Hp} {v : V} {Q : XK} (k : ∀ d H', Same H1 H' → H1 d = none → H' d = some (.xd [(fld, v)]) → Q (.ref C) (some d) H') :
    [v].length ≤ 1000 ∧ ∀ a, H1 a = none → spXI C fld (.ref a :: ([v] ++ [])) (upd H1 a (exo a C none)) (fun w H2 => w = .non ∧ ∃ (d : Addr) (fs : List (Str × V)), H2 a = some (exo a C (some d)) ∧ H2 d = some (exd d fs) ∧ H1 d = none ∧ Q (.ref C) (some d) (upd (del H2 a) d (.xd fs))) (fun _ _ _ => False) := by
  refine ⟨by show 1 ≤ 1000; decide, fun a na => ⟨a, v, rfl, upd_same, fun dx nd ne => ⟨rfl, dx, [(fld, v)], upd_same, by rw [upd_ne ne, upd_same], ?_, ?_⟩⟩⟩
  · rw [upd_ne ne] at nd
    exact nd
  · rw [upd_ne ne] at nd
    refine k dx _ (fun b o e => ?_) nd upd_same
    have b1 : b ≠ a := ne_of_none e na
    have b2 : b ≠ dx := ne_of_none e nd
    rw [upd_ne b2, del_ne b1, upd_ne b1, upd_ne b2, upd_ne b1]
    exact e
theorem takes0 {X : Cx} : L2.Takes X (fun _ _ _ _ => False) := fun _ _ ⟨_, _, _, _, _, _, _, _, _, _, _, _, _, _, _, _, w⟩ => w.elim
/-- a class whose __init__ may raise -/
structure MakX (P : Program) (w : World) (K : PySem.W.Frag) (mg : Str → Option Value) (base : Heap) (k : Nat) (x : Str) (C : Addr) (sp : Sp) (dvs : List V) : Prop where
  ex : ∃ (f : Addr) (fd : FuncData) (ps : List Str) (ds : List Value), Mk K C f ∧ FnOk P w K mg base (L2.CX P w) k f fd ps sp ∧ mg x = some (.ref C) ∧ Binds K fd ps ds ∧ Vals dvs ds
def tMakeS (C : Addr) (sp : Sp) (dvs : List V) (E : L2.St → XK) (t : TA) : TE := fun σ H Q => t σ H fun vs H1 => ∀ x dx, H1 x = none → H1 dx = none → dx ≠ x →
  sp (.ref x :: (vs ++ dvs)) (upd (upd H1 dx (.own x)) x (.ins C dx [])) (fun v H2 => v = .non ∧ Q (.ref x) H2) (E σ)
section
variable {X : Cx} {x : Str} {C : Addr} {k j : Nat} {p pos : Pos} {e : Expr} {es : List Expr} {t : TA} {sp : Sp} {dvs : List V} {W : WX}
theorem pe_mkT (c : MakX X.prog X.w X.K X.mg X.base k x C sp dvs) (hr : Room j X.A) (hk : k + 1 ≤ j) (tk : Takes X W) (hg : Gl X x) (ha : PA X (e :: es) t)
    (hdb : (x == ("__debug__" : Str)) = false := by decide) (he : starEach (e :: es) X.env = (false, eval e X.env) :: starEach es X.env := by rfl) (hpl : (backTo pos (starEach es X.env)).any (·.1) = false := by rfl) :
    PE X (.Call (.Name x p) (e :: es) [] pos) (tMakeS C sp dvs (WE W) t) := by
  obtain ⟨f, fd, ps, ds, M, F, hm, b, d⟩ := c.ex
  refine ⟨fun pins s σ H Q I h => wpAny_Call_Name_kw (ld_glob I hg hm ?_ hdb)⟩
  refine PySem.W.callWith_K (h₀ := X.base) I.ok.mod.kin M.kp (thn (ha.run pos pins s σ H _ I h) fun us s1 ⟨vs, H1, I1, r, q⟩ => ⟨I1.kIn, ?_⟩) he hpl
  have q1 := q (s1.heap.objs.size + 1) s1.heap.objs.size (I1.hok.fresh (Nat.le_succ _)) (I1.hok.fresh (Nat.le_refl _)) (Nat.ne_of_lt (Nat.lt_succ_self _))
  have J := Inv.made (C := C) I1
  have rr : Vals (V.ref (s1.heap.objs.size + 1) :: (vs ++ dvs)) (Value.ref (s1.heap.objs.size + 1) :: (us ++ ds)) := .cons rfl (r.append d)
  have len : (Value.ref (s1.heap.objs.size + 1) :: us ++ ds).length = ps.length := (rr.length).symm.trans (F.len _ _ _ _ q1)
  have go := F.run (X.A.under (.builtin "type.__call__" ⟨.ref C :: us, []⟩)) X.stack _ _ ⟨Value.ref (s1.heap.objs.size + 1) :: us, []⟩ _ _ _ _ ((hr.mono hk).make C us []) (J.env0.make C us []) (b _ (Value.ref (s1.heap.objs.size + 1) :: us) J.kIn len) rr q1
  refine wpAny_call (make_map (f := f) I1.kIn M.makes M.init (beq_iff_eq.mp M.fn) (codeAny_mono go fun res s2 hres => ?_))
  match res, hres with
  | .error er, hres => exact passAt tk σ pins _ _ er s2 J hres
  | .ok (.ret u), hres =>
    obtain ⟨v, H2, J2, rv, ev, q2⟩ := J.after hres
    subst ev
    exact ⟨rv, V.ref (s1.heap.objs.size + 1), H2, J2, rfl, q2⟩
  | .ok .next, hres => exact False.elim hres
  | .ok .brk, hres => exact False.elim hres
  | .ok .cont, hres => exact False.elim hres
end
section
variable {P : Program} {w : World} {K : PySem.W.Frag} {mg : Str → Option Value} {base : Heap}
/-- a def that may raise, by its body -/
theorem fnR {x qual : Str} {st : Stmt} {f : Addr} {fd : FuncData} {N ps : List Str} {k : Nat} {sp : Sp} (F : C8.Fun K x qual st f fd) (S : FnScope N ps (C8.fnScope st)) (len : ∀ vs H Q E, sp vs H Q E → vs.length = ps.length)
    (hbody : ∀ (cdv : Value) (A : Around) (outer : List Env) (s : Shared) (H : Hp) (vs : List V) (Q : VK) (E : XK), Room k (A.deeper (envOfC qual (C8.fnScope st) s.heap.objs.size f cdv)) → sp vs H Q E →
      ∃ t, PSs (cxOf (L2.CX P w) P w K mg base N qual (C8.fnScope st) f cdv A outer s H E) (C8.fnBody st) t ∧ t { nx := fun _ H' => Q .non H', rt := Q } (start N vs) H) : FnOk P w K mg base (L2.CX P w) (k + 1) f fd ps sp := by
  obtain ⟨oc, od, dV, kV, doc, pm, an, cdv, ct, osl, rfl, lk, hcd⟩ := F.ex
  exact fn_of lk hcd S len fun A outer s H vs Q E hr hsp => hbody cdv A outer s H vs Q E hr hsp
end
end ExS

set_option maxRecDepth 100000
set_option maxHeartbeats 4000000
set_option pp.maxSteps 400
/-! an own error made by a call with names alone -/
namespace ExK
open PySem PySem.HandSPX PySem.Builtin PySem.Builtin.ObjectAttr
section
variable {M : Model} {A : Around} {E : Value → Shared → Prop} {h : Heap} {g : Array GenState} {d : Drawn} {t : Nat} {os : OsState}
variable {nm q : Str} {C N : Addr} {bs bm bmB : List Value} {hdct : Bool} {sn : List Str} {sub : List Value} {ab : Bool} {col : Option Bool} {dd : Option Addr} {k0 k1 k2 k3 k5 : Option Value} {B newId initId : String}
theorem check_new_kw (F : ExcBaseFacts B newId initId bmB) (hT : ∀ X : String, bm.contains (.type X) = bmB.contains (.type X)) {kw : List (Str × Value)} {Q : Unit → Shared → Prop}
    (hC : h.get? C = some (excClassObj nm q C N bs bm hdct sn sub ab col dd k0 k1 k2 k3 k5 newId)) (hq : Q () ⟨h, g, d, t, os⟩) : wpAny M A (checkBuiltinCall newId ⟨[.ref C], kw⟩) Q E ⟨h, g, d, t, os⟩ := by
  have hcont : (Value.ref C :: bm).contains (.type B) = true := by rw [List.contains_cons, hT, F.hasB, Bool.or_true]
  have hstar := F.noStar
  simp only [checkBuiltinCall, F.newKind, F.newSplit, F.newRow]
  repeat (first | refine wpAny_loadPart_at hC ?_ | (refine wpAny_isSubtype_exc hC ?_; rw [hcont]) | refine wpAny_staticBase_exc hC ?_ | refine wpAny_madeBy_exc hC ?_ | simp only [bne_self_eq_false, Bool.false_eq_true, if_false] | wp_step)
  exact hq
end
section
variable {prog : Program} {w : World} {A : Around} {E : Value → Shared → Prop} {R : Result → Shared → Prop} {h : Heap} {g : Array GenState} {d : Drawn} {t : Nat} {os : OsState}
variable {nm q : Str} {C N : Addr} {bs bm bmB : List Value} {hdct : Bool} {sn : List Str} {sub : List Value} {ab : Bool} {col : Option Bool} {dd : Option Addr} {k0 k1 k2 k3 k5 : Option Value} {B newId initId : String}
theorem new_kw (F : ExcBaseFacts B newId initId bmB) (hT : ∀ X : String, bm.contains (.type X) = bmB.contains (.type X)) {kw : List (Str × Value)}
    (hC : h.get? C = some (excClassObj nm q C N bs bm hdct sn sub ab col dd k0 k1 k2 k3 k5 newId))
    (hq : R (.ok (.ret (.ref (h.objs.size + 1)))) ⟨(h.push { cls := .type "tuple", data := .seq #[] }).push
      { cls := .ref C, data := .fields #[.ref h.objs.size, .none, .none, .none, .bool false, .none] }, g, d, t, os⟩) :
    codeAny (model prog w) A (.builtin newId ⟨[.ref C], kw⟩) R ⟨h, g, d, t, os⟩ := by
  have hends := F.ends
  have hcB : (Value.ref C :: bm).contains (.type B) = true := by rw [List.contains_cons, hT, F.hasB, Bool.or_true]
  have hcA : (Value.ref C :: bm).contains (.type "AttributeError") = false := by rw [List.contains_cons, hT, F.noAttr]; rfl
  have hcN : (Value.ref C :: bm).contains (.type "NameError") = false := by rw [List.contains_cons, hT, F.noName]; rfl
  refine codeAny_builtinAt F.entry ?_
  unfold Builtin.«BaseException.__new__»
  refine wpAt_bind ?_
  show wpAt _ _ _ (stack >>= _) _ _ _
  refine wpAt_bind (wpAt_stack fun p below => wpAt_of_wpAny ?_)
  wp_walk
  refine wpAt_of_wpAny ?_
  rw [F.owner]
  repeat (first | with_reducible refine wpAny_madeHere_exc F.canon hC ?_ | with_reducible refine wpAny_loadPart_at hC ?_ | (with_reducible refine wpAny_isSubtype_exc hC ?_; first | rw [hcB] | rw [hcA] | rw [hcN]) | wp_step)
  show R _ _
  rw [Heap.size_push]
  exact hq
theorem type_call_kw (F : ExcBaseFacts B newId initId bmB) (hT : ∀ X : String, bm.contains (.type X) = bmB.contains (.type X)) {kw : List (Str × Value)} {fI : Addr} {Q : Fin → Shared → Prop}
    (hC : h.get? C = some (excClassObj nm q C N bs bm hdct sn sub ab col dd k0 k1 k2 k3 k5 newId))
    (hi : W.Looks (model prog w) h (typeLookup (.ref C) "__init__") (some (.ref fI))) (hb : ∀ self, W.Looks (model prog w) h (bindSpecial (.ref fI) self) (.ref fI, [self]))
    (hq : codeAny (model prog w) A (.call (.ref fI) ⟨[.ref (h.objs.size + 1)], kw⟩)
      (fun r s' => match r with | .ok (.ret v) => v = .none ∧ Q (.done (.ret (.ref (h.objs.size + 1)))) s' | .ok _ => False | .error e => E e s')
      ⟨(h.push (W.kdv_tup [])).push (excO C h.objs.size), g, d, t, os⟩) :
    wpAny (model prog w) A (Builtin.«type.__call__» ⟨[.ref C], kw⟩) Q E ⟨h, g, d, t, os⟩ := by
  repeat (first | with_reducible refine wpAny_loadPart_at hC ?_ | with_reducible refine wpAny_madeBy_exc hC ?_ | wp_step)
  refine codeAny_call_builtin_code (Code.quiet_builtin _ F.quiet) (check_new_kw F hT hC ?_)
  refine new_kw F hT hC ?_
  show wpAny _ _ _ _ _ _
  have k : ∀ b o, h.get? b = some o → ((h.push (W.kdv_tup [])).push (excO C h.objs.size)).get? b = some o := fun b o e => Heap.get?_push_of_some _ (Heap.get?_push_of_some _ e)
  have hC₁ := k _ _ hC
  have hget : ((h.push (W.kdv_tup [])).push (excO C h.objs.size)).get? (h.objs.size + 1) = some (excO C h.objs.size) := by heap_get
  have hcC : (Value.ref C :: bm).contains (.ref C) = true := by simp
  have i1 := hi.keeps k
  have b1 := (hb (.ref (h.objs.size + 1))).keeps k
  unfold isInstance
  repeat (first | with_reducible refine wpAny_loadPart_at hget ?_ | (with_reducible refine wpAny_isSubtype_exc hC₁ ?_; rw [hcC]) | wp_step)
  show wpAny _ _ (typeLookup (.ref C) _) _ _ _
  refine i1.at ?_
  refine wpAny_holding (wpAny_bind (b1.at ?_))
  refine wpAny_bind (wpAny_call (codeAny_mono hq fun r s' z => ?_))
  rcases r with e | (v | _ | _ | _) <;> first | exact z | exact z.elim | skip
  obtain ⟨rfl, z⟩ := z
  first
    | exact wpAny_pure (wpAny_pure z)
    | (wp_walk; exact z)
theorem call_kw (F : ExcBaseFacts B newId initId bmB) (hT : ∀ X : String, bm.contains (.type X) = bmB.contains (.type X)) {kw : List (Str × Value)} {fI : Addr}
    (hC : h.get? C = some (excClassObj nm q C N bs bm hdct sn sub ab col dd k0 k1 k2 k3 k5 newId))
    (hi : W.Looks (model prog w) h (typeLookup (.ref C) "__init__") (some (.ref fI))) (hb : ∀ self, W.Looks (model prog w) h (bindSpecial (.ref fI) self) (.ref fI, [self]))
    (hq : codeAny (model prog w) (A.under (.builtin "type.__call__" ⟨[.ref C], kw⟩)) (.call (.ref fI) ⟨[.ref (h.objs.size + 1)], kw⟩) (W.InitBack (h.objs.size + 1) R)
      ⟨(h.push (W.kdv_tup [])).push (excO C h.objs.size), g, d, t, os⟩) :
    codeAny (model prog w) A (.call (.ref C) ⟨[], kw⟩) R ⟨h, g, d, t, os⟩ := by
  have f1 := tc_lookup
  have f2 := tc_bind (.ref C)
  have hTy : (⟨h, g, d, t, os⟩ : Shared).TypeIs (.ref C) "type" := ⟨_, hC, rfl⟩
  refine codeAny_of_tree ?_
  show wpAny _ _ (callAny (.ref C) _) _ _ _
  repeat (any_goals (first | assumption | with_reducible refine wpAny_loadPart_at hC ?_ | wp_step))
  refine ⟨rfl, ?_⟩
  refine codeAny_call_builtin_at (Code.quiet_builtin _ (by decide +kernel)) entry_typeCall (wpAny_check_type_call_sub hC (type_call_kw F hT hC hi hb ?_))
  refine codeAny_mono hq fun r s' z => ?_
  rcases r with e | (v | _ | _ | _) <;> exact z
end
end ExK
namespace ExS
open PySem PySem.Spec PyProof.Rows L2
/-- an own error made, as a value -/
def tMkE (C : Addr) (fld : Str) (ta : TA) : TE := fun σ H Q => ta σ H fun vs H1 => ∃ v, vs = [v] ∧ ∀ a d H', H1 a = none → H1 d = none → d ≠ a → Same H1 H' → H' a = some (exo a C (some d)) → H' d = some (exd d [(fld, v)]) → Q (.ref a) H'
/-- an own error's class under its name, called by the name of its parameter -/
structure XMkK (P : Program) (w : World) (K : PySem.W.Frag) (mg : Str → Option Value) (base : Heap) (k : Nat) (x : Str) (C : Addr) (fld : Str) (ks : List Str) : Prop where
  ex : ∃ (fI : Addr) (fd : FuncData) (ps : List Str), OexC K C ∧ PySem.W.findIn K (.ref C) "__init__" = some (some (.ref fI)) ∧ PySem.W.typeIn K (.ref fI) = some (.type "function") ∧ FnOk P w K mg base L2.CX0 k fI fd ps (spXI C fld) ∧ KBn K fd ps 1 ks (fun us ws => us ++ ws) (fun vs zs => vs ++ zs) ∧ mg x = some (.ref C) ∧ ks.length = 1
theorem xi_run {C : Addr} {fld : Str} {H1 : Hp} {a : Addr} {v : V} {Q : VK} (na : H1 a = none) (k : ∀ a d H', H1 a = none → H1 d = none → d ≠ a → Same H1 H' → H' a = some (exo a C (some d)) → H' d = some (exd d [(fld, v)]) → Q (.ref a) H') :
    spXI C fld [.ref a, v] (upd H1 a (exo a C none)) (fun w H2 => w = .non ∧ Q (.ref a) H2) (fun _ _ _ => False) := by
  refine ⟨a, v, rfl, upd_same, fun dx nd ne => ⟨rfl, ?_⟩⟩
  rw [upd_ne ne] at nd
  refine k a dx _ na nd ne (fun b o e => ?_) upd_same (by rw [upd_ne ne, upd_same])
  have b1 : b ≠ a := ne_of_none e na
  have b2 : b ≠ dx := ne_of_none e nd
  rw [upd_ne b1, upd_ne b2, upd_ne b1]
  exact e
section
variable {X : Cx} {x fld n : Str} {C : Addr} {k j : Nat} {p pos : Pos} {e : Expr} {es : List Expr} {ta : TA} {te : TE} {kws : List Keyword} {ks : List Str}
theorem pe_xm (c : XMk X.prog X.w X.K X.mg X.base k x C fld) (hr : Room j X.A) (hk : k + 1 ≤ j) (hg : Gl X x) (ha : PA X (e :: es) ta)
    (hdb : (x == ("__debug__" : Str)) = false := by decide) (he : starEach (e :: es) X.env = (false, eval e X.env) :: starEach es X.env := by rfl) (hpl : (backTo pos (starEach es X.env)).any (·.1) = false := by rfl) :
    PE X (.Call (.Name x p) (e :: es) [] pos) (tMkE C fld ta) := by
  obtain ⟨fI, fd, ps, T, iC, tI, F1, hb, hm⟩ := c.ex
  refine ⟨fun pins s σ H Q I h => ?_⟩
  obtain ⟨nm, q, N, bs, bm, sn, sub, ab, col, dd, k0, k1, k2, k3, k5, hC, hbm⟩ := T.cls
  refine wpAny_Call_Name_kw (ld_glob I hg hm ?_ hdb)
  refine PySem.W.callWith_K (h₀ := X.base) I.ok.mod.kin T.kC (thn (ha.run pos pins s σ H _ I h) fun us s1 ⟨vs, H1, I1, r1, v0, ev, q1⟩ => ⟨I1.kIn, ?_⟩) he hpl
  subst ev
  show wpAny _ _ (call (.ref C) us) _ _ _
  obtain ⟨hp, g, dr, tk, os⟩ := s1
  have hsz : hp.objs.size ≤ hp.objs.size + 1 := Nat.le_succ _
  have hn : H1 (hp.objs.size + 1) = none := I1.hok.fresh hsz
  have hq := xi_run (a := hp.objs.size + 1) (C := C) (fld := fld) (v := v0) (Q := Q) hn q1
  have kk : ∀ b o, hp.get? b = some o → ((hp.push (PySem.W.kdv_tup us)).push (PySem.HandSPX.excO C hp.objs.size)).get? b = some o := fun b o e => Heap.get?_push_of_some _ (Heap.get?_push_of_some _ e)
  have hget : ((hp.push (PySem.W.kdv_tup us)).push (PySem.HandSPX.excO C hp.objs.size)).get? (hp.objs.size + 1) = some (PySem.HandSPX.excO C hp.objs.size) := by heap_get
  have I2 : Inv X pins σ (upd H1 (hp.objs.size + 1) (exo (hp.objs.size + 1) C none)) ⟨(hp.push (PySem.W.kdv_tup us)).push (PySem.HandSPX.excO C hp.objs.size), g, dr, tk, os⟩ :=
    I1.laid (t' := tk) (a := hp.objs.size + 1) (o := exo (hp.objs.size + 1) C none) (h' := (hp.push (PySem.W.kdv_tup us)).push (PySem.HandSPX.excO C hp.objs.size)) kk hsz (exo_ok hget)
  have r2 : Vals [V.ref (hp.objs.size + 1), v0] (Value.ref (hp.objs.size + 1) :: us) := .cons rfl r1
  have hl : (Value.ref (hp.objs.size + 1) :: us).length = ps.length := by
    have e := r2.length
    rw [F1.len _ _ _ _ hq] at e
    exact e.symm
  have hus : us.length ≤ sizeLine := by
    rw [← Paired.length r1, sizeLine_eq]
    show 1 ≤ _
    decide
  refine wpAny_call (PySem.HandSPX.call_own F.excBase_ValueError (fun Y => PySem.HandSPX.refsVE_contains Y bm hbm) (I1.kIn _ _ hC) (PySem.W.looks_findIn I1.kIn iC) (fun self => PySem.W.bind_fn I1.kIn self tI) hus
    (codeAny_mono (F1.run _ X.stack _ _ ⟨Value.ref (hp.objs.size + 1) :: us, []⟩ (Value.ref (hp.objs.size + 1) :: us) _ _ (fun _ _ _ => False) ((hr.mono hk).make C us []) (I2.env0.make C us []) (by have := hb _ (Value.ref (hp.objs.size + 1) :: us) I2.kIn (by rw [List.append_nil]; exact hl); rw [List.append_nil] at this; exact this) r2 hq) fun r s' hq' => ?_))
  cases r with
  | error er => exact L2.pass0 pins σ _ _ er s' I2 hq'
  | ok fl =>
    cases fl with
    | ret u =>
      obtain ⟨v, H', I3, rv, ev, q3⟩ := I2.after hq'
      subst ev
      exact ⟨rv, ⟨V.ref (hp.objs.size + 1), H', I3, rfl, q3⟩⟩
    | next => exact False.elim hq'
    | brk => exact False.elim hq'
    | cont => exact False.elim hq'
theorem pe_xmK (c : XMkK X.prog X.w X.K X.mg X.base k x C fld ks) (hr : Room j X.A) (hk : k + 1 ≤ j) (hg : Gl X x) (hkw : PK X kws ta) (hall : (backToKw pos (keywordEach kws X.env)).all (·.1.isSome) = true := by rfl) (hks : (backToKw pos (keywordEach kws X.env)).filterMap (·.1) = ks := by rfl)
    (hdb : (x == ("__debug__" : Str)) = false := by decide) (hpl : ((backTo pos (starEach [] X.env)).any (·.1) || (backToKw pos (keywordEach kws X.env)).any (·.1.isNone)) = false := by rfl) :
    PE X (.Call (.Name x p) [] kws pos) (tMkE C fld ta) := by
  obtain ⟨fI, fd, ps, T, iC, tI, F1, hb, hm, hk1⟩ := c.ex
  refine ⟨fun pins s σ H Q I h => ?_⟩
  obtain ⟨nm, q, N, bs, bm, sn, sub, ab, col, dd, k0, k1, k2, k3, k5, hC, hbm⟩ := T.cls
  refine wpAny_Call_Name_kw (ld_glob I hg hm ?_ hdb)
  refine PySem.W.callWith_KW0 (first := []) (h₀ := X.base) I.ok.mod.kin T.kC hall (thn (hkw.run pos pins s σ H _ I h) fun ws s1 ⟨zs, H1, I1, rz, v0, ev, q1⟩ => ⟨I1.kIn, ?_⟩) hpl
  subst ev
  rw [hks]
  obtain ⟨hp, g, dr, tk, os⟩ := s1
  have hsz : hp.objs.size ≤ hp.objs.size + 1 := Nat.le_succ _
  have hn : H1 (hp.objs.size + 1) = none := I1.hok.fresh hsz
  have hq := xi_run (a := hp.objs.size + 1) (C := C) (fld := fld) (v := v0) (Q := Q) hn q1
  have kk : ∀ b o, hp.get? b = some o → ((hp.push (PySem.W.kdv_tup [])).push (PySem.HandSPX.excO C hp.objs.size)).get? b = some o := fun b o e => Heap.get?_push_of_some _ (Heap.get?_push_of_some _ e)
  have hget : ((hp.push (PySem.W.kdv_tup [])).push (PySem.HandSPX.excO C hp.objs.size)).get? (hp.objs.size + 1) = some (PySem.HandSPX.excO C hp.objs.size) := by heap_get
  have I2 : Inv X pins σ (upd H1 (hp.objs.size + 1) (exo (hp.objs.size + 1) C none)) ⟨(hp.push (PySem.W.kdv_tup [])).push (PySem.HandSPX.excO C hp.objs.size), g, dr, tk, os⟩ :=
    I1.laid (t' := tk) (a := hp.objs.size + 1) (o := exo (hp.objs.size + 1) C none) (h' := (hp.push (PySem.W.kdv_tup [])).push (PySem.HandSPX.excO C hp.objs.size)) kk hsz (exo_ok hget)
  have r1 : Vals [V.ref (hp.objs.size + 1)] [Value.ref (hp.objs.size + 1)] := .cons rfl .nil
  have e2 : ws.length = ks.length := by rw [hk1]; exact (Paired.length rz).symm
  refine wpAny_call (ExK.call_kw F.excBase_ValueError (fun Y => PySem.HandSPX.refsVE_contains Y bm hbm) (I1.kIn _ _ hC) (PySem.W.looks_findIn I1.kIn iC) (fun self => PySem.W.bind_fn I1.kIn self tI)
    (codeAny_mono (F1.run _ X.stack _ _ ⟨[Value.ref (hp.objs.size + 1)], ks.zip ws⟩ ([Value.ref (hp.objs.size + 1)] ++ ws) _ _ (fun _ _ _ => False) ((hr.mono hk).make C [] (ks.zip ws)) (I2.env0.make C [] (ks.zip ws)) (hb.to _ _ ws I2.kIn rfl e2) (hb.rel r1 rz) hq) fun r s' hq' => ?_))
  cases r with
  | error er => exact L2.pass0 pins σ _ _ er s' I2 hq'
  | ok fl =>
    cases fl with
    | ret u =>
      obtain ⟨v, H', I3, rv, ev, q3⟩ := I2.after hq'
      subst ev
      exact ⟨rv, ⟨V.ref (hp.objs.size + 1), H', I3, rfl, q3⟩⟩
    | next => exact False.elim hq'
    | brk => exact False.elim hq'
    | cont => exact False.elim hq'
/-- the field of such an error -/
def tXfl (C : Addr) (f : Str) (te : TE) : TE := fun σ H Q => te σ H fun x H1 => ∃ (a d : Addr) (fs : List (Str × V)) (v : V), x = .ref a ∧ H1 a = some (exo a C (some d)) ∧ H1 d = some (exd d fs) ∧ fs.lookup f = some v ∧ Q v H1
theorem pe_xfl (T : XfC X.K C) (hno : PySem.W.findIn X.K (.ref C) n = some none) (he : PE X e te) (hb : attributeBase e n X.env (eval e X.env) = eval e X.env := by rfl) : PE X (.Attribute e n pos) (tXfl C n te) := by
  refine ⟨fun pins s σ H Q I h => ?_⟩
  refine attr_of hb (thn (he.run pins s σ H _ I h) fun u s1 hh => ?_)
  obtain ⟨x, H1, I1, rx, a, d, fs, v, ex, ea, ed, l, q⟩ := hh
  subst ex
  obtain rfl : u = Value.ref a := rx
  obtain ⟨t1, ha⟩ := exo_at I1.hok ea
  obtain ⟨mA, hns, hr⟩ := exd_at I1.hok ed
  obtain ⟨od, ho, hl⟩ := lookIn_ns hns
  obtain ⟨u, hu, ru⟩ := RelO.some_of (v := v) (o := mA n) (by rw [← l]; exact hr n)
  have J : PySem.W.InstAt s1.heap a _ C (some od) := ⟨ha, rfl, rfl, ho⟩
  exact HandSPX.exc_get I1.kIn J T.ga T.gg T.exC (PySem.W.findObj_own T.hdC hno rfl (by rw [hl, hu])) (handed_of ru) ⟨v, H1, I1.tok _, ru, q⟩
end
end ExS
namespace Lx
open PySem PySem.Spec PyProof.Rows L2
/-- a classmethod called by the names of all its parameters, in their order -/
structure CMtK (P : Program) (w : World) (K : PySem.W.Frag) (mg : Str → Option Value) (base : Heap) (k : Nat) (x : Str) (C : Addr) (m : Str) (sp : Sp) (ks : List Str) : Prop where
  ex : ∃ (mc : Value) (p g : Addr) (fd : FuncData) (ps : List Str), mg x = some (.ref C) ∧ ClX.CRead K C mc ∧ ClX.CMet K C mc m p g ∧ FnOk P w K mg base C8.CX0 k g fd ps sp ∧ KBn K fd ps 1 ks (fun us ws => us ++ ws) (fun vs zs => vs ++ zs)
def tCMethK (C : Addr) (n : Nat) (sp : Sp) (tk : TA) : TE := fun σ H Q => tk σ H fun zs H1 => zs.length = n ∧ sp (.ref C :: zs) H1 Q C8.E0
section
variable {X : Cx} {k j : Nat} {C : Addr} {sp : Sp} {x m : Str} {p pos apos : Pos} {kws : List Keyword} {tk : TA} {ks : List Str}
theorem pe_cmK {pl : Sem Bool} (c : CMtK X.prog X.w X.K X.mg X.base k x C m sp ks) (hr : Room j X.A) (hk : k ≤ j) (hg : Gl X x) (hkw : PK X kws tk) (hall : (backToKw pos (keywordEach kws X.env)).all (·.1.isSome) = true := by rfl) (hks : (backToKw pos (keywordEach kws X.env)).filterMap (·.1) = ks := by rfl)
    (hdb : (x == ("__debug__" : Str)) = false := by decide)
    (hpl : ((backTo pos (starEach [] X.env)).any (·.1) || (backToKw pos (keywordEach kws X.env)).any (·.1.isNone)) = false := by rfl)
    (ht : eval (.Call (.Attribute (.Name x p) m apos) [] kws pos) X.env = (do
      let ov ← eval (.Name x p) X.env
      standAt apos.atName
      let (f, first) ← holding [ov] (getMethod ov m pl)
      callWith pos f first (backTo pos (starEach [] X.env)) (backToKw pos (keywordEach kws X.env))) := by rfl) :
    PE X (.Call (.Attribute (.Name x p) m apos) [] kws pos) (tCMethK C ks.length sp tk) := by
  obtain ⟨mc, q, g, fd, ps, hm, r, cm, F, b⟩ := c.ex
  refine ⟨fun pins s σ H Q I h => ?_⟩
  refine PySem.W.methodCall_KW (pl := pl) (thn ((pe_glob (pos := p) (v := .ref C) hg hm rfl hdb).run pins s σ H (fun v H1 => v = .ref C ∧ H1 = H) I ⟨rfl, rfl⟩) fun u s1 ⟨x1, H1, I1, rx, ex, eh⟩ => ?_) ht
  subst ex eh
  obtain rfl : u = Value.ref C := rx
  refine ClX.getmethcm_ok I1 r cm fun s2 I2 => ?_
  have hq := ClX.pin_at I2
  refine PySem.W.callWith_of hpl (fun h P => PySem.W.keeps_M cm.fi h P) (evalArgs_kw2_nil hall (thn (hkw.run pos _ s2 σ H1 _ I2 h) fun ws s3 ⟨zs, H2, I3, rz, l2, q2⟩ => ⟨⟨ClX.pin_at I3, I3.kIn⟩, ?_⟩))
  rw [hks]
  have z : wpAny (model X.prog X.w) X.A (call (.ref s1.heap.objs.size) [] (ks.zip ws)) (EP X ((s1.heap.objs.size, PySem.W.methodObj (.ref g) (.ref C)) :: pins) σ Q) X.xe s3 := by
    refine wpAny_call (PySem.W.method_call (ClX.pin_at I3) ?_)
    refine codeAny_mono (F.run X.A X.stack s3 H2 ⟨[.ref C], ks.zip ws⟩ ([.ref C] ++ ws) ([.ref C] ++ zs) Q C8.E0 (hr.mono hk) I3.env0 (b.to s3 _ ws I3.kIn rfl (rz.length.symm.trans l2)) (b.rel (vs := [V.ref C]) (us := [Value.ref C]) (.cons rfl .nil) rz) q2) fun r s' hq => ?_
    cases r with
    | error e => exact (C8.pass0 (X := X) (E := C8.E0)) _ σ H2 s3 e s' I3 hq
    | ok fl =>
      cases fl with
      | ret u => exact I3.after hq
      | next => exact False.elim hq
      | brk => exact False.elim hq
      | cont => exact False.elim hq
  exact thn z fun _ _ y => ClX.unpinE y
/-- a class called by the names ks alone, the other parameters by their defaults: is tells where each parameter's value stands -/
structure MakD (P : Program) (w : World) (K : PySem.W.Frag) (mg : Str → Option Value) (base : Heap) (k : Nat) (x : Str) (C : Addr) (sp : Sp) (ks : List Str) (is : List Nat) (dvs : List V) : Prop where
  ex : ∃ (f : Addr) (fd : FuncData) (ps : List Str) (g : List Value → List Value → List Value), Mk K C f ∧ FnOk P w K mg base C8.CX0 k f fd ps sp ∧ mg x = some (.ref C) ∧ KBn K fd ps 1 ks g (fun vs zs => vs ++ pick is (zs ++ dvs))
def tMakeD (C : Addr) (n : Nat) (sp : Sp) (is : List Nat) (dvs : List V) (tk : TA) : TE := fun σ H Q => tk σ H fun zs H1 => zs.length = n ∧ ∀ x dx, H1 x = none → H1 dx = none → dx ≠ x →
  sp ([.ref x] ++ pick is (zs ++ dvs)) (upd (upd H1 dx (.own x)) x (.ins C dx [])) (fun v H2 => v = .non ∧ Q (.ref x) H2) C8.E0
theorem pe_mkD {is : List Nat} {dvs : List V} (c : MakD X.prog X.w X.K X.mg X.base k x C sp ks is dvs) (hr : Room j X.A) (hk : k + 1 ≤ j) (hg : Gl X x) (hkw : PK X kws tk) (hall : (backToKw pos (keywordEach kws X.env)).all (·.1.isSome) = true := by rfl) (hks : (backToKw pos (keywordEach kws X.env)).filterMap (·.1) = ks := by rfl)
    (hdb : (x == ("__debug__" : Str)) = false := by decide) (hpl : ((backTo pos (starEach [] X.env)).any (·.1) || (backToKw pos (keywordEach kws X.env)).any (·.1.isNone)) = false := by rfl) :
    PE X (.Call (.Name x p) [] kws pos) (tMakeD C ks.length sp is dvs tk) := by
  obtain ⟨f, fd, ps, g, M, F, hm, b⟩ := c.ex
  refine ⟨fun pins s σ H Q I h => ?_⟩
  refine wpAny_Call_Name_kw (ld_glob I hg hm ?_ hdb)
  refine PySem.W.callWith_KW0 (first := []) (h₀ := X.base) I.ok.mod.kin M.kp hall (thn (hkw.run pos pins s σ H _ I h) fun ws s2 ⟨zs, H2, I2, rz, l2, q2⟩ => ⟨I2.kIn, ?_⟩) hpl
  rw [hks]
  exact run_makeN (n := 0) (us := []) (vs := []) M F (hr.mono hk) b C8.pass0 I2 .nil rz rfl l2 q2
theorem vals_pick2 {vs zs dvs : List V} {us ws its : List Value} (is : List Nat) (r1 : Vals vs us) (rd : Vals dvs its) (r2 : Vals zs ws) : Vals (vs ++ pick is (zs ++ dvs)) (us ++ pick is (ws ++ its)) := r1.append (vals_pick is (r2.append rd))
theorem valsM_pick {vs zs : List V} {us ws : List Value} (is : List Nat) (r1 : Vals vs us) (r2 : Vals zs ws) : Vals (pickM is (vs.headD .non) zs) (us.headD .none :: pick is ws) := by
  cases r1 with
  | nil => exact .cons rfl (vals_pick is r2)
  | cons h _ => exact .cons h (vals_pick is r2)
end
end Lx

set_option maxRecDepth 100000
set_option maxHeartbeats 4000000
namespace U
open PySem PySem.Spec PyProof.Rows
open L2 hiding Fun CX0 E0 pass0 Fun.binds
open C8 Lx SX
/-! words of bits as texts -/
def bt (b : Bool) : Nat := if b then 49 else 48
def W (l : List Bool) : Str := S (l.map bt)
theorem bt_inj : ∀ {a b : Bool}, bt a = bt b → a = b := by decide
theorem map_bt_inj : ∀ {a b : List Bool}, a.map bt = b.map bt → a = b
  | [], [], _ => rfl
  | [], _ :: _, h => by simp at h
  | _ :: _, [], h => by simp at h
  | x :: l, y :: m, h => by
    rw [List.map_cons, List.map_cons] at h
    injection h with h1 h2
    rw [bt_inj h1, map_bt_inj h2]
theorem W_inj {a b : List Bool} (h : W a = W b) : a = b := map_bt_inj (S_inj h)
theorem W_eq {a b : List Bool} : (W a = W b) ↔ a = b := ⟨W_inj, fun h => by rw [h]⟩
theorem W_len (a : List Bool) : (W a).length = a.length := by unfold W; rw [S_len, List.length_map]
theorem W_size (a : List Bool) : (W a).cps.size = a.length := by unfold W; simp
theorem W_cat (a b : List Bool) : W a ++ W b = W (a ++ b) := by unfold W; rw [S_cat, List.map_append]
theorem W_nil : ("" : Str) = W [] := by decide +kernel
theorem W_0 : ("0" : Str) = W [false] := by decide +kernel
theorem W_1 : ("1" : Str) = W [true] := by decide +kernel
theorem W_get {a : List Bool} {i : Nat} {c : Nat} (h : (W a).cps[i]? = some c) : ∃ b, a[i]? = some b ∧ c = bt b := by
  unfold W S at h
  rw [List.getElem?_toArray, List.getElem?_map] at h
  cases e : a[i]? with
  | none => rw [e] at h; cases h
  | some b => rw [e] at h; exact ⟨b, rfl, (Option.some.inj h).symm⟩
theorem W_bit (b : Bool) : (⟨#[bt b]⟩ : Str) = W [b] := rfl
theorem W_tl (a : List Bool) : (W a).cps.toList = a.map bt := rfl
theorem joinL_nil : ∀ ys : List (List Nat), TL.joinL [] ys = ys.flatten
  | [] => rfl
  | [p] => by simp [TL.joinL]
  | p :: q :: r => by
    show p ++ ([] ++ TL.joinL [] (q :: r)) = _
    rw [List.nil_append, joinL_nil (q :: r)]
    rfl
theorem join_W (ls : List (List Bool)) : Txt.join "" (ls.map W) = W ls.flatten := by
  have e : (ls.map W) = (ls.map (·.map bt)).map S := by rw [List.map_map]; rfl
  have e2 : ("" : Str) = S [] := by decide +kernel
  rw [e, e2, join_S, joinL_nil]
  unfold W
  rw [List.map_flatten]
theorem join_bits (l : List Bool) : Txt.join "" (l.map fun b => W [b]) = W l := by
  have e : (l.map fun b => W [b]) = (l.map fun b => [b]).map W := by rw [List.map_map]; rfl
  rw [e, join_W]
  congr 1
  induction l with
  | nil => rfl
  | cons b r ih => simp [ih]
theorem sum_lens : ∀ ls : List (List Bool), ((ls.map W).map (·.length)).sum = (ls.map (·.length)).sum
  | [] => rfl
  | l :: r => by
    rw [List.map_cons, List.map_cons, List.map_cons, List.sum_cons, List.sum_cons, W_len, sum_lens r]
theorem sl_len {n : Nat} (h : n ≤ 100000) : n ≤ sizeLine := Nat.le_trans h (by decide)
theorem sl_lt {n : Nat} (h : n < 100000) : n < sizeLine := Nat.lt_of_lt_of_le h (by decide)
def bitsV (l : List Bool) : List V := (l.map fun b => W [b]).map V.str
theorem lens_bits (l : List Bool) : ((l.map fun b => W [b]).map (·.length)).sum = l.length := by
  induction l with
  | nil => rfl
  | cons b r ih => rw [List.map_cons, List.map_cons, List.sum_cons, ih, W_len, List.length_cons]; simp only [List.length_cons, List.length_nil]; omega
theorem bitsV_len (l : List Bool) : (bitsV l).length = l.length := by unfold bitsV; rw [List.length_map, List.length_map]
theorem bitsV_snoc (l : List Bool) (b : Bool) : bitsV l ++ [V.str (W [b])] = bitsV (l ++ [b]) := by unfold bitsV; simp
theorem mem2 {v : V} (h : v ∈ ([.str "0", .str "1"] : List V)) : ∃ b : Bool, v = .str (W [b]) := by
  rcases List.mem_cons.mp h with rfl | h
  · exact ⟨false, by rw [W_0]⟩
  · rcases List.mem_cons.mp h with rfl | h
    · exact ⟨true, by rw [W_1]⟩
    · cases h
theorem empty_len : ("" : Str).length = 0 := by decide +kernel
/-! tests whose answer is known -/
theorem q_dec {c : Prop} [Decidable c] {Q : VK} {H : Hp} (hc : c) (h : Q (.bl true) H) : Q (.bl (decide c)) H := by rw [decide_eq_true hc]; exact h
theorem q_ndec {c : Prop} [Decidable c] {Q : VK} {H : Hp} (hc : ¬ c) (h : Q (.bl false) H) : Q (.bl (decide c)) H := by rw [decide_eq_false hc]; exact h
theorem iteDT {c A B : Prop} [Decidable c] (hc : c) (h : A) : if decide c = true then A else B := by rw [decide_eq_true hc]; exact iteT h
theorem iteDF {c A B : Prop} [Decidable c] (hc : ¬ c) (h : B) : if decide c = true then A else B := by rw [decide_eq_false hc]; exact iteF h
theorem iteNT {c A B : Prop} [Decidable c] (hc : ¬ c) (h : A) : if (!decide c) = true then A else B := by rw [decide_eq_false hc]; exact iteT h
theorem iteBT {b : Bool} {A B : Prop} (hc : b = true) (h : A) : if b = true then A else B := by rw [hc]; exact iteT h
theorem iteBF {b : Bool} {A B : Prop} (hc : b = false) (h : B) : if b = true then A else B := by rw [hc]; exact iteF h
def oW : Option (List Bool) → V
  | none => .non
  | some x => .str (W x)
/-! slices -/
theorem W_drop {a : List Bool} {i : Int} (h : 0 ≤ i) : Txt.slice (W a) (some i) none = W (a.drop i.toNat) := by
  unfold W; rw [slice_from h, List.map_drop]
theorem W_take {a : List Bool} {i : Int} (h : 0 ≤ i) : Txt.slice (W a) none (some i) = W (a.take i.toNat) := by
  unfold W; rw [slice_to h, List.map_take]
theorem repl_succ (l : List Bool) (n : Nat) : (List.replicate (n + 1) l).flatten = l ++ (List.replicate n l).flatten := by rw [List.replicate_succ]; rfl
theorem foldl_app : ∀ (n : Nat) (a b : Array Nat), ((List.replicate n a).foldl (· ++ ·) b).toList = b.toList ++ (List.replicate n a.toList).flatten
  | 0, a, b => by simp
  | n + 1, a, b => by
    rw [List.replicate_succ, List.foldl_cons, foldl_app n a (b ++ a), List.replicate_succ, List.flatten_cons, Array.toList_append, List.append_assoc]
theorem mul_W {l : List Bool} {n : Nat} (h : 1 ≤ n) : Txt.mul (W l) (n : Int) = W (List.replicate n l).flatten := by
  refine TL.ext_tl ?_
  unfold Txt.mul
  rw [if_neg (by omega)]
  by_cases c : (((n : Int) == 1) || (W l).length == 0) = true
  · rw [if_pos c]
    simp only [Bool.or_eq_true, beq_iff_eq] at c
    rcases c with c | c
    · have : n = 1 := by omega
      subst this
      simp
    · rw [W_len] at c
      have : l = [] := List.length_eq_zero_iff.mp c
      subst this
      rw [show (List.replicate n ([] : List Bool)).flatten = [] by simp]
  · rw [if_neg c]
    show ((List.replicate (n : Int).toNat (W l).cps).foldl (· ++ ·) #[]).toList = _
    rw [foldl_app, Int.toNat_natCast]
    show [] ++ (List.replicate n (l.map bt)).flatten = ((List.replicate n l).flatten).map bt
    rw [List.map_flatten, List.map_replicate, List.nil_append]
end U

set_option maxRecDepth 100000
set_option maxHeartbeats 4000000
/-! rules, in plain Lean -/
namespace U
abbrev Stf := List Bool × Bool
def putM (ss : List Stf) (l : List Bool) : Option Bool := (ss.find? fun s => s.1.isSuffixOf l).map (·.2)
/-- the bits that are put in behind l -/
inductive Ins (ss : List Stf) : List Bool → List Bool → Prop
  | stop {l : List Bool} : putM ss l = none → Ins ss l []
  | more {l x : List Bool} {b : Bool} : putM ss l = some b → Ins ss (l ++ [b]) x → Ins ss l (b :: x)
inductive Reach (ss : List Stf) : List Bool → Prop
  | nil : Reach ss []
  | next {l x : List Bool} {b : Bool} : Reach ss l → Ins ss (l ++ [b]) x → Reach ss (l ++ [b] ++ x)
def OkR (ss : List Stf) : Prop := ∀ l, Reach ss l → ∀ b, ∃ x, Ins ss (l ++ [b]) x
/-- each message ends, within n bits that are put in at a time -/
def OkN (n : Nat) (ss : List Stf) : Prop := ∀ l, Reach ss l → ∀ b, ∃ x, Ins ss (l ++ [b]) x ∧ x.length ≤ n
abbrev OkS (ss : List Stf) : Prop := OkN 19 ss
theorem OkN.ok {n : Nat} {ss : List Stf} (h : OkN n ss) : OkR ss := fun l r b => by
  obtain ⟨x, hx, _⟩ := h l r b
  exact ⟨x, hx⟩
theorem OkN.mono {n m : Nat} {ss : List Stf} (h : OkN n ss) (hn : n ≤ m) : OkN m ss := fun l r b => by
  obtain ⟨x, hx, h1⟩ := h l r b
  exact ⟨x, hx, Nat.le_trans h1 hn⟩
def tl (n : Nat) (l : List Bool) : List Bool := l.drop (l.length - n)
theorem tl_len (n : Nat) (l : List Bool) : (tl n l).length = min n l.length := by unfold tl; rw [List.length_drop]; omega
theorem tl_le (n : Nat) (l : List Bool) : (tl n l).length ≤ n := by rw [tl_len]; omega
theorem tl_id {n : Nat} {l : List Bool} (h : l.length ≤ n) : tl n l = l := by
  unfold tl
  rw [show l.length - n = 0 by omega, List.drop_zero]
theorem tl_tl {a b : Nat} (h : a ≤ b) (l : List Bool) : tl a (tl b l) = tl a l := by
  unfold tl
  rw [List.drop_drop, List.length_drop]
  congr 1
  omega
theorem tl_of {a b : Nat} (h : a ≤ b) {l m : List Bool} (e : tl b l = tl b m) : tl a l = tl a m := by rw [← tl_tl h l, e, tl_tl h m]
theorem tl_snoc0 (n : Nat) (l : List Bool) (b : Bool) : tl (n + 1) (l ++ [b]) = tl n l ++ [b] := by
  unfold tl
  rw [List.length_append, List.length_cons, List.length_nil, List.drop_append]
  have e : l.length + (0 + 1) - (n + 1) = l.length - n := by omega
  rw [e, show l.length - n - l.length = 0 by omega]
  rfl
theorem tl_zero (l : List Bool) : tl 0 l = [] := by unfold tl; rw [List.drop_eq_nil_iff]; omega
theorem tl_snoc {n : Nat} {l m : List Bool} {b : Bool} (e : tl n l = tl n m) : tl n (l ++ [b]) = tl n (m ++ [b]) := by
  cases n with
  | zero => rw [tl_zero, tl_zero]
  | succ n => rw [tl_snoc0, tl_snoc0, tl_of (Nat.le_succ n) e]
theorem tl_app {n : Nat} {l m : List Bool} (e : tl n l = tl n m) : ∀ x : List Bool, tl n (l ++ x) = tl n (m ++ x)
  | [] => by rw [List.append_nil, List.append_nil]; exact e
  | b :: x => by
    have := tl_app (tl_snoc (b := b) e) x
    rw [List.append_assoc, List.append_assoc] at this
    exact this
theorem suf_iff {p l : List Bool} : p.isSuffixOf l = true ↔ p = tl p.length l := by
  rw [List.isSuffixOf_iff_suffix, List.suffix_iff_eq_drop]
  rfl
theorem suf_tl {L : Nat} {p l m : List Bool} (h : p.length ≤ L) (e : tl L l = tl L m) : p.isSuffixOf l = p.isSuffixOf m := by
  rw [Bool.eq_iff_iff, suf_iff, suf_iff, tl_of h e]
theorem put_tl {L : Nat} {l m : List Bool} (e : tl L l = tl L m) : ∀ {ss : List Stf}, (∀ s ∈ ss, s.1.length ≤ L) → putM ss l = putM ss m
  | [], _ => rfl
  | s :: r, h => by
    have ih := put_tl e (ss := r) fun s hs => h s (List.mem_cons_of_mem _ hs)
    have es := suf_tl (h s List.mem_cons_self) e
    unfold putM at ih ⊢
    rw [List.find?_cons, List.find?_cons, es]
    cases s.1.isSuffixOf m with
    | true => rfl
    | false => exact ih
theorem Ins.tl {ss : List Stf} {L : Nat} (hL : ∀ s ∈ ss, s.1.length ≤ L) {l x : List Bool} (h : Ins ss l x) : ∀ {m}, tl L l = tl L m → Ins ss m x := by
  induction h with
  | stop h => intro m e; exact .stop (by rw [← put_tl e hL]; exact h)
  | more h _ ih => intro m e; exact .more (by rw [← put_tl e hL]; exact h) (ih (tl_snoc e))
theorem Ins.det {ss : List Stf} {l x : List Bool} (h : Ins ss l x) : ∀ {y}, Ins ss l y → x = y := by
  induction h with
  | stop h =>
    intro y hy
    cases hy with
    | stop _ => rfl
    | more h2 _ => rw [h] at h2; cases h2
  | more h _ ih =>
    intro y hy
    cases hy with
    | stop h2 => rw [h] at h2; cases h2
    | more h2 hx =>
      rw [h] at h2
      cases h2
      rw [ih hx]
theorem Ins.end {ss : List Stf} {l x : List Bool} (h : Ins ss l x) : putM ss (l ++ x) = none := by
  induction h with
  | stop h => rw [List.append_nil]; exact h
  | more _ _ ih => rw [List.append_assoc] at ih; exact ih
theorem Ins.drop {ss : List Stf} {l x : List Bool} (h : Ins ss l x) : ∀ {i}, i ≤ x.length → Ins ss (l ++ x.take i) (x.drop i) := by
  induction h with
  | stop h => intro i hi; rw [List.take_nil, List.drop_nil, List.append_nil]; exact .stop h
  | more h hx ih =>
    intro i hi
    cases i with
    | zero => rw [List.take_zero, List.append_nil, List.drop_zero]; exact .more h hx
    | succ i =>
      have := ih (i := i) (by rw [List.length_cons] at hi; omega)
      rw [List.append_assoc] at this
      exact this
theorem Ins.at {ss : List Stf} {l x : List Bool} (h : Ins ss l x) {i : Nat} {b : Bool} (hb : x[i]? = some b) : putM ss (l ++ x.take i) = some b := by
  have hi := (List.getElem?_eq_some_iff.mp hb).1
  have h2 := h.drop (Nat.le_of_lt hi)
  rw [List.drop_eq_getElem_cons hi] at h2
  cases h2 with
  | more h3 _ => rw [h3, ← hb, List.getElem?_eq_getElem hi]
theorem Ins.apart {ss : List Stf} {L : Nat} (hL : ∀ s ∈ ss, s.1.length ≤ L) {l x : List Bool} (h : Ins ss l x) {i j : Nat} (hi : i ≤ x.length) (hj : j ≤ x.length) (e : U.tl L (l ++ x.take i) = U.tl L (l ++ x.take j)) : i = j := by
  have := congrArg List.length (((h.drop hi).tl hL e).det (h.drop hj))
  rw [List.length_drop, List.length_drop] at this
  omega
/-! how many words there are -/
def allW : Nat → List (List Bool)
  | 0 => [[]]
  | n + 1 => [] :: ((allW n).map (false :: ·) ++ (allW n).map (true :: ·))
theorem allW_len : ∀ n, (allW n).length + 1 = 2 ^ (n + 1)
  | 0 => rfl
  | n + 1 => by
    have := allW_len n
    show ([] :: ((allW n).map (false :: ·) ++ (allW n).map (true :: ·))).length + 1 = _
    rw [List.length_cons, List.length_append, List.length_map, List.length_map, Nat.pow_succ]
    omega
theorem mem_allW : ∀ {n : Nat} {w : List Bool}, w.length ≤ n → w ∈ allW n
  | 0, [], _ => List.mem_cons_self
  | 0, _ :: _, h => by rw [List.length_cons] at h; omega
  | n + 1, [], _ => List.mem_cons_self
  | n + 1, b :: w, h => by
    have := mem_allW (n := n) (w := w) (by rw [List.length_cons] at h; omega)
    refine List.mem_cons_of_mem _ (List.mem_append.mpr ?_)
    cases b with
    | false => exact .inl (List.mem_map_of_mem this)
    | true => exact .inr (List.mem_map_of_mem this)
theorem nodup_le {α : Type} [DecidableEq α] : ∀ {l m : List α}, l.Nodup → (∀ x ∈ l, x ∈ m) → l.length ≤ m.length
  | [], _, _, _ => Nat.zero_le _
  | x :: r, m, hn, hs => by
    have hx := hs x List.mem_cons_self
    have hn' := List.nodup_cons.mp hn
    have h2 := nodup_le (l := r) (m := m.erase x) hn'.2 fun y hy => by
      have hne : y ≠ x := fun e => hn'.1 (e ▸ hy)
      exact (List.mem_erase_of_ne hne).mpr (hs y (List.mem_cons_of_mem _ hy))
    rw [List.length_erase_of_mem hx] at h2
    have := List.length_pos_of_mem hx
    rw [List.length_cons]
    omega
theorem words_le {ws : List (List Bool)} {n : Nat} (hn : ws.Nodup) (hl : ∀ w ∈ ws, w.length ≤ n) : ws.length + 1 ≤ 2 ^ (n + 1) := by
  have := nodup_le hn fun w hw => mem_allW (hl w hw)
  have := allW_len n
  omega
theorem Ins.len {ss : List Stf} {L : Nat} (hL : ∀ s ∈ ss, s.1.length ≤ L) {l x : List Bool} (h : Ins ss l x) : x.length + 1 ≤ 2 ^ (L + 1) := by
  have := words_le (ws := (List.range x.length).map fun i => U.tl L (l ++ x.take i)) (n := L) (by
    rw [List.nodup_iff_pairwise_ne, List.pairwise_map]
    refine List.Pairwise.imp_of_mem ?_ List.nodup_range
    intro a b ha hb hne e
    have ha' := List.mem_range.mp ha
    have hb' := List.mem_range.mp hb
    exact hne (h.apart hL (Nat.le_of_lt ha') (Nat.le_of_lt hb') e)) (fun w hw => by
      obtain ⟨i, _, rfl⟩ := List.mem_map.mp hw
      exact tl_le _ _)
  rw [List.length_map, List.length_range] at this
  exact this
/-! the order of the stuffs does not matter -/
def SufFree (ss : List Stf) : Prop := ss.Pairwise fun a b => ¬ a.1 <:+ b.1 ∧ ¬ b.1 <:+ a.1
theorem SufFree.ne {ss : List Stf} (h : SufFree ss) {a b : Stf} (ha : a ∈ ss) (hb : b ∈ ss) (n : a ≠ b) : ¬ a.1 <:+ b.1 := by
  unfold SufFree at h
  induction ss with
  | nil => cases ha
  | cons s r ih =>
    obtain ⟨h1, h2⟩ := List.pairwise_cons.mp h
    rcases List.mem_cons.mp ha with ea | ha'
    · rcases List.mem_cons.mp hb with eb | hb'
      · exact absurd (ea.trans eb.symm) n
      · rw [ea]; exact (h1 _ hb').1
    · rcases List.mem_cons.mp hb with eb | hb'
      · rw [eb]; exact (h1 _ ha').2
      · exact ih h2 ha' hb'
theorem put_iff {ss : List Stf} (h : SufFree ss) {l : List Bool} {b : Bool} : putM ss l = some b ↔ ∃ p, (p, b) ∈ ss ∧ p <:+ l := by
  unfold putM
  constructor
  · intro e
    obtain ⟨s, hs, rfl⟩ := Option.map_eq_some_iff.mp e
    exact ⟨s.1, List.mem_of_find?_eq_some hs, List.isSuffixOf_iff_suffix.mp (List.find?_some (p := fun s : Stf => s.1.isSuffixOf l) hs)⟩
  · rintro ⟨p, hm, hp⟩
    cases e : ss.find? fun s => s.1.isSuffixOf l with
    | none =>
      have := List.find?_eq_none.mp e _ hm
      exact absurd (List.isSuffixOf_iff_suffix.mpr hp) this
    | some s =>
      have hs := List.mem_of_find?_eq_some e
      have hq : s.1 <:+ l := List.isSuffixOf_iff_suffix.mp (List.find?_some (p := fun s : Stf => s.1.isSuffixOf l) e)
      by_cases n : s = (p, b)
      · rw [n]; rfl
      · rcases List.suffix_or_suffix_of_suffix hq hp with z | z
        · exact absurd z (h.ne hs hm n)
        · exact absurd z (h.ne hm hs (Ne.symm n))
theorem SufFree.perm {ss ts : List Stf} (h : SufFree ss) (p : ss.Perm ts) : SufFree ts := by
  unfold SufFree at h ⊢
  exact (List.Perm.pairwise_iff (fun ⟨a, b⟩ => ⟨b, a⟩) p).mp h
theorem put_perm {ss ts : List Stf} (h : SufFree ss) (p : ss.Perm ts) (l : List Bool) : putM ss l = putM ts l := by
  refine Option.ext fun b => ?_
  rw [put_iff h, put_iff (h.perm p)]
  constructor
  · rintro ⟨q, hm, hq⟩; exact ⟨q, p.mem_iff.mp hm, hq⟩
  · rintro ⟨q, hm, hq⟩; exact ⟨q, p.mem_iff.mpr hm, hq⟩
theorem Ins.congr {ss ts : List Stf} (h : ∀ l, putM ss l = putM ts l) {l x : List Bool} (i : Ins ss l x) : Ins ts l x := by
  induction i with
  | stop e => exact .stop (by rw [← h]; exact e)
  | more e _ ih => exact .more (by rw [← h]; exact e) ih
theorem Reach.congr {ss ts : List Stf} (h : ∀ l, putM ss l = putM ts l) {l : List Bool} (r : Reach ss l) : Reach ts l := by
  induction r with
  | nil => exact .nil
  | next _ i ih => exact .next ih (i.congr h)
theorem OkR.congr {ss ts : List Stf} (h : ∀ l, putM ss l = putM ts l) (o : OkR ss) : OkR ts := fun l r b => by
  obtain ⟨x, hx⟩ := o l (r.congr fun l => (h l).symm) b
  exact ⟨x, hx.congr h⟩
/-! so many puts, one behind another -/
def stP (ss : List Stf) (l : List Bool) : List Bool := match putM ss l with
  | none => l
  | some b => l ++ [b]
def itP (ss : List Stf) : Nat → List Bool → List Bool
  | 0, l => l
  | n + 1, l => itP ss n (stP ss l)
theorem itP_succ (ss : List Stf) : ∀ (n : Nat) (l : List Bool), itP ss (n + 1) l = stP ss (itP ss n l)
  | 0, _ => rfl
  | n + 1, l => itP_succ ss n (stP ss l)
theorem itP_stop {ss : List Stf} {l : List Bool} (h : putM ss l = none) : ∀ n, itP ss n l = l
  | 0 => rfl
  | n + 1 => by
    show itP ss n (stP ss l) = l
    have e : stP ss l = l := by unfold stP; rw [h]
    rw [e, itP_stop h n]
theorem itP_add (ss : List Stf) : ∀ (i j : Nat) (l : List Bool), itP ss (i + j) l = itP ss j (itP ss i l)
  | 0, j, l => by rw [Nat.zero_add]; rfl
  | i + 1, j, l => by rw [show i + 1 + j = (i + j) + 1 by omega]; exact itP_add ss i j (stP ss l)
theorem itP_rest {ss : List Stf} {i n : Nat} {l : List Bool} (h : putM ss (itP ss i l) = none) (hi : i ≤ n) : itP ss n l = itP ss i l := by
  rw [show n = i + (n - i) by omega, itP_add, itP_stop h]
theorem itP_or (ss : List Stf) : ∀ (n : Nat) (l : List Bool), (itP ss n l).length = l.length + n ∨ ∃ x, Ins ss l x ∧ itP ss n l = l ++ x
  | 0, l => .inl rfl
  | n + 1, l => by
    cases e : putM ss l with
    | none => exact .inr ⟨[], .stop e, by rw [itP_stop e, List.append_nil]⟩
    | some b =>
      have es : stP ss l = l ++ [b] := by unfold stP; rw [e]
      show (itP ss n (stP ss l)).length = _ ∨ ∃ x, Ins ss l x ∧ itP ss n (stP ss l) = l ++ x
      rw [es]
      rcases itP_or ss n (l ++ [b]) with h | ⟨x, h1, h2⟩
      · left; rw [h, List.length_append, List.length_cons, List.length_nil]; omega
      · exact .inr ⟨b :: x, .more e h1, by rw [h2, List.append_assoc]; rfl⟩
theorem itP_le (ss : List Stf) : ∀ (n : Nat) (l : List Bool), l.length ≤ (itP ss n l).length ∧ (itP ss n l).length ≤ l.length + n
  | 0, l => ⟨Nat.le_refl _, Nat.le_refl _⟩
  | n + 1, l => by
    have h := itP_le ss n (stP ss l)
    have e : l.length ≤ (stP ss l).length ∧ (stP ss l).length ≤ l.length + 1 := by
      unfold stP
      cases putM ss l with
      | none => exact ⟨Nat.le_refl _, Nat.le_succ _⟩
      | some b => show l.length ≤ (l ++ [b]).length ∧ (l ++ [b]).length ≤ _; rw [List.length_append, List.length_cons, List.length_nil]; omega
    show l.length ≤ (itP ss n (stP ss l)).length ∧ (itP ss n (stP ss l)).length ≤ _
    omega
/-- a closed set of standings, of 5 bits at most, shows that no message is without end -/
theorem okS_of {ss : List Stf} (kn : List (List Bool)) (hL : ∀ s ∈ ss, s.1.length ≤ 5) (h0 : [] ∈ kn) (hc : ∀ w ∈ kn, ∀ b, (itP ss 24 (w ++ [b])).length ≤ w.length + 20 ∧ tl 5 (itP ss 24 (w ++ [b])) ∈ kn) : OkS ss := by
  have hx : ∀ w ∈ kn, ∀ b, ∃ x, Ins ss (w ++ [b]) x ∧ tl 5 (w ++ [b] ++ x) ∈ kn ∧ x.length ≤ 19 := fun w hw b => by
    obtain ⟨h1, h2⟩ := hc w hw b
    rcases itP_or ss 24 (w ++ [b]) with h | ⟨x, hi, e⟩
    · rw [h, List.length_append, List.length_cons, List.length_nil] at h1; omega
    · rw [e] at h2 h1; exact ⟨x, hi, h2, by rw [List.length_append, List.length_append, List.length_cons, List.length_nil] at h1; omega⟩
  have hr : ∀ l, Reach ss l → ∃ w ∈ kn, tl 5 w = tl 5 l := fun l r => by
    induction r with
    | nil => exact ⟨[], h0, rfl⟩
    | @next l x b r i ih =>
      obtain ⟨w, hw, e⟩ := ih
      obtain ⟨y, hy, hm, _⟩ := hx w hw b
      have e2 := tl_snoc (b := b) e
      have ey := (hy.tl hL e2).det i
      subst ey
      exact ⟨_, hm, by rw [tl_tl (Nat.le_refl 5)]; exact tl_app e2 y⟩
  intro l r b
  obtain ⟨w, hw, e⟩ := hr l r
  obtain ⟨y, hy, _, h19⟩ := hx w hw b
  exact ⟨y, hy.tl hL (tl_snoc e), h19⟩
theorem okS_dec {ss : List Stf} (hL : (ss.all fun s => decide (s.1.length ≤ 5)) = true) (h : ((allW 5).all fun w => [false, true].all fun b => decide ((itP ss 24 (w ++ [b])).length ≤ w.length + 20)) = true) : OkS ss := by
  refine okS_of (allW 5) (fun s hs => of_decide_eq_true (List.all_eq_true.mp hL s hs)) (mem_allW (by decide)) fun w hw b => ⟨?_, mem_allW (tl_le _ _)⟩
  have := List.all_eq_true.mp (List.all_eq_true.mp h w hw) b (by cases b <;> decide)
  exact of_decide_eq_true this
theorem okS_11 : OkS [([true, true], false)] := okS_dec (by decide +kernel) (by decide +kernel)
theorem okS_001 : OkS [([false, false, true], true)] := okS_dec (by decide +kernel) (by decide +kernel)
theorem okS_1 : OkS [([true], false)] := okS_dec (by decide +kernel) (by decide +kernel)
theorem okS_00 : OkS [([false, false], true)] := okS_dec (by decide +kernel) (by decide +kernel)
theorem okS_nil : OkS [] := okS_dec (by decide +kernel) (by decide +kernel)
theorem okR_nil : OkR [] := okS_nil.ok
theorem OkN.congr {n : Nat} {ss ts : List Stf} (h : ∀ l, putM ss l = putM ts l) (o : OkN n ss) : OkN n ts := fun l r b => by
  obtain ⟨x, hx, hl⟩ := o l (r.congr fun l => (h l).symm) b
  exact ⟨x, hx.congr h, hl⟩
/-- the line for a message -/
inductive Body (ss : List Stf) : List Bool → List Bool → Prop
  | nil : Body ss [] []
  | snoc {m l x : List Bool} {b : Bool} : Body ss m l → Ins ss (l ++ [b]) x → Body ss (m ++ [b]) (l ++ [b] ++ x)
theorem Body.reach {ss : List Stf} {m l : List Bool} (h : Body ss m l) : Reach ss l := by
  induction h with
  | nil => exact .nil
  | snoc _ i ih => exact .next ih i
theorem Body.congr {ss ts : List Stf} (h : ∀ l, putM ss l = putM ts l) {m l : List Bool} (b : Body ss m l) : Body ts m l := by
  induction b with
  | nil => exact .nil
  | snoc _ i ih => exact .snoc ih (i.congr h)
theorem body_steps {N : Nat} {ss : List Stf} (o : OkN N ss) (m : List Bool) : ∃ f : Nat → List Bool, f 0 = [] ∧ (∀ i b, m[i]? = some b → ∃ x, Ins ss (f i ++ [b]) x ∧ x.length ≤ N ∧ f (i + 1) = f i ++ [b] ++ x) ∧ (∀ i, i ≤ m.length → Body ss (m.take i) (f i) ∧ (f i).length ≤ (N + 1) * i) := by
  have step : ∀ (n : Nat) (hn : n ≤ m.length), ∃ f : Nat → List Bool, f 0 = [] ∧ (∀ i b, i < n → m[i]? = some b → ∃ x, Ins ss (f i ++ [b]) x ∧ x.length ≤ N ∧ f (i + 1) = f i ++ [b] ++ x) ∧ (∀ i, i ≤ n → Body ss (m.take i) (f i) ∧ (f i).length ≤ (N + 1) * i) := by
    intro n
    induction n with
    | zero => exact fun _ => ⟨fun _ => [], rfl, fun i b h => absurd h (Nat.not_lt_zero _), fun i h => by rw [Nat.le_zero.mp h, List.take_zero]; exact ⟨.nil, Nat.le_refl _⟩⟩
    | succ n ih =>
      intro hn
      obtain ⟨f, h0, h1, h2⟩ := ih (by omega)
      have hb : m[n]? = some m[n] := List.getElem?_eq_getElem (by omega)
      obtain ⟨hB, hl⟩ := h2 n (Nat.le_refl _)
      obtain ⟨x, hx, hx19⟩ := o (f n) hB.reach m[n]
      refine ⟨fun i => if i = n + 1 then f n ++ [m[n]] ++ x else f i, ?_, fun i b hi hb' => ?_, fun i hi => ?_⟩
      · show (if 0 = n + 1 then _ else f 0) = []
        rw [if_neg (by omega), h0]
      · show ∃ y, Ins ss ((if i = n + 1 then _ else f i) ++ [b]) y ∧ _ ∧ (if i + 1 = n + 1 then f n ++ [m[n]] ++ x else f (i + 1)) = (if i = n + 1 then f n ++ [m[n]] ++ x else f i) ++ [b] ++ y
        rw [if_neg (show ¬ i = n + 1 by omega)]
        by_cases e : i = n
        · subst e
          rw [hb] at hb'
          cases hb'
          rw [if_pos rfl]
          exact ⟨x, hx, hx19, rfl⟩
        · rw [if_neg (by omega)]
          exact h1 i b (by omega) hb'
      · show Body ss (m.take i) (if i = n + 1 then _ else f i) ∧ (if i = n + 1 then f n ++ [m[n]] ++ x else f i).length ≤ (N + 1) * i
        by_cases e : i = n + 1
        · subst e
          rw [if_pos rfl, List.take_add_one, hb]
          refine ⟨.snoc hB hx, ?_⟩
          rw [List.length_append, List.length_append, List.length_cons, List.length_nil, Nat.mul_add]
          omega
        · rw [if_neg e]
          exact h2 i (by omega)
  obtain ⟨f, h0, h1, h2⟩ := step m.length (Nat.le_refl _)
  exact ⟨f, h0, fun i b hb => h1 i b (List.getElem?_eq_some_iff.mp hb).1 hb, h2⟩
theorem Ins.itP {ss : List Stf} {l x : List Bool} (h : Ins ss l x) : ∀ n, itP ss n l = l ++ x.take n := by
  induction h with
  | stop h => intro n; rw [itP_stop h, List.take_nil, List.append_nil]
  | @more l x b h _ ih =>
    intro n
    cases n with
    | zero => rw [List.take_zero, List.append_nil]; rfl
    | succ n =>
      have es : stP ss l = l ++ [b] := by unfold stP; rw [h]
      show U.itP ss n (stP ss l) = _
      rw [es, ih n, List.append_assoc]
      rfl
theorem ins_of_itP {ss : List Stf} {l y : List Bool} {j : Nat} (h : itP ss j l = l ++ y) (hn : putM ss (l ++ y) = none) (hj : y.length = j) : Ins ss l y := by
  rcases itP_or ss (j + 1) l with c | ⟨x, hx, e⟩
  · rw [itP_succ, h] at c
    unfold stP at c
    rw [hn] at c
    have c' : (l ++ y).length = l.length + (j + 1) := c
    rw [List.length_append] at c'
    omega
  · rw [itP_succ, h] at e
    unfold stP at e
    rw [hn] at e
    have e' : l ++ y = l ++ x := e
    rw [List.append_cancel_left e']
    exact hx
/-- the line for a message, as a function -/
def bodyF (ss : List Stf) (m : List Bool) : List Bool := m.foldl (fun l b => itP ss 40 (l ++ [b])) []
theorem Body.isF {ss : List Stf} (o : OkN 39 ss) {m l : List Bool} (h : Body ss m l) : l = bodyF ss m := by
  induction h with
  | nil => rfl
  | @snoc m l x b hb hi ih =>
    obtain ⟨y, hy, h39⟩ := o l hb.reach b
    have e := hi.det hy
    subst e
    unfold bodyF
    rw [List.foldl_append]
    show _ = itP ss 40 (bodyF ss m ++ [b])
    rw [← ih, hi.itP, List.take_of_length_le (by omega)]
theorem body_ex {ss : List Stf} (o : OkN 39 ss) (m : List Bool) : Body ss m (bodyF ss m) := by
  obtain ⟨f, _, _, h⟩ := body_steps o m
  have := (h m.length (Nat.le_refl _)).1
  rw [List.take_length] at this
  rw [← this.isF o]
  exact this
end U

set_option maxRecDepth 100000
set_option maxHeartbeats 4000000
namespace U
open PySem PySem.Spec PyProof.Rows L2
def top (i : Nat) : Stmt := PySem.Challenge.pw_unseenflips_k23_checks_and_lines_by_name.main.body.getD i (.Pass ⟨0, 0, 0, 0⟩)
abbrev s_wall : Stmt := top 0
abbrev s_put_behind : Stmt := top 2
abbrev s_body : Stmt := top 3
abbrev s_taken_out : Stmt := top 4
abbrev s_send : Stmt := top 5
abbrev s_read_part : Stmt := top 6
abbrev s_receive : Stmt := top 7
abbrev s_cut_up : Stmt := top 8
abbrev s_frames : Stmt := top 9
abbrev s_InvalidRule_init : Stmt := inClass (top 12) 0
abbrev s_InvalidCheck_init : Stmt := inClass (top 13) 0
abbrev s_InvalidText_init : Stmt := inClass (top 14) 0
abbrev s_is_sequence : Stmt := top 17
abbrev s_is_word : Stmt := top 18
abbrev s_is_bit : Stmt := top 19
abbrev s_tail : Stmt := top 20
abbrev s_Check_init : Stmt := inClass (top 23) 0
abbrev s_Check_read : Stmt := inClass (top 23) 1
abbrev s_Check_degree : Stmt := inClass (top 23) 2
abbrev s_Check_rest : Stmt := inClass (top 23) 3
abbrev s_Check_step : Stmt := inClass (top 23) 4
abbrev s_Check_bits_for : Stmt := inClass (top 23) 5
abbrev s_Check_is_good : Stmt := inClass (top 23) 6
abbrev s_Check_eq : Stmt := inClass (top 23) 7
abbrev s_Check_str : Stmt := inClass (top 23) 8
abbrev s_Check_iter : Stmt := inClass (top 23) 9
abbrev s_is_stuff : Stmt := top 25
abbrev s_are_stuffs : Stmt := top 26
abbrev s_stuff_in : Stmt := top 27
abbrev s_Rule_init : Stmt := inClass (top 28) 0
abbrev s_Rule_read : Stmt := inClass (top 28) 1
abbrev s_Rule_longest : Stmt := inClass (top 28) 2
abbrev s_Rule_swapped : Stmt := inClass (top 28) 3
abbrev s_Rule_put : Stmt := inClass (top 28) 4
abbrev s_Rule_put_in : Stmt := inClass (top 28) 5
abbrev s_Rule_is_endless : Stmt := inClass (top 28) 6
abbrev s_Rule_len : Stmt := inClass (top 28) 7
abbrev s_Rule_iter : Stmt := inClass (top 28) 8
abbrev s_Rule_eq : Stmt := inClass (top 28) 9
abbrev s_Rule_str : Stmt := inClass (top 28) 10
abbrev s_l_numbers : Stmt := top 30
abbrev s_law : Stmt := top 31
structure Tx (mg : Str → Option Value) : Prop where
  b_len : mg "len" = none
  b_abs : mg "abs" = none
  b_int : mg "int" = none
  b_range : mg "range" = none
  b_max : mg "max" = none
  b_min : mg "min" = none
  b_enumerate : mg "enumerate" = none
  b_zip : mg "zip" = none
  b_dict : mg "dict" = none
  b_list : mg "list" = none
  b_tuple : mg "tuple" = none
  b_isinstance : mg "isinstance" = none
  b_bool : mg "bool" = none
  b_str : mg "str" = none
  b_all : mg "all" = none
  b_any : mg "any" = none
  b_sum : mg "sum" = none
  b_sorted : mg "sorted" = none
  b_repr : mg "repr" = none
end U

set_option maxRecDepth 100000
set_option maxHeartbeats 4000000
namespace U
open PySem PySem.Spec PyProof.Rows
open L2 hiding Fun CX0 E0 pass0 Fun.binds
open C8 Lx
local macro_rules | `(tactic| walk_at "g") => `(tactic| repeat (first | (refine ⟨_, rfl, ?_⟩) | (refine ⟨_, _, rfl, rfl, ?_⟩) | (refine ⟨rfl, ?_⟩) | (refine .inl ⟨_, rfl, ?_⟩)))
/-- the box: a list of two ints -/
def Box (H : Hp) (b : Addr) : Prop := ∃ x y : Int, H b = some (.lst [.int x, .int y])
/-- all but the box at b stands as it stood; the box is a box -/
def Up (b : Addr) (H H' : Hp) : Prop := (∀ c o, H c = some o → c ≠ b → H' c = some o) ∧ Box H' b
theorem Box.same {b : Addr} {H H' : Hp} (h : Box H b) (y : Same H H') : Box H' b := by obtain ⟨i, j, e⟩ := h; exact ⟨i, j, y _ _ e⟩
theorem Up.refl {b : Addr} {H : Hp} (h : Box H b) : Up b H H := ⟨fun _ _ e _ => e, h⟩
theorem Up.trans {b : Addr} {H H1 H2 : Hp} (x : Up b H H1) (y : Up b H1 H2) : Up b H H2 := ⟨fun c o e n => y.1 c o (x.1 c o e n) n, y.2⟩
theorem Up.same {b : Addr} {H H1 H2 : Hp} (x : Up b H H1) (y : Same H1 H2) : Up b H H2 := ⟨fun c o e n => y c o (x.1 c o e n), x.2.same y⟩
theorem Up.of_same {b : Addr} {H H2 : Hp} (h : Box H b) (y : Same H H2) : Up b H H2 := (Up.refl h).same y
theorem same_upd {H : Hp} {p : Addr} {o : HO} (h : H p = none) : Same H (upd H p o) := fun b x e => by
  rw [upd_ne (ne_of_none e h)]
  exact e
theorem same_mut' {H H1 : Hp} {p : Addr} {o : HO} (s : Same H H1) (n : H p = none) : Same H (upd H1 p o) := fun c u e => by
  rw [upd_ne (ne_of_none e n)]
  exact s _ _ e
theorem Box.ne {H : Hp} {b p : Addr} (h : Box H b) (n : H p = none) : p ≠ b := by
  obtain ⟨i, j, e⟩ := h
  intro z
  rw [z, e] at n
  cases n
/-- a thing that is no list of two ints is not the box -/
theorem Box.neT {H : Hp} {b p : Addr} {xs : List V} (h : Box H b) (n : H p = some (.tup xs)) : p ≠ b := by
  obtain ⟨i, j, e⟩ := h
  intro z
  rw [z, e] at n
  cases n
/-- an object that H doesn't know, changed -/
theorem Up.mut {b : Addr} {H H1 : Hp} {p : Addr} {o : HO} (x : Up b H H1) (h : H p = none) (n : p ≠ b) : Up b H (upd H1 p o) :=
  ⟨fun c u e nc => by rw [upd_ne (ne_of_none e h)]; exact x.1 c u e nc, by obtain ⟨i, j, e⟩ := x.2; exact ⟨i, j, by rw [upd_ne (Ne.symm n)]; exact e⟩⟩
theorem Up.free {b : Addr} {H H1 : Hp} {p : Addr} (x : Up b H H1) (h : H1 p = none) : H p = none := by
  cases e : H p with
  | none => rfl
  | some o =>
    by_cases n : p = b
    · obtain ⟨i, j, e2⟩ := x.2
      rw [n, e2] at h
      cases h
    · rw [x.1 p o e n] at h
      cases h
/-- what is no list stands as it stood -/
def NL (H H' : Hp) : Prop := ∀ c o, H c = some o → (∀ xs, o ≠ .lst xs) → H' c = some o
theorem NL.refl (H : Hp) : NL H H := fun _ _ e _ => e
theorem NL.trans {H H1 H2 : Hp} (a : NL H H1) (b : NL H1 H2) : NL H H2 := fun c o e n => b c o (a c o e n) n
theorem NL.of {H H' : Hp} (s : Same H H') : NL H H' := fun c o e _ => s c o e
theorem Up.nl {b : Addr} {H H' : Hp} (hb : Box H b) (u : Up b H H') : NL H H' := fun c o e n => u.1 c o e fun z => by
  obtain ⟨i, j, hb⟩ := hb
  rw [z, hb] at e
  exact n _ (Option.some.inj e).symm
theorem nl_upd {H : Hp} {q : Addr} {xs : List V} {o : HO} (h : H q = some (.lst xs)) : NL H (upd H q o) := fun c u e n => by
  have nq : c ≠ q := fun z => by
    rw [z, h] at e
    exact n _ (Option.some.inj e).symm
  rw [upd_ne nq]
  exact e
theorem NL.tup {H H' : Hp} {a : Addr} {xs : List V} (n : NL H H') (h : H a = some (.tup xs)) : H' a = some (.tup xs) := n _ _ h fun _ z => by cases z
theorem NL.ins {H H' : Hp} {a C dx : Addr} {fs : List (Str × V)} (n : NL H H') (h : H a = some (.ins C dx fs)) : H' a = some (.ins C dx fs) := n _ _ h fun _ z => by cases z
def spSeed (K : PySem.W.Frag) : Sp := fun vs H Q _ => ∃ (a : Addr) (ns : List Int) (k : Nat), vs = [.ref a, .int k] ∧ SqL K H a (ns.map V.int) ∧
  ∀ p H', H p = none → Same H H' → Box H' p → Q (.ref p) H'
def spChoose : Sp := fun vs H Q _ => ∃ (b : Addr) (m : Int), vs = [.ref b, .int m] ∧ Box H b ∧ 0 < m ∧ m < 1073741824 ∧
  ∀ (d : Int) H', 0 ≤ d → d < m → Up b H H' → Q (.int d) H'
def spOneOf : Sp := fun vs H Q _ => ∃ (b l : Addr) (xs : List V), vs = [.ref b, .ref l] ∧ Box H b ∧ H l = some (.lst xs) ∧ l ≠ b ∧ 0 < xs.length ∧ xs.length < 1000 ∧
  ∀ (v : V) H', v ∈ xs → Up b H H' → Q v H'
theorem cell_at {ns : List Int} {k : Int} (h0 : 0 ≤ k) (h1 : k < ns.length) : ∃ z, atI (ns.map V.int) k = some (V.int z) := by
  obtain ⟨j, rfl⟩ := Int.eq_ofNat_of_zero_le h0
  have h2 : j < ns.length := by omega
  exact ⟨ns[j], atI_nat (by simp [h2])⟩
section
variable {P : Program} {w : World} {K : PySem.W.Frag} {mg : Str → Option Value} {base : Heap}
end
end U

set_option maxRecDepth 100000
set_option maxHeartbeats 4000000
namespace U
open PySem PySem.Spec PyProof.Rows
open L2 hiding Fun CX0 E0 pass0 Fun.binds
open C8 Lx SX
/-! words told -/
def isW (z : Str) : Bool := z.cps.toList.all fun c => decide (c ∈ ("01" : Str).cps.toList)
theorem isW_W (l : List Bool) : isW (W l) = true := by
  unfold isW
  rw [W_tl, List.all_map, List.all_eq_true]
  intro b _
  cases b <;> decide +kernel
/-- is_word of any value: a text, or a thing whose type is not str -/
def spIsWord (K : PySem.W.Frag) : Sp := fun vs H Q _ => ∃ x, vs = [x] ∧ ((∃ z : Str, x = .str z ∧ z.length ≤ 100000 ∧ ∀ H', Same H H' → Q (.bl (isW z)) H') ∨
  (∃ t, TyX K H x t ∧ PySem.W.kitOne K t (.type "str") = some false ∧ Q (.bl false) H))
theorem spIsWord.word {K : PySem.W.Frag} {H : Hp} {Q : VK} {E : XK} {l : List Bool} (hl : l.length ≤ 100000) (k : ∀ H', Same H H' → Q (.bl true) H') : spIsWord K [.str (W l)] H Q E :=
  ⟨_, rfl, .inl ⟨_, rfl, by rw [W_len]; exact hl, fun H' s => by rw [isW_W]; exact k H' s⟩⟩
section
variable {P : Program} {w : World} {K : PySem.W.Frag} {mg : Str → Option Value} {base : Heap}
theorem sc_is_word : FnScope ["value", "sign"] ["value"] (fnScope s_is_word) := fnScope_by (by decide +kernel)
theorem cal_is_word {f : Addr} {fd : FuncData} {tB : Tok} (F : Def K mg "is_word" s_is_word f fd) (b : Binds K fd ["value"] []) (T : Tx mg) (g_BITS : mg "BITS" = some (.str "01" tB)) : Cal P w K mg base 1 "is_word" (spIsWord K) [] := by
  refine cal0 F b .nil sc_is_word (fun vs H Q E h => ?_) (fun cdv A outer s H vs Q E hr h => ?_)
  · obtain ⟨_, rfl, _⟩ := h; rfl
  · obtain ⟨_, rfl, h⟩ := h
    refine ⟨_, (pss_one (ps_ret (pe_and (pe_callB call_isi (by rfl) T.b_isinstance (by decide +kernel) (pa_cons (pv 0) (pa_cons (pe_bltn (v := .ty "str") (u := .type "str") (by rfl) T.b_str (by decide +kernel) rfl) pa_nil))) (pe_one (pe_callB (cr_all rfl) (by rfl) T.b_all (by decide +kernel) (pa_cons (pe_lc (own := [("sign", 1)]) (g := gName 1) (by rfl) sc_is_word.nd (pi_str (pv 0)) (blkOk_by (own := [("sign", 1)]) (N := ["value", "sign"]) (sc := fnScope s_is_word) (by decide +kernel)) (fun _ _ _ _ _ => (pg_name (i := 1) sc_is_word.nd rfl (.inl rfl))) (fun _ _ _ _ _ => pts_nil) (fun _ _ _ _ _ => (pe_cmpR op_in_sign (pv 1) (pe_glob (v := .str "01") (by rfl) g_BITS ⟨_, rfl⟩) (by with_unfolding_all rfl)))) pa_nil)))))), ?_⟩
    rcases h with ⟨z, rfl, hz, k⟩ | ⟨t, ht, hk, k⟩
    · refine ⟨_, rfl, _, _, _, _, true, rfl, .ty _, .base (.str z), kit_ty (by decide +kernel), _, rfl, ?_⟩
      refine ⟨_, rfl, z, rfl, fun D nD => ?_⟩
      refine lc_it walk_str (fun i H2 => Same H H2 ∧ H2 D = some (.lst (((z.cps.toList.take i).map fun c => decide (c ∈ ("01" : Str).cps.toList)).map V.bl))) ⟨same_upd nD, upd_same⟩ (fun _ _ _ _ => trivial) ?_ ?_
      · rintro i x H2 H3 hi ⟨s2, hD⟩ ⟨rfl, c, hc, rfl⟩
        refine ⟨rfl, ?_⟩
        refine ⟨_, rfl, c, _, rfl, rfl, _, hD, ?_, ?_, ?_⟩
        · rw [List.length_map, List.length_map, List.length_take]
          have e : z.length = z.cps.toList.length := TL.len_tl z
          exact sl_lt (by have : z.cps.size = z.cps.toList.length := by simp
                          omega)
        · intro c' o e
          rw [upd_ne (ne_of_none e nD)]
          exact s2 _ _ e
        · have hc' : z.cps.toList[i]? = some c := by rw [Array.getElem?_toList]; exact hc
          rw [upd_same, List.take_add_one, hc']
          simp
      · rintro H2 ⟨s2, hD⟩
        have e : z.cps.toList.take z.cps.size = z.cps.toList := List.take_of_length_le (by simp)
        rw [e] at hD
        refine ⟨D, _, rfl, SqL.of hD, ?_⟩
        have e2 : (List.map (fun c => decide (c ∈ ("01" : Str).cps.toList)) z.cps.toList).all id = isW z := by
          unfold isW
          rw [List.all_map]
          rfl
        rw [e2]
        exact k H2 s2
    · exact ⟨_, rfl, _, _, _, _, false, rfl, .ty _, ht, hk, _, rfl, k⟩
end
end U

set_option maxRecDepth 100000
set_option maxHeartbeats 4000000
namespace Lx
open PySem PySem.Spec PyProof.Rows L2
theorem Sq.of_same {K : PySem.W.Frag} {H H' : Hp} {a : Addr} {xs : List V} (h : Sq K H a xs) (e : Same H H') : Sq K H' a xs := h.same e
/-- a list or a tuple, walked: what holds behind -/
theorem iSeq_var {K : PySem.W.Frag} {i : Nat} {σ : L2.St} {H : Hp} {R : It → Hp → Prop} {a : Addr} {xs : List V} (hv : σ[i]? = some (some (.ref a))) (hS : Sq K H a xs)
    (h : ∀ (J : It) (G : Hp → Prop), (∀ H', Same H H' → G H') → Walk J xs.length G (YAt xs) → R J H) : iSeq K (tVar i) σ H R := by
  rcases hS with hS | hS
  · exact .inl ⟨_, hv, a, rfl, ⟨xs, hS⟩, h _ _ (fun H' s => s.seq hS) walk_list⟩
  · exact .inr ⟨_, hv, a, rfl, ⟨xs, hS⟩, h _ _ (fun H' s => same_tup s hS) walk_tup⟩
theorem iEnumQ_var {K : PySem.W.Frag} {i : Nat} {σ : L2.St} {H : Hp} {R : It → Hp → Prop} {a : Addr} {xs : List V} (hv : σ[i]? = some (some (.ref a))) (hS : Sq K H a xs)
    (h : ∀ (J : It) (G : Hp → Prop), (∀ H', Same H H' → G H') → Walk J xs.length G (YPair (fun i => some (.int (i : Nat))) (fun i => xs[i]?)) → R J H) : iEnumQ K (tCons (tVar i) tNil) σ H R := by
  rcases hS with hS | hS
  · exact .inl ⟨_, hv, a, xs, rfl, hS, h _ _ (fun H' s => s.seq hS) walk_enum⟩
  · exact .inr ⟨_, hv, a, xs, rfl, hS, h _ _ (fun H' s => same_tup s hS) walk_enumT⟩
theorem cut_whole {xs : List V} {lo hi : Option Int} (h1 : HT.sIx xs.length 0 lo = 0) (h2 : HT.sIx xs.length xs.length hi = xs.length) : cutV xs lo hi = xs := by
  unfold cutV
  rw [h1, h2, List.drop_zero, Nat.sub_zero, List.take_length]
theorem slQ_of {K : PySem.W.Frag} {H : Hp} {Q : VK} {a : Addr} {xs : List V} {lo hi : Option Int} (hS : Sq K H a xs) (h : ∀ p H', Same H H' → Sq K H' p (cutV xs lo hi) → Q (.ref p) H') : rSlL K (.ref a) lo hi H Q ∨ rSlA K (.ref a) lo hi H Q := by
  rcases hS with hS | hS
  · exact .inl ⟨a, xs, rfl, hS, fun p hp => h p _ (fun b x e => by rw [upd_ne (ne_of_none e hp)]; exact e) (.inl (SqL.of upd_same))⟩
  · refine .inr ⟨a, xs, rfl, hS, fun c => h a H (Same.refl H) ?_, fun _ p hp => h p _ (fun b x e => by rw [upd_ne (ne_of_none e hp)]; exact e) (.inr (SqT.of upd_same))⟩
    rw [cut_whole c.1 c.2]
    exact .inr hS
theorem Sq.star {K : PySem.W.Frag} {H : Hp} {a : Addr} {xs : List V} (h : Sq K H a xs) : SqT K H a xs ∨ SqL K H a xs := h.elim .inr .inl
end Lx
namespace U
open PySem PySem.Spec PyProof.Rows
open L2 hiding Fun CX0 E0 pass0 Fun.binds
open C8 Lx SX StX
/-! texts -/
theorem W_ends (l p : List Bool) : Txt.endswith (W l) (W p) = p.isSuffixOf l := by
  unfold Txt.endswith
  rw [PySem.StrLaws.subAt_eq, W_len, W_len, W_tl, W_tl, ← List.map_drop, ← List.map_take, Bool.eq_iff_iff, List.isSuffixOf_iff_suffix, Bool.and_eq_true, decide_eq_true_eq, beq_iff_eq]
  constructor
  · rintro ⟨h1, h2⟩
    have h3 := map_bt_inj h2
    rw [List.take_of_length_le (by rw [List.length_drop]; omega)] at h3
    rw [← h3]
    exact List.drop_suffix _ _
  · intro h
    have hl := h.length_le
    refine ⟨by omega, ?_⟩
    rw [List.take_of_length_le (by rw [List.length_drop]; omega), ← List.suffix_iff_eq_drop.mp h]
theorem W_tail (l : List Bool) (n : Nat) : Txt.slice (W l) (some (if (((W l).length : Nat) : Int) - (n : Int) > 0 then (((W l).length : Nat) : Int) - (n : Int) else 0)) none = W (tl n l) := by
  rw [W_drop (by split <;> omega)]
  congr 1
  unfold tl
  rw [W_len]
  congr 1
  split <;> omega
/-! stuffs -/
def StV (H : Hp) (kb : Addr → Stf) (ps : List Addr) : Prop := ∀ t ∈ ps, H t = some (.tup [.str (W (kb t).1), .str (W [(kb t).2])])
theorem StV.same {H H' : Hp} {kb : Addr → Stf} {ps : List Addr} (h : StV H kb ps) (e : Same H H') : StV H' kb ps := fun t ht => e _ _ (h t ht)
theorem StV.nl {H H' : Hp} {kb : Addr → Stf} {ps : List Addr} (h : StV H kb ps) (e : NL H H') : StV H' kb ps := fun t ht => e.tup (h t ht)
theorem StV.perm {H : Hp} {kb : Addr → Stf} {ps qs : List Addr} (h : StV H kb ps) (p : qs.Perm ps) : StV H kb qs := fun t ht => h t (p.mem_iff.mp ht)
def ruF (f : List Bool) (t : Addr) : List (Str × V) := putF "stuffs" (.ref t) (putF "flag" (.str (W f)) [])
theorem fs_ne : ¬ (("flag" : Str) = "stuffs") := by decide +kernel
theorem ruF_flag (f : List Bool) (t : Addr) : (ruF f t).lookup ("flag" : Str) = some (.str (W f)) := by
  unfold ruF
  rw [lookup_putF, if_neg fs_ne, lookup_putF, if_pos rfl]
theorem ruF_stuffs (f : List Bool) (t : Addr) : (ruF f t).lookup ("stuffs" : Str) = some (.ref t) := by
  unfold ruF
  rw [lookup_putF, if_pos rfl]
theorem ruF_no (f : List Bool) (t : Addr) {m : Str} (h1 : ¬ m = "stuffs") (h2 : ¬ m = "flag") : (ruF f t).lookup m = none := by
  unfold ruF
  rw [lookup_putF, if_neg h1, lookup_putF, if_neg h2]
  all_goals rfl
def RuAt (C : Addr) (H : Hp) (a : Addr) (f : List Bool) (ss : List Stf) : Prop :=
  ∃ dx t ps kb, H a = some (.ins C dx (ruF f t)) ∧ H t = some (.tup (ps.map V.ref)) ∧ StV H kb ps ∧ ss = ps.map kb
theorem RuAt.same {C : Addr} {H H' : Hp} {a : Addr} {f : List Bool} {ss : List Stf} (h : RuAt C H a f ss) (e : Same H H') : RuAt C H' a f ss := by
  obtain ⟨dx, t, ps, kb, h1, h2, h3, h4⟩ := h
  exact ⟨dx, t, ps, kb, e _ _ h1, e _ _ h2, h3.same e, h4⟩
theorem RuAt.nl {C : Addr} {H H' : Hp} {a : Addr} {f : List Bool} {ss : List Stf} (h : RuAt C H a f ss) (e : NL H H') : RuAt C H' a f ss := by
  obtain ⟨dx, t, ps, kb, h1, h2, h3, h4⟩ := h
  exact ⟨dx, t, ps, kb, e.ins h1, e.tup h2, h3.nl e, h4⟩
def longM (ss : List Stf) : Nat := ss.foldr (fun s m => max s.1.length m) 0
theorem longM_le : ∀ {ss : List Stf} {s : Stf}, s ∈ ss → s.1.length ≤ longM ss
  | x :: r, s, h => by
    show s.1.length ≤ max x.1.length (longM r)
    rcases List.mem_cons.mp h with e | h
    · rw [e]; omega
    · have := longM_le h; omega
theorem longM_max : ∀ {ss : List Stf} {n : Nat}, (∀ s ∈ ss, s.1.length ≤ n) → longM ss ≤ n
  | [], _, _ => Nat.zero_le _
  | x :: r, n, h => by
    have := longM_max (ss := r) fun s hs => h s (List.mem_cons_of_mem _ hs)
    have := h x List.mem_cons_self
    show max x.1.length (longM r) ≤ n
    omega
theorem longM_perm {ss ts : List Stf} (p : ss.Perm ts) : longM ss = longM ts :=
  Nat.le_antisymm (longM_max fun s hs => longM_le (p.mem_iff.mp hs)) (longM_max fun s hs => longM_le (p.mem_iff.mpr hs))
theorem longM_is {ss : List Stf} {m : Int} (hm : m ∈ (0 : Int) :: ss.map fun s => (s.1.length : Int)) (hx : ∀ y ∈ (0 : Int) :: ss.map fun s => (s.1.length : Int), y ≤ m) : m = (longM ss : Nat) := by
  have h0 := hx 0 List.mem_cons_self
  have h1 : longM ss ≤ m.toNat := longM_max fun s hs => by
    have := hx _ (List.mem_cons_of_mem _ (List.mem_map_of_mem (f := fun s : Stf => (s.1.length : Int)) hs))
    omega
  rcases List.mem_cons.mp hm with e | h
  · omega
  · obtain ⟨s, hs, rfl⟩ := List.mem_map.mp h
    have := longM_le hs
    omega
def oB : Option Bool → V
  | none => .non
  | some b => .str (W [b])
theorem oB_non (o : Option Bool) : decide (oB o = .non) = o.isNone := by
  cases o with
  | none => exact decide_eq_true rfl
  | some b => exact decide_eq_false (fun z => by cases z)
/-- the class as the top leaves it -/
structure RuT (K : PySem.W.Frag) (C : Addr) : Prop where
  cl : Cls K C
  nF : NoAttr K C "flag"
  nS : NoAttr K C "stuffs"
def spIsSeq (K : PySem.W.Frag) : Sp := fun vs H Q _ => ∃ a xs, vs = [.ref a] ∧ Sq K H a xs ∧ ∀ H', Same H H' → Q (.bl true) H'
def spIsBit : Sp := fun vs H Q _ => ∃ b, vs = [.str (W [b])] ∧ ∀ H', Same H H' → Q (.bl true) H'
def spIsStuff : Sp := fun vs H Q _ => ∃ (t : Addr) (p : List Bool) (b : Bool), vs = [.ref t] ∧ H t = some (.tup [.str (W p), .str (W [b])]) ∧ p ≠ [] ∧ p.length ≤ 1000 ∧ ∀ H', Same H H' → Q (.bl true) H'
def spTail : Sp := fun vs H Q _ => ∃ (l : List Bool) (n : Nat), vs = [.str (W l), .int n] ∧ l.length ≤ 100000 ∧ Q (.str (W (tl n l))) H
def spLongest (C : Addr) : Sp := fun vs H Q _ => ∃ (a : Addr) (f : List Bool) (ss : List Stf), vs = [.ref a] ∧ RuAt C H a f ss ∧ ss.length ≤ 1000 ∧ (∀ s ∈ ss, s.1.length ≤ 1000) ∧ ∀ H', Same H H' → Q (.int (longM ss : Nat)) H'
def spPut (C : Addr) : Sp := fun vs H Q _ => ∃ (a : Addr) (f : List Bool) (ss : List Stf) (l : List Bool), vs = [.ref a, .str (W l)] ∧ RuAt C H a f ss ∧ ∀ H', Same H H' → Q (oB (putM ss l)) H'
section
variable {P : Program} {w : World} {K : PySem.W.Frag} {mg : Str → Option Value} {base : Heap}
theorem sc_is_sequence : FnScope ["value"] ["value"] (fnScope s_is_sequence) := fnScope_by (by decide +kernel)
theorem cal_is_sequence {f : Addr} {fd : FuncData} (F : Def K mg "is_sequence" s_is_sequence f fd) (b : Binds K fd ["value"] []) (T : Tx mg) : Cal P w K mg base 1 "is_sequence" (spIsSeq K) [] := by
  refine cal0 F b .nil sc_is_sequence (fun vs H Q E h => ?_) (fun cdv A outer s H vs Q E hr h => ?_)
  · obtain ⟨_, _, rfl, _⟩ := h; rfl
  · obtain ⟨a, xs, rfl, hS, k⟩ := h
    refine ⟨_, (pss_one (ps_ret (pe_callB call_isiT (by rfl) T.b_isinstance (by decide +kernel) (pa_cons (pv 0) (pa_cons (pe_tup (pa_cons (pe_bltn (v := .ty "list") (u := .type "list") (by rfl) T.b_list (by decide +kernel) rfl) (pa_cons (pe_bltn (v := .ty "tuple") (u := .type "tuple") (by rfl) T.b_tuple (by decide +kernel) rfl) pa_nil))) pa_nil))))), ?_⟩
    refine ⟨_, rfl, by show 2 ≤ sizeLine; decide, fun tp htp => ?_⟩
    have hS' := hS.same (same_upd (o := .tup [.ty "list", .ty "tuple"]) htp)
    rcases hS' with hS' | hS'
    · exact ⟨_, tp, _, _, _, true, rfl, upd_same, .cons (.ty _) (.cons (.ty _) .nil), ty_list hS', by first | exact kit_any (by decide +kernel) | rfl | decide +kernel, k _ (same_upd htp)⟩
    · exact ⟨_, tp, _, _, _, true, rfl, upd_same, .cons (.ty _) (.cons (.ty _) .nil), ty_tup hS', by first | exact kit_any (by decide +kernel) | rfl | decide +kernel, k _ (same_upd htp)⟩
theorem sc_is_bit : FnScope ["value"] ["value"] (fnScope s_is_bit) := fnScope_by (by decide +kernel)
theorem cal_is_bit {f : Addr} {fd : FuncData} (F : Def K mg "is_bit" s_is_bit f fd) (b : Binds K fd ["value"] []) (T : Tx mg) (c_is_word : Cal P w K mg base 1 "is_word" (spIsWord K) []) : Cal P w K mg base 2 "is_bit" spIsBit [] := by
  refine cal0 F b .nil sc_is_bit (fun vs H Q E h => ?_) (fun cdv A outer s H vs Q E hr h => ?_)
  · obtain ⟨_, rfl, _⟩ := h; rfl
  · obtain ⟨x, rfl, k⟩ := h
    refine ⟨_, (pss_one (ps_ret (pe_and (pe_c c_is_word hr (by decide) rfl (pa_cons (pv 0) pa_nil)) (pe_one (pe_cmpR op_eq (pe_callB call_len_str (by rfl) T.b_len (by decide +kernel) (pa_cons (pv 0) pa_nil)) pe_int (nomark _)))))), ?_⟩
    have l1 : (W [x]).length = 1 := W_len _
    refine ⟨_, rfl, _, rfl, .inl ⟨_, rfl, by rw [l1]; decide, fun H1 s1 => ⟨_, rfl, iteBT (isW_W _) ?_⟩⟩⟩
    refine ⟨_, rfl, _, rfl, by rw [l1]; decide, ?_⟩
    rw [l1]
    exact ⟨rfl, q_dec (Q := Q) rfl (k H1 s1)⟩
theorem sc_is_stuff : FnScope ["value"] ["value"] (fnScope s_is_stuff) := fnScope_by (by decide +kernel)
theorem cal_is_stuff {f : Addr} {fd : FuncData} (F : Def K mg "is_stuff" s_is_stuff f fd) (b : Binds K fd ["value"] []) (T : Tx mg) (c_is_word : Cal P w K mg base 1 "is_word" (spIsWord K) []) (c_is_bit : Cal P w K mg base 2 "is_bit" spIsBit []) : Cal P w K mg base 3 "is_stuff" spIsStuff [] := by
  refine cal0 F b .nil sc_is_stuff (fun vs H Q E h => ?_) (fun cdv A outer s H vs Q E hr h => ?_)
  · obtain ⟨_, _, _, rfl, _⟩ := h; rfl
  · obtain ⟨t, p, x, rfl, ht, hp, hl, k⟩ := h
    refine ⟨_, (pss_cons (ps_if (PW.pt (pw_or (pt_not (pt_val (pe_callB call_isi (by rfl) T.b_isinstance (by decide +kernel) (pa_cons (pv 0) (pa_cons (pe_bltn (v := .ty "tuple") (u := .type "tuple") (by rfl) T.b_tuple (by decide +kernel) rfl) pa_nil))))) (pw_or1 (pt_cmpR op_ne (pe_callB call_len_seq (by rfl) T.b_len (by decide +kernel) (pa_cons (pv 0) pa_nil)) pe_int (nomark _))))) (pss_one (ps_ret pe_bl)) pss_nil)
    (pss_one (ps_ret (pe_and (pe_c c_is_word hr (by decide) rfl (pa_cons (pe_ix ix_tup (pv 0) pe_int (fun _ _ => rfl)) pa_nil)) (pe_and (pe_cmpR op_gt (pe_callB call_len_str (by rfl) T.b_len (by decide +kernel) (pa_cons (pe_ix ix_tup (pv 0) pe_int (fun _ _ => rfl)) pa_nil)) pe_int (nomark _)) (pe_one (pe_c c_is_bit hr (by decide) rfl (pa_cons (pe_ix ix_tup (pv 0) pe_int (fun _ _ => rfl)) pa_nil)))))))), ?_⟩
    have lp : (W p).length ≤ sizeLine := by rw [W_len]; exact sl_len (by omega)
    refine ⟨_, rfl, _, _, _, _, true, rfl, .ty _, .base (.tup ht), kit_ty (by decide +kernel), _, rfl, ?_⟩
    refine ⟨_, rfl, t, _, rfl, .inr (SqT.of ht), rfl, _, rfl, iteNS rfl ?_⟩
    refine ⟨_, rfl, t, _, 0, _, rfl, rfl, SqT.of ht, rfl, _, rfl, .inl ⟨_, rfl, by rw [W_len]; omega, fun H1 s1 => ⟨_, rfl, iteBT (isW_W _) ?_⟩⟩⟩
    have ht1 := s1 _ _ ht
    refine ⟨_, rfl, t, _, 0, _, rfl, rfl, SqT.of ht1, rfl, _, rfl, lp, ?_⟩
    refine ⟨_, _, rfl, rfl, _, rfl, iteDT ?_ ?_⟩
    · rw [W_len]
      have : p.length ≠ 0 := fun z => hp (List.length_eq_zero_iff.mp z)
      omega
    · refine ⟨_, rfl, t, _, 1, _, rfl, rfl, SqT.of ht1, rfl, x, rfl, fun H2 s2 => k H2 (s1.trans s2)⟩
theorem sc_tail : FnScope ["line", "size"] ["line", "size"] (fnScope s_tail) := fnScope_by (by decide +kernel)
theorem cal_tail {f : Addr} {fd : FuncData} (F : Def K mg "tail" s_tail f fd) (b : Binds K fd ["line", "size"] []) (T : Tx mg) : Cal P w K mg base 1 "tail" spTail [] := by
  refine cal0 F b .nil sc_tail (fun vs H Q E h => ?_) (fun cdv A outer s H vs Q E hr h => ?_)
  · obtain ⟨_, _, rfl, _⟩ := h; rfl
  · obtain ⟨l, n, rfl, hl, k⟩ := h
    refine ⟨_, (pss_one (ps_ret (pe_slice sl_txt (pv 0) (po_some (pe_callB (call_max2 rfl) (by rfl) T.b_max (by decide +kernel) (pa_cons pe_int (pa_cons (pe_op op_sub (pe_callB call_len_str (by rfl) T.b_len (by decide +kernel) (pa_cons (pv 0) pa_nil)) (pv 1)) pa_nil)))) po_none))), ?_⟩
    have lw : (W l).length ≤ sizeLine := by rw [W_len]; exact sl_len (by omega)
    refine ⟨_, rfl, _, rfl, _, rfl, lw, _, rfl, _, _, rfl, rfl, _, _, rfl, _, rfl, _, rfl, lw, ?_⟩
    rw [W_tail]
    exact k
theorem sc_Rule_longest : FnScope ["self", "pattern", "bit"] ["self"] (fnScope s_Rule_longest) := fnScope_by (by decide +kernel)
theorem ok_longest {f C : Addr} {fd : FuncData} (F : C8.Fun K "longest" "Rule.longest" s_Rule_longest f fd) (T : Tx mg) (RT : RuT K C) : FnOk P w K mg base CX0 1 f fd ["self"] (spLongest C) := by
  refine fn0 F sc_Rule_longest (fun vs H Q E h => ?_) (fun cdv A outer s H vs Q E hr h => ?_)
  · obtain ⟨_, _, _, rfl, _⟩ := h; rfl
  · obtain ⟨a, fl, ss, rfl, ⟨dx, t, ps, kb, ha, ht, hs, rfl⟩, hn, hl, k⟩ := h
    refine ⟨_, (pss_one (ps_ret (pe_callB (cr_max rfl) (by rfl) T.b_max (by decide +kernel) (pa_cons (pe_lst (pa_cons pe_int (pa_star (pe_lc (own := [("pattern", 1), ("bit", 2)]) (g := gTup K 2 (gCons (gName 1) (gCons (gName 2) gNil))) (by rfl) sc_Rule_longest.nd (pi_tup (pe_fld (pv 0) rfl)) (blkOk_by (own := [("pattern", 1), ("bit", 2)]) (N := ["self", "pattern", "bit"]) (sc := fnScope s_Rule_longest) (by decide +kernel)) (fun _ _ _ _ _ => (pg_tup rfl (pgs_cons (pg_name (i := 1) sc_Rule_longest.nd rfl (.inl rfl)) (pgs_cons (pg_name (i := 2) sc_Rule_longest.nd rfl (.inl rfl)) pgs_nil)))) (fun _ _ _ _ _ => pts_nil) (fun _ _ _ _ _ => (pe_callB call_len_str (by rfl) T.b_len (by decide +kernel) (pa_cons (pv 1) pa_nil)))) pa_nil))) pa_nil)))), ?_⟩
    refine ⟨_, rfl, a, C, dx, _, _, rfl, ha, RT.cl, RT.nS, ruF_stuffs _ _, t, rfl, ⟨_, SqT.of ht⟩, fun D nD => ?_⟩
    refine lc_it (walk_tup (xs := ps.map V.ref)) (fun i H2 => Same H H2 ∧ H2 D = some (.lst ((((ps.take i).map kb).map fun s => (s.1.length : Int)).map V.int))) ⟨same_upd nD, upd_same⟩ (fun i H2 _ h2 => SqT.of (h2.1 _ _ ht)) ?_ ?_
    · rintro i x H2 H3 hi ⟨s2, hD⟩ ⟨rfl, hx⟩
      rw [List.getElem?_map] at hx
      obtain ⟨q, hq, rfl⟩ := Option.map_eq_some_iff.mp hx
      have hqm : q ∈ ps := List.mem_of_getElem? hq
      have lq : (kb q).1.length ≤ 1000 := hl _ (List.mem_map_of_mem hqm)
      refine ⟨q, _, rfl, SqT.of (s2 _ _ (hs q hqm)), rfl, ?_⟩
      refine ⟨_, _, rfl, _, _, rfl, rfl, rfl, ?_⟩
      refine ⟨_, rfl, _, rfl, by rw [W_len]; exact sl_len (by omega), _, hD, ?_, ?_, ?_⟩
      · rw [List.length_map] at hi
        rw [List.length_map, List.length_map, List.length_map, List.length_take]
        rw [List.length_map] at hn
        exact sl_lt (by omega)
      · intro c' o e
        rw [upd_ne (ne_of_none e nD)]
        exact s2 _ _ e
      · rw [upd_same, List.take_add_one, hq, W_len]
        simp
    · rintro H2 ⟨s2, hD⟩
      rw [List.length_map, List.take_length] at hD
      refine ⟨D, _, rfl, .inr (SqL.of hD), ?_⟩
      have hn' : ps.length ≤ 1000 := by rw [List.length_map] at hn; exact hn
      refine ⟨?_, fun p hp => ?_⟩
      · simp only [List.length_cons, List.length_append, List.length_map, List.length_nil]
        exact sl_len (by omega)
      · refine ⟨p, (0 : Int) :: (ps.map kb).map fun s => (s.1.length : Int), rfl, ?_, by rw [List.length_cons]; omega, fun m hm hx => ?_⟩
        · refine SqL.of (upd_same.trans ?_)
          simp
        · rw [longM_is hm hx]
          exact k _ (s2.trans (same_upd hp))
theorem sc_Rule_put : FnScope ["self", "line", "pattern", "bit"] ["self", "line"] (fnScope s_Rule_put) := fnScope_by (by decide +kernel)
theorem met_put {f C : Addr} {fd : FuncData} (F : C8.Fun K "put" "Rule.put" s_Rule_put f fd) (me : Meth K C "put" f) (b : Binds K fd ["self", "line"] []) (T : Tx mg) (RT : RuT K C) : Met P w K mg base 1 C "put" (spPut C) [] := by
  refine met0 RT.cl me F b sc_Rule_put (fun vs H Q E h => ?_) (fun cdv A outer s H vs Q E hr h => ?_)
  · obtain ⟨_, _, _, _, rfl, _⟩ := h; rfl
  · obtain ⟨a, fl, ss, l, rfl, ⟨dx, t, ps, kb, ha, ht, hs, rfl⟩, k⟩ := h
    refine ⟨_, (pss_cons (ps_for PassesOwn.never rfl (pi_tup (pe_fld (pv 0) rfl)) (pg_tup rfl (pgs_cons (pg_name (i := 2) sc_Rule_put.nd rfl (.inl rfl)) (pgs_cons (pg_name (i := 3) sc_Rule_put.nd rfl (.inl rfl)) pgs_nil)))
    (pss_one (ps_if (pt_val (pe_m1 PySem.F.slot_str_endswith PySem.F.type_str_endswith mt_endswith (pv 1) (pv 2))) (pss_one (ps_ret (pv 3))) pss_nil)))
    (pss_one (ps_ret pe_non))), ?_⟩
    refine ⟨_, rfl, a, C, dx, _, _, rfl, ha, RT.cl, RT.nS, ruF_stuffs _ _, t, rfl, ⟨_, SqT.of ht⟩, ?_⟩
    refine for_it (walk_tup (xs := ps.map V.ref)) (fun i σ H2 => ∃ v2 v3 : Option V, σ = [some (.ref a), some (.str (W l)), v2, v3] ∧ H2 = H ∧ ∀ j q, j < i → ps[j]? = some q → (kb q).1.isSuffixOf l = false) ⟨none, none, rfl, rfl, fun j q hj => absurd hj (Nat.not_lt_zero _)⟩ (fun i σ H2 _ h2 => by obtain ⟨_, _, _, rfl, _⟩ := h2; exact SqT.of ht) ?_ ?_
    · rintro i x σ H2 H3 hi ⟨v2, v3, rfl, rfl, hno⟩ ⟨rfl, hx⟩
      rw [List.getElem?_map] at hx
      obtain ⟨q, hq, rfl⟩ := Option.map_eq_some_iff.mp hx
      have hqm : q ∈ ps := List.mem_of_getElem? hq
      refine ⟨q, _, rfl, SqT.of (hs q hqm), rfl, ?_⟩
      refine ⟨_, _, rfl, _, _, rfl, rfl, ?_⟩
      refine ⟨_, rfl, ⟨_, rfl⟩, _, rfl, _, _, rfl, rfl, _, rfl, ?_⟩
      rw [W_ends]
      cases e : (kb q).1.isSuffixOf l with
      | true =>
        refine ⟨_, rfl, ?_⟩
        have ep : putM (ps.map kb) l = some (kb q).2 := by
          have hf : (ps.map kb).find? (fun s => s.1.isSuffixOf l) = some (kb q) := by
            rw [List.find?_eq_some_iff_getElem]
            have hi' := (List.getElem?_eq_some_iff.mp hq)
            obtain ⟨hi1, hi2⟩ := hi'
            refine ⟨e, i, by rw [List.length_map]; exact hi1, by rw [List.getElem_map, hi2], fun j hj => ?_⟩
            rw [List.getElem_map]
            have := hno j ps[j] hj (List.getElem?_eq_getElem _)
            rw [this]
            rfl
          unfold putM
          rw [hf]
          rfl
        have := k _ (Same.refl _)
        rw [ep] at this
        exact this
      | false =>
        refine ⟨_, _, rfl, rfl, fun j q' hj hq' => ?_⟩
        by_cases ej : j = i
        · subst ej
          rw [hq] at hq'
          cases hq'
          exact e
        · exact hno j q' (by omega) hq'
    · rintro σ H2 ⟨v2, v3, rfl, rfl, hno⟩
      have ep : putM (ps.map kb) l = none := by
        have hf : (ps.map kb).find? (fun s => s.1.isSuffixOf l) = none := by
          rw [List.find?_eq_none]
          intro s hs'
          obtain ⟨q, hq, rfl⟩ := List.mem_map.mp hs'
          obtain ⟨j, hj⟩ := List.getElem?_of_mem hq
          have := hno j q (by rw [List.length_map]; exact (List.getElem?_eq_some_iff.mp hj).1) hj
          rw [this]
          decide
        unfold putM
        rw [hf]
        rfl
      have := k _ (Same.refl _)
      rw [ep] at this
      exact this
end
end U

set_option maxRecDepth 100000
set_option maxHeartbeats 4000000
namespace U
open PySem PySem.Spec PyProof.Rows
open L2 hiding Fun CX0 E0 pass0 Fun.binds
open C8 Lx SX StX
theorem sf_at {ps : List Addr} {kb : Addr → Stf} {i : Nat} {q : Addr} (h : SufFree (ps.map kb)) (hq : ps[i]? = some q) : ∀ q' ∈ ps.take i ++ ps.drop (i + 1), ¬ (kb q').1 <:+ (kb q).1 := by
  obtain ⟨hi, rfl⟩ := List.getElem?_eq_some_iff.mp hq
  have e : ps = ps.take i ++ ps[i] :: ps.drop (i + 1) := by rw [← List.drop_eq_getElem_cons hi, List.take_append_drop]
  unfold SufFree at h
  rw [List.pairwise_map] at h
  generalize ps.take i = A at e ⊢
  generalize ps.drop (i + 1) = B at e ⊢
  generalize ps[i] = q at e ⊢
  rw [e, List.pairwise_append, List.pairwise_cons] at h
  obtain ⟨_, ⟨h2, _⟩, h3⟩ := h
  intro q' hq'
  rcases List.mem_append.mp hq' with m | m
  · exact (h3 q' m q List.mem_cons_self).1
  · exact (h2 q' m).2
theorem cut_to {xs : List V} {i : Nat} (h : i < xs.length) : cutV xs none (some (i : Int)) = xs.take i := by
  unfold cutV
  rw [HT.sIx_none, HT.sIx_nat, List.drop_zero, Nat.sub_zero, Nat.min_eq_left (Nat.le_of_lt h)]
theorem cut_from {xs : List V} {i : Nat} (h : i < xs.length) : cutV xs (some ((i : Int) + 1)) none = xs.drop (i + 1) := by
  unfold cutV
  rw [HT.sIx_none, show ((i : Int) + 1) = ((i + 1 : Nat) : Int) by omega, HT.sIx_nat, Nat.min_eq_left (by omega), List.take_of_length_le (by rw [List.length_drop]; omega)]
/-- stuffs that make a rule -/
structure StOk (ss : List Stf) : Prop where
  few : ss.length ≤ 1000
  pos : ∀ s ∈ ss, s.1 ≠ []
  long : longM ss ≤ 9
  free : SufFree ss
theorem StOk.l9 {ss : List Stf} (h : StOk ss) : ∀ s ∈ ss, s.1.length ≤ 9 := fun s hs => Nat.le_trans (longM_le hs) h.long
theorem StOk.perm {ss ts : List Stf} (h : StOk ss) (p : ss.Perm ts) : StOk ts := ⟨by rw [← p.length_eq]; exact h.few, fun s hs => h.pos s (p.mem_iff.mpr hs), by rw [← longM_perm p]; exact h.long, h.free.perm p⟩
def spAre (K : PySem.W.Frag) : Sp := fun vs H Q _ => ∃ (a : Addr) (ps : List Addr) (kb : Addr → Stf), vs = [.ref a] ∧ Sq K H a (ps.map V.ref) ∧ StV H kb ps ∧ StOk (ps.map kb) ∧ ∀ H', Same H H' → Q (.bl true) H'
def spPutIn (C : Addr) : Sp := fun vs H Q _ => ∃ (a : Addr) (f : List Bool) (ss : List Stf) (l x : List Bool), vs = [.ref a, .str (W l)] ∧ RuAt C H a f ss ∧ ss.length ≤ 1000 ∧ longM ss ≤ 9 ∧ l.length ≤ 50000 ∧ Ins ss l x ∧ ∀ H', Same H H' → Q (.str (W x)) H'
def spEndless (C : Addr) : Sp := fun vs H Q _ => ∃ (a : Addr) (f : List Bool) (ss : List Stf), vs = [.ref a] ∧ RuAt C H a f ss ∧ ss.length ≤ 1000 ∧ longM ss ≤ 9 ∧ OkR ss ∧ ∀ H', Same H H' → Q (.bl false) H'
def kst (ws : List (List Bool)) : List (Key × V) := ws.map fun w => (Sum.inr (W w), V.bl true)
theorem val_in {ws : List (List Bool)} {w : List Bool} (h : w ∈ ws) : valV (kst ws) (Sum.inr (W w)) = some (.bl true) := by
  unfold valV kst
  induction ws with
  | nil => cases h
  | cons x r ih =>
    rw [List.map_cons, List.find?_cons]
    by_cases e : x = w
    · rw [e, decide_eq_true rfl]; rfl
    · rw [decide_eq_false (fun z => e (W_inj (Sum.inr.inj z)))]
      rcases List.mem_cons.mp h with z | h
      · exact absurd z.symm e
      · exact ih h
theorem val_out {ws : List (List Bool)} {w : List Bool} (h : ¬ w ∈ ws) : valV (kst ws) (Sum.inr (W w)) = none := by
  unfold valV kst
  have : (ws.map fun w => ((Sum.inr (W w) : Key), V.bl true)).find? (fun kv => decide (kv.1 = Sum.inr (W w))) = none := by
    rw [List.find?_eq_none]
    intro kv hk
    obtain ⟨x, hx, rfl⟩ := List.mem_map.mp hk
    rw [decide_eq_true_eq]
    intro z
    exact h (W_inj (Sum.inr.inj z) ▸ hx)
  rw [this]
  rfl
theorem put_out {ws : List (List Bool)} {w : List Bool} (h : ¬ w ∈ ws) : putK (kst ws) (Sum.inr (W w)) (.bl true) = kst (ws ++ [w]) := by
  have e : ((kst ws).any fun kv => decide (kv.1 = Sum.inr (W w))) = false := by
    rw [List.any_eq_false]
    intro kv hk
    unfold kst at hk
    obtain ⟨x, hx, rfl⟩ := List.mem_map.mp hk
    rw [decide_eq_true_eq]
    intro z
    exact h (W_inj (Sum.inr.inj z) ▸ hx)
  unfold putK
  rw [e]
  unfold kst
  rw [List.map_append]
  rfl
section
variable {P : Program} {w : World} {K : PySem.W.Frag} {mg : Str → Option Value} {base : Heap}
theorem sc_are_stuffs : FnScope ["value", "one", "at", "stuff", "rest", "pattern", "bit"] ["value"] (fnScope s_are_stuffs) := fnScope_by (by decide +kernel)
theorem cal_are_stuffs {f : Addr} {fd : FuncData} (F : Def K mg "are_stuffs" s_are_stuffs f fd) (b : Binds K fd ["value"] []) (T : Tx mg) (c_is_sequence : Cal P w K mg base 1 "is_sequence" (spIsSeq K) []) (c_is_stuff : Cal P w K mg base 3 "is_stuff" spIsStuff []) : Cal P w K mg base 4 "are_stuffs" (spAre K) [] := by
  refine cal0 F b .nil sc_are_stuffs (fun vs H Q E h => ?_) (fun cdv A outer s H vs Q E hr h => ?_)
  · obtain ⟨_, _, _, rfl, _⟩ := h; rfl
  · obtain ⟨a, ps, kb, rfl, hS, hs, ok, k⟩ := h
    refine ⟨_, (pss_cons (ps_if (PW.pt (pw_or (pt_not (pt_val (pe_c c_is_sequence hr (by decide) rfl (pa_cons (pv 0) pa_nil)))) (pw_or1 (pt_not (pt_val (pe_callB (cr_all rfl) (by rfl) T.b_all (by decide +kernel) (pa_cons (pe_lc (own := [("one", 1)]) (g := gName 1) (by rfl) sc_are_stuffs.nd (pi_seq (pv 0)) (blkOk_by (own := [("one", 1)]) (N := ["value", "one", "at", "stuff", "rest", "pattern", "bit"]) (sc := fnScope s_are_stuffs) (by decide +kernel)) (fun _ _ _ _ _ => (pg_name (i := 1) sc_are_stuffs.nd rfl (.inl rfl))) (fun _ _ _ _ _ => pts_nil) (fun _ _ _ _ _ => (pe_c c_is_stuff hr (by decide) rfl (pa_cons (pv 1) pa_nil)))) pa_nil))))))) (pss_one (ps_ret pe_bl)) pss_nil)
    (pss_cons (ps_for PassesOwn.never rfl (pi_enumQ (by rfl) T.b_enumerate (pa_cons (pv 0) pa_nil)) (pg_tup rfl (pgs_cons (pg_name (i := 2) sc_are_stuffs.nd rfl (.inl rfl)) (pgs_cons (pg_name (i := 3) sc_are_stuffs.nd rfl (.inr rfl)) pgs_nil)))
    (pss_cons (ps_set (i := 4) sc_are_stuffs.nd rfl (.inl rfl) (pe_lst (pa_star (pe_slice (SlR.or sl_list sl_tupA) (pv 0) po_none (po_some (pv 2))) (pa_star (pe_slice (SlR.or sl_list sl_tupA) (pv 0) (po_some (pe_op op_add (pv 2) pe_int)) po_none) pa_nil))))
    (pss_one (ps_if (pt_val (pe_callB (cr_any rfl) (by rfl) T.b_any (by decide +kernel) (pa_cons (pe_lc (own := [("pattern", 5), ("bit", 6)]) (g := gTup K 2 (gCons (gName 5) (gCons (gName 6) gNil))) (by rfl) sc_are_stuffs.nd (pi_list (pv 4)) (blkOk_by (own := [("pattern", 5), ("bit", 6)]) (N := ["value", "one", "at", "stuff", "rest", "pattern", "bit"]) (sc := fnScope s_are_stuffs) (by decide +kernel)) (fun _ _ _ _ _ => (pg_tup rfl (pgs_cons (pg_name (i := 5) sc_are_stuffs.nd rfl (.inl rfl)) (pgs_cons (pg_name (i := 6) sc_are_stuffs.nd rfl (.inl rfl)) pgs_nil)))) (fun _ _ _ _ _ => pts_nil) (fun _ _ _ _ _ => (pe_m1 PySem.F.slot_str_endswith PySem.F.type_str_endswith mt_endswith (pe_ix (show IxR _ (rIxT K) from ix_tup) (pv 3) pe_int (fun _ _ => rfl)) (pv 5)))) pa_nil))) (pss_one (ps_ret pe_bl)) pss_nil))))
    (pss_one (ps_ret pe_bl)))), ?_⟩
    have hn : ps.length ≤ 1000 := by have := ok.few; rw [List.length_map] at this; exact this
    refine ⟨_, rfl, a, _, rfl, hS, fun H1 s1 => ⟨_, rfl, ?_⟩⟩
    have hS1 := hS.same s1
    refine iSeq_var rfl hS1 fun J G hG wk D nD => ?_
    refine lc_it wk (fun i H2 => Same H1 H2 ∧ H2 D = some (.lst ((List.replicate i true).map V.bl))) ⟨same_upd nD, upd_same⟩ (fun i H2 _ h2 => hG _ h2.1) ?_ ?_
    · rintro i x H2 H3 hi ⟨s2, hD⟩ ⟨rfl, hx⟩
      rw [List.getElem?_map] at hx
      obtain ⟨q, hq, rfl⟩ := Option.map_eq_some_iff.mp hx
      have hqm : q ∈ ps := List.mem_of_getElem? hq
      have mk : kb q ∈ ps.map kb := List.mem_map_of_mem hqm
      rw [List.length_map] at hi
      refine ⟨rfl, ?_⟩
      refine ⟨_, rfl, q, (kb q).1, (kb q).2, rfl, (s1.trans s2) _ _ (hs q hqm), ok.pos _ mk, Nat.le_trans (ok.l9 _ mk) (by decide), fun H4 s4 => ⟨_, s4 _ _ hD, ?_, ?_, ?_⟩⟩
      · rw [List.length_map, List.length_replicate]; exact sl_lt (by omega)
      · intro c' o e
        rw [upd_ne (ne_of_none e nD)]
        exact (s2.trans s4) _ _ e
      · rw [upd_same, List.replicate_succ', List.map_append]; rfl
    · rintro H2 ⟨s2, hD⟩
      refine ⟨D, _, rfl, SqL.of hD, _, rfl, ?_⟩
      have et : (List.replicate (ps.map V.ref).length true).all id = true := by simp
      rw [et]
      have hS2 := hS1.same s2
      have s02 := s1.trans s2
      refine iEnumQ_var rfl hS2 fun J G hG wk => ?_
      refine for_it wk (fun i σ H3 => ∃ v1 v2 v3 v4 v5 v6 : Option V, σ = [some (.ref a), v1, v2, v3, v4, v5, v6] ∧ Same H2 H3) ⟨none, none, none, none, none, none, rfl, Same.refl _⟩ (fun i σ H3 _ h3 => by obtain ⟨_, _, _, _, _, _, _, s3⟩ := h3; exact hG _ s3) ?_ ?_
      · rintro i x σ H3 H4 hi ⟨v1, v2, v3, v4, v5, v6, rfl, s3⟩ ⟨T', y1, y2, rfl, nT, rfl, h1, h2⟩
        cases h1
        replace h2 : (ps.map V.ref)[i]? = some y2 := h2
        rw [List.getElem?_map] at h2
        obtain ⟨q, hq, rfl⟩ := Option.map_eq_some_iff.mp h2
        have hqm : q ∈ ps := List.mem_of_getElem? hq
        refine ⟨T', _, rfl, SqT.of upd_same, rfl, _, _, rfl, _, _, rfl, rfl, ?_⟩
        have s4 : Same H2 (upd H3 T' (.tup [.int (i : Nat), .ref q])) := s3.trans (same_upd nT)
        generalize upd H3 T' (.tup [.int (i : Nat), .ref q]) = H4 at s4
        have hS4 := hS2.same s4
        refine ⟨_, rfl, _, rfl, _, rfl, slQ_of hS4 fun p1 H5 s5 h5 => ⟨p1, _, rfl, h5.star, ?_⟩⟩
        refine ⟨_, rfl, _, rfl, _, _, rfl, rfl, _, rfl, slQ_of (hS4.same s5) fun p2 H6 s6 h6 => ⟨p2, _, rfl, h6.star, ?_⟩⟩
        have el : cutV (ps.map V.ref) none (some ((i : Nat) : Int)) ++ (cutV (ps.map V.ref) (some (((i : Nat) : Int) + 1)) none ++ []) = (ps.take i ++ ps.drop (i + 1)).map V.ref := by
          rw [cut_to hi, cut_from hi, List.append_nil, List.map_append, List.map_take, List.map_drop]
        refine ⟨?_, fun R nR => ?_⟩
        · show (cutV (ps.map V.ref) none (some ((i : Nat) : Int)) ++ (cutV (ps.map V.ref) (some (((i : Nat) : Int) + 1)) none ++ [])).length ≤ sizeLine
          rw [el, List.length_map, List.length_append, List.length_take, List.length_drop]
          exact sl_len (by omega)
        · have hR : upd H6 R (.lst (cutV (ps.map V.ref) none (some ((i : Nat) : Int)) ++ (cutV (ps.map V.ref) (some (((i : Nat) : Int) + 1)) none ++ []))) R = some (.lst ((ps.take i ++ ps.drop (i + 1)).map V.ref)) := by rw [upd_same, el]
          have s7 : Same H2 (upd H6 R (.lst (cutV (ps.map V.ref) none (some ((i : Nat) : Int)) ++ (cutV (ps.map V.ref) (some (((i : Nat) : Int) + 1)) none ++ [])))) := ((s4.trans s5).trans s6).trans (same_upd nR)
          show gName 4 _ _ (upd H6 R (.lst (cutV (ps.map V.ref) none (some ((i : Nat) : Int)) ++ (cutV (ps.map V.ref) (some (((i : Nat) : Int) + 1)) none ++ [])))) _
          generalize upd H6 R (.lst (cutV (ps.map V.ref) none (some ((i : Nat) : Int)) ++ (cutV (ps.map V.ref) (some (((i : Nat) : Int) + 1)) none ++ []))) = H7 at hR s7 ⊢
          refine ⟨_, rfl, R, rfl, ⟨_, SqL.of hR⟩, fun D2 nD2 => ?_⟩
          have ne := sf_at ok.free hq
          have hlen : (ps.take i ++ ps.drop (i + 1)).length ≤ 1000 := by
            rw [List.length_append, List.length_take, List.length_drop]; omega
          have hsub : ∀ q' ∈ ps.take i ++ ps.drop (i + 1), q' ∈ ps := fun q' hq' => by
            rcases List.mem_append.mp hq' with m | m
            · exact List.mem_of_mem_take m
            · exact List.mem_of_mem_drop m
          generalize ps.take i ++ ps.drop (i + 1) = rs at hR ne hlen hsub
          refine lc_it (walk_list (xs := rs.map V.ref)) (fun j H8 => Same H7 H8 ∧ H8 D2 = some (.lst ((List.replicate j false).map V.bl))) ⟨same_upd nD2, upd_same⟩ (fun j H8 _ h8 => h8.1.seq (SqL.of hR)) ?_ ?_
          · rintro j x H8 H9 hj ⟨s8, hD2⟩ ⟨rfl, hx⟩
            rw [List.getElem?_map] at hx
            obtain ⟨q', hq', rfl⟩ := Option.map_eq_some_iff.mp hx
            have hm' : q' ∈ rs := List.mem_of_getElem? hq'
            rw [List.length_map] at hj
            have s28 := s02.trans (s7.trans s8)
            refine ⟨q', _, rfl, SqT.of (s28 _ _ (hs q' (hsub _ hm'))), rfl, _, _, rfl, _, _, rfl, rfl, rfl, ?_⟩
            refine ⟨_, rfl, q, _, 0, _, rfl, rfl, SqT.of (s28 _ _ (hs q hqm)), rfl, ⟨_, rfl⟩, _, rfl, _, _, rfl, rfl, _, hD2, ?_, ?_, ?_⟩
            · rw [List.length_map, List.length_replicate]; exact sl_lt (by omega)
            · intro c' o e
              rw [upd_ne (ne_of_none e nD2)]
              exact s8 _ _ e
            · have ef : Txt.endswith (W (kb q).1) (W (kb q').1) = false := by
                rw [W_ends]
                cases e : (kb q').1.isSuffixOf (kb q).1 with
                | false => rfl
                | true => exact absurd (List.isSuffixOf_iff_suffix.mp e) (ne q' hm')
              rw [upd_same, ef, List.replicate_succ', List.map_append]
              rfl
          · rintro H8 ⟨s8, hD2⟩
            refine ⟨D2, _, rfl, SqL.of hD2, _, rfl, ?_⟩
            have et : (List.replicate (rs.map V.ref).length false).any id = false := by simp
            rw [et]
            exact ⟨_, _, _, _, _, _, rfl, s7.trans s8⟩
      · rintro σ H3 ⟨v1, v2, v3, v4, v5, v6, rfl, s3⟩
        exact k H3 (s02.trans s3)
end
end U

set_option maxRecDepth 100000
set_option maxHeartbeats 4000000
namespace U
open PySem PySem.Spec PyProof.Rows
open L2 hiding Fun CX0 E0 pass0 Fun.binds
open C8 Lx SX StX
theorem p10 {n : Nat} (h : n ≤ 9) : 2 ^ (n + 1) ≤ 1024 := Nat.le_trans (Nat.pow_le_pow_right (by decide) (show n + 1 ≤ 10 by omega)) (by decide)
section
variable {P : Program} {w : World} {K : PySem.W.Frag} {mg : Str → Option Value} {base : Heap}
theorem sc_Rule_put_in : FnScope ["self", "line", "found", "known", "bit", "standing"] ["self", "line"] (fnScope s_Rule_put_in) := fnScope_by (by decide +kernel)
theorem met_put_in {f C : Addr} {fd : FuncData} (F : C8.Fun K "put_in" "Rule.put_in" s_Rule_put_in f fd) (me : Meth K C "put_in" f) (b : Binds K fd ["self", "line"] []) (T : Tx mg) (RT : RuT K C)
    (c_put : Met P w K mg base 1 C "put" (spPut C) []) (p_longest : Prp P w K mg base 1 C "longest" (spLongest C)) (c_tail : Cal P w K mg base 1 "tail" spTail []) : Met P w K mg base 3 C "put_in" (spPutIn C) [] := by
  refine met0 RT.cl me F b sc_Rule_put_in (fun vs H Q E h => ?_) (fun cdv A outer s H vs Q E hr h => ?_)
  · obtain ⟨_, _, _, _, _, rfl, _⟩ := h; rfl
  · obtain ⟨a, fl, ss, l, x, rfl, hR, hn, h9, hl, hI, k⟩ := h
    refine ⟨_, (pss_cons (ps_par (i := 2) (j := 3) (by rfl) sc_Rule_put_in.nd rfl rfl (by decide) rfl rfl (pa_cons pe_str (pa_cons pe_dnewK pa_nil)) (by rfl))
    (pss_cons (ps_set (i := 4) sc_Rule_put_in.nd rfl (.inl rfl) (pe_mt (pl := _) c_put hr (by decide) (pv 0) (pa_cons (pv 1) pa_nil)))
    (pss_cons (ps_while PassesOwn.never (pt_cmpR op_notN (pv 4) pe_non (nomark _))
    (pss_cons (ps_set (i := 5) sc_Rule_put_in.nd rfl (.inl rfl) (pe_c c_tail hr (by decide) rfl (pa_cons (pe_op op_add_str (pv 1) (pv 2)) (pa_cons (pe_pr p_longest hr (by decide) (pv 0)) pa_nil))))
    (pss_cons (ps_if (pt_cmp (pc_din (hu_of hr) (pv 5) (pv 3))) (pss_one (ps_ret pe_non)) pss_nil)
    (pss_cons (ps_dput (hu_of hr) (pv 3) (pv 5) pe_bl rfl)
    (pss_cons (ps_aug (i := 2) sc_Rule_put_in.nd rfl (.inl rfl) (pv 4) iop_add_str)
    (pss_one (ps_set (i := 4) sc_Rule_put_in.nd rfl (.inl rfl) (pe_mt (pl := _) c_put hr (by decide) (pv 0) (pa_cons (pe_op op_add_str (pv 1) (pv 2)) pa_nil)))))))))
    (pss_one (ps_ret (pv 2)))))), ?_⟩
    have hL : ∀ s ∈ ss, s.1.length ≤ longM ss := fun s hs => longM_le hs
    have hx : x.length ≤ 1024 := by have := hI.len hL; have := p10 h9; omega
    have hat : ∀ {H2 : Hp}, Same H H2 → ∃ dx t, H2 a = some (.ins C dx (ruF fl t)) := fun s2 => by
      obtain ⟨dx, t, _, _, ha, _⟩ := hR.same s2
      exact ⟨dx, t, ha⟩
    refine fun D nD => ⟨_, _, rfl, ?_⟩
    have s1 : Same H (upd H D (.dK [])) := same_upd nD
    have hD1 : upd H D (.dK []) D = some (.dK []) := upd_same
    generalize upd H D (.dK []) = H1 at s1 hD1
    obtain ⟨dx, t, ha⟩ := hat s1
    refine ⟨_, rfl, a, dx, _, rfl, ha, ruF_no _ _ (by decide +kernel) (by decide +kernel), _, rfl, a, fl, ss, l, rfl, hR.same s1, fun H2 s2 => ?_⟩
    refine ⟨fun m σ H3 => ∃ (j : Nat) (v5 : Option V), j + m = x.length ∧ σ = [some (.ref a), some (.str (W l)), some (.str (W (x.take j))), some (.ref D), some (oB (putM ss (l ++ x.take j))), v5] ∧ Same H H3 ∧ H3 D = some (.dK (kst ((List.range j).map fun i => tl (longM ss) (l ++ x.take i)))),
      ⟨x.length, 0, none, by omega, by rw [List.take_zero, List.append_nil, ← W_nil]; rfl, s1.trans s2, s2 _ _ hD1⟩, ?_⟩
    rintro m σ H3 ⟨j, v5, hj, rfl, s3, hD3⟩
    refine ⟨_, rfl, rfl, _, rfl, ?_⟩
    rw [oB_non]
    by_cases hlt : j < x.length
    · have hb : x[j]? = some x[j] := List.getElem?_eq_getElem hlt
      have hput := hI.at hb
      rw [hput]
      have lx : (x.take j).length ≤ 1024 := by rw [List.length_take]; omega
      have e1 : (W l).length = l.length := W_len l
      have e2 : (W (x.take j)).length = (x.take j).length := W_len _
      refine ⟨fun σ' H' => ∃ m', m' < m ∧ ∃ (j : Nat) (v5 : Option V), j + m' = x.length ∧ σ' = [some (.ref a), some (.str (W l)), some (.str (W (x.take j))), some (.ref D), some (oB (putM ss (l ++ x.take j))), v5] ∧ Same H H' ∧ H' D = some (.dK (kst ((List.range j).map fun i => tl (longM ss) (l ++ x.take i)))), fun _ _ h => h, ?_⟩
      obtain ⟨dx3, t3, ha3⟩ := hat s3
      refine ⟨_, rfl, _, rfl, _, _, rfl, rfl, by rw [e1, e2]; exact sl_len (by omega), _, rfl, a, dx3, _, rfl, ha3, a, fl, ss, rfl, hR.same s3, hn, fun s hs => Nat.le_trans (longM_le hs) (by omega), fun H4 s4 => ?_⟩
      refine ⟨l ++ x.take j, longM ss, by rw [← W_cat]; rfl, by rw [List.length_append]; omega, ?_⟩
      have hD4 := s4 _ _ hD3
      have nin : ¬ tl (longM ss) (l ++ x.take j) ∈ (List.range j).map fun i => tl (longM ss) (l ++ x.take i) := fun hm => by
        obtain ⟨i, hi, e⟩ := List.mem_map.mp hm
        have hi' := List.mem_range.mp hi
        have := hI.apart hL (Nat.le_of_lt (Nat.lt_trans hi' hlt)) (Nat.le_of_lt hlt) e
        omega
      refine ⟨_, rfl, _, rfl, D, _, rfl, DGet.k (k := .inr (W (tl (longM ss) (l ++ x.take j)))) hD4, _, rfl, iteBF (by rw [val_out nin]; rfl) ?_⟩
      refine ⟨_, rfl, _, rfl, D, _, rfl, DPut.k (k := .inr (W (tl (longM ss) (l ++ x.take j)))) hD4 (by unfold kst; rw [List.length_map, List.length_map, List.length_range]; exact sl_lt (by omega)), ?_⟩
      rw [put_out nin]
      have et : x.take (j + 1) = x.take j ++ [x[j]] := by rw [List.take_add_one, hb]; rfl
      have ek : ((List.range j).map fun i => tl (longM ss) (l ++ x.take i)) ++ [tl (longM ss) (l ++ x.take j)] = (List.range (j + 1)).map fun i => tl (longM ss) (l ++ x.take i) := by
        rw [List.range_succ, List.map_append]; rfl
      rw [ek]
      have s5 : Same H (upd H4 D (.dK (kst ((List.range (j + 1)).map fun i => tl (longM ss) (l ++ x.take i))))) := fun c o e => by
        rw [upd_ne (ne_of_none e nD)]
        exact (s3.trans s4) _ _ e
      have hD5 : upd H4 D (.dK (kst ((List.range (j + 1)).map fun i => tl (longM ss) (l ++ x.take i)))) D = some (.dK (kst ((List.range (j + 1)).map fun i => tl (longM ss) (l ++ x.take i)))) := upd_same
      generalize upd H4 D (.dK (kst ((List.range (j + 1)).map fun i => tl (longM ss) (l ++ x.take i)))) = H5 at s5 hD5
      have e3 : (W [x[j]]).length = 1 := W_len _
      refine ⟨_, rfl, _, rfl, _, _, rfl, rfl, by rw [e2, e3]; exact sl_len (by omega), ?_⟩
      rw [W_cat, ← et]
      have e4 : (W (x.take (j + 1))).length = (x.take (j + 1)).length := W_len _
      obtain ⟨dx5, t5, ha5⟩ := hat s5
      refine ⟨_, rfl, a, dx5, _, rfl, ha5, ruF_no _ _ (by decide +kernel) (by decide +kernel), _, rfl, _, rfl, _, _, rfl, rfl, by rw [e1, e4, et, List.length_append]; exact sl_len (by simp only [List.length_cons, List.length_nil]; omega), ?_⟩
      refine ⟨a, fl, ss, l ++ x.take (j + 1), by rw [← W_cat]; rfl, hR.same s5, fun H6 s6 => ?_⟩
      exact ⟨m - 1, by omega, j + 1, _, by omega, rfl, s5.trans s6, s6 _ _ hD5⟩
    · have hj' : j = x.length := by omega
      subst hj'
      rw [List.take_length, hI.end]
      exact ⟨_, rfl, k H3 s3⟩
end
end U

set_option maxRecDepth 100000
set_option maxHeartbeats 4000000
namespace U
open PySem PySem.Spec PyProof.Rows
open L2 hiding Fun CX0 E0 pass0 Fun.binds
open C8 Lx SX StX
/-- the standings that wait, and are known -/
structure Bfs (ss : List Stf) (H H2 : Hp) (q d : Addr) (ws : List (List Bool)) : Prop where
  same : Same H H2
  wait : H2 q = some (.lst (ws.map fun w => V.str (W w)))
  known : H2 d = some (.dK (kst ws))
  nodup : ws.Nodup
  short : ∀ w ∈ ws, w.length ≤ longM ss
  reach : ∀ w ∈ ws, ∃ l, Reach ss l ∧ tl (longM ss) l = w
theorem Bfs.on {ss : List Stf} {H H2 H3 : Hp} {q d : Addr} {ws : List (List Bool)} (b : Bfs ss H H2 q d ws) (s : Same H2 H3) : Bfs ss H H3 q d ws :=
  ⟨b.same.trans s, s _ _ b.wait, s _ _ b.known, b.nodup, b.short, b.reach⟩
theorem Bfs.few {ss : List Stf} {H H2 : Hp} {q d : Addr} {ws : List (List Bool)} (b : Bfs ss H H2 q d ws) : ws.length + 1 ≤ 2 ^ (longM ss + 1) := words_le b.nodup b.short
def key (s : Stf) : Str × Str := (W s.1, W [s.2])
def SortedS (ss : List Stf) : Prop := SrtO.Srtd (fun x y => SrT.lexT (key x) (key y)) ss
def spRuInit (K : PySem.W.Frag) (C : Addr) : Sp := fun vs H Q _ => ∃ (a dx s : Addr) (f : List Bool) (ps : List Addr) (kb : Addr → Stf), vs = [.ref a, .str (W f), .ref s] ∧ H a = some (.ins C dx []) ∧ Sq K H s (ps.map V.ref) ∧ StV H kb ps ∧ StOk (ps.map kb) ∧ OkR (ps.map kb) ∧ 2 ≤ f.length ∧ f.length ≤ 1000 ∧
  ∀ H' ss, (∀ b o, H b = some o → b ≠ a → H' b = some o) → ss.Perm (ps.map kb) → SortedS ss → RuAt C H' a f ss → Q .non H'
theorem pwS {qs : List Addr} {kb : Addr → Stf} (h : SrtO.Srtd (fun x y => SrT.lexT (key (kb x)) (key (kb y))) qs) : SortedS (qs.map kb) := List.pairwise_map.mpr h
section
variable {P : Program} {w : World} {K : PySem.W.Frag} {mg : Str → Option Value} {base : Heap}
theorem sc_Rule_is_endless : FnScope ["self", "waiting", "known", "at", "bit", "line", "more", "standing"] ["self"] (fnScope s_Rule_is_endless) := fnScope_by (by decide +kernel)
theorem met_is_endless {f C : Addr} {fd : FuncData} {tB : Tok} (F : C8.Fun K "is_endless" "Rule.is_endless" s_Rule_is_endless f fd) (me : Meth K C "is_endless" f) (b : Binds K fd ["self"] []) (T : Tx mg) (RT : RuT K C) (g_BITS : mg "BITS" = some (.str "01" tB))
    (c_put_in : Met P w K mg base 3 C "put_in" (spPutIn C) []) (p_longest : Prp P w K mg base 1 C "longest" (spLongest C)) (c_tail : Cal P w K mg base 1 "tail" spTail []) : Met P w K mg base 4 C "is_endless" (spEndless C) [] := by
  refine met0 RT.cl me F b sc_Rule_is_endless (fun vs H Q E h => ?_) (fun cdv A outer s H vs Q E hr h => ?_)
  · obtain ⟨_, _, _, rfl, _⟩ := h; rfl
  · obtain ⟨a, fl, ss, rfl, hR, hn, h9, hO, k⟩ := h
    refine ⟨_, (pss_cons (ps_par3 (i := 1) (j := 2) (l := 3) (by rfl) sc_Rule_is_endless.nd rfl rfl rfl (by decide) (by decide) (by decide) rfl rfl rfl (pa_cons (pe_lst (pa_cons pe_str pa_nil)) (pa_cons (pe_disp (pps_cons pe_str pe_bl pps_nil) (by rfl) (by rfl) (fun z => by cases z) (by decide)) (pa_cons pe_int pa_nil))) (by rfl))
    (pss_cons (ps_while PassesOwn.never (pt_cmpR op_lt (pv 3) (pe_callB call_len_seq (by rfl) T.b_len (by decide +kernel) (pa_cons (pv 1) pa_nil)) (nomark _))
    (pss_cons (ps_for PassesOwn.never rfl (pi_str (pe_glob (v := .str "01") (by rfl) g_BITS ⟨_, rfl⟩)) (pg_name (i := 4) sc_Rule_is_endless.nd rfl (.inl rfl))
    (pss_cons (ps_set (i := 5) sc_Rule_is_endless.nd rfl (.inl rfl) (pe_op op_add_str (pe_ix ix_list (pv 1) (pv 3) (fun _ _ => rfl)) (pv 4)))
    (pss_cons (ps_set (i := 6) sc_Rule_is_endless.nd rfl (.inl rfl) (pe_mt (pl := _) c_put_in hr (by decide) (pv 0) (pa_cons (pv 5) pa_nil)))
    (pss_cons (ps_if (pt_cmpR op_isN (pv 6) pe_non (nomark _)) (pss_one (ps_ret pe_bl)) pss_nil)
    (pss_cons (ps_set (i := 7) sc_Rule_is_endless.nd rfl (.inl rfl) (pe_c c_tail hr (by decide) rfl (pa_cons (pe_op op_add_str (pv 5) (pv 6)) (pa_cons (pe_pr p_longest hr (by decide) (pv 0)) pa_nil))))
    (pss_one (ps_if (pt_cmp (pc_dnotin (hu_of hr) (pv 7) (pv 2))) (pss_cons (ps_dput (hu_of hr) (pv 2) (pv 7) pe_bl rfl)
    (pss_one (ps_expr (pe_bm PySem.F.plainAttrs_list PySem.F.slot_list_append PySem.F.type_list_append mt_append (pv 1) (pa_cons (pv 7) pa_nil))))) pss_nil)))))))
    (pss_one (ps_aug (i := 3) sc_Rule_is_endless.nd rfl (.inl rfl) pe_int ip_add))))
    (pss_one (ps_ret pe_bl)))), ?_⟩
    have hL : ∀ s ∈ ss, s.1.length ≤ longM ss := fun s hs => longM_le hs
    have hpw := p10 h9
    have hat : ∀ {H2 : Hp}, Same H H2 → ∃ dx t, H2 a = some (.ins C dx (ruF fl t)) := fun s2 => by
      obtain ⟨dx, t, _, _, ha, _⟩ := hR.same s2
      exact ⟨dx, t, ha⟩
    refine ⟨by show 1 ≤ sizeLine; decide, fun q nq d nd => ⟨upd_same, [(.inr "", .bl true)], rfl, by decide, _, _, _, rfl, ?_⟩⟩
    have nqd : q ≠ d := fun z => by rw [← z, upd_same] at nd; cases nd
    have b0 : Bfs ss H (upd (upd (upd H q (.lst [.str ""])) d (.dK [])) d (.dK (mergeK [] [(.inr "", .bl true)]))) q d [[]] := by
      refine ⟨fun c o e => ?_, ?_, ?_, ?_, ?_, ?_⟩
      · have n1 := ne_of_none e nq
        have n2 : c ≠ d := fun z => by rw [z] at e n1; rw [upd_ne n1, e] at nd; cases nd
        rw [upd_ne n2, upd_ne n2, upd_ne n1]
        exact e
      · rw [upd_ne nqd, upd_ne nqd, upd_same, W_nil]; rfl
      · rw [upd_same, W_nil]; rfl
      · simp
      · intro w hw; rw [List.mem_singleton.mp hw]; exact Nat.zero_le _
      · intro w hw; rw [List.mem_singleton.mp hw]; exact ⟨[], .nil, by unfold tl; rw [List.drop_nil]⟩
    have nq0 : H q = none := nq
    have nd0 : H d = none := by
      cases e : H d with
      | none => rfl
      | some o => rw [upd_ne (Ne.symm nqd), e] at nd; cases nd
    generalize upd (upd (upd H q (.lst [.str ""])) d (.dK [])) d (.dK (mergeK [] [(.inr "", .bl true)])) = H1 at b0
    refine ⟨fun m σ H2 => ∃ (n : Nat) (ws : List (List Bool)) (v4 v5 v6 v7 : Option V), σ = [some (.ref a), some (.ref q), some (.ref d), some (.int n), v4, v5, v6, v7] ∧ Bfs ss H H2 q d ws ∧ n ≤ ws.length ∧ m + n = 2 ^ (longM ss + 1),
      ⟨2 ^ (longM ss + 1), 0, [[]], none, none, none, none, rfl, b0, Nat.zero_le _, by omega⟩, ?_⟩
    rintro m σ H2 ⟨n, ws, v4, v5, v6, v7, rfl, B2, hn2, hm⟩
    have few2 := B2.few
    refine ⟨_, rfl, _, rfl, q, _, rfl, .inl (SqL.of B2.wait), _, _, rfl, rfl, _, rfl, ?_⟩
    rw [List.length_map]
    by_cases hlt : n < ws.length
    · refine iteDT (by omega) ?_
      refine ⟨fun σ' H' => ∃ m', m' < m ∧ ∃ (n : Nat) (ws : List (List Bool)) (v4 v5 v6 v7 : Option V), σ' = [some (.ref a), some (.ref q), some (.ref d), some (.int n), v4, v5, v6, v7] ∧ Bfs ss H H' q d ws ∧ n ≤ ws.length ∧ m' + n = 2 ^ (longM ss + 1), fun _ _ h => h, ?_⟩
      refine ⟨_, rfl, for_it walk_str (fun i σ H3 => ∃ (ws : List (List Bool)) (v4 v5 v6 v7 : Option V), σ = [some (.ref a), some (.ref q), some (.ref d), some (.int n), v4, v5, v6, v7] ∧ Bfs ss H H3 q d ws ∧ n < ws.length) ⟨ws, _, _, _, _, rfl, B2, hlt⟩ (fun _ _ _ _ _ => trivial) ?_ ?_⟩
      · rintro i x σ H3 H3' hi ⟨ws, v4, v5, v6, v7, rfl, B3, hlt3⟩ ⟨rfl, c, hc, rfl⟩
        have e01 : ("01" : Str) = W [false, true] := by decide +kernel
        rw [e01] at hc
        obtain ⟨bb, _, rfl⟩ := W_get hc
        have hw : (ws.map fun w => V.str (W w))[n]? = some (.str (W ws[n])) := by rw [List.getElem?_map, List.getElem?_eq_getElem hlt3]; rfl
        have hmem : ws[n] ∈ ws := List.getElem_mem hlt3
        generalize ws[n] = w0 at hw hmem
        have hs0 := B3.short _ hmem
        have few3 := B3.few
        obtain ⟨l0, hr0, rfl⟩ := B3.reach _ hmem
        obtain ⟨y, hy⟩ := hO l0 hr0 bb
        have ht0 : tl (longM ss) l0 = tl (longM ss) (tl (longM ss) l0) := (tl_tl (Nat.le_refl _) _).symm
        have hy' := hy.tl hL (tl_snoc (b := bb) ht0)
        have hyl := hy.len hL
        have hnx : tl (longM ss) (l0 ++ [bb] ++ y) = tl (longM ss) (tl (longM ss) l0 ++ [bb] ++ y) := tl_app (tl_snoc (b := bb) ht0) y
        have hrn : Reach ss (l0 ++ [bb] ++ y) := .next hr0 hy
        generalize tl (longM ss) l0 = w0 at *
        have ew : W w0 ++ (⟨#[bt bb]⟩ : Str) = W (w0 ++ [bb]) := W_cat w0 [bb]
        have el : (W w0).length + (⟨#[bt bb]⟩ : Str).length ≤ sizeLine := by
          have e1 : (W w0).length = w0.length := W_len _
          have e2 : (⟨#[bt bb]⟩ : Str).length = 1 := W_len [bb]
          rw [e1, e2]; exact sl_len (by omega)
        refine ⟨_, rfl, _, rfl, q, _, _, _, rfl, rfl, SqL.of B3.wait, atI_nat hw, _, rfl, _, _, rfl, rfl, el, ?_⟩
        rw [ew]
        obtain ⟨dx3, t3, ha3⟩ := hat B3.same
        have hl1 : (w0 ++ [bb]).length ≤ 10 := by rw [List.length_append, List.length_cons, List.length_nil]; omega
        refine ⟨_, rfl, a, dx3, _, rfl, ha3, ruF_no _ _ (by decide +kernel) (by decide +kernel), _, rfl, a, fl, ss, w0 ++ [bb], y, rfl, hR.same B3.same, hn, h9, by omega, hy', fun H4 s4 => ?_⟩
        have B4 := B3.on s4
        refine ⟨_, rfl, rfl, _, rfl, iteDF (fun z => by cases z) ?_⟩
        obtain ⟨dx4, t4, ha4⟩ := hat B4.same
        have e3 : (W (w0 ++ [bb])).length = (w0 ++ [bb]).length := W_len _
        have e4 : (W y).length = y.length := W_len _
        refine ⟨_, rfl, _, rfl, _, _, rfl, rfl, by rw [e3, e4]; exact sl_len (by omega), _, rfl, a, dx4, _, rfl, ha4, a, fl, ss, rfl, hR.same B4.same, hn, fun s hs => Nat.le_trans (longM_le hs) (by omega), fun H5 s5 => ?_⟩
        have B5 := B4.on s5
        refine ⟨w0 ++ [bb] ++ y, longM ss, by rw [← W_cat (w0 ++ [bb]) y]; rfl, by rw [List.length_append]; omega, ?_⟩
        refine ⟨_, rfl, _, rfl, d, _, rfl, DGet.k (k := .inr (W (tl (longM ss) (w0 ++ [bb] ++ y)))) B5.known, _, rfl, ?_⟩
        by_cases hin : tl (longM ss) (w0 ++ [bb] ++ y) ∈ ws
        · refine iteBF (by rw [val_in hin]; rfl) ?_
          exact ⟨ws, _, _, _, _, rfl, B5, hlt3⟩
        · refine iteBT (by rw [val_out hin]; rfl) ?_
          refine ⟨_, rfl, _, rfl, d, _, rfl, DPut.k (k := .inr (W (tl (longM ss) (w0 ++ [bb] ++ y)))) B5.known (by unfold kst; rw [List.length_map]; exact sl_lt (by omega)), ?_⟩
          rw [put_out hin]
          have hW6 : upd H5 d (.dK (kst (ws ++ [tl (longM ss) (w0 ++ [bb] ++ y)]))) q = some (.lst (ws.map fun w => V.str (W w))) := by rw [upd_ne nqd]; exact B5.wait
          refine ⟨_, rfl, .inl ⟨rfl, _, SqL.of hW6⟩, _, rfl, q, _, _, rfl, rfl, hW6, by rw [List.length_map]; exact sl_lt (by omega), ?_⟩
          refine ⟨ws ++ [tl (longM ss) (w0 ++ [bb] ++ y)], _, _, _, _, rfl, ⟨fun c o e => ?_, ?_, ?_, ?_, ?_, ?_⟩, ?_⟩
          · rw [upd_ne (ne_of_none e nq0), upd_ne (ne_of_none e nd0)]
            exact B5.same _ _ e
          · rw [upd_same, List.map_append]; rfl
          · rw [upd_ne (Ne.symm nqd), upd_same]
          · rw [List.nodup_append]
            refine ⟨B5.nodup, by simp, fun u hu v hv e => ?_⟩
            rw [List.mem_singleton.mp hv] at e
            exact hin (e ▸ hu)
          · intro u hu
            rcases List.mem_append.mp hu with m | m
            · exact B5.short _ m
            · rw [List.mem_singleton.mp m]; exact tl_le _ _
          · intro u hu
            rcases List.mem_append.mp hu with m | m
            · exact B5.reach _ m
            · rw [List.mem_singleton.mp m]; exact ⟨_, hrn, hnx⟩
          · rw [List.length_append]; omega
      · rintro σ H3 ⟨ws, v4, v5, v6, v7, rfl, B3, hlt3⟩
        refine ⟨_, rfl, _, _, rfl, rfl, ?_⟩
        refine ⟨m - 1, by omega, n + 1, ws, _, _, _, _, rfl, B3, hlt3, by omega⟩
    · refine iteDF (by omega) ?_
      exact k H2 B2.same
theorem sc_Rule_init : FnScope ["self", "flag", "stuffs"] ["self", "flag", "stuffs"] (fnScope s_Rule_init) := fnScope_by (by decide +kernel)
theorem ok_Rule_init {f C : Addr} {fd : FuncData} (F : C8.Fun K "__init__" "Rule.__init__" s_Rule_init f fd) (T : Tx mg) (RT : RuT K C) (c_is_word : Cal P w K mg base 1 "is_word" (spIsWord K) []) (c_are_stuffs : Cal P w K mg base 4 "are_stuffs" (spAre K) []) (c_is_endless : Met P w K mg base 4 C "is_endless" (spEndless C) []) :
    FnOk P w K mg base CX0 5 f fd ["self", "flag", "stuffs"] (spRuInit K C) := by
  refine fn0 F sc_Rule_init (fun vs H Q E h => ?_) (fun cdv A outer s H vs Q E hr h => ?_)
  · obtain ⟨_, _, _, _, _, _, rfl, _⟩ := h; rfl
  · obtain ⟨a, dx, sq, fl, ps, kb, rfl, ha, hS, hs, ok, hO, h2, hl, k⟩ := h
    refine ⟨_, (pss_cons (ps_if (PW.pt (pw_or (pt_not (pt_val (pe_c c_is_word hr (by decide) rfl (pa_cons (pv 1) pa_nil)))) (pw_or1 (pt_cmpR op_lt (pe_callB call_len_str (by rfl) T.b_len (by decide +kernel) (pa_cons (pv 1) pa_nil)) pe_int (nomark _))))) (pss_one ps_never) pss_nil)
    (pss_cons (ps_if (pt_not (pt_val (pe_c c_are_stuffs hr (by decide) rfl (pa_cons (pv 2) pa_nil)))) (pss_one ps_never) pss_nil)
    (pss_cons (ps_fld (pv 0) (pv 1) rfl)
    (pss_cons (ps_fld (pv 0) (pe_callTy call_tuple_of (by rfl) T.b_tuple (by decide +kernel) (pa_cons (pe_callB cr_sortedT (by rfl) T.b_sorted (by decide +kernel) (pa_cons (pv 2) pa_nil)) pa_nil)) rfl)
    (pss_one (ps_if (pt_val (pe_mt0 (pl := _) c_is_endless hr (by decide) (pv 0))) (pss_one ps_never) pss_nil)))))), ?_⟩
    have lf : (W fl).length = fl.length := W_len fl
    refine ⟨_, rfl, _, rfl, .inl ⟨_, rfl, by rw [lf]; omega, fun H1 s1 => ⟨_, rfl, iteBF (by rw [isW_W]; rfl) ?_⟩⟩⟩
    refine ⟨_, rfl, _, rfl, by rw [lf]; exact sl_len (by omega), _, _, rfl, rfl, _, rfl, iteDF (by rw [lf]; omega) ?_⟩
    refine ⟨_, rfl, sq, ps, kb, rfl, hS.same s1, hs.same s1, ok, fun H2 s2 => ⟨_, rfl, ?_⟩⟩
    have s02 := s1.trans s2
    have ha2 := s02 _ _ ha
    refine ⟨_, rfl, _, rfl, a, C, dx, _, rfl, ha2, RT.cl, RT.nF, by decide, ?_⟩
    have keep3 : ∀ c o, H c = some o → c ≠ a → upd H2 a (.ins C dx (putF "flag" (.str (W fl)) [])) c = some o := fun c o e n => by rw [upd_ne n]; exact s02 _ _ e
    have ha3 : upd H2 a (.ins C dx (putF "flag" (.str (W fl)) [])) a = some (.ins C dx (putF "flag" (.str (W fl)) [])) := upd_same
    have hs3 : StV (upd H2 a (.ins C dx (putF "flag" (.str (W fl)) []))) kb ps := fun t ht => keep3 _ _ (hs t ht) (ne_of (hs t ht) ha (by intro z; cases z))
    have hS3 : SqL K (upd H2 a (.ins C dx (putF "flag" (.str (W fl)) []))) sq (ps.map V.ref) ∨ SqT K (upd H2 a (.ins C dx (putF "flag" (.str (W fl)) []))) sq (ps.map V.ref) := by
      rcases hS with ((h | ⟨o, h⟩) | h) | ((h | ⟨o, h⟩) | h)
      · exact .inl (.inl (.inl (keep3 _ _ h (ne_of h ha (by intro z; cases z)))))
      · exact .inl (.inl (.inr ⟨o, keep3 _ _ h (ne_of h ha (by intro z; cases z))⟩))
      · exact .inl (.inr h)
      · exact .inr (.inl (.inl (keep3 _ _ h (ne_of h ha (by intro z; cases z)))))
      · exact .inr (.inl (.inr ⟨o, keep3 _ _ h (ne_of h ha (by intro z; cases z))⟩))
      · exact .inr (.inr h)
    generalize upd H2 a (.ins C dx (putF "flag" (.str (W fl)) [])) = H3 at keep3 ha3 hs3 hS3
    refine ⟨_, rfl, sq, ps, fun t => key (kb t), rfl, hS3, fun t ht => hs3 t ht, fun qs p1 srt prm n1 => ?_⟩
    refine ⟨p1, _, rfl, .inl ⟨SqL.of upd_same, fun p2 n2 => ?_⟩⟩
    have s5 : Same H3 (upd (upd H3 p1 (.lst (qs.map V.ref))) p2 (.tup (qs.map V.ref))) := (same_upd n1).trans (same_upd n2)
    have hT5 : upd (upd H3 p1 (.lst (qs.map V.ref))) p2 (.tup (qs.map V.ref)) p2 = some (.tup (qs.map V.ref)) := upd_same
    generalize upd (upd H3 p1 (.lst (qs.map V.ref))) p2 (.tup (qs.map V.ref)) = H5 at s5 hT5
    have ha5 := s5 _ _ ha3
    refine ⟨_, rfl, a, C, dx, _, rfl, ha5, RT.cl, RT.nS, by show 1 < 1000; decide, ?_⟩
    have na2 : p2 ≠ a := ne_of hT5 ha5 (by intro z; cases z)
    have keep6 : ∀ c o, H3 c = some o → c ≠ a → upd H5 a (.ins C dx (putF "stuffs" (.ref p2) (putF "flag" (.str (W fl)) []))) c = some o := fun c o e n => by rw [upd_ne n]; exact s5 _ _ e
    have ha6 : upd H5 a (.ins C dx (putF "stuffs" (.ref p2) (putF "flag" (.str (W fl)) []))) a = some (.ins C dx (ruF fl p2)) := upd_same
    have hT6 : upd H5 a (.ins C dx (putF "stuffs" (.ref p2) (putF "flag" (.str (W fl)) []))) p2 = some (.tup (qs.map V.ref)) := by rw [upd_ne na2]; exact hT5
    generalize upd H5 a (.ins C dx (putF "stuffs" (.ref p2) (putF "flag" (.str (W fl)) []))) = H6 at keep6 ha6 hT6
    have hs6 : StV H6 kb qs := StV.perm (fun t ht => keep6 _ _ (hs3 t ht) (ne_of (hs3 t ht) ha3 (by intro z; cases z))) prm
    have pm : (qs.map kb).Perm (ps.map kb) := prm.map kb
    have hR6 : RuAt C H6 a fl (qs.map kb) := ⟨dx, p2, qs, kb, ha6, hT6, hs6, rfl⟩
    have ok6 := ok.perm pm.symm
    refine ⟨_, rfl, a, dx, _, rfl, ha6, ruF_no _ _ (by decide +kernel) (by decide +kernel), a, fl, qs.map kb, rfl, hR6, ok6.few, ok6.long, hO.congr fun l => put_perm ok.free pm.symm l, fun H7 s7 => ⟨_, rfl, ?_⟩⟩
    exact k H7 (qs.map kb) (fun c o e n => s7 _ _ (keep6 _ _ (keep3 _ _ e n) n)) pm (pwS srt) (hR6.same s7)
end
end U

set_option maxRecDepth 100000
set_option maxHeartbeats 4000000
namespace U
open PySem PySem.Spec PyProof.Rows
open L2 hiding Fun CX0 E0 pass0 Fun.binds
open C8 Lx SX
/-! checks -/
def ckF (p s : List Bool) : List (Str × V) := putF "start" (.str (W s)) (putF "poly" (.str (W p)) [])
theorem ps_ne : ¬ (("poly" : Str) = "start") := by decide +kernel
theorem ckF_poly (p s : List Bool) : (ckF p s).lookup ("poly" : Str) = some (.str (W p)) := by
  unfold ckF
  rw [lookup_putF, if_neg ps_ne, lookup_putF, if_pos rfl]
theorem ckF_start (p s : List Bool) : (ckF p s).lookup ("start" : Str) = some (.str (W s)) := by
  unfold ckF
  rw [lookup_putF, if_pos rfl]
theorem ckF_no (p s : List Bool) {m : Str} (h1 : ¬ m = "start") (h2 : ¬ m = "poly") : (ckF p s).lookup m = none := by
  unfold ckF
  rw [lookup_putF, if_neg h1, lookup_putF, if_neg h2]
  all_goals rfl
def CkAt (C : Addr) (H : Hp) (a : Addr) (p s : List Bool) : Prop := ∃ dx, H a = some (.ins C dx (ckF p s))
theorem CkAt.same {C : Addr} {H H' : Hp} {a : Addr} {p s : List Bool} (h : CkAt C H a p s) (e : Same H H') : CkAt C H' a p s := by
  obtain ⟨dx, h⟩ := h
  exact ⟨dx, e _ _ h⟩
theorem CkAt.up {C b : Addr} {H H' : Hp} {a : Addr} {p s : List Bool} (hb : Box H b) (h : CkAt C H a p s) (e : Up b H H') : CkAt C H' a p s := by
  obtain ⟨dx, h⟩ := h
  obtain ⟨i, j, hb⟩ := hb
  exact ⟨dx, e.1 _ _ h (ne_of h hb (by intro z; cases z))⟩
theorem CkAt.nl {C : Addr} {H H' : Hp} {a : Addr} {p s : List Bool} (h : CkAt C H a p s) (e : NL H H') : CkAt C H' a p s := by
  obtain ⟨dx, h⟩ := h
  exact ⟨dx, e.ins h⟩
structure CkOk (p s : List Bool) : Prop where
  hd : p.head? = some true
  last : p.getLast? = some true
  len : s.length + 1 = p.length
def zs (n : Nat) : List Bool := List.replicate n false
theorem mul_0 (n : Int) : Txt.mul "0" n = W (zs n.toNat) := by
  refine TL.ext_tl ?_
  have e : ("0" : Str) = ⟨#[48]⟩ := by decide +kernel
  rw [e]
  show (Txt.mul ⟨#[48]⟩ n).cps.toList = (zs n.toNat).map bt
  rw [PyProof.Rows.mul_one_list]
  unfold zs
  rw [List.map_replicate]
  rfl
theorem take1 {p : List Bool} (h : p.head? = some true) : W (p.take 1) = "1" := by
  cases p with
  | nil => cases h
  | cons b r =>
    cases (Option.some.inj h)
    rw [W_1]
    rfl
theorem last1 {p : List Bool} (h : p.getLast? = some true) : W (p.drop (p.length - 1)) = "1" := by
  rw [W_1]
  cases p with
  | nil => cases h
  | cons b r =>
    congr 1
    rw [List.getLast?_eq_getElem?] at h
    have hl : (b :: r).length - 1 < (b :: r).length := by simp
    rw [List.drop_eq_getElem_cons hl]
    rw [List.getElem?_eq_getElem hl] at h
    rw [Option.some.inj h]
    congr 1
    rw [List.drop_eq_nil_iff]
    omega
theorem W_last {p : List Bool} (h : p ≠ []) : Txt.slice (W p) (some (-1)) none = W (p.drop (p.length - 1)) := by
  unfold W
  rw [slice_last (by simpa using h), List.map_drop, List.length_map]
/-- the class as the top leaves it -/
structure CkT (K : PySem.W.Frag) (C : Addr) : Prop where
  cl : Cls K C
  nP : NoAttr K C "poly"
  nS : NoAttr K C "start"
def spCkInit (C : Addr) : Sp := fun vs H Q _ => ∃ (a dx : Addr) (p s : List Bool) (sv : V), vs = [.ref a, .str (W p), sv] ∧ H a = some (.ins C dx []) ∧ CkOk p s ∧ p.length ≤ 1000 ∧ (sv = .str (W s) ∨ (sv = .non ∧ s = zs (p.length - 1))) ∧
  ∀ H', (∀ b o, H b = some o → b ≠ a → H' b = some o) → H' a = some (.ins C dx (ckF p s)) → Q .non H'
def stepM (p r : List Bool) (b : Bool) : List Bool := match r ++ [b] with
  | [] => []
  | x :: l => if x then List.zipWith xor l p.tail else l
def restM (p s : List Bool) (bits : List Bool) : List Bool := bits.foldl (stepM p) s
theorem stepM_len {p r : List Bool} (h : r.length + 1 = p.length) (b : Bool) : (stepM p r b).length = r.length := by
  unfold stepM
  cases r with
  | nil =>
    show (if b then List.zipWith xor [] p.tail else []).length = 0
    cases b <;> rfl
  | cons x l =>
    show (if x then List.zipWith xor (l ++ [b]) p.tail else l ++ [b]).length = _
    split
    · rw [List.length_zipWith, List.length_append, List.length_tail]
      simp only [List.length_cons, List.length_nil] at h ⊢
      omega
    · simp
theorem restM_len {p : List Bool} : ∀ (bits s : List Bool), s.length + 1 = p.length → (restM p s bits).length = s.length
  | [], _, _ => rfl
  | b :: r, s, h => by
    have e := stepM_len h b
    show (restM p (stepM p s b) r).length = _
    rw [restM_len r (stepM p s b) (by omega), e]
def spStep (C : Addr) : Sp := fun vs H Q _ => ∃ (a : Addr) (p s r : List Bool) (b : Bool), vs = [.ref a, .str (W r), .str (W [b])] ∧ CkAt C H a p s ∧ p.length ≤ 1000 ∧ r.length + 1 = p.length ∧
  ∀ H', Same H H' → Q (.str (W (stepM p r b))) H'
def spRest (C : Addr) : Sp := fun vs H Q _ => ∃ (a : Addr) (p s l : List Bool), vs = [.ref a, .str (W l)] ∧ CkAt C H a p s ∧ p.length ≤ 1000 ∧ s.length + 1 = p.length ∧
  ∀ H', Same H H' → Q (.str (W (restM p s l))) H'
def spDegree (C : Addr) : Sp := fun vs H Q _ => ∃ (a : Addr) (p s : List Bool), vs = [.ref a] ∧ CkAt C H a p s ∧ p.length ≤ 1000 ∧ s.length + 1 = p.length ∧ Q (.int (s.length : Nat)) H
theorem int_bit (b : Bool) : (Str.ofString (toString (if b then (1 : Int) else 0))) = W [b] := by cases b <;> decide +kernel
section
variable {P : Program} {w : World} {K : PySem.W.Frag} {mg : Str → Option Value} {base : Heap}
theorem sc_Check_init : FnScope ["self", "poly", "start"] ["self", "poly", "start"] (fnScope s_Check_init) := fnScope_by (by decide +kernel)
theorem ok_Check_init {f C : Addr} {fd : FuncData} (F : C8.Fun K "__init__" "Check.__init__" s_Check_init f fd) (T : Tx mg) (CT : CkT K C) (c_is_word : Cal P w K mg base 1 "is_word" (spIsWord K) []) :
    FnOk P w K mg base CX0 2 f fd ["self", "poly", "start"] (spCkInit C) := by
  refine fn0 F sc_Check_init (fun vs H Q E h => ?_) (fun cdv A outer s H vs Q E hr h => ?_)
  · obtain ⟨_, _, _, _, _, rfl, _⟩ := h; rfl
  · obtain ⟨a, dx, p, st, sv, rfl, ha, ok, hl, hsv, k⟩ := h
    refine ⟨_, (pss_cons (ps_if (PW.pt (pw_or (pt_not (pt_val (pe_c c_is_word hr (by decide) rfl (pa_cons (pv 1) pa_nil)))) (pw_or (pt_cmpR op_ne (pe_slice sl_txt (pv 1) po_none (po_some pe_int)) pe_str (nomark _)) (pw_or1 (pt_cmpR op_ne (pe_slice sl_txt (pv 1) (po_some (pe_un un_neg pe_int)) po_none) pe_str (nomark _)))))) (pss_one ps_never) pss_nil)
    (pss_cons (ps_if (PW.pt (pw_and (pt_cmpR op_notN (pv 2) pe_non (nomark _)) (pw_and1 (PW.pt (pw_or (pt_not (pt_val (pe_c c_is_word hr (by decide) rfl (pa_cons (pv 2) pa_nil)))) (pw_or1 (pt_cmpR op_ne (pe_callB call_len_str (by rfl) T.b_len (by decide +kernel) (pa_cons (pv 2) pa_nil)) (pe_op op_sub (pe_callB call_len_str (by rfl) T.b_len (by decide +kernel) (pa_cons (pv 1) pa_nil)) pe_int) (nomark _)))))))) (pss_one ps_never) pss_nil)
    (pss_cons (ps_fld (pv 0) (pv 1) rfl)
    (pss_one (ps_fld (pv 0) (pe_ifExp (pt_cmpR op_isN (pv 2) pe_non (nomark _)) (pe_op op_rep_str pe_str (pe_op op_sub (pe_callB call_len_str (by rfl) T.b_len (by decide +kernel) (pa_cons (pv 1) pa_nil)) pe_int)) (pv 2)) rfl))))), ?_⟩
    have pn : p ≠ [] := fun z => by have := ok.len; rw [z] at this; cases this
    have lw : (W p).length ≤ sizeLine := by rw [W_len]; exact sl_len (by omega)
    refine ⟨_, rfl, _, rfl, .inl ⟨_, rfl, by rw [W_len]; omega, fun H1 s1 => ⟨_, rfl, iteBF (by rw [isW_W]; rfl) ?_⟩⟩⟩
    refine ⟨_, rfl, _, rfl, _, rfl, lw, rfl, _, rfl, iteNS (by rw [W_take (by decide)]; exact congrArg V.str (take1 ok.hd)) ?_⟩
    refine ⟨_, rfl, _, rfl, _, rfl, _, rfl, lw, rfl, _, rfl, iteNS (by rw [W_last pn]; exact congrArg V.str (last1 ok.last)) ?_⟩
    have el : (W p).length = p.length := W_len p
    have hp1 : ∀ {H2 : Hp}, Same H H2 → H2 a = some (.ins C dx []) := fun s2 => s2 _ _ ha
    have keep : ∀ {H2 : Hp} {o u : HO}, Same H H2 → ∀ b x, H b = some x → b ≠ a → upd (upd H2 a o) a u b = some x := fun s2 b x e n => by
      rw [upd_ne n, upd_ne n]
      exact s2 _ _ e
    rcases hsv with rfl | ⟨rfl, rfl⟩
    · refine ⟨_, rfl, rfl, _, rfl, ?_⟩
      refine ⟨_, rfl, _, rfl, .inl ⟨_, rfl, by rw [W_len]; have := ok.len; omega, fun H2 s2 => ⟨_, rfl, iteBF (by rw [isW_W]; rfl) ?_⟩⟩⟩
      have lw2 : (W st).length ≤ sizeLine := by rw [W_len]; exact sl_len (by have := ok.len; omega)
      refine ⟨_, rfl, _, rfl, lw2, _, rfl, _, rfl, lw, _, _, rfl, rfl, rfl, _, rfl, iteNS (by rw [W_len, W_len]; have := ok.len; congr 1; omega) ?_⟩
      have s3 := s1.trans s2
      refine ⟨_, rfl, _, rfl, a, C, dx, _, rfl, hp1 s3, CT.cl, CT.nP, (by show 0 < 1000; decide), ?_⟩
      refine ⟨_, rfl, rfl, _, rfl, ?_⟩
      refine ⟨_, rfl, _, rfl, a, C, dx, _, rfl, upd_same, CT.cl, CT.nS, (by show 1 < 1000; decide), ?_⟩
      exact k _ (keep s3) upd_same
    · refine ⟨_, rfl, rfl, _, rfl, ?_⟩
      refine ⟨_, rfl, _, rfl, a, C, dx, _, rfl, hp1 s1, CT.cl, CT.nP, (by show 0 < 1000; decide), ?_⟩
      refine ⟨_, rfl, rfl, _, rfl, ?_⟩
      have ez : Txt.mul "0" (((W p).length : Int) - 1) = W (zs (p.length - 1)) := by rw [mul_0, W_len]; congr 2; omega
      have e0 : ("0" : Str).length = 1 := by decide +kernel
      refine ⟨_, rfl, _, rfl, lw, _, _, rfl, rfl, _, _, rfl, rfl, by omega, by omega, by rw [e0]; omega, ?_⟩
      rw [ez]
      refine ⟨_, rfl, a, C, dx, _, rfl, upd_same, CT.cl, CT.nS, (by show 1 < 1000; decide), ?_⟩
      exact k _ (keep s1) upd_same
theorem sc_Check_step : FnScope ["self", "rest", "bit", "longer", "one", "other"] ["self", "rest", "bit"] (fnScope s_Check_step) := fnScope_by (by decide +kernel)
theorem met_step {f C : Addr} {fd : FuncData} (F : C8.Fun K "step" "Check.step" s_Check_step f fd) (me : Meth K C "step" f) (b : Binds K fd ["self", "rest", "bit"] []) (T : Tx mg) (CT : CkT K C) : Met P w K mg base 1 C "step" (spStep C) [] := by
  refine met0 CT.cl me F b sc_Check_step (fun vs H Q E h => ?_) (fun cdv A outer s H vs Q E hr h => ?_)
  · obtain ⟨_, _, _, _, _, rfl, _⟩ := h; rfl
  · obtain ⟨a, p, st, r, bb, rfl, ⟨dx, ha⟩, hl, hr1, k⟩ := h
    refine ⟨_, (pss_cons (ps_set (i := 3) sc_Check_step.nd rfl (.inl rfl) (pe_op op_add_str (pv 1) (pv 2)))
    (pss_cons (ps_if (pt_cmpR op_eq (pe_ix ix_str (pv 3) pe_int (fun _ _ => rfl)) pe_str (nomark _)) (pss_one (ps_ret (pe_slice sl_txt (pv 3) (po_some pe_int) po_none))) pss_nil)
    (pss_one (ps_ret (pe_join pe_str (pe_lc (own := [("one", 4), ("other", 5)]) (g := gTup K 2 (gCons (gName 4) (gCons (gName 5) gNil))) (by rfl) sc_Check_step.nd (pi_zipS (by rfl) T.b_zip (pa_cons (pe_slice sl_txt (pv 3) (po_some pe_int) po_none) (pa_cons (pe_slice sl_txt (pe_fld (pv 0) rfl) (po_some pe_int) po_none) pa_nil))) (blkOk_by (own := [("one", 4), ("other", 5)]) (N := ["self", "rest", "bit", "longer", "one", "other"]) (sc := fnScope s_Check_step) (by decide +kernel)) (fun _ _ _ _ _ => (pg_tup rfl (pgs_cons (pg_name (i := 4) sc_Check_step.nd rfl (.inl rfl)) (pgs_cons (pg_name (i := 5) sc_Check_step.nd rfl (.inl rfl)) pgs_nil)))) (fun _ _ _ _ _ => pts_nil) (fun _ _ _ _ _ => (pe_callTy call_str_int (by rfl) T.b_str (by decide +kernel) (pa_cons (pe_callTy call_int1 (by rfl) T.b_int (by decide +kernel) (pa_cons (pe_cmpR op_ne (pv 4) (pv 5) (nomark _)) pa_nil)) pa_nil))))))))), ?_⟩
    have l1 : (W r).length + (W [bb]).length ≤ sizeLine := by rw [W_len, W_len]; exact sl_len (by show r.length + 1 ≤ 100000; omega)
    refine ⟨_, rfl, _, rfl, _, _, rfl, rfl, l1, ?_⟩
    rw [W_cat]
    have lw : (W (r ++ [bb])).length ≤ sizeLine := by rw [W_len, List.length_append]; exact sl_len (by show r.length + 1 ≤ 100000; omega)
    cases e : r ++ [bb] with
    | nil => exact absurd e (by simp)
    | cons x l =>
      rw [e] at lw
      have em : stepM p r bb = if x then List.zipWith xor l p.tail else l := by unfold stepM; rw [e]
      have at0 : atI (W (x :: l)).cps.toList 0 = some (bt x) := atI_nat (j := 0) (by rw [W_tl]; rfl)
      have ed : Txt.slice (W (x :: l)) (some 1) none = W l := by rw [W_drop (by decide)]; rfl
      refine ⟨_, rfl, _, _, _, rfl, rfl, lw, at0, rfl, _, rfl, ?_⟩
      cases x with
      | false =>
        refine iteDT (show V.str ⟨#[bt false]⟩ = V.str "0" by decide +kernel) ⟨_, rfl, _, rfl, _, rfl, lw, ?_⟩
        rw [ed]
        have := k H (Same.refl H)
        rw [em] at this
        exact this
      | true =>
        refine iteDF (show ¬ V.str ⟨#[bt true]⟩ = V.str "0" by decide +kernel) ⟨⟨_, rfl⟩, ?_⟩
        have lp : (W p).length ≤ sizeLine := by rw [W_len]; exact sl_len (by omega)
        have ep : Txt.slice (W p) (some 1) none = W p.tail := by rw [W_drop (by decide)]; congr 1; cases p <;> rfl
        refine ⟨_, rfl, _, rfl, _, rfl, lw, _, rfl, a, C, dx, _, _, rfl, ha, CT.cl, CT.nP, ckF_poly _ _, _, rfl, _, rfl, lp, ?_⟩
        rw [ed, ep]
        have ll : l.length = p.tail.length := by
          have := congrArg List.length e
          rw [List.length_append, List.length_cons] at this
          rw [List.length_tail]
          simp only [List.length_cons, List.length_nil] at this
          omega
        have lb : l.length ≤ 1000 := by rw [ll, List.length_tail]; omega
        refine ⟨_, _, rfl, fun D nD => ?_⟩
        have hn : min (W l).cps.size (W p.tail).cps.size = l.length := by rw [W_size, W_size, ll, Nat.min_self]
        rw [hn]
        have lz : (List.zipWith xor l p.tail).length = l.length := by rw [List.length_zipWith, ll, Nat.min_self]
        refine lc_it walk_tuples (fun i H2 => Same H H2 ∧ H2 D = some (.lst (bitsV ((List.zipWith xor l p.tail).take i)))) ⟨same_upd nD, upd_same⟩ (fun _ _ _ _ => trivial) ?_ ?_
        · rintro i x H2 H3 hi ⟨s2, hD⟩ ⟨T, xs, rfl, nT, rfl, c, d, hc, hd, rfl⟩
          obtain ⟨b1, hb1, rfl⟩ := W_get hc
          obtain ⟨b2, hb2, rfl⟩ := W_get hd
          refine ⟨T, _, rfl, SqT.of upd_same, rfl, _, _, rfl, _, _, rfl, rfl, rfl, ?_⟩
          have hz : (List.zipWith xor l p.tail)[i]? = some (xor b1 b2) := by rw [List.getElem?_zipWith, hb1, hb2]
          have ex : (!decide (V.str ⟨#[bt b1]⟩ = V.str ⟨#[bt b2]⟩)) = xor b1 b2 := by cases b1 <;> cases b2 <;> decide +kernel
          have hD3 : upd H2 T (.tup [.str ⟨#[bt b1]⟩, .str ⟨#[bt b2]⟩]) D = some (.lst (bitsV ((List.zipWith xor l p.tail).take i))) := by rw [upd_ne (ne_of_none hD nT)]; exact hD
          refine ⟨_, rfl, _, rfl, rfl, .inr ⟨_, rfl, _, rfl, ?_, _, hD3, ?_, ?_, ?_⟩⟩
          · split <;> decide
          · rw [bitsV_len, List.length_take]; exact sl_lt (by omega)
          · intro c' o e'
            rw [upd_ne (ne_of_none e' nD)]
            exact (s2.trans (same_upd nT)) _ _ e'
          · rw [upd_same, ex, List.take_add_one, hz]
            show some (HO.lst (bitsV _ ++ [V.str (Str.ofString (toString (if xor b1 b2 = true then (1 : Int) else 0)))])) = _
            rw [int_bit, bitsV_snoc]
            rfl
        · rintro H2 ⟨s2, hD⟩
          rw [List.take_of_length_le (by omega)] at hD
          refine ⟨_, D, _, rfl, rfl, .inl (SqL.of hD), ?_, ?_⟩
          · rw [lens_bits, empty_len]; omega
          · show Q (.str (Txt.join "" ((List.zipWith xor l p.tail).map fun b => W [b]))) H2
            rw [join_bits]
            have := k H2 s2
            rw [em] at this
            exact this
theorem sc_Check_rest : FnScope ["self", "bits", "found", "bit"] ["self", "bits"] (fnScope s_Check_rest) := fnScope_by (by decide +kernel)
theorem fnk_rest {f C : Addr} {fd : FuncData} (F : C8.Fun K "rest" "Check.rest" s_Check_rest f fd) (me : Meth K C "rest" f) (b : Binds K fd ["self", "bits"] []) (T : Tx mg) (CT : CkT K C) (c_step : Met P w K mg base 1 C "step" (spStep C) []) : FnOk P w K mg base CX0 2 f fd ["self", "bits"] (spRest C) := by
  refine fn0 F sc_Check_rest (fun vs H Q E h => ?_) (fun cdv A outer s H vs Q E hr h => ?_)
  · obtain ⟨_, _, _, _, rfl, _⟩ := h; rfl
  · obtain ⟨a, p, st, l, rfl, hc, hl, hs, k⟩ := h
    refine ⟨_, (pss_cons (ps_set (i := 2) sc_Check_rest.nd rfl (.inl rfl) (pe_fld (pv 0) rfl))
    (pss_cons (ps_for PassesOwn.never rfl (pi_str (pv 1)) (pg_name (i := 3) sc_Check_rest.nd rfl (.inl rfl))
    (pss_one (ps_set (i := 2) sc_Check_rest.nd rfl (.inl rfl) (pe_mt (pl := _) c_step hr (by decide) (pv 0) (pa_cons (pv 2) (pa_cons (pv 3) pa_nil))))))
    (pss_one (ps_ret (pv 2))))), ?_⟩
    have hc0 := hc
    obtain ⟨dx, ha⟩ := hc
    refine ⟨_, rfl, a, C, dx, _, _, rfl, ha, CT.cl, CT.nS, ckF_start _ _, ?_⟩
    refine ⟨_, rfl, W l, rfl, for_it walk_str (fun i σ H2 => ∃ v3 : Option V, σ = [some (.ref a), some (.str (W l)), some (.str (W (restM p st (l.take i)))), v3] ∧ Same H H2) ⟨none, rfl, Same.refl _⟩ (fun _ _ _ _ _ => trivial) ?_ ?_⟩
    · rintro i x σ H2 H3 hi ⟨v3, rfl, s2⟩ ⟨rfl, c, hc, rfl⟩
      obtain ⟨b1, hb1, rfl⟩ := W_get hc
      refine ⟨_, rfl, a, dx, _, rfl, s2 _ _ ha, ckF_no _ _ (by decide +kernel) (by decide +kernel), _, rfl, _, rfl, a, p, st, _, b1, rfl, hc0.same s2, hl, ?_, fun H4 s4 => ?_⟩
      · rw [restM_len _ _ hs]; exact hs
      · have e : restM p st (l.take (i + 1)) = stepM p (restM p st (l.take i)) b1 := by
          unfold restM
          rw [List.take_add_one, hb1, List.foldl_append]
          rfl
        rw [e]
        exact ⟨_, rfl, s2.trans s4⟩
    · rintro σ H2 ⟨v3, rfl, s2⟩
      refine ⟨_, rfl, ?_⟩
      rw [W_size, List.take_length]
      exact k H2 s2
theorem met_rest {f C : Addr} {fd : FuncData} (F : C8.Fun K "rest" "Check.rest" s_Check_rest f fd) (me : Meth K C "rest" f) (b : Binds K fd ["self", "bits"] []) (T : Tx mg) (CT : CkT K C) (c_step : Met P w K mg base 1 C "step" (spStep C) []) : Met P w K mg base 2 C "rest" (spRest C) [] :=
  ⟨f, fd, _, [], CT.cl, me, fnk_rest F me b T CT c_step, b, .nil⟩
theorem sc_Check_degree : FnScope ["self"] ["self"] (fnScope s_Check_degree) := fnScope_by (by decide +kernel)
theorem ok_degree {f C : Addr} {fd : FuncData} (F : C8.Fun K "degree" "Check.degree" s_Check_degree f fd) (T : Tx mg) (CT : CkT K C) : FnOk P w K mg base CX0 1 f fd ["self"] (spDegree C) := by
  refine fn0 F sc_Check_degree (fun vs H Q E h => ?_) (fun cdv A outer s H vs Q E hr h => ?_)
  · obtain ⟨_, _, _, rfl, _⟩ := h; rfl
  · obtain ⟨a, p, st, rfl, ⟨dx, ha⟩, hl, hs, k⟩ := h
    refine ⟨_, (pss_one (ps_ret (pe_op op_sub (pe_callB call_len_str (by rfl) T.b_len (by decide +kernel) (pa_cons (pe_fld (pv 0) rfl) pa_nil)) pe_int))), ?_⟩
    refine ⟨_, rfl, a, C, dx, _, _, rfl, ha, CT.cl, CT.nP, ckF_poly _ _, _, rfl, (by rw [W_len]; exact sl_len (by omega)), _, _, rfl, rfl, ?_⟩
    have e : (((W p).length : Nat) : Int) - 1 = (st.length : Nat) := by rw [W_len]; omega
    show Q (.int (((W p).length : Nat) - 1)) H
    rw [e]
    exact k
end
end U

namespace U
/-! the algebra of the rests -/
def xr (a b : List Bool) : List Bool := List.zipWith xor a b
theorem xr_len {a b : List Bool} (h : a.length = b.length) : (xr a b).length = a.length := by unfold xr; rw [List.length_zipWith, h, Nat.min_self]
theorem xr_cons (x y : Bool) (a b : List Bool) : xr (x :: a) (y :: b) = xor x y :: xr a b := rfl
theorem xr_app {a b c d : List Bool} (h : a.length = b.length) : xr (a ++ c) (b ++ d) = xr a b ++ xr c d := by
  unfold xr
  exact List.zipWith_append h
theorem xr_comm : ∀ a b : List Bool, xr a b = xr b a
  | [], [] => rfl
  | [], _ :: _ => rfl
  | _ :: _, [] => rfl
  | x :: a, y :: b => by rw [xr_cons, xr_cons, xr_comm a b, Bool.xor_comm]
theorem xr_assoc : ∀ a b c : List Bool, xr (xr a b) c = xr a (xr b c)
  | [], _, _ => by simp [xr]
  | _ :: _, [], _ => by simp [xr]
  | _ :: _, _ :: _, [] => by simp [xr]
  | x :: a, y :: b, z :: c => by rw [xr_cons, xr_cons, xr_cons, xr_cons, xr_assoc a b c, Bool.xor_assoc]
theorem xr_self : ∀ a : List Bool, xr a a = zs a.length
  | [] => rfl
  | x :: a => by rw [xr_cons, xr_self a, Bool.xor_self]; rfl
theorem xr_zs : ∀ (a : List Bool), xr a (zs a.length) = a
  | [] => rfl
  | x :: a => by
    show xr (x :: a) (false :: zs a.length) = _
    rw [xr_cons, xr_zs a, Bool.xor_false]
theorem zs_xr (a : List Bool) : xr (zs a.length) a = a := by rw [xr_comm, xr_zs]
theorem zs_len (n : Nat) : (zs n).length = n := by unfold zs; simp
theorem xr_eq_zs : ∀ {a b : List Bool}, a.length = b.length → xr a b = zs a.length → a = b
  | [], [], _, _ => rfl
  | [], _ :: _, h, _ => by simp at h
  | _ :: _, [], h, _ => by simp at h
  | x :: a, y :: b, h, e => by
    rw [xr_cons] at e
    have e' : xor x y :: xr a b = false :: zs a.length := e
    injection e' with e1 e2
    have h' : a.length = b.length := by simpa using h
    rw [xr_eq_zs h' e2]
    congr 1
    cases x <;> cases y <;> first | rfl | cases e1
theorem stepM_cons (p : List Bool) (x : Bool) (l : List Bool) (b : Bool) : stepM p (x :: l) b = if x then xr (l ++ [b]) p.tail else l ++ [b] := rfl
theorem stepM_nil (p : List Bool) (b : Bool) : stepM p [] b = [] := by
  show (if b then List.zipWith xor [] p.tail else []) = []
  cases b <;> rfl
theorem stepM_xr {p r q : List Bool} (h : r.length + 1 = p.length) (hq : q.length = r.length) (b c : Bool) : stepM p (xr r q) (xor b c) = xr (stepM p r b) (stepM p q c) := by
  cases r with
  | nil =>
    cases q with
    | nil => rw [show xr [] [] = [] from rfl, stepM_nil, stepM_nil, stepM_nil]; rfl
    | cons _ _ => simp at hq
  | cons x l =>
    cases q with
    | nil => simp at hq
    | cons y m =>
      have hl : m.length = l.length := by simpa using hq
      have e : xr (l ++ [b]) (m ++ [c]) = xr l m ++ [xor b c] := by rw [xr_app hl.symm]; rfl
      have ht : p.tail.length = l.length + 1 := by rw [List.length_tail]; simp only [List.length_cons] at h; omega
      rw [xr_cons, stepM_cons, stepM_cons, stepM_cons, ← e]
      have z : xr p.tail p.tail = zs p.tail.length := xr_self _
      have lb : (l ++ [b]).length = p.tail.length := by rw [List.length_append, ht]; rfl
      have lc : (m ++ [c]).length = p.tail.length := by rw [List.length_append, ht, hl]; rfl
      cases x <;> cases y <;> simp only [Bool.xor_false, Bool.false_xor, Bool.xor_true, Bool.not_true, Bool.not_false, if_true, if_false, Bool.false_eq_true, Bool.xor_self]
      · rw [← xr_assoc]
      · rw [xr_assoc, xr_assoc, xr_comm (m ++ [c]) p.tail]
      · rw [xr_assoc, xr_comm p.tail (xr (m ++ [c]) p.tail), xr_assoc (m ++ [c]), z, ← lc, xr_zs]
theorem restM_app (p s a b : List Bool) : restM p s (a ++ b) = restM p (restM p s a) b := List.foldl_append
theorem restM_xr {p : List Bool} : ∀ (a b r q : List Bool), a.length = b.length → r.length + 1 = p.length → q.length = r.length → restM p (xr r q) (xr a b) = xr (restM p r a) (restM p q b)
  | [], [], _, _, _, _, _ => rfl
  | [], _ :: _, _, _, h, _, _ => by simp at h
  | _ :: _, [], _, _, h, _, _ => by simp at h
  | x :: a, y :: b, r, q, h, hr, hq => by
    have h' : a.length = b.length := by simpa using h
    have l1 := stepM_len hr x
    have l2 := stepM_len (p := p) (r := q) (by omega) y
    show restM p (stepM p (xr r q) (xor x y)) (xr a b) = xr (restM p (stepM p r x) a) (restM p (stepM p q y) b)
    rw [stepM_xr hr hq, restM_xr a b _ _ h' (by omega) (by omega)]
theorem zs_succ (n : Nat) : zs (n + 1) = false :: zs n := rfl
theorem zs_app (m n : Nat) : zs (m + n) = zs m ++ zs n := by unfold zs; rw [List.replicate_append_replicate]
/-- noughts leave noughts -/
theorem stepM_0 (p : List Bool) (d : Nat) : stepM p (zs d) false = zs d := by
  cases d with
  | zero => exact stepM_nil p false
  | succ n =>
    rw [zs_succ, stepM_cons]
    show zs n ++ [false] = _
    rw [show [false] = zs 1 from rfl, ← zs_app]
    rfl
theorem restM_0 (p : List Bool) (d : Nat) : ∀ n : Nat, restM p (zs d) (zs n) = zs d
  | 0 => rfl
  | n + 1 => by
    show restM p (stepM p (zs d) false) (zs n) = _
    rw [stepM_0, restM_0 p d n]
/-- bits that come in behind noughts stand there -/
theorem restM_in (p : List Bool) : ∀ (c : List Bool) (e : List Bool), restM p (zs c.length ++ e) c = e ++ c ∨ (zs c.length ++ e).length + 1 ≠ p.length := by
  intro c
  induction c with
  | nil => intro e; left; show [] ++ e = e ++ []; simp
  | cons x c ih =>
    intro e
    by_cases h : (zs (x :: c).length ++ e).length + 1 = p.length
    · left
      have e1 : zs (x :: c).length ++ e = false :: (zs c.length ++ e) := rfl
      have e2 : stepM p (zs (x :: c).length ++ e) x = zs c.length ++ (e ++ [x]) := by
        rw [e1, stepM_cons]
        show zs c.length ++ e ++ [x] = _
        rw [List.append_assoc]
      show restM p (stepM p (zs (x :: c).length ++ e) x) c = _
      rw [e2]
      rcases ih (e ++ [x]) with h1 | h1
      · rw [h1]; simp
      · exfalso
        apply h1
        rw [← h, e1]
        simp only [List.length_append, List.length_cons, List.length_nil]
        omega
    · right; exact h
theorem restM_self {p c : List Bool} (h : c.length + 1 = p.length) : restM p (zs c.length) c = c := by
  rcases restM_in p c [] with e | e
  · rw [List.append_nil, List.nil_append] at e; exact e
  · rw [List.append_nil, zs_len] at e; exact absurd h e
/-- the check bits -/
def bitsM (p s data : List Bool) : List Bool := restM p s (data ++ zs s.length)
def goodM (p s m : List Bool) : Bool := decide (s.length ≤ m.length) && !decide (true ∈ restM p s m)
theorem bitsM_len {p s : List Bool} (h : s.length + 1 = p.length) (data : List Bool) : (bitsM p s data).length = s.length := restM_len _ _ h
theorem rest_tail {p s data x : List Bool} (h : s.length + 1 = p.length) (hx : x.length = s.length) : restM p s (data ++ x) = xr (bitsM p s data) x := by
  have lr : (restM p s data).length = s.length := restM_len _ _ h
  have e1 : restM p (xr (restM p s data) (zs s.length)) (xr (zs s.length) x) = xr (restM p (restM p s data) (zs s.length)) (restM p (zs s.length) x) :=
    restM_xr _ _ _ _ (by rw [zs_len, hx]) (by omega) (by rw [zs_len, lr])
  rw [← lr, xr_zs, lr, show zs s.length = zs x.length by rw [hx], zs_xr, restM_self (by omega)] at e1
  unfold bitsM
  rw [restM_app, restM_app, e1, hx]
theorem rest_good {p s : List Bool} (h : s.length + 1 = p.length) (data : List Bool) : restM p s (data ++ bitsM p s data) = zs s.length := by
  rw [rest_tail h (bitsM_len h data), xr_self, bitsM_len h]
theorem no_true_zs (n : Nat) : ¬ true ∈ zs n := by
  intro h
  have := List.eq_of_mem_replicate h
  cases this
theorem zs_of_no : ∀ {l : List Bool}, ¬ true ∈ l → l = zs l.length
  | [], _ => rfl
  | true :: r, h => absurd List.mem_cons_self h
  | false :: r, h => by
    have : r = zs r.length := zs_of_no fun z => h (List.mem_cons_of_mem _ z)
    show false :: r = false :: zs r.length
    rw [← this]
theorem goodM_tail {p s data x : List Bool} (h : s.length + 1 = p.length) (hx : x.length = s.length) : goodM p s (data ++ x) = decide (x = bitsM p s data) := by
  unfold goodM
  rw [rest_tail h hx, decide_eq_true (by rw [List.length_append]; omega), Bool.true_and]
  by_cases e : x = bitsM p s data
  · subst e
    rw [xr_self, decide_eq_true rfl, decide_eq_false (no_true_zs _)]
    rfl
  · rw [decide_eq_false e]
    have : true ∈ xr (bitsM p s data) x := Classical.byContradiction fun c => by
      have z := zs_of_no c
      have lb := bitsM_len h data
      rw [xr_len (by omega)] at z
      exact e (xr_eq_zs (by omega) z).symm
    rw [decide_eq_true this]
    rfl
theorem goodM_bits {p s : List Bool} (h : s.length + 1 = p.length) (data : List Bool) : goodM p s (data ++ bitsM p s data) = true := by
  rw [goodM_tail h (bitsM_len h data), decide_eq_true rfl]
theorem goodM_zs {p s m : List Bool} (g : goodM p s m = true) (hl : s.length + 1 = p.length) : restM p s m = zs s.length := by
  unfold goodM at g
  rw [Bool.and_eq_true, decide_eq_true_eq, Bool.not_eq_true', decide_eq_false_iff_not] at g
  have := zs_of_no g.2
  rw [restM_len _ _ hl] at this
  exact this
theorem goodM_iff {p s m : List Bool} (hl : s.length + 1 = p.length) : goodM p s m = true ↔ s.length ≤ m.length ∧ restM p s m = zs s.length := by
  constructor
  · intro g
    refine ⟨?_, goodM_zs g hl⟩
    unfold goodM at g
    rw [Bool.and_eq_true, decide_eq_true_eq] at g
    exact g.1
  · rintro ⟨h1, h2⟩
    unfold goodM
    rw [h2, decide_eq_true h1, decide_eq_false (no_true_zs _)]
    rfl
/-! one wrong bit is seen -/
theorem stepM_inj {p r : List Bool} (h : r.length + 1 = p.length) (hl : p.getLast? = some true) (h0 : r ≠ []) (e : stepM p r false = zs r.length) : r = zs r.length := by
  cases r with
  | nil => exact absurd rfl h0
  | cons x l =>
    rw [stepM_cons] at e
    have ht : p.tail.length = l.length + 1 := by rw [List.length_tail]; simp only [List.length_cons] at h; omega
    cases x with
    | false =>
      have e' : l ++ [false] = zs (l.length + 1) := e
      rw [zs_app] at e'
      have := List.append_inj_left e' (by rw [zs_len])
      show false :: l = false :: zs l.length
      rw [← this]
    | true =>
      exfalso
      have e' : xr (l ++ [false]) p.tail = zs (l ++ [false]).length := by
        have : xr (l ++ [false]) p.tail = zs (true :: l).length := e
        rw [this, List.length_append]
        rfl
      have e2 := xr_eq_zs (by rw [List.length_append, ht]; rfl) e'
      have e3 : p.tail.getLast? = some false := by rw [← e2, List.getLast?_append]; rfl
      cases p with
      | nil => cases hl
      | cons y t =>
        have e4 : t.getLast? = some false := e3
        cases t with
        | nil => cases e4
        | cons z u =>
          rw [List.getLast?_cons_cons] at hl
          rw [hl] at e4
          cases e4
theorem restM_inj {p : List Bool} (hl : p.getLast? = some true) : ∀ (n : Nat) (r : List Bool), r.length + 1 = p.length → r ≠ [] → restM p r (zs n) = zs r.length → r = zs r.length
  | 0, r, _, _, e => e
  | n + 1, r, h, h0, e => by
    have ls := stepM_len h false
    have e' : restM p (stepM p r false) (zs n) = zs r.length := e
    have n0 : stepM p r false ≠ [] := by
      intro z
      rw [z] at ls
      exact h0 (List.length_eq_zero_iff.mp ls.symm)
    have := restM_inj hl n (stepM p r false) (by omega) n0 (by rw [e', ls])
    rw [ls] at this
    exact stepM_inj h hl h0 this
/-- a unit -/
def unit (n i : Nat) : List Bool := zs i ++ true :: zs (n - i - 1)
theorem unit_len {n i : Nat} (h : i < n) : (unit n i).length = n := by
  unfold unit
  rw [List.length_append, List.length_cons, zs_len, zs_len]
  omega
theorem step_one {p : List Bool} {d : Nat} (h : d + 1 = p.length) (h0 : 0 < d) : stepM p (zs d) true ≠ zs d := by
  cases d with
  | zero => omega
  | succ n =>
    rw [zs_succ, stepM_cons]
    show ¬ (zs n ++ [true] = false :: zs n)
    intro e
    have m : true ∈ zs n ++ [true] := by simp
    rw [e] at m
    rcases List.mem_cons.mp m with z | z
    · cases z
    · exact no_true_zs _ z
theorem rest_unit {p : List Bool} {d n i : Nat} (h : d + 1 = p.length) (hl : p.getLast? = some true) (h0 : 0 < d) (hi : i < n) : restM p (zs d) (unit n i) ≠ zs d := by
  intro e
  unfold unit at e
  rw [restM_app, restM_0] at e
  have e' : restM p (stepM p (zs d) true) (zs (n - i - 1)) = zs d := e
  have ls : (stepM p (zs d) true).length = d := by rw [stepM_len (by rw [zs_len]; exact h), zs_len]
  have n0 : stepM p (zs d) true ≠ [] := by
    intro z
    rw [z] at ls
    exact absurd ls (by simp; omega)
  have := restM_inj hl _ _ (by omega) n0 (by rw [e', ls])
  rw [ls] at this
  exact step_one h h0 this
/-- the message with bit i turned -/
def bent (m : List Bool) (i : Nat) : List Bool := m.take i ++ [!(m.getD i false)] ++ m.drop (i + 1)
theorem bent_len {m : List Bool} {i : Nat} (h : i < m.length) : (bent m i).length = m.length := by
  unfold bent
  rw [List.length_append, List.length_append, List.length_take, List.length_drop]
  simp only [List.length_cons, List.length_nil]
  omega
theorem bent_xr {m : List Bool} {i : Nat} (h : i < m.length) : bent m i = xr m (unit m.length i) := by
  have e : m = m.take i ++ (m.getD i false :: m.drop (i + 1)) := by
    have e1 : m.drop i = m.getD i false :: m.drop (i + 1) := by
      rw [List.drop_eq_getElem_cons h]
      simp [h]
    rw [← e1, List.take_append_drop]
  have lt : (m.take i).length = i := by rw [List.length_take]; omega
  unfold bent unit
  generalize hA : m.take i = A at e lt ⊢
  generalize hB : m.drop (i + 1) = B at e ⊢
  generalize m.getD i false = c at e ⊢
  have lB : B.length = m.length - i - 1 := by rw [← hB, List.length_drop]; omega
  rw [← lB]
  conv => rhs; rw [e]
  rw [xr_app (by rw [lt, zs_len]), xr_cons, Bool.xor_true, xr_zs, ← lt, xr_zs]
  simp
theorem bent_bad {p s m : List Bool} {i : Nat} (h : s.length + 1 = p.length) (hl : p.getLast? = some true) (h0 : 0 < s.length) (g : goodM p s m = true) (hi : i < m.length) : goodM p s (bent m i) = false := by
  cases c : goodM p s (bent m i) with
  | false => rfl
  | true =>
    exfalso
    have e1 := goodM_zs c h
    have e2 := goodM_zs g h
    rw [bent_xr hi] at e1
    have e3 : restM p (xr s (zs s.length)) (xr m (unit m.length i)) = xr (restM p s m) (restM p (zs s.length) (unit m.length i)) :=
      restM_xr _ _ _ _ (by rw [unit_len hi]) h (by rw [zs_len])
    rw [xr_zs, e1, e2] at e3
    have lu : (restM p (zs s.length) (unit m.length i)).length = s.length := by rw [restM_len _ _ (by rw [zs_len]; exact h), zs_len]
    have nu := rest_unit h hl h0 hi
    generalize restM p (zs s.length) (unit m.length i) = R at e3 lu nu
    rw [← lu, zs_xr, lu] at e3
    exact nu e3.symm
end U

set_option maxRecDepth 100000
set_option maxHeartbeats 4000000
namespace U
open PySem PySem.Spec PyProof.Rows
open L2 hiding Fun CX0 E0 pass0 Fun.binds
open C8 Lx SX
theorem call_repr_bool {X : Cx} : CallR X (.builtin "repr") (fun xs H Q => ∃ k, xs = [.bl k] ∧ Q (.str (if k then "True" else "False")) H) := by
  intro pins s σ H xs us Q I r h
  obtain ⟨k, rfl, q⟩ := h
  obtain ⟨u, rfl, rfl⟩ := vals1 r
  exact PySem.P.repr_of_bool ⟨.str _, H, I.tok _, ⟨_, rfl⟩, q⟩
theorem one_in (l : List Bool) : decide ((49 : Nat) ∈ (W l).cps.toList) = decide (true ∈ l) := by
  rw [W_tl]
  congr 1
  refine propext ⟨fun h => ?_, fun h => ?_⟩
  · obtain ⟨b, hb, e⟩ := List.mem_map.mp h
    cases b with
    | true => exact hb
    | false => exact absurd e (by decide)
  · exact List.mem_map.mpr ⟨true, h, rfl⟩
theorem V_1 : V.str "1" = V.str ⟨#[49]⟩ := by decide +kernel
def spBitsFor (C : Addr) : Sp := fun vs H Q _ => ∃ (a : Addr) (p s l : List Bool), vs = [.ref a, .str (W l)] ∧ CkAt C H a p s ∧ p.length ≤ 1000 ∧ l.length ≤ 10000 ∧ s.length + 1 = p.length ∧
  ∀ H', Same H H' → Q (.str (W (bitsM p s l))) H'
def spIsGood (C : Addr) : Sp := fun vs H Q _ => ∃ (a : Addr) (p s l : List Bool), vs = [.ref a, .str (W l)] ∧ CkAt C H a p s ∧ p.length ≤ 1000 ∧ l.length ≤ 10000 ∧ s.length + 1 = p.length ∧
  ∀ H', Same H H' → Q (.bl (goodM p s l)) H'
section
variable {P : Program} {w : World} {K : PySem.W.Frag} {mg : Str → Option Value} {base : Heap}
theorem sc_Check_bits_for : FnScope ["self", "data"] ["self", "data"] (fnScope s_Check_bits_for) := fnScope_by (by decide +kernel)
theorem fnk_bits_for {f C : Addr} {fd : FuncData} (F : C8.Fun K "bits_for" "Check.bits_for" s_Check_bits_for f fd) (me : Meth K C "bits_for" f) (b : Binds K fd ["self", "data"] []) (T : Tx mg) (CT : CkT K C) (c_rest : Met P w K mg base 2 C "rest" (spRest C) [])
    (p_degree : Prp P w K mg base 1 C "degree" (spDegree C)) : FnOk P w K mg base CX0 3 f fd ["self", "data"] (spBitsFor C) := by
  refine fn0 F sc_Check_bits_for (fun vs H Q E h => ?_) (fun cdv A outer s H vs Q E hr h => ?_)
  · obtain ⟨_, _, _, _, rfl, _⟩ := h; rfl
  · obtain ⟨a, p, st, l, rfl, hc, hl, hd, hs, k⟩ := h
    refine ⟨_, (pss_one (ps_ret (pe_mt (pl := _) c_rest hr (by decide) (pv 0) (pa_cons (pe_op op_add_str (pv 1) (pe_op op_rep_str pe_str (pe_pr p_degree hr (by decide) (pv 0)))) pa_nil)))), ?_⟩
    obtain ⟨dx, ha⟩ := id hc
    have l0 : ("0" : Str).length = 1 := by decide +kernel
    have ez : Txt.mul "0" ((st.length : Nat) : Int) = W (zs st.length) := by rw [mul_0]; rfl
    refine ⟨_, rfl, a, dx, _, rfl, ha, ckF_no _ _ (by decide +kernel) (by decide +kernel), _, rfl, _, rfl, a, dx, _, rfl, ha, a, p, st, rfl, hc, hl, hs, _, _, rfl, rfl, by omega, by omega, by rw [l0]; omega, ?_⟩
    rw [ez]
    refine ⟨_, _, rfl, rfl, by rw [W_len, W_len, zs_len]; exact sl_len (by omega), ?_⟩
    rw [W_cat]
    exact ⟨a, p, st, _, rfl, hc, hl, hs, k⟩
theorem met_bits_for {f C : Addr} {fd : FuncData} (F : C8.Fun K "bits_for" "Check.bits_for" s_Check_bits_for f fd) (me : Meth K C "bits_for" f) (b : Binds K fd ["self", "data"] []) (T : Tx mg) (CT : CkT K C) (c_rest : Met P w K mg base 2 C "rest" (spRest C) [])
    (p_degree : Prp P w K mg base 1 C "degree" (spDegree C)) : Met P w K mg base 3 C "bits_for" (spBitsFor C) [] :=
  ⟨f, fd, _, [], CT.cl, me, fnk_bits_for F me b T CT c_rest p_degree, b, .nil⟩
theorem sc_Check_is_good : FnScope ["self", "message"] ["self", "message"] (fnScope s_Check_is_good) := fnScope_by (by decide +kernel)
theorem fnk_is_good {f C : Addr} {fd : FuncData} (F : C8.Fun K "is_good" "Check.is_good" s_Check_is_good f fd) (me : Meth K C "is_good" f) (b : Binds K fd ["self", "message"] []) (T : Tx mg) (CT : CkT K C) (c_rest : Met P w K mg base 2 C "rest" (spRest C) [])
    (p_degree : Prp P w K mg base 1 C "degree" (spDegree C)) : FnOk P w K mg base CX0 3 f fd ["self", "message"] (spIsGood C) := by
  refine fn0 F sc_Check_is_good (fun vs H Q E h => ?_) (fun cdv A outer s H vs Q E hr h => ?_)
  · obtain ⟨_, _, _, _, rfl, _⟩ := h; rfl
  · obtain ⟨a, p, st, l, rfl, hc, hl, hd, hs, k⟩ := h
    refine ⟨_, (pss_one (ps_ret (pe_and (pe_cmpR op_ge (pe_callB call_len_str (by rfl) T.b_len (by decide +kernel) (pa_cons (pv 1) pa_nil)) (pe_pr p_degree hr (by decide) (pv 0)) (nomark _)) (pe_one (pe_cmpR op_notIn_sign pe_str (pe_mt (pl := _) c_rest hr (by decide) (pv 0) (pa_cons (pv 1) pa_nil)) (by with_unfolding_all rfl)))))), ?_⟩
    obtain ⟨dx, ha⟩ := id hc
    refine ⟨_, rfl, _, rfl, by rw [W_len]; exact sl_len (by omega), _, rfl, a, dx, _, rfl, ha, a, p, st, rfl, hc, hl, hs, _, _, rfl, rfl, _, rfl, ?_⟩
    rw [W_len]
    refine ite2 (fun h1 => ?_) (fun h1 => ?_)
    · have h2 : ((st.length : Nat) : Int) ≤ ((l.length : Nat) : Int) := of_decide_eq_true h1
      refine ⟨_, rfl, a, dx, _, rfl, ha, ckF_no _ _ (by decide +kernel) (by decide +kernel), _, rfl, a, p, st, l, rfl, hc, hl, hs, fun H1 s1 => ⟨49, _, V_1, rfl, ?_⟩⟩
      rw [one_in]
      have := k H1 s1
      unfold goodM at this
      rw [decide_eq_true (by omega : st.length ≤ l.length), Bool.true_and] at this
      exact this
    · have h2 : ¬ ((st.length : Nat) : Int) ≤ ((l.length : Nat) : Int) := of_decide_eq_false (by simpa using h1)
      have := k H (Same.refl H)
      unfold goodM at this
      rw [decide_eq_false (by omega : ¬ st.length ≤ l.length), Bool.false_and] at this
      exact this
theorem met_is_good {f C : Addr} {fd : FuncData} (F : C8.Fun K "is_good" "Check.is_good" s_Check_is_good f fd) (me : Meth K C "is_good" f) (b : Binds K fd ["self", "message"] []) (T : Tx mg) (CT : CkT K C) (c_rest : Met P w K mg base 2 C "rest" (spRest C) [])
    (p_degree : Prp P w K mg base 1 C "degree" (spDegree C)) : Met P w K mg base 3 C "is_good" (spIsGood C) [] :=
  ⟨f, fd, _, [], CT.cl, me, fnk_is_good F me b T CT c_rest p_degree, b, .nil⟩
end
end U

set_option maxRecDepth 100000
set_option maxHeartbeats 4000000
namespace U
open PySem PySem.Spec PyProof.Rows
open L2 hiding Fun CX0 E0 pass0 Fun.binds
open C8 Lx SX
/-! texts of checks -/
def ckT (p s : List Bool) : Str := if p = [true] then W p else W p ++ " start " ++ W s
def spCkStr (C : Addr) : Sp := fun vs H Q _ => ∃ (a : Addr) (p s : List Bool), vs = [.ref a] ∧ CkAt C H a p s ∧ p.length ≤ 1000 ∧ s.length ≤ 1000 ∧ Q (.str (ckT p s)) H
def spCkEq (C : Addr) : Sp := fun vs H Q _ => ∃ (a b : Addr) (p s p' s' : List Bool), vs = [.ref a, .ref b] ∧ CkAt C H a p s ∧ p.length ≤ 1000 ∧ s.length ≤ 1000 ∧ CkAt C H b p' s' ∧ p'.length ≤ 1000 ∧ s'.length ≤ 1000 ∧ Q (.bl (decide (ckT p s = ckT p' s'))) H
def spCkRead (C : Addr) : Sp := fun vs H Q _ => ∃ (p s : List Bool), vs = [.ref C, .str (ckT p s)] ∧ CkOk p s ∧ p.length ≤ 1000 ∧ ∀ x H', Same H H' → CkAt C H' x p s → Q (.ref x) H'
theorem e_cat (l : List Bool) : Str.empty ++ W l = W l := by
  have e : Str.empty = W [] := by decide +kernel
  rw [e, W_cat]; rfl
theorem mid_len : (" start " : Str).length = 7 := by decide +kernel
theorem len_cat (a b : Str) : (a ++ b).length = a.length + b.length := by
  rw [TL.len_tl, TL.len_tl a, TL.len_tl b]
  have := TL.tl_append a b
  show (TL.tl (a ++ b)).length = _
  rw [this, List.length_append]
theorem mid_tl : TL.tl (" start " : Str) = 32 :: [115, 116, 97, 114, 116, 32] := by decide +kernel
theorem no_sp (l : List Bool) : (32 : Nat) ∉ TL.tl (W l) := by
  show 32 ∉ l.map bt
  intro h
  obtain ⟨b, _, e⟩ := List.mem_map.mp h
  cases b <;> exact absurd e (by decide)
theorem W_ne_1 {p : List Bool} (h : ¬ p = [true]) : ¬ V.str (W p) = V.str "1" := fun z => h (by rw [W_1] at z; exact W_inj (V.str.inj z))
theorem ckT_ne_1 {p s : List Bool} (h : ¬ p = [true]) : ¬ ckT p s = "1" := fun z => by
  unfold ckT at z
  rw [if_neg h] at z
  have := congrArg Str.length z
  rw [len_cat, len_cat, mid_len, show ("1" : Str).length = 1 by decide +kernel] at this
  omega
theorem ckT_len {p s : List Bool} : (ckT p s).length ≤ p.length + 7 + s.length := by
  unfold ckT
  split
  · rw [W_len]; omega
  · rw [len_cat, len_cat, mid_len, W_len, W_len]; omega
theorem mk_ck2 {C : Addr} {H : Hp} {p s : List Bool} {R : Addr → Hp → Prop} {E : XK} (ok : CkOk p s) (hl : p.length ≤ 1000) (k : ∀ x H', Same H H' → CkAt C H' x p s → R x H') :
    ∀ x dx, H x = none → H dx = none → dx ≠ x → spCkInit C [.ref x, .str (W p), .str (W s)] (upd (upd H dx (.own x)) x (.ins C dx [])) (fun v H2 => v = .non ∧ R x H2) E := by
  intro x dx nx ndx nex
  exact ⟨x, dx, p, s, .str (W s), rfl, upd_same, ok, hl, .inl rfl, fun H5 keep hx => ⟨rfl, k x H5 (Same.made nx ndx keep) ⟨dx, hx⟩⟩⟩
theorem mk_ck1 {C : Addr} {H : Hp} {p s : List Bool} {R : Addr → Hp → Prop} {E : XK} (ok : CkOk p s) (hl : p.length ≤ 1000) (k : ∀ x H', Same H H' → CkAt C H' x p (zs s.length) → R x H') :
    ∀ x dx, H x = none → H dx = none → dx ≠ x → spCkInit C [.ref x, .str (W p), .non] (upd (upd H dx (.own x)) x (.ins C dx [])) (fun v H2 => v = .non ∧ R x H2) E := by
  intro x dx nx ndx nex
  have e : s.length = p.length - 1 := by have := ok.len; omega
  exact ⟨x, dx, p, zs s.length, .non, rfl, upd_same, ⟨ok.hd, ok.last, by rw [zs_len]; exact ok.len⟩, hl, .inr ⟨rfl, by rw [e]⟩, fun H5 keep hx => ⟨rfl, k x H5 (Same.made nx ndx keep) ⟨dx, hx⟩⟩⟩
theorem mk_ck0 {C : Addr} {H : Hp} {R : Addr → Hp → Prop} {E : XK} (k : ∀ x H', Same H H' → CkAt C H' x [true] [] → R x H') :
    ∀ x dx, H x = none → H dx = none → dx ≠ x → spCkInit C [.ref x, .str "1", .non] (upd (upd H dx (.own x)) x (.ins C dx [])) (fun v H2 => v = .non ∧ R x H2) E := by
  rw [W_1]
  exact mk_ck1 (s := []) ⟨rfl, rfl, rfl⟩ (by decide) k
section
variable {P : Program} {w : World} {K : PySem.W.Frag} {mg : Str → Option Value} {base : Heap}
theorem sc_Check_str : FnScope ["self"] ["self"] (fnScope s_Check_str) := fnScope_by (by decide +kernel)
theorem met_Check_str {f C : Addr} {fd : FuncData} {tM : Tok} (F : C8.Fun K "__str__" "Check.__str__" s_Check_str f fd) (me : Meth K C "__str__" f) (b : Binds K fd ["self"] []) (T : Tx mg) (CT : CkT K C) (g_MIDDLE : mg "MIDDLE" = some (.str " start " tM)) : Met P w K mg base 1 C "__str__" (spCkStr C) [] := by
  refine met0 CT.cl me F b sc_Check_str (fun vs H Q E h => ?_) (fun cdv A outer s H vs Q E hr h => ?_)
  · obtain ⟨_, _, _, rfl, _⟩ := h; rfl
  · obtain ⟨a, p, st, rfl, ⟨dx, ha⟩, h1, h2, k⟩ := h
    refine ⟨_, (pss_cons (ps_if (pt_cmpR op_eq (pe_fld (pv 0) rfl) pe_str (nomark _)) (pss_one (ps_ret (pe_joined1 (pe_fmt (pe_fld (pv 0) rfl))))) pss_nil)
    (pss_one (ps_ret (pe_joined (.cons (pe_fmt (pe_fld (pv 0) rfl)) (.cons (pe_fmt (pe_glob (v := .str " start ") (by rfl) g_MIDDLE ⟨_, rfl⟩)) (.cons (pe_fmt (pe_fld (pv 0) rfl)) .nil))))))), ?_⟩
    have lp : (W p).length ≤ sizeLine := by rw [W_len]; exact sl_len (by omega)
    have ls : (W st).length ≤ sizeLine := by rw [W_len]; exact sl_len (by omega)
    refine ⟨_, rfl, a, C, dx, _, _, rfl, ha, CT.cl, CT.nP, ckF_poly _ _, rfl, _, rfl, ?_⟩
    by_cases c : p = [true]
    · refine iteDT (by rw [c, W_1]) ⟨_, rfl, a, C, dx, _, _, rfl, ha, CT.cl, CT.nP, ckF_poly _ _, .inl ⟨_, rfl, lp, ?_⟩⟩
      unfold ckT at k
      rw [if_pos c] at k
      exact k
    · refine iteDF (W_ne_1 c) ?_
      refine ⟨_, rfl, a, C, dx, _, _, rfl, ha, CT.cl, CT.nP, ckF_poly _ _, .inl ⟨_, rfl, lp, _, rfl, by rw [e_cat]; exact lp, ?_⟩⟩
      refine .inl ⟨_, rfl, by rw [mid_len]; decide, _, rfl, by rw [e_cat, len_cat, mid_len, W_len]; exact sl_len (by omega), ?_⟩
      refine ⟨_, rfl, a, C, dx, _, _, rfl, ha, CT.cl, CT.nS, ckF_start _ _, .inl ⟨_, rfl, ls, _, rfl, by rw [e_cat, len_cat, len_cat, mid_len, W_len, W_len]; exact sl_len (by omega), ?_⟩⟩
      unfold ckT at k
      rw [if_neg c] at k
      rw [e_cat]
      exact k
theorem sc_Check_eq : FnScope ["self", "other"] ["self", "other"] (fnScope s_Check_eq) := fnScope_by (by decide +kernel)
theorem met_Check_eq {f C : Addr} {fd : FuncData} (F : C8.Fun K "__eq__" "Check.__eq__" s_Check_eq f fd) (me : Meth K C "__eq__" f) (b : Binds K fd ["self", "other"] []) (T : Tx mg) (CT : CkT K C) (g_Check : mg "Check" = some (.ref C)) (IS_Check : IsT K C)
    (c_Check_str : Met P w K mg base 1 C "__str__" (spCkStr C) []) : Met P w K mg base 4 C "__eq__" (spCkEq C) [] := by
  refine met0 CT.cl me F b sc_Check_eq (fun vs H Q E h => ?_) (fun cdv A outer s H vs Q E hr h => ?_)
  · obtain ⟨_, _, _, _, _, _, rfl, _⟩ := h; rfl
  · obtain ⟨a, b, p, st, p', st', rfl, ca, h1, h2, cb, h3, h4, k⟩ := h
    refine ⟨_, (pss_one (ps_ret (pe_and (pe_callB call_isi (by rfl) T.b_isinstance (by decide +kernel) (pa_cons (pv 1) (pa_cons (pe_glob (v := .ref C) (by rfl) g_Check rfl) pa_nil))) (pe_one (pe_cmpR op_eq (pe_callTy (call_str_own c_Check_str hr (by decide)) (by rfl) T.b_str (by decide +kernel) (pa_cons (pv 0) pa_nil)) (pe_callTy (call_str_own c_Check_str hr (by decide)) (by rfl) T.b_str (by decide +kernel) (pa_cons (pv 1) pa_nil)) (nomark _)))))), ?_⟩
    obtain ⟨dx, ha⟩ := id ca
    obtain ⟨dy, hb⟩ := id cb
    refine ⟨_, rfl, _, _, _, _, true, rfl, .own C, IS_Check.ty hb, IS_Check.one, _, rfl, ?_⟩
    refine ⟨_, rfl, a, dx, _, rfl, ha, a, p, st, rfl, ca, h1, h2, _, rfl, ?_⟩
    refine ⟨_, rfl, b, dy, _, rfl, hb, b, p', st', rfl, cb, h3, h4, _, rfl, rfl, ?_⟩
    have e : decide (V.str (ckT p st) = V.str (ckT p' st')) = decide (ckT p st = ckT p' st') := by
      rw [decide_eq_decide]
      exact ⟨V.str.inj, fun z => by rw [z]⟩
    rw [e]
    exact k
theorem sc_Check_read : FnScope ["cls", "text", "poly", "middle", "start"] ["cls", "text"] (fnScope s_Check_read) := fnScope_by (by decide +kernel)
theorem ok_Check_read {f C : Addr} {fd : FuncData} {tM : Tok} (F : C8.Fun K "read" "Check.read" s_Check_read f fd) (T : Tx mg) (CT : CkT K C) (g_MIDDLE : mg "MIDDLE" = some (.str " start " tM)) (c_is_word : Cal P w K mg base 1 "is_word" (spIsWord K) [])
    (m_Check0 : Mak P w K mg base 2 "Check" C (spCkInit C) [.str "1", .non]) (m_Check2 : Mak P w K mg base 2 "Check" C (spCkInit C) []) : FnOk P w K mg base CX0 4 f fd ["cls", "text"] (spCkRead C) := by
  refine fn0 F sc_Check_read (fun vs H Q E h => ?_) (fun cdv A outer s H vs Q E hr h => ?_)
  · obtain ⟨_, _, rfl, _⟩ := h; rfl
  · obtain ⟨p, st, rfl, ok, h1, k⟩ := h
    refine ⟨_, (pss_cons (ps_if (pt_not (pt_val (pe_callB call_isi (by rfl) T.b_isinstance (by decide +kernel) (pa_cons (pv 1) (pa_cons (pe_bltn (v := .ty "str") (u := .type "str") (by rfl) T.b_str (by decide +kernel) rfl) pa_nil))))) (pss_one ps_never) pss_nil)
    (pss_cons (ps_asg (pe_partition (pv 1) (pe_glob (v := .str " start ") (by rfl) g_MIDDLE ⟨_, rfl⟩)) (pg_tup rfl (pgs_cons (pg_name (i := 2) sc_Check_read.nd rfl (.inl rfl)) (pgs_cons (pg_name (i := 3) sc_Check_read.nd rfl (.inl rfl)) (pgs_cons (pg_name (i := 4) sc_Check_read.nd rfl (.inl rfl)) pgs_nil)))))
    (pss_cons (ps_if (pt_cmpR op_eq (pv 1) pe_str (nomark _)) (pss_one (ps_ret (pe_mkL0 0 m_Check0 hr (by decide)))) pss_nil)
    (pss_cons (ps_if (PW.pt (pw_or (pt_cmpR op_eq (pv 3) pe_str (nomark _)) (pw_or (pt_not (pt_val (pe_c c_is_word hr (by decide) rfl (pa_cons (pv 2) pa_nil)))) (pw_or (pt_not (pt_val (pe_c c_is_word hr (by decide) rfl (pa_cons (pv 4) pa_nil)))) (pw_or (pt_cmpR op_eq (pv 2) pe_str (nomark _)) (pw_or1 (pt_cmpR op_eq (pv 4) pe_str (nomark _)))))))) (pss_one ps_never) pss_nil)
    (pss_one (ps_ret (pe_mkL 0 m_Check2 hr (by decide) (pa_cons (pv 2) (pa_cons (pv 4) pa_nil))))))))), ?_⟩
    have hs : st.length ≤ 1000 := by have := ok.len; omega
    have lt : (ckT p st).length ≤ sizeLine := Nat.le_trans ckT_len (sl_len (by omega))
    refine ⟨_, rfl, _, _, _, _, true, rfl, .ty _, .base (.str _), kit_ty (by decide +kernel), _, rfl, ?_⟩
    refine ⟨_, rfl, ⟨_, rfl⟩, _, _, rfl, rfl, by rw [mid_len]; rfl, lt, fun t nt => ?_⟩
    have s1 : Same H _ := same_upd (o := .tup [.str (Txt.partition (ckT p st) " start ").1, .str (Txt.partition (ckT p st) " start ").2.1, .str (Txt.partition (ckT p st) " start ").2.2]) nt
    refine ⟨t, _, rfl, SqT.of upd_same, rfl, _, _, rfl, _, _, rfl, _, _, rfl, rfl, ?_⟩
    refine ⟨_, rfl, rfl, _, rfl, ?_⟩
    by_cases c : p = [true]
    · have est : st = [] := List.length_eq_zero_iff.mp (by have := ok.len; rw [c] at this; simpa using this)
      subst c est
      refine iteDT (by decide +kernel) ⟨rfl, mk_ck0 fun x H' s2 hx => k x H' (s1.trans s2) hx⟩
    · have e : Txt.partition (ckT p st) " start " = (W p, (" start " : Str), W st) := by
        unfold ckT
        rw [if_neg c]
        exact TL.partition_app mid_tl (no_sp p)
      refine iteDF (fun z => ckT_ne_1 c (V.str.inj z)) ?_
      generalize upd H t _ = H1 at s1
      rw [e]
      have np : p ≠ [] := fun z => by have := ok.hd; rw [z] at this; cases this
      have ns : st ≠ [] := fun z => by
        have h1 := ok.len
        have h2 := ok.hd
        rw [z] at h1
        cases p with
        | nil => cases h2
        | cons x r =>
          cases (Option.some.inj h2)
          have : r = [] := List.length_eq_zero_iff.mp (by simpa using h1.symm)
          exact c (by rw [this])
      have en : ∀ {l : List Bool}, l ≠ [] → ¬ V.str (W l) = V.str "" := fun h z => h (by rw [W_nil] at z; exact W_inj (V.str.inj z))
      refine ⟨_, rfl, rfl, _, rfl, iteDF (show ¬ V.str " start " = V.str "" by decide +kernel) ?_⟩
      refine ⟨_, rfl, _, rfl, .inl ⟨_, rfl, by show (W p).length ≤ _; rw [W_len]; omega, fun H2 s2 => ⟨_, rfl, iteBF (by show (!isW (W p)) = false; rw [isW_W]; rfl) ?_⟩⟩⟩
      refine ⟨_, rfl, _, rfl, .inl ⟨_, rfl, by show (W st).length ≤ _; rw [W_len]; omega, fun H3 s3 => ⟨_, rfl, iteBF (by show (!isW (W st)) = false; rw [isW_W]; rfl) ?_⟩⟩⟩
      refine ⟨_, rfl, rfl, _, rfl, iteDF (en np) ?_⟩
      refine ⟨_, rfl, rfl, _, rfl, iteDF (en ns) ?_⟩
      refine ⟨rfl, _, rfl, _, rfl, mk_ck2 ok h1 fun x H' s4 hx => k x H' (((s1.trans s2).trans s3).trans s4) hx⟩
end
end U

set_option maxRecDepth 100000
set_option maxHeartbeats 4000000
namespace U
open PySem PySem.Spec PyProof.Rows
open L2 hiding Fun CX0 E0 pass0 Fun.binds
open C8 Lx SX
/-- where f begins in l first -/
def posM (l f : List Bool) : Option Nat := (List.range (l.length + 1)).find? fun i => f.isPrefixOf (l.drop i)
theorem posM_some {l f : List Bool} {i : Nat} : posM l f = some i ↔ (i ≤ l.length ∧ f <+: l.drop i ∧ ∀ k, k < i → ¬ f <+: l.drop k) := by
  unfold posM
  rw [List.find?_range_eq_some, List.isPrefixOf_iff_prefix]
  constructor
  · rintro ⟨h1, h2, h3⟩
    refine ⟨by have := List.mem_range.mp h2; omega, h1, fun k hk z => ?_⟩
    have := h3 k hk
    rw [List.isPrefixOf_iff_prefix.mpr z] at this
    cases this
  · rintro ⟨h1, h2, h3⟩
    refine ⟨h2, List.mem_range.mpr (by omega), fun k hk => ?_⟩
    cases e : f.isPrefixOf (l.drop k) with
    | false => rfl
    | true => exact absurd (List.isPrefixOf_iff_prefix.mp e) (h3 k hk)
theorem posM_none {l f : List Bool} : posM l f = none ↔ ∀ i, i ≤ l.length → ¬ f <+: l.drop i := by
  unfold posM
  rw [List.find?_eq_none]
  constructor
  · intro h i hi z
    exact h i (List.mem_range.mpr (by omega)) (List.isPrefixOf_iff_prefix.mpr z)
  · intro h i hi z
    exact h i (by have := List.mem_range.mp hi; omega) (List.isPrefixOf_iff_prefix.mp z)
theorem at_W {l f : List Bool} {i : Nat} : StrLaws.At (W l) (W f) (W l).length i ↔ (i ≤ l.length ∧ f <+: l.drop i) := by
  unfold StrLaws.At
  rw [StrLaws.subAt_eq, W_len, W_len, W_tl, W_tl, ← List.map_drop, ← List.map_take, beq_iff_eq]
  constructor
  · rintro ⟨h1, h2⟩
    refine ⟨by omega, List.prefix_iff_eq_take.mpr (map_bt_inj h2).symm⟩
  · rintro ⟨h1, h2⟩
    have hl := h2.length_le
    rw [List.length_drop] at hl
    exact ⟨by omega, by rw [← List.prefix_iff_eq_take.mp h2]⟩
theorem occ_none {l f : List Bool} (h : posM l f = none) : Builtin.Str.occurrences (W l) (W f) 0 (W l).length 1 = [] := by
  rcases StrLaws.occ_head (W l) (W f) 1 (Nat.le_refl _) with ⟨h1, _⟩ | ⟨i, r, _, h2, _⟩
  · exact h1
  · obtain ⟨h3, h4⟩ := at_W.mp h2
    exact absurd h4 (posM_none.mp h i h3)
theorem occ_some {l f : List Bool} {i : Nat} (h : posM l f = some i) : ∃ r, Builtin.Str.occurrences (W l) (W f) 0 (W l).length 1 = i :: r := by
  obtain ⟨p1, p2, p3⟩ := posM_some.mp h
  rcases StrLaws.occ_head (W l) (W f) 1 (Nat.le_refl _) with ⟨_, h2⟩ | ⟨j, r, h1, h2, h3⟩
  · exact absurd (at_W.mpr ⟨p1, p2⟩) (h2 i)
  · obtain ⟨q1, q2⟩ := at_W.mp h2
    have e : j = i := by
      rcases Nat.lt_trichotomy i j with c | c | c
      · exact absurd (at_W.mpr ⟨p1, p2⟩) (h3 i c)
      · exact c.symm
      · exact absurd q2 (p3 j c)
    subst e
    exact ⟨r, h1⟩
theorem find_W {l f : List Bool} {i : Nat} (h : posM l f = some i) : Txt.find (W l) (W f) = (i : Int) := by
  obtain ⟨r, e⟩ := occ_some h
  unfold Txt.find
  rw [e]
theorem posM_end (l f : List Bool) : ∃ i, posM (l ++ f) f = some i ∧ i ≤ l.length := by
  cases e : posM (l ++ f) f with
  | none =>
    refine absurd ?_ (posM_none.mp e l.length (by rw [List.length_append]; omega))
    rw [List.drop_left]
    exact List.prefix_refl _
  | some i =>
    refine ⟨i, rfl, ?_⟩
    obtain ⟨_, _, h3⟩ := posM_some.mp e
    rcases Nat.lt_or_ge l.length i with c | c
    · refine absurd ?_ (h3 _ c)
      rw [List.drop_left]
      exact List.prefix_refl _
    · exact c
end U

set_option maxRecDepth 100000
namespace U
theorem nodup1 {α : Type} (a : α) : [a].Nodup := by simp
theorem tl_nil (w : Nat) : tl w [] = [] := by unfold tl; simp
/-! flags in lines -/
/-- a flag ahead of the one at the end -/
def SpL (f l : List Bool) : Prop := ∃ i, i < l.length ∧ f <+: (l ++ f).drop i
theorem posM_sp {f l : List Bool} : posM (l ++ f) f = some l.length ↔ ¬ SpL f l := by
  constructor
  · intro h ⟨i, hi, hp⟩
    exact (posM_some.mp h).2.2 i hi hp
  · intro h
    refine posM_some.mpr ⟨by rw [List.length_append]; omega, by rw [List.drop_left]; exact List.prefix_refl _, fun k hk hp => h ⟨k, hk, hp⟩⟩
theorem pre_cut {f a r : List Bool} {i : Nat} (h : f <+: (a ++ r).drop i) (hi : i + f.length ≤ a.length) : f <+: a.drop i := by
  rw [List.prefix_iff_eq_take] at h ⊢
  rw [List.drop_append_of_le_length (by omega), List.take_append_of_le_length (by rw [List.length_drop]; omega)] at h
  exact h
theorem pre_ext {f a r : List Bool} {i : Nat} (h : f <+: a.drop i) (hi : i ≤ a.length) : f <+: (a ++ r).drop i := by
  rw [List.drop_append_of_le_length hi]
  exact h.trans (List.prefix_append _ _)
theorem drop_add' (u v : List Bool) (j : Nat) : (u ++ v).drop (u.length + j) = v.drop j := by
  rw [← List.drop_drop, List.drop_left]
/-- f stands in l -/
def infx (f l : List Bool) : Bool := (posM l f).isSome
theorem infx_iff {f l : List Bool} : infx f l = true ↔ ∃ i, i ≤ l.length ∧ f <+: l.drop i := by
  unfold infx
  cases e : posM l f with
  | none =>
    constructor
    · intro h; cases h
    · rintro ⟨i, hi, hp⟩
      exact absurd hp (posM_none.mp e i hi)
  | some i =>
    obtain ⟨h1, h2, _⟩ := posM_some.mp e
    exact ⟨fun _ => ⟨i, h1, h2⟩, fun _ => rfl⟩
theorem infx_false {f l : List Bool} : infx f l = false ↔ ∀ i, i ≤ l.length → ¬ f <+: l.drop i := by
  rw [← Bool.not_eq_true, infx_iff]
  constructor
  · intro h i hi hp; exact h ⟨i, hi, hp⟩
  · rintro h ⟨i, hi, hp⟩; exact h i hi hp
def bordM (f l : List Bool) : Bool := decide (posM (l ++ f) f = some l.length)
theorem bordM_iff {f l : List Bool} : bordM f l = true ↔ ¬ SpL f l := by
  unfold bordM
  rw [decide_eq_true_iff]
  exact posM_sp
theorem tl_split (n : Nat) (l : List Bool) : l = l.take (l.length - n) ++ tl n l := by unfold tl; rw [List.take_append_drop]
theorem SpL.infx {f l : List Bool} (hf : f ≠ []) (h : U.infx f l = true) : SpL f l := by
  obtain ⟨i, hi, hp⟩ := infx_iff.mp h
  have := hp.length_le
  rw [List.length_drop] at this
  have h0 : 0 < f.length := List.length_pos_iff.mpr hf
  exact ⟨i, by omega, pre_ext hp hi⟩
theorem sp_front {f u v : List Bool} (h : SpL f v) : SpL f (u ++ v) := by
  obtain ⟨i, hi, hp⟩ := h
  refine ⟨u.length + i, by rw [List.length_append]; omega, ?_⟩
  rw [List.append_assoc, drop_add']
  exact hp
/-- the test of one step -/
theorem sp_step {f l st y : List Bool} {w : Nat} (hf : f ≠ []) (hw : f.length ≤ w + 1) (hst : st = tl w l) (hl : ¬ SpL f l) : SpL f (l ++ y) ↔ (infx f (st ++ y) = true ∨ SpL f (tl w (st ++ y))) := by
  have h0 : 0 < f.length := List.length_pos_iff.mpr hf
  have el := tl_split w l
  rw [← hst] at el
  generalize hu : l.take (l.length - w) = u at el
  have lu : u.length = l.length - w := by rw [← hu, List.length_take]; omega
  have ly : l ++ y = u ++ (st ++ y) := by rw [← List.append_assoc, ← el]
  have lst : st.length = min w l.length := by rw [hst, tl_len]
  constructor
  · rintro ⟨i, hi, hp⟩
    by_cases c : i + f.length ≤ (l ++ y).length
    · left
      have h1 := pre_cut hp c
      by_cases c2 : i + f.length ≤ l.length
      · exfalso
        have h2 := pre_cut h1 c2
        exact hl ⟨i, by omega, pre_ext h2 (by omega)⟩
      · have hiu : u.length ≤ i := by omega
        refine infx_iff.mpr ⟨i - u.length, by rw [List.length_append] at hi ⊢; omega, ?_⟩
        rw [ly, show i = u.length + (i - u.length) by omega, drop_add'] at h1
        exact h1
    · right
      -- the line's last bits
      have e2 := tl_split w (st ++ y)
      generalize hv : (st ++ y).take ((st ++ y).length - w) = v at e2
      have lv : v.length = (st ++ y).length - w := by rw [← hv, List.length_take]; omega
      have e3 : l ++ y = (u ++ v) ++ tl w (st ++ y) := by rw [List.append_assoc, ← e2]; exact ly
      have l3 : (l ++ y).length = u.length + v.length + (tl w (st ++ y)).length := by rw [e3, List.length_append, List.length_append]
      have l4 : (tl w (st ++ y)).length = min w (st ++ y).length := tl_len _ _
      have l5 : (st ++ y).length = st.length + y.length := List.length_append
      have l6 : (l ++ y).length = l.length + y.length := List.length_append
      refine ⟨i - (u ++ v).length, ?_, ?_⟩
      · rw [List.length_append]; omega
      · have hge : (u ++ v).length ≤ i := by rw [List.length_append]; omega
        rw [e3, List.append_assoc, show i = (u ++ v).length + (i - (u ++ v).length) by omega, drop_add'] at hp
        exact hp
  · rintro (h | h)
    · rw [ly]
      exact sp_front (SpL.infx hf h)
    · have e2 := tl_split w (st ++ y)
      rw [ly, e2, ← List.append_assoc]
      exact sp_front h
/-! the walk over standings -/
def wid (ss : List Stf) (f : List Bool) : Nat := max (ss.foldr (fun s m => max s.1.length m) 0) f.length - 1
def edge (ss : List Stf) (f : List Bool) (w : Nat) (st : List Bool) (b : Bool) : Option (List Bool) :=
  if infx f (itP ss 40 (st ++ [b])) || !bordM f (tl w (itP ss 40 (st ++ [b]))) then none else some (tl w (itP ss 40 (st ++ [b])))
theorem bodyF_snoc (ss : List Stf) (m : List Bool) (b : Bool) : bodyF ss (m ++ [b]) = itP ss 40 (bodyF ss m ++ [b]) := by unfold bodyF; rw [List.foldl_append]; rfl
theorem ins40 {ss : List Stf} (o : OkN 39 ss) (m : List Bool) (b : Bool) : ∃ x, Ins ss (bodyF ss m ++ [b]) x ∧ x.length ≤ 39 ∧ bodyF ss (m ++ [b]) = bodyF ss m ++ [b] ++ x := by
  obtain ⟨x, hx, hl⟩ := o _ (body_ex o m).reach b
  refine ⟨x, hx, hl, ?_⟩
  rw [bodyF_snoc, hx.itP, List.take_of_length_le (by omega)]
/-- the standing of a message -/
def stand (ss : List Stf) (w : Nat) (m : List Bool) : List Bool := tl w (bodyF ss m)
theorem edge_at {ss : List Stf} {f : List Bool} {w : Nat} (o : OkN 39 ss) (hf : f ≠ []) (hw : f.length ≤ w + 1) (hL : ∀ s ∈ ss, s.1.length ≤ w + 1) {m : List Bool} (hm : ¬ SpL f (bodyF ss m)) (b : Bool) :
    (∃ x, Ins ss (stand ss w m ++ [b]) x ∧ x.length ≤ 39 ∧ itP ss 40 (stand ss w m ++ [b]) = stand ss w m ++ [b] ++ x) ∧
    (SpL f (bodyF ss (m ++ [b])) → edge ss f w (stand ss w m) b = none) ∧ (¬ SpL f (bodyF ss (m ++ [b])) → edge ss f w (stand ss w m) b = some (stand ss w (m ++ [b]))) := by
  obtain ⟨x, hx, hl, eb⟩ := ins40 o m b
  have et : tl (w + 1) (bodyF ss m ++ [b]) = tl (w + 1) (stand ss w m ++ [b]) := by
    rw [tl_snoc0, tl_snoc0]
    unfold stand
    rw [tl_tl (Nat.le_refl w)]
  have hx2 : Ins ss (stand ss w m ++ [b]) x := hx.tl hL et
  have e40 : itP ss 40 (stand ss w m ++ [b]) = stand ss w m ++ [b] ++ x := by rw [hx2.itP, List.take_of_length_le (by omega)]
  have key := sp_step (y := [b] ++ x) hf hw (show stand ss w m = tl w (bodyF ss m) from rfl) hm
  rw [← List.append_assoc, ← List.append_assoc] at key
  have etl : tl w (stand ss w m ++ [b] ++ x) = stand ss w (m ++ [b]) := by
    unfold stand
    rw [eb, List.append_assoc, List.append_assoc]
    exact tl_app (tl_tl (Nat.le_refl w) _) _
  refine ⟨⟨x, hx2, hl, e40⟩, fun h => ?_, fun h => ?_⟩
  · rw [eb] at h
    unfold edge
    rw [e40]
    rcases key.mp h with h1 | h1
    · rw [h1]; rfl
    · have : bordM f (tl w (stand ss w m ++ [b] ++ x)) = false := by
        rw [← Bool.not_eq_true, bordM_iff]
        exact fun z => z h1
      rw [this, Bool.not_false, Bool.or_true]
      rfl
  · rw [eb] at h
    unfold edge
    rw [e40]
    have h1 : infx f (stand ss w m ++ [b] ++ x) = false := by
      rw [← Bool.not_eq_true]
      exact fun z => h (key.mpr (.inl z))
    have h2 : bordM f (tl w (stand ss w m ++ [b] ++ x)) = true := bordM_iff.mpr fun z => h (key.mpr (.inr z))
    rw [h1, h2, etl]
    rfl
/-- a word as a number -/
def num (m : List Bool) : Nat := m.foldl (fun n b => 2 * n + (if b then 1 else 0)) 0
theorem num_snoc (m : List Bool) (b : Bool) : num (m ++ [b]) = 2 * num m + (if b then 1 else 0) := by unfold num; rw [List.foldl_append]; rfl
/-- how things stand ahead of a layer -/
structure WkL (ss : List Stf) (f : List Bool) (w n : Nat) (kn : List (List Bool)) (ly : List (List Bool × List Bool)) : Prop where
  a : ∀ m, m.length ≤ n → ¬ SpL f (bodyF ss m)
  nd : kn.Nodup
  sh : ∀ t ∈ kn, t.length ≤ w
  g : ∀ t ∈ kn, ∃ m, m.length ≤ n ∧ t = stand ss w m
  nil : [] ∈ kn
  l1 : ∀ p ∈ ly, p.1.length = n ∧ p.2 = stand ss w p.1 ∧ p.2 ∈ kn
  srt : ly.Pairwise fun p q => num p.1 < num q.1
  d : ∀ t ∈ kn, (∃ p ∈ ly, p.2 = t) ∨ ∀ b, ∃ u ∈ kn, edge ss f w t b = some u
  e : ∀ m, m.length = n → (∀ b, ∃ u ∈ kn, edge ss f w (stand ss w m) b = some u) ∨ ∃ p ∈ ly, p.2 = stand ss w m ∧ num p.1 ≤ num m
def Dn (ly : List (List Bool × List Bool)) (i : Nat) (c : Bool) (p : List Bool × List Bool) (b : Bool) : Prop := p ∈ ly.take i ∨ (c = true ∧ ly[i]? = some p ∧ b = false)
/-- within a layer: the edges of the first i are done, and the first one of the next if c -/
structure WkE (ss : List Stf) (f : List Bool) (w n : Nat) (k0 : List (List Bool)) (ly : List (List Bool × List Bool)) (i : Nat) (c : Bool) (kn : List (List Bool)) (lt : List (List Bool × List Bool)) : Prop where
  nd : kn.Nodup
  sh : ∀ t ∈ kn, t.length ≤ w
  g : ∀ t ∈ kn, ∃ m, m.length ≤ n + 1 ∧ t = stand ss w m
  sub : ∀ t ∈ k0, t ∈ kn
  app : kn.length = k0.length + lt.length
  l1 : ∀ p ∈ lt, p.1.length = n + 1 ∧ p.2 = stand ss w p.1 ∧ p.2 ∈ kn
  srt : lt.Pairwise fun p q => num p.1 < num q.1
  ltd : ∀ p ∈ lt, ∃ q b, Dn ly i c q b ∧ p.1 = q.1 ++ [b]
  new : ∀ t ∈ kn, t ∈ k0 ∨ ∃ p ∈ lt, p.2 = t
  ed : ∀ q b, Dn ly i c q b → ∃ u ∈ kn, edge ss f w q.2 b = some u ∧ (u ∈ k0 ∨ ∃ p ∈ lt, p.2 = u ∧ num p.1 ≤ num (q.1 ++ [b]))
theorem WkE.start {ss : List Stf} {f : List Bool} {w n : Nat} {kn : List (List Bool)} {ly : List (List Bool × List Bool)} (h : WkL ss f w n kn ly) : WkE ss f w n kn ly 0 false kn [] :=
  ⟨h.nd, h.sh, fun t ht => by obtain ⟨m, h1, h2⟩ := h.g t ht; exact ⟨m, by omega, h2⟩, fun _ h => h, rfl, (fun _ h => nomatch h), .nil, (fun _ h => nomatch h), fun t ht => .inl ht, fun q b hd => by
    rcases hd with h | ⟨h, _⟩
    · rw [List.take_zero] at h; cases h
    · cases h⟩
theorem Dn.lt {ss : List Stf} {f : List Bool} {w n : Nat} {k0 : List (List Bool)} {ly : List (List Bool × List Bool)} (h : WkL ss f w n k0 ly) {i : Nat} {c : Bool} {p : List Bool × List Bool} (hp : ly[i]? = some p) {q : List Bool × List Bool} {b : Bool} (hd : Dn ly i c q b) : num (q.1 ++ [b]) < num (p.1 ++ [c]) := by
  rw [num_snoc, num_snoc]
  rcases hd with h1 | ⟨rfl, h1, rfl⟩
  · have hi := (List.getElem?_eq_some_iff.mp hp).1
    have hs : ly = ly.take i ++ ly.drop i := (List.take_append_drop i ly).symm
    have hpd : p ∈ ly.drop i := by
      rw [List.drop_eq_getElem_cons hi]
      rw [List.getElem?_eq_getElem hi] at hp
      rw [Option.some.inj hp]
      exact List.mem_cons_self
    have := h.srt
    rw [hs] at this
    have := (List.pairwise_append.mp this).2.2 q h1 p hpd
    split <;> split <;> omega
  · rw [hp] at h1
    rw [Option.some.inj h1]
    simp
/-- the edges that are done grow by one -/
theorem Dn.step {ly : List (List Bool × List Bool)} {i : Nat} {c : Bool} {p : List Bool × List Bool} (hp : ly[i]? = some p) {q : List Bool × List Bool} {b : Bool} : Dn ly (if c then i + 1 else i) (!c) q b → Dn ly i c q b ∨ (q = p ∧ b = c) := by
  cases c with
  | false =>
    rintro (h | ⟨_, h1, h2⟩)
    · exact .inl (.inl h)
    · rw [show (if false = true then i + 1 else i) = i from rfl, hp] at h1
      exact .inr ⟨(Option.some.inj h1).symm, h2⟩
  | true =>
    rintro (h | ⟨h, _⟩)
    · rw [show (if true = true then i + 1 else i) = i + 1 from rfl, List.take_add_one, hp] at h
      rcases List.mem_append.mp h with h | h
      · exact .inl (.inl h)
      · have e : q = p := by simpa using h
        cases b with
        | false => exact .inl (.inr ⟨rfl, by rw [e]; exact hp, rfl⟩)
        | true => exact .inr ⟨e, rfl⟩
    · cases h
theorem WkE.next {ss : List Stf} {f : List Bool} {w n : Nat} (o : OkN 39 ss) (hf : f ≠ []) (hw : f.length ≤ w + 1) (hL : ∀ s ∈ ss, s.1.length ≤ w + 1) {k0 kn : List (List Bool)} {ly lt : List (List Bool × List Bool)} (h : WkL ss f w n k0 ly) {i : Nat} {c : Bool} (E : WkE ss f w n k0 ly i c kn lt) {p : List Bool × List Bool} (hp : ly[i]? = some p)
    {u : List Bool} (hu : edge ss f w p.2 c = some u) :
    (u ∈ kn → WkE ss f w n k0 ly (if c then i + 1 else i) (!c) kn lt) ∧ (u ∉ kn → WkE ss f w n k0 ly (if c then i + 1 else i) (!c) (kn ++ [u]) (lt ++ [(p.1 ++ [c], u)])) := by
  have hpm := List.mem_of_getElem? hp
  obtain ⟨p1, p2, p3⟩ := h.l1 p hpm
  have hm : ¬ SpL f (bodyF ss p.1) := h.a p.1 (by omega)
  obtain ⟨_, e1, e2⟩ := edge_at o hf hw hL hm c
  rw [← p2] at e1 e2
  have us : u = stand ss w (p.1 ++ [c]) := by
    by_cases z : SpL f (bodyF ss (p.1 ++ [c]))
    · rw [e1 z] at hu; cases hu
    · rw [e2 z] at hu; exact (Option.some.inj hu).symm
  have hdn : ∀ {q b}, Dn ly i c q b → Dn ly (if c then i + 1 else i) (!c) q b := by
    intro q b hd
    cases c with
    | false =>
      rcases hd with h | ⟨h, _⟩
      · exact .inl h
      · cases h
    | true =>
      refine .inl ?_
      rw [show (if true = true then i + 1 else i) = i + 1 from rfl, List.take_add_one, hp]
      rcases hd with h | ⟨_, h1, _⟩
      · exact List.mem_append_left _ h
      · rw [hp] at h1
        exact List.mem_append_right _ (by simp [Option.some.inj h1])
  have hpn : Dn ly (if c then i + 1 else i) (!c) p c := by
    cases c with
    | false => exact .inr ⟨rfl, hp, rfl⟩
    | true =>
      refine .inl ?_
      rw [show (if true = true then i + 1 else i) = i + 1 from rfl, List.take_add_one, hp]
      exact List.mem_append_right _ (by simp)
  constructor
  · intro hk
    refine ⟨E.nd, E.sh, E.g, E.sub, E.app, E.l1, E.srt, fun q hq => ?_, E.new, fun q b hd => ?_⟩
    · obtain ⟨q2, b, h1, h2⟩ := E.ltd q hq
      exact ⟨q2, b, hdn h1, h2⟩
    · rcases Dn.step hp hd with h1 | ⟨rfl, rfl⟩
      · exact E.ed q b h1
      · refine ⟨u, hk, hu, ?_⟩
        rcases E.new u hk with h1 | ⟨r, h1, h2⟩
        · exact .inl h1
        · refine .inr ⟨r, h1, h2, ?_⟩
          obtain ⟨q2, b2, h3, h4⟩ := E.ltd r h1
          rw [h4]
          exact Nat.le_of_lt (Dn.lt h hp h3)
  · intro hk
    refine ⟨?_, ?_, ?_, fun t ht => List.mem_append_left _ (E.sub t ht), by rw [List.length_append, List.length_append, E.app]; show _ + 1 = _ + (_ + 1); omega, ?_, ?_, ?_, ?_, ?_⟩
    · rw [List.nodup_append]
      exact ⟨E.nd, nodup1 _, fun x hx y hy z => hk (by rw [← List.mem_singleton.mp hy, ← z]; exact hx)⟩
    · intro t ht
      rcases List.mem_append.mp ht with h1 | h1
      · exact E.sh t h1
      · rw [List.mem_singleton.mp h1, us]
        exact tl_le _ _
    · intro t ht
      rcases List.mem_append.mp ht with h1 | h1
      · exact E.g t h1
      · exact ⟨p.1 ++ [c], by rw [List.length_append, p1]; exact Nat.le_refl _, by rw [List.mem_singleton.mp h1]; exact us⟩
    · intro q hq
      rcases List.mem_append.mp hq with h1 | h1
      · obtain ⟨a1, a2, a3⟩ := E.l1 q h1
        exact ⟨a1, a2, List.mem_append_left _ a3⟩
      · rw [List.mem_singleton.mp h1]
        exact ⟨by rw [List.length_append, p1]; rfl, us, List.mem_append_right _ (List.mem_singleton.mpr rfl)⟩
    · rw [List.pairwise_append]
      refine ⟨E.srt, List.pairwise_singleton _ _, fun q hq r hr => ?_⟩
      rw [List.mem_singleton.mp hr]
      obtain ⟨q2, b2, h3, h4⟩ := E.ltd q hq
      rw [h4]
      exact Dn.lt h hp h3
    · intro q hq
      rcases List.mem_append.mp hq with h1 | h1
      · obtain ⟨q2, b, h1, h2⟩ := E.ltd q h1
        exact ⟨q2, b, hdn h1, h2⟩
      · rw [List.mem_singleton.mp h1]
        exact ⟨p, c, hpn, rfl⟩
    · intro t ht
      rcases List.mem_append.mp ht with h1 | h1
      · rcases E.new t h1 with h2 | ⟨r, h2, h3⟩
        · exact .inl h2
        · exact .inr ⟨r, List.mem_append_left _ h2, h3⟩
      · exact .inr ⟨_, List.mem_append_right _ (List.mem_singleton.mpr rfl), (List.mem_singleton.mp h1).symm⟩
    · intro q b hd
      rcases Dn.step hp hd with h1 | ⟨rfl, rfl⟩
      · obtain ⟨v, h2, h3, h4⟩ := E.ed q b h1
        refine ⟨v, List.mem_append_left _ h2, h3, ?_⟩
        rcases h4 with h4 | ⟨r, h5, h6⟩
        · exact .inl h4
        · exact .inr ⟨r, List.mem_append_left _ h5, h6⟩
      · exact ⟨u, List.mem_append_right _ (List.mem_singleton.mpr rfl), hu, .inr ⟨_, List.mem_append_right _ (List.mem_singleton.mpr rfl), rfl, Nat.le_refl _⟩⟩
/-- the end of a layer -/
theorem WkE.done {ss : List Stf} {f : List Bool} {w n : Nat} (o : OkN 39 ss) (hf : f ≠ []) (hw : f.length ≤ w + 1) (hL : ∀ s ∈ ss, s.1.length ≤ w + 1) {k0 kn : List (List Bool)} {ly lt : List (List Bool × List Bool)} (h : WkL ss f w n k0 ly) (E : WkE ss f w n k0 ly ly.length false kn lt) : WkL ss f w (n + 1) kn lt := by
  have dn : ∀ {q b}, q ∈ ly → Dn ly ly.length false q b := fun hq => .inl (by rw [List.take_length]; exact hq)
  -- each message that is one bit longer
  have step : ∀ m b, m.length = n → ∃ u ∈ kn, edge ss f w (stand ss w m) b = some u ∧ (u ∈ k0 ∨ ∃ p ∈ lt, p.2 = u ∧ num p.1 ≤ num (m ++ [b])) := by
    intro m b hm
    rcases h.e m hm with h1 | ⟨p, h1, h2, h3⟩
    · obtain ⟨u, h4, h5⟩ := h1 b
      exact ⟨u, E.sub u h4, h5, .inl h4⟩
    · obtain ⟨u, h4, h5, h6⟩ := E.ed p b (dn h1)
      rw [h2] at h5
      refine ⟨u, h4, h5, ?_⟩
      rcases h6 with h6 | ⟨r, h7, h8, h9⟩
      · exact .inl h6
      · refine .inr ⟨r, h7, h8, Nat.le_trans h9 ?_⟩
        rw [num_snoc, num_snoc]
        omega
  have old : ∀ t ∈ k0, ∀ b, ∃ u ∈ kn, edge ss f w t b = some u := by
    intro t ht b
    rcases h.d t ht with ⟨p, h1, rfl⟩ | h1
    · obtain ⟨u, h4, h5, _⟩ := E.ed p b (dn h1)
      exact ⟨u, h4, h5⟩
    · obtain ⟨u, h4, h5⟩ := h1 b
      exact ⟨u, E.sub u h4, h5⟩
  have cut : ∀ m : List Bool, m.length = n + 1 → ∃ m' b, m = m' ++ [b] ∧ m'.length = n := by
    intro m hm
    rcases List.eq_nil_or_concat m with z | ⟨m', b, z⟩
    · rw [z] at hm; cases hm
    · rw [List.concat_eq_append] at z
      exact ⟨m', b, z, by rw [z, List.length_append] at hm; simpa using hm⟩
  have unsp : ∀ m b, m.length = n → ¬ SpL f (bodyF ss (m ++ [b])) ∧ edge ss f w (stand ss w m) b = some (stand ss w (m ++ [b])) := by
    intro m b hm
    obtain ⟨u, _, h2, _⟩ := step m b hm
    obtain ⟨_, e1, e2⟩ := edge_at o hf hw hL (h.a m (by omega)) b
    have hn : ¬ SpL f (bodyF ss (m ++ [b])) := fun z => by rw [e1 z] at h2; cases h2
    exact ⟨hn, e2 hn⟩
  refine ⟨fun m hm => ?_, E.nd, E.sh, E.g, E.sub _ h.nil, E.l1, E.srt, fun t ht => ?_, fun m hm => ?_⟩
  · rcases Nat.lt_or_ge m.length (n + 1) with c | c
    · exact h.a m (by omega)
    · obtain ⟨m', b, rfl, h1⟩ := cut m (by omega)
      exact (unsp m' b h1).1
  · rcases E.new t ht with h1 | h1
    · exact .inr (old t h1)
    · exact .inl h1
  · obtain ⟨m', b, rfl, h1⟩ := cut m hm
    obtain ⟨u, h2, h3, h4⟩ := step m' b h1
    rw [(unsp m' b h1).2] at h3
    have eu := Option.some.inj h3
    rw [eu]
    rcases h4 with h4 | h4
    · exact .inl (old u h4)
    · exact .inr h4
/-- m is the first spoiled message -/
def FirstSp (ss : List Stf) (f m : List Bool) : Prop := SpL f (bodyF ss m) ∧ ∀ m', (m'.length < m.length ∨ (m'.length = m.length ∧ num m' < num m)) → ¬ SpL f (bodyF ss m')
theorem WkE.bad {ss : List Stf} {f : List Bool} {w n : Nat} (o : OkN 39 ss) (hf : f ≠ []) (hw : f.length ≤ w + 1) (hL : ∀ s ∈ ss, s.1.length ≤ w + 1) {k0 kn : List (List Bool)} {ly lt : List (List Bool × List Bool)} (h : WkL ss f w n k0 ly) {i : Nat} {c : Bool} (E : WkE ss f w n k0 ly i c kn lt) {p : List Bool × List Bool} (hp : ly[i]? = some p)
    (hu : edge ss f w p.2 c = none) : FirstSp ss f (p.1 ++ [c]) := by
  have hpm := List.mem_of_getElem? hp
  obtain ⟨p1, p2, p3⟩ := h.l1 p hpm
  obtain ⟨_, e1, e2⟩ := edge_at o hf hw hL (h.a p.1 (by omega)) c
  rw [← p2] at e2
  refine ⟨?_, fun m' hm' => ?_⟩
  · by_cases z : SpL f (bodyF ss (p.1 ++ [c]))
    · exact z
    · rw [e2 z] at hu; cases hu
  · rw [List.length_append, p1] at hm'
    simp only [List.length_cons, List.length_nil] at hm'
    rcases hm' with h1 | ⟨h1, h2⟩
    · exact h.a m' (by omega)
    · have : ∃ v b, m' = v ++ [b] ∧ v.length = n := by
        rcases List.eq_nil_or_concat m' with z | ⟨v, b, z⟩
        · rw [z] at h1; simp at h1
        · rw [List.concat_eq_append] at z
          exact ⟨v, b, z, by rw [z, List.length_append] at h1; simpa using h1⟩
      obtain ⟨v, b, rfl, hv⟩ := this
      obtain ⟨_, f1, f2⟩ := edge_at o hf hw hL (h.a v (by omega)) b
      intro z
      have hz := f1 z
      rcases h.e v hv with h3 | ⟨q, h3, h4, h5⟩
      · obtain ⟨u, _, h6⟩ := h3 b
        rw [hz] at h6; cases h6
      · have hd : Dn ly i c q b := by
          obtain ⟨j, hj⟩ := List.getElem?_of_mem h3
          rcases Nat.lt_trichotomy j i with c1 | c1 | c1
          · exact .inl (List.mem_of_getElem? (i := j) (by rw [List.getElem?_take, if_pos c1]; exact hj))
          · subst c1
            rw [hp] at hj
            have eq := Option.some.inj hj
            subst eq
            rw [num_snoc, num_snoc] at h2
            cases c with
            | false =>
              exfalso
              simp only [Bool.false_eq_true, if_false] at h2
              split at h2 <;> omega
            | true =>
              cases b with
              | false => exact .inr ⟨rfl, hp, rfl⟩
              | true =>
                exfalso
                simp only [if_true] at h2
                omega
          · exfalso
            have hjl := (List.getElem?_eq_some_iff.mp hj).1
            have := List.pairwise_iff_getElem.mp h.srt i j (by omega) hjl c1
            rw [List.getElem?_eq_getElem (by omega)] at hp
            rw [List.getElem?_eq_getElem hjl] at hj
            rw [Option.some.inj hp, Option.some.inj hj] at this
            rw [num_snoc, num_snoc] at h2
            split at h2 <;> split at h2 <;> omega
        obtain ⟨u, _, h6, _⟩ := E.ed q b hd
        rw [h4, hz] at h6
        cases h6
/-- the standings of a clean rule -/
structure Paper (ss : List Stf) (f : List Bool) (w : Nat) (kn : List (List Bool)) : Prop where
  nd : kn.Nodup
  sh : ∀ t ∈ kn, t.length ≤ w
  nil : [] ∈ kn
  cl : ∀ t ∈ kn, ∀ b, ∃ u ∈ kn, edge ss f w t b = some u
  g : ∀ t ∈ kn, ∃ m, t = stand ss w m
theorem WkL.clean {ss : List Stf} {f : List Bool} {w n : Nat} (o : OkN 39 ss) (hf : f ≠ []) (hw : f.length ≤ w + 1) (hL : ∀ s ∈ ss, s.1.length ≤ w + 1) {kn : List (List Bool)} (h : WkL ss f w n kn []) : Paper ss f w kn ∧ ∀ m, ¬ SpL f (bodyF ss m) := by
  have cl : ∀ t ∈ kn, ∀ b, ∃ u ∈ kn, edge ss f w t b = some u := fun t ht => by
    rcases h.d t ht with ⟨p, h1, _⟩ | h1
    · cases h1
    · exact h1
  refine ⟨⟨h.nd, h.sh, h.nil, cl, fun t ht => by obtain ⟨m, _, e⟩ := h.g t ht; exact ⟨m, e⟩⟩, ?_⟩
  have all : ∀ k m, m.length = k → ¬ SpL f (bodyF ss m) ∧ stand ss w m ∈ kn := by
    intro k
    induction k with
    | zero =>
      intro m hm
      have : m = [] := List.length_eq_zero_iff.mp hm
      subst this
      exact ⟨h.a [] (Nat.zero_le _), by show tl w [] ∈ kn; rw [tl_nil]; exact h.nil⟩
    | succ k ih =>
      intro m hm
      rcases List.eq_nil_or_concat m with z | ⟨v, b, z⟩
      · rw [z] at hm; cases hm
      · rw [List.concat_eq_append] at z
        subst z
        obtain ⟨h1, h2⟩ := ih v (by rw [List.length_append] at hm; simpa using hm)
        obtain ⟨u, h3, h4⟩ := cl _ h2 b
        obtain ⟨_, e1, e2⟩ := edge_at o hf hw hL h1 b
        have hn : ¬ SpL f (bodyF ss (v ++ [b])) := fun z => by rw [e1 z] at h4; cases h4
        rw [e2 hn] at h4
        exact ⟨hn, by rw [Option.some.inj h4]; exact h3⟩
  exact fun m => (all m.length m rfl).1
theorem WkL.begin {ss : List Stf} {f : List Bool} {w : Nat} : WkL ss f w 0 [[]] [([], [])] := by
  have st0 : stand ss w [] = [] := tl_nil w
  have z0 : ∀ m : List Bool, m.length ≤ 0 → m = [] := fun m h => List.length_eq_zero_iff.mp (by omega)
  refine ⟨fun m hm => ?_, nodup1 _, fun t ht => by rw [List.mem_singleton.mp ht]; exact Nat.zero_le _, fun t ht => ⟨[], Nat.le_refl _, by rw [List.mem_singleton.mp ht, st0]⟩, List.mem_singleton.mpr rfl, fun p hp => by rw [List.mem_singleton.mp hp]; exact ⟨rfl, st0.symm, List.mem_singleton.mpr rfl⟩, List.pairwise_singleton _ _, fun t ht => .inl ⟨_, List.mem_singleton.mpr rfl, (List.mem_singleton.mp ht).symm⟩, fun m hm => .inr ⟨_, List.mem_singleton.mpr rfl, ?_, ?_⟩⟩
  · rw [z0 m hm]
    rintro ⟨i, hi, _⟩
    exact absurd hi (Nat.not_lt_zero _)
  · rw [z0 m (by omega)]; exact st0.symm
  · rw [z0 m (by omega)]; exact Nat.le_refl _
end U

set_option maxRecDepth 100000
set_option maxHeartbeats 4000000
namespace U
open PySem PySem.Spec PyProof.Rows
open L2 hiding Fun CX0 E0 pass0 Fun.binds
open C8 Lx SX StX
theorem Body.det {ss : List Stf} : ∀ {m l l' : List Bool}, Body ss m l → Body ss m l' → l = l' := by
  intro m l l' h
  induction h generalizing l' with
  | nil =>
    intro h'
    generalize e : ([] : List Bool) = m at h'
    cases h' with
    | nil => rfl
    | snoc _ _ => have := congrArg List.length e; simp at this
  | @snoc m l x b hb hi ih =>
    intro h'
    generalize e : m ++ [b] = m' at h'
    cases h' with
    | nil => have := congrArg List.length e; simp at this
    | @snoc m2 l2 x2 b2 hb2 hi2 =>
      obtain ⟨rfl, e2⟩ := List.append_inj' e rfl
      cases (List.cons.inj e2).1
      have el := ih hb2
      subst el
      rw [hi.det hi2]
def spPutB (C : Addr) : Sp := fun vs H Q _ => ∃ (a : Addr) (f : List Bool) (ss : List Stf) (l x : List Bool), vs = [.ref a, .str (W l)] ∧ RuAt C H a f ss ∧ l.length ≤ 50000 ∧ x.length ≤ 1000 ∧ Ins ss l x ∧ ∀ H', Same H H' → Q (.str (W x)) H'
def spBody (C : Addr) : Sp := fun vs H Q _ => ∃ (a : Addr) (f : List Bool) (ss : List Stf) (m : List Bool), vs = [.ref a, .str (W m)] ∧ RuAt C H a f ss ∧ m.length ≤ 1000 ∧ OkN 39 ss ∧ ∀ l H', Body ss m l → l.length ≤ 40 * m.length → Same H H' → Q (.str (W l)) H'
section
variable {P : Program} {w : World} {K : PySem.W.Frag} {mg : Str → Option Value} {base : Heap}
theorem sc_put_behind : FnScope ["rule", "line", "found", "bit"] ["rule", "line"] (fnScope s_put_behind) := fnScope_by (by decide +kernel)
theorem cal_put_behind {f C : Addr} {fd : FuncData} (F : Def K mg "put_behind" s_put_behind f fd) (b : Binds K fd ["rule", "line"] []) (T : Tx mg) (c_put : Met P w K mg base 1 C "put" (spPut C) []) : Cal P w K mg base 3 "put_behind" (spPutB C) [] := by
  refine cal0 F b .nil sc_put_behind (fun vs H Q E h => ?_) (fun cdv A outer s H vs Q E hr h => ?_)
  · obtain ⟨_, _, _, _, _, rfl, _⟩ := h; rfl
  · obtain ⟨a, fl, ss, l, x, rfl, hR, hl, hx, hI, k⟩ := h
    refine ⟨_, (pss_cons (ps_par (i := 2) (j := 3) (by rfl) sc_put_behind.nd rfl rfl (by decide) rfl rfl (pa_cons pe_str (pa_cons (pe_mt (pl := _) c_put hr (by decide) (pv 0) (pa_cons (pv 1) pa_nil)) pa_nil)) (by rfl))
    (pss_cons (ps_while PassesOwn.never (pt_cmpR op_notN (pv 3) pe_non (nomark _))
    (pss_cons (ps_set (i := 2) sc_put_behind.nd rfl (.inl rfl) (pe_op op_add_str (pv 2) (pv 3)))
    (pss_one (ps_set (i := 3) sc_put_behind.nd rfl (.inl rfl) (pe_mt (pl := _) c_put hr (by decide) (pv 0) (pa_cons (pe_op op_add_str (pv 1) (pv 2)) pa_nil))))))
    (pss_one (ps_ret (pv 2))))), ?_⟩
    have hat : ∀ {H2 : Hp}, Same H H2 → ∃ dx t, H2 a = some (.ins C dx (ruF fl t)) := fun s2 => by
      obtain ⟨dx, t, _, _, ha, _⟩ := hR.same s2
      exact ⟨dx, t, ha⟩
    obtain ⟨dx, t, ha⟩ := hat (Same.refl H)
    refine ⟨_, rfl, a, dx, _, rfl, ha, ruF_no _ _ (by decide +kernel) (by decide +kernel), _, rfl, a, fl, ss, l, rfl, hR, fun H2 s2 => ⟨_, _, rfl, ?_⟩⟩
    have e1 : (W l).length = l.length := W_len l
    refine ⟨fun m σ H3 => ∃ (j : Nat), j + m = x.length ∧ σ = [some (.ref a), some (.str (W l)), some (.str (W (x.take j))), some (oB (putM ss (l ++ x.take j)))] ∧ Same H H3,
      ⟨x.length, 0, by omega, by rw [List.take_zero, List.append_nil, ← W_nil]; rfl, s2⟩, ?_⟩
    rintro m σ H3 ⟨j, hj, rfl, s3⟩
    refine ⟨_, rfl, rfl, _, rfl, ?_⟩
    rw [oB_non]
    by_cases hlt : j < x.length
    · have hb : x[j]? = some x[j] := List.getElem?_eq_getElem hlt
      have hput := hI.at hb
      rw [hput]
      have lx : (x.take j).length ≤ 1000 := by rw [List.length_take]; omega
      have e2 : (W (x.take j)).length = (x.take j).length := W_len _
      have e3 : (W [x[j]]).length = 1 := W_len _
      refine ⟨fun σ' H' => ∃ m', m' < m ∧ ∃ (j : Nat), j + m' = x.length ∧ σ' = [some (.ref a), some (.str (W l)), some (.str (W (x.take j))), some (oB (putM ss (l ++ x.take j)))] ∧ Same H H', fun _ _ h => h, ?_⟩
      have et : x.take (j + 1) = x.take j ++ [x[j]] := by rw [List.take_add_one, hb]; rfl
      refine ⟨_, rfl, _, rfl, _, _, rfl, rfl, by rw [e2, e3]; exact sl_len (by omega), ?_⟩
      rw [W_cat, ← et]
      have e4 : (W (x.take (j + 1))).length = (x.take (j + 1)).length := W_len _
      obtain ⟨dx5, t5, ha5⟩ := hat s3
      refine ⟨_, rfl, a, dx5, _, rfl, ha5, ruF_no _ _ (by decide +kernel) (by decide +kernel), _, rfl, _, rfl, _, _, rfl, rfl, by rw [e1, e4, et, List.length_append]; exact sl_len (by simp only [List.length_cons, List.length_nil]; omega), ?_⟩
      refine ⟨a, fl, ss, l ++ x.take (j + 1), by rw [← W_cat]; rfl, hR.same s3, fun H6 s6 => ?_⟩
      exact ⟨m - 1, by omega, j + 1, by omega, rfl, s3.trans s6⟩
    · have hj' : j = x.length := by omega
      subst hj'
      rw [List.take_length, hI.end]
      exact ⟨_, rfl, k H3 s3⟩
theorem sc_body : FnScope ["rule", "message", "line", "bit"] ["rule", "message"] (fnScope s_body) := fnScope_by (by decide +kernel)
theorem fnk_body {f C : Addr} {fd : FuncData} (F : Def K mg "body" s_body f fd) (b : Binds K fd ["rule", "message"] []) (T : Tx mg) (c_put_behind : Cal P w K mg base 3 "put_behind" (spPutB C) []) : FnOk P w K mg base CX0 4 f fd ["rule", "message"] (spBody C) := by
  refine fn0 F.fn sc_body (fun vs H Q E h => ?_) (fun cdv A outer s H vs Q E hr h => ?_)
  · obtain ⟨_, _, _, _, rfl, _⟩ := h; rfl
  · obtain ⟨a, fl, ss, m, rfl, hR, hm, hO, k⟩ := h
    refine ⟨_, (pss_cons (ps_set (i := 2) sc_body.nd rfl (.inl rfl) pe_str)
    (pss_cons (ps_for PassesOwn.never rfl (pi_str (pv 1)) (pg_name (i := 3) sc_body.nd rfl (.inl rfl))
    (pss_cons (ps_set (i := 2) sc_body.nd rfl (.inl rfl) (pe_op op_add_str (pv 2) (pv 3)))
    (pss_one (ps_set (i := 2) sc_body.nd rfl (.inl rfl) (pe_op op_add_str (pv 2) (pe_c c_put_behind hr (by decide) rfl (pa_cons (pv 0) (pa_cons (pv 2) pa_nil))))))))
    (pss_one (ps_ret (pv 2))))), ?_⟩
    obtain ⟨g, g0, g1, g2⟩ := body_steps hO m
    refine ⟨_, rfl, W m, rfl, for_it walk_str (fun i σ H2 => ∃ v3 : Option V, σ = [some (.ref a), some (.str (W m)), some (.str (W (g i))), v3] ∧ Same H H2) ⟨none, by rw [g0, ← W_nil]; rfl, Same.refl _⟩ (fun _ _ _ _ _ => trivial) ?_ ?_⟩
    · rintro i x σ H2 H3 hi ⟨v3, rfl, s2⟩ ⟨rfl, c, hc, rfl⟩
      obtain ⟨bb, hbb, rfl⟩ := W_get hc
      have hi' := (List.getElem?_eq_some_iff.mp hbb).1
      obtain ⟨x, hx, hx19, eg⟩ := g1 i bb hbb
      have hl := (g2 i (Nat.le_of_lt hi')).2
      have e1 : (W (g i)).length = (g i).length := W_len _
      have e2 : (⟨#[bt bb]⟩ : Str).length = 1 := W_len [bb]
      have ew : W (g i) ++ (⟨#[bt bb]⟩ : Str) = W (g i ++ [bb]) := W_cat (g i) [bb]
      refine ⟨_, rfl, _, rfl, _, _, rfl, rfl, by rw [e1, e2]; exact sl_len (by omega), ?_⟩
      rw [ew]
      have e3 : (W (g i ++ [bb])).length = (g i ++ [bb]).length := W_len _
      have l3 : (g i ++ [bb]).length = (g i).length + 1 := by rw [List.length_append]; rfl
      refine ⟨_, rfl, _, rfl, _, rfl, a, fl, ss, g i ++ [bb], x, rfl, hR.same s2, by omega, by omega, hx, fun H4 s4 => ⟨_, _, rfl, rfl, by rw [e3, W_len]; exact sl_len (by omega), ?_⟩⟩
      rw [W_cat, ← eg]
      exact ⟨_, rfl, s2.trans s4⟩
    · rintro σ H2 ⟨v3, rfl, s2⟩
      have g3 := g2 m.length (Nat.le_refl _)
      rw [List.take_length] at g3
      refine ⟨_, rfl, ?_⟩
      rw [W_size]
      exact k _ H2 g3.1 g3.2 s2
theorem cal_body {f C : Addr} {fd : FuncData} (F : Def K mg "body" s_body f fd) (b : Binds K fd ["rule", "message"] []) (T : Tx mg) (c_put_behind : Cal P w K mg base 3 "put_behind" (spPutB C) []) : Cal P w K mg base 4 "body" (spBody C) [] :=
  ⟨f, fd, _, [], fnk_body F b T c_put_behind, F.mgf, F.kp, b, .nil⟩
end
end U

set_option maxRecDepth 100000
namespace U
/-! the message whose body a line is -/
def takL (ss : List Stf) : List Bool → List Bool → List Bool → Option (List Bool)
  | p, [], m => if putM ss p = none then some m else none
  | p, b :: r, m => match putM ss p with
    | none => takL ss (p ++ [b]) r (m ++ [b])
    | some c => if c = b then takL ss (p ++ [b]) r m else none
def takM (ss : List Stf) (l : List Bool) : Option (List Bool) := takL ss [] l []
/-- m is read so far behind l -/
inductive Part (ss : List Stf) : List Bool → List Bool → Prop
  | nil : Part ss [] []
  | own {m l : List Bool} {b : Bool} : Part ss m l → putM ss l = none → Part ss (m ++ [b]) (l ++ [b])
  | put {m l : List Bool} {b : Bool} : Part ss m l → putM ss l = some b → Part ss m (l ++ [b])
theorem Part.ins {ss : List Stf} {l x : List Bool} (h : Ins ss l x) : ∀ {m : List Bool}, Part ss m l → Part ss m (l ++ x) := by
  induction h with
  | stop _ => intro m p; rw [List.append_nil]; exact p
  | @more l x b hb _ ih =>
    intro m p
    have := ih (p.put hb)
    rw [List.append_assoc] at this
    exact this
theorem Body.end {ss : List Stf} (h0 : putM ss [] = none) {m l : List Bool} (h : Body ss m l) : putM ss l = none := by
  cases h with
  | nil => exact h0
  | snoc _ i => exact i.end
theorem Body.part {ss : List Stf} (h0 : putM ss [] = none) {m l : List Bool} (h : Body ss m l) : Part ss m l := by
  induction h with
  | nil => exact .nil
  | snoc hb i ih => exact Part.ins i (ih.own (hb.end h0))
theorem Part.pre {ss : List Stf} {m l : List Bool} (h : Part ss m l) : (m = [] ∧ l = []) ∨ (putM ss [] ≠ none) ∨ ∃ m' b l' y, m = m' ++ [b] ∧ l = l' ++ [b] ++ y ∧ Body ss m' l' ∧ ∀ x, Ins ss l x → Ins ss (l' ++ [b]) (y ++ x) := by
  induction h with
  | nil => exact .inl ⟨rfl, rfl⟩
  | @own m l b hp hn ih =>
    refine .inr (.inr ?_)
    rcases ih with ⟨rfl, rfl⟩ | h | ⟨m', b', l', y, rfl, rfl, hb, hx⟩
    · exact ⟨[], b, [], [], rfl, rfl, .nil, fun x hx => hx⟩
    · exact absurd hn (by
        intro z
        exact h (by
          cases hm : putM ss [] with
          | none => rfl
          | some c =>
            exfalso
            have : putM ss l = some c ∨ True := .inr trivial
            -- a pattern that is empty ends each line
            unfold putM at hm z
            rw [Option.map_eq_some_iff] at hm
            obtain ⟨s, hs, _⟩ := hm
            rw [Option.map_eq_none_iff, List.find?_eq_none] at z
            have h1 := List.find?_some hs
            have h2 := z s (List.mem_of_find?_eq_some hs)
            rw [List.isSuffixOf_iff_suffix] at h1
            have e : s.1 = [] := List.suffix_nil.mp h1
            rw [e] at h2
            exact h2 (List.isSuffixOf_iff_suffix.mpr List.nil_suffix)))
    · have hend := hx [] (.stop hn)
      rw [List.append_nil] at hend
      exact ⟨m' ++ [b'], b, l' ++ [b'] ++ y, [], rfl, by simp, .snoc hb hend, fun x hx => hx⟩
  | @put m l b hp hs ih =>
    rcases ih with ⟨rfl, rfl⟩ | h | ⟨m', b', l', y, rfl, rfl, hb, hx⟩
    · exact .inr (.inl (by rw [hs]; exact nofun))
    · exact .inr (.inl h)
    · refine .inr (.inr ⟨m', b', l', y ++ [b], rfl, by simp, hb, fun x hi => ?_⟩)
      have := hx (b :: x) (.more hs hi)
      rw [List.append_assoc]
      exact this
theorem Part.body {ss : List Stf} (h0 : putM ss [] = none) {m l : List Bool} (h : Part ss m l) (he : putM ss l = none) : Body ss m l := by
  rcases h.pre with ⟨rfl, rfl⟩ | h | ⟨m', b', l', y, rfl, rfl, hb, hx⟩
  · exact .nil
  · exact absurd h0 h
  · have := hx [] (.stop he)
    rw [List.append_nil] at this
    exact .snoc hb this
theorem takL_some {ss : List Stf} : ∀ {r p m x : List Bool}, Part ss m p → takL ss p r m = some x → Part ss x (p ++ r) ∧ putM ss (p ++ r) = none
  | [], p, m, x, hp, h => by
    unfold takL at h
    split at h
    · rename_i e
      cases h
      rw [List.append_nil]
      exact ⟨hp, e⟩
    · cases h
  | b :: r, p, m, x, hp, h => by
    unfold takL at h
    split at h
    · rename_i e
      have := takL_some (hp.own e) h
      rw [List.append_assoc] at this
      exact this
    · rename_i c e
      split at h
      · rename_i ec
        subst ec
        have := takL_some (hp.put e) h
        rw [List.append_assoc] at this
        exact this
      · cases h
theorem Part.det {ss : List Stf} {m l : List Bool} (h : Part ss m l) : ∀ {m'}, Part ss m' l → m = m' := by
  induction h with
  | nil =>
    intro m' h'
    generalize e : ([] : List Bool) = l at h'
    cases h' with
    | nil => rfl
    | own _ _ => have := congrArg List.length e; simp at this
    | put _ _ => have := congrArg List.length e; simp at this
  | @own m l b hp hn ih =>
    intro m' h'
    generalize e : l ++ [b] = l2 at h'
    cases h' with
    | nil => have := congrArg List.length e; simp at this
    | own h1 h2 =>
      obtain ⟨rfl, e2⟩ := List.append_inj' e rfl
      cases (List.cons.inj e2).1
      rw [ih h1]
    | put h1 h2 =>
      obtain ⟨rfl, e2⟩ := List.append_inj' e rfl
      rw [hn] at h2; cases h2
  | @put m l b hp hn ih =>
    intro m' h'
    generalize e : l ++ [b] = l2 at h'
    cases h' with
    | nil => have := congrArg List.length e; simp at this
    | own h1 h2 =>
      obtain ⟨rfl, e2⟩ := List.append_inj' e rfl
      rw [hn] at h2; cases h2
    | put h1 h2 =>
      obtain ⟨rfl, e2⟩ := List.append_inj' e rfl
      exact ih h1
theorem Part.front {ss : List Stf} {x l : List Bool} (h : Part ss x l) : ∀ {q r : List Bool}, l = q ++ r → ∃ y, Part ss y q := by
  induction h with
  | nil =>
    intro q r e
    have : q = [] := (List.append_eq_nil_iff.mp e.symm).1
    rw [this]
    exact ⟨[], .nil⟩
  | @own m l b hp hn ih =>
    intro q r e
    rcases List.eq_nil_or_concat r with z | ⟨r', c, z⟩
    · rw [z, List.append_nil] at e
      rw [← e]
      exact ⟨_, hp.own hn⟩
    · rw [z, List.concat_eq_append, ← List.append_assoc] at e
      exact ih (List.append_inj' e rfl).1
  | @put m l b hp hn ih =>
    intro q r e
    rcases List.eq_nil_or_concat r with z | ⟨r', c, z⟩
    · rw [z, List.append_nil] at e
      rw [← e]
      exact ⟨_, hp.put hn⟩
    · rw [z, List.concat_eq_append, ← List.append_assoc] at e
      exact ih (List.append_inj' e rfl).1
theorem takL_of {ss : List Stf} : ∀ {r p m x : List Bool}, Part ss m p → Part ss x (p ++ r) → putM ss (p ++ r) = none → takL ss p r m = some x
  | [], p, m, x, hp, hx, he => by
    rw [List.append_nil] at hx he
    unfold takL
    rw [if_pos he, hp.det hx]
  | b :: r, p, m, x, hp, hx, he => by
    have e1 : p ++ b :: r = p ++ [b] ++ r := by simp
    rw [e1] at hx he
    unfold takL
    cases e : putM ss p with
    | none => exact takL_of (hp.own e) hx he
    | some c =>
      dsimp only
      have hb : c = b := by
        obtain ⟨y, hy⟩ := hx.front rfl
        generalize eq : p ++ [b] = l2 at hy
        cases hy with
        | nil => have := congrArg List.length eq; simp at this
        | own h1 h2 =>
          obtain ⟨rfl, e2⟩ := List.append_inj' eq rfl
          rw [e] at h2; cases h2
        | put h1 h2 =>
          obtain ⟨rfl, e2⟩ := List.append_inj' eq rfl
          cases (List.cons.inj e2).1
          rw [e] at h2
          exact Option.some.inj h2
      subst hb
      rw [if_pos rfl]
      exact takL_of (hp.put e) hx he
theorem takM_iff {ss : List Stf} (h0 : putM ss [] = none) {l m : List Bool} : takM ss l = some m ↔ Body ss m l := by
  constructor
  · intro h
    have := takL_some .nil h
    rw [List.nil_append] at this
    exact this.1.body h0 this.2
  · intro h
    exact takL_of .nil (by rw [List.nil_append]; exact h.part h0) (by rw [List.nil_append]; exact h.end h0)
theorem put_nil {ss : List Stf} (h : ∀ s ∈ ss, s.1 ≠ []) : putM ss [] = none := by
  unfold putM
  rw [Option.map_eq_none_iff, List.find?_eq_none]
  intro s hs z
  exact h s hs (List.suffix_nil.mp (List.isSuffixOf_iff_suffix.mp z))
theorem takM_congr {ss ts : List Stf} (h : ∀ l, putM ss l = putM ts l) (l : List Bool) : takM ss l = takM ts l := by
  unfold takM
  generalize ([] : List Bool) = p
  suffices ∀ (l p m : List Bool), takL ss p l m = takL ts p l m from this l p _
  intro l
  induction l with
  | nil => intro p m; unfold takL; rw [h]
  | cons b r ih => intro p m; unfold takL; rw [h]; simp only [ih]
/-- a message's body begins with the body of each of its beginnings -/
theorem Body.cut {ss : List Stf} {m l : List Bool} (h : Body ss m l) : ∀ i, i ≤ m.length → ∃ l', Body ss (m.take i) l' ∧ l' <+: l ∧ (i < m.length → ∃ r, l = l' ++ [m.getD i false] ++ r) := by
  induction h with
  | nil => intro i hi; exact ⟨[], by rw [List.take_nil]; exact .nil, List.nil_prefix, fun z => absurd z (by simp)⟩
  | @snoc m l x b hb hi ih =>
    intro i hil
    rw [List.length_append] at hil
    simp only [List.length_cons, List.length_nil] at hil
    rcases Nat.lt_or_ge i (m.length + 1) with c | c
    · have c' : i ≤ m.length := by omega
      obtain ⟨l', h1, h2, h3⟩ := ih i c'
      refine ⟨l', by rw [List.take_append_of_le_length c']; exact h1, h2.trans ⟨[b] ++ x, by simp⟩, fun _ => ?_⟩
      rcases Nat.lt_or_ge i m.length with d | d
      · obtain ⟨r, hr⟩ := h3 d
        refine ⟨r ++ [b] ++ x, ?_⟩
        have e : (m ++ [b]).getD i false = m.getD i false := by simp [List.getD, List.getElem?_append_left d]
        rw [e, hr]
        simp
      · have ei : i = m.length := by omega
        subst ei
        rw [List.take_length] at h1
        have e : (m ++ [b]).getD m.length false = b := by simp [List.getD]
        rw [e]
        have el : l' = l := by
          have : ∀ {m l l' : List Bool}, Body ss m l → Body ss m l' → l = l' := by
            intro m l l' h
            induction h generalizing l' with
            | nil =>
              intro h'
              generalize e : ([] : List Bool) = m at h'
              cases h' with
              | nil => rfl
              | snoc _ _ => have := congrArg List.length e; simp at this
            | @snoc m l x b hb hi ih =>
              intro h'
              generalize e : m ++ [b] = m' at h'
              cases h' with
              | nil => have := congrArg List.length e; simp at this
              | @snoc m2 l2 x2 b2 hb2 hi2 =>
                obtain ⟨rfl, e2⟩ := List.append_inj' e rfl
                cases (List.cons.inj e2).1
                have el := ih hb2
                subst el
                rw [hi.det hi2]
          exact this h1 hb
        exact ⟨x, by rw [el]⟩
    · have ei : i = m.length + 1 := by omega
      subst ei
      refine ⟨l ++ [b] ++ x, ?_, List.prefix_refl _, fun z => absurd z (by simp)⟩
      rw [List.take_of_length_le (by simp)]
      exact .snoc hb hi
theorem Body.le {ss : List Stf} {m l : List Bool} (h : Body ss m l) : m.length ≤ l.length := by
  induction h with
  | nil => exact Nat.le_refl _
  | snoc _ _ ih =>
    simp only [List.length_append, List.length_cons, List.length_nil]
    omega
end U

set_option maxRecDepth 100000
set_option maxHeartbeats 4000000
namespace U
open PySem PySem.Spec PyProof.Rows
open L2 hiding Fun CX0 E0 pass0 Fun.binds
open C8 Lx SX StX
def spTaken (C : Addr) : Sp := fun vs H Q _ => ∃ (a : Addr) (f : List Bool) (ss : List Stf) (l : List Bool), vs = [.ref a, .str (W l)] ∧ RuAt C H a f ss ∧ l.length ≤ 50000 ∧ ∀ H', Same H H' → Q (oW (takM ss l)) H'
theorem takL_nil (ss : List Stf) (p m : List Bool) : takL ss p [] m = if putM ss p = none then some m else none := rfl
theorem takL_cons (ss : List Stf) (p r m : List Bool) (b : Bool) : takL ss p (b :: r) m = match putM ss p with
    | none => takL ss (p ++ [b]) r (m ++ [b])
    | some c => if c = b then takL ss (p ++ [b]) r m else none := rfl
theorem scal_oW (a b : Option (List Bool)) : scal (oW a) (oW b) = true := by cases a <;> cases b <;> rfl
theorem scal_oBs (a : Option Bool) (z : Str) : scal (oB a) (.str z) = true := by cases a <;> rfl
theorem same_mut {H H1 : Hp} {p : Addr} {o : HO} (s : Same H H1) (n : H p = none) : Same H (upd H1 p o) := fun c u e => by
  rw [upd_ne (ne_of_none e n)]
  exact s _ _ e
theorem oW_non (o : Option (List Bool)) : decide (oW o = .non) = o.isNone := by
  cases o with
  | none => rfl
  | some x => exact decide_eq_false nofun
/-- repr of a word or None -/
def reprW : Option (List Bool) → Str
  | none => "None"
  | some x => reprText (W x)
theorem reprW_len {x : List Bool} (h : x.length ≤ 100000) : (reprText (W x)).length ≤ sizeLine := by
  have := StrLaws.reprText_len (W x) (fun c hc => by
    rw [W_tl] at hc
    obtain ⟨b, _, rfl⟩ := List.mem_map.mp hc
    cases b <;> decide)
  rw [W_len] at this
  exact Nat.le_trans this (Nat.le_trans (Nat.add_le_add_right (Nat.mul_le_mul_left 10 h) 2) (by decide))
theorem call_repr_oW {X : Cx} : CallR X (.builtin "repr") (fun xs H Q => ∃ o, xs = [oW o] ∧ (∀ x, o = some x → x.length ≤ 100000) ∧ Q (.str (reprW o)) H) := by
  intro pins s σ H xs us Q I r h
  obtain ⟨o, rfl, hl, q⟩ := h
  obtain ⟨u, rfl, ru⟩ := vals1 r
  cases o with
  | none =>
    obtain rfl : u = Value.none := ru
    exact PySem.P.repr_of_none ⟨.str _, H, I.tok _, ⟨_, rfl⟩, q⟩
  | some b =>
    obtain ⟨t, rfl⟩ := ru
    exact PySem.P.repr_of_str ⟨.str _, H, I.tok _, ⟨_, rfl⟩, q⟩ (reprW_len (hl _ rfl))
section
variable {P : Program} {w : World} {K : PySem.W.Frag} {mg : Str → Option Value} {base : Heap}
theorem sc_taken_out : FnScope ["rule", "line", "message", "at", "bit", "due"] ["rule", "line"] (fnScope s_taken_out) := fnScope_by (by decide +kernel)
theorem fnk_taken_out {f C : Addr} {fd : FuncData} (F : Def K mg "taken_out" s_taken_out f fd) (b : Binds K fd ["rule", "line"] []) (T : Tx mg) (c_put : Met P w K mg base 1 C "put" (spPut C) []) : FnOk P w K mg base CX0 3 f fd ["rule", "line"] (spTaken C) := by
  refine fn0 F.fn sc_taken_out (fun vs H Q E h => ?_) (fun cdv A outer s H vs Q E hr h => ?_)
  · obtain ⟨_, _, _, _, rfl, _⟩ := h; rfl
  · obtain ⟨a, fl, ss, l, rfl, hR, hl, k⟩ := h
    refine ⟨_, (pss_cons (ps_set (i := 2) sc_taken_out.nd rfl (.inl rfl) (pe_lst pa_nil))
    (pss_cons (ps_for PassesOwn.never rfl (pi_enumS (by rfl) T.b_enumerate (pa_cons (pv 1) pa_nil)) (pg_tup rfl (pgs_cons (pg_name (i := 3) sc_taken_out.nd rfl (.inl rfl)) (pgs_cons (pg_name (i := 4) sc_taken_out.nd rfl (.inl rfl)) pgs_nil)))
    (pss_cons (ps_set (i := 5) sc_taken_out.nd rfl (.inl rfl) (pe_mt (pl := _) c_put hr (by decide) (pv 0) (pa_cons (pe_slice sl_txt (pv 1) po_none (po_some (pv 3))) pa_nil)))
    (pss_one (ps_if (pt_cmpR op_isN (pv 5) pe_non (nomark _)) (pss_one (ps_expr (pe_bm PySem.F.plainAttrs_list PySem.F.slot_list_append PySem.F.type_list_append mt_append (pv 2) (pa_cons (pv 4) pa_nil)))) (pss_one (ps_if (pt_cmpR op_ne (pv 5) (pv 4) (nomark _)) (pss_one (ps_ret pe_non)) pss_nil))))))
    (pss_one (ps_ret (pe_ifExp (pt_cmpR op_isN (pe_mt (pl := _) c_put hr (by decide) (pv 0) (pa_cons (pv 1) pa_nil)) pe_non (nomark _)) (pe_join pe_str (pv 2)) pe_non))))), ?_⟩
    have hat : ∀ {H2 : Hp}, Same H H2 → ∃ dx t, H2 a = some (.ins C dx (ruF fl t)) := fun s2 => by
      obtain ⟨dx, t, _, _, ha, _⟩ := hR.same s2
      exact ⟨dx, t, ha⟩
    have lw : (W l).length ≤ sizeLine := by rw [W_len]; exact sl_len (by omega)
    refine ⟨Nat.zero_le _, fun D nD => ?_⟩
    refine ⟨_, rfl, W l, rfl, for_it walk_enumS (fun i σ H2 => ∃ (v3 v4 v5 : Option V) (m : List Bool), σ = [some (.ref a), some (.str (W l)), some (.ref D), v3, v4, v5] ∧ Same H H2 ∧ H2 D = some (.lst (bitsV m)) ∧ m.length ≤ i ∧ takM ss l = takL ss (l.take i) (l.drop i) m)
      ⟨_, _, _, [], rfl, same_upd nD, upd_same, Nat.le_refl _, rfl⟩ (fun _ _ _ _ _ => trivial) ?_ ?_⟩
    · rintro i x σ H2 H3 hi ⟨v3, v4, v5, m, rfl, s2, hD, hm, ht⟩ ⟨T', c, rfl, nT, rfl, hc⟩
      obtain ⟨bb, hbb, rfl⟩ := W_get hc
      have hi' := (List.getElem?_eq_some_iff.mp hbb).1
      have sT := same_upd (o := .tup [.int (i : Nat), .str ⟨#[bt bb]⟩]) nT
      refine ⟨T', _, rfl, SqT.of upd_same, rfl, _, _, rfl, _, _, rfl, rfl, ?_⟩
      have s3 := s2.trans sT
      have hD3 := sT _ _ hD
      generalize upd H2 T' (.tup [.int (i : Nat), .str ⟨#[bt bb]⟩]) = H3 at s3 hD3
      obtain ⟨dx, t, ha⟩ := hat s3
      refine ⟨_, rfl, a, dx, _, rfl, ha, ruF_no _ _ (by decide +kernel) (by decide +kernel), _, rfl, _, rfl, _, rfl, _, rfl, lw, ?_⟩
      rw [W_take (Int.natCast_nonneg _), Int.toNat_natCast]
      refine ⟨a, fl, ss, l.take i, rfl, hR.same s3, fun H4 s4 => ?_⟩
      have s4' := s3.trans s4
      have hD4 := s4 _ _ hD3
      have ed : l.drop i = bb :: l.drop (i + 1) := by
        rw [List.drop_eq_getElem_cons hi']
        rw [List.getElem?_eq_getElem hi'] at hbb
        rw [Option.some.inj hbb]
      have et : l.take (i + 1) = l.take i ++ [bb] := by rw [List.take_add_one, hbb]; rfl
      rw [ed, takL_cons] at ht
      refine ⟨_, rfl, rfl, _, rfl, ?_⟩
      rw [oB_non]
      cases e : putM ss (l.take i) with
      | none =>
        rw [e] at ht
        refine ⟨_, rfl, .inl ⟨rfl, _, SqL.of hD4⟩, _, rfl, D, _, _, rfl, rfl, hD4, by rw [bitsV_len]; exact sl_lt (by omega), ?_⟩
        refine ⟨_, _, _, m ++ [bb], rfl, same_mut s4' nD, ?_, by rw [List.length_append]; show _ + 1 ≤ _; omega, ?_⟩
        · rw [upd_same]
          exact congrArg (fun z => some (HO.lst z)) (bitsV_snoc m bb)
        · rw [et]; exact ht
      | some c =>
        rw [e] at ht
        dsimp only at ht
        refine ⟨_, rfl, _, rfl, rfl, _, rfl, ?_⟩
        by_cases ec : c = bb
        · subst ec
          rw [if_pos rfl] at ht
          refine iteNS rfl ?_
          refine ⟨_, _, _, m, rfl, s4', hD4, by omega, ?_⟩
          rw [et]; exact ht
        · rw [if_neg ec] at ht
          refine iteNT (fun z => ec ?_) ?_
          · have := W_inj (V.str.inj (show V.str (W [c]) = V.str (W [bb]) from z))
            exact (List.cons.inj this).1
          · have := k H4 s4'
            rw [ht] at this
            exact this
    · rintro σ H2 ⟨v3, v4, v5, m, rfl, s2, hD, hm, ht⟩
      rw [W_size] at hm ht
      rw [List.take_length, List.drop_length, takL_nil] at ht
      obtain ⟨dx, t, ha⟩ := hat s2
      refine ⟨_, rfl, a, dx, _, rfl, ha, ruF_no _ _ (by decide +kernel) (by decide +kernel), _, rfl, a, fl, ss, l, rfl, hR.same s2, fun H3 s3 => ⟨rfl, _, rfl, ?_⟩⟩
      rw [oB_non]
      have kk := k H3 (s2.trans s3)
      cases e : putM ss l with
      | none =>
        rw [e, if_pos rfl] at ht
        rw [ht] at kk
        refine iteT ⟨⟨_, rfl⟩, _, rfl, _, D, _, rfl, rfl, .inl (SqL.of (s3 _ _ hD)), ?_, ?_⟩
        · rw [lens_bits, empty_len]; omega
        · show Q (.str (Txt.join "" (m.map fun b => W [b]))) H3
          rw [join_bits]
          exact kk
      | some c =>
        rw [e, if_neg nofun] at ht
        rw [ht] at kk
        exact kk
theorem cal_taken_out {f C : Addr} {fd : FuncData} (F : Def K mg "taken_out" s_taken_out f fd) (b : Binds K fd ["rule", "line"] []) (T : Tx mg) (c_put : Met P w K mg base 1 C "put" (spPut C) []) : Cal P w K mg base 3 "taken_out" (spTaken C) [] :=
  ⟨f, fd, _, [], fnk_taken_out F b T c_put, F.mgf, F.kp, b, .nil⟩
end
end U

set_option maxRecDepth 100000
set_option maxHeartbeats 4000000
namespace U
open PySem PySem.Spec PyProof.Rows
open L2 hiding Fun CX0 E0 pass0 Fun.binds
open C8 Lx SX StX
/-! all words of a size, ascending -/
def wdsP : Nat → List (List Bool)
  | 0 => [[]]
  | n + 1 => (wdsP n).map (false :: ·) ++ (wdsP n).map (true :: ·)
theorem wdsP_len : ∀ n, (wdsP n).length = 2 ^ n
  | 0 => rfl
  | n + 1 => by
    show ((wdsP n).map (false :: ·) ++ (wdsP n).map (true :: ·)).length = _
    rw [List.length_append, List.length_map, List.length_map, wdsP_len n, Nat.pow_succ]
    omega
theorem wdsP_size : ∀ {n : Nat} {w : List Bool}, w ∈ wdsP n → w.length = n
  | 0, w, h => by rw [List.mem_singleton.mp h]; rfl
  | n + 1, w, h => by
    rcases List.mem_append.mp h with h1 | h1
    · obtain ⟨v, hv, rfl⟩ := List.mem_map.mp h1
      rw [List.length_cons, wdsP_size hv]
    · obtain ⟨v, hv, rfl⟩ := List.mem_map.mp h1
      rw [List.length_cons, wdsP_size hv]
theorem num_acc : ∀ (w : List Bool) (a : Nat), w.foldl (fun n b => 2 * n + (if b then 1 else 0)) a = a * 2 ^ w.length + num w
  | [], a => by show a = a * 1 + 0; omega
  | b :: r, a => by
    have h1 := num_acc r (2 * a + (if b then 1 else 0))
    have h2 := num_acc r (2 * 0 + (if b then 1 else 0))
    show r.foldl _ (2 * a + (if b then 1 else 0)) = a * 2 ^ (r.length + 1) + r.foldl _ (2 * 0 + (if b then 1 else 0))
    rw [h1, h2, Nat.pow_succ, Nat.add_mul, Nat.add_mul]
    have : 2 * a * 2 ^ r.length = a * (2 ^ r.length * 2) := by rw [Nat.mul_comm 2 a, Nat.mul_assoc, Nat.mul_comm 2]
    omega
theorem num_cons (b : Bool) (w : List Bool) : num (b :: w) = (if b then 2 ^ w.length else 0) + num w := by
  have := num_acc w (2 * 0 + (if b then 1 else 0))
  show w.foldl _ (2 * 0 + (if b then 1 else 0)) = _
  rw [this]
  cases b <;> simp
theorem num_lt : ∀ w : List Bool, num w < 2 ^ w.length
  | [] => by show 0 < 1; decide
  | b :: r => by
    have := num_lt r
    rw [num_cons, List.length_cons, Nat.pow_succ]
    split <;> omega
theorem wdsP_at : ∀ (m : List Bool), (wdsP m.length)[num m]? = some m
  | [] => rfl
  | b :: r => by
    have ih := wdsP_at r
    have hl := num_lt r
    have e : (wdsP r.length).length = 2 ^ r.length := wdsP_len _
    rw [num_cons]
    show ((wdsP r.length).map (false :: ·) ++ (wdsP r.length).map (true :: ·))[_]? = _
    cases b with
    | false =>
      rw [if_neg (by decide), Nat.zero_add, List.getElem?_append_left (by rw [List.length_map]; omega), List.getElem?_map, ih]
      rfl
    | true =>
      rw [if_pos rfl, List.getElem?_append_right (by rw [List.length_map]; omega), List.length_map, e, List.getElem?_map, show 2 ^ r.length + num r - 2 ^ r.length = num r by omega, ih]
      rfl
theorem num_inj : ∀ {a b : List Bool}, a.length = b.length → num a = num b → a = b := by
  intro a b hl hn
  have h1 := wdsP_at a
  have h2 := wdsP_at b
  rw [hl, hn, h2] at h1
  exact (Option.some.inj h1).symm
theorem wdsP_num {n i : Nat} {w : List Bool} (h : (wdsP n)[i]? = some w) : num w = i := by
  have hs := wdsP_size (List.mem_of_getElem? h)
  have hi := (List.getElem?_eq_some_iff.mp h).1
  rw [wdsP_len] at hi
  -- the words are told one by one
  have : ∀ n i w, (wdsP n)[i]? = some w → num w = i := by
    intro n
    induction n with
    | zero =>
      intro i w h
      have := (List.getElem?_eq_some_iff.mp h).1
      have hi : i = 0 := by simpa [wdsP] using this
      subst hi
      have : w = [] := by simpa [wdsP] using h.symm
      rw [this]; rfl
    | succ n ih =>
      intro i w h
      have e : (wdsP n).length = 2 ^ n := wdsP_len _
      have h' : ((wdsP n).map (false :: ·) ++ (wdsP n).map (true :: ·))[i]? = some w := h
      by_cases c : i < 2 ^ n
      · rw [List.getElem?_append_left (by rw [List.length_map]; omega), List.getElem?_map] at h'
        obtain ⟨v, hv, rfl⟩ := Option.map_eq_some_iff.mp h'
        rw [num_cons, if_neg (by decide), ih i v hv, Nat.zero_add]
      · rw [List.getElem?_append_right (by rw [List.length_map]; omega), List.length_map, e, List.getElem?_map] at h'
        obtain ⟨v, hv, rfl⟩ := Option.map_eq_some_iff.mp h'
        rw [num_cons, if_pos rfl, ih _ v hv, wdsP_size (List.mem_of_getElem? hv)]
        omega
  exact this n i w h
theorem first_of {n : Nat} {p : List Bool → Bool} {m : List Bool} {r : List (List Bool)} (h : (wdsP n).filter p = m :: r) : m.length = n ∧ p m = true ∧ ∀ m', m'.length = n → num m' < num m → p m' = false := by
  have h1 : (wdsP n).find? p = some m := by rw [← List.head?_filter, h]; rfl
  have hm := List.mem_of_find?_eq_some h1
  refine ⟨wdsP_size hm, List.find?_some h1, fun m' hl hn => ?_⟩
  obtain ⟨_, i, hi, e1, e2⟩ := List.find?_eq_some_iff_getElem.mp h1
  have ei : num m = i := wdsP_num (n := n) (by rw [List.getElem?_eq_getElem hi, e1])
  have h3 := wdsP_at m'
  rw [hl] at h3
  obtain ⟨h4, h5⟩ := List.getElem?_eq_some_iff.mp h3
  have := e2 (num m') (by omega)
  rw [h5] at this
  simpa using this
theorem none_of {n : Nat} {p : List Bool → Bool} (h : (wdsP n).filter p = []) : ∀ m', m'.length = n → p m' = false := fun m' hl => by
  have h3 := wdsP_at m'
  rw [hl] at h3
  have := List.filter_eq_nil_iff.mp h m' (List.mem_of_getElem? h3)
  simpa using this
/-! words in a list -/
def wdsV (ws : List (List Bool)) : List V := ws.map fun w => V.str (W w)
def wdsD (ws : List (List Bool)) : List PyData := ws.map fun w => PyData.str (W w)
theorem wdsV_len (ws : List (List Bool)) : (wdsV ws).length = ws.length := List.length_map _
theorem wdsV_app (a b : List (List Bool)) : wdsV (a ++ b) = wdsV a ++ wdsV b := List.map_append
theorem wdsV_get {ws : List (List Bool)} {i : Nat} {x : V} (h : (wdsV ws)[i]? = some x) : ∃ w, ws[i]? = some w ∧ x = .str (W w) := by
  unfold wdsV at h
  rw [List.getElem?_map] at h
  obtain ⟨w, hw, rfl⟩ := Option.map_eq_some_iff.mp h
  exact ⟨w, hw, rfl⟩
theorem dp_wds {K : PySem.W.Frag} {H : Hp} : ∀ ws : List (List Bool), DpAll K H (wdsV ws) (wdsD ws)
  | [] => .nil
  | w :: r => .cons (.str _) (dp_wds r)
theorem ok_W (l : List Bool) : PyData.strOk (W l) = true := by
  unfold PyData.strOk
  show ((l.map bt).toArray.all _) = true
  rw [List.all_toArray, List.all_map, List.all_eq_true]
  intro b _
  cases b <;> rfl
theorem lay_wds : ∀ ws : List (List Bool), PyData.canLayAll0 (wdsD ws) = true ∧ PyData.depthAll (wdsD ws) = 0
  | [] => by simp [wdsD, PyData.canLayAll0, PyData.depthAll]
  | w :: r => by
    obtain ⟨h1, h2⟩ := lay_wds r
    show PyData.canLayAll0 (PyData.str (W w) :: wdsD r) = true ∧ PyData.depthAll (PyData.str (W w) :: wdsD r) = 0
    rw [PyData.canLayAll0, PyData.depthAll, h1, h2, PyData.canLay0, PyData.depth, ok_W]
    exact ⟨rfl, rfl⟩
theorem shaped_wds (ws : List (List Bool)) : SeqAt.shaped (.list (wdsD ws)) = true := by
  unfold SeqAt.shaped
  rw [PyData.canLay0, (lay_wds ws).1, PyData.depth, (lay_wds ws).2]
  rfl
theorem eqv_wnil (ws : List (List Bool)) : PyData.eqv (.list (wdsD ws)) (.list []) = ws.isEmpty := by
  cases ws with
  | nil => simp [wdsD, PyData.eqv, PyData.eqvAll]
  | cons w r => simp [wdsD, PyData.eqv, PyData.eqvAll]
def spWordsP : Sp := fun vs H Q _ => ∃ n : Nat, vs = [.int n] ∧ n ≤ 12 ∧ ∀ l H', H l = none → Same H H' → H' l = some (.lst (wdsV (wdsP n))) → Q (.ref l) H'
section
variable {P : Program} {w : World} {K : PySem.W.Frag} {mg : Str → Option Value} {base : Heap}
end
end U

set_option maxRecDepth 100000
set_option maxHeartbeats 4000000
set_option pp.maxSteps 400
namespace U
/-! two rules compared -/
/-- a place among all words, shorter ones first -/
def sl (m : List Bool) : Nat := num (true :: m)
theorem sl_snoc (m : List Bool) (b : Bool) : sl (m ++ [b]) = 2 * sl m + (if b then 1 else 0) := num_snoc (true :: m) b
theorem sl_nil : sl [] = 1 := rfl
theorem sl_pos : ∀ m : List Bool, 1 ≤ sl m := by
  intro m
  unfold sl
  rw [num_cons, if_pos rfl]
  have := Nat.one_le_two_pow (n := m.length)
  omega
def Al (s1 s2 : List Stf) (m : List Bool) : Prop := bodyF s1 m = bodyF s2 m
def PartR (s1 s2 : List Stf) : Option (List Bool) → Prop
  | none => ∀ m, Al s1 s2 m
  | some m => ¬ Al s1 s2 m ∧ ∀ m', sl m' < sl m → Al s1 s2 m'
theorem sl_inj {a b : List Bool} (h : sl a = sl b) : a = b := by
  unfold sl at h
  rw [num_cons, num_cons, if_pos rfl, if_pos rfl] at h
  have ha := num_lt a
  have hb := num_lt b
  have el : a.length = b.length := by
    rcases Nat.lt_trichotomy a.length b.length with c | c | c
    · have : 2 ^ (a.length + 1) ≤ 2 ^ b.length := Nat.pow_le_pow_right (by decide) c
      rw [Nat.pow_succ] at this
      omega
    · exact c
    · have : 2 ^ (b.length + 1) ≤ 2 ^ a.length := Nat.pow_le_pow_right (by decide) c
      rw [Nat.pow_succ] at this
      omega
  rw [el] at h
  exact num_inj el (by omega)
theorem PartR.det {s1 s2 : List Stf} : ∀ {o o' : Option (List Bool)}, PartR s1 s2 o → PartR s1 s2 o' → o = o'
  | none, none, _, _ => rfl
  | none, some m, h, h' => absurd (h m) h'.1
  | some m, none, h, h' => absurd (h' m) h.1
  | some m, some m', h, h' => by
    rcases Nat.lt_trichotomy (sl m) (sl m') with c | c | c
    · exact absurd (h'.2 m c) h.1
    · rw [sl_inj c]
    · exact absurd (h.2 m' c) h'.1
theorem PartR.symm {s1 s2 : List Stf} : ∀ {o : Option (List Bool)}, PartR s1 s2 o → PartR s2 s1 o
  | none, h => fun m => (h m).symm
  | some m, h => ⟨fun z => h.1 z.symm, fun m' hm => (h.2 m' hm).symm⟩
/-- both rules at one standing -/
theorem al_step {s1 s2 : List Stf} {L : Nat} (o1 : OkN 39 s1) (o2 : OkN 39 s2) (h1 : ∀ s ∈ s1, s.1.length ≤ L) (h2 : ∀ s ∈ s2, s.1.length ≤ L) {p u : List Bool} (ap : Al s1 s2 p) (au : Al s1 s2 u) (e : tl L (bodyF s1 p) = tl L (bodyF s1 u)) (b : Bool) :
    (Al s1 s2 (p ++ [b]) → Al s1 s2 (u ++ [b])) ∧ tl L (bodyF s1 (p ++ [b])) = tl L (bodyF s1 (u ++ [b])) := by
  obtain ⟨x1, i1, l1, e1⟩ := ins40 o1 p b
  obtain ⟨x2, i2, l2, e2⟩ := ins40 o2 p b
  obtain ⟨y1, j1, k1, f1⟩ := ins40 o1 u b
  obtain ⟨y2, j2, k2, f2⟩ := ins40 o2 u b
  unfold Al at ap au ⊢
  rw [← ap] at i2 e2
  rw [← au] at j2 f2
  have es := tl_snoc (b := b) e
  have z1 := (i1.tl h1 es).det j1
  have z2 := (i2.tl h2 es).det j2
  subst z1 z2
  refine ⟨fun h => ?_, ?_⟩
  · rw [e1, e2] at h
    rw [f1, f2, List.append_cancel_left h]
  · rw [e1, f1]
    exact tl_app es _
/-- both put in the same at once -/
theorem al_ins {s1 s2 : List Stf} {L : Nat} (o1 : OkN 39 s1) (o2 : OkN 39 s2) (h1 : ∀ s ∈ s1, s.1.length ≤ L) (h2 : ∀ s ∈ s2, s.1.length ≤ L) {p t : List Bool} (ap : Al s1 s2 p) (e : t = tl L (bodyF s1 p)) (b : Bool) :
    ∃ x1 x2, Ins s1 (t ++ [b]) x1 ∧ Ins s2 (t ++ [b]) x2 ∧ x1.length ≤ 39 ∧ x2.length ≤ 39 ∧ (Al s1 s2 (p ++ [b]) ↔ x1 = x2) ∧ tl L (t ++ [b] ++ x1) = tl L (bodyF s1 (p ++ [b])) := by
  obtain ⟨x1, i1, l1, e1⟩ := ins40 o1 p b
  obtain ⟨x2, i2, l2, e2⟩ := ins40 o2 p b
  unfold Al at ap ⊢
  rw [← ap] at i2 e2
  have es : tl L (bodyF s1 p ++ [b]) = tl L (t ++ [b]) := tl_snoc (by rw [e, tl_tl (Nat.le_refl _)])
  refine ⟨x1, x2, i1.tl h1 es, i2.tl h2 es, l1, l2, ?_, ?_⟩
  · rw [e1, e2]
    exact ⟨fun h => List.append_cancel_left h, fun h => by rw [h]⟩
  · rw [e1]
    exact (tl_app es _).symm
/-- the search: messages with their standings in order, the edges of the first n done, and the first one of the next if c -/
structure PtI (s1 s2 : List Stf) (L : Nat) (od : List (List Bool × List Bool)) (n : Nat) (c : Bool) : Prop where
  st : ∀ p ∈ od, Al s1 s2 p.1 ∧ p.2 = tl L (bodyF s1 p.1)
  nd : (od.map Prod.snd).Nodup
  srt : od.Pairwise fun p q => sl p.1 < sl q.1
  hd : ∃ p ∈ od, p.1 = []
  ltd : ∀ p ∈ od, p.1 = [] ∨ ∃ q b, Dn od n c q b ∧ p.1 = q.1 ++ [b]
  ed : ∀ q b, Dn od n c q b → Al s1 s2 (q.1 ++ [b]) ∧ ∃ p ∈ od, p.2 = tl L (bodyF s1 (q.1 ++ [b])) ∧ sl p.1 ≤ sl (q.1 ++ [b])
  len : ∀ (j : Nat) (p : List Bool × List Bool), od[j]? = some p → p.1.length ≤ j
theorem PtI.start {s1 s2 : List Stf} {L : Nat} : PtI s1 s2 L [([], [])] 0 false := by
  refine ⟨fun p hp => ?_, ?_, List.pairwise_singleton _ _, ⟨_, List.mem_singleton.mpr rfl, rfl⟩, fun p hp => .inl ?_, fun q b h => ?_, fun j p h => ?_⟩
  · rw [List.mem_singleton.mp hp]
    exact ⟨rfl, (tl_nil L).symm⟩
  · exact nodup1 _
  · rw [List.mem_singleton.mp hp]
  · rcases h with h | ⟨h, _⟩
    · rw [List.take_zero] at h; cases h
    · cases h
  · match j, h with
    | 0, h => rw [← Option.some.inj h]; exact Nat.le_refl _
theorem PtI.few {s1 s2 : List Stf} {L : Nat} {od : List (List Bool × List Bool)} {n : Nat} {c : Bool} (h : PtI s1 s2 L od n c) : od.length + 1 ≤ 2 ^ (L + 1) := by
  have := words_le h.nd (n := L) fun w hw => by
    obtain ⟨p, hp, rfl⟩ := List.mem_map.mp hw
    rw [(h.st p hp).2]
    exact tl_le _ _
  rw [List.length_map] at this
  exact this
theorem Dn.lt2 {s1 s2 : List Stf} {L : Nat} {od : List (List Bool × List Bool)} {n : Nat} {c : Bool} (h : PtI s1 s2 L od n c) {p : List Bool × List Bool} (hp : od[n]? = some p) {q : List Bool × List Bool} {b : Bool} (hd : Dn od n c q b) : sl (q.1 ++ [b]) < sl (p.1 ++ [c]) := by
  rw [sl_snoc, sl_snoc]
  rcases hd with h1 | ⟨rfl, h1, rfl⟩
  · have hi := (List.getElem?_eq_some_iff.mp hp).1
    have hs : od = od.take n ++ od.drop n := (List.take_append_drop n od).symm
    have hpd : p ∈ od.drop n := by
      rw [List.drop_eq_getElem_cons hi]
      rw [List.getElem?_eq_getElem hi] at hp
      rw [Option.some.inj hp]
      exact List.mem_cons_self
    have := h.srt
    rw [hs] at this
    have := (List.pairwise_append.mp this).2.2 q h1 p hpd
    split <;> split <;> omega
  · rw [hp] at h1
    rw [Option.some.inj h1]
    simp
/-- an edge is done or not before the one that stands next -/
theorem Dn.of_lt {s1 s2 : List Stf} {L : Nat} {od : List (List Bool × List Bool)} {n : Nat} {c : Bool} (h : PtI s1 s2 L od n c) {p : List Bool × List Bool} (hp : od[n]? = some p) {q : List Bool × List Bool} (hq : q ∈ od) {b : Bool} (hl : sl (q.1 ++ [b]) < sl (p.1 ++ [c])) : Dn od n c q b := by
  rw [sl_snoc, sl_snoc] at hl
  obtain ⟨j, hj⟩ := List.getElem?_of_mem hq
  rcases Nat.lt_trichotomy j n with z | z | z
  · exact .inl (List.mem_of_getElem? (i := j) (by rw [List.getElem?_take, if_pos z]; exact hj))
  · subst z
    rw [hp] at hj
    cases Option.some.inj hj
    refine .inr ?_
    cases b <;> cases c
    · simp at hl
    · exact ⟨rfl, hp, rfl⟩
    · simp at hl; omega
    · simp at hl
  · exfalso
    have hn := (List.getElem?_eq_some_iff.mp hp)
    have hj' := (List.getElem?_eq_some_iff.mp hj)
    obtain ⟨hn1, hn2⟩ := hn
    obtain ⟨hj1, hj2⟩ := hj'
    have := List.pairwise_iff_getElem.mp h.srt n j hn1 hj1 z
    rw [hn2, hj2] at this
    split at hl <;> split at hl <;> omega
theorem PtI.rep {s1 s2 : List Stf} {L : Nat} (o1 : OkN 39 s1) (o2 : OkN 39 s2) (h1 : ∀ s ∈ s1, s.1.length ≤ L) (h2 : ∀ s ∈ s2, s.1.length ≤ L) {od : List (List Bool × List Bool)} {n : Nat} {c : Bool} (h : PtI s1 s2 L od n c) (X : Nat)
    (hX : ∀ q ∈ od, ∀ b, sl (q.1 ++ [b]) < X → Dn od n c q b) : ∀ k (u : List Bool), u.length = k → sl u < X → Al s1 s2 u ∧ ∃ p ∈ od, p.2 = tl L (bodyF s1 u) ∧ sl p.1 ≤ sl u
  | 0, u, hu, _ => by
    have := List.length_eq_zero_iff.mp hu
    subst this
    obtain ⟨p, hp, e⟩ := h.hd
    refine ⟨rfl, p, hp, ?_, by rw [e]; exact Nat.le_refl _⟩
    rw [(h.st p hp).2, e]
  | k + 1, u, hu, hlt => by
    obtain ⟨v, b, rfl⟩ : ∃ v b, u = v ++ [b] := by
      rcases List.eq_nil_or_concat u with z | ⟨v, b, z⟩
      · rw [z] at hu; cases hu
      · exact ⟨v, b, by rw [z, List.concat_eq_append]⟩
    have hv : v.length = k := by rw [List.length_append] at hu; simpa using hu
    have hs := sl_snoc v b
    have hp1 := sl_pos v
    obtain ⟨av, p, hp, e, hle⟩ := rep o1 o2 h1 h2 h X hX k v hv (by split at hs <;> omega)
    have hps := sl_snoc p.1 b
    have hd := hX p hp b (by split at hs <;> simp_all <;> omega)
    obtain ⟨ap, e2⟩ := h.st p hp
    obtain ⟨a2, r, hr, e3, hle2⟩ := h.ed p b hd
    obtain ⟨z1, z2⟩ := al_step o1 o2 h1 h2 ap av (by rw [← e2]; exact e) b
    refine ⟨z1 a2, r, hr, by rw [e3, z2], ?_⟩
    split at hs <;> simp_all <;> omega
theorem PtI.fin {s1 s2 : List Stf} {L : Nat} (o1 : OkN 39 s1) (o2 : OkN 39 s2) (h1 : ∀ s ∈ s1, s.1.length ≤ L) (h2 : ∀ s ∈ s2, s.1.length ≤ L) {od : List (List Bool × List Bool)} {n : Nat} (h : PtI s1 s2 L od n false) (hn : od.length ≤ n) : PartR s1 s2 none := by
  intro m
  refine (h.rep o1 o2 h1 h2 (sl m + 1) (fun q hq b _ => .inl ?_) m.length m rfl (Nat.lt_succ_self _)).1
  rw [List.take_of_length_le hn]
  exact hq
theorem PtI.hit {s1 s2 : List Stf} {L : Nat} (o1 : OkN 39 s1) (o2 : OkN 39 s2) (h1 : ∀ s ∈ s1, s.1.length ≤ L) (h2 : ∀ s ∈ s2, s.1.length ≤ L) {od : List (List Bool × List Bool)} {n : Nat} {c : Bool} (h : PtI s1 s2 L od n c) {p : List Bool × List Bool} (hp : od[n]? = some p) (hb : ¬ Al s1 s2 (p.1 ++ [c])) : PartR s1 s2 (some (p.1 ++ [c])) :=
  ⟨hb, fun m hm => (h.rep o1 o2 h1 h2 (sl (p.1 ++ [c])) (fun q hq b hl => Dn.of_lt h hp hq hl) m.length m rfl hm).1⟩
theorem Dn.grow {ly : List (List Bool × List Bool)} {i : Nat} {c : Bool} {p : List Bool × List Bool} (hp : ly[i]? = some p) {q : List Bool × List Bool} {b : Bool} (hd : Dn ly i c q b) (z : List (List Bool × List Bool)) : Dn (ly ++ z) (if c then i + 1 else i) (!c) q b := by
  have hi := (List.getElem?_eq_some_iff.mp hp).1
  cases c with
  | false =>
    rcases hd with h | ⟨h, _⟩
    · refine .inl ?_
      rw [show (if false = true then i + 1 else i) = i from rfl, List.take_append_of_le_length (by omega)]
      exact h
    · cases h
  | true =>
    refine .inl ?_
    rw [show (if true = true then i + 1 else i) = i + 1 from rfl, List.take_append_of_le_length (by omega), List.take_add_one, hp]
    rcases hd with h | ⟨_, h1, _⟩
    · exact List.mem_append_left _ h
    · rw [hp] at h1
      exact List.mem_append_right _ (by simp [Option.some.inj h1])
theorem Dn.own {ly : List (List Bool × List Bool)} {i : Nat} {c : Bool} {p : List Bool × List Bool} (hp : ly[i]? = some p) (z : List (List Bool × List Bool)) : Dn (ly ++ z) (if c then i + 1 else i) (!c) p c := by
  have hi := (List.getElem?_eq_some_iff.mp hp).1
  cases c with
  | false => exact .inr ⟨rfl, by rw [show (if false = true then i + 1 else i) = i from rfl, List.getElem?_append_left hi]; exact hp, rfl⟩
  | true =>
    refine .inl ?_
    rw [show (if true = true then i + 1 else i) = i + 1 from rfl, List.take_append_of_le_length (by omega), List.take_add_one, hp]
    exact List.mem_append_right _ (by simp)
theorem Dn.back {ly : List (List Bool × List Bool)} {i : Nat} {c : Bool} {p : List Bool × List Bool} (hp : ly[i]? = some p) {z : List (List Bool × List Bool)} {q : List Bool × List Bool} {b : Bool} (h : Dn (ly ++ z) (if c then i + 1 else i) (!c) q b) : Dn ly i c q b ∨ (q = p ∧ b = c) := by
  have hi := (List.getElem?_eq_some_iff.mp hp).1
  refine Dn.step hp ?_
  cases c with
  | false =>
    rcases h with h | ⟨h1, h2, h3⟩
    · refine .inl ?_
      rw [show (if false = true then i + 1 else i) = i from rfl, List.take_append_of_le_length (by omega)] at h
      exact h
    · refine .inr ⟨h1, ?_, h3⟩
      rw [show (if false = true then i + 1 else i) = i from rfl, List.getElem?_append_left hi] at h2
      exact h2
  | true =>
    rcases h with h | ⟨h, _⟩
    · refine .inl ?_
      rw [show (if true = true then i + 1 else i) = i + 1 from rfl, List.take_append_of_le_length (by omega)] at h
      exact h
    · cases h
theorem PtI.old {s1 s2 : List Stf} {L : Nat} {od : List (List Bool × List Bool)} {n : Nat} {c : Bool} (h : PtI s1 s2 L od n c) {p : List Bool × List Bool} (hp : od[n]? = some p) (ha : Al s1 s2 (p.1 ++ [c])) (hk : tl L (bodyF s1 (p.1 ++ [c])) ∈ od.map Prod.snd) : PtI s1 s2 L od (if c then n + 1 else n) (!c) := by
  have up : ∀ {q b}, Dn od n c q b → Dn od (if c then n + 1 else n) (!c) q b := fun hd => by have := Dn.grow hp hd []; rw [List.append_nil] at this; exact this
  refine ⟨h.st, h.nd, h.srt, h.hd, fun r hr => ?_, fun q b hd => ?_, h.len⟩
  · rcases h.ltd r hr with e | ⟨q, b, h1, h2⟩
    · exact .inl e
    · exact .inr ⟨q, b, up h1, h2⟩
  · rcases Dn.step hp hd with h1 | ⟨rfl, rfl⟩
    · exact h.ed q b h1
    · refine ⟨ha, ?_⟩
      obtain ⟨r, hr, e⟩ := List.mem_map.mp hk
      refine ⟨r, hr, e, ?_⟩
      rcases h.ltd r hr with e2 | ⟨q2, b2, h1, h2⟩
      · rw [e2]; exact sl_pos _
      · rw [h2]; exact Nat.le_of_lt (Dn.lt2 h hp h1)
theorem PtI.new {s1 s2 : List Stf} {L : Nat} {od : List (List Bool × List Bool)} {n : Nat} {c : Bool} (h : PtI s1 s2 L od n c) {p : List Bool × List Bool} (hp : od[n]? = some p) (ha : Al s1 s2 (p.1 ++ [c])) (hk : tl L (bodyF s1 (p.1 ++ [c])) ∉ od.map Prod.snd) : PtI s1 s2 L (od ++ [(p.1 ++ [c], tl L (bodyF s1 (p.1 ++ [c])))]) (if c then n + 1 else n) (!c) := by
  have hi := (List.getElem?_eq_some_iff.mp hp).1
  refine ⟨fun r hr => ?_, ?_, ?_, ?_, fun r hr => ?_, fun q b hd => ?_, fun j r hr => ?_⟩
  · rcases List.mem_append.mp hr with z | z
    · exact h.st r z
    · rw [List.mem_singleton.mp z]
      exact ⟨ha, rfl⟩
  · rw [List.map_append, List.nodup_append]
    exact ⟨h.nd, nodup1 _, fun x hx y hy z => hk (by
      have e : y = tl L (bodyF s1 (p.1 ++ [c])) := List.mem_singleton.mp hy
      rw [← e, ← z]; exact hx)⟩
  · refine List.pairwise_append.mpr ⟨h.srt, List.pairwise_singleton _ _, fun x hx y hy => ?_⟩
    rw [List.mem_singleton.mp hy]
    show sl x.1 < sl (p.1 ++ [c])
    rcases h.ltd x hx with e | ⟨q, b, h1, h2⟩
    · rw [e, sl_nil, sl_snoc]
      have := sl_pos p.1
      omega
    · rw [h2]; exact Dn.lt2 h hp h1
  · obtain ⟨r, hr, e⟩ := h.hd
    exact ⟨r, List.mem_append_left _ hr, e⟩
  · rcases List.mem_append.mp hr with z | z
    · rcases h.ltd r z with e | ⟨q, b, h1, h2⟩
      · exact .inl e
      · exact .inr ⟨q, b, Dn.grow hp h1 _, h2⟩
    · rw [List.mem_singleton.mp z]
      exact .inr ⟨p, c, Dn.own hp _, rfl⟩
  · rcases Dn.back hp hd with h1 | ⟨rfl, rfl⟩
    · obtain ⟨a, r, hr, e⟩ := h.ed q b h1
      exact ⟨a, r, List.mem_append_left _ hr, e⟩
    · exact ⟨ha, _, List.mem_append_right _ (List.mem_singleton.mpr rfl), rfl, Nat.le_refl _⟩
  · rcases Nat.lt_or_ge j od.length with z | z
    · rw [List.getElem?_append_left z] at hr
      exact h.len j r hr
    · rw [List.getElem?_append_right z] at hr
      have ej : j - od.length = 0 := by
        have := (List.getElem?_eq_some_iff.mp hr).1
        simp at this
        exact this
      rw [ej] at hr
      rw [← Option.some.inj hr]
      have := h.len n p hp
      show (p.1 ++ [c]).length ≤ j
      rw [List.length_append]
      show _ + 1 ≤ j
      omega
end U

set_option maxRecDepth 100000
set_option maxHeartbeats 400000
set_option pp.maxSteps 400
namespace U
open PySem PySem.Spec PyProof.Rows
open L2 hiding Fun CX0 E0 pass0 Fun.binds
open C8 Lx SX StX
/-- a rule that can be made -/
structure Giv (f : List Bool) (ss : List Stf) : Prop where
  ok : StOk ss
  o : OkN 39 ss
  f2 : 2 ≤ f.length
  f9 : f.length ≤ 9
def givB (f : List Bool) (ss : List Stf) : Bool := decide (ss.length ≤ 1000) && (ss.all fun s => !s.1.isEmpty) && decide (longM ss ≤ 9) && decide (ss.Pairwise fun a b => ¬ a.1 <:+ b.1 ∧ ¬ b.1 <:+ a.1) && (ss.all fun s => decide (s.1.length ≤ 5)) && ((allW 5).all fun w => [false, true].all fun b => decide ((itP ss 24 (w ++ [b])).length ≤ w.length + 20)) && decide (2 ≤ f.length) && decide (f.length ≤ 9)
theorem giv_dec {f : List Bool} {ss : List Stf} (h : givB f ss = true) : Giv f ss := by
  unfold givB at h
  simp only [Bool.and_eq_true] at h
  obtain ⟨⟨⟨⟨⟨⟨⟨h1, h2⟩, h3⟩, h4⟩, h5⟩, h6⟩, h7⟩, h8⟩ := h
  refine ⟨⟨of_decide_eq_true h1, fun s hs => ?_, of_decide_eq_true h3, (show ss.Pairwise _ from of_decide_eq_true h4)⟩, OkN.mono (okS_dec h5 h6) (by decide), of_decide_eq_true h7, of_decide_eq_true h8⟩
  have := List.all_eq_true.mp h2 s hs
  intro z
  rw [z] at this
  cases this
theorem Giv.nn {f : List Bool} {ss : List Stf} (g : Giv f ss) : f ≠ [] := fun z => by have := g.f2; rw [z] at this; cases this
theorem Giv.perm {f : List Bool} {ss ts : List Stf} (g : Giv f ss) (p : ts.Perm ss) : Giv f ts :=
  ⟨g.ok.perm p.symm, g.o.congr fun l => put_perm g.ok.free p.symm l, g.f2, g.f9⟩
/-! two given rules compared by the kernel -/
def reachQ (ss : List Stf) (L : Nat) : Nat → List (List Bool) → List (List Bool)
  | 0, kn => kn
  | n + 1, kn => reachQ ss L n (kn.foldl (fun k t => [false, true].foldl (fun k b => if tl L (itP ss 40 (t ++ [b])) ∈ k then k else k ++ [tl L (itP ss 40 (t ++ [b]))]) k) kn)
def parNB (s1 s2 : List Stf) (L : Nat) : Bool := decide ([] ∈ reachQ s1 L 12 [[]]) && (s1.all fun s => decide (s.1.length ≤ L)) && (s2.all fun s => decide (s.1.length ≤ L)) && (reachQ s1 L 12 [[]]).all fun t => [false, true].all fun b => decide (itP s1 40 (t ++ [b]) = itP s2 40 (t ++ [b])) && decide (tl L (itP s1 40 (t ++ [b])) ∈ reachQ s1 L 12 [[]])
theorem parN_dec {s1 s2 : List Stf} {L : Nat} (o1 : OkN 39 s1) (o2 : OkN 39 s2) (h : parNB s1 s2 L = true) : PartR s1 s2 none := by
  unfold parNB at h
  generalize reachQ s1 L 12 [[]] = kn at h
  simp only [Bool.and_eq_true] at h
  obtain ⟨⟨⟨h0, h1⟩, h2⟩, h3⟩ := h
  have h1' : ∀ s ∈ s1, s.1.length ≤ L := fun s hs => of_decide_eq_true (List.all_eq_true.mp h1 s hs)
  have h2' : ∀ s ∈ s2, s.1.length ≤ L := fun s hs => of_decide_eq_true (List.all_eq_true.mp h2 s hs)
  have all : ∀ k m, m.length = k → Al s1 s2 m ∧ tl L (bodyF s1 m) ∈ kn := by
    intro k
    induction k with
    | zero =>
      intro m hm
      have : m = [] := List.length_eq_zero_iff.mp hm
      subst this
      refine ⟨rfl, ?_⟩
      show tl L [] ∈ kn
      rw [tl_nil]
      exact of_decide_eq_true h0
    | succ k ih =>
      intro m hm
      rcases List.eq_nil_or_concat m with z | ⟨v, b, z⟩
      · rw [z] at hm; cases hm
      · rw [List.concat_eq_append] at z
        subst z
        obtain ⟨a1, a2⟩ := ih v (by rw [List.length_append] at hm; simpa using hm)
        obtain ⟨x1, x2, i1, i2, l1, l2, hiff, htl⟩ := al_ins o1 o2 h1' h2' a1 rfl b
        have e1 : itP s1 40 (tl L (bodyF s1 v) ++ [b]) = tl L (bodyF s1 v) ++ [b] ++ x1 := by rw [i1.itP, List.take_of_length_le (by omega)]
        have e2 : itP s2 40 (tl L (bodyF s1 v) ++ [b]) = tl L (bodyF s1 v) ++ [b] ++ x2 := by rw [i2.itP, List.take_of_length_le (by omega)]
        have h4 := List.all_eq_true.mp (List.all_eq_true.mp h3 _ a2) b (by cases b <;> decide)
        rw [e1, e2, Bool.and_eq_true] at h4
        obtain ⟨h5, h6⟩ := h4
        exact ⟨hiff.mpr (List.append_cancel_left (of_decide_eq_true h5)), by rw [← htl]; exact of_decide_eq_true h6⟩
  exact fun m => (all m.length m rfl).1
def parSB (s1 s2 : List Stf) (m : List Bool) : Bool := !decide (bodyF s1 m = bodyF s2 m) && (List.range (m.length + 1)).all fun n => (wdsP n).all fun v => decide (sl m ≤ sl v) || decide (bodyF s1 v = bodyF s2 v)
theorem sl_le {a b : List Bool} (h : sl a < sl b) : a.length ≤ b.length := by
  unfold sl at h
  rw [num_cons, num_cons, if_pos rfl, if_pos rfl] at h
  have hb := num_lt b
  rcases Nat.lt_or_ge b.length a.length with c | c
  · have : 2 ^ (b.length + 1) ≤ 2 ^ a.length := Nat.pow_le_pow_right (by decide) c
    rw [Nat.pow_succ] at this
    omega
  · exact c
theorem parS_dec {s1 s2 : List Stf} {m : List Bool} (h : parSB s1 s2 m = true) : PartR s1 s2 (some m) := by
  unfold parSB at h
  obtain ⟨h1, h2⟩ := Bool.and_eq_true_iff.mp h
  refine ⟨fun z => ?_, fun v hv => ?_⟩
  · rw [decide_eq_true (show bodyF s1 m = bodyF s2 m from z)] at h1
    cases h1
  · have h3 := List.all_eq_true.mp (List.all_eq_true.mp h2 v.length (List.mem_range.mpr (by have := sl_le hv; omega))) v (List.mem_of_getElem? (wdsP_at v))
    rcases Bool.or_eq_true_iff.mp h3 with z | z
    · exact absurd (of_decide_eq_true z) (by omega)
    · exact (show bodyF s1 v = bodyF s2 v from of_decide_eq_true z)
def parB (s1 s2 : List Stf) (o : Option (List Bool)) : Bool := o.elim (parNB s1 s2 4) (parSB s1 s2)
theorem par_dec {s1 s2 : List Stf} (o1 : OkN 39 s1) (o2 : OkN 39 s2) {o : Option (List Bool)} (h : parB s1 s2 o = true) : PartR s1 s2 o := by
  unfold parB at h
  cases o with
  | none =>
    rw [Option.elim_none] at h
    exact parN_dec o1 o2 h
  | some m =>
    rw [Option.elim_some] at h
    exact parS_dec h
theorem PartR.congr {s1 s2 t1 t2 : List Stf} (e1 : ∀ m, bodyF s1 m = bodyF t1 m) (e2 : ∀ m, bodyF s2 m = bodyF t2 m) : ∀ {o : Option (List Bool)}, PartR s1 s2 o → PartR t1 t2 o
  | none, h => fun m => by have := h m; unfold Al at this ⊢; rw [← e1, ← e2]; exact this
  | some m, h => ⟨fun z => h.1 (by unfold Al at z ⊢; rw [e1, e2]; exact z), fun v hv => by have := h.2 v hv; unfold Al at this ⊢; rw [← e1, ← e2]; exact this⟩
end U

set_option maxRecDepth 100000
set_option maxHeartbeats 4000000
set_option pp.maxSteps 400
namespace U
open PySem PySem.Spec PyProof.Rows
open L2 hiding Fun CX0 E0 pass0 Fun.binds
open C8 Lx SX StX
/-! lines cut at the flag -/
theorem sub_W (l : List Bool) (i j : Nat) : Builtin.Str.strSub (W l) i j = W ((l.drop i).take (j - i)) := by
  refine TL.ext_tl ?_
  show (Builtin.Str.strSub (W l) i j).cps.toList = _
  rw [StrLaws.strSub_toList, W_tl]
  show _ = ((l.drop i).take (j - i)).map bt
  rw [List.map_take, List.map_drop]
theorem part_W (l f : List Bool) : Txt.partition (W l) (W f) = match posM l f with
    | none => (W l, ("" : Str), ("" : Str))
    | some i => (W (l.take i), W f, W (l.drop (i + f.length))) := by
  have e0 : Str.empty = ("" : Str) := by decide +kernel
  rcases partition_whole (W l) (W f) with ⟨e, h⟩ | ⟨i, e, h1, h2⟩
  · have hp : posM l f = none := posM_none.mpr fun i hi z => h i (at_W.mpr ⟨hi, z⟩)
    rw [hp, e, e0]
  · obtain ⟨h3, h4⟩ := at_W.mp h1
    have hp : posM l f = some i := posM_some.mpr ⟨h3, h4, fun k hk z => h2 k hk (at_W.mpr ⟨by omega, z⟩)⟩
    have e2 : (l.drop (i + f.length)).take (l.length - (i + f.length)) = l.drop (i + f.length) := List.take_of_length_le (by rw [List.length_drop]; omega)
    rw [hp, e, sub_W, sub_W, W_len, W_len, e2, List.drop_zero, Nat.sub_zero]
/-- what is read of a part: the reason and the data -/
def rdM (ss : List Stf) (p s : List Bool) (part : List Bool) : Str × Option (List Bool) := match takM ss part with
  | none => ("put", none)
  | some m => if goodM p s m then ("good", some (m.take (m.length - s.length))) else ("check", none)
def rcM (f : List Bool) (ss : List Stf) (p s : List Bool) (raw : List Bool) : Str × Option (List Bool) := match posM raw f with
  | none => ("open", none)
  | some i => rdM ss p s (raw.take i)
theorem takL_le {ss : List Stf} : ∀ {r p m x : List Bool}, takL ss p r m = some x → x.length ≤ m.length + r.length
  | [], p, m, x, h => by
    unfold takL at h
    split at h
    · rw [← Option.some.inj h]; exact Nat.le_refl _
    · cases h
  | b :: r, p, m, x, h => by
    unfold takL at h
    split at h
    · have := takL_le h
      rw [List.length_append] at this
      simp only [List.length_cons, List.length_nil] at this ⊢
      omega
    · split at h
      · have := takL_le h
        rw [List.length_cons]
        omega
      · cases h
theorem takM_le {ss : List Stf} {l m : List Bool} (h : takM ss l = some m) : m.length ≤ l.length := by
  have := takL_le h
  simpa using this
/-- what is sent by a clean rule is received -/
theorem rc_send {f p s d l : List Bool} {ss : List Stf} (h0 : ∀ s ∈ ss, s.1 ≠ []) (hl : s.length + 1 = p.length) (hB : Body ss (d ++ bitsM p s d) l) (hc : ¬ SpL f l) : rcM f ss p s (l ++ f) = (("good" : Str), some d) := by
  have hp := posM_sp.mpr hc
  have ht := (takM_iff (put_nil h0)).mpr hB
  unfold rcM
  rw [hp]
  show rdM ss p s ((l ++ f).take l.length) = _
  rw [List.take_left]
  unfold rdM
  rw [ht]
  show (if goodM p s (d ++ bitsM p s d) = true then _ else _) = _
  rw [if_pos (goodM_bits hl d), List.length_append, bitsM_len hl, Nat.add_sub_cancel, List.take_left]
/-- the flag is no beginning of a body: some pattern stands in it with the other bit behind -/
theorem needs {f : List Bool} {ss : List Stf} (o : OkN 39 ss) (h0 : putM ss [] = none) (hs : SufFree ss) (hf : f ≠ []) (hc : ∀ m, ¬ SpL f (bodyF ss m)) : ∃ s ∈ ss, infx (s.1 ++ [!s.2]) f = true := by
  refine Classical.byContradiction fun hn => ?_
  have key : ∀ k, k ≤ f.length → ∃ m x, Ins ss (f.take k) x ∧ bodyF ss m = f.take k ++ x := by
    intro k
    induction k with
    | zero => exact fun _ => ⟨[], [], by rw [List.take_zero]; exact .stop h0, rfl⟩
    | succ k ih =>
      intro hk
      obtain ⟨m, x, hx, hb⟩ := ih (by omega)
      have hkl : k < f.length := by omega
      have et : f.take (k + 1) = f.take k ++ [f[k]] := by rw [List.take_add_one, List.getElem?_eq_getElem hkl]; rfl
      cases hx with
      | stop hp =>
        rw [List.append_nil] at hb
        obtain ⟨y, hy, ly, eb⟩ := ins40 o m f[k]
        rw [hb, ← et] at hy eb
        exact ⟨m ++ [f[k]], y, hy, eb⟩
      | @more _ x b hp hx =>
        obtain ⟨q, hq, hqs⟩ := (put_iff hs).mp hp
        have e : f[k] = b := by
          cases e : (f[k] == b) with
          | true => exact eq_of_beq e
          | false =>
            refine absurd ⟨(q, b), hq, ?_⟩ hn
            have ne : f[k] = !b := by
              have : f[k] ≠ b := fun z => by rw [z] at e; simp at e
              revert this
              cases f[k] <;> cases b <;> simp
            obtain ⟨r, hr⟩ := hqs
            refine infx_iff.mpr ⟨r.length, ?_, ?_⟩
            · have := congrArg List.length hr
              rw [List.length_append, List.length_take] at this
              omega
            · have ef : f = r ++ (q ++ [!b] ++ f.drop (k + 1)) := by
                rw [← ne]
                conv => lhs; rw [← List.take_append_drop (k + 1) f, et, ← hr]
                simp
              rw [ef, List.drop_left]
              exact List.prefix_append _ _
        refine ⟨m, x, ?_, ?_⟩
        · rw [et, e]; exact hx
        · rw [hb, et, e, List.append_assoc]; rfl
  obtain ⟨m, x, hx, hb⟩ := key f.length (Nat.le_refl _)
  rw [List.take_length] at hb
  refine hc m ⟨0, ?_, ?_⟩
  · rw [hb, List.length_append]
    have := List.length_pos_iff.mpr hf
    omega
  · rw [hb, List.drop_zero, List.append_assoc]
    exact List.prefix_append _ _
/-- the parts that end with a flag, and the rest -/
def cutF (f : List Bool) : Nat → List Bool → List (List Bool) × List Bool
  | 0, r => ([], r)
  | n + 1, r => match posM r f with
    | none => ([], r)
    | some i => (r.take i :: (cutF f n (r.drop (i + f.length))).1, (cutF f n (r.drop (i + f.length))).2)
def frM (f : List Bool) (ss : List Stf) (p s raw : List Bool) : List (Str × Option (List Bool)) := ((cutF f raw.length raw).1.filter (· ≠ [])).map (rdM ss p s)
theorem posM_lt {r f : List Bool} {i : Nat} (hf : f ≠ []) (h : posM r f = some i) : i + f.length ≤ r.length ∧ 0 < f.length := by
  obtain ⟨h1, h2, _⟩ := posM_some.mp h
  have := h2.length_le
  rw [List.length_drop] at this
  have h0 : 0 < f.length := List.length_pos_iff.mpr hf
  exact ⟨by omega, h0⟩
end U

set_option maxRecDepth 100000
set_option maxHeartbeats 4000000
set_option pp.maxSteps 400
namespace U
open PySem PySem.Spec PyProof.Rows
open L2 hiding Fun CX0 E0 pass0 Fun.binds
open C8 Lx SX StX
theorem empty_W (l : List Bool) : decide (V.str (W l) = V.str "") = decide (l = []) := by
  rw [decide_eq_decide]
  exact ⟨fun z => by rw [W_nil] at z; exact W_inj (V.str.inj z), fun z => by rw [z, W_nil]⟩
def spSend (C CK : Addr) : Sp := fun vs H Q _ => ∃ (a c : Addr) (f : List Bool) (ss : List Stf) (p s d : List Bool), vs = [.ref a, .ref c, .str (W d)] ∧ RuAt C H a f ss ∧ CkAt CK H c p s ∧ p.length ≤ 100 ∧ s.length + 1 = p.length ∧ d.length ≤ 800 ∧ f.length ≤ 1000 ∧ OkN 39 ss ∧
  ∀ l H', Body ss (d ++ bitsM p s d) l → l.length ≤ 40 * (d.length + s.length) → Same H H' → Q (.str (W (l ++ f))) H'
def spReadP (C CK : Addr) : Sp := fun vs H Q _ => ∃ (a c : Addr) (f : List Bool) (ss : List Stf) (p s l : List Bool), vs = [.ref a, .ref c, .str (W l)] ∧ RuAt C H a f ss ∧ CkAt CK H c p s ∧ p.length ≤ 1000 ∧ s.length + 1 = p.length ∧ l.length ≤ 10000 ∧
  ∀ t H', H t = none → Same H H' → H' t = some (.tup [.str (rdM ss p s l).1, oW (rdM ss p s l).2]) → Q (.ref t) H'
def spReceive (C CK : Addr) : Sp := fun vs H Q _ => ∃ (a c : Addr) (f : List Bool) (ss : List Stf) (p s l : List Bool), vs = [.ref a, .ref c, .str (W l)] ∧ RuAt C H a f ss ∧ CkAt CK H c p s ∧ p.length ≤ 1000 ∧ s.length + 1 = p.length ∧ l.length ≤ 50000 ∧ f ≠ [] ∧ (∀ i, posM l f = some i → i ≤ 10000) ∧
  ∀ t H', H t = none → Same H H' → H' t = some (.tup [.str (rcM f ss p s l).1, oW (rcM f ss p s l).2]) → Q (.ref t) H'
section
variable {P : Program} {w : World} {K : PySem.W.Frag} {mg : Str → Option Value} {base : Heap}
theorem sc_send : FnScope ["rule", "check", "data"] ["rule", "check", "data"] (fnScope s_send) := fnScope_by (by decide +kernel)
theorem fnk_send {f C CK : Addr} {fd : FuncData} (F : Def K mg "send" s_send f fd) (b : Binds K fd ["rule", "check", "data"] []) (T : Tx mg) (RT : RuT K C) (c_body : Cal P w K mg base 4 "body" (spBody C) []) (c_bits_for : Met P w K mg base 3 CK "bits_for" (spBitsFor CK) []) : FnOk P w K mg base CX0 5 f fd ["rule", "check", "data"] (spSend C CK) := by
  refine fn0 F.fn sc_send (fun vs H Q E h => ?_) (fun cdv A outer s H vs Q E hr h => ?_)
  · obtain ⟨_, _, _, _, _, _, _, rfl, _⟩ := h; rfl
  · obtain ⟨a, c, fl, ss, p, st, d, rfl, hR, hC, lp, ls, ld, lf, hO, k⟩ := h
    refine ⟨_, (pss_one (ps_ret (pe_op op_add_str (pe_c c_body hr (by decide) rfl (pa_cons (pv 0) (pa_cons (pe_op op_add_str (pv 2) (pe_mt (pl := _) c_bits_for hr (by decide) (pv 1) (pa_cons (pv 2) pa_nil))) pa_nil))) (pe_fld (pv 0) rfl)))), ?_⟩
    obtain ⟨dx, hc⟩ := id hC
    have lb := bitsM_len ls d
    refine ⟨_, rfl, _, rfl, _, rfl, c, dx, _, rfl, hc, ckF_no _ _ (by decide +kernel) (by decide +kernel), _, rfl, c, p, st, d, rfl, hC, by omega, by omega, ls, fun H1 s1 => ?_⟩
    refine ⟨_, _, rfl, rfl, by rw [W_len, W_len]; exact sl_len (by omega), ?_⟩
    rw [W_cat]
    have le : (d ++ bitsM p st d).length = d.length + st.length := by rw [List.length_append, lb]
    refine ⟨a, fl, ss, _, rfl, hR.same s1, by omega, hO, fun l H2 hB hl s2 => ?_⟩
    rw [le] at hl
    have s12 := s1.trans s2
    obtain ⟨da, ta, _, _, ha, _⟩ := hR.same s12
    refine ⟨_, rfl, a, C, da, _, _, rfl, ha, RT.cl, RT.nF, ruF_flag _ _, _, _, rfl, rfl, by rw [W_len, W_len]; exact sl_len (by omega), ?_⟩
    rw [W_cat]
    exact k l H2 hB hl s12
theorem cal_send {f C CK : Addr} {fd : FuncData} (F : Def K mg "send" s_send f fd) (b : Binds K fd ["rule", "check", "data"] []) (T : Tx mg) (RT : RuT K C) (c_body : Cal P w K mg base 4 "body" (spBody C) []) (c_bits_for : Met P w K mg base 3 CK "bits_for" (spBitsFor CK) []) : Cal P w K mg base 5 "send" (spSend C CK) [] :=
  ⟨f, fd, _, [], fnk_send F b T RT c_body c_bits_for, F.mgf, F.kp, b, .nil⟩
theorem sc_read_part : FnScope ["rule", "check", "part", "message"] ["rule", "check", "part"] (fnScope s_read_part) := fnScope_by (by decide +kernel)
theorem cal_read_part {f C CK : Addr} {fd : FuncData} (F : Def K mg "read_part" s_read_part f fd) (b : Binds K fd ["rule", "check", "part"] []) (T : Tx mg) (c_taken_out : Cal P w K mg base 3 "taken_out" (spTaken C) []) (c_is_good : Met P w K mg base 3 CK "is_good" (spIsGood CK) []) (p_degree : Prp P w K mg base 1 CK "degree" (spDegree CK)) : Cal P w K mg base 4 "read_part" (spReadP C CK) [] := by
  refine cal0 F b .nil sc_read_part (fun vs H Q E h => ?_) (fun cdv A outer s H vs Q E hr h => ?_)
  · obtain ⟨_, _, _, _, _, _, _, rfl, _⟩ := h; rfl
  · obtain ⟨a, c, fl, ss, p, st, l, rfl, hR, hC, lp, ls, ll, k⟩ := h
    refine ⟨_, (pss_cons (ps_set (i := 3) sc_read_part.nd rfl (.inl rfl) (pe_c c_taken_out hr (by decide) rfl (pa_cons (pv 0) (pa_cons (pv 2) pa_nil))))
    (pss_cons (ps_if (pt_cmpR op_isN (pv 3) pe_non (nomark _)) (pss_one (ps_ret (pe_tup (pa_cons pe_str (pa_cons pe_non pa_nil))))) pss_nil)
    (pss_cons (ps_if (pt_not (pt_val (pe_mt (pl := _) c_is_good hr (by decide) (pv 1) (pa_cons (pv 3) pa_nil)))) (pss_one (ps_ret (pe_tup (pa_cons pe_str (pa_cons pe_non pa_nil))))) pss_nil)
    (pss_one (ps_ret (pe_tup (pa_cons pe_str (pa_cons (pe_slice sl_txt (pv 3) po_none (po_some (pe_op op_sub (pe_callB call_len_str (by rfl) T.b_len (by decide +kernel) (pa_cons (pv 3) pa_nil)) (pe_pr p_degree hr (by decide) (pv 1))))) pa_nil)))))))), ?_⟩
    refine ⟨_, rfl, _, rfl, a, fl, ss, l, rfl, hR, by omega, fun H1 s1 => ?_⟩
    refine ⟨_, rfl, rfl, _, rfl, ?_⟩
    rw [oW_non]
    unfold rdM at k
    cases e : takM ss l with
    | none =>
      rw [e] at k
      exact iteT ⟨by show 2 ≤ sizeLine; decide, fun t nt => k t _ (s1.free nt) (s1.trans (same_upd nt)) upd_same⟩
    | some m =>
      rw [e] at k
      have lm := takM_le e
      have hC1 := hC.same s1
      obtain ⟨dx, hc⟩ := id hC1
      refine iteF ?_
      refine ⟨_, rfl, c, dx, _, rfl, hc, ckF_no _ _ (by decide +kernel) (by decide +kernel), _, rfl, c, p, st, m, rfl, hC1, lp, by omega, ls, fun H2 s2 => ⟨_, rfl, ?_⟩⟩
      have s12 := s1.trans s2
      dsimp only at k
      cases eg : goodM p st m with
      | false =>
        rw [eg] at k
        exact iteT ⟨by show 2 ≤ sizeLine; decide, fun t nt => k t _ (s12.free nt) (s12.trans (same_upd nt)) upd_same⟩
      | true =>
        rw [eg] at k
        have hC2 := hC.same s12
        obtain ⟨dx, hc⟩ := id hC2
        have g := ((goodM_iff ls).mp eg).1
        have lw : (W m).length ≤ sizeLine := by rw [W_len]; exact sl_len (by omega)
        refine iteF ?_
        refine ⟨_, rfl, _, rfl, _, rfl, lw, _, rfl, c, dx, _, rfl, hc, c, p, st, rfl, hC2, lp, ls, _, _, rfl, rfl, _, rfl, _, rfl, lw, ?_⟩
        rw [W_take (by rw [W_len]; omega), W_len, show (((m.length : Nat) : Int) - ((st.length : Nat) : Int)).toNat = m.length - st.length by omega]
        refine ⟨by show 2 ≤ sizeLine; decide, fun t nt => k t _ (s12.free nt) (s12.trans (same_upd nt)) upd_same⟩
theorem sc_receive : FnScope ["rule", "check", "raw", "part", "flag", "rest"] ["rule", "check", "raw"] (fnScope s_receive) := fnScope_by (by decide +kernel)
theorem fnk_receive {f C CK : Addr} {fd : FuncData} (F : Def K mg "receive" s_receive f fd) (b : Binds K fd ["rule", "check", "raw"] []) (T : Tx mg) (RT : RuT K C) (c_read_part : Cal P w K mg base 4 "read_part" (spReadP C CK) []) : FnOk P w K mg base CX0 5 f fd ["rule", "check", "raw"] (spReceive C CK) := by
  refine fn0 F.fn sc_receive (fun vs H Q E h => ?_) (fun cdv A outer s H vs Q E hr h => ?_)
  · obtain ⟨_, _, _, _, _, _, _, rfl, _⟩ := h; rfl
  · obtain ⟨a, c, fl, ss, p, st, l, rfl, hR, hC, lp, ls, ll, hf, hi, k⟩ := h
    refine ⟨_, (pss_cons (ps_asg (pe_partition (pv 2) (pe_fld (pv 0) rfl)) (pg_tup rfl (pgs_cons (pg_name (i := 3) sc_receive.nd rfl (.inl rfl)) (pgs_cons (pg_name (i := 4) sc_receive.nd rfl (.inl rfl)) (pgs_cons (pg_name (i := 5) sc_receive.nd rfl (.inl rfl)) pgs_nil)))))
    (pss_one (ps_ret (pe_ifExp (pt_cmpR op_eq (pv 4) pe_str (nomark _)) (pe_tup (pa_cons pe_str (pa_cons pe_non pa_nil))) (pe_c c_read_part hr (by decide) rfl (pa_cons (pv 0) (pa_cons (pv 1) (pa_cons (pv 3) pa_nil)))))))), ?_⟩
    obtain ⟨da, ta, _, _, ha, _⟩ := id hR
    have nz : ((W fl).length == 0) = false := by
      rw [W_len]
      have := List.length_pos_iff.mpr hf
      exact beq_false_of_ne (by omega)
    refine ⟨_, rfl, ⟨_, rfl⟩, _, rfl, a, C, da, _, _, rfl, ha, RT.cl, RT.nF, ruF_flag _ _, _, _, rfl, rfl, nz, by rw [W_len]; exact sl_len (by omega), fun t nt => ?_⟩
    have s1 : Same H _ := same_upd (o := .tup [.str (Txt.partition (W l) (W fl)).1, .str (Txt.partition (W l) (W fl)).2.1, .str (Txt.partition (W l) (W fl)).2.2]) nt
    refine ⟨t, _, rfl, SqT.of upd_same, rfl, _, _, rfl, _, _, rfl, _, _, rfl, rfl, ?_⟩
    generalize upd H t _ = H1 at s1
    rw [part_W]
    unfold rcM at k
    cases e : posM l fl with
    | none =>
      rw [e] at k
      refine ⟨_, rfl, rfl, _, rfl, iteDT rfl ⟨by show 2 ≤ sizeLine; decide, fun t nt => k t _ (s1.free nt) (s1.trans (same_upd nt)) upd_same⟩⟩
    | some i =>
      rw [e] at k
      dsimp only at k ⊢
      refine ⟨_, rfl, rfl, _, rfl, ?_⟩
      rw [empty_W]
      refine iteDF hf ?_
      have li := hi i e
      refine ⟨_, rfl, _, rfl, _, rfl, a, c, fl, ss, p, st, l.take i, rfl, hR.same s1, hC.same s1, lp, ls, by rw [List.length_take]; omega, fun t2 H2 nt2 s2 h2 => ?_⟩
      exact k t2 H2 (s1.free nt2) (s1.trans s2) h2
theorem cal_receive {f C CK : Addr} {fd : FuncData} (F : Def K mg "receive" s_receive f fd) (b : Binds K fd ["rule", "check", "raw"] []) (T : Tx mg) (RT : RuT K C) (c_read_part : Cal P w K mg base 4 "read_part" (spReadP C CK) []) : Cal P w K mg base 5 "receive" (spReceive C CK) [] :=
  ⟨f, fd, _, [], fnk_receive F b T RT c_read_part, F.mgf, F.kp, b, .nil⟩
end
end U

set_option maxRecDepth 100000
set_option maxHeartbeats 4000000
set_option pp.maxSteps 400
namespace U
open PySem PySem.Spec PyProof.Rows
open L2 hiding Fun CX0 E0 pass0 Fun.binds
open C8 Lx SX StX
abbrev Rd2 := Str × Option (List Bool)
/-- pairs of a reason and data -/
def FrT (H : Hp) (kb : Addr → Rd2) (ps : List Addr) : Prop := ∀ t ∈ ps, H t = some (.tup [.str (kb t).1, oW (kb t).2])
theorem FrT.same {H H' : Hp} {kb : Addr → Rd2} {ps : List Addr} (h : FrT H kb ps) (e : Same H H') : FrT H' kb ps := fun t ht => e _ _ (h t ht)
def FrL (H : Hp) (q : Addr) (rs : List Rd2) : Prop := ∃ (ps : List Addr) (kb : Addr → Rd2), H q = some (.lst (ps.map V.ref)) ∧ FrT H kb ps ∧ rs = ps.map kb
def FrU (H : Hp) (q : Addr) (rs : List Rd2) : Prop := ∃ (ps : List Addr) (kb : Addr → Rd2), H q = some (.tup (ps.map V.ref)) ∧ FrT H kb ps ∧ rs = ps.map kb
theorem FrL.same {H H' : Hp} {q : Addr} {rs : List Rd2} (h : FrL H q rs) (s : Same H H') : FrL H' q rs := by
  obtain ⟨ps, kb, h1, h2, h3⟩ := h
  exact ⟨ps, kb, s _ _ h1, h2.same s, h3⟩
theorem FrU.same {H H' : Hp} {q : Addr} {rs : List Rd2} (h : FrU H q rs) (s : Same H H') : FrU H' q rs := by
  obtain ⟨ps, kb, h1, h2, h3⟩ := h
  exact ⟨ps, kb, s _ _ h1, h2.same s, h3⟩
theorem fr_push {H : Hp} {q z : Addr} {p : Rd2} {ps : List Addr} {kb : Addr → Rd2} (hq : H q = some (.lst (ps.map V.ref))) (hT : FrT H kb ps) (hz : H z = some (.tup [.str p.1, oW p.2])) (hn : z ∉ ps) :
    FrL (upd H q (.lst (ps.map V.ref ++ [.ref z]))) q (ps.map kb ++ [p]) := by
  refine ⟨ps ++ [z], fun y => if y = z then p else kb y, by rw [upd_same, List.map_append]; rfl, fun y hy => ?_, ?_⟩
  · dsimp only
    rcases List.mem_append.mp hy with h1 | h1
    · have ne : y ≠ z := fun e => hn (by rw [← e]; exact h1)
      rw [if_neg ne, upd_ne (ne_of (hT y h1) hq (by intro z; cases z))]
      exact hT y h1
    · rw [List.mem_singleton.mp h1, if_pos rfl, upd_ne (ne_of hz hq (by intro z; cases z))]
      exact hz
  · rw [List.map_append]
    congr 1
    · exact List.map_congr_left fun y hy => (if_neg fun e => hn (by rw [← e]; exact hy)).symm
    · show [p] = [if z = z then p else kb z]
      rw [if_pos rfl]
def spCutUp (C CK : Addr) : Sp := fun vs H Q _ => ∃ (a c : Addr) (f : List Bool) (ss : List Stf) (p s l : List Bool), vs = [.ref a, .ref c, .str (W l)] ∧ RuAt C H a f ss ∧ CkAt CK H c p s ∧ p.length ≤ 1000 ∧ s.length + 1 = p.length ∧ l.length ≤ 10000 ∧ f ≠ [] ∧
  ∀ t q H', H t = none → Same H H' → H' t = some (.tup [.ref q, .str (W (cutF f l.length l).2)]) → FrU H' q (frM f ss p s l) → Q (.ref t) H'
def spFrames (C CK : Addr) : Sp := fun vs H Q _ => ∃ (a c : Addr) (f : List Bool) (ss : List Stf) (p s l : List Bool), vs = [.ref a, .ref c, .str (W l)] ∧ RuAt C H a f ss ∧ CkAt CK H c p s ∧ p.length ≤ 1000 ∧ s.length + 1 = p.length ∧ l.length ≤ 10000 ∧ f ≠ [] ∧
  ∀ q H', Same H H' → FrU H' q (frM f ss p s l) → Q (.ref q) H'
theorem cutF_none {f r : List Bool} (h : posM r f = none) : ∀ n, cutF f n r = ([], r)
  | 0 => rfl
  | n + 1 => by unfold cutF; rw [h]
theorem cutF_some {f r : List Bool} {i : Nat} (h : posM r f = some i) (n : Nat) : cutF f (n + 1) r = (r.take i :: (cutF f n (r.drop (i + f.length))).1, (cutF f n (r.drop (i + f.length))).2) := by
  conv => lhs; unfold cutF
  rw [h]
section
variable {P : Program} {w : World} {K : PySem.W.Frag} {mg : Str → Option Value} {base : Heap}
theorem sc_cut_up : FnScope ["rule", "check", "raw", "found", "part", "flag", "rest"] ["rule", "check", "raw"] (fnScope s_cut_up) := fnScope_by (by decide +kernel)
theorem cal_cut_up {f C CK : Addr} {fd : FuncData} (F : Def K mg "cut_up" s_cut_up f fd) (b : Binds K fd ["rule", "check", "raw"] []) (T : Tx mg) (RT : RuT K C) (c_read_part : Cal P w K mg base 4 "read_part" (spReadP C CK) []) : Cal P w K mg base 5 "cut_up" (spCutUp C CK) [] := by
  refine cal0 F b .nil sc_cut_up (fun vs H Q E h => ?_) (fun cdv A outer s H vs Q E hr h => ?_)
  · obtain ⟨_, _, _, _, _, _, _, rfl, _⟩ := h; rfl
  · obtain ⟨a, c, fl, ss, p, st, l, rfl, hR, hC, lp, ls, ll, hf, k⟩ := h
    refine ⟨_, (pss_cons (ps_set (i := 3) sc_cut_up.nd rfl (.inl rfl) (pe_lst pa_nil))
    (pss_cons (ps_asg (pe_partition (pv 2) (pe_fld (pv 0) rfl)) (pg_tup rfl (pgs_cons (pg_name (i := 4) sc_cut_up.nd rfl (.inl rfl)) (pgs_cons (pg_name (i := 5) sc_cut_up.nd rfl (.inl rfl)) (pgs_cons (pg_name (i := 6) sc_cut_up.nd rfl (.inl rfl)) pgs_nil)))))
    (pss_cons (ps_while PassesOwn.never (pt_cmpR op_ne (pv 5) pe_str (nomark _))
    (pss_cut (ps_if (pt_cmpR op_ne (pv 4) pe_str (nomark _)) (pss_one (ps_expr (pe_bm PySem.F.plainAttrs_list PySem.F.slot_list_append PySem.F.type_list_append mt_append (pv 3) (pa_cons (pe_c c_read_part hr (by decide) rfl (pa_cons (pv 0) (pa_cons (pv 1) (pa_cons (pv 4) pa_nil)))) pa_nil)))) pss_nil)
    (pss_one (ps_asg (pe_partition (pv 6) (pe_fld (pv 0) rfl)) (pg_tup rfl (pgs_cons (pg_name (i := 4) sc_cut_up.nd rfl (.inl rfl)) (pgs_cons (pg_name (i := 5) sc_cut_up.nd rfl (.inl rfl)) (pgs_cons (pg_name (i := 6) sc_cut_up.nd rfl (.inl rfl)) pgs_nil))))))))
    (pss_one (ps_ret (pe_tup (pa_cons (pe_callTy call_tuple_of (by rfl) T.b_tuple (by decide +kernel) (pa_cons (pv 3) pa_nil)) (pa_cons (pv 4) pa_nil)))))))), ?_⟩
    refine ⟨Nat.zero_le _, fun F0 nF => ?_⟩
    have sF := same_upd (o := .lst []) nF
    have hF0 : FrL (upd H F0 (.lst [])) F0 [] := ⟨[], fun _ => ("", none), upd_same, (fun _ h => nomatch h), rfl⟩
    generalize upd H F0 (.lst []) = H1 at sF hF0
    have nz : ((W fl).length == 0) = false := by
      rw [W_len]
      have := List.length_pos_iff.mpr hf
      exact beq_false_of_ne (by omega)
    obtain ⟨da, ta, _, _, ha, _⟩ := hR.same sF
    refine ⟨_, rfl, ⟨_, rfl⟩, _, rfl, a, C, da, _, _, rfl, ha, RT.cl, RT.nF, ruF_flag _ _, _, _, rfl, rfl, nz, by rw [W_len]; exact sl_len (by omega), fun t nt => ?_⟩
    have s2 : Same H1 _ := same_upd (o := .tup [.str (Txt.partition (W l) (W fl)).1, .str (Txt.partition (W l) (W fl)).2.1, .str (Txt.partition (W l) (W fl)).2.2]) nt
    refine ⟨t, _, rfl, SqT.of upd_same, rfl, _, _, rfl, _, _, rfl, _, _, rfl, rfl, ?_⟩
    have hF2 := hF0.same s2
    have sS := sF.trans s2
    generalize upd H1 t _ = H2 at s2 hF2 sS
    refine ⟨fun n σ H3 => ∃ (r : List Bool) (ds : List (List Bool)), σ = [some (.ref a), some (.ref c), some (.str (W l)), some (.ref F0), some (.str (Txt.partition (W r) (W fl)).1), some (.str (Txt.partition (W r) (W fl)).2.1), some (.str (Txt.partition (W r) (W fl)).2.2)] ∧ Same H H3 ∧ r.length ≤ n ∧ n ≤ l.length ∧ ds.length + n ≤ l.length ∧ cutF fl l.length l = (ds ++ (cutF fl n r).1, (cutF fl n r).2) ∧ FrL H3 F0 ((ds.filter (· ≠ [])).map (rdM ss p st)),
      ⟨l.length, l, [], rfl, sS, Nat.le_refl _, Nat.le_refl _, by simp, rfl, hF2⟩, ?_⟩
    rintro n σ H3 ⟨r, ds, rfl, s3, lr, ln, lds, hcut, hF3⟩
    refine ⟨_, rfl, rfl, _, rfl, ?_⟩
    rw [part_W]
    cases e : posM r fl with
    | none =>
      refine iteBF (by rw [decide_eq_true rfl]; rfl) ?_
      obtain ⟨ps, kb, hq, hT, hrs⟩ := hF3
      rw [cutF_none e] at hcut
      refine ⟨_, rfl, F0, _, rfl, .inl ⟨SqL.of hq, fun u nu => ?_⟩⟩
      have su := same_upd (o := .tup (ps.map V.ref)) nu
      refine ⟨_, rfl, by show 2 ≤ sizeLine; decide, fun v nv => ?_⟩
      have sv := same_upd (o := .tup [.ref u, .str (W r)]) nv
      refine k v u _ ((s3.trans su).free nv) ((s3.trans su).trans sv) ?_ ?_
      · rw [upd_same, hcut]
      · refine ⟨ps, kb, sv _ _ upd_same, (hT.same su).same sv, ?_⟩
        unfold frM
        rw [hcut]
        show ((ds ++ []).filter _).map _ = _
        rw [List.append_nil]
        exact hrs
    | some i =>
      obtain ⟨hi, h0⟩ := posM_lt hf e
      obtain ⟨n', rfl⟩ : ∃ n', n = n' + 1 := ⟨n - 1, by omega⟩
      rw [cutF_some e] at hcut
      dsimp only
      refine iteBT (by rw [empty_W, decide_eq_false hf]; rfl) ?_
      refine ⟨fun σ' H' => ∃ m', m' < n' + 1 ∧ ∃ (r : List Bool) (ds : List (List Bool)), σ' = [some (.ref a), some (.ref c), some (.str (W l)), some (.ref F0), some (.str (Txt.partition (W r) (W fl)).1), some (.str (Txt.partition (W r) (W fl)).2.1), some (.str (Txt.partition (W r) (W fl)).2.2)] ∧ Same H H' ∧ r.length ≤ m' ∧ m' ≤ l.length ∧ ds.length + m' ≤ l.length ∧ cutF fl l.length l = (ds ++ (cutF fl m' r).1, (cutF fl m' r).2) ∧ FrL H' F0 ((ds.filter (· ≠ [])).map (rdM ss p st)), fun _ _ h => h, ?_⟩
      refine ⟨fun σ' H' => σ' = [some (.ref a), some (.ref c), some (.str (W l)), some (.ref F0), some (.str (W (r.take i))), some (.str (W fl)), some (.str (W (r.drop (i + fl.length))))] ∧ Same H H' ∧ FrL H' F0 (((ds ++ [r.take i]).filter (· ≠ [])).map (rdM ss p st)), ?_, ?_⟩
      · refine ⟨_, rfl, rfl, _, rfl, ?_⟩
        rw [empty_W]
        by_cases e0 : r.take i = []
        · refine iteBF (by rw [decide_eq_true e0]; rfl) ?_
          refine ⟨rfl, s3, ?_⟩
          rw [List.filter_append, List.filter_cons_of_neg (by rw [e0]; decide), List.filter_nil, List.append_nil]
          exact hF3
        · refine iteBT (by rw [decide_eq_false e0]; rfl) ?_
          obtain ⟨ps, kb, hq, hT, hrs⟩ := hF3
          refine ⟨_, rfl, .inl ⟨rfl, _, SqL.of hq⟩, _, rfl, _, rfl, _, rfl, a, c, fl, ss, p, st, r.take i, rfl, hR.same s3, hC.same s3, lp, ls, by rw [List.length_take]; omega, fun z H4 nz4 s4 hz => ?_⟩
          have hq4 := s4 _ _ hq
          have lps : ps.length ≤ ds.length := by
            have := congrArg List.length hrs
            rw [List.length_map, List.length_map] at this
            have := List.length_filter_le (fun x : List Bool => decide (x ≠ [])) ds
            omega
          refine ⟨F0, _, _, rfl, rfl, hq4, by rw [List.length_map]; exact sl_lt (by omega), ?_⟩
          refine ⟨rfl, same_mut' (s3.trans s4) nF, ?_⟩
          have := fr_push (p := rdM ss p st (r.take i)) hq4 (hT.same s4) hz (fun hm => by rw [hT z hm] at nz4; cases nz4)
          rw [List.filter_append, List.filter_cons_of_pos (by simpa using e0), List.filter_nil, List.map_append, hrs]
          exact this
      · rintro σ' H4 ⟨rfl, s4, hF4⟩
        obtain ⟨da, ta, _, _, ha, _⟩ := hR.same s4
        refine ⟨_, rfl, ⟨_, rfl⟩, _, rfl, a, C, da, _, _, rfl, ha, RT.cl, RT.nF, ruF_flag _ _, _, _, rfl, rfl, nz, by rw [W_len, List.length_drop]; exact sl_len (by omega), fun t nt => ?_⟩
        have s5 : Same H4 _ := same_upd (o := .tup [.str (Txt.partition (W (r.drop (i + fl.length))) (W fl)).1, .str (Txt.partition (W (r.drop (i + fl.length))) (W fl)).2.1, .str (Txt.partition (W (r.drop (i + fl.length))) (W fl)).2.2]) nt
        refine ⟨t, _, rfl, SqT.of upd_same, rfl, _, _, rfl, _, _, rfl, _, _, rfl, rfl, ?_⟩
        refine ⟨n', by omega, r.drop (i + fl.length), ds ++ [r.take i], rfl, s4.trans s5, by rw [List.length_drop]; omega, by omega, by rw [List.length_append]; show _ + 1 + _ ≤ _; omega, ?_, hF4.same s5⟩
        rw [hcut, List.append_assoc]
        rfl
theorem sc_frames : FnScope ["rule", "check", "raw"] ["rule", "check", "raw"] (fnScope s_frames) := fnScope_by (by decide +kernel)
theorem fnk_frames {f C CK : Addr} {fd : FuncData} (F : Def K mg "frames" s_frames f fd) (b : Binds K fd ["rule", "check", "raw"] []) (T : Tx mg) (c_cut_up : Cal P w K mg base 5 "cut_up" (spCutUp C CK) []) : FnOk P w K mg base CX0 6 f fd ["rule", "check", "raw"] (spFrames C CK) := by
  refine fn0 F.fn sc_frames (fun vs H Q E h => ?_) (fun cdv A outer s H vs Q E hr h => ?_)
  · obtain ⟨_, _, _, _, _, _, _, rfl, _⟩ := h; rfl
  · obtain ⟨a, c, fl, ss, p, st, l, rfl, hR, hC, lp, ls, ll, hf, k⟩ := h
    refine ⟨_, (pss_one (ps_ret (pe_ix ix_tup (pe_c c_cut_up hr (by decide) rfl (pa_cons (pv 0) (pa_cons (pv 1) (pa_cons (pv 2) pa_nil)))) pe_int (fun _ _ => rfl)))), ?_⟩
    refine ⟨_, rfl, _, rfl, _, rfl, a, c, fl, ss, p, st, l, rfl, hR, hC, lp, ls, ll, hf, fun t q H1 nt s1 ht hq => ?_⟩
    exact ⟨t, _, _, _, rfl, rfl, SqT.of ht, atI_nat (j := 0) rfl, k q H1 s1 hq⟩
theorem cal_frames {f C CK : Addr} {fd : FuncData} (F : Def K mg "frames" s_frames f fd) (b : Binds K fd ["rule", "check", "raw"] []) (T : Tx mg) (c_cut_up : Cal P w K mg base 5 "cut_up" (spCutUp C CK) []) : Cal P w K mg base 6 "frames" (spFrames C CK) [] :=
  ⟨f, fd, _, [], fnk_frames F b T c_cut_up, F.mgf, F.kp, b, .nil⟩
end
end U


set_option maxRecDepth 100000
set_option maxHeartbeats 4000000
namespace U
open PySem PySem.Spec PyProof.Rows
open L2 hiding Fun CX0 E0 pass0 Fun.binds
open C8 Lx SX StX
/-- a rule as the law tells it -/
def Told (H : Hp) (t : Addr) (f : List Bool) (ss : List Stf) : Prop := ∃ l ps kb, H t = some (.tup [.str (W f), .ref l]) ∧ H l = some (.lst (ps.map V.ref)) ∧ StV H kb ps ∧ ss = ps.map kb
theorem Told.same {H H' : Hp} {t : Addr} {f : List Bool} {ss : List Stf} (h : Told H t f ss) (e : Same H H') : Told H' t f ss := by
  obtain ⟨l, ps, kb, h1, h2, h3, h4⟩ := h
  exact ⟨l, ps, kb, e _ _ h1, e _ _ h2, h3.same e, h4⟩
theorem refs_ne {ps : List Addr} {i j : Int} : ps.map V.ref ≠ [.int i, .int j] := fun z => by
  cases ps with
  | nil => cases z
  | cons p r => cases (List.cons.inj z).1
theorem Box.neL {H : Hp} {b l : Addr} {ps : List Addr} (hb : Box H b) (h : H l = some (.lst (ps.map V.ref))) : l ≠ b := fun z => by
  obtain ⟨i, j, hb⟩ := hb
  rw [z, hb] at h
  exact refs_ne (HO.lst.inj (Option.some.inj h)).symm
theorem Told.up {b : Addr} {H H' : Hp} {t : Addr} {f : List Bool} {ss : List Stf} (hb : Box H b) (h : Told H t f ss) (e : Up b H H') : Told H' t f ss := by
  obtain ⟨l, ps, kb, h1, h2, h3, h4⟩ := h
  exact ⟨l, ps, kb, e.1 _ _ h1 (hb.neT h1), e.1 _ _ h2 (hb.neL h2), fun t ht => e.1 _ _ (h3 t ht) (hb.neT (h3 t ht)), h4⟩
theorem RuAt.up {C b : Addr} {H H' : Hp} {a : Addr} {f : List Bool} {ss : List Stf} (hb : Box H b) (h : RuAt C H a f ss) (e : Up b H H') : RuAt C H' a f ss := h.nl (e.nl hb)
def putL (ss : List Stf) (l : List Bool) : List Bool := match putM ss l with
  | none => []
  | some b => [b]
theorem putL_len (ss : List Stf) (l : List Bool) : (putL ss l).length ≤ 1 := by unfold putL; cases putM ss l <;> simp
theorem stP_eq (ss : List Stf) (l : List Bool) : stP ss l = l ++ putL ss l := by
  unfold stP putL
  cases putM ss l with
  | none => rw [List.append_nil]
  | some b => rfl
theorem putL_head {ss : List Stf} {l : List Bool} : putM ss l = ((ss.filter fun s => s.1.isSuffixOf l).map (·.2)).head? := by
  unfold putM
  rw [List.head?_map, List.head?_filter]
def dS (x : List Bool) : PyData := .str (W x)
theorem dp_strs {K : PySem.W.Frag} {H : Hp} : ∀ xs : List (List Bool), DpAll K H (xs.map fun x => V.str (W x)) (xs.map dS)
  | [] => .nil
  | x :: r => .cons (.str _) (dp_strs r)
theorem strOk_W (x : List Bool) : PyData.strOk (W x) = true := by
  unfold PyData.strOk
  simp only [W, S, List.all_toArray, List.all_map, List.all_eq_true]
  intro b _
  cases b <;> decide +kernel
/-- data that can be compared -/
def DOk (n : Nat) (d : PyData) : Prop := PyData.canLay0 d = true ∧ PyData.depth d ≤ n
theorem dok_str (x : List Bool) : DOk 0 (.str (W x)) := ⟨strOk_W x, Nat.le_refl _⟩
theorem dok_all {n : Nat} : ∀ {ds : List PyData}, (∀ d ∈ ds, DOk n d) → PyData.canLayAll0 ds = true ∧ PyData.depthAll ds ≤ n
  | [], _ => ⟨rfl, Nat.zero_le _⟩
  | d :: r, h => by
    have h1 := h d List.mem_cons_self
    have h2 := dok_all (ds := r) fun d hd => h d (List.mem_cons_of_mem _ hd)
    refine ⟨?_, ?_⟩
    · show (PyData.canLay0 d && PyData.canLayAll0 r) = true
      rw [h1.1, h2.1]; rfl
    · show max (PyData.depth d) (PyData.depthAll r) ≤ n
      have := h1.2; have := h2.2; omega
theorem dok_list {n : Nat} {ds : List PyData} (h : ∀ d ∈ ds, DOk n d) : DOk (n + 1) (.list ds) := ⟨(dok_all h).1, Nat.succ_le_succ (dok_all h).2⟩
theorem dok_tup {n : Nat} {ds : List PyData} (h : ∀ d ∈ ds, DOk n d) : DOk (n + 1) (.tuple ds) := ⟨(dok_all h).1, Nat.succ_le_succ (dok_all h).2⟩
theorem DOk.shaped {n : Nat} {d : PyData} (h : DOk n d) (hn : n ≤ 64) : SeqAt.shaped d = true := by
  unfold SeqAt.shaped
  rw [h.1, decide_eq_true (Nat.le_trans h.2 hn)]
  rfl
theorem shaped_strs (xs : List (List Bool)) : SeqAt.shaped (.list (xs.map dS)) = true := (dok_list (n := 0) fun d hd => by
  obtain ⟨x, _, rfl⟩ := List.mem_map.mp hd
  exact dok_str x).shaped (by decide)
theorem shaped_nil : SeqAt.shaped (.list []) = true := by decide +kernel
theorem eqv_nil (ds : List PyData) : PyData.eqv (.list ds) (.list []) = ds.isEmpty := by cases ds <;> rfl
end U

set_option maxRecDepth 100000
set_option maxHeartbeats 4000000
namespace U
open PySem PySem.Spec PyProof.Rows
open L2 hiding Fun CX0 E0 pass0 Fun.binds
open C8 Lx SX StX
theorem u65 {k : Nat} {A : Around} (r : Room k A) : A.units + 65 < cLine := by have := r.un; omega
/-! stuffs as data -/
def pairD (s : Stf) : PyData := .tuple [.str (W s.1), .str (W [s.2])]
theorem sOk_W (l : List Bool) : PyData.strOk (W l) = true := by
  unfold PyData.strOk
  show ((l.map bt).toArray.all _) = true
  rw [List.all_toArray, List.all_map, List.all_eq_true]
  intro b _
  cases b <;> rfl
theorem canLay_pairs : ∀ ss : List Stf, PyData.canLayAll0 (ss.map pairD) = true
  | [] => by simp [PyData.canLayAll0]
  | s :: r => by
    rw [List.map_cons, PyData.canLayAll0, canLay_pairs r, Bool.and_true]
    unfold pairD
    simp only [PyData.canLay0, PyData.canLayAll0, sOk_W, Bool.and_true]
theorem depth_pairs : ∀ ss : List Stf, PyData.depthAll (ss.map pairD) ≤ 1
  | [] => by simp [PyData.depthAll]
  | s :: r => by
    have := depth_pairs r
    rw [List.map_cons, PyData.depthAll]
    have e : PyData.depth (pairD s) = 1 := by unfold pairD; simp [PyData.depth, PyData.depthAll]
    rw [e]
    omega
theorem shaped_tup (ss : List Stf) : SeqAt.shaped (.tuple (ss.map pairD)) = true := by
  unfold SeqAt.shaped
  rw [PyData.canLay0, canLay_pairs, Bool.true_and]
  refine decide_eq_true ?_
  rw [PyData.depth]
  have := depth_pairs ss
  omega
theorem shaped_lst (ss : List Stf) : SeqAt.shaped (.list (ss.map pairD)) = true := by
  unfold SeqAt.shaped
  rw [PyData.canLay0, canLay_pairs, Bool.true_and]
  refine decide_eq_true ?_
  rw [PyData.depth]
  have := depth_pairs ss
  omega
theorem beq_W (a b : List Bool) : (W a == W b) = decide (a = b) := by
  rw [Bool.eq_iff_iff, beq_iff_eq, decide_eq_true_iff]
  exact W_eq
theorem eqv_pair (s t : Stf) : PyData.eqv (pairD s) (pairD t) = decide (s = t) := by
  unfold pairD
  simp only [PyData.eqv, PyData.eqvAll, beq_W, Bool.and_true]
  obtain ⟨p, b⟩ := s
  obtain ⟨q, c⟩ := t
  rw [Bool.eq_iff_iff]
  simp
theorem eqv_pairs : ∀ ss ts : List Stf, PyData.eqvAll (ss.map pairD) (ts.map pairD) = decide (ss = ts)
  | [], [] => by simp [PyData.eqvAll]
  | [], _ :: _ => by simp [PyData.eqvAll]
  | _ :: _, [] => by simp [PyData.eqvAll]
  | s :: r, t :: q => by
    rw [List.map_cons, List.map_cons, PyData.eqvAll, eqv_pair, eqv_pairs r q, Bool.eq_iff_iff]
    simp
theorem eqv_tup (ss ts : List Stf) : PyData.eqv (.tuple (ss.map pairD)) (.tuple (ts.map pairD)) = decide (ss = ts) := by rw [PyData.eqv, eqv_pairs]
theorem eqv_lst (ss ts : List Stf) : PyData.eqv (.list (ss.map pairD)) (.list (ts.map pairD)) = decide (ss = ts) := by rw [PyData.eqv, eqv_pairs]
theorem dp_all {K : PySem.W.Frag} {H : Hp} {kb : Addr → Stf} : ∀ {ps : List Addr}, StV H kb ps → DpAll K H (ps.map V.ref) ((ps.map kb).map pairD)
  | [], _ => .nil
  | p :: r, h => .cons (.tup (SqT.of (h p List.mem_cons_self)) (.cons (.str _) (.cons (.str _) .nil))) (dp_all fun t ht => h t (List.mem_cons_of_mem _ ht))
theorem no_none (ss : List Stf) : ((ss.map pairD).any fun z => PyData.eqv z .none) = false := by
  rw [List.any_eq_false]
  intro z hz
  obtain ⟨s, _, rfl⟩ := List.mem_map.mp hz
  unfold pairD
  simp [PyData.eqv]
end U

set_option maxRecDepth 100000
set_option maxHeartbeats 4000000
set_option pp.maxSteps 400
namespace U
open PySem PySem.Spec PyProof.Rows
open L2 hiding Fun CX0 E0 pass0 Fun.binds
open C8 Lx SX StX
theorem mk_ck1z {C : Addr} {H : Hp} {z : Str} {p s : List Bool} {R : Addr → Hp → Prop} {E : XK} (hz : z = W p) (ok : CkOk p s) (hl : p.length ≤ 1000) (k : ∀ x H', Same H H' → CkAt C H' x p (zs s.length) → R x H') :
    ∀ x dx, H x = none → H dx = none → dx ≠ x → spCkInit C [.ref x, .str z, .non] (upd (upd H dx (.own x)) x (.ins C dx [])) (fun v H2 => v = .non ∧ R x H2) E := by
  subst hz
  exact mk_ck1 ok hl k
theorem mk_ck2z {C : Addr} {H : Hp} {z y : Str} {p s : List Bool} {R : Addr → Hp → Prop} {E : XK} (hz : z = W p) (hy : y = W s) (ok : CkOk p s) (hl : p.length ≤ 1000) (k : ∀ x H', Same H H' → CkAt C H' x p s → R x H') :
    ∀ x dx, H x = none → H dx = none → dx ≠ x → spCkInit C [.ref x, .str z, .str y] (upd (upd H dx (.own x)) x (.ins C dx [])) (fun v H2 => v = .non ∧ R x H2) E := by
  subst hz hy
  exact mk_ck2 ok hl k
/-! pairs of a reason and data, as data -/
def oD : Option (List Bool) → PyData
  | none => .none
  | some x => .str (W x)
theorem oD_dp {K : PySem.W.Frag} {H : Hp} : ∀ o : Option (List Bool), Dp K H (oW o) (oD o)
  | none => .non
  | some _ => .str _
theorem oD_ok : ∀ o : Option (List Bool), DOk 0 (oD o)
  | none => ⟨rfl, Nat.le_refl _⟩
  | some x => dok_str x
def prD (r : Rd2) : PyData := .tuple [.str r.1, oD r.2]
theorem prD_dp {K : PySem.W.Frag} {H : Hp} {t : Addr} {r : Rd2} (h : H t = some (.tup [.str r.1, oW r.2])) : Dp K H (.ref t) (prD r) := .tup (SqT.of h) (.cons (.str _) (.cons (oD_dp _) .nil))
theorem prD_ok {r : Rd2} (h : PyData.strOk r.1 = true) : DOk 1 (prD r) := dok_tup (n := 0) fun e he => by
  rcases List.mem_cons.mp he with rfl | he
  · exact ⟨h, Nat.le_refl _⟩
  · rw [List.mem_singleton.mp he]; exact oD_ok _
theorem DOk.refl {n : Nat} {d : PyData} (h : DOk n d) : PyData.eqv d d = true := SeqAt.eqv_refl d h.1
theorem frD_dp {K : PySem.W.Frag} {H : Hp} {kb : Addr → Rd2} : ∀ {ps : List Addr}, FrT H kb ps → DpAll K H (ps.map V.ref) ((ps.map kb).map prD)
  | [], _ => .nil
  | t :: r, h => .cons (prD_dp (h t List.mem_cons_self)) (frD_dp fun u hu => h u (List.mem_cons_of_mem _ hu))
theorem FrU.dp {K : PySem.W.Frag} {H : Hp} {q : Addr} {rs : List Rd2} (h : FrU H q rs) : Dp K H (.ref q) (.tuple (rs.map prD)) := by
  obtain ⟨ps, kb, h1, h2, rfl⟩ := h
  exact .tup (SqT.of h1) (frD_dp h2)
theorem frD_ok {rs : List Rd2} (h : ∀ r ∈ rs, PyData.strOk r.1 = true) : DOk 2 (.tuple (rs.map prD)) := dok_tup (n := 1) fun e he => by
  obtain ⟨r, hr, rfl⟩ := List.mem_map.mp he
  exact prD_ok (h r hr)
end U

set_option maxRecDepth 100000
set_option maxHeartbeats 4000000
namespace U
open PySem PySem.Spec PyProof.Rows
open L2 hiding Fun CX0 E0 pass0 Fun.binds
open C8 Lx SX StX
/-! texts of rules -/
def stT (s : Stf) : Str := W s.1 ++ ":" ++ W [s.2]
def ruWs (f : List Bool) (ss : List Stf) : List Str := "flag" :: W f :: (if ss = [] then [] else "put" :: ss.map stT)
def ruT (f : List Bool) (ss : List Stf) : Str := Txt.join " " (ruWs f ss)
theorem lenC (a b : Str) : (a ++ b).length = a.length + b.length := by
  rw [TL.len_tl, TL.len_tl a, TL.len_tl b]
  have := TL.tl_append a b
  show (TL.tl (a ++ b)).length = _
  rw [this, List.length_append]
theorem no_in (c : Nat) (h : ¬ c = 48 ∧ ¬ c = 49) (l : List Bool) : c ∉ TL.tl (W l) := by
  show c ∉ l.map bt
  intro z
  obtain ⟨b, _, e⟩ := List.mem_map.mp z
  cases b
  · exact h.1 e.symm
  · exact h.2 e.symm
theorem sp_tl : TL.tl (" " : Str) = 32 :: [] := by decide +kernel
theorem co_tl : TL.tl (":" : Str) = 58 :: [] := by decide +kernel
theorem sp_st (s : Stf) : (32 : Nat) ∉ TL.tl (stT s) := by
  unfold stT
  rw [TL.tl_append, TL.tl_append, co_tl]
  intro z
  rcases List.mem_append.mp z with z | z
  · rcases List.mem_append.mp z with z | z
    · exact no_in 32 (by decide) _ z
    · exact absurd (List.mem_singleton.mp z) (by decide)
  · exact no_in 32 (by decide) _ z
theorem sp_ws (f : List Bool) (ss : List Stf) : ∀ p ∈ ruWs f ss, (32 : Nat) ∉ TL.tl p := by
  intro p hp
  unfold ruWs at hp
  rcases List.mem_cons.mp hp with rfl | hp
  · decide +kernel
  · rcases List.mem_cons.mp hp with rfl | hp
    · exact no_in 32 (by decide) _
    · split at hp
      · cases hp
      · rcases List.mem_cons.mp hp with rfl | hp
        · decide +kernel
        · obtain ⟨s, _, rfl⟩ := List.mem_map.mp hp
          exact sp_st s
theorem ruT_split (f : List Bool) (ss : List Stf) : Txt.split (ruT f ss) " " = ruWs f ss :=
  TL.split_join sp_tl (by decide +kernel) (by unfold ruWs; exact List.cons_ne_nil _ _) (sp_ws f ss)
theorem stT_part (s : Stf) : Txt.partition (stT s) ":" = (W s.1, (":" : Str), W [s.2]) := TL.partition_app co_tl (no_in 58 (by decide) _)
theorem stT_inj {s t : Stf} (h : stT s = stT t) : s = t := by
  have e := congrArg (fun z => Txt.partition z ":") h
  simp only [stT_part] at e
  have e1 := W_inj (congrArg Prod.fst e)
  have e2 := W_inj (congrArg (fun z => z.2.2) e)
  exact Prod.ext e1 (List.cons.inj e2).1
theorem map_stT_inj : ∀ {ss ts : List Stf}, ss.map stT = ts.map stT → ss = ts
  | [], [], _ => rfl
  | [], _ :: _, h => by simp at h
  | _ :: _, [], h => by simp at h
  | a :: l, b :: m, h => by
    rw [List.map_cons, List.map_cons] at h
    injection h with h1 h2
    rw [stT_inj h1, map_stT_inj h2]
theorem ruT_inj {f f' : List Bool} {ss ss' : List Stf} (h : ruT f ss = ruT f' ss') : f = f' ∧ ss = ss' := by
  have e := congrArg (fun z => Txt.split z " ") h
  simp only [ruT_split] at e
  unfold ruWs at e
  injection e with _ e
  injection e with e1 e2
  refine ⟨W_inj e1, ?_⟩
  by_cases c : ss = []
  · by_cases c' : ss' = []
    · rw [c, c']
    · rw [if_pos c, if_neg c'] at e2; cases e2
  · by_cases c' : ss' = []
    · rw [if_neg c, if_pos c'] at e2; cases e2
    · rw [if_neg c, if_neg c'] at e2
      injection e2 with _ e2
      exact map_stT_inj e2
theorem ruT_eq {f f' : List Bool} {ss ss' : List Stf} : ruT f ss = ruT f' ss' ↔ (f = f' ∧ ss = ss') := ⟨ruT_inj, fun h => by rw [h.1, h.2]⟩
/-! a sorted row of stuffs is one -/
theorem key_inj {s t : Stf} (h : key s = key t) : s = t := by
  have e1 := W_inj (congrArg Prod.fst h)
  have e2 := W_inj (congrArg Prod.snd h)
  exact Prod.ext e1 (List.cons.inj e2).1
theorem lex_anti {s t : Stf} (h1 : SrT.lexT (key s) (key t) = false) (h2 : SrT.lexT (key t) (key s) = false) : s = t := by
  refine key_inj ?_
  rcases SrT.lexT_no.mp h1 with a | ⟨a, b⟩
  · rcases SrT.lexT_no.mp h2 with c | ⟨c, d⟩
    · exact absurd c (List.lt_asymm a)
    · rw [c] at a; exact absurd a (List.lt_irrefl _)
  · rcases SrT.lexT_no.mp h2 with c | ⟨c, d⟩
    · rw [a] at c; exact absurd c (List.lt_irrefl _)
    · refine Prod.ext a ?_
      exact TL.ext_tl (List.le_antisymm (List.not_lt.mp d) (List.not_lt.mp b))
theorem sorted_one : ∀ {ss ts : List Stf}, ss.Perm ts → SortedS ss → SortedS ts → ss = ts
  | [], ts, p, _, _ => (List.Perm.nil_eq p)
  | a :: l, [], p, _, _ => absurd (List.Perm.eq_nil p) (List.cons_ne_nil _ _)
  | a :: l, b :: m, p, h1, h2 => by
    obtain ⟨a1, a2⟩ := List.pairwise_cons.mp h1
    obtain ⟨b1, b2⟩ := List.pairwise_cons.mp h2
    have e : a = b := by
      rcases List.mem_cons.mp (p.mem_iff.mp (List.mem_cons_self (a := a) (l := l))) with z | z
      · exact z
      · rcases List.mem_cons.mp (p.mem_iff.mpr (List.mem_cons_self (a := b) (l := m))) with y | y
        · exact y.symm
        · exact lex_anti (b1 a z) (a1 b y)
    subst e
    rw [sorted_one (List.Perm.cons_inv p) a2 b2]
theorem RuAt.few {C : Addr} {H : Hp} {a : Addr} {f : List Bool} {ss : List Stf} (h : RuAt C H a f ss) : ∃ dx t, H a = some (.ins C dx (ruF f t)) := by
  obtain ⟨dx, t, _, _, h1, _⟩ := h
  exact ⟨dx, t, h1⟩
/-- a rule that is small enough for its text -/
structure RuSm (f : List Bool) (ss : List Stf) : Prop where
  fl : f.length ≤ 1000
  few : ss.length ≤ 1000
  long : ∀ s ∈ ss, s.1.length ≤ 9
theorem StOk.sm {f : List Bool} {ss : List Stf} (h : StOk ss) (hf : f.length ≤ 1000) : RuSm f ss := ⟨hf, h.few, h.l9⟩
def spRuStr (C : Addr) : Sp := fun vs H Q _ => ∃ (a : Addr) (f : List Bool) (ss : List Stf), vs = [.ref a] ∧ RuAt C H a f ss ∧ RuSm f ss ∧ ∀ H', Same H H' → Q (.str (ruT f ss)) H'
def spRuEq (C : Addr) : Sp := fun vs H Q _ => ∃ (a b : Addr) (f f' : List Bool) (ss ss' : List Stf), vs = [.ref a, .ref b] ∧ RuAt C H a f ss ∧ RuSm f ss ∧ RuAt C H b f' ss' ∧ RuSm f' ss' ∧ ∀ H', Same H H' → Q (.bl (decide (f = f' ∧ ss = ss'))) H'
def spRuLen (C : Addr) : Sp := fun vs H Q _ => ∃ (a : Addr) (f : List Bool) (ss : List Stf), vs = [.ref a] ∧ RuAt C H a f ss ∧ Q (.int (ss.length : Nat)) H
theorem stT_len {s : Stf} (h : s.1.length ≤ 9) : (stT s).length ≤ 11 := by
  unfold stT
  rw [lenC, lenC, W_len, W_len, show (":" : Str).length = 1 by decide +kernel]
  simp only [List.length_cons, List.length_nil]
  omega
theorem sum_st : ∀ {ss : List Stf}, (∀ s ∈ ss, s.1.length ≤ 9) → ((ss.map stT).map (·.length)).sum ≤ 11 * ss.length
  | [], _ => Nat.le_refl _
  | s :: r, h => by
    have h1 := stT_len (h s List.mem_cons_self)
    have h2 := sum_st fun t ht => h t (List.mem_cons_of_mem _ ht)
    rw [List.map_cons, List.map_cons, List.sum_cons, List.length_cons]
    omega
section
variable {P : Program} {w : World} {K : PySem.W.Frag} {mg : Str → Option Value} {base : Heap}
theorem sc_Rule_str : FnScope ["self", "told", "pattern", "bit"] ["self"] (fnScope s_Rule_str) := fnScope_by (by decide +kernel)
theorem met_Rule_str {f C : Addr} {fd : FuncData} (F : C8.Fun K "__str__" "Rule.__str__" s_Rule_str f fd) (me : Meth K C "__str__" f) (b : Binds K fd ["self"] []) (T : Tx mg) (RT : RuT K C) : Met P w K mg base 1 C "__str__" (spRuStr C) [] := by
  refine met0 RT.cl me F b sc_Rule_str (fun vs H Q E h => ?_) (fun cdv A outer s H vs Q E hr h => ?_)
  · obtain ⟨_, _, _, rfl, _⟩ := h; rfl
  · obtain ⟨a, fl, ss, rfl, hR, sm, k⟩ := h
    refine ⟨_, (pss_cons (ps_setLc (i := 1) (own := [("pattern", 2), ("bit", 3)]) (g := gTup K 2 (gCons (gName 2) (gCons (gName 3) gNil))) (by rfl) sc_Rule_str.nd rfl rfl (sw_true rfl rfl rfl (by decide +kernel)) (pi_tup (pe_fld (pv 0) rfl)) (blkOk_by (own := [("pattern", 2), ("bit", 3)]) (N := ["self", "told", "pattern", "bit"]) (sc := fnScope s_Rule_str) (by decide +kernel)) (fun _ _ _ _ _ => (pg_tup rfl (pgs_cons (pg_name (i := 2) sc_Rule_str.nd rfl (.inl rfl)) (pgs_cons (pg_name (i := 3) sc_Rule_str.nd rfl (.inl rfl)) pgs_nil)))) (fun _ _ _ _ _ => pts_nil) (fun _ _ _ _ _ => (pe_jn (.cons (pe_fmt (pv 2)) (.cons pe_str (.cons (pe_fmt (pv 3)) .nil))))))
    (pss_one (ps_ret (pe_join pe_str (pe_lst (pa_cons pe_str (pa_cons (pe_fld (pv 0) rfl) (pa_star (pe_ifExp (pt_cmpR op_gt (pe_callB call_len_seq (by rfl) T.b_len (by decide +kernel) (pa_cons (pv 1) pa_nil)) pe_int (nomark _)) (pe_lst (pa_cons pe_str (pa_star (pv 1) pa_nil))) (pe_lst pa_nil)) pa_nil)))))))), ?_⟩
    obtain ⟨dx, t, ps, kb, ha, ht, hv, rfl⟩ := id hR
    refine ⟨_, rfl, a, C, dx, _, _, rfl, ha, RT.cl, RT.nS, ruF_stuffs _ _, t, rfl, ⟨_, SqT.of ht⟩, fun D nD => ?_⟩
    refine lc_it (walk_tup (xs := ps.map V.ref)) (fun i H2 => Same H H2 ∧ H2 D = some (.lst ((((ps.map kb).take i).map stT).map V.str))) ⟨same_upd nD, upd_same⟩ (fun i H2 _ h2 => SqT.of (h2.1 _ _ ht)) ?_ ?_
    · rintro i x H2 H3 hi ⟨s2, hD⟩ ⟨rfl, hx⟩
      rw [List.getElem?_map] at hx
      obtain ⟨q, hq, rfl⟩ := Option.map_eq_some_iff.mp hx
      have hqm := List.mem_of_getElem? hq
      have hqv := s2 _ _ (hv q hqm)
      have l9 := sm.long (kb q) (List.mem_map.mpr ⟨q, hqm, rfl⟩)
      have e1 : Str.empty ++ W (kb q).1 = W (kb q).1 := by
        have e : Str.empty = W [] := by decide +kernel
        rw [e, W_cat]; rfl
      have l1 : (":" : Str).length = 1 := by decide +kernel
      refine ⟨q, _, rfl, SqT.of hqv, rfl, _, _, rfl, _, _, rfl, rfl, rfl, ?_⟩
      refine ⟨_, rfl, .inl ⟨_, rfl, by rw [W_len]; exact sl_len (by omega), _, rfl, by rw [e1, W_len]; exact sl_len (by omega), ?_⟩⟩
      refine ⟨_, rfl, by rw [e1, lenC, W_len, l1]; exact sl_len (by omega), ?_⟩
      refine ⟨_, rfl, .inl ⟨_, rfl, by rw [W_len]; exact sl_len (by show 1 ≤ 100000; decide), _, rfl, by rw [e1, lenC, lenC, W_len, W_len, l1]; exact sl_len (by simp only [List.length_cons, List.length_nil]; omega), ?_⟩⟩
      refine ⟨_, hD, ?_, ?_, ?_⟩
      · rw [List.length_map, List.length_map, List.length_take]
        have := sm.few
        exact sl_lt (by omega)
      · intro c o e
        rw [upd_ne (ne_of_none e nD)]
        exact s2 _ _ e
      · rw [upd_same, e1, List.take_add_one, List.getElem?_map, hq]
        simp [stT]
    · rintro H2 ⟨s2, hD⟩
      have el : ((ps.map kb).take (ps.map V.ref).length) = ps.map kb := List.take_of_length_le (by simp)
      rw [el] at hD
      have lk : (ps.map kb).length ≤ 1000 := sm.few
      have ls := sum_st sm.long
      refine ⟨⟨_, rfl⟩, ?_⟩
      refine ⟨_, rfl, a, C, dx, _, _, rfl, s2 _ _ ha, RT.cl, RT.nF, ruF_flag _ _, ?_⟩
      refine ⟨_, rfl, D, _, rfl, .inl (SqL.of hD), _, _, rfl, rfl, _, rfl, ?_⟩
      have l4 : ("flag" : Str).length = 4 := by decide +kernel
      have l3 : ("put" : Str).length = 3 := by decide +kernel
      have l1 : (" " : Str).length = 1 := by decide +kernel
      by_cases c : ps.map kb = []
      · refine iteDF (by rw [c]; decide) ?_
        refine ⟨Nat.zero_le _, fun p np => ?_⟩
        refine ⟨p, _, rfl, .inr (SqL.of upd_same), ?_⟩
        refine ⟨by show 2 ≤ sizeLine; decide, fun q nq => ?_⟩
        refine ⟨_, q, ["flag", W fl], rfl, rfl, .inl (SqL.of upd_same), ?_, ?_⟩
        · rw [l1]
          simp only [List.map_cons, List.map_nil, List.sum_cons, List.sum_nil, l4, W_len, List.length_cons, List.length_nil]
          have := sm.fl
          omega
        · have := k _ ((s2.trans (same_upd np)).trans (same_upd (o := .lst [.str "flag", .str (W fl)]) nq))
          unfold ruT ruWs at this
          rw [if_pos c] at this
          exact this
      · have c1 : 0 < (ps.map kb).length := List.length_pos_iff.mpr c
        refine iteDT (by rw [List.length_map, List.length_map]; omega) ?_
        refine ⟨_, rfl, D, _, rfl, .inr (SqL.of hD), by rw [List.length_cons, List.append_nil, List.length_map, List.length_map]; exact sl_len (by omega), fun p np => ?_⟩
        refine ⟨p, _, rfl, .inr (SqL.of upd_same), by rw [List.length_cons, List.length_cons, List.append_nil, List.length_cons, List.append_nil, List.length_map, List.length_map]; exact sl_len (by omega), fun q nq => ?_⟩
        refine ⟨_, q, "flag" :: W fl :: "put" :: (ps.map kb).map stT, rfl, rfl, .inl (SqL.of (by rw [upd_same]; simp)), ?_, ?_⟩
        · rw [l1]
          simp only [List.map_cons, List.sum_cons, l4, l3, W_len, List.length_cons, List.length_map] at ls lk ⊢
          have := sm.fl
          omega
        · have e := (s2.trans (same_upd np)).trans (same_upd (o := .lst ((V.str "flag" :: V.str (W fl) :: ((V.str "put" :: (((ps.map kb).map stT).map V.str ++ [])) ++ [])))) nq)
          have := k _ e
          unfold ruT ruWs at this
          rw [if_neg c] at this
          exact this
theorem sc_Rule_eq : FnScope ["self", "other"] ["self", "other"] (fnScope s_Rule_eq) := fnScope_by (by decide +kernel)
theorem met_Rule_eq {f C : Addr} {fd : FuncData} (F : C8.Fun K "__eq__" "Rule.__eq__" s_Rule_eq f fd) (me : Meth K C "__eq__" f) (b : Binds K fd ["self", "other"] []) (T : Tx mg) (RT : RuT K C) (g_Rule : mg "Rule" = some (.ref C)) (IS_Rule : IsT K C)
    (c_Rule_str : Met P w K mg base 1 C "__str__" (spRuStr C) []) : Met P w K mg base 4 C "__eq__" (spRuEq C) [] := by
  refine met0 RT.cl me F b sc_Rule_eq (fun vs H Q E h => ?_) (fun cdv A outer s H vs Q E hr h => ?_)
  · obtain ⟨_, _, _, _, _, _, rfl, _⟩ := h; rfl
  · obtain ⟨a, b, fl, fl', ss, ss', rfl, ra, h1, rb, h2, k⟩ := h
    refine ⟨_, (pss_one (ps_ret (pe_and (pe_callB call_isi (by rfl) T.b_isinstance (by decide +kernel) (pa_cons (pv 1) (pa_cons (pe_glob (v := .ref C) (by rfl) g_Rule rfl) pa_nil))) (pe_one (pe_cmpR op_eq (pe_callTy (call_str_own c_Rule_str hr (by decide)) (by rfl) T.b_str (by decide +kernel) (pa_cons (pv 0) pa_nil)) (pe_callTy (call_str_own c_Rule_str hr (by decide)) (by rfl) T.b_str (by decide +kernel) (pa_cons (pv 1) pa_nil)) (nomark _)))))), ?_⟩
    obtain ⟨dx, t, ha⟩ := ra.few
    obtain ⟨dy, t', hb⟩ := rb.few
    refine ⟨_, rfl, _, _, _, _, true, rfl, .own C, IS_Rule.ty hb, IS_Rule.one, _, rfl, ?_⟩
    refine ⟨_, rfl, a, dx, _, rfl, ha, a, fl, ss, rfl, ra, h1, fun H1 s1 => ⟨_, rfl, ?_⟩⟩
    refine ⟨_, rfl, b, dy, _, rfl, s1 _ _ hb, b, fl', ss', rfl, rb.same s1, h2, fun H2 s2 => ⟨_, rfl, rfl, ?_⟩⟩
    have e : decide (V.str (ruT fl ss) = V.str (ruT fl' ss')) = decide (fl = fl' ∧ ss = ss') := by
      rw [decide_eq_decide]
      exact ⟨fun z => ruT_inj (V.str.inj z), fun z => by rw [z.1, z.2]⟩
    rw [e]
    exact k H2 (s1.trans s2)
theorem sc_Rule_len : FnScope ["self"] ["self"] (fnScope s_Rule_len) := fnScope_by (by decide +kernel)
theorem met_Rule_len {f C : Addr} {fd : FuncData} (F : C8.Fun K "__len__" "Rule.__len__" s_Rule_len f fd) (me : Meth K C "__len__" f) (b : Binds K fd ["self"] []) (T : Tx mg) (RT : RuT K C) : Met P w K mg base 1 C "__len__" (spRuLen C) [] := by
  refine met0 RT.cl me F b sc_Rule_len (fun vs H Q E h => ?_) (fun cdv A outer s H vs Q E hr h => ?_)
  · obtain ⟨_, _, _, rfl, _⟩ := h; rfl
  · obtain ⟨a, fl, ss, rfl, hR, k⟩ := h
    refine ⟨_, (pss_one (ps_ret (pe_callB call_len_seq (by rfl) T.b_len (by decide +kernel) (pa_cons (pe_fld (pv 0) rfl) pa_nil)))), ?_⟩
    obtain ⟨dx, t, ps, kb, ha, ht, hv, rfl⟩ := id hR
    refine ⟨_, rfl, a, C, dx, _, _, rfl, ha, RT.cl, RT.nS, ruF_stuffs _ _, t, _, rfl, .inr (SqT.of ht), ?_⟩
    rw [List.length_map] at k ⊢
    exact k
end
end U

set_option maxRecDepth 100000
namespace U
/-! 0 and 1 exchanged -/
def sw (l : List Bool) : List Bool := l.map not
def swS (s : Stf) : Stf := (sw s.1, !s.2)
theorem sw_len (l : List Bool) : (sw l).length = l.length := List.length_map _
theorem sw_sw (l : List Bool) : sw (sw l) = l := by
  unfold sw
  rw [List.map_map]
  exact (List.map_congr_left fun b _ => Bool.not_not b).trans (List.map_id l)
theorem sw_app (a b : List Bool) : sw (a ++ b) = sw a ++ sw b := List.map_append
theorem sw_inj {a b : List Bool} (h : sw a = sw b) : a = b := by rw [← sw_sw a, h, sw_sw]
theorem swS_swS (s : Stf) : swS (swS s) = s := by
  unfold swS
  exact Prod.ext (sw_sw s.1) (Bool.not_not s.2)
theorem map_sw2 (ss : List Stf) : (ss.map swS).map swS = ss := by
  rw [List.map_map]
  exact (List.map_congr_left fun s _ => swS_swS s).trans (List.map_id ss)
theorem sw_suf {p l : List Bool} : sw p <:+ sw l ↔ p <:+ l := by
  constructor
  · rintro ⟨t, h⟩
    refine ⟨sw t, ?_⟩
    have := congrArg sw h
    rw [sw_app, sw_sw, sw_sw] at this
    exact this
  · rintro ⟨t, rfl⟩
    exact ⟨sw t, by rw [sw_app]⟩
theorem sw_isSuf (p l : List Bool) : (sw p).isSuffixOf (sw l) = p.isSuffixOf l := by
  rw [Bool.eq_iff_iff, List.isSuffixOf_iff_suffix, List.isSuffixOf_iff_suffix]
  exact sw_suf
theorem put_sw (l : List Bool) : ∀ ss : List Stf, putM (ss.map swS) (sw l) = (putM ss l).map not
  | [] => rfl
  | s :: r => by
    unfold putM
    rw [List.map_cons, List.find?_cons, List.find?_cons]
    show Option.map (fun x => x.2) (match (sw s.1).isSuffixOf (sw l) with | true => some (swS s) | false => _) = _
    rw [sw_isSuf]
    cases s.1.isSuffixOf l with
    | true => rfl
    | false => exact put_sw l r
theorem Ins.sw {ss : List Stf} {l x : List Bool} (h : Ins ss l x) : Ins (ss.map swS) (U.sw l) (U.sw x) := by
  induction h with
  | stop h => exact .stop (by rw [put_sw, h]; rfl)
  | more h _ ih =>
    refine .more (by rw [put_sw, h]; rfl) ?_
    rw [sw_app] at ih
    exact ih
theorem Reach.sw {ss : List Stf} {l : List Bool} (h : Reach ss l) : Reach (ss.map swS) (U.sw l) := by
  induction h with
  | nil => exact .nil
  | next _ i ih =>
    have := i.sw
    rw [sw_app] at this
    have r := Reach.next ih this
    rw [sw_app, sw_app]
    exact r
theorem OkN.sw {n : Nat} {ss : List Stf} (h : OkN n ss) : OkN n (ss.map swS) := fun l r b => by
  have r2 := r.sw
  rw [map_sw2] at r2
  obtain ⟨x, hx, hl⟩ := h _ r2 (!b)
  refine ⟨U.sw x, ?_, by rw [sw_len]; exact hl⟩
  have := hx.sw
  rw [sw_app, sw_sw] at this
  have e : U.sw [!b] = [b] := by cases b <;> rfl
  rw [e] at this
  exact this
theorem OkR.sw {ss : List Stf} (h : OkR ss) : OkR (ss.map swS) := fun l r b => by
  have r2 := r.sw
  rw [map_sw2] at r2
  obtain ⟨x, hx⟩ := h _ r2 (!b)
  refine ⟨U.sw x, ?_⟩
  have := hx.sw
  rw [sw_app, sw_sw] at this
  have e : U.sw [!b] = [b] := by cases b <;> rfl
  rw [e] at this
  exact this
theorem Body.sw {ss : List Stf} {m l : List Bool} (h : Body ss m l) : Body (ss.map swS) (U.sw m) (U.sw l) := by
  induction h with
  | nil => exact .nil
  | snoc _ i ih =>
    have := i.sw
    rw [sw_app] at this
    have r := Body.snoc ih this
    rw [sw_app, sw_app, sw_app]
    exact r
theorem SufFree.sw {ss : List Stf} (h : SufFree ss) : SufFree (ss.map swS) := by
  unfold SufFree at h ⊢
  rw [List.pairwise_map]
  refine h.imp fun {a b} hab => ?_
  exact ⟨fun z => hab.1 (sw_suf.mp z), fun z => hab.2 (sw_suf.mp z)⟩
end U

set_option maxRecDepth 100000
set_option maxHeartbeats 4000000
namespace U
open PySem PySem.Spec PyProof.Rows
open L2 hiding Fun CX0 E0 pass0 Fun.binds
open C8 Lx SX StX
theorem longM_sw : ∀ ss : List Stf, longM (ss.map swS) = longM ss
  | [] => rfl
  | s :: r => by
    show max (sw s.1).length (longM (r.map swS)) = max s.1.length (longM r)
    rw [sw_len, longM_sw r]
theorem StOk.sw {ss : List Stf} (h : StOk ss) : StOk (ss.map swS) := ⟨by rw [List.length_map]; exact h.few, fun s hs => by
    obtain ⟨t, ht, rfl⟩ := List.mem_map.mp hs
    intro z
    exact h.pos t ht (List.length_eq_zero_iff.mp (by rw [← sw_len]; exact List.length_eq_zero_iff.mpr z)), by rw [longM_sw]; exact h.long, h.free.sw⟩
def spOther : Sp := fun vs H Q _ => ∃ b : Bool, vs = [.str (W [b])] ∧ Q (.str (W [!b])) H
def spSwW : Sp := fun vs H Q _ => ∃ l : List Bool, vs = [.str (W l)] ∧ l.length ≤ 10000 ∧ ∀ H', Same H H' → Q (.str (W (sw l))) H'
def spSwapped (C : Addr) : Sp := fun vs H Q _ => ∃ (a : Addr) (f : List Bool) (ss : List Stf), vs = [.ref a] ∧ RuAt C H a f ss ∧ StOk ss ∧ OkR ss ∧ 2 ≤ f.length ∧ f.length ≤ 1000 ∧
  ∀ x ss' H', Same H H' → ss'.Perm (ss.map swS) → SortedS ss' → RuAt C H' x (sw f) ss' → Q (.ref x) H'
/-- a pair more in a list of stuffs -/
theorem st_push {H : Hp} {D z : Addr} {qs : List Addr} {kc : Addr → Stf} {zs : List V} {s : Stf} (hD : H D = some (.lst (qs.map V.ref))) (hS : StV H kc qs) (hz : H z = none) (ez : zs = [.str (W s.1), .str (W [s.2])]) :
    ∃ kc' : Addr → Stf, upd (upd H z (.tup zs)) D (.lst (qs.map V.ref ++ [.ref z])) D = some (.lst ((qs ++ [z]).map V.ref)) ∧ StV (upd (upd H z (.tup zs)) D (.lst (qs.map V.ref ++ [.ref z]))) kc' (qs ++ [z]) ∧ (qs ++ [z]).map kc' = qs.map kc ++ [s] := by
  subst ez
  have zq : ∀ y ∈ qs, y ≠ z := fun y hy => ne_of_none (hS y hy) hz
  have nDz : z ≠ D := (ne_of_none hD hz).symm
  refine ⟨fun y => if y = z then s else kc y, by rw [upd_same, List.map_append]; rfl, fun y hy => ?_, ?_⟩
  · have ny : y ≠ D := by
      rcases List.mem_append.mp hy with h1 | h1
      · exact ne_of (hS y h1) hD (by intro z; cases z)
      · rw [List.mem_singleton.mp h1]; exact nDz
    rw [upd_ne ny]
    dsimp only
    rcases List.mem_append.mp hy with h1 | h1
    · rw [if_neg (zq y h1), upd_ne (zq y h1)]
      exact hS y h1
    · rw [List.mem_singleton.mp h1, if_pos rfl]
      exact upd_same
  · rw [List.map_append]
    congr 1
    · exact List.map_congr_left fun y hy => if_neg (zq y hy)
    · show [if z = z then s else kc z] = [s]
      rw [if_pos rfl]
/-- a rule made of stuffs in a list or a tuple -/
theorem mk_ru {K : PySem.W.Frag} {C : Addr} {H : Hp} {l : Addr} {z : Str} {f : List Bool} {ps : List Addr} {kb : Addr → Stf} {R : Addr → Hp → Prop} {E : XK} (hz : z = W f) (hl : Sq K H l (ps.map V.ref)) (hs : StV H kb ps) (ok : StOk (ps.map kb)) (hO : OkR (ps.map kb)) (h2 : 2 ≤ f.length) (h3 : f.length ≤ 1000)
    (k : ∀ x ss' H', Same H H' → ss'.Perm (ps.map kb) → SortedS ss' → RuAt C H' x f ss' → R x H') :
    ∀ x dx, H x = none → H dx = none → dx ≠ x → spRuInit K C [.ref x, .str z, .ref l] (upd (upd H dx (.own x)) x (.ins C dx [])) (fun v H2 => v = .non ∧ R x H2) E := by
  subst hz
  intro x dx nx ndx nex
  have sm : Same H (upd (upd H dx (.own x)) x (.ins C dx [])) := fun c o e => by
    rw [upd_ne (ne_of_none e nx), upd_ne (ne_of_none e ndx)]; exact e
  exact ⟨x, dx, l, f, ps, kb, rfl, upd_same, hl.of_same sm, hs.same sm, ok, hO, h2, h3, fun H' ss' keep pm srt hR => ⟨rfl, k x ss' H' (Same.made nx ndx keep) pm srt hR⟩⟩
/-- a rule with one stuff, written -/
theorem mk_one {K : PySem.W.Frag} {C : Addr} {H : Hp} {p1 p2 : Addr} {z u v : Str} {f p : List Bool} {b : Bool} {R : Addr → Hp → Prop} {E : XK} (hz : z = W f) (hu : u = W p) (hv : v = W [b]) (n1 : H p1 = none) (n2 : upd H p1 (.tup [.str u, .str v]) p2 = none) (ok : StOk [(p, b)]) (hO : OkR [(p, b)]) (h2 : 2 ≤ f.length) (h3 : f.length ≤ 1000)
    (k : ∀ x H', Same H H' → RuAt C H' x f [(p, b)] → R x H') :
    ∀ x dx, upd (upd H p1 (.tup [.str u, .str v])) p2 (.lst [.ref p1]) x = none → upd (upd H p1 (.tup [.str u, .str v])) p2 (.lst [.ref p1]) dx = none → dx ≠ x →
      spRuInit K C [.ref x, .str z, .ref p2] (upd (upd (upd (upd H p1 (.tup [.str u, .str v])) p2 (.lst [.ref p1])) dx (.own x)) x (.ins C dx [])) (fun v H2 => v = .non ∧ R x H2) E := by
  subst hu hv
  refine mk_ru (ps := [p1]) (kb := fun _ => (p, b)) hz (.inl (SqL.of upd_same)) (fun t ht => ?_) ok hO h2 h3 fun x ss' H' s pm srt hR => ?_
  · rw [List.mem_singleton.mp ht, upd_ne (fun z => by rw [z, upd_same] at n2; cases n2)]
    exact upd_same
  · have es : ss' = [(p, b)] := List.perm_singleton.mp pm
    subst es
    exact k x H' (((same_upd n1).trans (same_upd n2)).trans s) hR
section
variable {P : Program} {w : World} {K : PySem.W.Frag} {mg : Str → Option Value} {base : Heap}
end
end U

set_option maxRecDepth 100000
set_option maxHeartbeats 4000000
set_option pp.maxSteps 400
namespace U
open PySem PySem.Spec PyProof.Rows
open L2 hiding Fun CX0 E0 pass0 Fun.binds
open C8 Lx SX StX
/-! two numbers of the script -/
def spNums (K : PySem.W.Frag) : Sp := fun vs H Q _ => ∃ (a : Addr) (ns : List Int), vs = [.ref a] ∧ SqL K H a (ns.map V.int) ∧ ns.length ≤ 63 ∧
  ∀ (l : Addr) (i j : Nat) H', Same H H' → H' l = some (.lst [.int i, .int j]) → i < 4 → j < 3 → Q (.ref l) H'
theorem cut_ints (ns : List Int) (lo hi : Option Int) : ∃ ms : List Int, cutV (ns.map V.int) lo hi = ms.map V.int ∧ ms.length ≤ ns.length := by
  refine ⟨(ns.drop (HT.sIx (ns.map V.int).length 0 lo)).take (HT.sIx (ns.map V.int).length (ns.map V.int).length hi - HT.sIx (ns.map V.int).length 0 lo), ?_, ?_⟩
  · unfold cutV
    rw [List.map_take, List.map_drop]
  · rw [List.length_take, List.length_drop]; omega
theorem push_ints {H : Hp} {D : Addr} {rs : List Int} {n : Nat} {z : Int} (h : rs.length ≤ n) : ∃ rs' : List Int, upd H D (.lst (rs.map V.int ++ [.int z])) D = some (.lst (rs'.map V.int)) ∧ rs'.length ≤ n + 1 :=
  ⟨rs ++ [z], by rw [upd_same, List.map_append]; rfl, by rw [List.length_append]; show _ + 1 ≤ _; omega⟩
section
variable {P : Program} {w : World} {K : PySem.W.Frag} {mg : Str → Option Value} {base : Heap}
theorem sc_l_numbers : FnScope ["_law_script", "_law_zsum", "_law_zone"] ["_law_script"] (fnScope s_l_numbers) := fnScope_by (by decide +kernel)
theorem cal_l_numbers {f : Addr} {fd : FuncData} (F : Def K mg "_law_numbers" s_l_numbers f fd) (b : Binds K fd ["_law_script"] []) (T : Tx mg) : Cal P w K mg base 1 "_law_numbers" (spNums K) [] := by
  refine cal0 F b .nil sc_l_numbers (fun vs H Q E h => ?_) (fun cdv A outer s H vs Q E hr h => ?_)
  · obtain ⟨_, _, rfl, _⟩ := h; rfl
  · obtain ⟨a, ns, rfl, hS, hlen, k⟩ := h
    refine ⟨_, (pss_cons (ps_set (i := 1) sc_l_numbers.nd rfl (.inl rfl) (pe_op op_add (pe_op op_mul pe_int (pe_callB call_len_seq (by rfl) T.b_len (by decide +kernel) (pa_cons (pv 0) pa_nil))) (pe_callB (cr_sum rfl) (by rfl) T.b_sum (by decide +kernel) (pa_cons (pe_lc (own := [("_law_zone", 2)]) (g := gName 2) (by rfl) sc_l_numbers.nd (pi_list (pe_slice sl_list (pv 0) po_none (po_some pe_int))) (blkOk_by (own := [("_law_zone", 2)]) (N := ["_law_script", "_law_zsum", "_law_zone"]) (sc := fnScope s_l_numbers) (by decide +kernel)) (fun _ _ _ _ _ => (pg_name (i := 2) sc_l_numbers.nd rfl (.inl rfl))) (fun _ _ _ _ _ => pts_nil) (fun _ _ _ _ _ => (pe_op op_mod (pe_callB call_abs (by rfl) T.b_abs (by decide +kernel) (pa_cons (pe_callTy call_int1 (by rfl) T.b_int (by decide +kernel) (pa_cons (pv 2) pa_nil)) pa_nil)) pe_int))) pa_nil))))
    (pss_one (ps_ret (pe_lst (pa_cons (pe_op op_mod (pe_callTy call_int1 (by rfl) T.b_int (by decide +kernel) (pa_cons (pv 1) pa_nil)) pe_int) (pa_cons (pe_op op_mod (pe_callTy call_int1 (by rfl) T.b_int (by decide +kernel) (pa_cons (pe_op op_fdiv (pv 1) pe_int) pa_nil)) pe_int) pa_nil)))))), ?_⟩
    refine ⟨_, rfl, a, _, rfl, .inl hS, _, _, rfl, rfl, .inl ⟨by decide, by decide⟩, ?_⟩
    refine ⟨_, rfl, 40, rfl, a, _, rfl, hS, fun p np => ?_⟩
    obtain ⟨ms, ems, lms⟩ := cut_ints ns none (some 40)
    rw [ems] at *
    have sp := same_upd (o := .lst (ms.map V.int)) np
    have hp : upd H p (.lst (ms.map V.int)) p = some (.lst (ms.map V.int)) := upd_same
    generalize upd H p (.lst (ms.map V.int)) = H1 at sp hp
    refine ⟨p, rfl, ⟨_, SqL.of hp⟩, fun D nD => ?_⟩
    refine lc_it (walk_list (xs := ms.map V.int)) (fun i H2 => Same H1 H2 ∧ ∃ rs : List Int, H2 D = some (.lst (rs.map V.int)) ∧ rs.length ≤ i) ⟨same_upd nD, [], upd_same, Nat.le_refl _⟩ (fun i H2 _ h2 => SqL.of (h2.1 _ _ hp)) ?_ ?_
    · rintro i x H2' H2 hi ⟨s2, rs, hD, lrs⟩ ⟨rfl, hx⟩
      rw [List.getElem?_map] at hx
      obtain ⟨z, hz, rfl⟩ := Option.map_eq_some_iff.mp hx
      have hi' := (List.getElem?_eq_some_iff.mp hz).1
      refine ⟨rfl, _, rfl, .inl ⟨_, rfl, _, rfl, _, _, rfl, rfl, (by show (0 : Int) < _; decide), _, hD, by rw [List.length_map]; exact sl_lt (by omega), same_mut' s2 nD, push_ints lrs⟩⟩
    · rintro H2 ⟨s2, rs, hD, lrs⟩
      refine ⟨D, rs, rfl, SqL.of hD, _, _, rfl, rfl, ?_⟩
      refine ⟨_, rfl, .inl ⟨_, rfl, _, _, rfl, rfl, (by show (0 : Int) < 4; decide), ?_⟩⟩
      refine ⟨_, rfl, _, _, rfl, rfl, ⟨by decide, by decide⟩, .inl ⟨_, rfl, _, _, rfl, rfl, (by show (0 : Int) < 3; decide), ?_⟩⟩
      refine ⟨by show 2 ≤ sizeLine; decide, fun l nl => ?_⟩
      generalize (_ : Int) + rs.sum = z at nl ⊢
      have e1 : z % 4 = ((z % 4).toNat : Int) := (Int.toNat_of_nonneg (Int.emod_nonneg _ (by decide))).symm
      have e2 : z / 4 % 3 = ((z / 4 % 3).toNat : Int) := (Int.toNat_of_nonneg (Int.emod_nonneg _ (by decide))).symm
      have b1 := Int.emod_lt_of_pos z (show (0 : Int) < 4 by decide)
      have b2 := Int.emod_lt_of_pos (z / 4) (show (0 : Int) < 3 by decide)
      exact k l (z % 4).toNat (z / 4 % 3).toNat _ ((sp.trans s2).trans (same_upd nl)) (by rw [upd_same, ← e1, ← e2]) (by omega) (by omega)
end
end U

set_option maxRecDepth 100000
set_option maxHeartbeats 4000000
set_option pp.maxSteps 400
namespace U
open PySem PySem.Spec PyProof.Rows
open L2 hiding Fun CX0 E0 pass0 Fun.binds
open C8 Lx SX StX
def spLaw (K : PySem.W.Frag) : Sp := fun vs H Q _ => ∃ (a : Addr) (ns : List Int), vs = [.ref a] ∧ SqL K H a (ns.map V.int) ∧ ns.length ≤ 63 ∧ ∀ H', Q (.bl true) H'
def flN : List Bool := [false, true, true, true, false]
def ruN : List Stf := [([true, true], false)]
def poN : List Bool := [true, true, true]
def stN : List Bool := [true, false]
def wd4 : List (List Bool) := [[], [false], [true, true], [false, true, true, true]]
def rawN (d : List Bool) : List Bool := bodyF ruN (d ++ bitsM poN stN d) ++ flN
def okD (d : List Bool) : Bool := decide (d.length ≤ 4) && decide ((rawN d).length ≤ 20) && decide (rcM flN ruN poN stN (rawN d) = (("good" : Str), some d)) && (List.range 3).all fun n => decide (Txt.mul (W (rawN d)) (n : Int) = W ((List.replicate n (rawN d)).flatten))
theorem okD_all : wd4.all okD = true := by decide +kernel
theorem gvN : givB flN ruN = true := by decide +kernel
theorem wd_str {i : Nat} (h : i < 4) : ∃ d ∈ wd4, atI [V.str "", .str "0", .str "11", .str "0111"] (i : Int) = some (.str (W d)) := by
  have : i = 0 ∨ i = 1 ∨ i = 2 ∨ i = 3 := by omega
  rcases this with rfl | rfl | rfl | rfl
  · exact ⟨[], by decide, by decide +kernel⟩
  · exact ⟨[false], by decide, by decide +kernel⟩
  · exact ⟨[true, true], by decide, by decide +kernel⟩
  · exact ⟨[false, true, true, true], by decide, by decide +kernel⟩
theorem rdM_str (ss : List Stf) (p s l : List Bool) : PyData.strOk (rdM ss p s l).1 = true := by
  unfold rdM
  split
  · show PyData.strOk "put" = true; decide +kernel
  · split
    · show PyData.strOk "good" = true; decide +kernel
    · show PyData.strOk "check" = true; decide +kernel
section
variable {P : Program} {w : World} {K : PySem.W.Frag} {mg : Str → Option Value} {base : Heap}
theorem sc_law : FnScope ["_law_script", "_law_zone", "_law_ztwo", "_law_zrule", "_law_zcheck", "_law_zbits", "_law_zraw"] ["_law_script"] (fnScope s_law) := fnScope_by (by decide +kernel)
theorem ok_law {f C CK CKI CTX : Addr} {fd : FuncData} (F : Def K mg "law" s_law f fd) (T : Tx mg) (CT : CkT K CK) (NE_Check : NeT K CK) (c_l_numbers : Cal P w K mg base 1 "_law_numbers" (spNums K) []) (m_Rule2 : Mak P w K mg base 5 "Rule" C (spRuInit K C) []) (m_Check2 : Mak P w K mg base 2 "Check" CK (spCkInit CK) [])
    (mK_Check_start_poly : MakD P w K mg base 2 "Check" CK (spCkInit CK) ["start", "poly"] [1, 0] [.str "1", .non]) (mK_Check_poly : MakD P w K mg base 2 "Check" CK (spCkInit CK) ["poly"] [0, 2] [.str "1", .non])
    (c_Check_str : Met P w K mg base 1 CK "__str__" (spCkStr CK) []) (c_Check_eq : Met P w K mg base 4 CK "__eq__" (spCkEq CK) []) (cmK_Check_read_text : CMtK P w K mg base 4 "Check" CK "read" (spCkRead CK) ["text"])
    (c_rest : Met P w K mg base 2 CK "rest" (spRest CK) []) (c_bits_for : Met P w K mg base 3 CK "bits_for" (spBitsFor CK) []) (c_is_good : Met P w K mg base 3 CK "is_good" (spIsGood CK) [])
    (cK_rest_bits : MetK P w K mg base 2 CK "rest" (spRest CK) ["bits"] (pickM [0])) (cK_bits_for_data : MetK P w K mg base 3 CK "bits_for" (spBitsFor CK) ["data"] (pickM [0])) (cK_is_good_message : MetK P w K mg base 3 CK "is_good" (spIsGood CK) ["message"] (pickM [0]))
    (c_body : Cal P w K mg base 4 "body" (spBody C) []) (cK_body_message_rule : CalK P w K mg base 4 "body" (spBody C) ["message", "rule"] (pick [1, 0])) (c_taken_out : Cal P w K mg base 3 "taken_out" (spTaken C) []) (cK_taken_out_line_rule : CalK P w K mg base 3 "taken_out" (spTaken C) ["line", "rule"] (pick [1, 0]))
    (c_send : Cal P w K mg base 5 "send" (spSend C CK) []) (cK_send_data_check_rule : CalK P w K mg base 5 "send" (spSend C CK) ["data", "check", "rule"] (pick [2, 1, 0])) (cK_receive_raw_check_rule : CalK P w K mg base 5 "receive" (spReceive C CK) ["raw", "check", "rule"] (pick [2, 1, 0]))
    (c_frames : Cal P w K mg base 6 "frames" (spFrames C CK) []) (cK_frames_raw_check_rule : CalK P w K mg base 6 "frames" (spFrames C CK) ["raw", "check", "rule"] (pick [2, 1, 0]))
    (XF_InvalidCheck : XfC K CKI) (nw_InvalidCheck : PySem.W.findIn K (.ref CKI) "word" = some none) (xK_InvalidCheck : ExS.XMkK P w K mg base 1 "InvalidCheck" CKI "word" ["word"])
    (XF_InvalidText : XfC K CTX) (nw_InvalidText : PySem.W.findIn K (.ref CTX) "at" = some none) (xK_InvalidText : ExS.XMkK P w K mg base 1 "InvalidText" CTX "at" ["at"]) : FnOk P w K mg base CX0 8 f fd ["_law_script"] (spLaw K) := by
  refine fn0 F.fn sc_law (fun vs H Q E h => ?_) (fun cdv A outer s H vs Q E hr h => ?_)
  · obtain ⟨_, _, rfl, _⟩ := h; rfl
  · obtain ⟨a, ns, rfl, hS, hlen, k⟩ := h
    refine ⟨_, (pss_cons (ps_asg (pe_c c_l_numbers hr (by decide) rfl (pa_cons (pv 0) pa_nil)) (pg_lst rfl (pgs_cons (pg_name (i := 1) sc_law.nd rfl (.inl rfl)) (pgs_cons (pg_name (i := 2) sc_law.nd rfl (.inl rfl)) pgs_nil))))
    (pss_cons (ps_par (i := 3) (j := 4) (by rfl) sc_law.nd rfl rfl (by decide) rfl rfl (pa_cons (pe_mk m_Rule2 hr (by decide) rfl (pa_cons pe_str (pa_cons (pe_lst (pa_cons (pe_tup (pa_cons pe_str (pa_cons pe_str pa_nil))) pa_nil)) pa_nil))) (pa_cons (pe_mkD mK_Check_start_poly hr (by decide) rfl (pk_cons pe_str (pk_cons pe_str pk_nil))) pa_nil)) (by rfl))
    (pss_cons (ps_set (i := 5) sc_law.nd rfl (.inl rfl) (pe_ix ix_list (pe_lst (pa_cons pe_str (pa_cons pe_str (pa_cons pe_str (pa_cons pe_str pa_nil))))) (pv 1) (fun _ _ => rfl)))
    (pss_cons (ps_if (PW.pt (pw_or (pt_cmpR (op_neOwn c_Check_eq NE_Check hr (by decide)) (pv 4) (pe_mk m_Check2 hr (by decide) rfl (pa_cons pe_str (pa_cons pe_str pa_nil))) (nomark _)) (pw_or (pt_cmpR (op_neOwn c_Check_eq NE_Check hr (by decide)) (pe_cmK (pl := _) cmK_Check_read_text hr (by decide) rfl (pk_cons (pe_callTy (call_str_own c_Check_str hr (by decide)) (by rfl) T.b_str (by decide +kernel) (pa_cons (pv 4) pa_nil)) pk_nil)) (pv 4) (nomark _)) (pw_or1 (pt_cmpR (op_neOwn c_Check_eq NE_Check hr (by decide)) (pe_mkD mK_Check_poly hr (by decide) rfl (pk_cons pe_str pk_nil)) (pe_mk m_Check2 hr (by decide) rfl (pa_cons pe_str (pa_cons pe_str pa_nil))) (nomark _)))))) (pss_one (ps_ret pe_bl)) pss_nil)
    (pss_cons (ps_if (PW.pt (pw_or (pt_cmpR op_ne (pe_mtK (pl := _) cK_rest_bits hr (by decide) (pv 4) (pk_cons (pv 5) pk_nil)) (pe_mt (pl := _) c_rest hr (by decide) (pv 4) (pa_cons (pv 5) pa_nil)) (nomark _)) (pw_or1 (pt_cmpR op_ne (pe_mtK (pl := _) cK_bits_for_data hr (by decide) (pv 4) (pk_cons (pv 5) pk_nil)) (pe_mt (pl := _) c_bits_for hr (by decide) (pv 4) (pa_cons (pv 5) pa_nil)) (nomark _))))) (pss_one (ps_ret pe_bl)) pss_nil)
    (pss_cons (ps_if (pt_cmpR op_ne (pe_mtK (pl := _) cK_is_good_message hr (by decide) (pv 4) (pk_cons (pv 5) pk_nil)) (pe_mt (pl := _) c_is_good hr (by decide) (pv 4) (pa_cons (pv 5) pa_nil)) (nomark _)) (pss_one (ps_ret pe_bl)) pss_nil)
    (pss_cons (ps_if (pt_cmpR op_ne (pe_cK cK_body_message_rule hr (by decide) rfl (pk_cons (pv 5) (pk_cons (pv 3) pk_nil))) (pe_c c_body hr (by decide) rfl (pa_cons (pv 3) (pa_cons (pv 5) pa_nil))) (nomark _)) (pss_one (ps_ret pe_bl)) pss_nil)
    (pss_cons (ps_if (pt_cmpR op_ne (pe_cK cK_taken_out_line_rule hr (by decide) rfl (pk_cons (pv 5) (pk_cons (pv 3) pk_nil))) (pe_c c_taken_out hr (by decide) rfl (pa_cons (pv 3) (pa_cons (pv 5) pa_nil))) (nomark _)) (pss_one (ps_ret pe_bl)) pss_nil)
    (pss_cons (ps_set (i := 6) sc_law.nd rfl (.inl rfl) (pe_cK cK_send_data_check_rule hr (by decide) rfl (pk_cons (pv 5) (pk_cons (pv 4) (pk_cons (pv 3) pk_nil)))))
    (pss_cons (ps_if (PW.pt (pw_or (pt_cmpR op_ne (pv 6) (pe_c c_send hr (by decide) rfl (pa_cons (pv 3) (pa_cons (pv 4) (pa_cons (pv 5) pa_nil)))) (nomark _)) (pw_or1 (pt_cmpR (op_neD hr.units) (pe_cK cK_receive_raw_check_rule hr (by decide) rfl (pk_cons (pv 6) (pk_cons (pv 4) (pk_cons (pv 3) pk_nil)))) (pe_tup (pa_cons pe_str (pa_cons (pv 5) pa_nil))) (nomark _))))) (pss_one (ps_ret pe_bl)) pss_nil)
    (pss_cons (ps_if (pt_cmpR (op_neD hr.units) (pe_cK cK_frames_raw_check_rule hr (by decide) rfl (pk_cons (pe_op op_rep_str (pv 6) (pv 2)) (pk_cons (pv 4) (pk_cons (pv 3) pk_nil)))) (pe_c c_frames hr (by decide) rfl (pa_cons (pv 3) (pa_cons (pv 4) (pa_cons (pe_op op_rep_str (pv 6) (pv 2)) pa_nil)))) (nomark _)) (pss_one (ps_ret pe_bl)) pss_nil)
    (pss_one (ps_ret (pe_and (pe_cmpR op_eq (ExS.pe_xfl XF_InvalidCheck nw_InvalidCheck (ExS.pe_xmK xK_InvalidCheck hr (by decide) rfl (pk_cons (pv 1) pk_nil))) (pv 1) (nomark _)) (pe_one (pe_cmpR op_eq (ExS.pe_xfl XF_InvalidText nw_InvalidText (ExS.pe_xmK xK_InvalidText hr (by decide) rfl (pk_cons (pv 2) pk_nil))) (pv 2) (nomark _))))))))))))))))), ?_⟩
    have gv := giv_dec gvN
    have okc : CkOk poN stN := ⟨rfl, rfl, rfl⟩
    have e1 : ("01110" : Str) = W flN := by decide +kernel
    have e2 : ("11" : Str) = W [true, true] := by decide +kernel
    have e3 : ("111" : Str) = W poN := by decide +kernel
    have e4 : ("10" : Str) = W stN := by decide +kernel
    refine ⟨_, rfl, a, ns, rfl, hS, hlen, fun l i j H1 s1 hl hi hj => ?_⟩
    refine ⟨l, _, rfl, SqL.of hl, rfl, _, _, rfl, _, _, rfl, rfl, ?_⟩
    obtain ⟨d, hd, ed⟩ := wd_str hi
    have hok := List.all_eq_true.mp okD_all d hd
    unfold okD at hok
    rw [Bool.and_eq_true, Bool.and_eq_true, Bool.and_eq_true, decide_eq_true_iff, decide_eq_true_iff, decide_eq_true_iff] at hok
    obtain ⟨⟨⟨d4, r20⟩, hrc⟩, hmul⟩ := hok
    have emul := of_decide_eq_true (List.all_eq_true.mp hmul j (List.mem_range.mpr hj))
    clear hmul hd
    refine ⟨by show 2 ≤ sizeLine; decide, fun q1 n1 => ⟨by show 1 ≤ sizeLine; decide, fun q2 n2 => ?_⟩⟩
    refine mk_one (f := flN) e1 e2 W_0 n1 n2 gv.ok gv.o.ok gv.f2 (by decide) fun m H2 s2 hR => ?_
    have mkc : ∀ {H : Hp} {R : Addr → Hp → Prop} {E : XK}, (∀ x H', Same H H' → CkAt CK H' x poN stN → R x H') → ∀ x dx, H x = none → H dx = none → dx ≠ x → spCkInit CK [.ref x, .str "111", .str "10"] (upd (upd H dx (.own x)) x (.ins CK dx [])) (fun v H2 => v = .non ∧ R x H2) E := fun {H R E} kk => by
      rw [e3, e4]
      exact mk_ck2 okc (by decide) kk
    refine ⟨rfl, mkc fun c H3 s3 hc => ?_⟩
    have hR3 := hR.same s3
    refine ⟨_, _, rfl, ?_⟩
    refine ⟨by show 4 ≤ sizeLine; decide, fun x1 nx1 => ⟨_, rfl, x1, _, _, _, rfl, rfl, SqL.of upd_same, ed, ?_⟩⟩
    have sx1 := same_upd (o := .lst [.str "", .str "0", .str "11", .str "0111"]) nx1
    have hc4 := hc.same sx1
    have hR4 := hR3.same sx1
    generalize upd H3 x1 (.lst [.str "", .str "0", .str "11", .str "0111"]) = H4 at sx1 hc4 hR4 ⊢
    clear sx1 nx1 hc hR3 hR s3
    have tT : ∀ {p q r s : List Bool}, ckT p q = ckT r s → (!decide (ckT p q = ckT r s)) = false := fun h => by rw [decide_eq_true h]; rfl
    obtain ⟨dc4, hc4'⟩ := id hc4
    -- check != Check("111", "10")
    refine ⟨_, rfl, mkc fun c2 H5 s5 hc2 => ?_⟩
    obtain ⟨dc2, hc2'⟩ := id hc2
    refine ⟨c, c2, dc4, dc2, _, _, rfl, rfl, s5 _ _ hc4', hc2', c, c2, poN, stN, poN, stN, rfl, hc4.same s5, by decide, by decide, hc2, by decide, by decide, _, rfl, _, rfl, iteBF (tT rfl) ?_⟩
    have hR5 := hR4.same s5
    have hc5 := hc4.same s5
    refine ⟨_, rfl, c, dc4, _, rfl, s5 _ _ hc4', c, poN, stN, rfl, hc5, by decide, by decide, _, rfl, rfl, poN, stN, rfl, okc, by decide, fun c3 H6 s6 hc3 => ?_⟩
    obtain ⟨dc3, hc3'⟩ := id hc3
    have hc6 := hc5.same s6
    obtain ⟨dc6, hc6'⟩ := id hc6
    refine ⟨_, rfl, c3, c, dc3, dc6, _, _, rfl, rfl, hc3', hc6', c3, c, poN, stN, poN, stN, rfl, hc3, by decide, by decide, hc6, by decide, by decide, _, rfl, _, rfl, iteBF (tT rfl) ?_⟩
    have ok2 : CkOk [true, true] [false] := ⟨rfl, rfl, rfl⟩
    have mk1 : ∀ {H : Hp} {R : Addr → Hp → Prop} {E : XK}, (∀ x H', Same H H' → CkAt CK H' x [true, true] [false] → R x H') → ∀ x dx, H x = none → H dx = none → dx ≠ x → spCkInit CK [.ref x, .str "11", .non] (upd (upd H dx (.own x)) x (.ins CK dx [])) (fun v H2 => v = .non ∧ R x H2) E := fun {H R E} kk => by
      rw [e2]
      exact mk_ck1 ok2 (by decide) kk
    have mk2 : ∀ {H : Hp} {R : Addr → Hp → Prop} {E : XK}, (∀ x H', Same H H' → CkAt CK H' x [true, true] [false] → R x H') → ∀ x dx, H x = none → H dx = none → dx ≠ x → spCkInit CK [.ref x, .str "11", .str "0"] (upd (upd H dx (.own x)) x (.ins CK dx [])) (fun v H2 => v = .non ∧ R x H2) E := fun {H R E} kk => by
      rw [e2, W_0]
      exact mk_ck2 ok2 (by decide) kk
    refine ⟨rfl, mk1 fun c5 H7 s7 hc5x => ?_⟩
    refine mk2 fun c6 H8 s8 hc6x => ?_
    have hc5y := hc5x.same s8
    obtain ⟨d5, hd5⟩ := id hc5y
    obtain ⟨d6, hd6⟩ := id hc6x
    refine ⟨c5, c6, d5, d6, _, _, rfl, rfl, hd5, hd6, c5, c6, [true, true], [false], [true, true], [false], rfl, hc5y, by decide, by decide, hc6x, by decide, by decide, _, rfl, _, rfl, iteBF (tT rfl) ?_⟩
    have s58 := (s6.trans s7).trans s8
    have hR8 := hR5.same s58
    have hc8 := hc5.same s58
    clear hc5y hd5 hd6 hc6x hc5x hc6 hc6' hc3 hc3' hc2 hc2' s7 s8 s6 s58
    obtain ⟨dc8, hc8'⟩ := id hc8
    have d9 : d.length ≤ 10000 := by omega
    refine ⟨_, rfl, c, dc8, _, rfl, hc8', ckF_no _ _ (by decide +kernel) (by decide +kernel), _, rfl, rfl, c, poN, stN, d, rfl, hc8, by decide, rfl, fun H9 s9 => ?_⟩
    refine ⟨_, rfl, c, dc8, _, rfl, s9 _ _ hc8', ckF_no _ _ (by decide +kernel) (by decide +kernel), _, rfl, c, poN, stN, d, rfl, hc8.same s9, by decide, rfl, fun H10 s10 => ⟨rfl, _, rfl, iteNS rfl ?_⟩⟩
    have s810 := s9.trans s10
    refine ⟨_, rfl, c, dc8, _, rfl, s810 _ _ hc8', ckF_no _ _ (by decide +kernel) (by decide +kernel), _, rfl, rfl, c, poN, stN, d, rfl, hc8.same s810, by decide, d9, rfl, fun H11 s11 => ?_⟩
    have s811 := s810.trans s11
    refine ⟨_, rfl, c, dc8, _, rfl, s811 _ _ hc8', ckF_no _ _ (by decide +kernel) (by decide +kernel), _, rfl, c, poN, stN, d, rfl, hc8.same s811, by decide, d9, rfl, fun H12 s12 => ⟨rfl, _, rfl, iteNS rfl ?_⟩⟩
    have s812 := s811.trans s12
    refine ⟨_, rfl, c, dc8, _, rfl, s812 _ _ hc8', ckF_no _ _ (by decide +kernel) (by decide +kernel), _, rfl, rfl, c, poN, stN, d, rfl, hc8.same s812, by decide, d9, rfl, fun H13 s13 => ?_⟩
    have s813 := s812.trans s13
    refine ⟨_, rfl, c, dc8, _, rfl, s813 _ _ hc8', ckF_no _ _ (by decide +kernel) (by decide +kernel), _, rfl, c, poN, stN, d, rfl, hc8.same s813, by decide, d9, rfl, fun H14 s14 => ⟨by cases goodM poN stN d <;> rfl, _, rfl, iteNS rfl ?_⟩⟩
    have s814 := s813.trans s14
    have hR14 := hR8.same s814
    have hc14 := hc8.same s814
    clear s9 s10 s810 s11 s811 s12 s812 s13 s813 hR8 hc8 hc8'
    -- body
    refine ⟨_, rfl, _, rfl, rfl, m, flN, ruN, d, rfl, hR14, by omega, gv.o, fun l1 H15 hb1 _ s15 => ?_⟩
    refine ⟨_, rfl, _, rfl, m, flN, ruN, d, rfl, hR14.same s15, by omega, gv.o, fun l2 H16 hb2 _ s16 => ?_⟩
    rw [hb1.isF gv.o, hb2.isF gv.o]
    refine ⟨rfl, _, rfl, iteNS rfl ?_⟩
    have s1416 := s15.trans s16
    -- taken_out
    refine ⟨_, rfl, _, rfl, rfl, m, flN, ruN, d, rfl, hR14.same s1416, by omega, fun H17 s17 => ?_⟩
    have s1417 := s1416.trans s17
    refine ⟨_, rfl, _, rfl, m, flN, ruN, d, rfl, hR14.same s1417, by omega, fun H18 s18 => ⟨scal_oW _ _, _, rfl, iteNS rfl ?_⟩⟩
    have s1418 := s1417.trans s18
    have hR18 := hR14.same s1418
    have hc18 := hc14.same s1418
    clear s15 s16 s17 s18 s1416 s1417 hb1 hb2
    -- send
    refine ⟨_, rfl, _, rfl, _, rfl, rfl, m, c, flN, ruN, poN, stN, d, rfl, hR18, hc18, by decide, rfl, by omega, by decide, gv.o, fun l3 H19 hb3 _ s19 => ?_⟩
    rw [hb3.isF gv.o]
    have er : bodyF ruN (d ++ bitsM poN stN d) ++ flN = rawN d := rfl
    rw [er]
    have hR19 := hR18.same s19
    have hc19 := hc18.same s19
    clear hb3
    refine ⟨_, rfl, _, rfl, _, rfl, _, rfl, m, c, flN, ruN, poN, stN, d, rfl, hR19, hc19, by decide, rfl, by omega, by decide, gv.o, fun l4 H20 hb4 _ s20 => ?_⟩
    rw [hb4.isF gv.o, er]
    refine ⟨rfl, _, rfl, iteNS rfl ?_⟩
    clear hb4
    have hR20 := hR19.same s20
    have hc20 := hc19.same s20
    have rl : (rawN d).length ≤ 50000 := by omega
    refine ⟨_, rfl, _, rfl, _, rfl, rfl, m, c, flN, ruN, poN, stN, rawN d, rfl, hR20, hc20, by decide, rfl, rl, by decide, fun i hi => by have := (posM_some.mp hi).1; omega, fun t H21 nt s21 ht => ?_⟩
    rw [hrc] at ht
    refine ⟨_, rfl, by show 2 ≤ sizeLine; decide, fun t2 nt2 => ?_⟩
    have s22 := same_upd (o := .tup [.str "good", .str (W d)]) nt2
    have ht2 : upd H21 t2 (.tup [.str "good", .str (W d)]) t2 = some (.tup [.str (("good" : Str), some d).1, oW (("good" : Str), some d).2]) := upd_same
    have ht1 := s22 _ _ ht
    have okp : DOk 1 (prD (("good" : Str), some d)) := prD_ok (by show PyData.strOk "good" = true; decide +kernel)
    refine ⟨prD (("good" : Str), some d), prD (("good" : Str), some d), prD_dp ht1, prD_dp ht2, okp.shaped (by decide), okp.shaped (by decide), _, rfl, ?_⟩
    rw [SeqAt.eqv_refl _ okp.1]
    refine iteBF rfl ?_
    have s2022 := s21.trans s22
    have hR22 := hR20.same s2022
    have hc22 := hc20.same s2022
    generalize upd H21 t2 (.tup [.str "good", .str (W d)]) = H22 at hR22 hc22 ⊢
    clear ht ht1 ht2 s2022 s22 s21 nt nt2 okp
    have lm : (W (rawN d)).length * (j : Int).toNat ≤ 100000 := by
      rw [W_len, Int.toNat_natCast]
      exact Nat.le_trans (Nat.mul_le_mul r20 (show j ≤ 2 by omega)) (by decide)
    have lf : ((List.replicate j (rawN d)).flatten).length ≤ 10000 := by
      rw [List.length_flatten, List.map_replicate, List.sum_replicate_nat]
      exact Nat.le_trans (Nat.mul_le_mul (show j ≤ 2 by omega) r20) (by decide)
    refine ⟨_, rfl, _, rfl, _, _, rfl, rfl, by omega, by omega, lm, ?_⟩
    rw [emul]
    refine ⟨_, rfl, _, rfl, rfl, m, c, flN, ruN, poN, stN, _, rfl, hR22, hc22, by decide, rfl, lf, by decide, fun u1 H23 s23 hu1 => ?_⟩
    refine ⟨_, rfl, _, rfl, _, rfl, _, rfl, _, _, rfl, rfl, by omega, by omega, lm, ?_⟩
    rw [emul]
    refine ⟨m, c, flN, ruN, poN, stN, _, rfl, hR22.same s23, hc22.same s23, by decide, rfl, lf, by decide, fun u2 H24 s24 hu2 => ?_⟩
    have okf : DOk 2 (.tuple ((frM flN ruN poN stN ((List.replicate j (rawN d)).flatten)).map prD)) := frD_ok fun r hr => by
      unfold frM at hr
      obtain ⟨x, _, rfl⟩ := List.mem_map.mp hr
      exact rdM_str _ _ _ _
    refine ⟨_, _, (hu1.same s24).dp, hu2.dp, okf.shaped (by decide), okf.shaped (by decide), _, rfl, ?_⟩
    rw [SeqAt.eqv_refl _ okf.1]
    refine iteBF rfl ?_
    refine ⟨_, rfl, _, rfl, fun a1 d1 H25 na1 nd1 ne1 s25 ha1 hd1 => ⟨a1, d1, _, _, rfl, ha1, hd1, rfl, ?_⟩⟩
    refine ⟨_, rfl, rfl, _, rfl, iteDT rfl ?_⟩
    refine ⟨_, rfl, _, rfl, fun a2 d2 H26 na2 nd2 ne2 s26 ha2 hd2 => ⟨a2, d2, _, _, rfl, ha2, hd2, rfl, ?_⟩⟩
    exact ⟨_, rfl, rfl, q_dec (Q := Q) rfl (k _)⟩
end
end U

set_option maxRecDepth 100000
set_option maxHeartbeats 4000000
namespace U
open PySem PySem.Spec PyProof.Rows
open L2 hiding Fun CX0 E0 pass0 Fun.binds
open C8 Lx
theorem all_mk {l : PySem.W.OpenLaw} {w : World} {K : PySem.W.Frag} {h : Heap} {mg : Str → Option Value} {fa : Addr} (X : K.In h) (G : h.Ns mainGlobals mg) (hfa : mg "law" = some (.ref fa))
    {f_put_behind : Addr} {od_put_behind an_put_behind : Option Addr} {sl_put_behind : Array (Option Value)} {oc_put_behind kV_put_behind dc_put_behind pm_put_behind cd_put_behind ct_put_behind : Value}
    {f_body : Addr} {od_body an_body : Option Addr} {sl_body : Array (Option Value)} {oc_body kV_body dc_body pm_body cd_body ct_body : Value}
    {f_taken_out : Addr} {od_taken_out an_taken_out : Option Addr} {sl_taken_out : Array (Option Value)} {oc_taken_out kV_taken_out dc_taken_out pm_taken_out cd_taken_out ct_taken_out : Value}
    {f_send : Addr} {od_send an_send : Option Addr} {sl_send : Array (Option Value)} {oc_send kV_send dc_send pm_send cd_send ct_send : Value}
    {f_read_part : Addr} {od_read_part an_read_part : Option Addr} {sl_read_part : Array (Option Value)} {oc_read_part kV_read_part dc_read_part pm_read_part cd_read_part ct_read_part : Value}
    {f_receive : Addr} {od_receive an_receive : Option Addr} {sl_receive : Array (Option Value)} {oc_receive kV_receive dc_receive pm_receive cd_receive ct_receive : Value}
    {f_cut_up : Addr} {od_cut_up an_cut_up : Option Addr} {sl_cut_up : Array (Option Value)} {oc_cut_up kV_cut_up dc_cut_up pm_cut_up cd_cut_up ct_cut_up : Value}
    {f_frames : Addr} {od_frames an_frames : Option Addr} {sl_frames : Array (Option Value)} {oc_frames kV_frames dc_frames pm_frames cd_frames ct_frames : Value}
    {f_is_sequence : Addr} {od_is_sequence an_is_sequence : Option Addr} {sl_is_sequence : Array (Option Value)} {oc_is_sequence kV_is_sequence dc_is_sequence pm_is_sequence cd_is_sequence ct_is_sequence : Value}
    {f_is_word : Addr} {od_is_word an_is_word : Option Addr} {sl_is_word : Array (Option Value)} {oc_is_word kV_is_word dc_is_word pm_is_word cd_is_word ct_is_word : Value}
    {f_is_bit : Addr} {od_is_bit an_is_bit : Option Addr} {sl_is_bit : Array (Option Value)} {oc_is_bit kV_is_bit dc_is_bit pm_is_bit cd_is_bit ct_is_bit : Value}
    {f_tail : Addr} {od_tail an_tail : Option Addr} {sl_tail : Array (Option Value)} {oc_tail kV_tail dc_tail pm_tail cd_tail ct_tail : Value}
    {f_is_stuff : Addr} {od_is_stuff an_is_stuff : Option Addr} {sl_is_stuff : Array (Option Value)} {oc_is_stuff kV_is_stuff dc_is_stuff pm_is_stuff cd_is_stuff ct_is_stuff : Value}
    {f_are_stuffs : Addr} {od_are_stuffs an_are_stuffs : Option Addr} {sl_are_stuffs : Array (Option Value)} {oc_are_stuffs kV_are_stuffs dc_are_stuffs pm_are_stuffs cd_are_stuffs ct_are_stuffs : Value}
    {f_l_numbers : Addr} {od_l_numbers an_l_numbers : Option Addr} {sl_l_numbers : Array (Option Value)} {oc_l_numbers kV_l_numbers dc_l_numbers pm_l_numbers cd_l_numbers ct_l_numbers : Value}
    {f_law : Addr} {od_law an_law : Option Addr} {sl_law : Array (Option Value)} {oc_law kV_law dc_law pm_law cd_law ct_law : Value}
    {C_Check : Addr}
    {f_Check_init : Addr} {od_Check_init an_Check_init : Option Addr} {sl_Check_init : Array (Option Value)} {oc_Check_init kV_Check_init dc_Check_init pm_Check_init cd_Check_init ct_Check_init : Value}
    {dT_Check_init : Addr} {dd_Check_init : Option Addr} {dn_Check_init : Nat} {ds_Check_init : Array (Option Value)} {tD : Tok}
    {f_Check_str : Addr} {od_Check_str an_Check_str : Option Addr} {sl_Check_str : Array (Option Value)} {oc_Check_str kV_Check_str dc_Check_str pm_Check_str cd_Check_str ct_Check_str : Value}
    {f_Check_eq : Addr} {od_Check_eq an_Check_eq : Option Addr} {sl_Check_eq : Array (Option Value)} {oc_Check_eq kV_Check_eq dc_Check_eq pm_Check_eq cd_Check_eq ct_Check_eq : Value}
    {f_Check_read : Addr} {od_Check_read an_Check_read : Option Addr} {sl_Check_read : Array (Option Value)} {oc_Check_read kV_Check_read dc_Check_read pm_Check_read cd_Check_read ct_Check_read : Value}
    {p_Check_read : Addr} {pr_Check_read : List Value}
    {f_Check_step : Addr} {od_Check_step an_Check_step : Option Addr} {sl_Check_step : Array (Option Value)} {oc_Check_step kV_Check_step dc_Check_step pm_Check_step cd_Check_step ct_Check_step : Value}
    {f_Check_rest : Addr} {od_Check_rest an_Check_rest : Option Addr} {sl_Check_rest : Array (Option Value)} {oc_Check_rest kV_Check_rest dc_Check_rest pm_Check_rest cd_Check_rest ct_Check_rest : Value}
    {f_Check_degree : Addr} {od_Check_degree an_Check_degree : Option Addr} {sl_Check_degree : Array (Option Value)} {oc_Check_degree kV_Check_degree dc_Check_degree pm_Check_degree cd_Check_degree ct_Check_degree : Value}
    {p_Check_degree : Addr} {pr_Check_degree : List Value}
    {f_Check_bits_for : Addr} {od_Check_bits_for an_Check_bits_for : Option Addr} {sl_Check_bits_for : Array (Option Value)} {oc_Check_bits_for kV_Check_bits_for dc_Check_bits_for pm_Check_bits_for cd_Check_bits_for ct_Check_bits_for : Value}
    {f_Check_is_good : Addr} {od_Check_is_good an_Check_is_good : Option Addr} {sl_Check_is_good : Array (Option Value)} {oc_Check_is_good kV_Check_is_good dc_Check_is_good pm_Check_is_good cd_Check_is_good ct_Check_is_good : Value}
    {C_Rule : Addr}
    {f_Rule_put : Addr} {od_Rule_put an_Rule_put : Option Addr} {sl_Rule_put : Array (Option Value)} {oc_Rule_put kV_Rule_put dc_Rule_put pm_Rule_put cd_Rule_put ct_Rule_put : Value}
    {f_Rule_longest : Addr} {od_Rule_longest an_Rule_longest : Option Addr} {sl_Rule_longest : Array (Option Value)} {oc_Rule_longest kV_Rule_longest dc_Rule_longest pm_Rule_longest cd_Rule_longest ct_Rule_longest : Value}
    {p_Rule_longest : Addr} {pr_Rule_longest : List Value}
    {f_Rule_put_in : Addr} {od_Rule_put_in an_Rule_put_in : Option Addr} {sl_Rule_put_in : Array (Option Value)} {oc_Rule_put_in kV_Rule_put_in dc_Rule_put_in pm_Rule_put_in cd_Rule_put_in ct_Rule_put_in : Value}
    {f_Rule_is_endless : Addr} {od_Rule_is_endless an_Rule_is_endless : Option Addr} {sl_Rule_is_endless : Array (Option Value)} {oc_Rule_is_endless kV_Rule_is_endless dc_Rule_is_endless pm_Rule_is_endless cd_Rule_is_endless ct_Rule_is_endless : Value}
    {f_Rule_init : Addr} {od_Rule_init an_Rule_init : Option Addr} {sl_Rule_init : Array (Option Value)} {oc_Rule_init kV_Rule_init dc_Rule_init pm_Rule_init cd_Rule_init ct_Rule_init : Value}
    {dT_Rule_init : Addr} {dd_Rule_init : Option Addr} {dn_Rule_init : Nat} {ds_Rule_init : Array (Option Value)} {dE_R : Addr} {dde_R : Option Addr} {dne_R : Nat} {dse_R : Array (Option Value)}
    {C_InvalidCheck f_InvalidCheck cc_InvalidCheck cda_InvalidCheck : Addr} {od_InvalidCheck an_InvalidCheck : Option Addr} {sl_InvalidCheck : Array (Option Value)} {oc_InvalidCheck kV_InvalidCheck dc_InvalidCheck pm_InvalidCheck ct_InvalidCheck : Value}
    {Enm_InvalidCheck Eq_InvalidCheck : Str} {EN_InvalidCheck : Addr} {Ebs_InvalidCheck Ebm_InvalidCheck : List Value} {Esn_InvalidCheck : List Str} {Esub_InvalidCheck : List Value} {Eab_InvalidCheck : Bool} {Ecol_InvalidCheck : Option Bool} {Edd_InvalidCheck : Option Addr} {E0_InvalidCheck E1_InvalidCheck E2_InvalidCheck E3_InvalidCheck E5_InvalidCheck : Option Value} {cl_InvalidCheck ccl_InvalidCheck : Value} {cld_InvalidCheck cdd_InvalidCheck : Option Addr} {csl_InvalidCheck ccs_InvalidCheck : Array (Option Value)} {cvs_InvalidCheck : Array Value} {file_InvalidCheck : Str} {ctf_InvalidCheck : Tok}
    {C_InvalidText f_InvalidText cc_InvalidText cda_InvalidText : Addr} {od_InvalidText an_InvalidText : Option Addr} {sl_InvalidText : Array (Option Value)} {oc_InvalidText kV_InvalidText dc_InvalidText pm_InvalidText ct_InvalidText : Value}
    {Enm_InvalidText Eq_InvalidText : Str} {EN_InvalidText : Addr} {Ebs_InvalidText Ebm_InvalidText : List Value} {Esn_InvalidText : List Str} {Esub_InvalidText : List Value} {Eab_InvalidText : Bool} {Ecol_InvalidText : Option Bool} {Edd_InvalidText : Option Addr} {E0_InvalidText E1_InvalidText E2_InvalidText E3_InvalidText E5_InvalidText : Option Value} {cl_InvalidText ccl_InvalidText : Value} {cld_InvalidText cdd_InvalidText : Option Addr} {csl_InvalidText ccs_InvalidText : Array (Option Value)} {cvs_InvalidText : Array Value} {file_InvalidText : Str} {ctf_InvalidText : Tok}
    {tB : Tok}
    {tM : Tok}
    (a_put_behind : PySem.W.nsIn K mainGlobals "put_behind" = some (some (.ref f_put_behind)))
    (l_put_behind : K.lookup f_put_behind = some ⟨oc_put_behind, od_put_behind, .func (PySem.W.fnOf "put_behind" "put_behind" (fnArgs s_put_behind) (fnBody s_put_behind) (fnScope s_put_behind) .none kV_put_behind dc_put_behind pm_put_behind an_put_behind cd_put_behind ct_put_behind), sl_put_behind⟩)
    (c_put_behind : PySem.W.codeIn K cd_put_behind "put_behind" = true)
    (k_put_behind : PySem.W.keepIn K (.ref f_put_behind) = true)
    (a_body : PySem.W.nsIn K mainGlobals "body" = some (some (.ref f_body)))
    (l_body : K.lookup f_body = some ⟨oc_body, od_body, .func (PySem.W.fnOf "body" "body" (fnArgs s_body) (fnBody s_body) (fnScope s_body) .none kV_body dc_body pm_body an_body cd_body ct_body), sl_body⟩)
    (c_body : PySem.W.codeIn K cd_body "body" = true)
    (k_body : PySem.W.keepIn K (.ref f_body) = true)
    (a_taken_out : PySem.W.nsIn K mainGlobals "taken_out" = some (some (.ref f_taken_out)))
    (l_taken_out : K.lookup f_taken_out = some ⟨oc_taken_out, od_taken_out, .func (PySem.W.fnOf "taken_out" "taken_out" (fnArgs s_taken_out) (fnBody s_taken_out) (fnScope s_taken_out) .none kV_taken_out dc_taken_out pm_taken_out an_taken_out cd_taken_out ct_taken_out), sl_taken_out⟩)
    (c_taken_out : PySem.W.codeIn K cd_taken_out "taken_out" = true)
    (k_taken_out : PySem.W.keepIn K (.ref f_taken_out) = true)
    (a_send : PySem.W.nsIn K mainGlobals "send" = some (some (.ref f_send)))
    (l_send : K.lookup f_send = some ⟨oc_send, od_send, .func (PySem.W.fnOf "send" "send" (fnArgs s_send) (fnBody s_send) (fnScope s_send) .none kV_send dc_send pm_send an_send cd_send ct_send), sl_send⟩)
    (c_send : PySem.W.codeIn K cd_send "send" = true)
    (k_send : PySem.W.keepIn K (.ref f_send) = true)
    (a_read_part : PySem.W.nsIn K mainGlobals "read_part" = some (some (.ref f_read_part)))
    (l_read_part : K.lookup f_read_part = some ⟨oc_read_part, od_read_part, .func (PySem.W.fnOf "read_part" "read_part" (fnArgs s_read_part) (fnBody s_read_part) (fnScope s_read_part) .none kV_read_part dc_read_part pm_read_part an_read_part cd_read_part ct_read_part), sl_read_part⟩)
    (c_read_part : PySem.W.codeIn K cd_read_part "read_part" = true)
    (k_read_part : PySem.W.keepIn K (.ref f_read_part) = true)
    (a_receive : PySem.W.nsIn K mainGlobals "receive" = some (some (.ref f_receive)))
    (l_receive : K.lookup f_receive = some ⟨oc_receive, od_receive, .func (PySem.W.fnOf "receive" "receive" (fnArgs s_receive) (fnBody s_receive) (fnScope s_receive) .none kV_receive dc_receive pm_receive an_receive cd_receive ct_receive), sl_receive⟩)
    (c_receive : PySem.W.codeIn K cd_receive "receive" = true)
    (k_receive : PySem.W.keepIn K (.ref f_receive) = true)
    (a_cut_up : PySem.W.nsIn K mainGlobals "cut_up" = some (some (.ref f_cut_up)))
    (l_cut_up : K.lookup f_cut_up = some ⟨oc_cut_up, od_cut_up, .func (PySem.W.fnOf "cut_up" "cut_up" (fnArgs s_cut_up) (fnBody s_cut_up) (fnScope s_cut_up) .none kV_cut_up dc_cut_up pm_cut_up an_cut_up cd_cut_up ct_cut_up), sl_cut_up⟩)
    (c_cut_up : PySem.W.codeIn K cd_cut_up "cut_up" = true)
    (k_cut_up : PySem.W.keepIn K (.ref f_cut_up) = true)
    (a_frames : PySem.W.nsIn K mainGlobals "frames" = some (some (.ref f_frames)))
    (l_frames : K.lookup f_frames = some ⟨oc_frames, od_frames, .func (PySem.W.fnOf "frames" "frames" (fnArgs s_frames) (fnBody s_frames) (fnScope s_frames) .none kV_frames dc_frames pm_frames an_frames cd_frames ct_frames), sl_frames⟩)
    (c_frames : PySem.W.codeIn K cd_frames "frames" = true)
    (k_frames : PySem.W.keepIn K (.ref f_frames) = true)
    (a_is_sequence : PySem.W.nsIn K mainGlobals "is_sequence" = some (some (.ref f_is_sequence)))
    (l_is_sequence : K.lookup f_is_sequence = some ⟨oc_is_sequence, od_is_sequence, .func (PySem.W.fnOf "is_sequence" "is_sequence" (fnArgs s_is_sequence) (fnBody s_is_sequence) (fnScope s_is_sequence) .none kV_is_sequence dc_is_sequence pm_is_sequence an_is_sequence cd_is_sequence ct_is_sequence), sl_is_sequence⟩)
    (c_is_sequence : PySem.W.codeIn K cd_is_sequence "is_sequence" = true)
    (k_is_sequence : PySem.W.keepIn K (.ref f_is_sequence) = true)
    (a_is_word : PySem.W.nsIn K mainGlobals "is_word" = some (some (.ref f_is_word)))
    (l_is_word : K.lookup f_is_word = some ⟨oc_is_word, od_is_word, .func (PySem.W.fnOf "is_word" "is_word" (fnArgs s_is_word) (fnBody s_is_word) (fnScope s_is_word) .none kV_is_word dc_is_word pm_is_word an_is_word cd_is_word ct_is_word), sl_is_word⟩)
    (c_is_word : PySem.W.codeIn K cd_is_word "is_word" = true)
    (k_is_word : PySem.W.keepIn K (.ref f_is_word) = true)
    (a_is_bit : PySem.W.nsIn K mainGlobals "is_bit" = some (some (.ref f_is_bit)))
    (l_is_bit : K.lookup f_is_bit = some ⟨oc_is_bit, od_is_bit, .func (PySem.W.fnOf "is_bit" "is_bit" (fnArgs s_is_bit) (fnBody s_is_bit) (fnScope s_is_bit) .none kV_is_bit dc_is_bit pm_is_bit an_is_bit cd_is_bit ct_is_bit), sl_is_bit⟩)
    (c_is_bit : PySem.W.codeIn K cd_is_bit "is_bit" = true)
    (k_is_bit : PySem.W.keepIn K (.ref f_is_bit) = true)
    (a_tail : PySem.W.nsIn K mainGlobals "tail" = some (some (.ref f_tail)))
    (l_tail : K.lookup f_tail = some ⟨oc_tail, od_tail, .func (PySem.W.fnOf "tail" "tail" (fnArgs s_tail) (fnBody s_tail) (fnScope s_tail) .none kV_tail dc_tail pm_tail an_tail cd_tail ct_tail), sl_tail⟩)
    (c_tail : PySem.W.codeIn K cd_tail "tail" = true)
    (k_tail : PySem.W.keepIn K (.ref f_tail) = true)
    (a_is_stuff : PySem.W.nsIn K mainGlobals "is_stuff" = some (some (.ref f_is_stuff)))
    (l_is_stuff : K.lookup f_is_stuff = some ⟨oc_is_stuff, od_is_stuff, .func (PySem.W.fnOf "is_stuff" "is_stuff" (fnArgs s_is_stuff) (fnBody s_is_stuff) (fnScope s_is_stuff) .none kV_is_stuff dc_is_stuff pm_is_stuff an_is_stuff cd_is_stuff ct_is_stuff), sl_is_stuff⟩)
    (c_is_stuff : PySem.W.codeIn K cd_is_stuff "is_stuff" = true)
    (k_is_stuff : PySem.W.keepIn K (.ref f_is_stuff) = true)
    (a_are_stuffs : PySem.W.nsIn K mainGlobals "are_stuffs" = some (some (.ref f_are_stuffs)))
    (l_are_stuffs : K.lookup f_are_stuffs = some ⟨oc_are_stuffs, od_are_stuffs, .func (PySem.W.fnOf "are_stuffs" "are_stuffs" (fnArgs s_are_stuffs) (fnBody s_are_stuffs) (fnScope s_are_stuffs) .none kV_are_stuffs dc_are_stuffs pm_are_stuffs an_are_stuffs cd_are_stuffs ct_are_stuffs), sl_are_stuffs⟩)
    (c_are_stuffs : PySem.W.codeIn K cd_are_stuffs "are_stuffs" = true)
    (k_are_stuffs : PySem.W.keepIn K (.ref f_are_stuffs) = true)
    (a_l_numbers : PySem.W.nsIn K mainGlobals "_law_numbers" = some (some (.ref f_l_numbers)))
    (l_l_numbers : K.lookup f_l_numbers = some ⟨oc_l_numbers, od_l_numbers, .func (PySem.W.fnOf "_law_numbers" "_law_numbers" (fnArgs s_l_numbers) (fnBody s_l_numbers) (fnScope s_l_numbers) .none kV_l_numbers dc_l_numbers pm_l_numbers an_l_numbers cd_l_numbers ct_l_numbers), sl_l_numbers⟩)
    (c_l_numbers : PySem.W.codeIn K cd_l_numbers "_law_numbers" = true)
    (k_l_numbers : PySem.W.keepIn K (.ref f_l_numbers) = true)
    (a_law : PySem.W.nsIn K mainGlobals "law" = some (some (.ref f_law)))
    (l_law : K.lookup f_law = some ⟨oc_law, od_law, .func (PySem.W.fnOf "law" "law" (fnArgs s_law) (fnBody s_law) (fnScope s_law) .none kV_law dc_law pm_law an_law cd_law ct_law), sl_law⟩)
    (c_law : PySem.W.codeIn K cd_law "law" = true)
    (k_law : PySem.W.keepIn K (.ref f_law) = true)
    (aC_Check : PySem.W.nsIn K mainGlobals "Check" = some (some (.ref C_Check)))
    (pg_Check : PySem.W.plainGet K C_Check Str.empty = true)
    (hd_Check : PySem.W.hasDictIn K C_Check = true)
    (po_Check : PySem.W.plainOver K C_Check = true)
    (sa_Check : PySem.W.findIn K (.ref C_Check) "__setattr__" = some (some (.builtin "object.__setattr__")))
    (mk_Check : PySem.W.makesIn K C_Check = true)
    (kc_Check : PySem.W.keepIn K (.ref C_Check) = true)
    (n_Check_poly : PySem.W.findIn K (.ref C_Check) "poly" = some none)
    (n_Check_start : PySem.W.findIn K (.ref C_Check) "start" = some none)
    (a_Check_init : PySem.W.findIn K (.ref C_Check) "__init__" = some (some (.ref f_Check_init)))
    (i_Check_init : PySem.W.isFn K (.ref f_Check_init) = true)
    (l_Check_init : K.lookup f_Check_init = some ⟨oc_Check_init, od_Check_init, .func (PySem.W.fnOf "__init__" "Check.__init__" (fnArgs s_Check_init) (fnBody s_Check_init) (fnScope s_Check_init) (.ref dT_Check_init) kV_Check_init dc_Check_init pm_Check_init an_Check_init cd_Check_init ct_Check_init), sl_Check_init⟩)
    (c_Check_init : PySem.W.codeIn K cd_Check_init "Check.__init__" = true)
    (k_Check_init : PySem.W.keepIn K (.ref f_Check_init) = true)
    (dl_Check_init : K.lookup dT_Check_init = some ⟨.type "tuple", dd_Check_init, .seq #[.str "1" tD, .none] dn_Check_init, ds_Check_init⟩)
    (a_Check_str : PySem.W.findIn K (.ref C_Check) "__str__" = some (some (.ref f_Check_str)))
    (i_Check_str : PySem.W.isFn K (.ref f_Check_str) = true)
    (l_Check_str : K.lookup f_Check_str = some ⟨oc_Check_str, od_Check_str, .func (PySem.W.fnOf "__str__" "Check.__str__" (fnArgs s_Check_str) (fnBody s_Check_str) (fnScope s_Check_str) .none kV_Check_str dc_Check_str pm_Check_str an_Check_str cd_Check_str ct_Check_str), sl_Check_str⟩)
    (c_Check_str : PySem.W.codeIn K cd_Check_str "Check.__str__" = true)
    (k_Check_str : PySem.W.keepIn K (.ref f_Check_str) = true)
    (a_Check_eq : PySem.W.findIn K (.ref C_Check) "__eq__" = some (some (.ref f_Check_eq)))
    (i_Check_eq : PySem.W.isFn K (.ref f_Check_eq) = true)
    (l_Check_eq : K.lookup f_Check_eq = some ⟨oc_Check_eq, od_Check_eq, .func (PySem.W.fnOf "__eq__" "Check.__eq__" (fnArgs s_Check_eq) (fnBody s_Check_eq) (fnScope s_Check_eq) .none kV_Check_eq dc_Check_eq pm_Check_eq an_Check_eq cd_Check_eq ct_Check_eq), sl_Check_eq⟩)
    (c_Check_eq : PySem.W.codeIn K cd_Check_eq "Check.__eq__" = true)
    (k_Check_eq : PySem.W.keepIn K (.ref f_Check_eq) = true)
    (a_Check_read : PySem.W.findCls K (.ref C_Check) (.type "type") "read" = some (.get (.builtin "classmethod.__get__") (.ref p_Check_read) .none (.ref C_Check)))
    (r_Check_read : PySem.W.recIn K p_Check_read "classmethod" = some (.ref f_Check_read :: pr_Check_read))
    (fi_Check_read : PySem.W.fnIn K f_Check_read = true)
    (l_Check_read : K.lookup f_Check_read = some ⟨oc_Check_read, od_Check_read, .func (PySem.W.fnOf "read" "Check.read" (fnArgs s_Check_read) (fnBody s_Check_read) (fnScope s_Check_read) .none kV_Check_read dc_Check_read pm_Check_read an_Check_read cd_Check_read ct_Check_read), sl_Check_read⟩)
    (c_Check_read : PySem.W.codeIn K cd_Check_read "Check.read" = true)
    (rd_Check : PySem.W.readsIn K C_Check (.type "type") = true)
    (ga_Check : PySem.W.specialIn K (.ref C_Check) "__getattribute__" = some (some (.builtin "type.__getattribute__")))
    (a_Check_step : PySem.W.findIn K (.ref C_Check) "step" = some (some (.ref f_Check_step)))
    (i_Check_step : PySem.W.isFn K (.ref f_Check_step) = true)
    (l_Check_step : K.lookup f_Check_step = some ⟨oc_Check_step, od_Check_step, .func (PySem.W.fnOf "step" "Check.step" (fnArgs s_Check_step) (fnBody s_Check_step) (fnScope s_Check_step) .none kV_Check_step dc_Check_step pm_Check_step an_Check_step cd_Check_step ct_Check_step), sl_Check_step⟩)
    (c_Check_step : PySem.W.codeIn K cd_Check_step "Check.step" = true)
    (k_Check_step : PySem.W.keepIn K (.ref f_Check_step) = true)
    (a_Check_rest : PySem.W.findIn K (.ref C_Check) "rest" = some (some (.ref f_Check_rest)))
    (i_Check_rest : PySem.W.isFn K (.ref f_Check_rest) = true)
    (l_Check_rest : K.lookup f_Check_rest = some ⟨oc_Check_rest, od_Check_rest, .func (PySem.W.fnOf "rest" "Check.rest" (fnArgs s_Check_rest) (fnBody s_Check_rest) (fnScope s_Check_rest) .none kV_Check_rest dc_Check_rest pm_Check_rest an_Check_rest cd_Check_rest ct_Check_rest), sl_Check_rest⟩)
    (c_Check_rest : PySem.W.codeIn K cd_Check_rest "Check.rest" = true)
    (k_Check_rest : PySem.W.keepIn K (.ref f_Check_rest) = true)
    (a_Check_degree : PySem.W.findIn K (.ref C_Check) "degree" = some (some (.ref p_Check_degree)))
    (g_Check_degree : PySem.W.specialIn K (.ref p_Check_degree) "__get__" = some (some (.builtin "property.__get__")))
    (t_Check_degree : PySem.W.takesIn K (.ref p_Check_degree) = some true)
    (r_Check_degree : PySem.W.recIn K p_Check_degree "property" = some (.ref f_Check_degree :: pr_Check_degree))
    (l_Check_degree : K.lookup f_Check_degree = some ⟨oc_Check_degree, od_Check_degree, .func (PySem.W.fnOf "degree" "Check.degree" (fnArgs s_Check_degree) (fnBody s_Check_degree) (fnScope s_Check_degree) .none kV_Check_degree dc_Check_degree pm_Check_degree an_Check_degree cd_Check_degree ct_Check_degree), sl_Check_degree⟩)
    (c_Check_degree : PySem.W.codeIn K cd_Check_degree "Check.degree" = true)
    (a_Check_bits_for : PySem.W.findIn K (.ref C_Check) "bits_for" = some (some (.ref f_Check_bits_for)))
    (i_Check_bits_for : PySem.W.isFn K (.ref f_Check_bits_for) = true)
    (l_Check_bits_for : K.lookup f_Check_bits_for = some ⟨oc_Check_bits_for, od_Check_bits_for, .func (PySem.W.fnOf "bits_for" "Check.bits_for" (fnArgs s_Check_bits_for) (fnBody s_Check_bits_for) (fnScope s_Check_bits_for) .none kV_Check_bits_for dc_Check_bits_for pm_Check_bits_for an_Check_bits_for cd_Check_bits_for ct_Check_bits_for), sl_Check_bits_for⟩)
    (c_Check_bits_for : PySem.W.codeIn K cd_Check_bits_for "Check.bits_for" = true)
    (k_Check_bits_for : PySem.W.keepIn K (.ref f_Check_bits_for) = true)
    (a_Check_is_good : PySem.W.findIn K (.ref C_Check) "is_good" = some (some (.ref f_Check_is_good)))
    (i_Check_is_good : PySem.W.isFn K (.ref f_Check_is_good) = true)
    (l_Check_is_good : K.lookup f_Check_is_good = some ⟨oc_Check_is_good, od_Check_is_good, .func (PySem.W.fnOf "is_good" "Check.is_good" (fnArgs s_Check_is_good) (fnBody s_Check_is_good) (fnScope s_Check_is_good) .none kV_Check_is_good dc_Check_is_good pm_Check_is_good an_Check_is_good cd_Check_is_good ct_Check_is_good), sl_Check_is_good⟩)
    (c_Check_is_good : PySem.W.codeIn K cd_Check_is_good "Check.is_good" = true)
    (k_Check_is_good : PySem.W.keepIn K (.ref f_Check_is_good) = true)
    (aC_Rule : PySem.W.nsIn K mainGlobals "Rule" = some (some (.ref C_Rule)))
    (pg_Rule : PySem.W.plainGet K C_Rule Str.empty = true)
    (hd_Rule : PySem.W.hasDictIn K C_Rule = true)
    (po_Rule : PySem.W.plainOver K C_Rule = true)
    (sa_Rule : PySem.W.findIn K (.ref C_Rule) "__setattr__" = some (some (.builtin "object.__setattr__")))
    (mk_Rule : PySem.W.makesIn K C_Rule = true)
    (kc_Rule : PySem.W.keepIn K (.ref C_Rule) = true)
    (n_Rule_flag : PySem.W.findIn K (.ref C_Rule) "flag" = some none)
    (n_Rule_stuffs : PySem.W.findIn K (.ref C_Rule) "stuffs" = some none)
    (a_Rule_put : PySem.W.findIn K (.ref C_Rule) "put" = some (some (.ref f_Rule_put)))
    (i_Rule_put : PySem.W.isFn K (.ref f_Rule_put) = true)
    (l_Rule_put : K.lookup f_Rule_put = some ⟨oc_Rule_put, od_Rule_put, .func (PySem.W.fnOf "put" "Rule.put" (fnArgs s_Rule_put) (fnBody s_Rule_put) (fnScope s_Rule_put) .none kV_Rule_put dc_Rule_put pm_Rule_put an_Rule_put cd_Rule_put ct_Rule_put), sl_Rule_put⟩)
    (c_Rule_put : PySem.W.codeIn K cd_Rule_put "Rule.put" = true)
    (k_Rule_put : PySem.W.keepIn K (.ref f_Rule_put) = true)
    (a_Rule_longest : PySem.W.findIn K (.ref C_Rule) "longest" = some (some (.ref p_Rule_longest)))
    (g_Rule_longest : PySem.W.specialIn K (.ref p_Rule_longest) "__get__" = some (some (.builtin "property.__get__")))
    (t_Rule_longest : PySem.W.takesIn K (.ref p_Rule_longest) = some true)
    (r_Rule_longest : PySem.W.recIn K p_Rule_longest "property" = some (.ref f_Rule_longest :: pr_Rule_longest))
    (l_Rule_longest : K.lookup f_Rule_longest = some ⟨oc_Rule_longest, od_Rule_longest, .func (PySem.W.fnOf "longest" "Rule.longest" (fnArgs s_Rule_longest) (fnBody s_Rule_longest) (fnScope s_Rule_longest) .none kV_Rule_longest dc_Rule_longest pm_Rule_longest an_Rule_longest cd_Rule_longest ct_Rule_longest), sl_Rule_longest⟩)
    (c_Rule_longest : PySem.W.codeIn K cd_Rule_longest "Rule.longest" = true)
    (a_Rule_put_in : PySem.W.findIn K (.ref C_Rule) "put_in" = some (some (.ref f_Rule_put_in)))
    (i_Rule_put_in : PySem.W.isFn K (.ref f_Rule_put_in) = true)
    (l_Rule_put_in : K.lookup f_Rule_put_in = some ⟨oc_Rule_put_in, od_Rule_put_in, .func (PySem.W.fnOf "put_in" "Rule.put_in" (fnArgs s_Rule_put_in) (fnBody s_Rule_put_in) (fnScope s_Rule_put_in) .none kV_Rule_put_in dc_Rule_put_in pm_Rule_put_in an_Rule_put_in cd_Rule_put_in ct_Rule_put_in), sl_Rule_put_in⟩)
    (c_Rule_put_in : PySem.W.codeIn K cd_Rule_put_in "Rule.put_in" = true)
    (k_Rule_put_in : PySem.W.keepIn K (.ref f_Rule_put_in) = true)
    (a_Rule_is_endless : PySem.W.findIn K (.ref C_Rule) "is_endless" = some (some (.ref f_Rule_is_endless)))
    (i_Rule_is_endless : PySem.W.isFn K (.ref f_Rule_is_endless) = true)
    (l_Rule_is_endless : K.lookup f_Rule_is_endless = some ⟨oc_Rule_is_endless, od_Rule_is_endless, .func (PySem.W.fnOf "is_endless" "Rule.is_endless" (fnArgs s_Rule_is_endless) (fnBody s_Rule_is_endless) (fnScope s_Rule_is_endless) .none kV_Rule_is_endless dc_Rule_is_endless pm_Rule_is_endless an_Rule_is_endless cd_Rule_is_endless ct_Rule_is_endless), sl_Rule_is_endless⟩)
    (c_Rule_is_endless : PySem.W.codeIn K cd_Rule_is_endless "Rule.is_endless" = true)
    (k_Rule_is_endless : PySem.W.keepIn K (.ref f_Rule_is_endless) = true)
    (a_Rule_init : PySem.W.findIn K (.ref C_Rule) "__init__" = some (some (.ref f_Rule_init)))
    (i_Rule_init : PySem.W.isFn K (.ref f_Rule_init) = true)
    (l_Rule_init : K.lookup f_Rule_init = some ⟨oc_Rule_init, od_Rule_init, .func (PySem.W.fnOf "__init__" "Rule.__init__" (fnArgs s_Rule_init) (fnBody s_Rule_init) (fnScope s_Rule_init) (.ref dT_Rule_init) kV_Rule_init dc_Rule_init pm_Rule_init an_Rule_init cd_Rule_init ct_Rule_init), sl_Rule_init⟩)
    (c_Rule_init : PySem.W.codeIn K cd_Rule_init "Rule.__init__" = true)
    (k_Rule_init : PySem.W.keepIn K (.ref f_Rule_init) = true)
    (dl_Rule_init : K.lookup dT_Rule_init = some ⟨.type "tuple", dd_Rule_init, .seq #[.ref dE_R] dn_Rule_init, ds_Rule_init⟩)
    (dlE_Rule : K.lookup dE_R = some ⟨.type "tuple", dde_R, .seq #[] dne_R, dse_R⟩)
    (aC_InvalidCheck : PySem.W.nsIn K mainGlobals "InvalidCheck" = some (some (.ref C_InvalidCheck)))
    (elk_InvalidCheck : K.lookup C_InvalidCheck = some (excClassObj Enm_InvalidCheck Eq_InvalidCheck C_InvalidCheck EN_InvalidCheck Ebs_InvalidCheck Ebm_InvalidCheck true Esn_InvalidCheck Esub_InvalidCheck Eab_InvalidCheck Ecol_InvalidCheck Edd_InvalidCheck E0_InvalidCheck E1_InvalidCheck E2_InvalidCheck E3_InvalidCheck E5_InvalidCheck "ValueError.__new__"))
    (erf_InvalidCheck : PySem.HandSPX.refsVE Ebm_InvalidCheck = true)
    (sa_InvalidCheck : PySem.W.findIn K (.ref C_InvalidCheck) "__setattr__" = some (some (.builtin "object.__setattr__")))
    (exC_InvalidCheck : PySem.W.subIn K (.ref C_InvalidCheck) (.type "BaseException") = some true)
    (tyC_InvalidCheck : PySem.W.typeIn K (.ref C_InvalidCheck) = some (.type "type"))
    (kC_InvalidCheck : PySem.W.keepIn K (.ref C_InvalidCheck) = true)
    (no_InvalidCheck : PySem.W.findIn K (.ref C_InvalidCheck) "word" = some none)
    (a_InvalidCheck : PySem.W.findIn K (.ref C_InvalidCheck) "__init__" = some (some (.ref f_InvalidCheck)))
    (t_InvalidCheck : PySem.W.typeIn K (.ref f_InvalidCheck) = some (.type "function"))
    (lk_InvalidCheck : K.lookup f_InvalidCheck = some ⟨oc_InvalidCheck, od_InvalidCheck, .func (PySem.W.fnX "__init__" "InvalidCheck.__init__" (fnArgs s_InvalidCheck_init) (fnBody s_InvalidCheck_init) (fnScope s_InvalidCheck_init) [("__class__", cc_InvalidCheck)] .none kV_InvalidCheck dc_InvalidCheck pm_InvalidCheck an_InvalidCheck (.ref cda_InvalidCheck) ct_InvalidCheck), sl_InvalidCheck⟩)
    (cd_InvalidCheck : PySem.W.codeIn K (.ref cda_InvalidCheck) "InvalidCheck.__init__" = true)
    (cell_InvalidCheck : K.lookup cc_InvalidCheck = some ⟨cl_InvalidCheck, cld_InvalidCheck, .cell (some (.ref C_InvalidCheck)), csl_InvalidCheck⟩)
    (code_InvalidCheck : K.lookup cda_InvalidCheck = some ⟨ccl_InvalidCheck, cdd_InvalidCheck, .fields cvs_InvalidCheck, ccs_InvalidCheck⟩)
    (cfl_InvalidCheck : cvs_InvalidCheck[2]? = some (.str file_InvalidCheck ctf_InvalidCheck))
    (fl_InvalidCheck : ((l.prog.main.file : Str) == file_InvalidCheck) = true)
    (tp_InvalidCheck : (l.prog.main.scope.names.lookup ("super" : Str)).isSome = false)
    (sub_InvalidCheck : PySem.W.mroIn K C_InvalidCheck (.ref C_InvalidCheck) = some true)
    (sup_InvalidCheck : PySem.W.nsIn K mainGlobals "super" = some none)
    (opq_InvalidCheck : PySem.W.nsIn K cStatics "thirdparty.any" = some none)
    (ini_InvalidCheck : PySem.W.ks_superIn K C_InvalidCheck C_InvalidCheck "__init__" = some (some (.builtin "ValueError.__init__")))
    (ve_InvalidCheck : PySem.W.subIn K (.ref C_InvalidCheck) (.type "ValueError") = some true)
    (ehd_InvalidCheck : PySem.W.hasDictIn K C_InvalidCheck = true)
    (esb_InvalidCheck : PySem.W.subIn K (.ref C_InvalidCheck) (.ref C_InvalidCheck) = some true)
    (aC_InvalidText : PySem.W.nsIn K mainGlobals "InvalidText" = some (some (.ref C_InvalidText)))
    (elk_InvalidText : K.lookup C_InvalidText = some (excClassObj Enm_InvalidText Eq_InvalidText C_InvalidText EN_InvalidText Ebs_InvalidText Ebm_InvalidText true Esn_InvalidText Esub_InvalidText Eab_InvalidText Ecol_InvalidText Edd_InvalidText E0_InvalidText E1_InvalidText E2_InvalidText E3_InvalidText E5_InvalidText "ValueError.__new__"))
    (erf_InvalidText : PySem.HandSPX.refsVE Ebm_InvalidText = true)
    (sa_InvalidText : PySem.W.findIn K (.ref C_InvalidText) "__setattr__" = some (some (.builtin "object.__setattr__")))
    (exC_InvalidText : PySem.W.subIn K (.ref C_InvalidText) (.type "BaseException") = some true)
    (tyC_InvalidText : PySem.W.typeIn K (.ref C_InvalidText) = some (.type "type"))
    (kC_InvalidText : PySem.W.keepIn K (.ref C_InvalidText) = true)
    (no_InvalidText : PySem.W.findIn K (.ref C_InvalidText) "at" = some none)
    (a_InvalidText : PySem.W.findIn K (.ref C_InvalidText) "__init__" = some (some (.ref f_InvalidText)))
    (t_InvalidText : PySem.W.typeIn K (.ref f_InvalidText) = some (.type "function"))
    (lk_InvalidText : K.lookup f_InvalidText = some ⟨oc_InvalidText, od_InvalidText, .func (PySem.W.fnX "__init__" "InvalidText.__init__" (fnArgs s_InvalidText_init) (fnBody s_InvalidText_init) (fnScope s_InvalidText_init) [("__class__", cc_InvalidText)] .none kV_InvalidText dc_InvalidText pm_InvalidText an_InvalidText (.ref cda_InvalidText) ct_InvalidText), sl_InvalidText⟩)
    (cd_InvalidText : PySem.W.codeIn K (.ref cda_InvalidText) "InvalidText.__init__" = true)
    (cell_InvalidText : K.lookup cc_InvalidText = some ⟨cl_InvalidText, cld_InvalidText, .cell (some (.ref C_InvalidText)), csl_InvalidText⟩)
    (code_InvalidText : K.lookup cda_InvalidText = some ⟨ccl_InvalidText, cdd_InvalidText, .fields cvs_InvalidText, ccs_InvalidText⟩)
    (cfl_InvalidText : cvs_InvalidText[2]? = some (.str file_InvalidText ctf_InvalidText))
    (fl_InvalidText : ((l.prog.main.file : Str) == file_InvalidText) = true)
    (tp_InvalidText : (l.prog.main.scope.names.lookup ("super" : Str)).isSome = false)
    (sub_InvalidText : PySem.W.mroIn K C_InvalidText (.ref C_InvalidText) = some true)
    (sup_InvalidText : PySem.W.nsIn K mainGlobals "super" = some none)
    (opq_InvalidText : PySem.W.nsIn K cStatics "thirdparty.any" = some none)
    (ini_InvalidText : PySem.W.ks_superIn K C_InvalidText C_InvalidText "__init__" = some (some (.builtin "ValueError.__init__")))
    (ve_InvalidText : PySem.W.subIn K (.ref C_InvalidText) (.type "ValueError") = some true)
    (ehd_InvalidText : PySem.W.hasDictIn K C_InvalidText = true)
    (esb_InvalidText : PySem.W.subIn K (.ref C_InvalidText) (.ref C_InvalidText) = some true)
    (ega_InvalidCheck : PySem.W.findIn K (.ref C_InvalidCheck) "__getattribute__" = some (some (.builtin "BaseException.__getattribute__")))
    (egg_InvalidCheck : PySem.W.findIn K (.ref C_InvalidCheck) "__getattr__" = some none)
    (ega_InvalidText : PySem.W.findIn K (.ref C_InvalidText) "__getattribute__" = some (some (.builtin "BaseException.__getattribute__")))
    (egg_InvalidText : PySem.W.findIn K (.ref C_InvalidText) "__getattr__" = some none)
    (mro_Check : PySem.W.mroIn K C_Check (.type "object") = some true)
    (neq_Check : PySem.W.findIn K (.ref C_Check) "__ne__" = some (some (.builtin "object.__ne__")))
    (gBITS : PySem.W.nsIn K mainGlobals "BITS" = some (some (.str "01" tB)))
    (gMIDDLE : PySem.W.nsIn K mainGlobals "MIDDLE" = some (some (.str " start " tM)))
    (cls_Check : PySem.W.findIn K (.ref C_Check) "__class__" = some (some (.builtin "object.__class__")))
    (clg_X : PySem.W.specialIn K (.builtin "object.__class__") "__get__" = some (some (.builtin "getset_descriptor.__get__")))
    (clt_X : PySem.W.takesIn K (.builtin "object.__class__") = some true)
    (z_len : PySem.W.nsIn K mainGlobals "len" = some none)
    (z_abs : PySem.W.nsIn K mainGlobals "abs" = some none)
    (z_int : PySem.W.nsIn K mainGlobals "int" = some none)
    (z_range : PySem.W.nsIn K mainGlobals "range" = some none)
    (z_max : PySem.W.nsIn K mainGlobals "max" = some none)
    (z_min : PySem.W.nsIn K mainGlobals "min" = some none)
    (z_enumerate : PySem.W.nsIn K mainGlobals "enumerate" = some none)
    (z_zip : PySem.W.nsIn K mainGlobals "zip" = some none)
    (z_dict : PySem.W.nsIn K mainGlobals "dict" = some none)
    (z_list : PySem.W.nsIn K mainGlobals "list" = some none)
    (z_tuple : PySem.W.nsIn K mainGlobals "tuple" = some none)
    (z_isinstance : PySem.W.nsIn K mainGlobals "isinstance" = some none)
    (z_bool : PySem.W.nsIn K mainGlobals "bool" = some none)
    (z_str : PySem.W.nsIn K mainGlobals "str" = some none)
    (z_all : PySem.W.nsIn K mainGlobals "all" = some none)
    (z_any : PySem.W.nsIn K mainGlobals "any" = some none)
    (z_sum : PySem.W.nsIn K mainGlobals "sum" = some none)
    (z_sorted : PySem.W.nsIn K mainGlobals "sorted" = some none)
    (z_repr : PySem.W.nsIn K mainGlobals "repr" = some none) :
    ∃ fd : FuncData, (∀ (s : Shared) (v : Value), BindsTo s fd ⟨[v], []⟩ [("_law_script", v)]) ∧ ∀ base : Heap, K.In base → base.Ns mainGlobals mg → FnOk l.prog w K mg base CX0 8 fa fd ["_law_script"] (spLaw K) := by
  have e : f_law = fa := Value.ref.inj (Option.some.inj ((PySem.W.mg_of X G a_law).symm.trans hfa))
  subst e
  have T : Tx mg := ⟨PySem.W.mg_none_of X G z_len, PySem.W.mg_none_of X G z_abs, PySem.W.mg_none_of X G z_int, PySem.W.mg_none_of X G z_range, PySem.W.mg_none_of X G z_max, PySem.W.mg_none_of X G z_min, PySem.W.mg_none_of X G z_enumerate, PySem.W.mg_none_of X G z_zip, PySem.W.mg_none_of X G z_dict, PySem.W.mg_none_of X G z_list, PySem.W.mg_none_of X G z_tuple, PySem.W.mg_none_of X G z_isinstance, PySem.W.mg_none_of X G z_bool, PySem.W.mg_none_of X G z_str, PySem.W.mg_none_of X G z_all, PySem.W.mg_none_of X G z_any, PySem.W.mg_none_of X G z_sum, PySem.W.mg_none_of X G z_sorted, PySem.W.mg_none_of X G z_repr⟩
  have F_put_behind : Def K mg "put_behind" s_put_behind f_put_behind (PySem.W.fnOf "put_behind" "put_behind" (fnArgs s_put_behind) (fnBody s_put_behind) (fnScope s_put_behind) .none kV_put_behind dc_put_behind pm_put_behind an_put_behind cd_put_behind ct_put_behind) := ⟨⟨_, _, _, _, _, _, _, _, _, _, rfl, l_put_behind, c_put_behind⟩, PySem.W.mg_of X G a_put_behind, k_put_behind⟩
  have b_put_behind := C8.Fun.binds (ps := ["rule", "line"]) F_put_behind.fn rfl fun _ _ _ _ _ _ us hl => match us, hl with | [_, _], _ => rfl
  have F_body : Def K mg "body" s_body f_body (PySem.W.fnOf "body" "body" (fnArgs s_body) (fnBody s_body) (fnScope s_body) .none kV_body dc_body pm_body an_body cd_body ct_body) := ⟨⟨_, _, _, _, _, _, _, _, _, _, rfl, l_body, c_body⟩, PySem.W.mg_of X G a_body, k_body⟩
  have b_body := C8.Fun.binds (ps := ["rule", "message"]) F_body.fn rfl fun _ _ _ _ _ _ us hl => match us, hl with | [_, _], _ => rfl
  have F_taken_out : Def K mg "taken_out" s_taken_out f_taken_out (PySem.W.fnOf "taken_out" "taken_out" (fnArgs s_taken_out) (fnBody s_taken_out) (fnScope s_taken_out) .none kV_taken_out dc_taken_out pm_taken_out an_taken_out cd_taken_out ct_taken_out) := ⟨⟨_, _, _, _, _, _, _, _, _, _, rfl, l_taken_out, c_taken_out⟩, PySem.W.mg_of X G a_taken_out, k_taken_out⟩
  have b_taken_out := C8.Fun.binds (ps := ["rule", "line"]) F_taken_out.fn rfl fun _ _ _ _ _ _ us hl => match us, hl with | [_, _], _ => rfl
  have F_send : Def K mg "send" s_send f_send (PySem.W.fnOf "send" "send" (fnArgs s_send) (fnBody s_send) (fnScope s_send) .none kV_send dc_send pm_send an_send cd_send ct_send) := ⟨⟨_, _, _, _, _, _, _, _, _, _, rfl, l_send, c_send⟩, PySem.W.mg_of X G a_send, k_send⟩
  have b_send := C8.Fun.binds (ps := ["rule", "check", "data"]) F_send.fn rfl fun _ _ _ _ _ _ us hl => match us, hl with | [_, _, _], _ => rfl
  have F_read_part : Def K mg "read_part" s_read_part f_read_part (PySem.W.fnOf "read_part" "read_part" (fnArgs s_read_part) (fnBody s_read_part) (fnScope s_read_part) .none kV_read_part dc_read_part pm_read_part an_read_part cd_read_part ct_read_part) := ⟨⟨_, _, _, _, _, _, _, _, _, _, rfl, l_read_part, c_read_part⟩, PySem.W.mg_of X G a_read_part, k_read_part⟩
  have b_read_part := C8.Fun.binds (ps := ["rule", "check", "part"]) F_read_part.fn rfl fun _ _ _ _ _ _ us hl => match us, hl with | [_, _, _], _ => rfl
  have F_receive : Def K mg "receive" s_receive f_receive (PySem.W.fnOf "receive" "receive" (fnArgs s_receive) (fnBody s_receive) (fnScope s_receive) .none kV_receive dc_receive pm_receive an_receive cd_receive ct_receive) := ⟨⟨_, _, _, _, _, _, _, _, _, _, rfl, l_receive, c_receive⟩, PySem.W.mg_of X G a_receive, k_receive⟩
  have b_receive := C8.Fun.binds (ps := ["rule", "check", "raw"]) F_receive.fn rfl fun _ _ _ _ _ _ us hl => match us, hl with | [_, _, _], _ => rfl
  have F_cut_up : Def K mg "cut_up" s_cut_up f_cut_up (PySem.W.fnOf "cut_up" "cut_up" (fnArgs s_cut_up) (fnBody s_cut_up) (fnScope s_cut_up) .none kV_cut_up dc_cut_up pm_cut_up an_cut_up cd_cut_up ct_cut_up) := ⟨⟨_, _, _, _, _, _, _, _, _, _, rfl, l_cut_up, c_cut_up⟩, PySem.W.mg_of X G a_cut_up, k_cut_up⟩
  have b_cut_up := C8.Fun.binds (ps := ["rule", "check", "raw"]) F_cut_up.fn rfl fun _ _ _ _ _ _ us hl => match us, hl with | [_, _, _], _ => rfl
  have F_frames : Def K mg "frames" s_frames f_frames (PySem.W.fnOf "frames" "frames" (fnArgs s_frames) (fnBody s_frames) (fnScope s_frames) .none kV_frames dc_frames pm_frames an_frames cd_frames ct_frames) := ⟨⟨_, _, _, _, _, _, _, _, _, _, rfl, l_frames, c_frames⟩, PySem.W.mg_of X G a_frames, k_frames⟩
  have b_frames := C8.Fun.binds (ps := ["rule", "check", "raw"]) F_frames.fn rfl fun _ _ _ _ _ _ us hl => match us, hl with | [_, _, _], _ => rfl
  have F_is_sequence : Def K mg "is_sequence" s_is_sequence f_is_sequence (PySem.W.fnOf "is_sequence" "is_sequence" (fnArgs s_is_sequence) (fnBody s_is_sequence) (fnScope s_is_sequence) .none kV_is_sequence dc_is_sequence pm_is_sequence an_is_sequence cd_is_sequence ct_is_sequence) := ⟨⟨_, _, _, _, _, _, _, _, _, _, rfl, l_is_sequence, c_is_sequence⟩, PySem.W.mg_of X G a_is_sequence, k_is_sequence⟩
  have b_is_sequence := C8.Fun.binds (ps := ["value"]) F_is_sequence.fn rfl fun _ _ _ _ _ _ us hl => match us, hl with | [_], _ => rfl
  have F_is_word : Def K mg "is_word" s_is_word f_is_word (PySem.W.fnOf "is_word" "is_word" (fnArgs s_is_word) (fnBody s_is_word) (fnScope s_is_word) .none kV_is_word dc_is_word pm_is_word an_is_word cd_is_word ct_is_word) := ⟨⟨_, _, _, _, _, _, _, _, _, _, rfl, l_is_word, c_is_word⟩, PySem.W.mg_of X G a_is_word, k_is_word⟩
  have b_is_word := C8.Fun.binds (ps := ["value"]) F_is_word.fn rfl fun _ _ _ _ _ _ us hl => match us, hl with | [_], _ => rfl
  have F_is_bit : Def K mg "is_bit" s_is_bit f_is_bit (PySem.W.fnOf "is_bit" "is_bit" (fnArgs s_is_bit) (fnBody s_is_bit) (fnScope s_is_bit) .none kV_is_bit dc_is_bit pm_is_bit an_is_bit cd_is_bit ct_is_bit) := ⟨⟨_, _, _, _, _, _, _, _, _, _, rfl, l_is_bit, c_is_bit⟩, PySem.W.mg_of X G a_is_bit, k_is_bit⟩
  have b_is_bit := C8.Fun.binds (ps := ["value"]) F_is_bit.fn rfl fun _ _ _ _ _ _ us hl => match us, hl with | [_], _ => rfl
  have F_tail : Def K mg "tail" s_tail f_tail (PySem.W.fnOf "tail" "tail" (fnArgs s_tail) (fnBody s_tail) (fnScope s_tail) .none kV_tail dc_tail pm_tail an_tail cd_tail ct_tail) := ⟨⟨_, _, _, _, _, _, _, _, _, _, rfl, l_tail, c_tail⟩, PySem.W.mg_of X G a_tail, k_tail⟩
  have b_tail := C8.Fun.binds (ps := ["line", "size"]) F_tail.fn rfl fun _ _ _ _ _ _ us hl => match us, hl with | [_, _], _ => rfl
  have F_is_stuff : Def K mg "is_stuff" s_is_stuff f_is_stuff (PySem.W.fnOf "is_stuff" "is_stuff" (fnArgs s_is_stuff) (fnBody s_is_stuff) (fnScope s_is_stuff) .none kV_is_stuff dc_is_stuff pm_is_stuff an_is_stuff cd_is_stuff ct_is_stuff) := ⟨⟨_, _, _, _, _, _, _, _, _, _, rfl, l_is_stuff, c_is_stuff⟩, PySem.W.mg_of X G a_is_stuff, k_is_stuff⟩
  have b_is_stuff := C8.Fun.binds (ps := ["value"]) F_is_stuff.fn rfl fun _ _ _ _ _ _ us hl => match us, hl with | [_], _ => rfl
  have F_are_stuffs : Def K mg "are_stuffs" s_are_stuffs f_are_stuffs (PySem.W.fnOf "are_stuffs" "are_stuffs" (fnArgs s_are_stuffs) (fnBody s_are_stuffs) (fnScope s_are_stuffs) .none kV_are_stuffs dc_are_stuffs pm_are_stuffs an_are_stuffs cd_are_stuffs ct_are_stuffs) := ⟨⟨_, _, _, _, _, _, _, _, _, _, rfl, l_are_stuffs, c_are_stuffs⟩, PySem.W.mg_of X G a_are_stuffs, k_are_stuffs⟩
  have b_are_stuffs := C8.Fun.binds (ps := ["value"]) F_are_stuffs.fn rfl fun _ _ _ _ _ _ us hl => match us, hl with | [_], _ => rfl
  have F_l_numbers : Def K mg "_law_numbers" s_l_numbers f_l_numbers (PySem.W.fnOf "_law_numbers" "_law_numbers" (fnArgs s_l_numbers) (fnBody s_l_numbers) (fnScope s_l_numbers) .none kV_l_numbers dc_l_numbers pm_l_numbers an_l_numbers cd_l_numbers ct_l_numbers) := ⟨⟨_, _, _, _, _, _, _, _, _, _, rfl, l_l_numbers, c_l_numbers⟩, PySem.W.mg_of X G a_l_numbers, k_l_numbers⟩
  have b_l_numbers := C8.Fun.binds (ps := ["_law_script"]) F_l_numbers.fn rfl fun _ _ _ _ _ _ us hl => match us, hl with | [_], _ => rfl
  have F_law : Def K mg "law" s_law f_law (PySem.W.fnOf "law" "law" (fnArgs s_law) (fnBody s_law) (fnScope s_law) .none kV_law dc_law pm_law an_law cd_law ct_law) := ⟨⟨_, _, _, _, _, _, _, _, _, _, rfl, l_law, c_law⟩, PySem.W.mg_of X G a_law, k_law⟩
  have b_law := C8.Fun.binds (ps := ["_law_script"]) F_law.fn rfl fun _ _ _ _ _ _ us hl => match us, hl with | [_], _ => rfl
  have TX_InvalidCheck : L2.OexC K C_InvalidCheck := ⟨⟨_, _, _, _, _, _, _, _, _, _, _, _, _, _, _, elk_InvalidCheck, erf_InvalidCheck⟩, sa_InvalidCheck, exC_InvalidCheck, tyC_InvalidCheck, kC_InvalidCheck⟩
  have EF_InvalidCheck : ExS.ExF l.prog K mg C_InvalidCheck "word" f_InvalidCheck cc_InvalidCheck cda_InvalidCheck file_InvalidCheck := ⟨TX_InvalidCheck, no_InvalidCheck, ⟨_, _, _, cell_InvalidCheck⟩, ⟨_, _, _, _, _, code_InvalidCheck, cfl_InvalidCheck⟩, fl_InvalidCheck, tp_InvalidCheck, sub_InvalidCheck, PySem.W.mg_none_of X G sup_InvalidCheck, opq_InvalidCheck, ini_InvalidCheck, ve_InvalidCheck⟩
  have XF_InvalidCheck : XfC K C_InvalidCheck := ⟨ega_InvalidCheck, egg_InvalidCheck, exC_InvalidCheck, ehd_InvalidCheck⟩
  have nw_InvalidCheck := no_InvalidCheck
  have g_InvalidCheck := PySem.W.mg_of X G aC_InvalidCheck
  have ex_InvalidCheck := PySem.W.exm_ref exC_InvalidCheck ehd_InvalidCheck tyC_InvalidCheck esb_InvalidCheck
  have TX_InvalidText : L2.OexC K C_InvalidText := ⟨⟨_, _, _, _, _, _, _, _, _, _, _, _, _, _, _, elk_InvalidText, erf_InvalidText⟩, sa_InvalidText, exC_InvalidText, tyC_InvalidText, kC_InvalidText⟩
  have EF_InvalidText : ExS.ExF l.prog K mg C_InvalidText "at" f_InvalidText cc_InvalidText cda_InvalidText file_InvalidText := ⟨TX_InvalidText, no_InvalidText, ⟨_, _, _, cell_InvalidText⟩, ⟨_, _, _, _, _, code_InvalidText, cfl_InvalidText⟩, fl_InvalidText, tp_InvalidText, sub_InvalidText, PySem.W.mg_none_of X G sup_InvalidText, opq_InvalidText, ini_InvalidText, ve_InvalidText⟩
  have XF_InvalidText : XfC K C_InvalidText := ⟨ega_InvalidText, egg_InvalidText, exC_InvalidText, ehd_InvalidText⟩
  have nw_InvalidText := no_InvalidText
  have g_InvalidText := PySem.W.mg_of X G aC_InvalidText
  have ex_InvalidText := PySem.W.exm_ref exC_InvalidText ehd_InvalidText tyC_InvalidText esb_InvalidText
  have CL_Check : Cls K C_Check := ⟨pg_Check, hd_Check, po_Check, sa_Check⟩
  have F_Check_init : C8.Fun K "__init__" "Check.__init__" s_Check_init f_Check_init (PySem.W.fnOf "__init__" "Check.__init__" (fnArgs s_Check_init) (fnBody s_Check_init) (fnScope s_Check_init) (.ref dT_Check_init) kV_Check_init dc_Check_init pm_Check_init an_Check_init cd_Check_init ct_Check_init) := ⟨_, _, _, _, _, _, _, _, _, _, rfl, l_Check_init, c_Check_init⟩
  have FD_Check_init : FunD K "__init__" "Check.__init__" (fnArgs s_Check_init) (fnBody s_Check_init) (fnScope s_Check_init) [.str "1", .non] [] f_Check_init (PySem.W.fnOf "__init__" "Check.__init__" (fnArgs s_Check_init) (fnBody s_Check_init) (fnScope s_Check_init) (.ref dT_Check_init) kV_Check_init dc_Check_init pm_Check_init an_Check_init cd_Check_init ct_Check_init) := ⟨⟨_, _, _, _, _, _, _, _, _, _, rfl, l_Check_init, c_Check_init, .inr ⟨List.cons_ne_nil _ _, _, _, _, _, rfl, dl_Check_init, rfl, .cons ⟨_, rfl⟩ (.cons rfl .nil)⟩, .inl rfl⟩, k_Check_init⟩
  obtain ⟨ds0_Check_init, vd0_Check_init, bd0_Check_init⟩ := FD_Check_init.binds1 (ps := ["self", "poly", "start"]) 1 0 (List.cons_ne_nil _ _) rfl fun _ _ _ _ _ _ _ us its h1 h2 => match us, its, h1, h2 with | [_], [_, _], _, _ => ⟨_, rfl, rfl⟩
  obtain ⟨ds1_Check_init, vd1_Check_init, bd1_Check_init⟩ := FD_Check_init.binds1 (ps := ["self", "poly", "start"]) 2 1 (List.cons_ne_nil _ _) rfl fun _ _ _ _ _ _ _ us its h1 h2 => match us, its, h1, h2 with | [_, _], [_, _], _, _ => ⟨_, rfl, rfl⟩
  obtain ⟨ds2_Check_init, vd2_Check_init, bd2_Check_init⟩ := FD_Check_init.binds1 (ps := ["self", "poly", "start"]) 3 2 (List.cons_ne_nil _ _) rfl fun _ _ _ _ _ _ _ us its h1 h2 => match us, its, h1, h2 with | [_, _, _], [_, _], _, _ => ⟨_, rfl, rfl⟩
  have F_Check_str : C8.Fun K "__str__" "Check.__str__" s_Check_str f_Check_str (PySem.W.fnOf "__str__" "Check.__str__" (fnArgs s_Check_str) (fnBody s_Check_str) (fnScope s_Check_str) .none kV_Check_str dc_Check_str pm_Check_str an_Check_str cd_Check_str ct_Check_str) := ⟨_, _, _, _, _, _, _, _, _, _, rfl, l_Check_str, c_Check_str⟩
  have b_Check_str := C8.Fun.binds (ps := ["self"]) F_Check_str rfl fun _ _ _ _ _ _ us hl => match us, hl with | [_], _ => rfl
  have F_Check_eq : C8.Fun K "__eq__" "Check.__eq__" s_Check_eq f_Check_eq (PySem.W.fnOf "__eq__" "Check.__eq__" (fnArgs s_Check_eq) (fnBody s_Check_eq) (fnScope s_Check_eq) .none kV_Check_eq dc_Check_eq pm_Check_eq an_Check_eq cd_Check_eq ct_Check_eq) := ⟨_, _, _, _, _, _, _, _, _, _, rfl, l_Check_eq, c_Check_eq⟩
  have b_Check_eq := C8.Fun.binds (ps := ["self", "other"]) F_Check_eq rfl fun _ _ _ _ _ _ us hl => match us, hl with | [_, _], _ => rfl
  have F_Check_read : C8.Fun K "read" "Check.read" s_Check_read f_Check_read (PySem.W.fnOf "read" "Check.read" (fnArgs s_Check_read) (fnBody s_Check_read) (fnScope s_Check_read) .none kV_Check_read dc_Check_read pm_Check_read an_Check_read cd_Check_read ct_Check_read) := ⟨_, _, _, _, _, _, _, _, _, _, rfl, l_Check_read, c_Check_read⟩
  have b_Check_read := C8.Fun.binds (ps := ["cls", "text"]) F_Check_read rfl fun _ _ _ _ _ _ us hl => match us, hl with | [_, _], _ => rfl
  have F_Check_step : C8.Fun K "step" "Check.step" s_Check_step f_Check_step (PySem.W.fnOf "step" "Check.step" (fnArgs s_Check_step) (fnBody s_Check_step) (fnScope s_Check_step) .none kV_Check_step dc_Check_step pm_Check_step an_Check_step cd_Check_step ct_Check_step) := ⟨_, _, _, _, _, _, _, _, _, _, rfl, l_Check_step, c_Check_step⟩
  have b_Check_step := C8.Fun.binds (ps := ["self", "rest", "bit"]) F_Check_step rfl fun _ _ _ _ _ _ us hl => match us, hl with | [_, _, _], _ => rfl
  have F_Check_rest : C8.Fun K "rest" "Check.rest" s_Check_rest f_Check_rest (PySem.W.fnOf "rest" "Check.rest" (fnArgs s_Check_rest) (fnBody s_Check_rest) (fnScope s_Check_rest) .none kV_Check_rest dc_Check_rest pm_Check_rest an_Check_rest cd_Check_rest ct_Check_rest) := ⟨_, _, _, _, _, _, _, _, _, _, rfl, l_Check_rest, c_Check_rest⟩
  have b_Check_rest := C8.Fun.binds (ps := ["self", "bits"]) F_Check_rest rfl fun _ _ _ _ _ _ us hl => match us, hl with | [_, _], _ => rfl
  have F_Check_degree : C8.Fun K "degree" "Check.degree" s_Check_degree f_Check_degree (PySem.W.fnOf "degree" "Check.degree" (fnArgs s_Check_degree) (fnBody s_Check_degree) (fnScope s_Check_degree) .none kV_Check_degree dc_Check_degree pm_Check_degree an_Check_degree cd_Check_degree ct_Check_degree) := ⟨_, _, _, _, _, _, _, _, _, _, rfl, l_Check_degree, c_Check_degree⟩
  have b_Check_degree := C8.Fun.binds (ps := ["self"]) F_Check_degree rfl fun _ _ _ _ _ _ us hl => match us, hl with | [_], _ => rfl
  have F_Check_bits_for : C8.Fun K "bits_for" "Check.bits_for" s_Check_bits_for f_Check_bits_for (PySem.W.fnOf "bits_for" "Check.bits_for" (fnArgs s_Check_bits_for) (fnBody s_Check_bits_for) (fnScope s_Check_bits_for) .none kV_Check_bits_for dc_Check_bits_for pm_Check_bits_for an_Check_bits_for cd_Check_bits_for ct_Check_bits_for) := ⟨_, _, _, _, _, _, _, _, _, _, rfl, l_Check_bits_for, c_Check_bits_for⟩
  have b_Check_bits_for := C8.Fun.binds (ps := ["self", "data"]) F_Check_bits_for rfl fun _ _ _ _ _ _ us hl => match us, hl with | [_, _], _ => rfl
  have F_Check_is_good : C8.Fun K "is_good" "Check.is_good" s_Check_is_good f_Check_is_good (PySem.W.fnOf "is_good" "Check.is_good" (fnArgs s_Check_is_good) (fnBody s_Check_is_good) (fnScope s_Check_is_good) .none kV_Check_is_good dc_Check_is_good pm_Check_is_good an_Check_is_good cd_Check_is_good ct_Check_is_good) := ⟨_, _, _, _, _, _, _, _, _, _, rfl, l_Check_is_good, c_Check_is_good⟩
  have b_Check_is_good := C8.Fun.binds (ps := ["self", "message"]) F_Check_is_good rfl fun _ _ _ _ _ _ us hl => match us, hl with | [_, _], _ => rfl
  have CL_Rule : Cls K C_Rule := ⟨pg_Rule, hd_Rule, po_Rule, sa_Rule⟩
  have F_Rule_put : C8.Fun K "put" "Rule.put" s_Rule_put f_Rule_put (PySem.W.fnOf "put" "Rule.put" (fnArgs s_Rule_put) (fnBody s_Rule_put) (fnScope s_Rule_put) .none kV_Rule_put dc_Rule_put pm_Rule_put an_Rule_put cd_Rule_put ct_Rule_put) := ⟨_, _, _, _, _, _, _, _, _, _, rfl, l_Rule_put, c_Rule_put⟩
  have b_Rule_put := C8.Fun.binds (ps := ["self", "line"]) F_Rule_put rfl fun _ _ _ _ _ _ us hl => match us, hl with | [_, _], _ => rfl
  have F_Rule_longest : C8.Fun K "longest" "Rule.longest" s_Rule_longest f_Rule_longest (PySem.W.fnOf "longest" "Rule.longest" (fnArgs s_Rule_longest) (fnBody s_Rule_longest) (fnScope s_Rule_longest) .none kV_Rule_longest dc_Rule_longest pm_Rule_longest an_Rule_longest cd_Rule_longest ct_Rule_longest) := ⟨_, _, _, _, _, _, _, _, _, _, rfl, l_Rule_longest, c_Rule_longest⟩
  have b_Rule_longest := C8.Fun.binds (ps := ["self"]) F_Rule_longest rfl fun _ _ _ _ _ _ us hl => match us, hl with | [_], _ => rfl
  have F_Rule_put_in : C8.Fun K "put_in" "Rule.put_in" s_Rule_put_in f_Rule_put_in (PySem.W.fnOf "put_in" "Rule.put_in" (fnArgs s_Rule_put_in) (fnBody s_Rule_put_in) (fnScope s_Rule_put_in) .none kV_Rule_put_in dc_Rule_put_in pm_Rule_put_in an_Rule_put_in cd_Rule_put_in ct_Rule_put_in) := ⟨_, _, _, _, _, _, _, _, _, _, rfl, l_Rule_put_in, c_Rule_put_in⟩
  have b_Rule_put_in := C8.Fun.binds (ps := ["self", "line"]) F_Rule_put_in rfl fun _ _ _ _ _ _ us hl => match us, hl with | [_, _], _ => rfl
  have F_Rule_is_endless : C8.Fun K "is_endless" "Rule.is_endless" s_Rule_is_endless f_Rule_is_endless (PySem.W.fnOf "is_endless" "Rule.is_endless" (fnArgs s_Rule_is_endless) (fnBody s_Rule_is_endless) (fnScope s_Rule_is_endless) .none kV_Rule_is_endless dc_Rule_is_endless pm_Rule_is_endless an_Rule_is_endless cd_Rule_is_endless ct_Rule_is_endless) := ⟨_, _, _, _, _, _, _, _, _, _, rfl, l_Rule_is_endless, c_Rule_is_endless⟩
  have b_Rule_is_endless := C8.Fun.binds (ps := ["self"]) F_Rule_is_endless rfl fun _ _ _ _ _ _ us hl => match us, hl with | [_], _ => rfl
  have F_Rule_init : C8.Fun K "__init__" "Rule.__init__" s_Rule_init f_Rule_init (PySem.W.fnOf "__init__" "Rule.__init__" (fnArgs s_Rule_init) (fnBody s_Rule_init) (fnScope s_Rule_init) (.ref dT_Rule_init) kV_Rule_init dc_Rule_init pm_Rule_init an_Rule_init cd_Rule_init ct_Rule_init) := ⟨_, _, _, _, _, _, _, _, _, _, rfl, l_Rule_init, c_Rule_init⟩
  have FD_Rule_init : FunD K "__init__" "Rule.__init__" (fnArgs s_Rule_init) (fnBody s_Rule_init) (fnScope s_Rule_init) [.ref dE_R] [] f_Rule_init (PySem.W.fnOf "__init__" "Rule.__init__" (fnArgs s_Rule_init) (fnBody s_Rule_init) (fnScope s_Rule_init) (.ref dT_Rule_init) kV_Rule_init dc_Rule_init pm_Rule_init an_Rule_init cd_Rule_init ct_Rule_init) := ⟨⟨_, _, _, _, _, _, _, _, _, _, rfl, l_Rule_init, c_Rule_init, .inr ⟨List.cons_ne_nil _ _, _, _, _, _, rfl, dl_Rule_init, rfl, .cons rfl .nil⟩, .inl rfl⟩, k_Rule_init⟩
  obtain ⟨ds0_Rule_init, vd0_Rule_init, bd0_Rule_init⟩ := FD_Rule_init.binds1 (ps := ["self", "flag", "stuffs"]) 2 0 (List.cons_ne_nil _ _) rfl fun _ _ _ _ _ _ _ us its h1 h2 => match us, its, h1, h2 with | [_, _], [_], _, _ => ⟨_, rfl, rfl⟩
  obtain ⟨ds1_Rule_init, vd1_Rule_init, bd1_Rule_init⟩ := FD_Rule_init.binds1 (ps := ["self", "flag", "stuffs"]) 3 1 (List.cons_ne_nil _ _) rfl fun _ _ _ _ _ _ _ us its h1 h2 => match us, its, h1, h2 with | [_, _, _], [_], _, _ => ⟨_, rfl, rfl⟩
  refine ⟨PySem.W.fnOf "law" "law" (fnArgs s_law) (fnBody s_law) (fnScope s_law) .none kV_law dc_law pm_law an_law cd_law ct_law, fun s v => .of_eq rfl, fun base _ _ => ?_⟩
  have CT : CkT K C_Check := ⟨CL_Check, n_Check_poly, n_Check_start⟩
  have NE_Check : NeT K C_Check := ⟨mro_Check, neq_Check⟩
  have c_l_numbers := cal_l_numbers (P := l.prog) (w := w) (base := base) F_l_numbers b_l_numbers T
  have RT : RuT K C_Rule := ⟨CL_Rule, n_Rule_flag, n_Rule_stuffs⟩
  have g_BITS := PySem.W.mg_of X G gBITS
  have c_is_word := cal_is_word (P := l.prog) (w := w) (base := base) F_is_word b_is_word T g_BITS
  have c_is_sequence := cal_is_sequence (P := l.prog) (w := w) (base := base) F_is_sequence b_is_sequence T
  have c_is_bit := cal_is_bit (P := l.prog) (w := w) (base := base) F_is_bit b_is_bit T c_is_word
  have c_is_stuff := cal_is_stuff (P := l.prog) (w := w) (base := base) F_is_stuff b_is_stuff T c_is_word c_is_bit
  have c_are_stuffs := cal_are_stuffs (P := l.prog) (w := w) (base := base) F_are_stuffs b_are_stuffs T c_is_sequence c_is_stuff
  have c_put := met_put (P := l.prog) (w := w) (base := base) F_Rule_put ⟨a_Rule_put, i_Rule_put, k_Rule_put⟩ b_Rule_put T RT
  have p_longest : Prp l.prog w K mg base 1 C_Rule "longest" (spLongest C_Rule) := ⟨_, _, _, _, CL_Rule, ⟨a_Rule_longest, g_Rule_longest, t_Rule_longest, ⟨_, r_Rule_longest⟩⟩, ok_longest F_Rule_longest T RT, b_Rule_longest⟩
  have c_tail := cal_tail (P := l.prog) (w := w) (base := base) F_tail b_tail T
  have c_put_in := met_put_in (P := l.prog) (w := w) (base := base) F_Rule_put_in ⟨a_Rule_put_in, i_Rule_put_in, k_Rule_put_in⟩ b_Rule_put_in T RT c_put p_longest c_tail
  have c_is_endless := met_is_endless (P := l.prog) (w := w) (base := base) F_Rule_is_endless ⟨a_Rule_is_endless, i_Rule_is_endless, k_Rule_is_endless⟩ b_Rule_is_endless T RT g_BITS c_put_in p_longest c_tail
  have M_Rule : Mk K C_Rule f_Rule_init := ⟨mk_Rule, a_Rule_init, i_Rule_init, kc_Rule⟩
  have i_ok_Rule := ok_Rule_init (P := l.prog) (w := w) (base := base) F_Rule_init T RT c_is_word c_are_stuffs c_is_endless
  have m_Rule2 : Mak l.prog w K mg base 5 "Rule" C_Rule (spRuInit K C_Rule) [] := ⟨_, _, _, _, M_Rule, i_ok_Rule, PySem.W.mg_of X G aC_Rule, bd1_Rule_init, vd1_Rule_init⟩
  have M_Check : Mk K C_Check f_Check_init := ⟨mk_Check, a_Check_init, i_Check_init, kc_Check⟩
  have i_ok_Check := ok_Check_init (P := l.prog) (w := w) (base := base) F_Check_init T CT c_is_word
  have m_Check2 : Mak l.prog w K mg base 2 "Check" C_Check (spCkInit C_Check) [] := ⟨_, _, _, _, M_Check, i_ok_Check, PySem.W.mg_of X G aC_Check, bd2_Check_init, vd2_Check_init⟩
  obtain ⟨its_mK_Check_start_poly, KB_mK_Check_start_poly⟩ := FD_Check_init.kbindsD (ps := ["self", "poly", "start"]) 1 ["start", "poly"] (g := fun {α} us its ws => us ++ pick [1, 0] (ws ++ its)) (List.cons_ne_nil _ _) (fun r1 rd r2 => vals_pick2 _ r1 rd r2) (fun _ _ _ _ _ _ _ us its ws h1 h2 h3 => match us, its, ws, h1, h2, h3 with | [_], [_, _], [_, _], _, _, _ => ⟨_, rfl, rfl⟩)
  have mK_Check_start_poly : MakD l.prog w K mg base 2 "Check" C_Check (spCkInit C_Check) ["start", "poly"] [1, 0] [.str "1", .non] := ⟨_, _, _, _, M_Check, i_ok_Check, PySem.W.mg_of X G aC_Check, KB_mK_Check_start_poly⟩
  obtain ⟨its_mK_Check_poly, KB_mK_Check_poly⟩ := FD_Check_init.kbindsD (ps := ["self", "poly", "start"]) 1 ["poly"] (g := fun {α} us its ws => us ++ pick [0, 2] (ws ++ its)) (List.cons_ne_nil _ _) (fun r1 rd r2 => vals_pick2 _ r1 rd r2) (fun _ _ _ _ _ _ _ us its ws h1 h2 h3 => match us, its, ws, h1, h2, h3 with | [_], [_, _], [_], _, _, _ => ⟨_, rfl, rfl⟩)
  have mK_Check_poly : MakD l.prog w K mg base 2 "Check" C_Check (spCkInit C_Check) ["poly"] [0, 2] [.str "1", .non] := ⟨_, _, _, _, M_Check, i_ok_Check, PySem.W.mg_of X G aC_Check, KB_mK_Check_poly⟩
  have g_MIDDLE := PySem.W.mg_of X G gMIDDLE
  have c_Check_str := met_Check_str (P := l.prog) (w := w) (base := base) F_Check_str ⟨a_Check_str, i_Check_str, k_Check_str⟩ b_Check_str T CT g_MIDDLE
  have g_Check : mg "Check" = some (.ref C_Check) := PySem.W.mg_of X G aC_Check
  have IS_Check : IsT K C_Check := ⟨CL_Check, cls_Check, clg_X, clt_X, mro_Check⟩
  have c_Check_eq := met_Check_eq (P := l.prog) (w := w) (base := base) F_Check_eq ⟨a_Check_eq, i_Check_eq, k_Check_eq⟩ b_Check_eq T CT g_Check IS_Check c_Check_str
  have m_Check0 : Mak l.prog w K mg base 2 "Check" C_Check (spCkInit C_Check) [.str "1", .non] := ⟨_, _, _, _, M_Check, i_ok_Check, PySem.W.mg_of X G aC_Check, bd0_Check_init, vd0_Check_init⟩
  have cmK_Check_read_text : CMtK l.prog w K mg base 4 "Check" C_Check "read" (spCkRead C_Check) ["text"] := ⟨_, _, _, _, _, PySem.W.mg_of X G aC_Check, ⟨rd_Check, ga_Check⟩, ⟨a_Check_read, ⟨_, r_Check_read⟩, fi_Check_read⟩, ok_Check_read F_Check_read T CT g_MIDDLE c_is_word m_Check0 m_Check2, ⟨fun s us ws _ h1 h2 => match us, ws, h1, h2 with | [_], [_], _, _ => .of_eq rfl, fun r1 r2 => r1.append r2⟩⟩
  have c_step := met_step (P := l.prog) (w := w) (base := base) F_Check_step ⟨a_Check_step, i_Check_step, k_Check_step⟩ b_Check_step T CT
  have c_rest := met_rest (P := l.prog) (w := w) (base := base) F_Check_rest ⟨a_Check_rest, i_Check_rest, k_Check_rest⟩ b_Check_rest T CT c_step
  have p_degree : Prp l.prog w K mg base 1 C_Check "degree" (spDegree C_Check) := ⟨_, _, _, _, CL_Check, ⟨a_Check_degree, g_Check_degree, t_Check_degree, ⟨_, r_Check_degree⟩⟩, ok_degree F_Check_degree T CT, b_Check_degree⟩
  have c_bits_for := met_bits_for (P := l.prog) (w := w) (base := base) F_Check_bits_for ⟨a_Check_bits_for, i_Check_bits_for, k_Check_bits_for⟩ b_Check_bits_for T CT c_rest p_degree
  have c_is_good := met_is_good (P := l.prog) (w := w) (base := base) F_Check_is_good ⟨a_Check_is_good, i_Check_is_good, k_Check_is_good⟩ b_Check_is_good T CT c_rest p_degree
  have cK_rest_bits : MetK l.prog w K mg base 2 C_Check "rest" (spRest C_Check) ["bits"] (pickM [0]) := ⟨_, _, _, fun us ws => us.headD .none :: pick [0] ws, CL_Check, ⟨a_Check_rest, i_Check_rest, k_Check_rest⟩, fnk_rest (P := l.prog) (w := w) (base := base) F_Check_rest ⟨a_Check_rest, i_Check_rest, k_Check_rest⟩ b_Check_rest T CT c_step, ⟨fun s us ws _ h1 h2 => match us, ws, h1, h2 with | [_], [_], _, _ => .of_eq rfl, fun r1 r2 => valsM_pick _ r1 r2⟩⟩
  have cK_bits_for_data : MetK l.prog w K mg base 3 C_Check "bits_for" (spBitsFor C_Check) ["data"] (pickM [0]) := ⟨_, _, _, fun us ws => us.headD .none :: pick [0] ws, CL_Check, ⟨a_Check_bits_for, i_Check_bits_for, k_Check_bits_for⟩, fnk_bits_for (P := l.prog) (w := w) (base := base) F_Check_bits_for ⟨a_Check_bits_for, i_Check_bits_for, k_Check_bits_for⟩ b_Check_bits_for T CT c_rest p_degree, ⟨fun s us ws _ h1 h2 => match us, ws, h1, h2 with | [_], [_], _, _ => .of_eq rfl, fun r1 r2 => valsM_pick _ r1 r2⟩⟩
  have cK_is_good_message : MetK l.prog w K mg base 3 C_Check "is_good" (spIsGood C_Check) ["message"] (pickM [0]) := ⟨_, _, _, fun us ws => us.headD .none :: pick [0] ws, CL_Check, ⟨a_Check_is_good, i_Check_is_good, k_Check_is_good⟩, fnk_is_good (P := l.prog) (w := w) (base := base) F_Check_is_good ⟨a_Check_is_good, i_Check_is_good, k_Check_is_good⟩ b_Check_is_good T CT c_rest p_degree, ⟨fun s us ws _ h1 h2 => match us, ws, h1, h2 with | [_], [_], _, _ => .of_eq rfl, fun r1 r2 => valsM_pick _ r1 r2⟩⟩
  have c_put_behind := cal_put_behind (P := l.prog) (w := w) (base := base) F_put_behind b_put_behind T c_put
  have c_body := cal_body (P := l.prog) (w := w) (base := base) F_body b_body T c_put_behind
  have cK_body_message_rule : CalK l.prog w K mg base 4 "body" (spBody _) ["message", "rule"] (pick [1, 0]) := ⟨_, _, _, fun _ ws => pick [1, 0] ws, fnk_body (P := l.prog) (w := w) (base := base) F_body b_body T c_put_behind, F_body.mgf, F_body.kp, ⟨fun s us ws _ h1 h2 => match us, ws, h1, h2 with | [], [_, _], _, _ => .of_eq rfl, fun _ r => vals_pick _ r⟩⟩
  have c_taken_out := cal_taken_out (P := l.prog) (w := w) (base := base) F_taken_out b_taken_out T c_put
  have cK_taken_out_line_rule : CalK l.prog w K mg base 3 "taken_out" (spTaken _) ["line", "rule"] (pick [1, 0]) := ⟨_, _, _, fun _ ws => pick [1, 0] ws, fnk_taken_out (P := l.prog) (w := w) (base := base) F_taken_out b_taken_out T c_put, F_taken_out.mgf, F_taken_out.kp, ⟨fun s us ws _ h1 h2 => match us, ws, h1, h2 with | [], [_, _], _, _ => .of_eq rfl, fun _ r => vals_pick _ r⟩⟩
  have c_send := cal_send (P := l.prog) (w := w) (base := base) F_send b_send T RT c_body c_bits_for
  have cK_send_data_check_rule : CalK l.prog w K mg base 5 "send" (spSend _ C_Check) ["data", "check", "rule"] (pick [2, 1, 0]) := ⟨_, _, _, fun _ ws => pick [2, 1, 0] ws, fnk_send (P := l.prog) (w := w) (base := base) F_send b_send T RT c_body c_bits_for, F_send.mgf, F_send.kp, ⟨fun s us ws _ h1 h2 => match us, ws, h1, h2 with | [], [_, _, _], _, _ => .of_eq rfl, fun _ r => vals_pick _ r⟩⟩
  have c_read_part := cal_read_part (P := l.prog) (w := w) (base := base) F_read_part b_read_part T c_taken_out c_is_good p_degree
  have cK_receive_raw_check_rule : CalK l.prog w K mg base 5 "receive" (spReceive _ C_Check) ["raw", "check", "rule"] (pick [2, 1, 0]) := ⟨_, _, _, fun _ ws => pick [2, 1, 0] ws, fnk_receive (P := l.prog) (w := w) (base := base) F_receive b_receive T RT c_read_part, F_receive.mgf, F_receive.kp, ⟨fun s us ws _ h1 h2 => match us, ws, h1, h2 with | [], [_, _, _], _, _ => .of_eq rfl, fun _ r => vals_pick _ r⟩⟩
  have c_cut_up := cal_cut_up (P := l.prog) (w := w) (base := base) F_cut_up b_cut_up T RT c_read_part
  have c_frames := cal_frames (P := l.prog) (w := w) (base := base) F_frames b_frames T c_cut_up
  have cK_frames_raw_check_rule : CalK l.prog w K mg base 6 "frames" (spFrames _ C_Check) ["raw", "check", "rule"] (pick [2, 1, 0]) := ⟨_, _, _, fun _ ws => pick [2, 1, 0] ws, fnk_frames (P := l.prog) (w := w) (base := base) F_frames b_frames T c_cut_up, F_frames.mgf, F_frames.kp, ⟨fun s us ws _ h1 h2 => match us, ws, h1, h2 with | [], [_, _, _], _, _ => .of_eq rfl, fun _ r => vals_pick _ r⟩⟩
  have xK_InvalidCheck : ExS.XMkK l.prog w K mg base 1 "InvalidCheck" C_InvalidCheck "word" ["word"] := ⟨f_InvalidCheck, _, ["self", "word"], TX_InvalidCheck, a_InvalidCheck, t_InvalidCheck, ExS.fn_exc (self := "self") (word := "word") (text := "wrong argument of a check") (k := 0) EF_InvalidCheck lk_InvalidCheck cd_InvalidCheck (NdefX.nscope_by (by decide +kernel)) (by decide +kernel) rfl rfl ⟨_, _, _, _, _, _, _, _, _, _, _, _, rfl, rfl⟩ (by decide) (by decide) (by decide) (by decide), ⟨fun s us ws _ h1 h2 => match us, ws, h1, h2 with | [_], [_], _, _ => .of_eq rfl, fun r1 r2 => r1.append r2⟩, g_InvalidCheck, rfl⟩
  have xK_InvalidText : ExS.XMkK l.prog w K mg base 1 "InvalidText" C_InvalidText "at" ["at"] := ⟨f_InvalidText, _, ["self", "at"], TX_InvalidText, a_InvalidText, t_InvalidText, ExS.fn_exc (self := "self") (word := "at") (text := "the text cannot be read") (k := 0) EF_InvalidText lk_InvalidText cd_InvalidText (NdefX.nscope_by (by decide +kernel)) (by decide +kernel) rfl rfl ⟨_, _, _, _, _, _, _, _, _, _, _, _, rfl, rfl⟩ (by decide) (by decide) (by decide) (by decide), ⟨fun s us ws _ h1 h2 => match us, ws, h1, h2 with | [_], [_], _, _ => .of_eq rfl, fun r1 r2 => r1.append r2⟩, g_InvalidText, rfl⟩
  exact ok_law F_law T CT NE_Check c_l_numbers m_Rule2 m_Check2 mK_Check_start_poly mK_Check_poly c_Check_str c_Check_eq cmK_Check_read_text c_rest c_bits_for c_is_good cK_rest_bits cK_bits_for_data cK_is_good_message c_body cK_body_message_rule c_taken_out cK_taken_out_line_rule c_send cK_send_data_check_rule cK_receive_raw_check_rule c_frames cK_frames_raw_check_rule XF_InvalidCheck nw_InvalidCheck xK_InvalidCheck XF_InvalidText nw_InvalidText xK_InvalidText
theorem walk {l : PySem.W.OpenLaw} {q : Program} {loose : List Str} {XP : (Str → Option Value) → Heap → Prop} {YP : World → Heap → Prop} {d : DefRec} {K : Params → PySem.W.Frag} (hn : l.most = some 63) (hdf : d.params.defaults = [])
    (hY : ∀ (w : World) (h : Heap), YP w h → (K w.params).In h)
    (F : ∀ (w : World) (mg : Str → Option Value) (fa : Addr) (h : Heap), (K w.params).In h → h.Ns mainGlobals mg → mg d.name = some (.ref fa) →
      ∃ fd : FuncData, (∀ (s : Shared) (u : Value), BindsTo s fd ⟨[u], []⟩ [("_law_script", u)]) ∧ ∀ base : Heap, (K w.params).In base → base.Ns mainGlobals mg → FnOk l.prog w (K w.params) mg base CX0 8 fa fd ["_law_script"] (spLaw (K w.params))) :
    PySem.W.WalkO q loose XP YP l.row.toRowW d [] (fun f vs => PySem.call f vs) :=
  L2.walk_of (n := 63) (k := 8) (x := "_law_script") (CX := fun _ => CX0) (sp := fun w => spLaw (K w.params)) hn (by decide) hdf ⟨rfl, by decide, by decide⟩ hY F (fun _ _ a ns hl _ hS => ⟨a, ns, rfl, hS, hl, fun _ => rfl⟩) fun _ _ _ _ _ z => z
end U

set_option pp.maxSteps 300
open PySem PySem.W PyProof.Rows
set_option maxRecDepth 100000 in
set_option maxHeartbeats 0 in
theorem PySem.Challenge.cw_unseenflips_k23_checks_and_lines_by_name_holds : PySem.Challenge.rw_unseenflips_k23_checks_and_lines_by_name.Holds := by
  w_on; o_law; k_head; (case hw => w_witness2)
  k_fill
  refine U.walk (l := PySem.Challenge.rw_unseenflips_k23_checks_and_lines_by_name) rfl rfl (fun w h Y => PySem.W.kIn_of Y) ?F
  case F =>
    intro w mg fa h KX G hmg
    refine' U.all_mk KX G hmg ?a_put_behind ?l_put_behind ?c_put_behind ?k_put_behind ?a_body ?l_body ?c_body ?k_body ?a_taken_out ?l_taken_out ?c_taken_out ?k_taken_out ?a_send ?l_send ?c_send ?k_send ?a_read_part ?l_read_part ?c_read_part ?k_read_part ?a_receive ?l_receive ?c_receive ?k_receive ?a_cut_up ?l_cut_up ?c_cut_up ?k_cut_up ?a_frames ?l_frames ?c_frames ?k_frames ?a_is_sequence ?l_is_sequence ?c_is_sequence ?k_is_sequence ?a_is_word ?l_is_word ?c_is_word ?k_is_word ?a_is_bit ?l_is_bit ?c_is_bit ?k_is_bit ?a_tail ?l_tail ?c_tail ?k_tail ?a_is_stuff ?l_is_stuff ?c_is_stuff ?k_is_stuff ?a_are_stuffs ?l_are_stuffs ?c_are_stuffs ?k_are_stuffs ?a_l_numbers ?l_l_numbers ?c_l_numbers ?k_l_numbers ?a_law ?l_law ?c_law ?k_law ?aC_Check ?pg_Check ?hd_Check ?po_Check ?sa_Check ?mk_Check ?kc_Check ?n_Check_poly ?n_Check_start ?a_Check_init ?i_Check_init ?l_Check_init ?c_Check_init ?k_Check_init ?dl_Check_init ?a_Check_str ?i_Check_str ?l_Check_str ?c_Check_str ?k_Check_str ?a_Check_eq ?i_Check_eq ?l_Check_eq ?c_Check_eq ?k_Check_eq ?a_Check_read ?r_Check_read ?fi_Check_read ?l_Check_read ?c_Check_read ?rd_Check ?ga_Check ?a_Check_step ?i_Check_step ?l_Check_step ?c_Check_step ?k_Check_step ?a_Check_rest ?i_Check_rest ?l_Check_rest ?c_Check_rest ?k_Check_rest ?a_Check_degree ?g_Check_degree ?t_Check_degree ?r_Check_degree ?l_Check_degree ?c_Check_degree ?a_Check_bits_for ?i_Check_bits_for ?l_Check_bits_for ?c_Check_bits_for ?k_Check_bits_for ?a_Check_is_good ?i_Check_is_good ?l_Check_is_good ?c_Check_is_good ?k_Check_is_good ?aC_Rule ?pg_Rule ?hd_Rule ?po_Rule ?sa_Rule ?mk_Rule ?kc_Rule ?n_Rule_flag ?n_Rule_stuffs ?a_Rule_put ?i_Rule_put ?l_Rule_put ?c_Rule_put ?k_Rule_put ?a_Rule_longest ?g_Rule_longest ?t_Rule_longest ?r_Rule_longest ?l_Rule_longest ?c_Rule_longest ?a_Rule_put_in ?i_Rule_put_in ?l_Rule_put_in ?c_Rule_put_in ?k_Rule_put_in ?a_Rule_is_endless ?i_Rule_is_endless ?l_Rule_is_endless ?c_Rule_is_endless ?k_Rule_is_endless ?a_Rule_init ?i_Rule_init ?l_Rule_init ?c_Rule_init ?k_Rule_init ?dl_Rule_init ?dlE_Rule ?aC_InvalidCheck ?elk_InvalidCheck ?erf_InvalidCheck ?sa_InvalidCheck ?exC_InvalidCheck ?tyC_InvalidCheck ?kC_InvalidCheck ?no_InvalidCheck ?a_InvalidCheck ?t_InvalidCheck ?lk_InvalidCheck ?cd_InvalidCheck ?cell_InvalidCheck ?code_InvalidCheck ?cfl_InvalidCheck ?fl_InvalidCheck ?tp_InvalidCheck ?sub_InvalidCheck ?sup_InvalidCheck ?opq_InvalidCheck ?ini_InvalidCheck ?ve_InvalidCheck ?ehd_InvalidCheck ?esb_InvalidCheck ?aC_InvalidText ?elk_InvalidText ?erf_InvalidText ?sa_InvalidText ?exC_InvalidText ?tyC_InvalidText ?kC_InvalidText ?no_InvalidText ?a_InvalidText ?t_InvalidText ?lk_InvalidText ?cd_InvalidText ?cell_InvalidText ?code_InvalidText ?cfl_InvalidText ?fl_InvalidText ?tp_InvalidText ?sub_InvalidText ?sup_InvalidText ?opq_InvalidText ?ini_InvalidText ?ve_InvalidText ?ehd_InvalidText ?esb_InvalidText ?ega_InvalidCheck ?egg_InvalidCheck ?ega_InvalidText ?egg_InvalidText ?mro_Check ?neq_Check ?gBITS ?gMIDDLE ?cls_Check ?clg_X ?clt_X ?z_len ?z_abs ?z_int ?z_range ?z_max ?z_min ?z_enumerate ?z_zip ?z_dict ?z_list ?z_tuple ?z_isinstance ?z_bool ?z_str ?z_all ?z_any ?z_sum ?z_sorted ?z_repr
    (case a_put_behind => k_is)
    (case l_put_behind => k_is)
    (case c_put_behind => k_is)
    (case k_put_behind => k_is)
    (case a_body => k_is)
    (case l_body => k_is)
    (case c_body => k_is)
    (case k_body => k_is)
    (case a_taken_out => k_is)
    (case l_taken_out => k_is)
    (case c_taken_out => k_is)
    (case k_taken_out => k_is)
    (case a_send => k_is)
    (case l_send => k_is)
    (case c_send => k_is)
    (case k_send => k_is)
    (case a_read_part => k_is)
    (case l_read_part => k_is)
    (case c_read_part => k_is)
    (case k_read_part => k_is)
    (case a_receive => k_is)
    (case l_receive => k_is)
    (case c_receive => k_is)
    (case k_receive => k_is)
    (case a_cut_up => k_is)
    (case l_cut_up => k_is)
    (case c_cut_up => k_is)
    (case k_cut_up => k_is)
    (case a_frames => k_is)
    (case l_frames => k_is)
    (case c_frames => k_is)
    (case k_frames => k_is)
    (case a_is_sequence => k_is)
    (case l_is_sequence => k_is)
    (case c_is_sequence => k_is)
    (case k_is_sequence => k_is)
    (case a_is_word => k_is)
    (case l_is_word => k_is)
    (case c_is_word => k_is)
    (case k_is_word => k_is)
    (case a_is_bit => k_is)
    (case l_is_bit => k_is)
    (case c_is_bit => k_is)
    (case k_is_bit => k_is)
    (case a_tail => k_is)
    (case l_tail => k_is)
    (case c_tail => k_is)
    (case k_tail => k_is)
    (case a_is_stuff => k_is)
    (case l_is_stuff => k_is)
    (case c_is_stuff => k_is)
    (case k_is_stuff => k_is)
    (case a_are_stuffs => k_is)
    (case l_are_stuffs => k_is)
    (case c_are_stuffs => k_is)
    (case k_are_stuffs => k_is)
    (case a_l_numbers => k_is)
    (case l_l_numbers => k_is)
    (case c_l_numbers => k_is)
    (case k_l_numbers => k_is)
    (case a_law => k_is)
    (case l_law => k_is)
    (case c_law => k_is)
    (case k_law => k_is)
    (case aC_Check => k_is)
    (case pg_Check => k_is)
    (case hd_Check => k_is)
    (case po_Check => k_is)
    (case sa_Check => k_is)
    (case mk_Check => k_is)
    (case kc_Check => k_is)
    (case n_Check_poly => k_is)
    (case n_Check_start => k_is)
    (case a_Check_init => k_is)
    (case i_Check_init => k_is)
    (case l_Check_init => k_is)
    (case c_Check_init => k_is)
    (case k_Check_init => k_is)
    (case dl_Check_init => k_is)
    (case a_Check_str => k_is)
    (case i_Check_str => k_is)
    (case l_Check_str => k_is)
    (case c_Check_str => k_is)
    (case k_Check_str => k_is)
    (case a_Check_eq => k_is)
    (case i_Check_eq => k_is)
    (case l_Check_eq => k_is)
    (case c_Check_eq => k_is)
    (case k_Check_eq => k_is)
    (case a_Check_read => k_is)
    (case r_Check_read => k_is)
    (case fi_Check_read => k_is)
    (case l_Check_read => k_is)
    (case c_Check_read => k_is)
    (case rd_Check => k_is)
    (case ga_Check => k_is)
    (case a_Check_step => k_is)
    (case i_Check_step => k_is)
    (case l_Check_step => k_is)
    (case c_Check_step => k_is)
    (case k_Check_step => k_is)
    (case a_Check_rest => k_is)
    (case i_Check_rest => k_is)
    (case l_Check_rest => k_is)
    (case c_Check_rest => k_is)
    (case k_Check_rest => k_is)
    (case a_Check_degree => k_is)
    (case g_Check_degree => k_is)
    (case t_Check_degree => k_is)
    (case r_Check_degree => k_is)
    (case l_Check_degree => k_is)
    (case c_Check_degree => k_is)
    (case a_Check_bits_for => k_is)
    (case i_Check_bits_for => k_is)
    (case l_Check_bits_for => k_is)
    (case c_Check_bits_for => k_is)
    (case k_Check_bits_for => k_is)
    (case a_Check_is_good => k_is)
    (case i_Check_is_good => k_is)
    (case l_Check_is_good => k_is)
    (case c_Check_is_good => k_is)
    (case k_Check_is_good => k_is)
    (case aC_Rule => k_is)
    (case pg_Rule => k_is)
    (case hd_Rule => k_is)
    (case po_Rule => k_is)
    (case sa_Rule => k_is)
    (case mk_Rule => k_is)
    (case kc_Rule => k_is)
    (case n_Rule_flag => k_is)
    (case n_Rule_stuffs => k_is)
    (case a_Rule_put => k_is)
    (case i_Rule_put => k_is)
    (case l_Rule_put => k_is)
    (case c_Rule_put => k_is)
    (case k_Rule_put => k_is)
    (case a_Rule_longest => k_is)
    (case g_Rule_longest => k_is)
    (case t_Rule_longest => k_is)
    (case r_Rule_longest => k_is)
    (case l_Rule_longest => k_is)
    (case c_Rule_longest => k_is)
    (case a_Rule_put_in => k_is)
    (case i_Rule_put_in => k_is)
    (case l_Rule_put_in => k_is)
    (case c_Rule_put_in => k_is)
    (case k_Rule_put_in => k_is)
    (case a_Rule_is_endless => k_is)
    (case i_Rule_is_endless => k_is)
    (case l_Rule_is_endless => k_is)
    (case c_Rule_is_endless => k_is)
    (case k_Rule_is_endless => k_is)
    (case a_Rule_init => k_is)
    (case i_Rule_init => k_is)
    (case l_Rule_init => k_is)
    (case c_Rule_init => k_is)
    (case k_Rule_init => k_is)
    (case dl_Rule_init => k_is)
    (case dlE_Rule => k_is)
    (case aC_InvalidCheck => k_is)
    (case elk_InvalidCheck => k_is)
    (case erf_InvalidCheck => decide +kernel)
    (case sa_InvalidCheck => k_is)
    (case exC_InvalidCheck => k_is)
    (case tyC_InvalidCheck => k_is)
    (case kC_InvalidCheck => k_is)
    (case no_InvalidCheck => k_is)
    (case a_InvalidCheck => k_is)
    (case t_InvalidCheck => k_is)
    (case lk_InvalidCheck => k_is)
    (case cd_InvalidCheck => k_is)
    (case cell_InvalidCheck => k_is)
    (case code_InvalidCheck => k_is)
    (case cfl_InvalidCheck => exact rfl)
    (case fl_InvalidCheck => decide +kernel)
    (case tp_InvalidCheck => decide +kernel)
    (case sub_InvalidCheck => k_is)
    (case sup_InvalidCheck => k_is)
    (case opq_InvalidCheck => k_is)
    (case ini_InvalidCheck => kernel_rfl)
    (case ve_InvalidCheck => k_is)
    (case ehd_InvalidCheck => k_is)
    (case esb_InvalidCheck => k_is)
    (case aC_InvalidText => k_is)
    (case elk_InvalidText => k_is)
    (case erf_InvalidText => decide +kernel)
    (case sa_InvalidText => k_is)
    (case exC_InvalidText => k_is)
    (case tyC_InvalidText => k_is)
    (case kC_InvalidText => k_is)
    (case no_InvalidText => k_is)
    (case a_InvalidText => k_is)
    (case t_InvalidText => k_is)
    (case lk_InvalidText => k_is)
    (case cd_InvalidText => k_is)
    (case cell_InvalidText => k_is)
    (case code_InvalidText => k_is)
    (case cfl_InvalidText => exact rfl)
    (case fl_InvalidText => decide +kernel)
    (case tp_InvalidText => decide +kernel)
    (case sub_InvalidText => k_is)
    (case sup_InvalidText => k_is)
    (case opq_InvalidText => k_is)
    (case ini_InvalidText => kernel_rfl)
    (case ve_InvalidText => k_is)
    (case ehd_InvalidText => k_is)
    (case esb_InvalidText => k_is)
    (case ega_InvalidCheck => k_is)
    (case egg_InvalidCheck => k_is)
    (case ega_InvalidText => k_is)
    (case egg_InvalidText => k_is)
    (case mro_Check => k_is)
    (case neq_Check => k_is)
    (case gBITS => k_is)
    (case gMIDDLE => k_is)
    (case cls_Check => k_is)
    (case clg_X => k_is)
    (case clt_X => k_is)
    (case z_len => k_is)
    (case z_abs => k_is)
    (case z_int => k_is)
    (case z_range => k_is)
    (case z_max => k_is)
    (case z_min => k_is)
    (case z_enumerate => k_is)
    (case z_zip => k_is)
    (case z_dict => k_is)
    (case z_list => k_is)
    (case z_tuple => k_is)
    (case z_isinstance => k_is)
    (case z_bool => k_is)
    (case z_str => k_is)
    (case z_all => k_is)
    (case z_any => k_is)
    (case z_sum => k_is)
    (case z_sorted => k_is)
    (case z_repr => k_is)
#print axioms PySem.Challenge.cw_unseenflips_k23_checks_and_lines_by_name_holds
