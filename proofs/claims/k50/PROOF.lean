import PyProof.Rows.All
import Wide.All
import OpenK.AllK
import Wide.FinOn
import HandS.ForMost
import HandS.Codes
import HandS.FStr
import HandS.IsInst
import HandS.Star
import HandS.TupAny
import HandS.Style
import HandS.Walk
import KE.GoesEnum
import KE.GoesNew
import HandS.Property
import HandS.Defaults
import HandS.ClsMeth
import HandS.MakeKw
import KE.GoesZip
import HandS.SortOrd
import HandS.SortRule
import HandS.OwnEq
import HandS.CallLocal
import KE.KCallOwn
import HandS.ExcInit
import HandS.Nested
import HandS.TryOnly
import KE.KExcSuper
import HandS.ExcOwn
import HandS.ExcIs
import HandS.RaiseMore
import HandS.ExcField
import PySem.Challenge.RW_unseenflips_k50_hits_that_are_refused
set_option Elab.async false
set_option linter.all false
set_option maxRecDepth 100000
set_option maxHeartbeats 4000000
namespace Lx
open PySem PySem.Spec PyProof.Rows L2

/-! enumerate over a text -/
def ItES (x : Str) : It := ⟨fun i _ => i < x.cps.size, fun i H v H' => ∃ T c, v = .ref T ∧ H T = none ∧ H' = upd H T (.tup [.int (i : Nat), .str ⟨#[c]⟩]) ∧ x.cps[i]? = some c, fun i _ => x.cps.size ≤ i⟩
theorem turn_enumS {P : Program} {w : World} {K : PySem.W.Frag} {elts : List Expr} {kk : Nat} {tpos : Pos} (x : Str) (t : Tok) (e it : Addr) :
    Turn P w K (.Tuple elts kk tpos) (ItES x) [e, it] e (fun i h => (∃ old, IsEnum h e it ((i : Nat) : Int) old) ∧ h.IsStrIter it (strIterType x) x t i ∧ e ≠ it ∧ i ≤ x.cps.size) where
  mem := by simp
  obj := fun i h st b hb => by
    obtain ⟨⟨old, he⟩, ⟨o, ho, hc, hd⟩, _⟩ := st
    have e' : b = e ∨ b = it := by simpa using hb
    rcases e' with z | z
    · rw [z]; exact ⟨_, he, fun v q => nomatch q⟩
    · rw [z]; exact ⟨o, ho, fun v q => by rw [hd] at q; cases q⟩
  keep := fun i h h' st k => by
    obtain ⟨⟨old, he⟩, ⟨o, ho, r⟩, hne⟩ := st
    exact ⟨⟨old, k e (by simp) _ he⟩, ⟨o, k it (by simp) o ho, r⟩, hne⟩
  item := by
    intro X hP hw hK hc i pins s σ H E I hf st hg
    subst hP hw hK
    obtain ⟨⟨old, he⟩, hit, hne, _⟩ := st
    have hlt : i < x.cps.size := hg
    have hel : e < s.heap.objs.size := Heap.lt_size he
    have hil : it < s.heap.objs.size := by obtain ⟨_, q, _⟩ := hit; exact Heap.lt_size q
    have hh : X.A.in1.handled = none := I.ok.hd hc
    refine wpAny_pyNext_enum_itemC (Draws.text hh it x t) he hit hlt hne (by simpa using hne) fun v h' tk hP ho hit' hT hsz hk => ?_
    obtain ⟨c, u, hcx, rfl⟩ := hP
    refine ⟨_, rfl, wpAny_letOwnedTupleGo_enum (s := { s with heap := h', toks := tk + 1 }) ho fun h'' he' sb => ?_⟩
    have hT2 : h''.get? s.heap.objs.size = some { cls := .type "tuple", data := .seq #[.int i tk, .str ⟨#[c]⟩ u] } := (sb.2 _ (Nat.ne_of_gt hel)).trans hT
    have new : ObjOk X.prog X.w (upd H s.heap.objs.size (.tup [.int (i : Nat), .str ⟨#[c]⟩])) h'' s.heap.objs.size (.tup [.int (i : Nat), .str ⟨#[c]⟩]) :=
      ⟨by show 2 ≤ sizeLine; decide, [.int i tk, .str ⟨#[c]⟩ u], .cons ⟨_, rfl⟩ (.cons ⟨_, rfl⟩ .nil), ⟨_, hT2, rfl, _, rfl⟩⟩
    have I1 : Inv X pins σ (upd H s.heap.objs.size (.tup [.int (i : Nat), .str ⟨#[c]⟩])) { s with heap := h'', toks := tk + 1 } :=
      I.turnedNew (ch := [e, it]) (fun b ob hb q => (sb.2 b (fun z => hb (by simp [z]))).trans (hk b ob (fun z => hb (by simp [z])) (fun z => hb (by simp [z])) q)) hf (Nat.le_refl _) new
    refine ⟨.ref s.heap.objs.size, _, I1, rfl, ⟨_, c, rfl, I.hok.fresh (Nat.le_refl _), rfl, hcx⟩, ⟨⟨.str ⟨#[c]⟩ u, ?_⟩, ?_, hne, hlt⟩, fun b hb => ?_⟩
    · have e1 : ((i + 1 : Nat) : Int) = (i : Int) + 1 := by omega
      rw [e1]; exact he'
    · obtain ⟨o, ho', r⟩ := hit'
      exact ⟨o, (sb.2 it (Ne.symm hne)).trans ho', r⟩
    · have hb' : b < s.heap.objs.size := by
        have e' : b = e ∨ b = it := by simpa using hb
        rcases e' with z | z
        · rw [z]; exact hel
        · rw [z]; exact hil
      rw [upd_ne (Nat.ne_of_lt hb')]
      exact (hf b hb).1
  done := by
    intro X hP hw hK hc i pins s σ H E I hf st hg
    subst hP hw hK
    obtain ⟨⟨old, he⟩, hit, hne, hle⟩ := st
    have hge : x.cps.size ≤ i := hg
    have hi : i = x.cps.size := Nat.le_antisymm hle hge
    subst hi
    have hh : X.A.in1.handled = none := I.ok.hd hc
    obtain ⟨f0, f1, f2, f3, f4, f5⟩ := hf it (by simp)
    exact wpAny_pyNext_enum_endD (Draws.text hh it x t) he hit fun h' eb => ⟨rfl, I.turned (t' := s.toks) (fun b o hb q => eb b o hb q) f0 f1 f3 f4 f5⟩
  self := fun A i s Q E st h => let ⟨⟨_, he⟩, _⟩ := st; wpAny_pyIter_enum he h
def iEnumS (ta : TA) : TI := fun σ H R => ta σ H fun vs H1 => ∃ x, vs = [.str x] ∧ R (ItES x) H1
theorem pi_enumS {X : Cx} {e : Expr} {ta : TA} {p pos tpos : Pos} {elts : List Expr} {kk : Nat} (hg : Gl X "enumerate") (hm : X.mg "enumerate" = none) (ha : PA X [e] ta) (hs : starEach [e] X.env = [(false, eval e X.env)] := by rfl) :
    PI X (.Tuple elts kk tpos) (.Call (.Name "enumerate" p) [e] [] pos) (iEnumS ta) := by
  refine ⟨fun pins s σ H R I h => ?_⟩
  refine Call_ (ld_blt I hg hm boot_enumerate (PyProof.Rows.callWith_type1 (thn (ha.run pos pins s σ H _ I h) fun us s1 ⟨vs, H1, I1, r1, q1⟩ => ?_) hs rfl))
  obtain ⟨x, ex, q⟩ := q1
  subst ex
  cases r1 with
  | cons r rr =>
    cases rr
    obtain ⟨t, rfl⟩ := r
    refine call_enumerate_str fun h' he hit hsz hk => wpAny_pyIter_enum he ?_
    have I2 : Inv X pins σ H1 { s1 with heap := h' } := I1.kept (t' := s1.toks) hk
    refine ⟨s1.heap.objs.size + 1, [s1.heap.objs.size + 1, s1.heap.objs.size], _, _, H1, rfl, I2, turn_enumS x t (s1.heap.objs.size + 1) s1.heap.objs.size, ⟨⟨.none, he⟩, hit, Nat.succ_ne_self _, Nat.zero_le _⟩, fun b hb => ?_, q⟩
    have e' : b = s1.heap.objs.size + 1 ∨ b = s1.heap.objs.size := by simpa using hb
    have hle : s1.heap.objs.size ≤ b := by
      rcases e' with z | z
      · rw [z]; exact Nat.le_add_right _ _
      · rw [z]; exact Nat.le_refl _
    exact I1.fpOk hle (I1.hok.fresh hle)

/-! enumerate over a tuple -/
def ItET (K : PySem.W.Frag) (a : Addr) : It :=
  ⟨fun i H => ∃ (xs : List V) (x : V), SqT K H a xs ∧ xs[i]? = some x, fun i H v H' => ∃ T x, v = .ref T ∧ H T = none ∧ H' = upd H T (.tup [.int (i : Nat), x]) ∧ ∀ xs, SqT K H a xs → xs[i]? = some x, fun i H => ∃ xs : List V, SqT K H a xs ∧ xs.length ≤ i⟩
theorem meets_enumerate_newT (l : Addr) (items : Array Value) (n : Nat) (dct : Option Addr) (sl : Array (Option Value)) :
    Meets (Builtin.«enumerate.__new__» ⟨[.type "enumerate", .ref l], []⟩) (fun _ R s => s.heap.get? l = some { cls := .type "tuple", dict := dct, data := .seq items n, slots := sl } ∧
      R (.ok (.ret (.ref (s.heap.push { cls := .type "tuple_iterator", data := .fields #[.ref l, .int 0 0] }).objs.size)))
        { s with heap := (s.heap.push { cls := .type "tuple_iterator", data := .fields #[.ref l, .int 0 0] }).push { cls := .type "enumerate", data := .fields #[.none, .bool false, .ref s.heap.objs.size, rawInt 0, .none, .none] } }) :=
  .of_wp fun prog w A R s h => by
    obtain ⟨hp, g, d, tk, os⟩ := s; obtain ⟨hl, h⟩ := h
    have hsub := sub_enumerate
    have hL : Heap.IsTuple (Shared.heap ⟨hp, g, d, tk, os⟩) l items := ⟨_, hl, rfl, n, rfl⟩
    wp_walk using AutoSeq1.wpAny_loadPart' hl
    refine wpAny_stack_any fun st => wpAny_pure ?_
    split
    · rename_i c _ _ _ _ _
      cases (c == Value.type "enumerate")
      · wp_walk using AutoSeq1.wpAny_loadPart' hl, wpAny_pyIter_tuple hL
        exact ⟨_, rfl, h⟩
      · wp_walk using AutoSeq1.wpAny_loadPart' hl, wpAny_pyIter_tuple hL
        exact ⟨_, rfl, h⟩
    · wp_walk using AutoSeq1.wpAny_loadPart' hl, wpAny_pyIter_tuple hL
      exact ⟨_, rfl, h⟩
theorem call_enumerate_tup {prog : Program} {w : World} {A : Around} {E : Value → Shared → Prop} {s : Shared} {l : Addr} {items : Array Value} {Q : Value → Shared → Prop} (hL : s.heap.IsTuple l items)
    (h : ∀ h', IsEnum h' (s.heap.objs.size + 1) s.heap.objs.size 0 .none → h'.IsTupleIter s.heap.objs.size l 0 → h'.objs.size = s.heap.objs.size + 2 →
      (∀ b o, s.heap.get? b = some o → h'.get? b = some o) → Q (.ref (s.heap.objs.size + 1)) { s with heap := h' }) :
    wpAny (model prog w) A (call (.type "enumerate") [.ref l]) Q E s := by
  obtain ⟨⟨c, dct, dt, sl⟩, hl, hc, n, hd⟩ := hL
  replace hc : c = .type "tuple" := hc
  replace hd : dt = .seq items n := hd
  subst hc hd
  refine callType_new F.called_enumerate (by decide) (F.typeCall_enumerate_1 _) (F.newCall_enumerate_1 _) (fun obj => F.args_object_init_2 obj _) F.entry_enumerate_new
    (meets_enumerate_newT l items n dct sl) ⟨hl, ?_⟩
  have hz : (s.heap.push { cls := .type "tuple_iterator", data := .fields #[.ref l, .int 0 0] }).objs.size = s.heap.objs.size + 1 := Heap.size_push ..
  show _ ∧ _
  rw [hz]
  have he : IsEnum ((s.heap.push { cls := .type "tuple_iterator", data := .fields #[.ref l, .int 0 0] }).push
      { cls := .type "enumerate", data := .fields #[.none, .bool false, .ref s.heap.objs.size, rawInt 0, .none, .none] }) (s.heap.objs.size + 1) s.heap.objs.size 0 .none := by
    have := Heap.get?_push_size (s.heap.push { cls := .type "tuple_iterator", data := .fields #[.ref l, .int 0 0] })
      (o := { cls := .type "enumerate", data := .fields #[.none, .bool false, .ref s.heap.objs.size, rawInt 0, .none, .none] }) rfl
    rw [hz] at this; exact this
  refine ⟨⟨_, he, rfl⟩, h _ he ⟨_, Heap.get?_push_of_some _ (Heap.get?_push_size _ rfl), rfl, rfl⟩ (by rw [Heap.size_push, hz]) fun b o x => Heap.get?_push_of_some _ (Heap.get?_push_of_some _ x)⟩
theorem turn_enumT {P : Program} {w : World} {K : PySem.W.Frag} {elts : List Expr} {kk : Nat} {tpos : Pos} (a e it : Addr) :
    Turn P w K (.Tuple elts kk tpos) (ItET K a) [e, it] e (fun i h => (∃ old, IsEnum h e it ((i : Nat) : Int) old) ∧ h.IsTupleIter it a i ∧ e ≠ it ∧ a ≠ it ∧ a ≠ e) where
  mem := by simp
  obj := fun i h st b hb => by
    obtain ⟨⟨old, he⟩, ⟨o, ho, hc, hd⟩, _⟩ := st
    have e' : b = e ∨ b = it := by simpa using hb
    rcases e' with z | z
    · rw [z]; exact ⟨_, he, fun v q => nomatch q⟩
    · rw [z]; exact ⟨o, ho, fun v q => by rw [hd] at q; cases q⟩
  keep := fun i h h' st k => by
    obtain ⟨⟨old, he⟩, ⟨o, ho, r⟩, hne⟩ := st
    exact ⟨⟨old, k e (by simp) _ he⟩, ⟨o, k it (by simp) o ho, r⟩, hne⟩
  item := by
    intro X hP hw hK hc i pins s σ H E I hf st hg
    subst hP hw hK
    obtain ⟨⟨old, he⟩, hit, hne, hai, hae⟩ := st
    obtain ⟨xs, x, hq, hx⟩ := hg
    obtain ⟨its, rv, p, hz⟩ := I.tuple hq
    obtain ⟨u, hu, ru⟩ := rv.get hx
    have hel : e < s.heap.objs.size := Heap.lt_size he
    have hil : it < s.heap.objs.size := by obtain ⟨_, q, _⟩ := hit; exact Heap.lt_size q
    have hh : X.A.in1.handled = none := I.ok.hd hc
    have pT : s.heap.IsTuple a its.toArray := p
    have hlt : i < its.toArray.size := by
      have := (List.getElem?_eq_some_iff.mp hu).1
      simpa using this
    refine wpAny_pyNext_enum_itemC (Draws.tuple hh it a hai its.toArray) he ⟨hit, pT⟩ hlt hne (by simp [hne, Ne.symm hae]) fun v h' tk hP ho hit' hT hsz hk => ?_
    have ev : v = u := by
      have hP' : its.toArray[i]? = some v := hP
      rw [List.getElem?_toArray, hu] at hP'
      exact (Option.some.inj hP').symm
    subst ev
    refine ⟨_, rfl, wpAny_letOwnedTupleGo_enum (s := { s with heap := h', toks := tk + 1 }) ho fun h'' he' sb => ?_⟩
    have hT2 : h''.get? s.heap.objs.size = some { cls := .type "tuple", data := .seq #[.int i tk, v] } := (sb.2 _ (Nat.ne_of_gt hel)).trans hT
    have new : ObjOk X.prog X.w (upd H s.heap.objs.size (.tup [.int (i : Nat), x])) h'' s.heap.objs.size (.tup [.int (i : Nat), x]) :=
      ⟨by show 2 ≤ sizeLine; decide, [.int i tk, v], .cons ⟨_, rfl⟩ (.cons ru .nil), ⟨_, hT2, rfl, _, rfl⟩⟩
    have I1 : Inv X pins σ (upd H s.heap.objs.size (.tup [.int (i : Nat), x])) { s with heap := h'', toks := tk + 1 } :=
      I.turnedNew (ch := [e, it]) (fun b ob hb q => (sb.2 b (fun z => hb (by simp [z]))).trans (hk b ob (fun z => hb (by simp [z])) (fun z => hb (by simp [z])) q)) hf (Nat.le_refl _) new
    refine ⟨.ref s.heap.objs.size, _, I1, rfl, ⟨_, x, rfl, I.hok.fresh (Nat.le_refl _), rfl, fun ys hy => by rw [I.tuple_inj hy hq]; exact hx⟩, ⟨⟨v, ?_⟩, ?_, hne, hai, hae⟩, fun b hb => ?_⟩
    · have e1 : ((i + 1 : Nat) : Int) = (i : Int) + 1 := by omega
      rw [e1]; exact he'
    · obtain ⟨⟨o, ho', r⟩, _⟩ := hit'
      exact ⟨o, (sb.2 it (Ne.symm hne)).trans ho', r⟩
    · have hb' : b < s.heap.objs.size := by
        have e' : b = e ∨ b = it := by simpa using hb
        rcases e' with z | z
        · rw [z]; exact hel
        · rw [z]; exact hil
      rw [upd_ne (Nat.ne_of_lt hb')]
      exact (hf b hb).1
  done := by
    intro X hP hw hK hc i pins s σ H E I hf st hg
    subst hP hw hK
    obtain ⟨⟨old, he⟩, hit, hne, hai, hae⟩ := st
    obtain ⟨xs, hq, hx⟩ := hg
    obtain ⟨its, rv, p, hz⟩ := I.tuple hq
    have hl := rv.length
    have pT : s.heap.IsTuple a its.toArray := p
    have hh : X.A.in1.handled = none := I.ok.hd hc
    obtain ⟨f0, f1, f2, f3, f4, f5⟩ := hf it (by simp)
    have D : Draws X.prog X.w X.A.in1 it [it, a] i (fun _ _ => True) (fun j h => j = i ∧ h.IsTupleIter it a i ∧ h.IsTuple a its.toArray) :=
      { live := fun _ _ st => let ⟨o, ho, _⟩ := st.2.1; ⟨o, ho⟩
        frame := fun _ _ _ st hk => ⟨st.1, st.2.1.at fun o e => hk it (by simp) o e, st.2.2.at fun o e => hk a (by simp) o e⟩
        item := fun j s Q E hj st hQ => absurd st.1 (Nat.ne_of_lt hj)
        done := fun s Q E st hE => wpAny_nextOf_tuple_end hh st.2.1 st.2.2 (by simp; omega) hE }
    exact wpAny_pyNext_enum_endD D he ⟨rfl, hit, pT⟩ fun h' eb => ⟨rfl, I.turned (t' := s.toks) (fun b o hb q => eb b o hb q) f0 f1 f3 f4 f5⟩
  self := fun A i s Q E st h => let ⟨⟨_, he⟩, _⟩ := st; wpAny_pyIter_enum he h
def iEnumT (K : PySem.W.Frag) (ta : TA) : TI := fun σ H R => ta σ H fun vs H1 => ∃ a xs, vs = [.ref a] ∧ SqT K H1 a xs ∧ R (ItET K a) H1
theorem pi_enumT {X : Cx} {e : Expr} {ta : TA} {p pos tpos : Pos} {elts : List Expr} {kk : Nat} (hg : Gl X "enumerate") (hm : X.mg "enumerate" = none) (ha : PA X [e] ta) (hs : starEach [e] X.env = [(false, eval e X.env)] := by rfl) :
    PI X (.Tuple elts kk tpos) (.Call (.Name "enumerate" p) [e] [] pos) (iEnumT X.K ta) := by
  refine ⟨fun pins s σ H R I h => ?_⟩
  refine Call_ (ld_blt I hg hm boot_enumerate (PyProof.Rows.callWith_type1 (thn (ha.run pos pins s σ H _ I h) fun us s1 ⟨vs, H1, I1, r1, q1⟩ => ?_) hs rfl))
  obtain ⟨a, xs, ex, hq, q⟩ := q1
  subst ex
  cases r1 with
  | cons r rr =>
    cases rr
    cases r
    obtain ⟨its, rv, p', hz⟩ := I1.tuple hq
    have pT : s1.heap.IsTuple a its.toArray := p'
    have hlt : a < s1.heap.objs.size := by obtain ⟨o, ho, _⟩ := pT; exact Heap.lt_size ho
    refine call_enumerate_tup pT fun h' he hit hsz hk => wpAny_pyIter_enum he ?_
    have I2 : Inv X pins σ H1 { s1 with heap := h' } := I1.kept (t' := s1.toks) hk
    refine ⟨s1.heap.objs.size + 1, [s1.heap.objs.size + 1, s1.heap.objs.size], _, _, H1, rfl, I2, turn_enumT a (s1.heap.objs.size + 1) s1.heap.objs.size, ⟨⟨.none, he⟩, hit, Nat.succ_ne_self _, Nat.ne_of_lt hlt, Nat.ne_of_lt (Nat.lt_succ_of_lt hlt)⟩, fun b hb => ?_, q⟩
    have e' : b = s1.heap.objs.size + 1 ∨ b = s1.heap.objs.size := by simpa using hb
    have hle : s1.heap.objs.size ≤ b := by
      rcases e' with z | z
      · rw [z]; exact Nat.le_add_right _ _
      · rw [z]; exact Nat.le_refl _
    exact I1.fpOk hle (I1.hok.fresh hle)
/-- a list or a tuple, enumerated -/
def iEnumQ (K : PySem.W.Frag) (ta : TA) : TI := fun σ H R => iEnum K ta σ H R ∨ iEnumT K ta σ H R
theorem pi_enumQ {X : Cx} {e : Expr} {ta : TA} {p pos tpos : Pos} {elts : List Expr} {kk : Nat} (hg : Gl X "enumerate") (hm : X.mg "enumerate" = none) (ha : PA X [e] ta) (hs : starEach [e] X.env = [(false, eval e X.env)] := by rfl) :
    PI X (.Tuple elts kk tpos) (.Call (.Name "enumerate" p) [e] [] pos) (iEnumQ X.K ta) := by
  refine ⟨fun pins s σ H R I h => ?_⟩
  rcases h with h | h
  · exact (pi_enum hg hm ha hs).run pins s σ H R I h
  · exact (pi_enumT hg hm ha hs).run pins s σ H R I h
theorem walk_enumT {K : PySem.W.Frag} {a : Addr} {xs : List V} : Walk (ItET K a) xs.length (fun H => SqT K H a xs) (YPair (fun i => some (.int (i : Nat))) (fun i => xs[i]?)) := by
  refine ⟨fun i _ hi q => ⟨xs, xs[i], q, by simp [hi]⟩, fun _ q => ⟨xs, q, Nat.le_refl _⟩, fun i H v H' _ q y => ?_⟩
  obtain ⟨T, x, h1, h2, h3, h4⟩ := y
  exact ⟨T, .int (i : Nat), x, h1, h2, h3, rfl, h4 xs q⟩
theorem walk_enumS {x : Str} : Walk (ItES x) x.cps.size (fun _ => True) (fun i H v H' => ∃ T c, v = .ref T ∧ H T = none ∧ H' = upd H T (.tup [.int (i : Nat), .str ⟨#[c]⟩]) ∧ x.cps[i]? = some c) :=
  ⟨fun _ _ hi _ => hi, fun _ _ => Nat.le_refl _, fun _ _ _ _ _ _ y => y⟩
end Lx

set_option maxRecDepth 100000
set_option maxHeartbeats 4000000
namespace Lx
open PySem PySem.Spec PyProof.Rows L2
/-- n turns, each a new tuple whose items are as f says -/
def ItTup (n : Nat) (f : Nat → List V → Prop) : It :=
  ⟨fun i _ => i < n, fun i H v H' => ∃ T xs, v = .ref T ∧ H T = none ∧ H' = upd H T (.tup xs) ∧ f i xs, fun i _ => n ≤ i⟩
theorem turn_tuples {P : Program} {w : World} {K : PySem.W.Frag} {elts : List Expr} {kk : Nat} {tpos : Pos} {it : Addr} {fp wr : List Addr} {n : Nat} {Pt : Nat → Array Value → Prop} {St : Nat → Heap → Prop} {Mid : Nat → Addr → Heap → Prop} {f : Nat → List V → Prop}
    (Wk : ∀ A : Around, A.in1.handled = none → WalksT P w A it fp wr n Pt St Mid) (hrel : ∀ i vals, Pt i vals → ∃ xs, Vals xs vals.toList ∧ f i xs ∧ xs.length ≤ 8)
    (hobj : ∀ i h, St i h → ∀ b ∈ fp, ∃ o, h.get? b = some o ∧ ∀ v, o.data ≠ .cell v) (hmem : it ∈ fp)
    (hself : ∀ (A : Around) (i : Nat) (s : Shared) (Q : Value → Shared → Prop) (E : Value → Shared → Prop), St i s.heap → Q (.ref it) s → wpAny (model P w) A (pyIter (.ref it)) Q E s) :
    Turn P w K (.Tuple elts kk tpos) (ItTup n f) fp it (fun i h => St i h ∧ i ≤ n) where
  mem := hmem
  obj := fun i h st => hobj i h st.1
  keep := fun i h h' st k => ⟨(Wk {} rfl).frame i h h' st.1 k, st.2⟩
  item := by
    intro X hP hw hK hc i pins s σ H E I hf st hg
    subst hP hw hK
    have hh : X.A.in1.handled = none := I.ok.hd hc
    have hlt : i < n := hg
    refine (GoesN.ofWalksT (elts := elts) (k := kk) (pos := tpos) (Wk X.A hh)).goes i s _ _ hlt st.1 fun v h' tk hY st' hk htk => ?_
    obtain ⟨T, vals, rfl, hnew, hPt, hT⟩ := hY
    obtain ⟨xs, rv, hfx, hl⟩ := hrel i vals hPt
    have new : ObjOk X.prog X.w (upd H T (.tup xs)) h' T (.tup xs) := ⟨Nat.le_trans hl (by decide), vals.toList, rv, by rw [Array.toArray_toList]; exact hT⟩
    have I1 : Inv X pins σ (upd H T (.tup xs)) { s with heap := h', toks := tk } :=
      I.turnedNew (ch := fp) (fun b ob hb q => hk b ob (fun z => hb ((Wk X.A hh).sub b z)) q) hf hnew new
    refine ⟨.ref T, _, I1, rfl, ⟨T, xs, rfl, I.hok.fresh hnew, rfl, hfx⟩, ⟨st', hlt⟩, fun b hb => ?_⟩
    have hb' : b < s.heap.objs.size := by obtain ⟨o, ho, _⟩ := hobj i _ st.1 b hb; exact Heap.lt_size ho
    rw [upd_ne (Nat.ne_of_lt (Nat.lt_of_lt_of_le hb' hnew))]
    exact (hf b hb).1
  done := by
    intro X hP hw hK hc i pins s σ H E I hf st hg
    subst hP hw hK
    have hh : X.A.in1.handled = none := I.ok.hd hc
    have hge : n ≤ i := hg
    have hi : i = n := Nat.le_antisymm st.2 hge
    subst hi
    refine (Wk X.A hh).done s _ _ st.1 fun h' tk hk => ⟨rfl, ?_⟩
    exact I.turnedL (ch := fp) (fun c o hb q => hk c o (fun z => hb ((Wk X.A hh).sub c z)) q) hf
  self := fun A i s Q E st h => hself A i s Q E st.1 h
theorem walk_tuples {n : Nat} {f : Nat → List V → Prop} : Walk (ItTup n f) n (fun _ => True) (fun i H v H' => ∃ T xs, v = .ref T ∧ H T = none ∧ H' = upd H T (.tup xs) ∧ f i xs) :=
  ⟨fun _ _ hi _ => hi, fun _ _ => Nat.le_refl _, fun _ _ _ _ _ _ y => y⟩
/-! zip of two texts -/
def zipF (x y : Str) : Nat → List V → Prop := fun i xs => ∃ c d, x.cps[i]? = some c ∧ y.cps[i]? = some d ∧ xs = [.str ⟨#[c]⟩, .str ⟨#[d]⟩]
def iZipS (ta : TA) : TI := fun σ H R => ta σ H fun vs H1 => ∃ x y, vs = [.str x, .str y] ∧ R (ItTup (min x.cps.size y.cps.size) (zipF x y)) H1
theorem pi_zipS {X : Cx} {e e2 : Expr} {ta : TA} {p pos tpos : Pos} {elts : List Expr} {kk : Nat} (hg : Gl X "zip") (hm : X.mg "zip" = none) (ha : PA X [e, e2] ta)
    (hs : starEach [e, e2] X.env = (false, eval e X.env) :: starEach [e2] X.env := by rfl) (hpl : (backTo pos (starEach [e2] X.env)).any (·.1) = false := by rfl) :
    PI X (.Tuple elts kk tpos) (.Call (.Name "zip" p) [e, e2] [] pos) (iZipS ta) := by
  refine ⟨fun pins s σ H R I h => ?_⟩
  refine Call_ (ld_blt I hg hm PyProof.Rows.boot_zip (PyProof.Rows.callWith_type1 (thn (ha.run pos pins s σ H _ I h) fun us s1 ⟨vs, H1, I1, r1, q1⟩ => ?_) hs hpl))
  obtain ⟨x, y, ex, q⟩ := q1
  subst ex
  cases r1 with
  | cons r rr =>
    cases rr with
    | cons r' rr =>
      cases rr
      obtain ⟨t, rfl⟩ := r
      obtain ⟨t', rfl⟩ := r'
      refine zip_begins2 (begins_text x t) (begins_text y t') trivial trivial fun h' hz hTI hTO h1 h2 hsz hk => wpAny_pyIter_zip hz ?_
      have I2 : Inv X pins σ H1 { s1 with heap := h' } := I1.kept (t' := s1.toks) hk
      have sep := zip_sep2 (N := s1.heap.objs.size) (fp1 := []) (fp2 := []) (fun b hb => nomatch hb) (fun b hb => nomatch hb)
      have tn := turn_tuples (P := X.prog) (w := X.w) (K := X.K) (elts := elts) (kk := kk) (tpos := tpos) (f := zipF x y)
        (fun A hh => WalksT.zipD2 sep (Draws.text (prog := X.prog) (w := X.w) hh s1.heap.objs.size x t) (Draws.text (prog := X.prog) (w := X.w) hh (s1.heap.objs.size + 1) y t'))
        (fun i vals hv => by
          obtain ⟨x1, x2, ⟨c, u, hc, rfl⟩, ⟨d, u', hd, rfl⟩, rfl⟩ := hv
          exact ⟨[.str ⟨#[c]⟩, .str ⟨#[d]⟩], .cons ⟨_, rfl⟩ (.cons ⟨_, rfl⟩ .nil), ⟨c, d, hc, hd, rfl⟩, by show 2 ≤ 8; decide⟩)
        (fun i h st b hb => by
          obtain ⟨z1, z2, ⟨a1, a2, z3⟩, ⟨o1, e1, _, d1⟩, ⟨o2, e2, _, d2⟩⟩ := st
          have e' : b = s1.heap.objs.size + 4 ∨ b = s1.heap.objs.size + 2 ∨ b = s1.heap.objs.size + 3 ∨ b = s1.heap.objs.size ∨ b = s1.heap.objs.size + 1 := by simpa using hb
          rcases e' with q | q | q | q | q
          · rw [q]; exact ⟨_, z1, fun v q => nomatch q⟩
          · rw [q]; exact ⟨_, z2, fun v q => nomatch q⟩
          · rw [q]; exact ⟨_, z3, fun v q => nomatch q⟩
          · rw [q]; exact ⟨o1, e1, fun v q => by rw [d1] at q; cases q⟩
          · rw [q]; exact ⟨o2, e2, fun v q => by rw [d2] at q; cases q⟩)
        (by simp) (fun A i s Q E st h => wpAny_pyIter_zip st.1 h)
      refine ⟨s1.heap.objs.size + 4, _, _, _, H1, rfl, I2, tn, ⟨⟨hz, hTI, ⟨_, _, hTO⟩, ⟨_, h1, rfl, rfl⟩, ⟨_, h2, rfl, rfl⟩⟩, Nat.zero_le _⟩, fun c hcm => ?_, q⟩
      have e' : c = s1.heap.objs.size + 4 ∨ c = s1.heap.objs.size + 2 ∨ c = s1.heap.objs.size + 3 ∨ c = s1.heap.objs.size ∨ c = s1.heap.objs.size + 1 := by simpa using hcm
      have hle : s1.heap.objs.size ≤ c := by
        rcases e' with z | z | z | z | z
        · rw [z]; exact Nat.le_add_right _ _
        · rw [z]; exact Nat.le_add_right _ _
        · rw [z]; exact Nat.le_add_right _ _
        · rw [z]; exact Nat.le_refl _
        · rw [z]; exact Nat.le_add_right _ _
      exact I1.fpOk hle (I1.hok.fresh hle)
/-! text * int -/
section
variable {X : Cx}
theorem op_rep_str : OpR X (binaryOp .Mult) (fun x y H Q => ∃ (z : Str) (n : Int), x = .str z ∧ y = .int n ∧ n < 2 ^ 20 ∧ -(2 ^ 20) < n ∧ z.length * n.toNat ≤ 100000 ∧ Q (.str (Txt.mul z n)) H) := by
  intro pins s σ H x y u v Q I rx ry h
  obtain ⟨z, n, rfl, rfl, h1, h2, h3, q⟩ := h
  obtain ⟨t, rfl⟩ := rx
  obtain ⟨t', rfl⟩ := ry
  refine SB.mul ⟨?_, fun a b => ?_, fun a b => ?_⟩ fun t' k => ⟨.str (Txt.mul z n), H, I.tok _, ⟨_, rfl⟩, q⟩
  · rw [decide_eq_false (by omega), decide_eq_false (by omega)]; rfl
  · have e1 : ((z.length : Int)) ≤ 100000 := by
      have : z.length * 1 ≤ z.length * n.toNat := Nat.mul_le_mul_left _ (by omega)
      omega
    have e2 : (100000 : Int) ≤ (2 ^ 63 - 1) / n := by
      refine (Int.le_ediv_iff_mul_le (by omega)).mpr ?_
      omega
    omega
  · show decide (z.length * n.toNat > sizeLine) = false
    exact decide_eq_false (Nat.not_lt.mpr (Nat.le_trans h3 (by decide)))
end
/-! a class made without arguments; a def called without; a property -/
open C8 in
theorem pe_mk0 {X : Cx} {k j : Nat} {C : Addr} {x : Str} {sp : Sp} {dvs : List V} {p pos : Pos} (c : Mak X.prog X.w X.K X.mg X.base k x C sp dvs) (hr : Room j X.A) (hk : k + 1 ≤ j) (hg : Gl X x) (hdb : (x == ("__debug__" : Str)) = false := by decide) :
    PE X (.Call (.Name x p) [] [] pos) (tMake C sp dvs C8.E0 tNil) := by
  obtain ⟨f, fd, ps, ds, M, F, hm, b, d⟩ := c.ex
  exact pe_make0 M F (hr.mono hk) hg hm b d C8.pass0 hdb
open C8 in
theorem pe_c0 {X : Cx} {k j : Nat} {x : Str} {sp : Sp} {dvs : List V} {p pos : Pos} (c : Cal X.prog X.w X.K X.mg X.base k x sp dvs) (hr : Room j X.A) (hk : k ≤ j) (hg : Gl X x) (hdb : (x == ("__debug__" : Str)) = false := by decide) :
    PE X (.Call (.Name x p) [] [] pos) (tCall sp dvs C8.E0 tNil) := by
  obtain ⟨f, fd, ps, ds, F, hm, kp, b, d⟩ := c.ex
  exact pe_call0 F (hr.mono hk) hg hm kp b d C8.pass0 hdb
/-- a property of the class at C -/
structure Prp (P : Program) (w : World) (K : PySem.W.Frag) (mg : Str → Option Value) (base : Heap) (k : Nat) (C : Addr) (m : Str) (sp : Sp) : Prop where
  ex : ∃ (p f : Addr) (fd : FuncData) (ps : List Str), Cls K C ∧ PropOf K C m p f ∧ FnOk P w K mg base C8.CX0 k f fd ps sp ∧ Binds K fd ps []
theorem pe_pr {X : Cx} {k j : Nat} {C : Addr} {m : Str} {sp : Sp} {e : Expr} {ta : TE} {pos : Pos} (c : Prp X.prog X.w X.K X.mg X.base k C m sp) (hr : Room j X.A) (hk : k + 1 ≤ j) (he : PE X e ta) (hab : attributeBase e m X.env (eval e X.env) = eval e X.env := by rfl) :
    PE X (.Attribute e m pos) (tProp C sp [] C8.E0 ta) := by
  obtain ⟨p, f, fd, ps, hc, hp, F, b⟩ := c.ex
  exact pe_prop he hc hp F (hr.mono hk) b .nil C8.pass0 hab
end Lx

set_option maxRecDepth 100000
set_option maxHeartbeats 4000000
/-! sorted of pairs of texts -/
namespace SrT
open PySem PyProof.Rows SrtO
def IsTT (h : Heap) (v : Value) (x y : Str) : Prop := ∃ a o t u n, v = .ref a ∧ h.get? a = some o ∧ o.cls = .type "tuple" ∧ o.data = .seq #[.str x t, .str y u] n
theorem IsTT.keeps {h h' : Heap} {v : Value} {x y : Str} (p : IsTT h v x y) (k : ∀ b o, h.get? b = some o → o.cls = .type "tuple" → h'.get? b = some o) : IsTT h' v x y := by
  obtain ⟨a, o, t, u, n, e, ho, hc, hd⟩ := p
  exact ⟨a, o, t, u, n, e, k _ _ ho hc, hc, hd⟩
def lexT (p q : Str × Str) : Bool := if p.1 = q.1 then decide (p.2.cps.toList < q.2.cps.toList) else decide (p.1.cps.toList < q.1.cps.toList)
theorem str_of {a b : Str} (h : a.cps.toList = b.cps.toList) : a = b := TL.ext_tl h
theorem tri {a b : Str} (h1 : ¬ a.cps.toList < b.cps.toList) (h2 : ¬ b.cps.toList < a.cps.toList) : a = b :=
  str_of (List.le_antisymm (List.not_lt.mp h2) (List.not_lt.mp h1))
theorem lexT_no {p q : Str × Str} : lexT p q = false ↔ q.1.cps.toList < p.1.cps.toList ∨ (p.1 = q.1 ∧ ¬ p.2.cps.toList < q.2.cps.toList) := by
  unfold lexT
  by_cases e : p.1 = q.1
  · rw [if_pos e, decide_eq_false_iff_not]
    constructor
    · intro h; exact .inr ⟨e, h⟩
    · rintro (h | h)
      · rw [e] at h; exact absurd h (List.lt_irrefl _)
      · exact h.2
  · rw [if_neg e, decide_eq_false_iff_not]
    constructor
    · intro h
      by_cases c : q.1.cps.toList < p.1.cps.toList
      · exact .inl c
      · exact absurd (tri h c) e
    · rintro (h | h)
      · exact List.lt_asymm h
      · exact absurd h.1 e
theorem lexT_yes {p q : Str × Str} : lexT p q = true ↔ p.1.cps.toList < q.1.cps.toList ∨ (p.1 = q.1 ∧ p.2.cps.toList < q.2.cps.toList) := by
  unfold lexT
  by_cases e : p.1 = q.1
  · rw [if_pos e, decide_eq_true_eq]
    constructor
    · intro h; exact .inr ⟨e, h⟩
    · rintro (h | h)
      · rw [e] at h; exact absurd h (List.lt_irrefl _)
      · exact h.2
  · rw [if_neg e, decide_eq_true_eq]
    constructor
    · intro h; exact .inl h
    · rintro (h | h)
      · exact h
      · exact absurd h.1 e
theorem swo_T {α : Type} (k : α → Str × Str) : Swo fun v u => lexT (k v) (k u) := by
  refine ⟨fun x y h => ?_, fun x y z h1 h2 => ?_⟩
  · rcases lexT_yes.mp h with a | ⟨a, b⟩
    · exact lexT_no.mpr (.inl a)
    · exact lexT_no.mpr (.inr ⟨a.symm, List.lt_asymm b⟩)
  · refine lexT_no.mpr ?_
    rcases lexT_no.mp h1 with a | ⟨a, b⟩ <;> rcases lexT_no.mp h2 with c | ⟨c, d⟩
    · exact .inl (List.lt_trans a c)
    · rw [← c] at a; exact .inl a
    · rw [a] at c; exact .inl c
    · refine .inr ⟨c.trans a, fun hz => ?_⟩
      by_cases e : (k y).2.cps.toList < (k x).2.cps.toList
      · exact b e
      · by_cases g : (k z).2 = (k y).2
        · rw [g] at hz; exact b hz
        · by_cases i : (k y).2.cps.toList < (k z).2.cps.toList
          · exact b (List.lt_trans i hz)
          · exact g (tri d i)
section
variable {prog : Program} {w : World} {A : Around} {E : Value → Shared → Prop} {s : Shared}
theorem tt_cmp {vs : List Value} {k : Value → Str × Str} (hp : ∀ v ∈ vs, IsTT s.heap v (k v).1 (k v).2) : Cmp prog w A s (tuples' true) (fun p => p.1 ∈ vs) (lt2 fun v u => lexT (k v) (k u)) := by
  intro p q hm hm'
  have h1 := hp _ hm
  have h2 := hp _ hm'
  show wpAny (model prog w) A (keyLt' (tuples' true) p.1 q.1) (fun r s' => s' = s ∧ r = lexT (k p.1) (k q.1)) (fun _ _ => False) s
  unfold lexT
  generalize (k p.1).1 = x at h1 ⊢
  generalize (k p.1).2 = y at h1 ⊢
  generalize (k q.1).1 = x' at h2 ⊢
  generalize (k q.1).2 = y' at h2 ⊢
  obtain ⟨a, o, t, u, n, e, ho, hc, hd⟩ := h1
  obtain ⟨a', o', t', u', n', e', ho', hc', hd'⟩ := h2
  rw [e, e']
  refine PySem.W.kat_lt ho hd ho' hd' ?_
  show PySem.W.KatLex prog w A true (decide (2 < 2)) _ [(.str x t, .str x' t'), (.str y u, .str y' u')] 0 s
  refine PySem.W.kat_cons (SeqAt.EqAt.str_str x t x' t' prog w _ _ ?_)
  refine PySem.W.kat_go (fun e1 => ?_) (fun e1 => ?_)
  · have ex : x = x' := by simpa using e1
    refine PySem.W.kat_yes (PySem.W.kat_cons (SeqAt.EqAt.str_str y u y' u' prog w _ _ ?_))
    refine PySem.W.kat_go (fun e2 => ?_) (fun e2 => ?_)
    · have ey : y = y' := by simpa using e2
      have e3 : (if x = x' then decide (y.cps.toList < y'.cps.toList) else decide (x.cps.toList < x'.cps.toList)) = false := by
        rw [if_pos ex, ey]
        exact decide_eq_false (List.lt_irrefl _)
      exact PySem.W.kat_yes (PySem.W.kat_nil ⟨rfl, e3.symm⟩)
    · have e3 : (if x = x' then decide (y.cps.toList < y'.cps.toList) else decide (x.cps.toList < x'.cps.toList)) = decide (y.cps.toList < y'.cps.toList) := if_pos ex
      refine PySem.W.kat_no (PySem.W.kat_one _ _ (PyProof.Rows.lt_str ?_))
      exact (show s = s ∧ decide (y.cps.toList < y'.cps.toList) = (if x = x' then decide (y.cps.toList < y'.cps.toList) else decide (x.cps.toList < x'.cps.toList)) from ⟨rfl, e3.symm⟩)
  · have ex : ¬ x = x' := by simpa using e1
    have e3 : (if x = x' then decide (y.cps.toList < y'.cps.toList) else decide (x.cps.toList < x'.cps.toList)) = decide (x.cps.toList < x'.cps.toList) := if_neg ex
    exact PySem.W.kat_no (oneLt_str ⟨rfl, e3.symm⟩)
theorem firsts_T {h : Heap} : ∀ {vs : List Value}, (∀ v ∈ vs, ∃ x y, IsTT h v x y) → ∃ fs : List Value, PySem.W.KatTups h vs fs ∧ fs.length = vs.length ∧ ∀ f ∈ fs, ∃ x t, f = Value.str x t
  | [], _ => ⟨[], PySem.W.KatTups.nil, rfl, fun _ hm => by simp at hm⟩
  | v :: vs, hp => by
    obtain ⟨fs, h1, h2, h3⟩ := firsts_T (vs := vs) fun v' hm => hp v' (List.mem_cons_of_mem _ hm)
    obtain ⟨x, y, a, o, t, u, n, e, ho, hc, hd⟩ := hp v (List.mem_cons_self ..)
    subst e
    refine ⟨.str x t :: fs, PySem.W.KatTups.cons ho hc hd rfl h1, by rw [List.length_cons, List.length_cons, h2], fun f hm => ?_⟩
    rcases List.mem_cons.mp hm with rfl | hm
    · exact ⟨x, t, rfl⟩
    · exact h3 f hm
theorem tt_sortable {a : Addr} {vs : List Value} {k : Value → Str × Str} (h0 : 0 < vs.length) (hp : ∀ v ∈ vs, IsTT s.heap v (k v).1 (k v).2) (ha : ∀ o, s.heap.get? a = some o → o.cls ≠ .type "tuple") : SortableO prog w A s a vs fun v u => lexT (k v) (k u) := by
  intro h' keep
  have hp' : ∀ v ∈ vs, IsTT h' v (k v).1 (k v).2 := fun v hm => (hp v hm).keeps fun b o e c => keep b o (fun z => by subst z; exact ha o e c) e
  obtain ⟨fs, h1, h2, h3⟩ := firsts_T fun v hm => ⟨_, _, hp' v hm⟩
  refine ⟨tuples' true, fun Q E hq => ?_, tt_cmp hp'⟩
  refine PySem.W.kat_kind (T := .type "str") h1 (by omega) (fun f hm => ?_) (by rfl) ?_
  · obtain ⟨x, t, rfl⟩ := h3 f hm
    exact PySem.W.Looks.now
  · have e : (Value.type "str" != Value.type "tuple") = true := by first | decide +kernel | rfl | decide
    rw [e]
    exact hq
theorem collect_tup {l : Addr} {vs : List Value} {Q : List Value → Shared → Prop} (hl : s.heap.IsTuple l vs.toArray)
    (h : Q vs { s with heap := (s.heap.push (seqObj "list" #[] 0)).update s.heap.objs.size (Obj.mapSeq (· ++ vs.toArray)) }) (hsz : vs.length ≤ sizeLine) :
    wpAny (model prog w) A (collect (.ref l)) Q E s := by
  obtain ⟨o, ho, hc, n, hd⟩ := id hl
  unfold collect
  refine wpAny_bind (wpAny_runValue (codeAny_builtin entry_proto_collect' ?_))
  show wpAny _ _ (do again (.builtin "list.__iadd__" ⟨[← newList [], .ref l], []⟩)) _ _ s
  refine wpAny_bind (wpAny_newList (wpAny_pure ⟨Code.quiet_builtin _ (by decide +kernel), codeAny_builtin entry_list_iadd' ?_⟩))
  show wpAny _ _ (Builtin.List.listExtendWith (.ref s.heap.objs.size) (.ref l) (.ref s.heap.objs.size)) _ _ { s with heap := s.heap.push (seqObj "list" #[] 0) }
  unfold Builtin.List.listExtendWith
  have ho' : (s.heap.push (seqObj "list" #[] 0)).get? l = some o := Heap.get?_push_of_some _ ho
  refine wpAny_bind (wpAny_typeOf (T := "tuple") ⟨o, ho', hc⟩ ?_)
  have ht : (Value.type "tuple" == Value.type "tuple") = true := by rfl
  rw [if_pos (by rw [ht]; simp)]
  refine wpAny_bind (listItems_at ho' hd ?_)
  refine wpAny_bind (listItems_at (xs := #[]) (n := 0) (Heap.get?_push_size _ rfl) rfl ?_)
  rw [if_neg (by simp)]
  refine wpAny_bind (listUpdate_at (xs := #[]) (n := 0) (Heap.get?_push_size _ rfl) rfl ?_ (Nat.zero_le _) (by show (#[] ++ vs.toArray).size ≤ sizeLine + 1; simp only [Array.size_append, List.size_toArray, List.length_nil]; omega))
  refine wpAny_pure ?_
  show wpAny (model prog w) A (do
      let o ← load s.heap.objs.size
      match o.data with
      | .seq xs _ => pure xs.toList
      | _ => unsupported "internal:collect") Q E { s with heap := (s.heap.push (seqObj "list" #[] 0)).update s.heap.objs.size (Obj.mapSeq (· ++ vs.toArray)) }
  refine wpAny_bind (wpAny_load (get?_update_seq (Heap.get?_push_size _ rfl) _) ?_)
  show wpAny _ _ (pure ((#[] : Array Value) ++ vs.toArray).toList) Q E _
  rw [show ((#[] : Array Value) ++ vs.toArray).toList = vs by simp]
  exact wpAny_pure h
/-- sorted(x) of what is collected -/
theorem sorted_col {x : Value} {vs : List Value} {ltv : Value → Value → Bool} {Q : Value → Shared → Prop} (O : Swo ltv)
    (hcol : ∀ (A : Around) (E : Value → Shared → Prop) (Q : List Value → Shared → Prop), Q vs { s with heap := (s.heap.push (seqObj "list" #[] 0)).update s.heap.objs.size (Obj.mapSeq (· ++ vs.toArray)) } → wpAny (model prog w) A (collect x) Q E s) (hz : vs.length ≤ sizeLine)
    (hS : 2 ≤ vs.length → ∀ (h₁ : Heap) (a : Addr), h₁.get? a = some (seqObj "list" vs.toArray 0) → (∀ b o, s.heap.get? b = some o → b ≠ a ∧ h₁.get? b = some o) → SortableO prog w A.in1.in1 { s with heap := h₁ } a vs ltv)
    (h : ∀ out : List Value, Srtd ltv out → Stb ltv out vs → Q (.ref (s.heap.objs.size + 1)) { s with heap := sortedAll s.heap vs out.toArray }) :
    wpAny (model prog w) A (call (.builtin "sorted") [x]) Q E s := by
  refine Calls.call_function_entry kind_sorted plain_sorted entry_sorted (args_sorted1 _) ?_
  unfold Builtin.«sorted»
  refine wpAny_bind (m := checkCount "sorted" 1 1 _) (wpAny_pure ?_)
  refine wpAny_bind (hcol _ _ _ ?_)
  refine wpAny_bind (wpAny_newList ?_ hz)
  have hsz : ((s.heap.push (seqObj "list" #[] 0)).update s.heap.objs.size (Obj.mapSeq (· ++ vs.toArray))).objs.size = s.heap.objs.size + 1 := by
    rw [Heap.size_update, size_push']
  have hoL : (((s.heap.push (seqObj "list" #[] 0)).update s.heap.objs.size (Obj.mapSeq (· ++ vs.toArray))).push (seqObj "list" vs.toArray 0)).get? (s.heap.objs.size + 1) = some (seqObj "list" vs.toArray 0) := by
    rw [← hsz]; exact Heap.get?_push_size _ rfl
  have keep : ∀ b o, s.heap.get? b = some o → b ≠ s.heap.objs.size + 1 ∧ (((s.heap.push (seqObj "list" #[] 0)).update s.heap.objs.size (Obj.mapSeq (· ++ vs.toArray))).push (seqObj "list" vs.toArray 0)).get? b = some o := fun b o q => by
    have hlt : b < s.heap.objs.size := Heap.lt_size q
    refine ⟨Nat.ne_of_lt (Nat.lt_succ_of_lt hlt), Heap.get?_push_of_some _ ?_⟩
    rw [Heap.get?_update_ne _ _ _ _ (Nat.ne_of_lt hlt)]
    exact Heap.get?_push_of_some _ q
  show wpAny _ _ _ _ _ { s with heap := ((s.heap.push (seqObj "list" #[] 0)).update s.heap.objs.size (Obj.mapSeq (· ++ vs.toArray))).push (seqObj "list" vs.toArray 0) }
  rw [hsz]
  refine wpAny_bind (wpAny_holding (wpAny_call_entry slot_list_sort ⟨_, hoL, rfl⟩ entry_list_sort (list_sort_ord O hoL hz (fun h2 => hS h2 _ _ hoL keep) fun out hs hb => ⟨_, rfl, ?_⟩) (args_list_sort _)))
  exact wpAny_pure ⟨_, rfl, h out hs hb⟩
end
end SrT
namespace Lx
open PySem PySem.Spec PyProof.Rows L2
/-- sorted(xs), xs a list or a tuple of pairs of texts -/
def rSortedT (K : PySem.W.Frag) : List V → Hp → VK → Prop := fun vs H Q => ∃ (a : Addr) (ps : List Addr) (k : Addr → Str × Str), vs = [V.ref a] ∧ (SqL K H a (ps.map V.ref) ∨ SqT K H a (ps.map V.ref)) ∧ (∀ t ∈ ps, H t = some (.tup [.str (k t).1, .str (k t).2])) ∧
  ∀ (qs : List Addr) p, SrtO.Srtd (fun x y => SrT.lexT (k x) (k y)) qs → qs.Perm ps → H p = none → Q (.ref p) (upd H p (.lst (qs.map V.ref)))
section
variable {X : Cx}
theorem cr_sortedT : CallR X (.builtin "sorted") (rSortedT X.K) := by
  intro pins s σ H vs us Q I r h
  obtain ⟨a, ps, k, rfl, hs, hx, q⟩ := h
  obtain ⟨u, rfl, ru⟩ := vals1 r
  obtain rfl : u = Value.ref a := ru
  have com : ∀ its : List Value, Vals (ps.map V.ref) its → its.length ≤ sizeLine → (∀ (A : Around) (E : Value → Shared → Prop) (Q : List Value → Shared → Prop), Q its { s with heap := (s.heap.push (seqObj "list" #[] 0)).update s.heap.objs.size (Obj.mapSeq (· ++ its.toArray)) } → wpAny (model X.prog X.w) A (collect (.ref a)) Q E s) →
      wpAny (model X.prog X.w) X.A (call (.builtin "sorted") [Value.ref a]) (EP X pins σ Q) X.xe s := by
    intro its rv hz hcol
    have ei : its = ps.map Value.ref := by
      clear hcol hz hx q hs
      induction ps generalizing its with
      | nil => cases rv; rfl
      | cons x l ih =>
        cases rv with
        | cons h1 h2 =>
          rw [List.map_cons, ← ih _ h2]
          congr 1
    subst ei
    have hp : ∀ v ∈ ps.map Value.ref, SrT.IsTT s.heap v (match v with | .ref t => k t | _ => ("", "")).1 (match v with | .ref t => k t | _ => ("", "")).2 := by
      intro v hv
      obtain ⟨t, ht, rfl⟩ := List.mem_map.mp hv
      obtain ⟨_, its2, r2, o, ho, hc, n, hd⟩ := I.hok _ _ (hx t ht)
      obtain ⟨u1, u2, rfl, ri, rj⟩ := vals2 r2
      obtain ⟨t1, rfl⟩ := ri
      obtain ⟨t2, rfl⟩ := rj
      exact ⟨t, o, t1, t2, n, rfl, ho, hc, hd⟩
    refine SrT.sorted_col (SrT.swo_T fun v : Value => match v with | .ref t => k t | _ => ("", "")) hcol hz (fun h2 h₁ b hb kk => ?_) fun out h1 h2 => ?_
    · refine SrT.tt_sortable (s := { s with heap := h₁ }) (by omega) (fun v hm => (hp v hm).keeps fun b o e _ => (kk b o e).2) fun o e => ?_
      have e' : some o = some (seqObj "list" (ps.map Value.ref).toArray 0) := e.symm.trans hb
      cases e'
      intro c
      exact absurd (Value.type.inj c) (by decide)
    · obtain ⟨qs, rfl⟩ : ∃ qs : List Addr, out = qs.map Value.ref := by
        have hm : ∀ v ∈ out, ∃ t, v = Value.ref t := fun v hv => by
          obtain ⟨t, _, e⟩ := List.mem_map.mp (h2.perm.mem_iff.mp hv)
          exact ⟨t, e.symm⟩
        clear h1 h2
        induction out with
        | nil => exact ⟨[], rfl⟩
        | cons v r ih =>
          obtain ⟨t, rfl⟩ := hm v List.mem_cons_self
          obtain ⟨qs, rfl⟩ := ih fun v hv => hm v (List.mem_cons_of_mem _ hv)
          exact ⟨t :: qs, rfl⟩
      have perm : qs.Perm ps := by
        have h3 := h2.perm.map (fun v : Value => match v with | .ref t => t | _ => 0)
        rw [List.map_map, List.map_map] at h3
        have ef : ((fun v : Value => match v with | .ref t => t | _ => 0) ∘ Value.ref) = id := by funext t; rfl
        rw [ef, List.map_id, List.map_id] at h3
        exact h3
      have srt : SrtO.Srtd (fun x y => SrT.lexT (k x) (k y)) qs := List.pairwise_map.mp h1
      obtain ⟨n, hn⟩ := PyProof.Rows.sortedAll_at s.heap (ps.map Value.ref) (qs.map Value.ref).toArray
      have hd : s.heap.objs.size ≤ s.heap.objs.size + 1 := Nat.le_succ _
      have rq : Vals (qs.map V.ref) (qs.map Value.ref) := by
        clear h1 h2 perm srt hn
        induction qs with
        | nil => exact .nil
        | cons x l ih => exact .cons rfl ih
      refine ⟨.ref (s.heap.objs.size + 1), upd H (s.heap.objs.size + 1) (.lst (qs.map V.ref)), I.laid (t' := s.toks) (fun b o e => PyProof.Rows.sortedAll_old e) hd ⟨?_, _, n, rq, hn⟩, rfl, q qs _ srt perm (I.hok.fresh hd)⟩
      rw [List.length_map, perm.length_eq, ← List.length_map (f := Value.ref)]
      exact hz
  rcases hs with hs | hs
  · obtain ⟨its, rv, hl, hz⟩ := I.list hs
    exact com its rv (by rw [← rv.length]; exact hz) fun A E Q h => collect_list hl.isList h (by rw [← rv.length]; exact hz)
  · obtain ⟨its, rv, hl, hz⟩ := I.tuple hs
    exact com its rv (by rw [← rv.length]; exact hz) fun A E Q h => SrT.collect_tup (show s.heap.IsTuple a its.toArray from hl) h (by rw [← rv.length]; exact hz)
/-- a list or a tuple, walked -/
def iSeq (K : PySem.W.Frag) (tl : TE) : TI := fun σ H R => iList K tl σ H R ∨ iTup K tl σ H R
theorem pi_seq {tg l : Expr} {tl : TE} (hl : PE X l tl) : PI X tg l (iSeq X.K tl) := by
  refine ⟨fun pins s σ H R I h => ?_⟩
  rcases h with h | h
  · exact (pi_list hl).run pins s σ H R I h
  · exact (pi_tup hl).run pins s σ H R I h
theorem ty_list {K : PySem.W.Frag} {H : Hp} {a : Addr} {xs : List V} (h : SqL K H a xs) : TyX K H (.ref a) (.type "list") := by
  rcases h with (h | ⟨o, h⟩) | ⟨o, its, n, hk, hc, _⟩
  · exact .base (.lst h)
  · exact .base (.frz h)
  · exact .kList hk hc
theorem ty_tup {K : PySem.W.Frag} {H : Hp} {a : Addr} {xs : List V} (h : SqT K H a xs) : TyX K H (.ref a) (.type "tuple") := by
  rcases h with (h | ⟨o, h⟩) | ⟨o, its, n, hk, hc, _⟩
  · exact .base (.tup h)
  · exact .fTuple h
  · exact .kTuple hk hc
theorem same_tup {K : PySem.W.Frag} {H H' : Hp} {a : Addr} {xs : List V} (e : Same H H') (h : SqT K H a xs) : SqT K H' a xs := by
  rcases h with (h | ⟨o, h⟩) | h
  · exact .inl (.inl (e _ _ h))
  · exact .inl (.inr ⟨o, e _ _ h⟩)
  · exact .inr h
/-- a list or a tuple -/
def Sq (K : PySem.W.Frag) (H : Hp) (a : Addr) (xs : List V) : Prop := SqL K H a xs ∨ SqT K H a xs
theorem Sq.same {K : PySem.W.Frag} {H H' : Hp} {a : Addr} {xs : List V} (h : Sq K H a xs) (e : Same H H') : Sq K H' a xs := h.elim (fun h => .inl (e.seq h)) (fun h => .inr (same_tup e h))
end
end Lx

set_option maxRecDepth 100000
set_option maxHeartbeats 4000000
namespace Lx
open PySem PySem.Spec PyProof.Rows L2
section
variable {X : Cx} {k j : Nat} {C : Addr} {sp : Sp}
/-- a def run from a deeper place of the same frame -/
theorem run_sub {CX : CXT} {f : Addr} {fd : FuncData} {ps : List Str} {A : Around} {pins : List (Addr × Obj)} {σ : L2.St} {H : Hp} {s : Shared} {Q : VK} {E : XK} {us : List Value} {vs : List V} (F : FnOk X.prog X.w X.K X.mg X.base CX k f fd ps sp) (sb : Sub X k A) (hb : Binds X.K fd ps [])
    (hx : Passes CX X E) (I : Inv X pins σ H s) (r : Vals vs us) (h : sp vs H Q E) : wpAny (model X.prog X.w) A (call (.ref f) us) (EP X pins σ Q) X.xe s := by
  have e0 : Env0 X.prog X.w X.K X.mg X.base A X.stack s H := by
    have e := I.env0
    exact ⟨by rw [sb.fr]; exact e.frames, e.mod, e.bs, e.bsz, e.funs, e.frf, e.hok, e.bare⟩
  have hl : (us ++ []).length = ps.length := by rw [List.append_nil, ← r.length]; exact F.len _ _ _ _ h
  refine wpAny_call (codeAny_mono (F.run A X.stack s H ⟨us, []⟩ us vs Q E sb.room e0 (by have := hb s us I.kIn hl; simpa using this) r h) fun r s' hq => ?_)
  cases r with
  | error e => exact hx pins σ H s e s' I hq
  | ok fl =>
    cases fl with
    | ret w => exact I.after hq
    | next => exact False.elim hq
    | brk => exact False.elim hq
    | cont => exact False.elim hq
theorem vals_nil {ds : List Value} (h : Vals [] ds) : ds = [] := by cases h; rfl
theorem sub_in2 {A : Around} (hr : Room j A) (hk : k + 2 ≤ j) (hf : A.frames = X.A.frames) : Sub X k A.in1.in1 := by
  have s : Sub X (k + 2) A := ⟨hr.mono hk, hf⟩
  exact s.in1.in1
/-- str(o) by the text's own __str__ -/
def rStrO (C : Addr) (sp : Sp) : List V → Hp → VK → Prop := fun xs H Q => ∃ a dx fs, xs = [.ref a] ∧ H a = some (.ins C dx fs) ∧ sp [.ref a] H (fun v H' => ∃ z, v = .str z ∧ Q (.str z) H') C8.E0
theorem call_str_own (c : C8.Met X.prog X.w X.K X.mg X.base k C "__str__" sp []) (hr : Room j X.A) (hk : k + 2 ≤ j) : CallR X (.type "str") (rStrO C sp) := by
  intro pins s σ H xs us Q I rv h
  obtain ⟨a, dx, fs, rfl, ha, hsp⟩ := h
  obtain ⟨f, fd, ps, ds, _, me, F, b, d⟩ := c.ex
  obtain rfl := vals_nil d
  cases rv with
  | cons r rr =>
    cases rr
    cases r
    obtain ⟨mA, J, _⟩ := ins_get I.hok ha
    obtain ⟨od, J, _⟩ := J.look
    have sb : Sub X k X.A.in1.in1 := sub_in2 hr hk rfl
    refine PySem.W.kso_call sb.room.units0 I.kIn J me.at_ me.fn (wpAny_mono (run_sub (vs := [.ref a]) F sb b C8.pass0 I (.cons rfl .nil) hsp) (fun u s' q => ?_) fun _ _ x => x)
    obtain ⟨v, H', I', ru, z, ez, q⟩ := q
    subst ez
    obtain ⟨t, rfl⟩ := ru
    exact ⟨.str z, H', I', ⟨t, rfl⟩, q⟩
/-- len(o) by the text's own __len__ -/
def rLenO (C : Addr) (sp : Sp) : List V → Hp → VK → Prop := fun xs H Q => ∃ a dx fs, xs = [.ref a] ∧ H a = some (.ins C dx fs) ∧ sp [.ref a] H (fun v H' => ∃ n : Int, v = .int n ∧ 0 ≤ n ∧ n < 2 ^ 63 ∧ Q (.int n) H') C8.E0
theorem call_len_own (c : C8.Met X.prog X.w X.K X.mg X.base k C "__len__" sp []) (hr : Room j X.A) (hk : k + 2 ≤ j) : CallR X (.builtin "len") (rLenO C sp) := by
  intro pins s σ H xs us Q I rv h
  obtain ⟨a, dx, fs, rfl, ha, hsp⟩ := h
  obtain ⟨f, fd, ps, ds, _, me, F, b, d⟩ := c.ex
  obtain rfl := vals_nil d
  cases rv with
  | cons r rr =>
    cases rr
    cases r
    obtain ⟨mA, J, _⟩ := ins_get I.hok ha
    obtain ⟨od, J, _⟩ := J.look
    have sb : Sub X k X.A.in1 := (show Sub X (k + 1) X.A from ⟨hr.mono (by omega), rfl⟩).in1
    obtain ⟨m, hF⟩ := I.fr
    refine PySem.W.len_K hF I.ok.mod.kin J me.at_ me.fn (wpAny_mono (run_sub (vs := [.ref a]) F sb b C8.pass0 I (.cons rfl .nil) hsp) (fun u s' q => ?_) fun _ _ x => x)
    obtain ⟨v, H', I', ru, z, ez, h0, h1, q⟩ := q
    subst ez
    obtain ⟨t, rfl⟩ := ru
    exact ⟨⟨h0, h1⟩, .int z, H', I'.tok _, ⟨_, rfl⟩, q⟩
/-- o == p, both of the class at C, by the text's own __eq__ -/
def rEqO (C : Addr) (sp : Sp) : R2 := fun x y H Q => ∃ a b dx dy fs gs, x = .ref a ∧ y = .ref b ∧ H a = some (.ins C dx fs) ∧ H b = some (.ins C dy gs) ∧ sp [.ref a, .ref b] H (fun v H' => ∃ t : Bool, v = .bl t ∧ Q (.bl t) H') C8.E0
theorem op_eqOwn (c : C8.Met X.prog X.w X.K X.mg X.base k C "__eq__" sp []) (hr : Room j X.A) (hk : k ≤ j) : OpR X (compareOp .Eq) (rEqO C sp) := by
  intro pins s σ H x y v u Q I rx ry h
  obtain ⟨a, b, dx, dy, fs, gs, rfl, rfl, ha, hb, hsp⟩ := h
  obtain ⟨f, fd, ps, ds, _, me, F, bn, d⟩ := c.ex
  obtain rfl := vals_nil d
  cases rx
  cases ry
  obtain ⟨mA, J, _⟩ := ins_get I.hok ha
  obtain ⟨mB, J', _⟩ := ins_get I.hok hb
  obtain ⟨od, J, _⟩ := J.look
  obtain ⟨od', J', _⟩ := J'.look
  obtain ⟨m, hF⟩ := I.fr
  have sb : Sub X k X.A := ⟨hr.mono hk, rfl⟩
  show wpAny (model X.prog X.w) X.A (richCompare .Eq (.ref a) (.ref b)) (EP X pins σ Q) X.xe s
  refine PySem.W.cmp_K (op := .Eq) (tb := .ref C) sb.room.units0 hF I.ok.mod.kin J J'.type (by simp [PySem.W.notFirst]) me.at_ me.fn ?_
  refine wpAny_mono (run_sub (vs := [.ref a, .ref b]) F sb bn C8.pass0 I (.cons rfl (.cons rfl .nil)) hsp) (fun u s' q => ?_) fun _ _ x => x
  obtain ⟨v, H', I', ru, t, ez, q⟩ := q
  subst ez
  cases (show u = Value.bool t from ru)
  exact ⟨.bl t, H', I', rfl, q⟩
end
/-- what of the text != wants -/
structure NeT (K : PySem.W.Frag) (C : Addr) : Prop where
  mro : PySem.W.mroIn K C (.type "object") = some true
  ne : PySem.W.findIn K (.ref C) "__ne__" = some (some (.builtin "object.__ne__"))
section
open PySem.W
variable {M : Model} {prog : Program} {w : World} {A : Around} {E : Value → Shared → Prop} {s : Shared} {K : PySem.W.Frag} {x C f : Addr} {ox : Obj} {od : Option Obj} {b tb : Value}
theorem ifBound_bltn {name : Str} {id : String} {args : List Value} {Q : Option Value → Shared → Prop} (X : K.In s.heap) (I : PySem.W.InstAt s.heap x ox C od) (hs : PySem.W.findIn K (.ref C) name = some (some (.builtin id)))
    (hb : ∀ self, bindSpecial (.builtin id) self = pure (.builtin id, [self])) (h : wpAny M A (call (.builtin id) (.ref x :: args)) (fun v => Q (some v)) E s) : wpAny M A (callSpecialIfBound? (.ref x) name args) Q E s := by
  simp only [callSpecialIfBound?, bindSpecialIfBound?]
  refine wpAny_holding (wpAny_bind (wpAny_bind (wpAny_bind (I.type.here ((PySem.W.looks_findIn X hs).here ?_)))))
  refine wpAny_bind (wpAny_askSetting (wpAny_ite ?_))
  have fin : wpAny M A (call (.builtin id) ([.ref x] ++ args) >>= fun v => pure (some v)) Q E s := wpAny_bind (wpAny_mono h (fun v s' h' => wpAny_pure h') fun _ _ h' => h')
  split
  · exact wpAny_bind (wpAny_of_eq (hb _) (wpAny_pure (by exact fin)))
  · exact wpAny_tryCatch (wpAny_bind (wpAny_of_eq (hb _) (wpAny_pure (by exact fin))))
theorem ne_tree {Q : Fin → Shared → Prop} (hu : A.units < cLine) (X : K.In s.heap) (I : PySem.W.InstAt s.heap x ox C od) (he : PySem.W.findIn K (.ref C) "__eq__" = some (some (.ref f))) (hf : PySem.W.isFn K (.ref f) = true)
    (h : wpAny M A (call (.ref f) [.ref x, b]) (fun v s' => ∃ t : Bool, v = .bool t ∧ Q (.done (.ret (.bool (!t)))) s') E s) : wpAny M A (Builtin.«object.__ne__» ⟨[.ref x, b], []⟩) Q E s := by
  unfold Builtin.«object.__ne__»
  refine wpAny_bind (m := slotArgs "__ne__" 1 _) (wpAny_pure ?_)
  refine wpAny_bind (m := cRoomFor _ _) (wpAny_cRoomFor hu ?_)
  refine wpAny_bind (m := callSpecialIfBound? (.ref x) (Str.ofString "__eq__") _) (ifBound_K X I he hf (wpAny_mono h (fun r s' hr => ?_) fun _ _ y => y))
  obtain ⟨t, rfl, q⟩ := hr
  exact wpAny_bind (wpAny_truthy_bool (wpAny_pure q))
theorem cmp_neK {Q : Value → Shared → Prop} (hu : A.units < cLine) (hu1 : A.in1.units < cLine) (X : K.In s.heap) (I : PySem.W.InstAt s.heap x ox C od) (hb : Looks (model prog w) s.heap (typeOf b) tb) (hn : PySem.W.notFirst K C tb = true) (N : NeT K C)
    (he : PySem.W.findIn K (.ref C) "__eq__" = some (some (.ref f))) (hf : PySem.W.isFn K (.ref f) = true)
    (h : wpAny (model prog w) A.in1 (call (.ref f) [.ref x, b]) (fun v s' => ∃ t : Bool, v = .bool t ∧ Q (.bool (!t)) s') E s) : wpAny (model prog w) A (richCompare .NotEq (.ref x) b) Q E s := by
  have one : wpAny (model prog w) A (tryCompare (.ref x) (cmpInfo .NotEq).2.1 b) (fun r s' => ∃ v, r = some v ∧ Q v s') E s := by
    unfold tryCompare
    refine wpAny_bind (ifBound_bltn X I N.ne F.cmp_object.ne.bind ?_)
    refine wpAny_call (codeAny_call_builtin F.cmp_object.ne.plain F.cmpEntry_ne (PySem.W.check_slot F.cmpKind_ne F.cmpSplit_ne (I.type.andThen (PySem.W.looks_mroIn X N.mro)) (F.cmpArgs_ne _ _) (ne_tree hu1 X I he hf (wpAny_mono h (fun v s' hv => ?_) fun _ _ e => e))))
    obtain ⟨t, rfl, q⟩ := hv
    exact ⟨t, rfl, wpAny_pure ⟨_, rfl, q⟩⟩
  unfold richCompare
  simp only [oneThing_ref]
  refine wpAny_holding (wpAny_bind (wpAny_cRoomFor hu ?_))
  refine wpAny_bind (I.type.here (wpAny_bind (hb.here ?_)))
  split
  · rename_i q
    have e : subIn K tb (.ref C) = some false := by
      rcases Bool.or_eq_true_iff.mp hn with e | e
      · rw [beq_iff_eq.mp e] at q; simp at q
      · exact beq_iff_eq.mp e
    refine wpAny_bind ((looks_subIn X e).here ?_)
    simp only [Bool.false_eq_true, if_false]
    refine wpAny_bind (wpAny_mono one (fun r s' z => ?_) fun _ _ e => e)
    obtain ⟨v, rfl, hq⟩ := z
    exact wpAny_pure hq
  · refine wpAny_bind (wpAny_pure ?_)
    simp only [Bool.false_eq_true, if_false]
    refine wpAny_bind (wpAny_mono one (fun r s' z => ?_) fun _ _ e => e)
    obtain ⟨v, rfl, hq⟩ := z
    exact wpAny_pure hq
end
section
variable {X : Cx} {k j i : Nat} {C : Addr} {sp : Sp} {x y : Str} {dvs : List V} {p pos : Pos} {e : Expr} {es : List Expr} {t : TA}
/-- o != p -/
def rNeO (C : Addr) (sp : Sp) : R2 := fun x y H Q => ∃ a b dx dy fs gs, x = .ref a ∧ y = .ref b ∧ H a = some (.ins C dx fs) ∧ H b = some (.ins C dy gs) ∧ sp [.ref a, .ref b] H (fun v H' => ∃ t : Bool, v = .bl t ∧ Q (.bl (!t)) H') C8.E0
theorem op_neOwn (c : C8.Met X.prog X.w X.K X.mg X.base k C "__eq__" sp []) (N : NeT X.K C) (hr : Room j X.A) (hk : k + 1 ≤ j) : OpR X (compareOp .NotEq) (rNeO C sp) := by
  intro pins s σ H x y v u Q I rx ry h
  obtain ⟨a, b, dx, dy, fs, gs, rfl, rfl, ha, hb, hsp⟩ := h
  obtain ⟨f, fd, ps, ds, _, me, F, bn, d⟩ := c.ex
  obtain rfl := vals_nil d
  cases rx
  cases ry
  obtain ⟨mA, J, _⟩ := ins_get I.hok ha
  obtain ⟨mB, J', _⟩ := ins_get I.hok hb
  obtain ⟨od, J, _⟩ := J.look
  obtain ⟨od', J', _⟩ := J'.look
  have sb1 : Sub X (k + 1) X.A := ⟨hr.mono hk, rfl⟩
  have sb := sb1.in1
  show wpAny (model X.prog X.w) X.A (richCompare .NotEq (.ref a) (.ref b)) (EP X pins σ Q) X.xe s
  refine cmp_neK (tb := .ref C) sb1.room.units0 sb.room.units0 I.kIn J J'.type (by simp [PySem.W.notFirst]) N me.at_ me.fn ?_
  refine wpAny_mono (run_sub (vs := [.ref a, .ref b]) F sb bn C8.pass0 I (.cons rfl (.cons rfl .nil)) hsp) (fun u s' q => ?_) fun _ _ x => x
  obtain ⟨v, H', I', ru, t, ez, q⟩ := q
  subst ez
  cases (show u = Value.bool t from ru)
  exact ⟨t, rfl, .bl (!t), H', I', rfl, q⟩
/-- the class in the i-th slot is made -/
def tMakeL (i : Nat) (C : Addr) (sp : Sp) (dvs : List V) (t : TA) : TE := fun σ H Q => σ[i]? = some (some (.ref C)) ∧ tMake C sp dvs C8.E0 t σ H Q
theorem pe_mkL (i : Nat) (c : C8.Mak X.prog X.w X.K X.mg X.base k y C sp dvs) (hr : Room j X.A) (hk : k + 1 ≤ j) (ha : PA X (e :: es) t) (hN : X.N[i]? = some x := by rfl) (hv : Vis X.env.scope x := by first | exact Or.inl rfl | exact Or.inr (Or.inl rfl) | exact Or.inr (Or.inr rfl))
    (hdb : (x == ("__debug__" : Str)) = false := by decide) (hcd : (x == ("__classdict__" : Str)) = false := by decide)
    (he : starEach (e :: es) X.env = (false, eval e X.env) :: starEach es X.env := by rfl) (hpl : (backTo pos (starEach es X.env)).any (·.1) = false := by rfl) : PE X (.Call (.Name x p) (e :: es) [] pos) (tMakeL i C sp dvs t) := by
  obtain ⟨f, fd, ps, ds, M, F, hm, b, d⟩ := c.ex
  refine ⟨fun pins s σ H Q I h => ?_⟩
  obtain ⟨hs, ht⟩ := h
  refine wpAny_Call_Name_kw (thn ((pe_var (pos := p) hN hv hdb hcd).run pins s σ H (fun v H1 => v = .ref C ∧ H1 = H) I ⟨.ref C, hs, rfl, rfl⟩) fun u s1 ⟨v, H1, I1, r1, q1⟩ => ?_)
  obtain ⟨rfl, rfl⟩ := q1
  cases r1
  refine PySem.W.callWith_K (h₀ := X.base) I.ok.mod.kin M.kp (thn (ha.run pos pins s1 σ _ _ I1 ht) fun us s2 ⟨vs, H2, I2, r, q⟩ => ⟨I2.kIn, ?_⟩) he hpl
  exact run_make M F (hr.mono hk) b d C8.pass0 I2 r q
theorem pe_mkL0 (i : Nat) (c : C8.Mak X.prog X.w X.K X.mg X.base k y C sp dvs) (hr : Room j X.A) (hk : k + 1 ≤ j) (hN : X.N[i]? = some x := by rfl) (hv : Vis X.env.scope x := by first | exact Or.inl rfl | exact Or.inr (Or.inl rfl) | exact Or.inr (Or.inr rfl))
    (hdb : (x == ("__debug__" : Str)) = false := by decide) (hcd : (x == ("__classdict__" : Str)) = false := by decide) : PE X (.Call (.Name x p) [] [] pos) (tMakeL i C sp dvs tNil) := by
  obtain ⟨f, fd, ps, ds, M, F, hm, b, d⟩ := c.ex
  refine ⟨fun pins s σ H Q I h => ?_⟩
  obtain ⟨hs, ht⟩ := h
  refine wpAny_Call_Name_kw (thn ((pe_var (pos := p) hN hv hdb hcd).run pins s σ H (fun v H1 => v = .ref C ∧ H1 = H) I ⟨.ref C, hs, rfl, rfl⟩) fun u s1 ⟨v, H1, I1, r1, q1⟩ => ?_)
  obtain ⟨rfl, rfl⟩ := q1
  cases r1
  exact PySem.W.callWith_K0 I1.kIn M.kp (run_make (us := []) M F (hr.mono hk) b d C8.pass0 I1 .nil ht)
/-- a classmethod of the class at C, C the module's name x -/
structure CMt (P : Program) (w : World) (K : PySem.W.Frag) (mg : Str → Option Value) (base : Heap) (k : Nat) (x : Str) (C : Addr) (m : Str) (sp : Sp) : Prop where
  ex : ∃ (mc : Value) (p g : Addr) (fd : FuncData) (ps : List Str), mg x = some (.ref C) ∧ ClX.CRead K C mc ∧ ClX.CMet K C mc m p g ∧ FnOk P w K mg base C8.CX0 k g fd ps sp ∧ Binds K fd ps []
theorem pe_cm {m : Str} {apos : Pos} {pl : Sem Bool} (c : CMt X.prog X.w X.K X.mg X.base k x C m sp) (hr : Room j X.A) (hk : k ≤ j) (hg : Gl X x) (ha : PA X (e :: es) t) (hdb : (x == ("__debug__" : Str)) = false := by decide)
    (hst : starEach (e :: es) X.env = (false, eval e X.env) :: starEach es X.env := by rfl) (hpl : (backTo pos (starEach es X.env)).any (·.1) = false := by rfl)
    (ht : eval (.Call (.Attribute (.Name x p) m apos) (e :: es) [] pos) X.env = (do
      let ov ← eval (.Name x p) X.env
      standAt apos.atName
      let (f, first) ← holding [ov] (getMethod ov m pl)
      callWith pos f first (backTo pos (starEach (e :: es) X.env)) (backToKw pos (keywordEach [] X.env))) := by rfl) :
    PE X (.Call (.Attribute (.Name x p) m apos) (e :: es) [] pos) (ClX.tCMeth C sp C8.E0 (tC (.ref C)) t) := by
  obtain ⟨mc, q, g, fd, ps, hm, r, cm, F, b⟩ := c.ex
  exact ClX.pe_cmeth (pe_glob (v := .ref C) hg hm rfl hdb) r cm (F.raw b .nil |>.imp fun vs H Q E h => by rw [List.append_nil]; exact h) (hr.mono hk) C8.pass0 ha hst hpl ht
end
/-- what isinstance wants of a class -/
structure IsT (K : PySem.W.Frag) (C : Addr) : Prop where
  cl : Cls K C
  ha : PySem.W.findIn K (.ref C) "__class__" = some (some (.builtin "object.__class__"))
  hn : PySem.W.specialIn K (.builtin "object.__class__") "__get__" = some (some (.builtin "getset_descriptor.__get__"))
  ht : PySem.W.takesIn K (.builtin "object.__class__") = some true
  hm : PySem.W.mroIn K C (.type "object") = some true
theorem IsT.ty {K : PySem.W.Frag} {C a dx : Addr} {H : Hp} {fs : List (Str × V)} (I : IsT K C) (e : H a = some (.ins C dx fs)) : TyX K H (.ref a) (.ref C) := .base (.ins e I.cl I.ha I.hn I.ht I.hm)
theorem IsT.one {K : PySem.W.Frag} {C : Addr} (_ : IsT K C) : PySem.W.kitOne K (.ref C) (.ref C) = some true := by
  unfold PySem.W.kitOne
  rw [if_pos (beq_self_eq_true _)]
/-- an f-string inside a comprehension: its reading by a name -/
def tJn (ts : List TE) : TE := fun σ H Q => tJs ts Str.empty σ H fun out H1 => Q (.str out) H1
theorem pe_jn {X : Cx} {v1 v2 : Expr} {rest : List Expr} {ts : List TE} {pos : Pos} (h : PJ X (v1 :: v2 :: rest) ts) : PE X (.JoinedStr (v1 :: v2 :: rest) pos) (tJn ts) := pe_joined h
end Lx

set_option maxRecDepth 100000
set_option maxHeartbeats 4000000
/-! own errors whose __init__ says super().__init__(text, x) and self.f = x -/
namespace ExS
open PySem PySem.Spec PyProof.Rows L2 NdefX
/-- what such an __init__ does to the error at a -/
def spXI (C : Addr) (fld : Str) : Sp := fun vs H Q _ => ∃ (a : Addr) (v : V), vs = [.ref a, v] ∧ H a = some (exo a C none) ∧
  ∀ dx, H dx = none → dx ≠ a → Q .non (upd (upd H dx (exd dx [(fld, v)])) a (exo a C (some dx)))
/-- the built-in __init__ bound to the error, called: nothing of it is told -/
theorem call_mw {X : Cx} {pins : List (Addr × Obj)} {σ : L2.St} {H : Hp} {s : Shared} {a C u : Addr} {us : List Value} {Q : Value → Shared → Prop} {E : Value → Shared → Prop} {A : Around}
    (T : OexC X.K C) (I : Inv X pins σ H s) (e : H a = some (exo a C none)) (hu : s.heap.get? u = some (PySem.W.kxs_mw "ValueError.__init__" a)) (hl : us.length ≤ sizeLine) (h : ∀ s', Inv X pins σ H s' → Q .none s') :
    wpAny (model X.prog X.w) A (call (.ref u) us) Q E s := by
  obtain ⟨nm, q, N, bs, bm, sn, sub, ab, col, dd, k0, k1, k2, k3, k5, hC, hbm⟩ := T.cls
  obtain ⟨t1, ho⟩ := exo_at I.hok e
  obtain ⟨hp, g, d, t, os⟩ := s
  have fin : ∀ h' : Heap, (∀ b o, b ≠ a → hp.get? b = some o → h'.get? b = some o) → h'.get? a = some (PySem.W.excObj C hp.objs.size none .none) → Q .none ⟨h', g, d, t, os⟩ := fun h' k hx => by
    have J := I.write (t' := t) (x := a) (e := a) (o := exo a C none) (by rw [e]; exact True.intro) (.inl rfl) k ⟨_, hx⟩ (exo_ok hx)
    have eu : upd H a (exo a C none) = H := funext fun b => by
      by_cases hb : b = a
      · rw [hb, upd_same, e]
      · rw [upd_ne hb]
    rw [eu] at J
    exact h _ J
  refine wpAny_call (codeAny_of_tree ?_)
  show wpAny _ A.in1 (callAny (.ref u) ⟨us, []⟩) _ _ _
  simp only [callAny]
  refine wpAny_bind (wpAny_load hu ?_)
  simp only [PySem.W.kxs_mw, show (Value.type "method-wrapper" == Value.type "method" || Value.type "method-wrapper" == Value.type "builtin_function_or_method" || Value.type "method-wrapper" == Value.type "method-wrapper") = true by decide, if_true]
  refine PySem.W.KFB.if_so (by decide) ?_
  refine wpAny_bind (PySem.W.check_bound_init F.excBase_ValueError.toExcCallFacts (I.kIn _ _ hC) ho rfl ?_)
  refine wpAny_bind (wpAny_pure (wpAny_pure ?_))
  refine ⟨plainId_quiet F.excBase_ValueError.init.plain _, codeAny_builtin F.excBase_ValueError.initEntry ?_⟩
  exact PySem.W.exc_init_tree (cls := .ref C) (t0 := t1) (dv := none) (c2 := .none) (c3 := .none) (b4 := .bool false) ho hl fun h' k hx _ => fin h' k hx
/-- the two statements of such an __init__ -/
def Body2 (self word fld text : Str) (body : List Stmt) : Prop := ∃ (p0 p1 p2 p3 p4 p5 p6 p7 p8 p9 p10 : Pos) (j : Nat), body = [.Expr (.Call (.Attribute (.Call (.Name "super" p0) [] [] p1) "__init__" p2) [.Constant (.str text) j p3, .Name word p4] [] p5) p6, .Assign [.Attribute (.Name self p7) fld p8] (.Name word p9) p10] ∧ (p2.endLine == p5.line) = true
theorem eval_sup {o : Expr} {name : Str} {apos pos : Pos} {e1 e2 : Expr} {env : Env} (hl : (apos.endLine == pos.line) = true) (h1 : starEach [e1, e2] env = [(false, eval e1 env), (false, eval e2 env)]) :
    eval (.Call (.Attribute o name apos) [e1, e2] [] pos) env = (do
      let ov ← attributeBase o name env (eval o env)
      standAt apos.atName
      let (f, first) ← holding [ov] (getMethod ov name (do return (← importBound o env).getD true))
      callWith pos f first (backTo pos (starEach [e1, e2] env)) []) := by
  have hp : methodCallPos true o env apos pos = pure pos := by unfold methodCallPos; rw [hl]; rfl
  show (do
    let ov ← attributeBase o name env (eval o env)
    standAt apos.atName
    methodCall o name apos pos env ov 2 (backTo pos (starEach [e1, e2] env)) []) = _
  rw [h1]
  have hm : ∀ ov, methodCall o name apos pos env ov 2 (backTo pos [(false, eval e1 env), (false, eval e2 env)]) [] = (do
      let (f, first) ← holding [ov] (getMethod ov name (do return (← importBound o env).getD true))
      callWith pos f first (backTo pos [(false, eval e1 env), (false, eval e2 env)]) []) := fun ov => by
    unfold methodCall
    have hf : methodCallForm 2 (backTo pos [(false, eval e1 env), (false, eval e2 env)]) [] = true := rfl
    rw [hf, hp]
    rfl
  simp only [hm]
structure ExF (P : Program) (K : PySem.W.Frag) (mg : Str → Option Value) (C : Addr) (fld : Str) (f cc cda : Addr) (file : Str) : Prop where
  T : OexC K C
  no : PySem.W.findIn K (.ref C) fld = some none
  cell : ∃ cl cld csl, K.lookup cc = some ⟨cl, cld, .cell (some (.ref C)), csl⟩
  code : ∃ ccl cdd vs ccs tf, K.lookup cda = some ⟨ccl, cdd, .fields vs, ccs⟩ ∧ vs[2]? = some (.str file tf)
  file : ((P.main.file : Str) == file) = true
  top : (P.main.scope.names.lookup ("super" : Str)).isSome = false
  sub : PySem.W.mroIn K C (.ref C) = some true
  sup : mg "super" = none
  opq : PySem.W.nsIn K cStatics "thirdparty.any" = some none
  ini : PySem.W.ks_superIn K C C "__init__" = some (some (.builtin "ValueError.__init__"))
  ve : PySem.W.subIn K (.ref C) (.type "ValueError") = some true
theorem fn_exc {P : Program} {w : World} {K : PySem.W.Frag} {mg : Str → Option Value} {base : Heap} {C f cc cda : Addr} {name qual self word fld text file : Str} {params : Arguments} {body : List Stmt} {scope : Scope} {dV kV doc pm ct oc : Value} {an od : Option Addr} {osl : Array (Option Value)} {ar : Arg} {k : Nat}
    (X : ExF P K mg C fld f cc cda file) (lk : K.lookup f = some ⟨oc, od, .func (PySem.W.fnX name qual params body scope [("__class__", cc)] dV kV doc pm an (.ref cda) ct), osl⟩) (hcd : PySem.W.codeIn K (.ref cda) qual = true)
    (S : NScope [self, word, "__class__"] [self, word] ["__class__"] scope) (hks : scope.names.lookup ("super" : Str) = some .globalImplicit) (hp : (params.posonlyargs ++ params.args).head? = some ar) (har : ar.arg = self) (hb2 : Body2 self word fld text body) (hd0 : (self == ("__debug__" : Str)) = false) (hd1 : (word == ("__debug__" : Str)) = false) (hc0 : (self == ("__classdict__" : Str)) = false) (hc1 : (word == ("__classdict__" : Str)) = false) :
    FnOk P w K mg base CX0 (k + 1) f (PySem.W.fnX name qual params body scope [("__class__", cc)] dV kV doc pm an (.ref cda) ct) [self, word] (spXI C fld) := by
  refine ⟨fun vs H Q E h => by obtain ⟨_, _, rfl, _⟩ := h; rfl, fun A outer s H args us vs Q E hr e0 hb r hsp => ?_⟩
  obtain ⟨a, v, rfl, ha, kk⟩ := hsp
  obtain ⟨u1, rfl, rv⟩ : ∃ u1, us = [.ref a, u1] ∧ RelV v u1 := by
    cases r with
    | @cons _ u0 _ ur ra rr =>
      obtain rfl : u0 = Value.ref a := ra
      cases rr with
      | @cons _ u1 _ ur2 rv rn =>
        cases rn
        exact ⟨u1, rfl, rv⟩
  have KX : K.In s.heap := e0.mod.kin.keeps fun b o e => (e0.bs b o e).1
  have lim : s.heap.NoLimit := e0.mod.nolimit.keeps fun b o e => (e0.bs b o e).1
  obtain ⟨cl, cld, csl, lcc⟩ := X.cell
  obtain ⟨ccl, cdd, cvs, ccs, tf, lcd, hvs⟩ := X.code
  refine codeAny_call_function hr.depth (KX _ _ lk) rfl S.co S.gen rfl (PySem.W.codeRec_of KX hcd) (hb _ _ _ _ ?_)
  refine wpAny_newFunctionEnv S.nocell (fun ⟨n, _⟩ hy => S.par n (List.of_mem_zip hy).1) (fun h₁ hns hsb => ⟨lim.fresh _ hsb, ?_⟩) S.kind
  show codeAny _ _ (.func body (PySem.W.envX qual scope s.heap.objs.size f (.ref cda) [("__class__", cc)])) _ _
  refine ks_codeAny_funcAt ?_
  have kp : ∀ b o, s.heap.get? b = some o → h₁.get? b = some o := fun b o e => hsb.extBut b o (Nat.ne_of_lt (Heap.lt_size e)) (Heap.get?_push_of_some _ e)
  have hcb := e0.bs _ _ (e0.mod.kin _ _ lcc)
  have C0 : CellsAt [("__class__", cc)] ["__class__"] [some (.ref C)] s.heap H := by
    have one : ∀ y c, ([("__class__", cc)] : List (Str × Addr)).lookup y = some c → y = "__class__" ∧ c = cc := fun y c e => by
      rw [List.lookup_cons] at e
      split at e
      · rename_i z
        exact ⟨eq_of_beq z, (Option.some.inj e).symm⟩
      · cases e
    refine ⟨rfl, fun y c e => ?_, fun x y c e1 e2 => (one x c e1).1.trans (one y c e2).1.symm, fun i y e => ?_⟩
    · rw [(one y c e).2]
      exact ⟨hcb.2, _, _, hcb.1, rfl⟩
    · match i, e with
      | 0, e =>
        rw [← Option.some.inj e]
        exact ⟨cc, rfl, fun v hv => ⟨.ref C, by cases hv; exact rfl, _, hcb.1, rfl⟩⟩
  have I : Inv (ncx CX0 P w K mg base [self, word, "__class__"] ⟨name, qual, params, body, scope, [("__class__", cc)], cda⟩ f A outer s H E) [] (startF [self, word, "__class__"] [.ref a, v] [some (.ref C)]) H { s with heap := h₁, toks := s.toks + ([self, word].zip [Value.ref a, u1]).length } :=
    inv_startN (F := ⟨name, qual, params, body, scope, [("__class__", cc)], cda⟩) S hr.hd e0 rfl r C0 hns kp
  have KX1 : K.In h₁ := KX.keeps kp
  obtain ⟨p0, p1, p2, p3, p4, p5, p6, p7, p8, p9, p10, j, rfl, hline⟩ := hb2
  have hkc : scope.names.lookup ("__class__" : Str) = some .free := S.frk _ (List.mem_singleton.mpr rfl)
  have hself : scope.names.lookup self = some .local := S.par _ List.mem_cons_self
  have hword : scope.names.lookup word = some .local := S.par _ (List.mem_cons_of_mem _ List.mem_cons_self)
  obtain ⟨nm, q, N, bs, bm, sn, sub, ab, col, dd, k0, k1, k2, k3, k5, hC, hbm⟩ := X.T.cls
  have hcl : PySem.W.clsIn K C = some { name := nm, bases := bs, mro := .ref C :: bm, ns := N, qualname := q, hasDict := true, slotNames := sn, subclasses := sub, abstract := ab, collection := col, hasDel := false } := by unfold PySem.W.clsIn; rw [hC] <;> rfl
  obtain ⟨t1, hoa⟩ := exo_at I.hok ha
  obtain ⟨mb, b1, b2⟩ := I.mod.blt
  have boot : bootBuiltins "super" = some (.type "super") := by first | boot_by_name | rfl | kernel_rfl
  have hne : a ≠ C := fun z => by
    have := KX1 _ _ hC
    rw [← z, hoa] at this
    cases this
  refine ks_wpAt_execs_cons (ks_wpAt_Expr_any (ks_wpAt_MethodCall ?_ (eval_sup hline rfl)) I.quiet rfl)
  refine ks_wpAt_super_base (f := f) (cc := cda) hks hkc (by decide) rfl (KX1 _ _ lk) rfl hp rfl (KX1 _ _ lcd) rfl hvs X.file X.top ?_
  refine PySem.W.ks_loadName_global I.ok.kind hks (Calls.loadGlobal_builtin (I.mod.glob.keeps I.bk) X.sup (b1.keeps I.bk) ((b2 _ (by decide)).trans boot) ⟨rfl, ?_⟩)
  refine wpAny_loadName_free I.ok.kind hkc rfl ⟨_, kp _ _ hcb.1, rfl⟩ ?_
  rw [har]
  have ndp : [self, word].Nodup := (List.nodup_append.mp (show ([self, word] ++ [("__class__" : Str)]).Nodup from S.nd)).1
  refine wpAny_loadName_local I.ok.kind hself hns (zip_look (i := 0) ndp rfl rfl) ?_
  refine ks_wpAny_isType_cls (KX1 _ _ hC) rfl ⟨rfl, ?_⟩
  refine ks_wpAny_call_super (KX1 _ _ hC) rfl hoa rfl (fun c z => by cases z) (PySem.W.looks_mroIn KX1 X.sub) (fun h2 e2 kq => ?_)
  have I2 := I.kept (h' := h2) (t' := s.toks + ([self, word].zip [Value.ref a, u1]).length) kq
  have KX2 : K.In h2 := KX1.keeps kq
  have hoa2 := kq _ _ hoa
  have hal : PySem.W.alongIn K "__init__" (((Value.ref C :: bm).dropWhile (· != .ref C)).drop 1) = some (some (.builtin "ValueError.__init__")) := by
    have := X.ini
    unfold PySem.W.ks_superIn at this
    rw [hcl] at this
    exact this
  have IA : PySem.W.InstAt h2 a (PySem.W.excObj C t1 none .none) C none := ⟨hoa2, rfl, rfl, trivial⟩
  refine PySem.W.kxs_getMethod PySem.W.kxs_ValueError (l₀ := .ref C :: bm) e2 (PySem.W.looks_opaque KX2 X.opq) ?_ rfl KX2 hal (IA.type.andThen (PySem.W.looks_subIn KX2 X.ve)) hne (by decide) ?_
  · exact fun A Q E s k q => wpAny_bind ((PySem.W.looks_clsIn KX2 hcl) A _ E s k (wpAny_pure q))
  have kp3 : ∀ b o, h2.get? b = some o → (h2.push (PySem.W.kxs_mw "ValueError.__init__" a)).get? b = some o := fun b o e => Heap.get?_push_of_some _ e
  have I3 := I2.kept (h' := h2.push (PySem.W.kxs_mw "ValueError.__init__" a)) (t' := s.toks + ([self, word].zip [Value.ref a, u1]).length + 1) kp3
  have hu3 : (h2.push (PySem.W.kxs_mw "ValueError.__init__" a)).get? h2.objs.size = some (PySem.W.kxs_mw "ValueError.__init__" a) := Heap.get?_push_at rfl rfl
  have I4 := I3.pins_of (pins' := [(h2.objs.size, PySem.W.kxs_mw "ValueError.__init__" a)]) fun p hp => by
    rw [List.mem_singleton.mp hp]
    exact ⟨hu3, I2.hok.fresh (Nat.le_refl _), (Nat.ne_of_lt I2.lt).symm, I2.nofs (Nat.le_refl _), fun v z => by cases z⟩
  have pw : PE (ncx CX0 P w K mg base [self, word, "__class__"] ⟨name, qual, params, [.Expr (.Call (.Attribute (.Call (.Name "super" p0) [] [] p1) "__init__" p2) [.Constant (.str text) j p3, .Name word p4] [] p5) p6, .Assign [.Attribute (.Name self p7) fld p8] (.Name word p9) p10], scope, [("__class__", cc)], cda⟩ f A outer s H E) (.Name word p4) (tVar 1) := pe_var rfl (.inl hword) hd1 hc1
  have pa := pa_cons (pe_str (x := text) (j := j) (pos := p3)) (pa_cons pw pa_nil)
  refine PySem.W.kxs_callWith (i := "ValueError.__init__") (x := a) rfl (PySem.Calls.evalArgs_plain (thn (pa.run p5 _ _ _ _ (fun vs H1 => vs = [.str text, v] ∧ H1 = H) I4 ⟨v, rfl, rfl, rfl⟩) fun ws s5 h5 => ?_))
  obtain ⟨vs5, H5, I5, r5, rfl, rfl⟩ := h5
  have hu5 := (I5.pin _ (List.mem_append_right _ (List.mem_singleton.mpr rfl))).1
  have l5 : ws.length ≤ sizeLine := by
    have := Paired.length r5
    rw [← this]
    show 2 ≤ sizeLine
    decide
  refine ⟨hu5, ?_⟩
  refine call_mw X.T (I5.pins_of (pins' := []) fun p hp => absurd hp (by exact List.not_mem_nil)) ha hu5 l5 fun s6 I6 => ?_
  have pself : PE (ncx CX0 P w K mg base [self, word, "__class__"] ⟨name, qual, params, [.Expr (.Call (.Attribute (.Call (.Name "super" p0) [] [] p1) "__init__" p2) [.Constant (.str text) j p3, .Name word p4] [] p5) p6, .Assign [.Attribute (.Name self p7) fld p8] (.Name word p9) p10], scope, [("__class__", cc)], cda⟩ f A outer s H5 E) (.Name self p7) (tVar 0) := pe_var rfl (.inl hself) hd0 hc0
  have pword : PE (ncx CX0 P w K mg base [self, word, "__class__"] ⟨name, qual, params, [.Expr (.Call (.Attribute (.Call (.Name "super" p0) [] [] p1) "__init__" p2) [.Constant (.str text) j p3, .Name word p4] [] p5) p6, .Assign [.Attribute (.Name self p7) fld p8] (.Name word p9) p10], scope, [("__class__", cc)], cda⟩ f A outer s H5 E) (.Name word p9) (tVar 1) := pe_var rfl (.inl hword) hd1 hc1
  have st := pss_one (ps_ost (f := fld) (p' := p8) (pos := p10) pself pword)
  refine wpAt_of_wpAny (wpAny_mono (st.run [] s6 _ H5 { nx := fun _ H' => Q .non H', rt := Q } I6 ⟨v, rfl, .ref a, rfl, a, C, rfl, X.T, X.no, .inl ⟨ha, fun dx n ne => kk dx n ne⟩⟩) (fun fl s7 hs => ?_) fun e s' hs => hs)
  cases fl with
  | ret u =>
    obtain ⟨v7, σ7, H7, J, r7, q7⟩ := hs
    exact ⟨v7, H7, J.os, J.bare, J.base, J.hok, r7, q7⟩
  | next =>
    obtain ⟨σ7, H7, J, q7⟩ := hs
    exact ⟨.non, H7, J.os, J.bare, J.base, J.hok, rfl, q7⟩
  | brk =>
    obtain ⟨_, _, _, q7⟩ := hs
    exact False.elim q7
  | cont =>
    obtain ⟨_, _, _, q7⟩ := hs
    exact False.elim q7
end ExS

set_option maxRecDepth 100000
set_option maxHeartbeats 4000000
namespace ExS
open PySem PySem.Spec PyProof.Rows L2
/-- an own error's class under its name -/
structure XMk (P : Program) (w : World) (K : PySem.W.Frag) (mg : Str → Option Value) (base : Heap) (k : Nat) (x : Str) (C : Addr) (fld : Str) : Prop where
  ex : ∃ (fI : Addr) (fd : FuncData) (ps : List Str), OexC K C ∧ PySem.W.findIn K (.ref C) "__init__" = some (some (.ref fI)) ∧ PySem.W.typeIn K (.ref fI) = some (.type "function") ∧ FnOk P w K mg base L2.CX0 k fI fd ps (spXI C fld) ∧ Binds K fd ps [] ∧ mg x = some (.ref C)
section
variable {X : Cx} {x fld : Str} {C : Addr} {k j : Nat} {p pos : Pos} {e : Expr} {es : List Expr} {ta : TA}
theorem pmk_x (c : XMk X.prog X.w X.K X.mg X.base k x C fld) (hr : Room j X.A) (hk : k + 1 ≤ j) (hg : Gl X x) (ha : PA X (e :: es) ta)
    (hdb : (x == ("__debug__" : Str)) = false := by decide) (he : starEach (e :: es) X.env = (false, eval e X.env) :: starEach es X.env := by rfl) (hpl : (backTo pos (starEach es X.env)).any (·.1) = false := by rfl) :
    PMk X (.Call (.Name x p) (e :: es) [] pos) (tMkO C (spXI C fld) [] ta) := by
  obtain ⟨fI, fd, ps, T, iC, tI, F, b, hm⟩ := c.ex
  exact pmk_oex T iC tI F (hr.mono hk) b .nil L2.pass0 hg hm ha hdb he hpl
end
theorem exo_exd {a C d : Addr} {o : Option Addr} {fs : List (Str × V)} {H : Hp} (h1 : H a = some (exo a C o)) (h2 : H d = none) : d ≠ a := fun z => by
  rw [z, h1] at h2
  cases h2
/-- what the making of such an error asks -/
theorem rd_x {C : Addr} {fld : Str} {H1 : Hp} {v : V} {Q : XK} (k : ∀ d H', Same H1 H' → H1 d = none → H' d = some (.xd [(fld, v)]) → Q (.ref C) (some d) H') :
    [v].length ≤ 1000 ∧ ∀ a, H1 a = none → spXI C fld (.ref a :: ([v] ++ [])) (upd H1 a (exo a C none)) (fun w H2 => w = .non ∧ ∃ (d : Addr) (fs : List (Str × V)), H2 a = some (exo a C (some d)) ∧ H2 d = some (exd d fs) ∧ H1 d = none ∧ Q (.ref C) (some d) (upd (del H2 a) d (.xd fs))) (fun _ _ _ => False) := by
  refine ⟨by show 1 ≤ 1000; decide, fun a na => ⟨a, v, rfl, upd_same, fun dx nd ne => ⟨rfl, dx, [(fld, v)], upd_same, by rw [upd_ne ne, upd_same], ?_, ?_⟩⟩⟩
  · rw [upd_ne ne] at nd
    exact nd
  · rw [upd_ne ne] at nd
    refine k dx _ (fun b o e => ?_) nd upd_same
    have b1 : b ≠ a := ne_of_none e na
    have b2 : b ≠ dx := ne_of_none e nd
    rw [upd_ne b2, del_ne b1, upd_ne b1, upd_ne b2, upd_ne b1]
    exact e
theorem takes0 {X : Cx} : L2.Takes X (fun _ _ _ _ => False) := fun _ _ ⟨_, _, _, _, _, _, _, _, _, _, _, _, _, _, _, _, w⟩ => w.elim
/-- a class whose __init__ may raise -/
structure MakX (P : Program) (w : World) (K : PySem.W.Frag) (mg : Str → Option Value) (base : Heap) (k : Nat) (x : Str) (C : Addr) (sp : Sp) (dvs : List V) : Prop where
  ex : ∃ (f : Addr) (fd : FuncData) (ps : List Str) (ds : List Value), Mk K C f ∧ FnOk P w K mg base (L2.CX P w) k f fd ps sp ∧ mg x = some (.ref C) ∧ Binds K fd ps ds ∧ Vals dvs ds
def tMakeS (C : Addr) (sp : Sp) (dvs : List V) (E : L2.St → XK) (t : TA) : TE := fun σ H Q => t σ H fun vs H1 => ∀ x dx, H1 x = none → H1 dx = none → dx ≠ x →
  sp (.ref x :: (vs ++ dvs)) (upd (upd H1 dx (.own x)) x (.ins C dx [])) (fun v H2 => v = .non ∧ Q (.ref x) H2) (E σ)
section
variable {X : Cx} {x : Str} {C : Addr} {k j : Nat} {p pos : Pos} {e : Expr} {es : List Expr} {t : TA} {sp : Sp} {dvs : List V} {W : WX}
theorem pe_mkT (c : MakX X.prog X.w X.K X.mg X.base k x C sp dvs) (hr : Room j X.A) (hk : k + 1 ≤ j) (tk : Takes X W) (hg : Gl X x) (ha : PA X (e :: es) t)
    (hdb : (x == ("__debug__" : Str)) = false := by decide) (he : starEach (e :: es) X.env = (false, eval e X.env) :: starEach es X.env := by rfl) (hpl : (backTo pos (starEach es X.env)).any (·.1) = false := by rfl) :
    PE X (.Call (.Name x p) (e :: es) [] pos) (tMakeS C sp dvs (WE W) t) := by
  obtain ⟨f, fd, ps, ds, M, F, hm, b, d⟩ := c.ex
  refine ⟨fun pins s σ H Q I h => wpAny_Call_Name_kw (ld_glob I hg hm ?_ hdb)⟩
  refine PySem.W.callWith_K (h₀ := X.base) I.ok.mod.kin M.kp (thn (ha.run pos pins s σ H _ I h) fun us s1 ⟨vs, H1, I1, r, q⟩ => ⟨I1.kIn, ?_⟩) he hpl
  have q1 := q (s1.heap.objs.size + 1) s1.heap.objs.size (I1.hok.fresh (Nat.le_succ _)) (I1.hok.fresh (Nat.le_refl _)) (Nat.ne_of_lt (Nat.lt_succ_self _))
  have J := Inv.made (C := C) I1
  have rr : Vals (V.ref (s1.heap.objs.size + 1) :: (vs ++ dvs)) (Value.ref (s1.heap.objs.size + 1) :: (us ++ ds)) := .cons rfl (r.append d)
  have len : (Value.ref (s1.heap.objs.size + 1) :: us ++ ds).length = ps.length := (rr.length).symm.trans (F.len _ _ _ _ q1)
  have go := F.run (X.A.under (.builtin "type.__call__" ⟨.ref C :: us, []⟩)) X.stack _ _ ⟨Value.ref (s1.heap.objs.size + 1) :: us, []⟩ _ _ _ _ ((hr.mono hk).make C us []) (J.env0.make C us []) (b _ (Value.ref (s1.heap.objs.size + 1) :: us) J.kIn len) rr q1
  refine wpAny_call (make_map (f := f) I1.kIn M.makes M.init (beq_iff_eq.mp M.fn) (codeAny_mono go fun res s2 hres => ?_))
  match res, hres with
  | .error er, hres => exact passAt tk σ pins _ _ er s2 J hres
  | .ok (.ret u), hres =>
    obtain ⟨v, H2, J2, rv, ev, q2⟩ := J.after hres
    subst ev
    exact ⟨rv, V.ref (s1.heap.objs.size + 1), H2, J2, rfl, q2⟩
  | .ok .next, hres => exact False.elim hres
  | .ok .brk, hres => exact False.elim hres
  | .ok .cont, hres => exact False.elim hres
end
section
variable {P : Program} {w : World} {K : PySem.W.Frag} {mg : Str → Option Value} {base : Heap}
/-- a def that may raise, by its body -/
theorem fnR {x qual : Str} {st : Stmt} {f : Addr} {fd : FuncData} {N ps : List Str} {k : Nat} {sp : Sp} (F : C8.Fun K x qual st f fd) (S : FnScope N ps (C8.fnScope st)) (len : ∀ vs H Q E, sp vs H Q E → vs.length = ps.length)
    (hbody : ∀ (cdv : Value) (A : Around) (outer : List Env) (s : Shared) (H : Hp) (vs : List V) (Q : VK) (E : XK), Room k (A.deeper (envOfC qual (C8.fnScope st) s.heap.objs.size f cdv)) → sp vs H Q E →
      ∃ t, PSs (cxOf (L2.CX P w) P w K mg base N qual (C8.fnScope st) f cdv A outer s H E) (C8.fnBody st) t ∧ t { nx := fun _ H' => Q .non H', rt := Q } (start N vs) H) : FnOk P w K mg base (L2.CX P w) (k + 1) f fd ps sp := by
  obtain ⟨oc, od, dV, kV, doc, pm, an, cdv, ct, osl, rfl, lk, hcd⟩ := F.ex
  exact fn_of lk hcd S len fun A outer s H vs Q E hr hsp => hbody cdv A outer s H vs Q E hr hsp
end
end ExS

set_option maxRecDepth 100000
set_option maxHeartbeats 4000000
/-! a def that may raise, called by its name in a try -/
namespace ExS
open PySem PySem.Spec PyProof.Rows L2
structure CalT (P : Program) (w : World) (K : PySem.W.Frag) (mg : Str → Option Value) (base : Heap) (k : Nat) (x : Str) (sp : Sp) : Prop where
  ex : ∃ (f : Addr) (fd : FuncData) (ps : List Str), FnOk P w K mg base (L2.CX P w) k f fd ps sp ∧ mg x = some (.ref f) ∧ PySem.W.keepIn K (.ref f) = true ∧ Binds K fd ps []
section
variable {X : Cx} {x : Str} {k j : Nat} {p pos : Pos} {e : Expr} {es : List Expr} {t : TA} {sp : Sp} {W : WX}
theorem pe_cT (c : CalT X.prog X.w X.K X.mg X.base k x sp) (hr : Room j X.A) (hk : k ≤ j) (tk : Takes X W) (hg : Gl X x) (ha : PA X (e :: es) t)
    (hdb : (x == ("__debug__" : Str)) = false := by decide) (he : starEach (e :: es) X.env = (false, eval e X.env) :: starEach es X.env := by rfl) (hpl : (backTo pos (starEach es X.env)).any (·.1) = false := by rfl) :
    PE X (.Call (.Name x p) (e :: es) [] pos) (tCallS sp (WE W) t) := by
  obtain ⟨f, fd, ps, F, hm, kp, b⟩ := c.ex
  exact pe_callS F (hr.mono hk) hg hm kp b (passAt tk) ha hdb he hpl
end
end ExS

set_option maxRecDepth 100000
set_option maxHeartbeats 4000000
/-! isinstance of a caught error that has a field -/
namespace PySem.W
open PySem PySem.Spec PySem.Calls PyProof.Rows
section
variable {prog : Program} {w : World} {A : Around} {E : Value → Shared → Prop} {s : Shared} {K : Frag} {x D : Addr} {ox : Obj} {od : Option Obj}
theorem findObj_dataD {C : Addr} {name : Str} {a g : Value} (hc : (clsIn K C).isSome = true) (ha : findIn K (.ref C) name = some (some a)) (hg : specialIn K a "__get__" = some (some g)) (ht : takesIn K a = some true) : findObj K C od name = some (.bind g a) := by
  obtain ⟨cd, hc⟩ := Option.isSome_iff_exists.mp hc
  unfold findObj
  rw [hc, Option.bind_some, ha, Option.bind_some]
  simp [hg, ht]
theorem class_of_err {Q : Option Value → Shared → Prop} (T : L2.ExcC K D) (X : K.In s.heap) (I : InstAt s.heap x ox D od) (h : Q (some (.ref D)) { s with toks := s.toks + 1 }) : wpAny (model prog w) A (getAttr? (.ref x) "__class__") Q E s := by
  have hf : findObj K D od "__class__" = some (.bind (.builtin "getset_descriptor.__get__") (.builtin "object.__class__")) := findObj_dataD (by obtain ⟨cd, hc, _⟩ := any_some T.hd; rw [hc]; rfl) T.ha T.hn T.ht
  obtain ⟨hp, g, d, t, os⟩ := s
  have L0 := I.type (M := model prog w)
  have L1 := looks_findIn (M := model prog w) X T.hg
  have L2 := looks_findIn (M := model prog w) X T.hk
  have L3 := looks_find (M := model prog w) X I hf
  have sub : Looks (model prog w) hp (isInstance (.ref x) (.type "BaseException")) true := L0.andThen (looks_subIn X T.hs)
  have n2 : (Value.builtin "BaseException.__getattribute__" == Value.builtin "object.__getattribute__") = false := by decide +kernel
  have n1 : (onTheHeap (Value.ref D) && Value.builtin "BaseException.__getattribute__" == Value.builtin "object.__getattribute__") = false := by rw [n2]; rfl
  have n0 : (false && onTheHeap (Value.builtin "BaseException.__getattribute__")) = false := rfl
  unfold getAttr? getAttrBy? getAttrBy
  refine wpAny_bind (wpAny_mkText (wpAny_bind (wpAny_attempt (wpAny_holding (wpAny_bind (L0.at (wpAny_bind (L1.at ?_))))))))
  show wpAny _ _ (if (onTheHeap (Value.ref D) && Value.builtin "BaseException.__getattribute__" == Value.builtin "object.__getattribute__") = true then _ else _) _ _ _
  rw [n1, if_neg Bool.false_ne_true]
  unfold getAttrByItsOwn hookBefore
  refine wpAny_bind ?_
  rw [if_pos (show onTheHeap (Value.ref D) = true from rfl)]
  refine L2.at ?_
  refine wpAny_bind (wpAny_attempt (wpAny_holding ?_))
  unfold callGetattribute
  rw [n0, if_neg Bool.false_ne_true]
  unfold boundAndCalled
  rw [PySem.F.excAttr_ValueError.ga.bind (.ref x)]
  refine wpAny_bind (wpAny_pure ?_)
  show wpAny _ _ (call (.builtin "BaseException.__getattribute__") [.ref x, .str "__class__" t]) _ _ _
  refine wpAny_call (codeAny_call_builtin PySem.F.excAttr_ValueError.ga.plain PySem.F.entry_bexc_ga ?_)
  refine @check_slot (model prog w) _ _ ⟨hp, g, d, t + 1, os⟩ "BaseException.__getattribute__" "BaseException" "__getattribute__" (.ref x) [.str "__class__" t] [] _ (by decide +kernel) (by decide +kernel) sub (PySem.F.args_bexc_ga (.ref x) (.str "__class__" t)) ?_
  unfold Builtin.«object.__getattribute__»
  refine wpAny_bind (wpAny_of_eq (a := ((Value.ref x : Value), [Value.str "__class__" t])) (by first | rfl | (simp only [slotArgs]; rfl)) ?_)
  refine wpAny_bind (wpAny_pure (wpAny_bind (L0.at (wpAny_bind (L3.at ?_)))))
  show wpAny _ _ (holding [Value.builtin "object.__class__"] (call (.builtin "getset_descriptor.__get__") [.builtin "object.__class__", .ref x, .ref D]) >>= ret) _ _ _
  refine wpAny_bind (wpAny_holding (wpAny_call (class_get (s := ⟨hp, g, d, t + 1, os⟩) (ox := ox) (od := od) X I T.hm ?_)))
  refine wpAny_pure ?_
  show wpAny _ _ (handedOut (.ref D)) _ _ _
  rw [handedOut_of (v := .ref D) rfl]
  first
    | exact wpAny_pure (wpAny_pure h)
    | exact wpAny_pure h
    | exact wpAny_pure (wpAny_bind (wpAny_pure (wpAny_pure h)))
theorem kitx_err (T : L2.ExcC K D) : KitX K (.ref x) (.ref D) (fun h => InstAt h x ox D od) where
  ty := fun _ _ _ I => I.type
  it := fun _ _ X _ => by
    obtain ⟨cdD, hcD, _⟩ := any_some T.hd
    unfold clsIn at hcD
    split at hcD
    · rename_i c' d' cd' sl' ho
      intro A' Q' E' s' k q
      unfold isType loadHead
      exact wpAny_bind (wpAny_loadPart (k _ _ (X _ _ ho)) (wpAny_pure q))
    · cases hcD
  ne := fun h tp dd its n sl X htp => by
    obtain ⟨cdD, hcD, _⟩ := any_some T.hd
    refine Bool.eq_false_iff.mpr fun q => ?_
    have e : D = tp := Value.ref.inj (beq_iff_eq.mp q)
    subst e
    unfold clsIn at hcD
    split at hcD
    · rename_i c' d' cd' sl' ho
      have z := (X _ _ ho).symm.trans htp
      cases z
    · cases hcD
  ca := fun X I k => class_of_err T X I k
end
end PySem.W
namespace ExS
open PySem PySem.Spec PyProof.Rows L2
/-- isinstance(e, c), e the error that the suite holds, with its field -/
def rIsD (K : PySem.W.Frag) (a : Addr) (cls : Value) (d : Option Addr) : List V → Hp → VK → Prop := fun xs H Q => ∃ (D dd : Addr) (fs : List (Str × V)) (c : V) (cv : Value) (b : Bool), xs = [.ref a, c] ∧ cls = .ref D ∧ d = some dd ∧ H dd = some (.xd fs) ∧ ExcC K D ∧ ClsV c cv ∧ PySem.W.kitOne K (.ref D) cv = some b ∧ Q (.bl b) H
theorem call_isD {X : Cx} {a : Addr} {cls : Value} {d : Option Addr} {oe : Obj} {pn : List (Addr × Obj)} (hz : Zc cls d oe) (hf : ∃ vs, oe.data = .fields vs) : CallR (X.suite a ((a, oe) :: pn)) (.builtin "isinstance") (rIsD X.K a cls d) := by
  intro pins s σ H xs us Q I r h
  obtain ⟨D, dd, fs, c, cv, b, rfl, rfl, rfl, ea, T, hcv, e, q⟩ := h
  obtain ⟨u1, u2, rfl, rx, rt⟩ := vals2 r
  have ec := hcv.eq rt
  subst ec
  obtain rfl : u1 = Value.ref a := rx
  obtain ⟨ha, _⟩ := I.pin (a, oe) (List.mem_append.mpr (.inl List.mem_cons_self))
  obtain ⟨vs, hd⟩ := hf
  have hx : ObjOk X.prog X.w H s.heap dd (.xd fs) := I.hok dd _ ea
  obtain ⟨mA, hns, hr⟩ := hx
  obtain ⟨od, ho, hl⟩ := lookIn_ns hns
  have J : PySem.W.InstAt s.heap a oe D (some od) := ⟨ha, hz.1, by unfold PySem.W.notCls; rw [hd] <;> rfl, by rw [hz.2]; exact ho⟩
  exact PySem.W.kia_one (PySem.W.kitx_err T) I.kIn J e (fun z => nomatch z) fun tk => ⟨.bl b, H, I.kept (t' := tk) fun _ _ z => z, rfl, q⟩
end ExS

set_option maxRecDepth 100000
set_option maxHeartbeats 4000000
namespace U
open PySem PySem.Spec PyProof.Rows
open L2 hiding Fun CX0 E0 pass0 Fun.binds
open C8 Lx SX
/-! words of bits as texts -/
def bt (b : Bool) : Nat := if b then 49 else 48
def W (l : List Bool) : Str := S (l.map bt)
theorem bt_inj : ∀ {a b : Bool}, bt a = bt b → a = b := by decide
theorem map_bt_inj : ∀ {a b : List Bool}, a.map bt = b.map bt → a = b
  | [], [], _ => rfl
  | [], _ :: _, h => by simp at h
  | _ :: _, [], h => by simp at h
  | x :: l, y :: m, h => by
    rw [List.map_cons, List.map_cons] at h
    injection h with h1 h2
    rw [bt_inj h1, map_bt_inj h2]
theorem W_inj {a b : List Bool} (h : W a = W b) : a = b := map_bt_inj (S_inj h)
theorem W_eq {a b : List Bool} : (W a = W b) ↔ a = b := ⟨W_inj, fun h => by rw [h]⟩
theorem W_len (a : List Bool) : (W a).length = a.length := by unfold W; rw [S_len, List.length_map]
theorem W_size (a : List Bool) : (W a).cps.size = a.length := by unfold W; simp
theorem W_cat (a b : List Bool) : W a ++ W b = W (a ++ b) := by unfold W; rw [S_cat, List.map_append]
theorem W_nil : ("" : Str) = W [] := by decide +kernel
theorem W_0 : ("0" : Str) = W [false] := by decide +kernel
theorem W_1 : ("1" : Str) = W [true] := by decide +kernel
theorem W_get {a : List Bool} {i : Nat} {c : Nat} (h : (W a).cps[i]? = some c) : ∃ b, a[i]? = some b ∧ c = bt b := by
  unfold W S at h
  rw [List.getElem?_toArray, List.getElem?_map] at h
  cases e : a[i]? with
  | none => rw [e] at h; cases h
  | some b => rw [e] at h; exact ⟨b, rfl, (Option.some.inj h).symm⟩
theorem W_bit (b : Bool) : (⟨#[bt b]⟩ : Str) = W [b] := rfl
theorem W_tl (a : List Bool) : (W a).cps.toList = a.map bt := rfl
theorem joinL_nil : ∀ ys : List (List Nat), TL.joinL [] ys = ys.flatten
  | [] => rfl
  | [p] => by simp [TL.joinL]
  | p :: q :: r => by
    show p ++ ([] ++ TL.joinL [] (q :: r)) = _
    rw [List.nil_append, joinL_nil (q :: r)]
    rfl
theorem join_W (ls : List (List Bool)) : Txt.join "" (ls.map W) = W ls.flatten := by
  have e : (ls.map W) = (ls.map (·.map bt)).map S := by rw [List.map_map]; rfl
  have e2 : ("" : Str) = S [] := by decide +kernel
  rw [e, e2, join_S, joinL_nil]
  unfold W
  rw [List.map_flatten]
theorem join_bits (l : List Bool) : Txt.join "" (l.map fun b => W [b]) = W l := by
  have e : (l.map fun b => W [b]) = (l.map fun b => [b]).map W := by rw [List.map_map]; rfl
  rw [e, join_W]
  congr 1
  induction l with
  | nil => rfl
  | cons b r ih => simp [ih]
theorem sum_lens : ∀ ls : List (List Bool), ((ls.map W).map (·.length)).sum = (ls.map (·.length)).sum
  | [] => rfl
  | l :: r => by
    rw [List.map_cons, List.map_cons, List.map_cons, List.sum_cons, List.sum_cons, W_len, sum_lens r]
theorem sl_len {n : Nat} (h : n ≤ 100000) : n ≤ sizeLine := Nat.le_trans h (by decide)
theorem sl_lt {n : Nat} (h : n < 100000) : n < sizeLine := Nat.lt_of_lt_of_le h (by decide)
def bitsV (l : List Bool) : List V := (l.map fun b => W [b]).map V.str
theorem lens_bits (l : List Bool) : ((l.map fun b => W [b]).map (·.length)).sum = l.length := by
  induction l with
  | nil => rfl
  | cons b r ih => rw [List.map_cons, List.map_cons, List.sum_cons, ih, W_len, List.length_cons]; simp only [List.length_cons, List.length_nil]; omega
theorem bitsV_len (l : List Bool) : (bitsV l).length = l.length := by unfold bitsV; rw [List.length_map, List.length_map]
theorem bitsV_snoc (l : List Bool) (b : Bool) : bitsV l ++ [V.str (W [b])] = bitsV (l ++ [b]) := by unfold bitsV; simp
theorem mem2 {v : V} (h : v ∈ ([.str "0", .str "1"] : List V)) : ∃ b : Bool, v = .str (W [b]) := by
  rcases List.mem_cons.mp h with rfl | h
  · exact ⟨false, by rw [W_0]⟩
  · rcases List.mem_cons.mp h with rfl | h
    · exact ⟨true, by rw [W_1]⟩
    · cases h
theorem empty_len : ("" : Str).length = 0 := by decide +kernel
/-! tests whose answer is known -/
theorem q_dec {c : Prop} [Decidable c] {Q : VK} {H : Hp} (hc : c) (h : Q (.bl true) H) : Q (.bl (decide c)) H := by rw [decide_eq_true hc]; exact h
theorem q_ndec {c : Prop} [Decidable c] {Q : VK} {H : Hp} (hc : ¬ c) (h : Q (.bl false) H) : Q (.bl (decide c)) H := by rw [decide_eq_false hc]; exact h
theorem iteDT {c A B : Prop} [Decidable c] (hc : c) (h : A) : if decide c = true then A else B := by rw [decide_eq_true hc]; exact iteT h
theorem iteDF {c A B : Prop} [Decidable c] (hc : ¬ c) (h : B) : if decide c = true then A else B := by rw [decide_eq_false hc]; exact iteF h
theorem iteNT {c A B : Prop} [Decidable c] (hc : ¬ c) (h : A) : if (!decide c) = true then A else B := by rw [decide_eq_false hc]; exact iteT h
theorem iteBT {b : Bool} {A B : Prop} (hc : b = true) (h : A) : if b = true then A else B := by rw [hc]; exact iteT h
theorem iteBF {b : Bool} {A B : Prop} (hc : b = false) (h : B) : if b = true then A else B := by rw [hc]; exact iteF h
def oW : Option (List Bool) → V
  | none => .non
  | some x => .str (W x)
/-! slices -/
theorem W_drop {a : List Bool} {i : Int} (h : 0 ≤ i) : Txt.slice (W a) (some i) none = W (a.drop i.toNat) := by
  unfold W; rw [slice_from h, List.map_drop]
theorem W_take {a : List Bool} {i : Int} (h : 0 ≤ i) : Txt.slice (W a) none (some i) = W (a.take i.toNat) := by
  unfold W; rw [slice_to h, List.map_take]
theorem repl_succ (l : List Bool) (n : Nat) : (List.replicate (n + 1) l).flatten = l ++ (List.replicate n l).flatten := by rw [List.replicate_succ]; rfl
theorem foldl_app : ∀ (n : Nat) (a b : Array Nat), ((List.replicate n a).foldl (· ++ ·) b).toList = b.toList ++ (List.replicate n a.toList).flatten
  | 0, a, b => by simp
  | n + 1, a, b => by
    rw [List.replicate_succ, List.foldl_cons, foldl_app n a (b ++ a), List.replicate_succ, List.flatten_cons, Array.toList_append, List.append_assoc]
theorem mul_W {l : List Bool} {n : Nat} (h : 1 ≤ n) : Txt.mul (W l) (n : Int) = W (List.replicate n l).flatten := by
  refine TL.ext_tl ?_
  unfold Txt.mul
  rw [if_neg (by omega)]
  by_cases c : (((n : Int) == 1) || (W l).length == 0) = true
  · rw [if_pos c]
    simp only [Bool.or_eq_true, beq_iff_eq] at c
    rcases c with c | c
    · have : n = 1 := by omega
      subst this
      simp
    · rw [W_len] at c
      have : l = [] := List.length_eq_zero_iff.mp c
      subst this
      rw [show (List.replicate n ([] : List Bool)).flatten = [] by simp]
  · rw [if_neg c]
    show ((List.replicate (n : Int).toNat (W l).cps).foldl (· ++ ·) #[]).toList = _
    rw [foldl_app, Int.toNat_natCast]
    show [] ++ (List.replicate n (l.map bt)).flatten = ((List.replicate n l).flatten).map bt
    rw [List.map_flatten, List.map_replicate, List.nil_append]
end U

set_option maxRecDepth 100000
set_option maxHeartbeats 4000000
/-! rules, in plain Lean -/
namespace U
abbrev Stf := List Bool × Bool
def putM (ss : List Stf) (l : List Bool) : Option Bool := (ss.find? fun s => s.1.isSuffixOf l).map (·.2)
/-- the bits that are put in behind l -/
inductive Ins (ss : List Stf) : List Bool → List Bool → Prop
  | stop {l : List Bool} : putM ss l = none → Ins ss l []
  | more {l x : List Bool} {b : Bool} : putM ss l = some b → Ins ss (l ++ [b]) x → Ins ss l (b :: x)
inductive Reach (ss : List Stf) : List Bool → Prop
  | nil : Reach ss []
  | next {l x : List Bool} {b : Bool} : Reach ss l → Ins ss (l ++ [b]) x → Reach ss (l ++ [b] ++ x)
def OkR (ss : List Stf) : Prop := ∀ l, Reach ss l → ∀ b, ∃ x, Ins ss (l ++ [b]) x
/-- each message ends, within n bits that are put in at a time -/
def OkN (n : Nat) (ss : List Stf) : Prop := ∀ l, Reach ss l → ∀ b, ∃ x, Ins ss (l ++ [b]) x ∧ x.length ≤ n
abbrev OkS (ss : List Stf) : Prop := OkN 19 ss
theorem OkN.ok {n : Nat} {ss : List Stf} (h : OkN n ss) : OkR ss := fun l r b => by
  obtain ⟨x, hx, _⟩ := h l r b
  exact ⟨x, hx⟩
theorem OkN.mono {n m : Nat} {ss : List Stf} (h : OkN n ss) (hn : n ≤ m) : OkN m ss := fun l r b => by
  obtain ⟨x, hx, h1⟩ := h l r b
  exact ⟨x, hx, Nat.le_trans h1 hn⟩
def tl (n : Nat) (l : List Bool) : List Bool := l.drop (l.length - n)
theorem tl_len (n : Nat) (l : List Bool) : (tl n l).length = min n l.length := by unfold tl; rw [List.length_drop]; omega
theorem tl_le (n : Nat) (l : List Bool) : (tl n l).length ≤ n := by rw [tl_len]; omega
theorem tl_id {n : Nat} {l : List Bool} (h : l.length ≤ n) : tl n l = l := by
  unfold tl
  rw [show l.length - n = 0 by omega, List.drop_zero]
theorem tl_tl {a b : Nat} (h : a ≤ b) (l : List Bool) : tl a (tl b l) = tl a l := by
  unfold tl
  rw [List.drop_drop, List.length_drop]
  congr 1
  omega
theorem tl_of {a b : Nat} (h : a ≤ b) {l m : List Bool} (e : tl b l = tl b m) : tl a l = tl a m := by rw [← tl_tl h l, e, tl_tl h m]
theorem tl_snoc0 (n : Nat) (l : List Bool) (b : Bool) : tl (n + 1) (l ++ [b]) = tl n l ++ [b] := by
  unfold tl
  rw [List.length_append, List.length_cons, List.length_nil, List.drop_append]
  have e : l.length + (0 + 1) - (n + 1) = l.length - n := by omega
  rw [e, show l.length - n - l.length = 0 by omega]
  rfl
theorem tl_zero (l : List Bool) : tl 0 l = [] := by unfold tl; rw [List.drop_eq_nil_iff]; omega
theorem tl_snoc {n : Nat} {l m : List Bool} {b : Bool} (e : tl n l = tl n m) : tl n (l ++ [b]) = tl n (m ++ [b]) := by
  cases n with
  | zero => rw [tl_zero, tl_zero]
  | succ n => rw [tl_snoc0, tl_snoc0, tl_of (Nat.le_succ n) e]
theorem tl_app {n : Nat} {l m : List Bool} (e : tl n l = tl n m) : ∀ x : List Bool, tl n (l ++ x) = tl n (m ++ x)
  | [] => by rw [List.append_nil, List.append_nil]; exact e
  | b :: x => by
    have := tl_app (tl_snoc (b := b) e) x
    rw [List.append_assoc, List.append_assoc] at this
    exact this
theorem suf_iff {p l : List Bool} : p.isSuffixOf l = true ↔ p = tl p.length l := by
  rw [List.isSuffixOf_iff_suffix, List.suffix_iff_eq_drop]
  rfl
theorem suf_tl {L : Nat} {p l m : List Bool} (h : p.length ≤ L) (e : tl L l = tl L m) : p.isSuffixOf l = p.isSuffixOf m := by
  rw [Bool.eq_iff_iff, suf_iff, suf_iff, tl_of h e]
theorem put_tl {L : Nat} {l m : List Bool} (e : tl L l = tl L m) : ∀ {ss : List Stf}, (∀ s ∈ ss, s.1.length ≤ L) → putM ss l = putM ss m
  | [], _ => rfl
  | s :: r, h => by
    have ih := put_tl e (ss := r) fun s hs => h s (List.mem_cons_of_mem _ hs)
    have es := suf_tl (h s List.mem_cons_self) e
    unfold putM at ih ⊢
    rw [List.find?_cons, List.find?_cons, es]
    cases s.1.isSuffixOf m with
    | true => rfl
    | false => exact ih
theorem Ins.tl {ss : List Stf} {L : Nat} (hL : ∀ s ∈ ss, s.1.length ≤ L) {l x : List Bool} (h : Ins ss l x) : ∀ {m}, tl L l = tl L m → Ins ss m x := by
  induction h with
  | stop h => intro m e; exact .stop (by rw [← put_tl e hL]; exact h)
  | more h _ ih => intro m e; exact .more (by rw [← put_tl e hL]; exact h) (ih (tl_snoc e))
theorem Ins.det {ss : List Stf} {l x : List Bool} (h : Ins ss l x) : ∀ {y}, Ins ss l y → x = y := by
  induction h with
  | stop h =>
    intro y hy
    cases hy with
    | stop _ => rfl
    | more h2 _ => rw [h] at h2; cases h2
  | more h _ ih =>
    intro y hy
    cases hy with
    | stop h2 => rw [h] at h2; cases h2
    | more h2 hx =>
      rw [h] at h2
      cases h2
      rw [ih hx]
theorem Ins.end {ss : List Stf} {l x : List Bool} (h : Ins ss l x) : putM ss (l ++ x) = none := by
  induction h with
  | stop h => rw [List.append_nil]; exact h
  | more _ _ ih => rw [List.append_assoc] at ih; exact ih
theorem Ins.drop {ss : List Stf} {l x : List Bool} (h : Ins ss l x) : ∀ {i}, i ≤ x.length → Ins ss (l ++ x.take i) (x.drop i) := by
  induction h with
  | stop h => intro i hi; rw [List.take_nil, List.drop_nil, List.append_nil]; exact .stop h
  | more h hx ih =>
    intro i hi
    cases i with
    | zero => rw [List.take_zero, List.append_nil, List.drop_zero]; exact .more h hx
    | succ i =>
      have := ih (i := i) (by rw [List.length_cons] at hi; omega)
      rw [List.append_assoc] at this
      exact this
theorem Ins.at {ss : List Stf} {l x : List Bool} (h : Ins ss l x) {i : Nat} {b : Bool} (hb : x[i]? = some b) : putM ss (l ++ x.take i) = some b := by
  have hi := (List.getElem?_eq_some_iff.mp hb).1
  have h2 := h.drop (Nat.le_of_lt hi)
  rw [List.drop_eq_getElem_cons hi] at h2
  cases h2 with
  | more h3 _ => rw [h3, ← hb, List.getElem?_eq_getElem hi]
theorem Ins.apart {ss : List Stf} {L : Nat} (hL : ∀ s ∈ ss, s.1.length ≤ L) {l x : List Bool} (h : Ins ss l x) {i j : Nat} (hi : i ≤ x.length) (hj : j ≤ x.length) (e : U.tl L (l ++ x.take i) = U.tl L (l ++ x.take j)) : i = j := by
  have := congrArg List.length (((h.drop hi).tl hL e).det (h.drop hj))
  rw [List.length_drop, List.length_drop] at this
  omega
/-! how many words there are -/
def allW : Nat → List (List Bool)
  | 0 => [[]]
  | n + 1 => [] :: ((allW n).map (false :: ·) ++ (allW n).map (true :: ·))
theorem allW_len : ∀ n, (allW n).length + 1 = 2 ^ (n + 1)
  | 0 => rfl
  | n + 1 => by
    have := allW_len n
    show ([] :: ((allW n).map (false :: ·) ++ (allW n).map (true :: ·))).length + 1 = _
    rw [List.length_cons, List.length_append, List.length_map, List.length_map, Nat.pow_succ]
    omega
theorem mem_allW : ∀ {n : Nat} {w : List Bool}, w.length ≤ n → w ∈ allW n
  | 0, [], _ => List.mem_cons_self
  | 0, _ :: _, h => by rw [List.length_cons] at h; omega
  | n + 1, [], _ => List.mem_cons_self
  | n + 1, b :: w, h => by
    have := mem_allW (n := n) (w := w) (by rw [List.length_cons] at h; omega)
    refine List.mem_cons_of_mem _ (List.mem_append.mpr ?_)
    cases b with
    | false => exact .inl (List.mem_map_of_mem this)
    | true => exact .inr (List.mem_map_of_mem this)
theorem nodup_le {α : Type} [DecidableEq α] : ∀ {l m : List α}, l.Nodup → (∀ x ∈ l, x ∈ m) → l.length ≤ m.length
  | [], _, _, _ => Nat.zero_le _
  | x :: r, m, hn, hs => by
    have hx := hs x List.mem_cons_self
    have hn' := List.nodup_cons.mp hn
    have h2 := nodup_le (l := r) (m := m.erase x) hn'.2 fun y hy => by
      have hne : y ≠ x := fun e => hn'.1 (e ▸ hy)
      exact (List.mem_erase_of_ne hne).mpr (hs y (List.mem_cons_of_mem _ hy))
    rw [List.length_erase_of_mem hx] at h2
    have := List.length_pos_of_mem hx
    rw [List.length_cons]
    omega
theorem words_le {ws : List (List Bool)} {n : Nat} (hn : ws.Nodup) (hl : ∀ w ∈ ws, w.length ≤ n) : ws.length + 1 ≤ 2 ^ (n + 1) := by
  have := nodup_le hn fun w hw => mem_allW (hl w hw)
  have := allW_len n
  omega
theorem Ins.len {ss : List Stf} {L : Nat} (hL : ∀ s ∈ ss, s.1.length ≤ L) {l x : List Bool} (h : Ins ss l x) : x.length + 1 ≤ 2 ^ (L + 1) := by
  have := words_le (ws := (List.range x.length).map fun i => U.tl L (l ++ x.take i)) (n := L) (by
    rw [List.nodup_iff_pairwise_ne, List.pairwise_map]
    refine List.Pairwise.imp_of_mem ?_ List.nodup_range
    intro a b ha hb hne e
    have ha' := List.mem_range.mp ha
    have hb' := List.mem_range.mp hb
    exact hne (h.apart hL (Nat.le_of_lt ha') (Nat.le_of_lt hb') e)) (fun w hw => by
      obtain ⟨i, _, rfl⟩ := List.mem_map.mp hw
      exact tl_le _ _)
  rw [List.length_map, List.length_range] at this
  exact this
/-! the order of the stuffs does not matter -/
def SufFree (ss : List Stf) : Prop := ss.Pairwise fun a b => ¬ a.1 <:+ b.1 ∧ ¬ b.1 <:+ a.1
theorem SufFree.ne {ss : List Stf} (h : SufFree ss) {a b : Stf} (ha : a ∈ ss) (hb : b ∈ ss) (n : a ≠ b) : ¬ a.1 <:+ b.1 := by
  unfold SufFree at h
  induction ss with
  | nil => cases ha
  | cons s r ih =>
    obtain ⟨h1, h2⟩ := List.pairwise_cons.mp h
    rcases List.mem_cons.mp ha with ea | ha'
    · rcases List.mem_cons.mp hb with eb | hb'
      · exact absurd (ea.trans eb.symm) n
      · rw [ea]; exact (h1 _ hb').1
    · rcases List.mem_cons.mp hb with eb | hb'
      · rw [eb]; exact (h1 _ ha').2
      · exact ih h2 ha' hb'
theorem put_iff {ss : List Stf} (h : SufFree ss) {l : List Bool} {b : Bool} : putM ss l = some b ↔ ∃ p, (p, b) ∈ ss ∧ p <:+ l := by
  unfold putM
  constructor
  · intro e
    obtain ⟨s, hs, rfl⟩ := Option.map_eq_some_iff.mp e
    exact ⟨s.1, List.mem_of_find?_eq_some hs, List.isSuffixOf_iff_suffix.mp (List.find?_some (p := fun s : Stf => s.1.isSuffixOf l) hs)⟩
  · rintro ⟨p, hm, hp⟩
    cases e : ss.find? fun s => s.1.isSuffixOf l with
    | none =>
      have := List.find?_eq_none.mp e _ hm
      exact absurd (List.isSuffixOf_iff_suffix.mpr hp) this
    | some s =>
      have hs := List.mem_of_find?_eq_some e
      have hq : s.1 <:+ l := List.isSuffixOf_iff_suffix.mp (List.find?_some (p := fun s : Stf => s.1.isSuffixOf l) e)
      by_cases n : s = (p, b)
      · rw [n]; rfl
      · rcases List.suffix_or_suffix_of_suffix hq hp with z | z
        · exact absurd z (h.ne hs hm n)
        · exact absurd z (h.ne hm hs (Ne.symm n))
theorem SufFree.perm {ss ts : List Stf} (h : SufFree ss) (p : ss.Perm ts) : SufFree ts := by
  unfold SufFree at h ⊢
  exact (List.Perm.pairwise_iff (fun ⟨a, b⟩ => ⟨b, a⟩) p).mp h
theorem put_perm {ss ts : List Stf} (h : SufFree ss) (p : ss.Perm ts) (l : List Bool) : putM ss l = putM ts l := by
  refine Option.ext fun b => ?_
  rw [put_iff h, put_iff (h.perm p)]
  constructor
  · rintro ⟨q, hm, hq⟩; exact ⟨q, p.mem_iff.mp hm, hq⟩
  · rintro ⟨q, hm, hq⟩; exact ⟨q, p.mem_iff.mpr hm, hq⟩
theorem Ins.congr {ss ts : List Stf} (h : ∀ l, putM ss l = putM ts l) {l x : List Bool} (i : Ins ss l x) : Ins ts l x := by
  induction i with
  | stop e => exact .stop (by rw [← h]; exact e)
  | more e _ ih => exact .more (by rw [← h]; exact e) ih
theorem Reach.congr {ss ts : List Stf} (h : ∀ l, putM ss l = putM ts l) {l : List Bool} (r : Reach ss l) : Reach ts l := by
  induction r with
  | nil => exact .nil
  | next _ i ih => exact .next ih (i.congr h)
theorem OkR.congr {ss ts : List Stf} (h : ∀ l, putM ss l = putM ts l) (o : OkR ss) : OkR ts := fun l r b => by
  obtain ⟨x, hx⟩ := o l (r.congr fun l => (h l).symm) b
  exact ⟨x, hx.congr h⟩
/-! so many puts, one behind another -/
def stP (ss : List Stf) (l : List Bool) : List Bool := match putM ss l with
  | none => l
  | some b => l ++ [b]
def itP (ss : List Stf) : Nat → List Bool → List Bool
  | 0, l => l
  | n + 1, l => itP ss n (stP ss l)
theorem itP_succ (ss : List Stf) : ∀ (n : Nat) (l : List Bool), itP ss (n + 1) l = stP ss (itP ss n l)
  | 0, _ => rfl
  | n + 1, l => itP_succ ss n (stP ss l)
theorem itP_stop {ss : List Stf} {l : List Bool} (h : putM ss l = none) : ∀ n, itP ss n l = l
  | 0 => rfl
  | n + 1 => by
    show itP ss n (stP ss l) = l
    have e : stP ss l = l := by unfold stP; rw [h]
    rw [e, itP_stop h n]
theorem itP_add (ss : List Stf) : ∀ (i j : Nat) (l : List Bool), itP ss (i + j) l = itP ss j (itP ss i l)
  | 0, j, l => by rw [Nat.zero_add]; rfl
  | i + 1, j, l => by rw [show i + 1 + j = (i + j) + 1 by omega]; exact itP_add ss i j (stP ss l)
theorem itP_rest {ss : List Stf} {i n : Nat} {l : List Bool} (h : putM ss (itP ss i l) = none) (hi : i ≤ n) : itP ss n l = itP ss i l := by
  rw [show n = i + (n - i) by omega, itP_add, itP_stop h]
theorem itP_or (ss : List Stf) : ∀ (n : Nat) (l : List Bool), (itP ss n l).length = l.length + n ∨ ∃ x, Ins ss l x ∧ itP ss n l = l ++ x
  | 0, l => .inl rfl
  | n + 1, l => by
    cases e : putM ss l with
    | none => exact .inr ⟨[], .stop e, by rw [itP_stop e, List.append_nil]⟩
    | some b =>
      have es : stP ss l = l ++ [b] := by unfold stP; rw [e]
      show (itP ss n (stP ss l)).length = _ ∨ ∃ x, Ins ss l x ∧ itP ss n (stP ss l) = l ++ x
      rw [es]
      rcases itP_or ss n (l ++ [b]) with h | ⟨x, h1, h2⟩
      · left; rw [h, List.length_append, List.length_cons, List.length_nil]; omega
      · exact .inr ⟨b :: x, .more e h1, by rw [h2, List.append_assoc]; rfl⟩
theorem itP_le (ss : List Stf) : ∀ (n : Nat) (l : List Bool), l.length ≤ (itP ss n l).length ∧ (itP ss n l).length ≤ l.length + n
  | 0, l => ⟨Nat.le_refl _, Nat.le_refl _⟩
  | n + 1, l => by
    have h := itP_le ss n (stP ss l)
    have e : l.length ≤ (stP ss l).length ∧ (stP ss l).length ≤ l.length + 1 := by
      unfold stP
      cases putM ss l with
      | none => exact ⟨Nat.le_refl _, Nat.le_succ _⟩
      | some b => show l.length ≤ (l ++ [b]).length ∧ (l ++ [b]).length ≤ _; rw [List.length_append, List.length_cons, List.length_nil]; omega
    show l.length ≤ (itP ss n (stP ss l)).length ∧ (itP ss n (stP ss l)).length ≤ _
    omega
/-- a closed set of standings, of 5 bits at most, shows that no message is without end -/
theorem okS_of {ss : List Stf} (kn : List (List Bool)) (hL : ∀ s ∈ ss, s.1.length ≤ 5) (h0 : [] ∈ kn) (hc : ∀ w ∈ kn, ∀ b, (itP ss 24 (w ++ [b])).length ≤ w.length + 20 ∧ tl 5 (itP ss 24 (w ++ [b])) ∈ kn) : OkS ss := by
  have hx : ∀ w ∈ kn, ∀ b, ∃ x, Ins ss (w ++ [b]) x ∧ tl 5 (w ++ [b] ++ x) ∈ kn ∧ x.length ≤ 19 := fun w hw b => by
    obtain ⟨h1, h2⟩ := hc w hw b
    rcases itP_or ss 24 (w ++ [b]) with h | ⟨x, hi, e⟩
    · rw [h, List.length_append, List.length_cons, List.length_nil] at h1; omega
    · rw [e] at h2 h1; exact ⟨x, hi, h2, by rw [List.length_append, List.length_append, List.length_cons, List.length_nil] at h1; omega⟩
  have hr : ∀ l, Reach ss l → ∃ w ∈ kn, tl 5 w = tl 5 l := fun l r => by
    induction r with
    | nil => exact ⟨[], h0, rfl⟩
    | @next l x b r i ih =>
      obtain ⟨w, hw, e⟩ := ih
      obtain ⟨y, hy, hm, _⟩ := hx w hw b
      have e2 := tl_snoc (b := b) e
      have ey := (hy.tl hL e2).det i
      subst ey
      exact ⟨_, hm, by rw [tl_tl (Nat.le_refl 5)]; exact tl_app e2 y⟩
  intro l r b
  obtain ⟨w, hw, e⟩ := hr l r
  obtain ⟨y, hy, _, h19⟩ := hx w hw b
  exact ⟨y, hy.tl hL (tl_snoc e), h19⟩
theorem okS_dec {ss : List Stf} (hL : (ss.all fun s => decide (s.1.length ≤ 5)) = true) (h : ((allW 5).all fun w => [false, true].all fun b => decide ((itP ss 24 (w ++ [b])).length ≤ w.length + 20)) = true) : OkS ss := by
  refine okS_of (allW 5) (fun s hs => of_decide_eq_true (List.all_eq_true.mp hL s hs)) (mem_allW (by decide)) fun w hw b => ⟨?_, mem_allW (tl_le _ _)⟩
  have := List.all_eq_true.mp (List.all_eq_true.mp h w hw) b (by cases b <;> decide)
  exact of_decide_eq_true this
theorem okS_11 : OkS [([true, true], false)] := okS_dec (by decide +kernel) (by decide +kernel)
theorem okS_001 : OkS [([false, false, true], true)] := okS_dec (by decide +kernel) (by decide +kernel)
theorem okS_1 : OkS [([true], false)] := okS_dec (by decide +kernel) (by decide +kernel)
theorem okS_00 : OkS [([false, false], true)] := okS_dec (by decide +kernel) (by decide +kernel)
theorem okS_nil : OkS [] := okS_dec (by decide +kernel) (by decide +kernel)
theorem okR_nil : OkR [] := okS_nil.ok
theorem OkN.congr {n : Nat} {ss ts : List Stf} (h : ∀ l, putM ss l = putM ts l) (o : OkN n ss) : OkN n ts := fun l r b => by
  obtain ⟨x, hx, hl⟩ := o l (r.congr fun l => (h l).symm) b
  exact ⟨x, hx.congr h, hl⟩
/-- the line for a message -/
inductive Body (ss : List Stf) : List Bool → List Bool → Prop
  | nil : Body ss [] []
  | snoc {m l x : List Bool} {b : Bool} : Body ss m l → Ins ss (l ++ [b]) x → Body ss (m ++ [b]) (l ++ [b] ++ x)
theorem Body.reach {ss : List Stf} {m l : List Bool} (h : Body ss m l) : Reach ss l := by
  induction h with
  | nil => exact .nil
  | snoc _ i ih => exact .next ih i
theorem Body.congr {ss ts : List Stf} (h : ∀ l, putM ss l = putM ts l) {m l : List Bool} (b : Body ss m l) : Body ts m l := by
  induction b with
  | nil => exact .nil
  | snoc _ i ih => exact .snoc ih (i.congr h)
theorem body_steps {N : Nat} {ss : List Stf} (o : OkN N ss) (m : List Bool) : ∃ f : Nat → List Bool, f 0 = [] ∧ (∀ i b, m[i]? = some b → ∃ x, Ins ss (f i ++ [b]) x ∧ x.length ≤ N ∧ f (i + 1) = f i ++ [b] ++ x) ∧ (∀ i, i ≤ m.length → Body ss (m.take i) (f i) ∧ (f i).length ≤ (N + 1) * i) := by
  have step : ∀ (n : Nat) (hn : n ≤ m.length), ∃ f : Nat → List Bool, f 0 = [] ∧ (∀ i b, i < n → m[i]? = some b → ∃ x, Ins ss (f i ++ [b]) x ∧ x.length ≤ N ∧ f (i + 1) = f i ++ [b] ++ x) ∧ (∀ i, i ≤ n → Body ss (m.take i) (f i) ∧ (f i).length ≤ (N + 1) * i) := by
    intro n
    induction n with
    | zero => exact fun _ => ⟨fun _ => [], rfl, fun i b h => absurd h (Nat.not_lt_zero _), fun i h => by rw [Nat.le_zero.mp h, List.take_zero]; exact ⟨.nil, Nat.le_refl _⟩⟩
    | succ n ih =>
      intro hn
      obtain ⟨f, h0, h1, h2⟩ := ih (by omega)
      have hb : m[n]? = some m[n] := List.getElem?_eq_getElem (by omega)
      obtain ⟨hB, hl⟩ := h2 n (Nat.le_refl _)
      obtain ⟨x, hx, hx19⟩ := o (f n) hB.reach m[n]
      refine ⟨fun i => if i = n + 1 then f n ++ [m[n]] ++ x else f i, ?_, fun i b hi hb' => ?_, fun i hi => ?_⟩
      · show (if 0 = n + 1 then _ else f 0) = []
        rw [if_neg (by omega), h0]
      · show ∃ y, Ins ss ((if i = n + 1 then _ else f i) ++ [b]) y ∧ _ ∧ (if i + 1 = n + 1 then f n ++ [m[n]] ++ x else f (i + 1)) = (if i = n + 1 then f n ++ [m[n]] ++ x else f i) ++ [b] ++ y
        rw [if_neg (show ¬ i = n + 1 by omega)]
        by_cases e : i = n
        · subst e
          rw [hb] at hb'
          cases hb'
          rw [if_pos rfl]
          exact ⟨x, hx, hx19, rfl⟩
        · rw [if_neg (by omega)]
          exact h1 i b (by omega) hb'
      · show Body ss (m.take i) (if i = n + 1 then _ else f i) ∧ (if i = n + 1 then f n ++ [m[n]] ++ x else f i).length ≤ (N + 1) * i
        by_cases e : i = n + 1
        · subst e
          rw [if_pos rfl, List.take_add_one, hb]
          refine ⟨.snoc hB hx, ?_⟩
          rw [List.length_append, List.length_append, List.length_cons, List.length_nil, Nat.mul_add]
          omega
        · rw [if_neg e]
          exact h2 i (by omega)
  obtain ⟨f, h0, h1, h2⟩ := step m.length (Nat.le_refl _)
  exact ⟨f, h0, fun i b hb => h1 i b (List.getElem?_eq_some_iff.mp hb).1 hb, h2⟩
theorem Ins.itP {ss : List Stf} {l x : List Bool} (h : Ins ss l x) : ∀ n, itP ss n l = l ++ x.take n := by
  induction h with
  | stop h => intro n; rw [itP_stop h, List.take_nil, List.append_nil]
  | @more l x b h _ ih =>
    intro n
    cases n with
    | zero => rw [List.take_zero, List.append_nil]; rfl
    | succ n =>
      have es : stP ss l = l ++ [b] := by unfold stP; rw [h]
      show U.itP ss n (stP ss l) = _
      rw [es, ih n, List.append_assoc]
      rfl
theorem ins_of_itP {ss : List Stf} {l y : List Bool} {j : Nat} (h : itP ss j l = l ++ y) (hn : putM ss (l ++ y) = none) (hj : y.length = j) : Ins ss l y := by
  rcases itP_or ss (j + 1) l with c | ⟨x, hx, e⟩
  · rw [itP_succ, h] at c
    unfold stP at c
    rw [hn] at c
    have c' : (l ++ y).length = l.length + (j + 1) := c
    rw [List.length_append] at c'
    omega
  · rw [itP_succ, h] at e
    unfold stP at e
    rw [hn] at e
    have e' : l ++ y = l ++ x := e
    rw [List.append_cancel_left e']
    exact hx
/-- the line for a message, as a function -/
def bodyF (ss : List Stf) (m : List Bool) : List Bool := m.foldl (fun l b => itP ss 40 (l ++ [b])) []
theorem Body.isF {ss : List Stf} (o : OkN 39 ss) {m l : List Bool} (h : Body ss m l) : l = bodyF ss m := by
  induction h with
  | nil => rfl
  | @snoc m l x b hb hi ih =>
    obtain ⟨y, hy, h39⟩ := o l hb.reach b
    have e := hi.det hy
    subst e
    unfold bodyF
    rw [List.foldl_append]
    show _ = itP ss 40 (bodyF ss m ++ [b])
    rw [← ih, hi.itP, List.take_of_length_le (by omega)]
theorem body_ex {ss : List Stf} (o : OkN 39 ss) (m : List Bool) : Body ss m (bodyF ss m) := by
  obtain ⟨f, _, _, h⟩ := body_steps o m
  have := (h m.length (Nat.le_refl _)).1
  rw [List.take_length] at this
  rw [← this.isF o]
  exact this
end U

set_option maxRecDepth 100000
set_option maxHeartbeats 4000000
namespace U
open PySem PySem.Spec PyProof.Rows L2
def top (i : Nat) : Stmt := PySem.Challenge.pw_unseenflips_k50_hits_that_are_refused.main.body.getD i (.Pass ⟨0, 0, 0, 0⟩)
abbrev s_wall : Stmt := top 0
abbrev s_InvalidRule_init : Stmt := inClass (top 3) 0
abbrev s_InvalidText_init : Stmt := inClass (top 4) 0
abbrev s_InvalidWord_init : Stmt := inClass (top 5) 0
abbrev s_InvalidHits_init : Stmt := inClass (top 6) 0
abbrev s_is_integer : Stmt := top 9
abbrev s_is_number : Stmt := top 10
abbrev s_is_sequence : Stmt := top 11
abbrev s_is_word : Stmt := top 12
abbrev s_is_bit : Stmt := top 13
abbrev s_other : Stmt := top 14
abbrev s_tail : Stmt := top 15
abbrev s_arriving : Stmt := top 18
abbrev s_is_hit : Stmt := top 19
abbrev s_hit : Stmt := top 20
abbrev s_is_stuff : Stmt := top 22
abbrev s_are_stuffs : Stmt := top 23
abbrev s_stuff_in : Stmt := top 24
abbrev s_Rule_init : Stmt := inClass (top 25) 0
abbrev s_Rule_read : Stmt := inClass (top 25) 1
abbrev s_Rule_longest : Stmt := inClass (top 25) 2
abbrev s_Rule_swapped : Stmt := inClass (top 25) 3
abbrev s_Rule_put : Stmt := inClass (top 25) 4
abbrev s_Rule_put_in : Stmt := inClass (top 25) 5
abbrev s_Rule_is_endless : Stmt := inClass (top 25) 6
abbrev s_Rule_len : Stmt := inClass (top 25) 7
abbrev s_Rule_iter : Stmt := inClass (top 25) 8
abbrev s_Rule_eq : Stmt := inClass (top 25) 9
abbrev s_Rule_str : Stmt := inClass (top 25) 10
abbrev s_l_seed : Stmt := top 27
abbrev s_l_choose : Stmt := top 28
abbrev s_l_one_of : Stmt := top 29
abbrev s_l_word : Stmt := top 30
abbrev s_l_deep : Stmt := top 31
abbrev s_l_heard : Stmt := top 32
abbrev s_law : Stmt := top 33
structure Tx (mg : Str → Option Value) : Prop where
  b_len : mg "len" = none
  b_abs : mg "abs" = none
  b_int : mg "int" = none
  b_range : mg "range" = none
  b_max : mg "max" = none
  b_min : mg "min" = none
  b_enumerate : mg "enumerate" = none
  b_zip : mg "zip" = none
  b_dict : mg "dict" = none
  b_list : mg "list" = none
  b_tuple : mg "tuple" = none
  b_isinstance : mg "isinstance" = none
  b_bool : mg "bool" = none
  b_str : mg "str" = none
  b_all : mg "all" = none
  b_any : mg "any" = none
  b_sum : mg "sum" = none
  b_sorted : mg "sorted" = none
  b_repr : mg "repr" = none
end U

set_option maxRecDepth 100000
set_option maxHeartbeats 4000000
namespace U
open PySem PySem.Spec PyProof.Rows
open L2 hiding Fun CX0 E0 pass0 Fun.binds
open C8 Lx
local macro_rules | `(tactic| walk_at "g") => `(tactic| repeat (first | (refine ⟨_, rfl, ?_⟩) | (refine ⟨_, _, rfl, rfl, ?_⟩) | (refine ⟨rfl, ?_⟩) | (refine .inl ⟨_, rfl, ?_⟩)))
/-- the box: a list of two ints -/
def Box (H : Hp) (b : Addr) : Prop := ∃ x y : Int, H b = some (.lst [.int x, .int y])
/-- all but the box at b stands as it stood; the box is a box -/
def Up (b : Addr) (H H' : Hp) : Prop := (∀ c o, H c = some o → c ≠ b → H' c = some o) ∧ Box H' b
theorem Box.same {b : Addr} {H H' : Hp} (h : Box H b) (y : Same H H') : Box H' b := by obtain ⟨i, j, e⟩ := h; exact ⟨i, j, y _ _ e⟩
theorem Up.refl {b : Addr} {H : Hp} (h : Box H b) : Up b H H := ⟨fun _ _ e _ => e, h⟩
theorem Up.trans {b : Addr} {H H1 H2 : Hp} (x : Up b H H1) (y : Up b H1 H2) : Up b H H2 := ⟨fun c o e n => y.1 c o (x.1 c o e n) n, y.2⟩
theorem Up.same {b : Addr} {H H1 H2 : Hp} (x : Up b H H1) (y : Same H1 H2) : Up b H H2 := ⟨fun c o e n => y c o (x.1 c o e n), x.2.same y⟩
theorem Up.of_same {b : Addr} {H H2 : Hp} (h : Box H b) (y : Same H H2) : Up b H H2 := (Up.refl h).same y
theorem same_upd {H : Hp} {p : Addr} {o : HO} (h : H p = none) : Same H (upd H p o) := fun b x e => by
  rw [upd_ne (ne_of_none e h)]
  exact e
theorem same_mut' {H H1 : Hp} {p : Addr} {o : HO} (s : Same H H1) (n : H p = none) : Same H (upd H1 p o) := fun c u e => by
  rw [upd_ne (ne_of_none e n)]
  exact s _ _ e
theorem Box.ne {H : Hp} {b p : Addr} (h : Box H b) (n : H p = none) : p ≠ b := by
  obtain ⟨i, j, e⟩ := h
  intro z
  rw [z, e] at n
  cases n
/-- a thing that is no list of two ints is not the box -/
theorem Box.neT {H : Hp} {b p : Addr} {xs : List V} (h : Box H b) (n : H p = some (.tup xs)) : p ≠ b := by
  obtain ⟨i, j, e⟩ := h
  intro z
  rw [z, e] at n
  cases n
/-- an object that H doesn't know, changed -/
theorem Up.mut {b : Addr} {H H1 : Hp} {p : Addr} {o : HO} (x : Up b H H1) (h : H p = none) (n : p ≠ b) : Up b H (upd H1 p o) :=
  ⟨fun c u e nc => by rw [upd_ne (ne_of_none e h)]; exact x.1 c u e nc, by obtain ⟨i, j, e⟩ := x.2; exact ⟨i, j, by rw [upd_ne (Ne.symm n)]; exact e⟩⟩
theorem Up.free {b : Addr} {H H1 : Hp} {p : Addr} (x : Up b H H1) (h : H1 p = none) : H p = none := by
  cases e : H p with
  | none => rfl
  | some o =>
    by_cases n : p = b
    · obtain ⟨i, j, e2⟩ := x.2
      rw [n, e2] at h
      cases h
    · rw [x.1 p o e n] at h
      cases h
/-- what is no list stands as it stood -/
def NL (H H' : Hp) : Prop := ∀ c o, H c = some o → (∀ xs, o ≠ .lst xs) → H' c = some o
theorem NL.refl (H : Hp) : NL H H := fun _ _ e _ => e
theorem NL.trans {H H1 H2 : Hp} (a : NL H H1) (b : NL H1 H2) : NL H H2 := fun c o e n => b c o (a c o e n) n
theorem NL.of {H H' : Hp} (s : Same H H') : NL H H' := fun c o e _ => s c o e
theorem Up.nl {b : Addr} {H H' : Hp} (hb : Box H b) (u : Up b H H') : NL H H' := fun c o e n => u.1 c o e fun z => by
  obtain ⟨i, j, hb⟩ := hb
  rw [z, hb] at e
  exact n _ (Option.some.inj e).symm
theorem nl_upd {H : Hp} {q : Addr} {xs : List V} {o : HO} (h : H q = some (.lst xs)) : NL H (upd H q o) := fun c u e n => by
  have nq : c ≠ q := fun z => by
    rw [z, h] at e
    exact n _ (Option.some.inj e).symm
  rw [upd_ne nq]
  exact e
theorem NL.tup {H H' : Hp} {a : Addr} {xs : List V} (n : NL H H') (h : H a = some (.tup xs)) : H' a = some (.tup xs) := n _ _ h fun _ z => by cases z
theorem NL.ins {H H' : Hp} {a C dx : Addr} {fs : List (Str × V)} (n : NL H H') (h : H a = some (.ins C dx fs)) : H' a = some (.ins C dx fs) := n _ _ h fun _ z => by cases z
def spSeed (K : PySem.W.Frag) : Sp := fun vs H Q _ => ∃ (a : Addr) (ns : List Int) (k : Nat), vs = [.ref a, .int k] ∧ SqL K H a (ns.map V.int) ∧
  ∀ p H', H p = none → Same H H' → Box H' p → Q (.ref p) H'
def spChoose : Sp := fun vs H Q _ => ∃ (b : Addr) (m : Int), vs = [.ref b, .int m] ∧ Box H b ∧ 0 < m ∧ m < 1073741824 ∧
  ∀ (d : Int) H', 0 ≤ d → d < m → Up b H H' → Q (.int d) H'
def spOneOf : Sp := fun vs H Q _ => ∃ (b l : Addr) (xs : List V), vs = [.ref b, .ref l] ∧ Box H b ∧ H l = some (.lst xs) ∧ l ≠ b ∧ 0 < xs.length ∧ xs.length < 1000 ∧
  ∀ (v : V) H', v ∈ xs → Up b H H' → Q v H'
theorem cell_at {ns : List Int} {k : Int} (h0 : 0 ≤ k) (h1 : k < ns.length) : ∃ z, atI (ns.map V.int) k = some (V.int z) := by
  obtain ⟨j, rfl⟩ := Int.eq_ofNat_of_zero_le h0
  have h2 : j < ns.length := by omega
  exact ⟨ns[j], atI_nat (by simp [h2])⟩
section
variable {P : Program} {w : World} {K : PySem.W.Frag} {mg : Str → Option Value} {base : Heap}
theorem sc_l_choose : FnScope ["_law_box", "_law_many", "_law_digit", "_law_raw"] ["_law_box", "_law_many"] (fnScope s_l_choose) := fnScope_by (by decide +kernel)
theorem cal_l_choose {f : Addr} {fd : FuncData} (F : Def K mg "_law_choose" s_l_choose f fd) (b : Binds K fd ["_law_box", "_law_many"] []) (T : Tx mg) : Cal P w K mg base 1 "_law_choose" spChoose [] := by
  refine cal0 F b .nil sc_l_choose (fun vs H Q E h => ?_) (fun cdv A outer s H vs Q E hr h => ?_)
  · obtain ⟨_, _, rfl, _⟩ := h; rfl
  · obtain ⟨bx, m, rfl, ⟨x, y, hb⟩, m0, m1, k⟩ := h
    refine ⟨_, (pss_cons (ps_if (pt_cmpR op_gt (pe_ix ix_list (pv 0) pe_int (fun _ _ => rfl)) pe_int (nomark _)) (pss_cons (ps_set (i := 2) sc_l_choose.nd rfl (.inl rfl) (pe_op op_mod (pe_callTy call_int1 (by rfl) T.b_int (by decide +kernel) (pa_cons (pe_ix ix_list (pv 0) pe_int (fun _ _ => rfl)) pa_nil)) (pv 1)))
    (pss_cons (ps_asg (pe_op op_fdiv (pe_ix ix_list (pv 0) pe_int (fun _ _ => rfl)) (pv 1)) (pg_sub (pv 0) pe_int set_list))
    (pss_one (ps_ret (pv 2))))) pss_nil)
    (pss_cons (ps_set (i := 3) sc_l_choose.nd rfl (.inl rfl) (pe_op op_mod (pe_callTy call_int1 (by rfl) T.b_int (by decide +kernel) (pa_cons (pe_op op_add (pe_op op_mul (pe_ix ix_list (pv 0) pe_int (fun _ _ => rfl)) pe_int) pe_int) pa_nil)) pe_int))
    (pss_cons (ps_asg (pe_op op_add (pe_op op_mod (pe_callTy call_int1 (by rfl) T.b_int (by decide +kernel) (pa_cons (pe_op op_add (pe_op op_mul (pv 3) pe_int) pe_int) pa_nil)) pe_int) pe_int) (pg_sub (pv 0) pe_int set_list))
    (pss_one (ps_ret (pe_op op_mod (pe_callTy call_int1 (by rfl) T.b_int (by decide +kernel) (pa_cons (pe_op op_fdiv (pe_op op_add (pe_op op_mul (pv 3) pe_int) (pe_ix ix_list (pv 0) pe_int (fun _ _ => rfl))) pe_int) pa_nil)) (pv 1))))))), ?_⟩
    have up : ∀ x' y' : Int, Up bx H (upd H bx (.lst [.int x', .int y'])) := fun x' y' => ⟨fun c o e n => by rw [upd_ne n]; exact e, _, _, upd_same⟩
    refine ⟨_, rfl, bx, _, _, _, rfl, rfl, SqL.of hb, atI_nat (j := 0) rfl, _, _, rfl, rfl, _, rfl, ?_⟩
    refine ite2 (fun h1 => ?_) (fun h1 => ?_)
    · refine ⟨_, rfl, bx, _, _, _, rfl, rfl, SqL.of hb, atI_nat (j := 0) rfl, .inl ⟨_, rfl, _, rfl, _, _, rfl, rfl, m0, ?_⟩⟩
      refine ⟨_, rfl, bx, _, _, _, rfl, rfl, SqL.of hb, atI_nat (j := 0) rfl, _, rfl, _, _, rfl, rfl, ⟨m0, m1⟩, _, rfl, bx, _, _, 0, rfl, rfl, hb, rfl, ?_⟩
      exact ⟨_, rfl, k _ _ (Int.emod_nonneg _ (by omega)) (Int.emod_lt_of_pos _ m0) (up _ _)⟩
    · refine ⟨_, rfl, bx, _, _, _, rfl, rfl, SqL.of hb, atI_nat (j := 1) rfl, _, _, rfl, rfl, .inr ⟨by decide, by decide⟩, _, _, rfl, rfl, .inl ⟨_, rfl, _, _, rfl, rfl, (by show (0 : Int) < 2147483563; decide), ?_⟩⟩
      refine ⟨_, rfl, _, _, rfl, rfl, .inr ⟨by decide, by decide⟩, _, _, rfl, rfl, .inl ⟨_, rfl, _, _, rfl, rfl, (by show (0 : Int) < 2147483629; decide), _, _, rfl, rfl, _, rfl, bx, _, _, 1, rfl, rfl, hb, rfl, ?_⟩⟩
      refine ⟨_, rfl, _, _, rfl, rfl, .inr ⟨by decide, by decide⟩, _, rfl, bx, _, _, _, rfl, rfl, SqL.of upd_same, atI_nat (j := 1) rfl, _, _, rfl, rfl, _, _, rfl, rfl, ⟨by decide, by decide⟩, .inl ⟨_, rfl, _, rfl, _, _, rfl, rfl, m0, ?_⟩⟩
      exact k _ _ (Int.emod_nonneg _ (by omega)) (Int.emod_lt_of_pos _ m0) (up _ _)
theorem sc_l_seed : FnScope ["_law_script", "_law_k", "_law_cell"] ["_law_script", "_law_k"] (fnScope s_l_seed) := fnScope_by (by decide +kernel)
theorem cal_l_seed {f : Addr} {fd : FuncData} (F : Def K mg "_law_seed" s_l_seed f fd) (b : Binds K fd ["_law_script", "_law_k"] []) (T : Tx mg) : Cal P w K mg base 1 "_law_seed" (spSeed K) [] := by
  refine cal0 F b .nil sc_l_seed (fun vs H Q E h => ?_) (fun cdv A outer s H vs Q E hr h => ?_)
  · obtain ⟨_, _, _, rfl, _⟩ := h; rfl
  · obtain ⟨a, ns, n, rfl, hS, k⟩ := h
    refine ⟨_, (pss_cons (ps_set (i := 2) sc_l_seed.nd rfl (.inl rfl) (pe_op op_add (pe_op op_mul pe_int (pv 1)) pe_int))
    (pss_cons (ps_if (pt_cmpR op_lt (pv 1) (pe_callB call_len_seq (by rfl) T.b_len (by decide +kernel) (pa_cons (pv 0) pa_nil)) (nomark _)) (pss_one (ps_set (i := 2) sc_l_seed.nd rfl (.inl rfl) (pe_callB call_abs (by rfl) T.b_abs (by decide +kernel) (pa_cons (pe_ix ix_list (pv 0) (pv 1) (fun _ _ => rfl)) pa_nil)))) (pss_one (ps_if (pt_cmpR op_gt (pe_callB call_len_seq (by rfl) T.b_len (by decide +kernel) (pa_cons (pv 0) pa_nil)) pe_int (nomark _)) (pss_one (ps_set (i := 2) sc_l_seed.nd rfl (.inl rfl) (pe_op op_add (pv 2) (pe_op op_mul (pe_op op_mod (pe_callTy call_int1 (by rfl) T.b_int (by decide +kernel) (pa_cons (pe_callB call_abs (by rfl) T.b_abs (by decide +kernel) (pa_cons (pe_ix ix_list (pv 0) (pe_op op_mod (pe_callTy call_int1 (by rfl) T.b_int (by decide +kernel) (pa_cons (pv 1) pa_nil)) (pe_callB call_len_seq (by rfl) T.b_len (by decide +kernel) (pa_cons (pv 0) pa_nil))) (fun _ _ => rfl)) pa_nil)) pa_nil)) pe_int) pe_int)))) pss_nil)))
    (pss_one (ps_ret (pe_lst (pa_cons (pe_ifExp (pt_cmpR op_ge (pv 2) (pe_op op_pow pe_int pe_int) (nomark _)) (pv 2) pe_int) (pa_cons (pe_op op_add (pe_op op_mod (pe_callTy call_int1 (by rfl) T.b_int (by decide +kernel) (pa_cons (pe_op op_add (pe_op op_mul (pe_op op_mod (pe_callTy call_int1 (by rfl) T.b_int (by decide +kernel) (pa_cons (pv 2) pa_nil)) pe_int) pe_int) (pe_op op_mul pe_int (pv 1))) pa_nil)) pe_int) pe_int) pa_nil))))))), ?_⟩
    have fin : ∀ z : Int, tRet (tLst (tCons (tIf (tTest (tOp (rI0 fun i j => V.bl (decide (j ≤ i))) (tVar 2) (tOp (rI CPow fun i j => V.int (i ^ j.toNat)) (tC (V.int 10)) (tC (V.int 18))))) (tVar 2) (tC (V.int 0))) (tCons (tOp (rI0 fun i j => V.int (i + j)) (tOp (rI (fun _ j => 0 < j) fun i j => V.int (i % j)) (tCB (fun xs H Q => (∃ i, xs = [V.int i] ∧ Q (V.int i) H) ∨ ∃ k, xs = [V.bl k] ∧ Q (V.int (if k = true then 1 else 0)) H) (tCons (tOp (rI0 fun i j => V.int (i + j)) (tOp (rI CMul fun i j => V.int (i * j)) (tOp (rI (fun _ j => 0 < j) fun i j => V.int (i % j)) (tCB (fun xs H Q => (∃ i, xs = [V.int i] ∧ Q (V.int i) H) ∨ ∃ k, xs = [V.bl k] ∧ Q (V.int (if k = true then 1 else 0)) H) (tCons (tVar 2) tNil)) (tC (V.int 2147483629))) (tC (V.int 48271))) (tOp (rI CMul fun i j => V.int (i * j)) (tC (V.int 39019)) (tVar 1))) tNil)) (tC (V.int 2147483629))) (tC (V.int 1))) tNil))) { nx := fun _ H' => Q .non H', rt := Q } [some (.ref a), some (.int n), some (.int z)] H := by
      intro z
      refine ⟨_, rfl, _, _, rfl, rfl, ⟨by decide, by decide, by decide⟩, _, _, rfl, rfl, _, rfl, ?_⟩
      refine ite2 (fun h1 => ?_) (fun h1 => ?_)
      all_goals
        first
          | refine ⟨_, rfl, _, rfl, .inl ⟨_, rfl, _, _, rfl, rfl, (by show (0 : Int) < 2147483629; decide), _, _, rfl, rfl, .inr ⟨by decide, by decide⟩, _, rfl, _, _, rfl, rfl, .inl ⟨by decide, by decide⟩, _, _, rfl, rfl, .inl ⟨_, rfl, _, _, rfl, rfl, (by show (0 : Int) < 2147483629; decide), _, _, rfl, rfl, ?_⟩⟩⟩
          | refine ⟨_, rfl, .inl ⟨_, rfl, _, _, rfl, rfl, (by show (0 : Int) < 2147483629; decide), _, _, rfl, rfl, .inr ⟨by decide, by decide⟩, _, rfl, _, _, rfl, rfl, .inl ⟨by decide, by decide⟩, _, _, rfl, rfl, .inl ⟨_, rfl, _, _, rfl, rfl, (by show (0 : Int) < 2147483629; decide), _, _, rfl, rfl, ?_⟩⟩⟩
        exact ⟨by show 2 ≤ sizeLine; decide, fun p hp => k p _ hp (same_upd hp) ⟨_, _, upd_same⟩⟩
    refine ⟨_, rfl, _, _, rfl, rfl, .inl ⟨by decide, by decide⟩, _, _, rfl, rfl, ?_⟩
    refine ⟨_, rfl, _, rfl, a, _, rfl, .inl hS, _, _, rfl, rfl, _, rfl, ?_⟩
    refine ite2 (fun h1 => ?_) (fun h1 => ?_)
    · have h2 : (n : Int) < ((ns.map V.int).length : Int) := of_decide_eq_true h1
      rw [List.length_map] at h2
      obtain ⟨z, hz⟩ := cell_at (ns := ns) (by omega : (0 : Int) ≤ n) h2
      refine ⟨_, rfl, _, rfl, a, _, _, _, rfl, rfl, hS, hz, _, rfl, ?_⟩
      exact fin _
    · refine ⟨_, rfl, a, _, rfl, .inl hS, _, _, rfl, rfl, _, rfl, ?_⟩
      refine ite2 (fun h3 => ?_) (fun h3 => ?_)
      · have h4 : (0 : Int) < ((ns.map V.int).length : Int) := of_decide_eq_true h3
        have h5 := h4
        rw [List.length_map] at h5
        obtain ⟨z, hz⟩ := cell_at (ns := ns) (k := (n : Int) % ((ns.map V.int).length : Int)) (Int.emod_nonneg _ (by omega)) (by have := Int.emod_lt_of_pos (n : Int) h4; rw [List.length_map] at this ⊢; exact this)
        refine ⟨_, rfl, _, rfl, _, rfl, .inl ⟨_, rfl, _, rfl, a, _, rfl, .inl hS, _, _, rfl, rfl, h4, a, _, _, _, rfl, rfl, hS, hz, _, rfl, .inl ⟨_, rfl, _, _, rfl, rfl, (by show (0 : Int) < 2147483629; decide), _, _, rfl, rfl, .inr ⟨by decide, by decide⟩, _, _, rfl, rfl, ?_⟩⟩⟩
        exact fin _
      · exact fin _
theorem sc_l_one_of : FnScope ["_law_box", "_law_some"] ["_law_box", "_law_some"] (fnScope s_l_one_of) := fnScope_by (by decide +kernel)
theorem cal_l_one_of {f : Addr} {fd : FuncData} (F : Def K mg "_law_one_of" s_l_one_of f fd) (b : Binds K fd ["_law_box", "_law_some"] []) (T : Tx mg) (c_l_choose : Cal P w K mg base 1 "_law_choose" spChoose []) : Cal P w K mg base 2 "_law_one_of" spOneOf [] := by
  refine cal0 F b .nil sc_l_one_of (fun vs H Q E h => ?_) (fun cdv A outer s H vs Q E hr h => ?_)
  · obtain ⟨_, _, _, rfl, _⟩ := h; rfl
  · obtain ⟨bx, l, xs, rfl, hb, hl, nl, x0, x1, k⟩ := h
    refine ⟨_, (pss_one (ps_ret (pe_ix ix_list (pv 1) (pe_c c_l_choose hr (by decide) rfl (pa_cons (pv 0) (pa_cons (pe_callB call_len_seq (by rfl) T.b_len (by decide +kernel) (pa_cons (pv 1) pa_nil)) pa_nil))) (fun _ _ => rfl)))), ?_⟩
    refine ⟨_, rfl, _, rfl, _, rfl, l, _, rfl, .inl (SqL.of hl), bx, _, rfl, hb, by omega, by omega, fun d H' d0 d1 u => ?_⟩
    obtain ⟨j, rfl⟩ := Int.eq_ofNat_of_zero_le d0
    have hj : j < xs.length := by omega
    have g : xs[j]? = some xs[j] := by simp [hj]
    exact ⟨l, xs, _, xs[j], rfl, rfl, SqL.of (u.1 l _ hl nl), atI_nat g, k _ _ (List.getElem_mem hj) u⟩
end
end U

set_option maxRecDepth 100000
set_option maxHeartbeats 4000000
namespace U
open PySem PySem.Spec PyProof.Rows
open L2 hiding Fun CX0 E0 pass0 Fun.binds
open C8 Lx SX
/-! words told -/
def isW (z : Str) : Bool := z.cps.toList.all fun c => decide (c ∈ ("01" : Str).cps.toList)
theorem isW_W (l : List Bool) : isW (W l) = true := by
  unfold isW
  rw [W_tl, List.all_map, List.all_eq_true]
  intro b _
  cases b <;> decide +kernel
/-- is_word of any value: a text, or a thing whose type is not str -/
def spIsWord (K : PySem.W.Frag) : Sp := fun vs H Q _ => ∃ x, vs = [x] ∧ ((∃ z : Str, x = .str z ∧ z.length ≤ 100000 ∧ ∀ H', Same H H' → Q (.bl (isW z)) H') ∨
  (∃ t, TyX K H x t ∧ PySem.W.kitOne K t (.type "str") = some false ∧ Q (.bl false) H))
theorem spIsWord.word {K : PySem.W.Frag} {H : Hp} {Q : VK} {E : XK} {l : List Bool} (hl : l.length ≤ 100000) (k : ∀ H', Same H H' → Q (.bl true) H') : spIsWord K [.str (W l)] H Q E :=
  ⟨_, rfl, .inl ⟨_, rfl, by rw [W_len]; exact hl, fun H' s => by rw [isW_W]; exact k H' s⟩⟩
section
variable {P : Program} {w : World} {K : PySem.W.Frag} {mg : Str → Option Value} {base : Heap}
theorem sc_is_word : FnScope ["value", "sign"] ["value"] (fnScope s_is_word) := fnScope_by (by decide +kernel)
theorem cal_is_word {f : Addr} {fd : FuncData} {tB : Tok} (F : Def K mg "is_word" s_is_word f fd) (b : Binds K fd ["value"] []) (T : Tx mg) (g_BITS : mg "BITS" = some (.str "01" tB)) : Cal P w K mg base 1 "is_word" (spIsWord K) [] := by
  refine cal0 F b .nil sc_is_word (fun vs H Q E h => ?_) (fun cdv A outer s H vs Q E hr h => ?_)
  · obtain ⟨_, rfl, _⟩ := h; rfl
  · obtain ⟨_, rfl, h⟩ := h
    refine ⟨_, (pss_one (ps_ret (pe_and (pe_callB call_isi (by rfl) T.b_isinstance (by decide +kernel) (pa_cons (pv 0) (pa_cons (pe_bltn (v := .ty "str") (u := .type "str") (by rfl) T.b_str (by decide +kernel) rfl) pa_nil))) (pe_one (pe_callB (cr_all rfl) (by rfl) T.b_all (by decide +kernel) (pa_cons (pe_lc (own := [("sign", 1)]) (g := gName 1) (by rfl) sc_is_word.nd (pi_str (pv 0)) (blkOk_by (own := [("sign", 1)]) (N := ["value", "sign"]) (sc := fnScope s_is_word) (by decide +kernel)) (fun _ _ _ _ _ => (pg_name (i := 1) sc_is_word.nd rfl (.inl rfl))) (fun _ _ _ _ _ => pts_nil) (fun _ _ _ _ _ => (pe_cmpR op_in_sign (pv 1) (pe_glob (v := .str "01") (by rfl) g_BITS ⟨_, rfl⟩) (by with_unfolding_all rfl)))) pa_nil)))))), ?_⟩
    rcases h with ⟨z, rfl, hz, k⟩ | ⟨t, ht, hk, k⟩
    · refine ⟨_, rfl, _, _, _, _, true, rfl, .ty _, .base (.str z), kit_ty (by decide +kernel), _, rfl, ?_⟩
      refine ⟨_, rfl, z, rfl, fun D nD => ?_⟩
      refine lc_it walk_str (fun i H2 => Same H H2 ∧ H2 D = some (.lst (((z.cps.toList.take i).map fun c => decide (c ∈ ("01" : Str).cps.toList)).map V.bl))) ⟨same_upd nD, upd_same⟩ (fun _ _ _ _ => trivial) ?_ ?_
      · rintro i x H2 H3 hi ⟨s2, hD⟩ ⟨rfl, c, hc, rfl⟩
        refine ⟨rfl, ?_⟩
        refine ⟨_, rfl, c, _, rfl, rfl, _, hD, ?_, ?_, ?_⟩
        · rw [List.length_map, List.length_map, List.length_take]
          have e : z.length = z.cps.toList.length := TL.len_tl z
          exact sl_lt (by have : z.cps.size = z.cps.toList.length := by simp
                          omega)
        · intro c' o e
          rw [upd_ne (ne_of_none e nD)]
          exact s2 _ _ e
        · have hc' : z.cps.toList[i]? = some c := by rw [Array.getElem?_toList]; exact hc
          rw [upd_same, List.take_add_one, hc']
          simp
      · rintro H2 ⟨s2, hD⟩
        have e : z.cps.toList.take z.cps.size = z.cps.toList := List.take_of_length_le (by simp)
        rw [e] at hD
        refine ⟨D, _, rfl, SqL.of hD, ?_⟩
        have e2 : (List.map (fun c => decide (c ∈ ("01" : Str).cps.toList)) z.cps.toList).all id = isW z := by
          unfold isW
          rw [List.all_map]
          rfl
        rw [e2]
        exact k H2 s2
    · exact ⟨_, rfl, _, _, _, _, false, rfl, .ty _, ht, hk, _, rfl, k⟩
end
end U

set_option maxRecDepth 100000
set_option maxHeartbeats 4000000
set_option pp.maxSteps 400
namespace U
open PySem PySem.Spec PyProof.Rows
open L2 hiding Fun CX0 E0 pass0 Fun.binds
open C8 Lx SX
/-! any values -/
/-- a text, or a thing whose type is not str, whatever is made beside it -/
def AnyS (K : PySem.W.Frag) (H : Hp) (x : V) : Prop := (∃ z : Str, x = .str z ∧ z.length ≤ 10000 ∧ PyData.strOk z = true) ∨ ((∀ z, x ≠ .str z) ∧ ∃ t, PySem.W.kitOne K t (.type "str") = some false ∧ ∀ H', Same H H' → TyX K H' x t)
theorem AnyS.same {K : PySem.W.Frag} {H H' : Hp} {x : V} (h : AnyS K H x) (s : Same H H') : AnyS K H' x := by
  rcases h with h | ⟨h1, t, h2, h3⟩
  · exact .inl h
  · exact .inr ⟨h1, t, h2, fun H2 s2 => h3 H2 (s.trans s2)⟩
/-- the same, while the box at b turns -/
def AnyU (K : PySem.W.Frag) (b : Addr) (H : Hp) (x : V) : Prop := ∀ H', Up b H H' → AnyS K H' x
theorem AnyU.up {K : PySem.W.Frag} {b : Addr} {H H' : Hp} {x : V} (h : AnyU K b H x) (u : Up b H H') : AnyU K b H' x := fun H2 u2 => h H2 (u.trans u2)
theorem AnyU.now {K : PySem.W.Frag} {b : Addr} {H : Hp} {x : V} (h : AnyU K b H x) (hb : Box H b) : AnyS K H x := h H (Up.refl hb)
theorem anyS_str {K : PySem.W.Frag} {H : Hp} {z : Str} (h : z.length ≤ 10000) (o : PyData.strOk z = true) : AnyS K H (.str z) := .inl ⟨z, rfl, h, o⟩
theorem anyS_non {K : PySem.W.Frag} {H : Hp} : AnyS K H .non := .inr ⟨(fun _ z => by cases z), _, kit_ty (by decide +kernel), fun _ _ => .base .non⟩
theorem anyS_bl {K : PySem.W.Frag} {H : Hp} (x : Bool) : AnyS K H (.bl x) := .inr ⟨(fun _ z => by cases z), _, kit_ty (by decide +kernel), fun _ _ => .base (.bl x)⟩
theorem anyS_int {K : PySem.W.Frag} {H : Hp} (i : Int) : AnyS K H (.int i) := .inr ⟨(fun _ z => by cases z), _, kit_ty (by decide +kernel), fun _ _ => .base (.int i)⟩
theorem anyS_lst {K : PySem.W.Frag} {H : Hp} {a : Addr} {xs : List V} (e : H a = some (.lst xs)) : AnyS K H (.ref a) := .inr ⟨(fun _ z => by cases z), _, kit_ty (by decide +kernel), fun _ s => .base (.lst (s _ _ e))⟩
theorem anyS_tup {K : PySem.W.Frag} {H : Hp} {a : Addr} {xs : List V} (e : H a = some (.tup xs)) : AnyS K H (.ref a) := .inr ⟨(fun _ z => by cases z), _, kit_ty (by decide +kernel), fun _ s => .base (.tup (s _ _ e))⟩
theorem anyU_str {K : PySem.W.Frag} {b : Addr} {H : Hp} {z : Str} (h : z.length ≤ 10000) (o : PyData.strOk z = true) : AnyU K b H (.str z) := fun _ _ => anyS_str h o
theorem anyU_lst {K : PySem.W.Frag} {b : Addr} {H : Hp} {a : Addr} {xs : List V} (e : H a = some (.lst xs)) (n : a ≠ b) : AnyU K b H (.ref a) := fun _ u => anyS_lst (u.1 _ _ e n)
theorem anyU_tup {K : PySem.W.Frag} {b : Addr} {H : Hp} {a : Addr} {xs : List V} (hb : Box H b) (e : H a = some (.tup xs)) : AnyU K b H (.ref a) := fun _ u => anyS_tup (u.1 _ _ e (hb.neT e))
/-- whether a value is a word -/
def wordB : V → Bool
  | .str z => isW z
  | _ => false
theorem AnyS.no {K : PySem.W.Frag} {H : Hp} {x : V} (h : ∀ z, x ≠ .str z) : wordB x = false := by
  unfold wordB
  split
  · exact absurd rfl (h _)
  · rfl
theorem spIsWord.any {K : PySem.W.Frag} {H : Hp} {Q : VK} {E : XK} {x : V} (h : AnyS K H x) (k : ∀ H', Same H H' → Q (.bl (wordB x)) H') : spIsWord K [x] H Q E := by
  rcases h with ⟨z, rfl, hz, _⟩ | ⟨h1, t, h2, h3⟩
  · exact ⟨_, rfl, .inl ⟨z, rfl, by omega, k⟩⟩
  · refine ⟨_, rfl, .inr ⟨t, h3 H (Same.refl H), h2, ?_⟩⟩
    have := k H (Same.refl H)
    rw [AnyS.no (K := K) (H := H) h1] at this
    exact this
/-- the bits of a text -/
def unW (z : Str) : List Bool := z.cps.toList.map fun c => decide (c = 49)
theorem isW_un {z : Str} (h : isW z = true) : z = W (unW z) := by
  refine TL.ext_tl ?_
  have e : TL.tl (W (unW z)) = (unW z).map bt := W_tl _
  rw [e]
  unfold unW
  rw [List.map_map]
  unfold isW at h
  rw [List.all_eq_true] at h
  have e2 : TL.tl z = z.cps.toList := rfl
  rw [e2]
  have key : ∀ l : List Nat, (∀ c ∈ l, decide (c ∈ ("01" : Str).cps.toList) = true) → l = l.map (bt ∘ fun c => decide (c = 49)) := fun l => by
    induction l with
    | nil => intro _; rfl
    | cons c r ih =>
      intro hl
      rw [List.map_cons, ← ih fun u hu => hl u (List.mem_cons_of_mem _ hu)]
      have hc := of_decide_eq_true (hl c List.mem_cons_self)
      have e0 : ("01" : Str).cps.toList = [48, 49] := by decide +kernel
      rw [e0] at hc
      congr 1
      rcases List.mem_cons.mp hc with rfl | hc
      · rfl
      · rw [List.mem_singleton.mp hc]; rfl
  exact key _ h
theorem wordB_W {l : List Bool} : wordB (.str (W l)) = true := isW_W l
theorem wordB_some {x : V} (h : wordB x = true) : ∃ l, x = .str (W l) := by
  unfold wordB at h
  split at h
  · rename_i z
    exact ⟨unW z, by rw [← isW_un h]⟩
  · cases h
end U

namespace U
/-! hits: the mathematics -/
inductive Kd | turn | lose | dbl
deriving DecidableEq
def kS : Kd → PySem.Str
  | .turn => "turn"
  | .lose => "lose"
  | .dbl => "double"
def arr (b : Bool) : Kd → List Bool
  | .turn => [!b]
  | .lose => []
  | .dbl => [b, b]
/-- what stands from last on, with the hits hs -/
def hitM (l : List Bool) : Nat → List (Nat × Kd) → List Bool
  | last, [] => l.drop last
  | last, (p, k) :: r => (l.drop last).take (p - last) ++ arr (l.getD p false) k ++ hitM l (p + 1) r
def Asc : Nat → Nat → List (Nat × Kd) → Prop
  | _, _, [] => True
  | lo, n, (p, _) :: r => lo ≤ p ∧ p < n ∧ Asc (p + 1) n r
def look (hs : List (Nat × Kd)) (i : Nat) : Option Kd := (hs.find? fun h => decide (h.1 = i)).map (·.2)
def sgn (o : Option Kd) (b : Bool) : List Bool := match o with | none => [b] | some k => arr b k
def go (f : Nat → Option Kd) : Nat → List Bool → List Bool
  | _, [] => []
  | i, b :: r => sgn (f i) b ++ go f (i + 1) r
theorem go_app (f : Nat → Option Kd) : ∀ (i : Nat) (a b : List Bool), go f i (a ++ b) = go f i a ++ go f (i + a.length) b
  | _, [], b => by simp [go]
  | i, x :: a, b => by
    show sgn (f i) x ++ go f (i + 1) (a ++ b) = (sgn (f i) x ++ go f (i + 1) a) ++ go f (i + (x :: a).length) b
    rw [go_app f (i + 1) a b, List.append_assoc, List.length_cons, show i + 1 + a.length = i + (a.length + 1) by omega]
theorem go_congr {f g : Nat → Option Kd} : ∀ (i : Nat) (a : List Bool), (∀ j, i ≤ j → j < i + a.length → f j = g j) → go f i a = go g i a
  | _, [], _ => rfl
  | i, x :: a, h => by
    show sgn (f i) x ++ go f (i + 1) a = sgn (g i) x ++ go g (i + 1) a
    rw [h i (Nat.le_refl _) (by simp), go_congr (i + 1) a fun j h1 h2 => h j (by omega) (by simp only [List.length_cons]; omega)]
theorem go_none : ∀ (i : Nat) (a : List Bool), go (fun _ => none) i a = a
  | _, [] => rfl
  | i, x :: a => by show [x] ++ go _ (i + 1) a = x :: a; rw [go_none (i + 1) a]; rfl
theorem look_lt : ∀ {hs : List (Nat × Kd)} {lo n i : Nat}, Asc lo n hs → i < lo → look hs i = none
  | [], _, _, _, _, _ => rfl
  | (p, k) :: r, lo, n, i, h, hi => by
    obtain ⟨h1, h2, h3⟩ := h
    have ih := look_lt h3 (i := i) (by omega)
    unfold look at ih ⊢
    rw [List.find?_cons_of_neg (by simp; omega)]
    exact ih
theorem look_cons {p : Nat} {k : Kd} {r : List (Nat × Kd)} {i : Nat} (h : i ≠ p) : look ((p, k) :: r) i = look r i := by
  unfold look
  rw [List.find?_cons_of_neg (by simp; omega)]
theorem look_head {p : Nat} {k : Kd} {r : List (Nat × Kd)} : look ((p, k) :: r) p = some k := by
  unfold look
  rw [List.find?_cons_of_pos (by simp)]
  rfl
theorem hitM_go (l : List Bool) : ∀ (hs : List (Nat × Kd)) (last : Nat), Asc last l.length hs → hitM l last hs = go (look hs) last (l.drop last)
  | [], last, _ => by
    show l.drop last = go (fun _ => none) last (l.drop last)
    rw [go_none]
  | (p, k) :: r, last, h => by
    obtain ⟨h1, h2, h3⟩ := h
    have ih := hitM_go l r (p + 1) h3
    show (l.drop last).take (p - last) ++ arr (l.getD p false) k ++ hitM l (p + 1) r = _
    have e : l.drop last = (l.drop last).take (p - last) ++ (l.getD p false :: l.drop (p + 1)) := by
      have e1 : (l.drop last).drop (p - last) = l.getD p false :: l.drop (p + 1) := by
        rw [List.drop_drop, show last + (p - last) = p by omega, List.drop_eq_getElem_cons h2]
        simp [h2]
      rw [← e1, List.take_append_drop]
    have el : ((l.drop last).take (p - last)).length = p - last := by rw [List.length_take, List.length_drop]; omega
    generalize hA : (l.drop last).take (p - last) = A at e el ⊢
    rw [e, go_app, el, show last + (p - last) = p by omega]
    show _ = go _ last A ++ (sgn (look ((p, k) :: r) p) (l.getD p false) ++ go (look ((p, k) :: r)) (p + 1) (l.drop (p + 1)))
    rw [look_head]
    have z1 : go (look ((p, k) :: r)) last A = A := by
      rw [go_congr (g := fun _ => none) last A fun j _ h5 => ?_, go_none]
      rw [look_cons (by omega)]
      exact look_lt h3 (by omega)
    have z2 : go (look ((p, k) :: r)) (p + 1) (l.drop (p + 1)) = go (look r) (p + 1) (l.drop (p + 1)) :=
      go_congr _ _ fun j h4 _ => look_cons (by omega)
    rw [z1, z2, ← ih, List.append_assoc]
    rfl
theorem hitM_all (l : List Bool) {hs : List (Nat × Kd)} (h : Asc 0 l.length hs) : hitM l 0 hs = go (look hs) 0 l := by
  rw [hitM_go l hs 0 h, List.drop_zero]
/-- all bits in one way -/
def every (k : Kd) (n : Nat) : List (Nat × Kd) := (List.range n).map fun i => (i, k)
theorem asc_from (k : Kd) : ∀ (m lo n : Nat), lo + m ≤ n → Asc lo n ((List.range' lo m).map fun i => (i, k))
  | 0, _, _, _ => trivial
  | m + 1, lo, n, h => by
    rw [List.range'_succ, List.map_cons]
    exact ⟨Nat.le_refl _, by omega, asc_from k m (lo + 1) n (by omega)⟩
theorem asc_every (k : Kd) (n : Nat) : Asc 0 n (every k n) := by
  unfold every
  rw [List.range_eq_range']
  exact asc_from k n 0 n (by omega)
theorem look_from (k : Kd) : ∀ (m lo i : Nat), lo ≤ i → i < lo + m → look ((List.range' lo m).map fun i => (i, k)) i = some k
  | 0, _, _, _, _ => by omega
  | m + 1, lo, i, h1, h2 => by
    rw [List.range'_succ, List.map_cons]
    by_cases e : i = lo
    · rw [e]; exact look_head
    · rw [look_cons e]
      exact look_from k m (lo + 1) i (by omega) (by omega)
theorem look_every (k : Kd) {n i : Nat} (h : i < n) : look (every k n) i = some k := by
  unfold every
  rw [List.range_eq_range']
  exact look_from k n 0 i (by omega) (by omega)
theorem go_const (k : Kd) : ∀ (i : Nat) (a : List Bool), go (fun _ => some k) i a = (a.map fun b => arr b k).flatten
  | _, [] => rfl
  | i, b :: r => by
    show arr b k ++ go _ (i + 1) r = _
    rw [go_const k (i + 1) r]
    rfl
theorem hit_every (k : Kd) (l : List Bool) : hitM l 0 (every k l.length) = (l.map fun b => arr b k).flatten := by
  rw [hitM_all l (asc_every k _), go_congr (g := fun _ => some k) 0 l (fun j _ h => look_every k (by omega)), go_const]
theorem hit_turn (l : List Bool) : hitM l 0 (every .turn l.length) = l.map not := by
  rw [hit_every]
  induction l with
  | nil => rfl
  | cons b r ih =>
    show arr b .turn ++ (r.map fun b => arr b .turn).flatten = _
    rw [ih]
    rfl
theorem hit_lose (l : List Bool) : hitM l 0 (every .lose l.length) = [] := by
  rw [hit_every]
  induction l with
  | nil => rfl
  | cons b r ih => simp [arr]
theorem hit_turn2 (l : List Bool) : hitM (l.map not) 0 (every .turn l.length) = l := by
  have e : l.length = (l.map not).length := by simp
  rw [e, hit_turn, List.map_map]
  have z : (not ∘ not) = id := by funext b; cases b <;> rfl
  rw [z, List.map_id]
end U

set_option maxRecDepth 100000
set_option maxHeartbeats 4000000
namespace U
open PySem PySem.Spec PyProof.Rows
open L2 hiding Fun CX0 E0 pass0 Fun.binds
open C8 Lx SX
local macro_rules | `(tactic| walk_at "g") => `(tactic| repeat (first | (refine ⟨_, rfl, ?_⟩) | (refine ⟨_, _, rfl, rfl, ?_⟩) | (refine ⟨rfl, ?_⟩) | (refine .inl ⟨_, rfl, ?_⟩)))
/-- a tuple of a number and a kind stands at p -/
def HitAt (H : Hp) (p : Addr) (h : Nat × Kd) : Prop := H p = some (.tup [.int (h.1 : Nat), .str (kS h.2)])
theorem HitAt.same {H H' : Hp} {p : Addr} {h : Nat × Kd} (x : HitAt H p h) (e : Same H H') : HitAt H' p h := e _ _ x
theorem hits_same {H H' : Hp} {ps : List Addr} {hs : List (Nat × Kd)} (x : Paired (HitAt H) ps hs) (e : Same H H') : Paired (HitAt H') ps hs := L2.Paired.mapP x fun _ _ h => h.same e
theorem paired_get {α β : Type} {F : α → β → Prop} : ∀ {l : List α} {m : List β} {i : Nat} {a : α}, Paired F l m → l[i]? = some a → ∃ b, m[i]? = some b ∧ F a b
  | _, _, 0, a, .cons h _, e => by
    cases e
    exact ⟨_, rfl, h⟩
  | _, _, i + 1, a, .cons _ t, e => paired_get (i := i) t e
theorem paired_len {α β : Type} {F : α → β → Prop} : ∀ {l : List α} {m : List β}, Paired F l m → l.length = m.length
  | _, _, .nil => rfl
  | _, _, .cons _ t => by rw [List.length_cons, List.length_cons, paired_len t]
def spTrue1 (C : V → Hp → Prop) : Sp := fun vs H Q _ => ∃ x, vs = [x] ∧ C x H ∧ ∀ H', Same H H' → Q (.bl true) H'
def spWord : Sp := fun vs H Q _ => ∃ (b : Addr) (few many : Nat), vs = [.ref b, .int few, .int many] ∧ Box H b ∧ few ≤ many ∧ many < 1000 ∧
  ∀ (l : List Bool) H', l.length ≤ many → Up b H H' → Q (.str (W l)) H'
def spOther : Sp := fun vs H Q _ => ∃ b : Bool, vs = [.str (W [b])] ∧ Q (.str (W [!b])) H
def spArriving : Sp := fun vs H Q _ => ∃ (b : Bool) (k : Kd), vs = [.str (W [b]), .str (kS k)] ∧ Q (.str (W (arr b k))) H
def spIsHit : Sp := fun vs H Q _ => ∃ (p : Addr) (h : Nat × Kd) (lo n : Nat), vs = [.ref p, .int lo, .int n] ∧ HitAt H p h ∧ lo ≤ h.1 ∧ h.1 < n ∧ ∀ H', Same H H' → Q (.bl true) H'
/-- a list or a tuple of hits -/
def Seq (K : PySem.W.Frag) (H : Hp) (a : Addr) (xs : List V) : Prop := H a = some (.lst xs) ∨ H a = some (.tup xs)
theorem Seq.same {K : PySem.W.Frag} {H H' : Hp} {a : Addr} {xs : List V} (x : Seq K H a xs) (e : Same H H') : Seq K H' a xs := x.elim (fun h => .inl (e _ _ h)) (fun h => .inr (e _ _ h))
def spHit (K : PySem.W.Frag) : Sp := fun vs H Q _ => ∃ (l : List Bool) (a : Addr) (ps : List Addr) (hs : List (Nat × Kd)), vs = [.str (W l), .ref a] ∧ Seq K H a (ps.map V.ref) ∧ Paired (HitAt H) ps hs ∧ Asc 0 l.length hs ∧ l.length ≤ 1000 ∧
  ∀ H', Same H H' → Q (.str (W (hitM l 0 hs))) H'
theorem arr_len (b : Bool) (k : Kd) : (arr b k).length ≤ 2 := by cases k <;> cases b <;> decide
theorem asc_drop : ∀ {hs : List (Nat × Kd)} {lo n i : Nat} {h : Nat × Kd} {r : List (Nat × Kd)}, Asc lo n hs → hs.drop i = h :: r → lo ≤ h.1 ∧ h.1 < n ∧ Asc (h.1 + 1) n r
  | [], _, _, i, _, _, _, e => by simp at e
  | (p, k) :: r, lo, n, 0, h, r', a, e => by
    obtain ⟨rfl, rfl⟩ := List.cons.inj e
    exact a
  | (p, k) :: r, lo, n, i + 1, h, r', a, e => by
    obtain ⟨a1, a2, a3⟩ := a
    obtain ⟨b1, b2, b3⟩ := asc_drop a3 e
    exact ⟨by omega, b2, b3⟩
section
variable {P : Program} {w : World} {K : PySem.W.Frag} {mg : Str → Option Value} {base : Heap}
theorem sc_is_integer : FnScope ["value"] ["value"] (fnScope s_is_integer) := fnScope_by (by decide +kernel)
theorem cal_is_integer {f : Addr} {fd : FuncData} (F : Def K mg "is_integer" s_is_integer f fd) (b : Binds K fd ["value"] []) (T : Tx mg) : Cal P w K mg base 1 "is_integer" (spTrue1 fun x _ => ∃ i, x = .int i) [] := by
  refine cal0 F b .nil sc_is_integer (fun vs H Q E h => ?_) (fun cdv A outer s H vs Q E hr h => ?_)
  · obtain ⟨_, rfl, _⟩ := h; rfl
  · obtain ⟨_, rfl, ⟨i, rfl⟩, k⟩ := h
    refine ⟨_, (pss_one (ps_ret (pe_and (pe_callB call_isi (by rfl) T.b_isinstance (by decide +kernel) (pa_cons (pv 0) (pa_cons (pe_bltn (v := .ty "int") (u := .type "int") (by rfl) T.b_int (by decide +kernel) rfl) pa_nil))) (pe_one (pe_not (pe_callB call_isi (by rfl) T.b_isinstance (by decide +kernel) (pa_cons (pv 0) (pa_cons (pe_bltn (v := .ty "bool") (u := .type "bool") (by rfl) T.b_bool (by decide +kernel) rfl) pa_nil)))))))), ?_⟩
    refine ⟨_, rfl, _, _, _, _, true, rfl, .ty _, .base (.int i), kit_ty (by decide +kernel), _, rfl, ?_⟩
    refine ⟨_, rfl, _, _, _, _, false, rfl, .ty _, .base (.int i), kit_ty (by decide +kernel), _, rfl, ?_⟩
    exact k H (Same.refl H)
theorem sc_is_number : FnScope ["value"] ["value"] (fnScope s_is_number) := fnScope_by (by decide +kernel)
theorem cal_is_number {f : Addr} {fd : FuncData} (F : Def K mg "is_number" s_is_number f fd) (b : Binds K fd ["value"] []) (T : Tx mg) (c_is_integer : Cal P w K mg base 1 "is_integer" (spTrue1 fun x _ => ∃ i, x = .int i) []) :
    Cal P w K mg base 2 "is_number" (spTrue1 fun x _ => ∃ i : Nat, x = .int i) [] := by
  refine cal0 F b .nil sc_is_number (fun vs H Q E h => ?_) (fun cdv A outer s H vs Q E hr h => ?_)
  · obtain ⟨_, rfl, _⟩ := h; rfl
  · obtain ⟨_, rfl, ⟨i, rfl⟩, k⟩ := h
    refine ⟨_, (pss_one (ps_ret (pe_and (pe_c c_is_integer hr (by decide) rfl (pa_cons (pv 0) pa_nil)) (pe_one (pe_cmpR op_ge (pv 0) pe_int (nomark _)))))), ?_⟩
    refine ⟨_, rfl, _, rfl, ⟨_, rfl⟩, fun H1 s1 => ⟨_, rfl, ?_⟩⟩
    exact ⟨_, rfl, _, _, rfl, rfl, q_dec (show (0 : Int) ≤ i by omega) (k H1 s1)⟩
theorem sc_other : FnScope ["bit"] ["bit"] (fnScope s_other) := fnScope_by (by decide +kernel)
theorem cal_other {f : Addr} {fd : FuncData} (F : Def K mg "other" s_other f fd) (b : Binds K fd ["bit"] []) (T : Tx mg) : Cal P w K mg base 1 "other" spOther [] := by
  refine cal0 F b .nil sc_other (fun vs H Q E h => ?_) (fun cdv A outer s H vs Q E hr h => ?_)
  · obtain ⟨_, rfl, _⟩ := h; rfl
  · obtain ⟨b, rfl, k⟩ := h
    refine ⟨_, (pss_one (ps_ret (pe_ifExp (pt_cmpR op_eq (pv 0) pe_str (nomark _)) pe_str pe_str))), ?_⟩
    refine ⟨_, rfl, rfl, _, rfl, ?_⟩
    cases b with
    | false =>
      refine iteDT (show V.str (W [false]) = V.str "0" by decide +kernel) ?_
      show Q (.str "1") H
      rw [W_1]; exact k
    | true =>
      refine iteDF (show ¬ (V.str (W [true]) = V.str "0") by decide +kernel) ?_
      show Q (.str "0") H
      rw [W_0]; exact k
theorem sc_arriving : FnScope ["bit", "kind"] ["bit", "kind"] (fnScope s_arriving) := fnScope_by (by decide +kernel)
theorem cal_arriving {f : Addr} {fd : FuncData} (F : Def K mg "arriving" s_arriving f fd) (b : Binds K fd ["bit", "kind"] []) (T : Tx mg) (c_other : Cal P w K mg base 1 "other" spOther []) : Cal P w K mg base 2 "arriving" spArriving [] := by
  refine cal0 F b .nil sc_arriving (fun vs H Q E h => ?_) (fun cdv A outer s H vs Q E hr h => ?_)
  · obtain ⟨_, _, rfl, _⟩ := h; rfl
  · obtain ⟨b, kd, rfl, k⟩ := h
    refine ⟨_, (pss_cons (ps_if (pt_cmpR op_eq (pv 1) pe_str (nomark _)) (pss_one (ps_ret (pe_joined (.cons (pe_fmt (pv 0)) (.cons (pe_fmt (pv 0)) .nil))))) pss_nil)
    (pss_one (ps_ret (pe_ifExp (pt_cmpR op_eq (pv 1) pe_str (nomark _)) pe_str (pe_c c_other hr (by decide) rfl (pa_cons (pv 0) pa_nil)))))), ?_⟩
    have hb : (W [b]).length ≤ sizeLine := by rw [W_len]; exact sl_len (by show 1 ≤ 100000; decide)
    have hb2 : (Str.empty ++ W [b]).length ≤ sizeLine := by
      rw [show Str.empty = W [] from rfl, W_cat, W_len]; exact sl_len (by show 1 ≤ 100000; decide)
    have hb3 : (Str.empty ++ W [b] ++ W [b]).length ≤ sizeLine := by
      rw [show Str.empty = W [] from rfl, W_cat, W_cat, W_len]; exact sl_len (by show 2 ≤ 100000; decide)
    refine ⟨_, rfl, rfl, _, rfl, ?_⟩
    cases kd with
    | dbl =>
      refine iteDT (show V.str (kS .dbl) = V.str "double" by decide +kernel) ?_
      refine ⟨_, rfl, .inl ⟨_, rfl, hb, _, rfl, hb2, _, rfl, .inl ⟨_, rfl, hb, _, rfl, hb3, ?_⟩⟩⟩
      show Q (.str (Str.empty ++ W [b] ++ W [b])) H
      rw [show Str.empty = W [] from rfl, W_cat, W_cat]
      exact k
    | lose =>
      refine iteDF (show ¬ (V.str (kS .lose) = V.str "double") by decide +kernel) ?_
      refine ⟨_, rfl, rfl, _, rfl, ?_⟩
      refine iteDT (show V.str (kS .lose) = V.str "lose" by decide +kernel) ?_
      show Q (.str "") H
      rw [W_nil]; exact k
    | turn =>
      refine iteDF (show ¬ (V.str (kS .turn) = V.str "double") by decide +kernel) ?_
      refine ⟨_, rfl, rfl, _, rfl, ?_⟩
      refine iteDF (show ¬ (V.str (kS .turn) = V.str "lose") by decide +kernel) ?_
      exact ⟨_, rfl, b, rfl, k⟩
theorem sc_is_hit : FnScope ["value", "least", "many"] ["value", "least", "many"] (fnScope s_is_hit) := fnScope_by (by decide +kernel)
theorem cal_is_hit {f aK : Addr} {fd : FuncData} (F : Def K mg "is_hit" s_is_hit f fd) (b : Binds K fd ["value", "least", "many"] []) (T : Tx mg) (g_KINDS : mg "KINDS" = some (.ref aK)) (hK : ∀ H, SqT K H aK [.str "double", .str "lose", .str "turn"])
    (c_is_number : Cal P w K mg base 2 "is_number" (spTrue1 fun x _ => ∃ i : Nat, x = .int i) []) : Cal P w K mg base 3 "is_hit" spIsHit [] := by
  refine cal0 F b .nil sc_is_hit (fun vs H Q E h => ?_) (fun cdv A outer s H vs Q E hr h => ?_)
  · obtain ⟨_, _, _, _, rfl, _⟩ := h; rfl
  · obtain ⟨p, h, lo, n, rfl, hp, h1, h2, k1⟩ := h
    refine ⟨_, (pss_cons (ps_if (PW.pt (pw_or (pt_not (pt_val (pe_callB call_isi (by rfl) T.b_isinstance (by decide +kernel) (pa_cons (pv 0) (pa_cons (pe_bltn (v := .ty "tuple") (u := .type "tuple") (by rfl) T.b_tuple (by decide +kernel) rfl) pa_nil))))) (pw_or (pt_cmpR op_ne (pe_callB call_len_seq (by rfl) T.b_len (by decide +kernel) (pa_cons (pv 0) pa_nil)) pe_int (nomark _)) (pw_or (pt_not (pt_val (pe_c c_is_number hr (by decide) rfl (pa_cons (pe_ix ix_tup (pv 0) pe_int (fun _ _ => rfl)) pa_nil)))) (pw_or1 (pt_not (pt_val (pe_callB call_isi (by rfl) T.b_isinstance (by decide +kernel) (pa_cons (pe_ix ix_tup (pv 0) pe_int (fun _ _ => rfl)) (pa_cons (pe_bltn (v := .ty "str") (u := .type "str") (by rfl) T.b_str (by decide +kernel) rfl) pa_nil)))))))))) (pss_one (ps_ret pe_bl)) pss_nil)
    (pss_one (ps_ret (pe_and (pe_chain op_le op_lt (pv 1) (pe_ix ix_tup (pv 0) pe_int (fun _ _ => rfl)) (pv 2)) (pe_one (pe_cmpR op_in_seq (pe_ix ix_tup (pv 0) pe_int (fun _ _ => rfl)) (pe_glob (v := .ref aK) (by rfl) g_KINDS rfl) (by with_unfolding_all rfl))))))), ?_⟩
    refine ⟨_, rfl, _, _, _, _, true, rfl, .ty _, .base (.tup hp), kit_ty (by decide +kernel), _, rfl, iteF ?_⟩
    refine ⟨_, rfl, p, _, rfl, .inr (SqT.of hp), rfl, _, rfl, iteF ?_⟩
    refine ⟨_, rfl, p, _, _, _, rfl, rfl, SqT.of hp, atI_nat (j := 0) rfl, _, rfl, ⟨_, rfl⟩, fun H1 s1 => ⟨_, rfl, iteF ?_⟩⟩
    have hp1 : HitAt H1 p h := hp.same s1
    refine ⟨_, rfl, p, _, _, _, rfl, rfl, SqT.of hp1, atI_nat (j := 1) rfl, _, _, _, _, true, rfl, .ty _, .base (.str _), kit_ty (by decide +kernel), _, rfl, iteF ?_⟩
    refine ⟨_, rfl, _, rfl, p, _, _, _, rfl, rfl, SqT.of hp1, atI_nat (j := 0) rfl, _, _, rfl, rfl, _, rfl, ?_⟩
    refine iteDT (show (lo : Int) ≤ (h.1 : Nat) by omega) ⟨_, rfl, _, _, rfl, rfl, _, rfl, ?_⟩
    refine iteDT (show ((h.1 : Nat) : Int) < n by omega) ⟨_, rfl, p, _, _, _, rfl, rfl, SqT.of hp1, atI_nat (j := 1) rfl, aK, _, rfl, .inr (hK H1), rfl, rfl, ?_⟩
    have e : inV (.str (kS h.2)) [.str "double", .str "lose", .str "turn"] = true := by
      generalize h.2 = kd
      cases kd <;> decide +kernel
    show Q (.bl (inV (.str (kS h.2)) [.str "double", .str "lose", .str "turn"])) H1
    rw [e]
    exact k1 H1 s1
end
end U

set_option maxRecDepth 100000
set_option maxHeartbeats 4000000
namespace Lx
open PySem PySem.Spec PyProof.Rows L2
theorem Sq.of_same {K : PySem.W.Frag} {H H' : Hp} {a : Addr} {xs : List V} (h : Sq K H a xs) (e : Same H H') : Sq K H' a xs := h.same e
/-- a list or a tuple, walked: what holds behind -/
theorem iSeq_var {K : PySem.W.Frag} {i : Nat} {σ : L2.St} {H : Hp} {R : It → Hp → Prop} {a : Addr} {xs : List V} (hv : σ[i]? = some (some (.ref a))) (hS : Sq K H a xs)
    (h : ∀ (J : It) (G : Hp → Prop), (∀ H', Same H H' → G H') → Walk J xs.length G (YAt xs) → R J H) : iSeq K (tVar i) σ H R := by
  rcases hS with hS | hS
  · exact .inl ⟨_, hv, a, rfl, ⟨xs, hS⟩, h _ _ (fun H' s => s.seq hS) walk_list⟩
  · exact .inr ⟨_, hv, a, rfl, ⟨xs, hS⟩, h _ _ (fun H' s => same_tup s hS) walk_tup⟩
theorem iEnumQ_var {K : PySem.W.Frag} {i : Nat} {σ : L2.St} {H : Hp} {R : It → Hp → Prop} {a : Addr} {xs : List V} (hv : σ[i]? = some (some (.ref a))) (hS : Sq K H a xs)
    (h : ∀ (J : It) (G : Hp → Prop), (∀ H', Same H H' → G H') → Walk J xs.length G (YPair (fun i => some (.int (i : Nat))) (fun i => xs[i]?)) → R J H) : iEnumQ K (tCons (tVar i) tNil) σ H R := by
  rcases hS with hS | hS
  · exact .inl ⟨_, hv, a, xs, rfl, hS, h _ _ (fun H' s => s.seq hS) walk_enum⟩
  · exact .inr ⟨_, hv, a, xs, rfl, hS, h _ _ (fun H' s => same_tup s hS) walk_enumT⟩
theorem cut_whole {xs : List V} {lo hi : Option Int} (h1 : HT.sIx xs.length 0 lo = 0) (h2 : HT.sIx xs.length xs.length hi = xs.length) : cutV xs lo hi = xs := by
  unfold cutV
  rw [h1, h2, List.drop_zero, Nat.sub_zero, List.take_length]
theorem slQ_of {K : PySem.W.Frag} {H : Hp} {Q : VK} {a : Addr} {xs : List V} {lo hi : Option Int} (hS : Sq K H a xs) (h : ∀ p H', Same H H' → Sq K H' p (cutV xs lo hi) → Q (.ref p) H') : rSlL K (.ref a) lo hi H Q ∨ rSlA K (.ref a) lo hi H Q := by
  rcases hS with hS | hS
  · exact .inl ⟨a, xs, rfl, hS, fun p hp => h p _ (fun b x e => by rw [upd_ne (ne_of_none e hp)]; exact e) (.inl (SqL.of upd_same))⟩
  · refine .inr ⟨a, xs, rfl, hS, fun c => h a H (Same.refl H) ?_, fun _ p hp => h p _ (fun b x e => by rw [upd_ne (ne_of_none e hp)]; exact e) (.inr (SqT.of upd_same))⟩
    rw [cut_whole c.1 c.2]
    exact .inr hS
theorem Sq.star {K : PySem.W.Frag} {H : Hp} {a : Addr} {xs : List V} (h : Sq K H a xs) : SqT K H a xs ∨ SqL K H a xs := h.elim .inr .inl
end Lx
namespace U
open PySem PySem.Spec PyProof.Rows
open L2 hiding Fun CX0 E0 pass0 Fun.binds
open C8 Lx SX StX
/-! texts -/
theorem W_ends (l p : List Bool) : Txt.endswith (W l) (W p) = p.isSuffixOf l := by
  unfold Txt.endswith
  rw [PySem.StrLaws.subAt_eq, W_len, W_len, W_tl, W_tl, ← List.map_drop, ← List.map_take, Bool.eq_iff_iff, List.isSuffixOf_iff_suffix, Bool.and_eq_true, decide_eq_true_eq, beq_iff_eq]
  constructor
  · rintro ⟨h1, h2⟩
    have h3 := map_bt_inj h2
    rw [List.take_of_length_le (by rw [List.length_drop]; omega)] at h3
    rw [← h3]
    exact List.drop_suffix _ _
  · intro h
    have hl := h.length_le
    refine ⟨by omega, ?_⟩
    rw [List.take_of_length_le (by rw [List.length_drop]; omega), ← List.suffix_iff_eq_drop.mp h]
theorem W_tail (l : List Bool) (n : Nat) : Txt.slice (W l) (some (if (((W l).length : Nat) : Int) - (n : Int) > 0 then (((W l).length : Nat) : Int) - (n : Int) else 0)) none = W (tl n l) := by
  rw [W_drop (by split <;> omega)]
  congr 1
  unfold tl
  rw [W_len]
  congr 1
  split <;> omega
/-! stuffs -/
def StV (H : Hp) (kb : Addr → Stf) (ps : List Addr) : Prop := ∀ t ∈ ps, H t = some (.tup [.str (W (kb t).1), .str (W [(kb t).2])])
theorem StV.same {H H' : Hp} {kb : Addr → Stf} {ps : List Addr} (h : StV H kb ps) (e : Same H H') : StV H' kb ps := fun t ht => e _ _ (h t ht)
theorem StV.nl {H H' : Hp} {kb : Addr → Stf} {ps : List Addr} (h : StV H kb ps) (e : NL H H') : StV H' kb ps := fun t ht => e.tup (h t ht)
theorem StV.perm {H : Hp} {kb : Addr → Stf} {ps qs : List Addr} (h : StV H kb ps) (p : qs.Perm ps) : StV H kb qs := fun t ht => h t (p.mem_iff.mp ht)
def ruF (f : List Bool) (t : Addr) : List (Str × V) := putF "stuffs" (.ref t) (putF "flag" (.str (W f)) [])
theorem fs_ne : ¬ (("flag" : Str) = "stuffs") := by decide +kernel
theorem ruF_flag (f : List Bool) (t : Addr) : (ruF f t).lookup ("flag" : Str) = some (.str (W f)) := by
  unfold ruF
  rw [lookup_putF, if_neg fs_ne, lookup_putF, if_pos rfl]
theorem ruF_stuffs (f : List Bool) (t : Addr) : (ruF f t).lookup ("stuffs" : Str) = some (.ref t) := by
  unfold ruF
  rw [lookup_putF, if_pos rfl]
theorem ruF_no (f : List Bool) (t : Addr) {m : Str} (h1 : ¬ m = "stuffs") (h2 : ¬ m = "flag") : (ruF f t).lookup m = none := by
  unfold ruF
  rw [lookup_putF, if_neg h1, lookup_putF, if_neg h2]
  all_goals rfl
def RuAt (C : Addr) (H : Hp) (a : Addr) (f : List Bool) (ss : List Stf) : Prop :=
  ∃ dx t ps kb, H a = some (.ins C dx (ruF f t)) ∧ H t = some (.tup (ps.map V.ref)) ∧ StV H kb ps ∧ ss = ps.map kb
theorem RuAt.same {C : Addr} {H H' : Hp} {a : Addr} {f : List Bool} {ss : List Stf} (h : RuAt C H a f ss) (e : Same H H') : RuAt C H' a f ss := by
  obtain ⟨dx, t, ps, kb, h1, h2, h3, h4⟩ := h
  exact ⟨dx, t, ps, kb, e _ _ h1, e _ _ h2, h3.same e, h4⟩
theorem RuAt.nl {C : Addr} {H H' : Hp} {a : Addr} {f : List Bool} {ss : List Stf} (h : RuAt C H a f ss) (e : NL H H') : RuAt C H' a f ss := by
  obtain ⟨dx, t, ps, kb, h1, h2, h3, h4⟩ := h
  exact ⟨dx, t, ps, kb, e.ins h1, e.tup h2, h3.nl e, h4⟩
def longM (ss : List Stf) : Nat := ss.foldr (fun s m => max s.1.length m) 0
theorem longM_le : ∀ {ss : List Stf} {s : Stf}, s ∈ ss → s.1.length ≤ longM ss
  | x :: r, s, h => by
    show s.1.length ≤ max x.1.length (longM r)
    rcases List.mem_cons.mp h with e | h
    · rw [e]; omega
    · have := longM_le h; omega
theorem longM_max : ∀ {ss : List Stf} {n : Nat}, (∀ s ∈ ss, s.1.length ≤ n) → longM ss ≤ n
  | [], _, _ => Nat.zero_le _
  | x :: r, n, h => by
    have := longM_max (ss := r) fun s hs => h s (List.mem_cons_of_mem _ hs)
    have := h x List.mem_cons_self
    show max x.1.length (longM r) ≤ n
    omega
theorem longM_perm {ss ts : List Stf} (p : ss.Perm ts) : longM ss = longM ts :=
  Nat.le_antisymm (longM_max fun s hs => longM_le (p.mem_iff.mp hs)) (longM_max fun s hs => longM_le (p.mem_iff.mpr hs))
theorem longM_is {ss : List Stf} {m : Int} (hm : m ∈ (0 : Int) :: ss.map fun s => (s.1.length : Int)) (hx : ∀ y ∈ (0 : Int) :: ss.map fun s => (s.1.length : Int), y ≤ m) : m = (longM ss : Nat) := by
  have h0 := hx 0 List.mem_cons_self
  have h1 : longM ss ≤ m.toNat := longM_max fun s hs => by
    have := hx _ (List.mem_cons_of_mem _ (List.mem_map_of_mem (f := fun s : Stf => (s.1.length : Int)) hs))
    omega
  rcases List.mem_cons.mp hm with e | h
  · omega
  · obtain ⟨s, hs, rfl⟩ := List.mem_map.mp h
    have := longM_le hs
    omega
def oB : Option Bool → V
  | none => .non
  | some b => .str (W [b])
theorem oB_non (o : Option Bool) : decide (oB o = .non) = o.isNone := by
  cases o with
  | none => exact decide_eq_true rfl
  | some b => exact decide_eq_false (fun z => by cases z)
/-- the class as the top leaves it -/
structure RuT (K : PySem.W.Frag) (C : Addr) : Prop where
  cl : Cls K C
  nF : NoAttr K C "flag"
  nS : NoAttr K C "stuffs"
def spIsSeq (K : PySem.W.Frag) : Sp := fun vs H Q _ => ∃ a xs, vs = [.ref a] ∧ Sq K H a xs ∧ ∀ H', Same H H' → Q (.bl true) H'
def spIsBit : Sp := fun vs H Q _ => ∃ b, vs = [.str (W [b])] ∧ ∀ H', Same H H' → Q (.bl true) H'
def spIsStuff : Sp := fun vs H Q _ => ∃ (t : Addr) (p : List Bool) (b : Bool), vs = [.ref t] ∧ H t = some (.tup [.str (W p), .str (W [b])]) ∧ p ≠ [] ∧ p.length ≤ 1000 ∧ ∀ H', Same H H' → Q (.bl true) H'
def spTail : Sp := fun vs H Q _ => ∃ (l : List Bool) (n : Nat), vs = [.str (W l), .int n] ∧ l.length ≤ 100000 ∧ Q (.str (W (tl n l))) H
def spLongest (C : Addr) : Sp := fun vs H Q _ => ∃ (a : Addr) (f : List Bool) (ss : List Stf), vs = [.ref a] ∧ RuAt C H a f ss ∧ ss.length ≤ 1000 ∧ (∀ s ∈ ss, s.1.length ≤ 1000) ∧ ∀ H', Same H H' → Q (.int (longM ss : Nat)) H'
def spPut (C : Addr) : Sp := fun vs H Q _ => ∃ (a : Addr) (f : List Bool) (ss : List Stf) (l : List Bool), vs = [.ref a, .str (W l)] ∧ RuAt C H a f ss ∧ ∀ H', Same H H' → Q (oB (putM ss l)) H'
section
variable {P : Program} {w : World} {K : PySem.W.Frag} {mg : Str → Option Value} {base : Heap}
theorem sc_is_sequence : FnScope ["value"] ["value"] (fnScope s_is_sequence) := fnScope_by (by decide +kernel)
theorem cal_is_sequence {f : Addr} {fd : FuncData} (F : Def K mg "is_sequence" s_is_sequence f fd) (b : Binds K fd ["value"] []) (T : Tx mg) : Cal P w K mg base 1 "is_sequence" (spIsSeq K) [] := by
  refine cal0 F b .nil sc_is_sequence (fun vs H Q E h => ?_) (fun cdv A outer s H vs Q E hr h => ?_)
  · obtain ⟨_, _, rfl, _⟩ := h; rfl
  · obtain ⟨a, xs, rfl, hS, k⟩ := h
    refine ⟨_, (pss_one (ps_ret (pe_callB call_isiT (by rfl) T.b_isinstance (by decide +kernel) (pa_cons (pv 0) (pa_cons (pe_tup (pa_cons (pe_bltn (v := .ty "list") (u := .type "list") (by rfl) T.b_list (by decide +kernel) rfl) (pa_cons (pe_bltn (v := .ty "tuple") (u := .type "tuple") (by rfl) T.b_tuple (by decide +kernel) rfl) pa_nil))) pa_nil))))), ?_⟩
    refine ⟨_, rfl, by show 2 ≤ sizeLine; decide, fun tp htp => ?_⟩
    have hS' := hS.same (same_upd (o := .tup [.ty "list", .ty "tuple"]) htp)
    rcases hS' with hS' | hS'
    · exact ⟨_, tp, _, _, _, true, rfl, upd_same, .cons (.ty _) (.cons (.ty _) .nil), ty_list hS', by first | exact kit_any (by decide +kernel) | rfl | decide +kernel, k _ (same_upd htp)⟩
    · exact ⟨_, tp, _, _, _, true, rfl, upd_same, .cons (.ty _) (.cons (.ty _) .nil), ty_tup hS', by first | exact kit_any (by decide +kernel) | rfl | decide +kernel, k _ (same_upd htp)⟩
theorem sc_is_bit : FnScope ["value"] ["value"] (fnScope s_is_bit) := fnScope_by (by decide +kernel)
theorem cal_is_bit {f : Addr} {fd : FuncData} (F : Def K mg "is_bit" s_is_bit f fd) (b : Binds K fd ["value"] []) (T : Tx mg) (c_is_word : Cal P w K mg base 1 "is_word" (spIsWord K) []) : Cal P w K mg base 2 "is_bit" spIsBit [] := by
  refine cal0 F b .nil sc_is_bit (fun vs H Q E h => ?_) (fun cdv A outer s H vs Q E hr h => ?_)
  · obtain ⟨_, rfl, _⟩ := h; rfl
  · obtain ⟨x, rfl, k⟩ := h
    refine ⟨_, (pss_one (ps_ret (pe_and (pe_c c_is_word hr (by decide) rfl (pa_cons (pv 0) pa_nil)) (pe_one (pe_cmpR op_eq (pe_callB call_len_str (by rfl) T.b_len (by decide +kernel) (pa_cons (pv 0) pa_nil)) pe_int (nomark _)))))), ?_⟩
    have l1 : (W [x]).length = 1 := W_len _
    refine ⟨_, rfl, _, rfl, .inl ⟨_, rfl, by rw [l1]; decide, fun H1 s1 => ⟨_, rfl, iteBT (isW_W _) ?_⟩⟩⟩
    refine ⟨_, rfl, _, rfl, by rw [l1]; decide, ?_⟩
    rw [l1]
    exact ⟨rfl, q_dec (Q := Q) rfl (k H1 s1)⟩
theorem sc_is_stuff : FnScope ["value"] ["value"] (fnScope s_is_stuff) := fnScope_by (by decide +kernel)
theorem cal_is_stuff {f : Addr} {fd : FuncData} (F : Def K mg "is_stuff" s_is_stuff f fd) (b : Binds K fd ["value"] []) (T : Tx mg) (c_is_word : Cal P w K mg base 1 "is_word" (spIsWord K) []) (c_is_bit : Cal P w K mg base 2 "is_bit" spIsBit []) : Cal P w K mg base 3 "is_stuff" spIsStuff [] := by
  refine cal0 F b .nil sc_is_stuff (fun vs H Q E h => ?_) (fun cdv A outer s H vs Q E hr h => ?_)
  · obtain ⟨_, _, _, rfl, _⟩ := h; rfl
  · obtain ⟨t, p, x, rfl, ht, hp, hl, k⟩ := h
    refine ⟨_, (pss_cons (ps_if (PW.pt (pw_or (pt_not (pt_val (pe_callB call_isi (by rfl) T.b_isinstance (by decide +kernel) (pa_cons (pv 0) (pa_cons (pe_bltn (v := .ty "tuple") (u := .type "tuple") (by rfl) T.b_tuple (by decide +kernel) rfl) pa_nil))))) (pw_or1 (pt_cmpR op_ne (pe_callB call_len_seq (by rfl) T.b_len (by decide +kernel) (pa_cons (pv 0) pa_nil)) pe_int (nomark _))))) (pss_one (ps_ret pe_bl)) pss_nil)
    (pss_one (ps_ret (pe_and (pe_c c_is_word hr (by decide) rfl (pa_cons (pe_ix ix_tup (pv 0) pe_int (fun _ _ => rfl)) pa_nil)) (pe_and (pe_cmpR op_gt (pe_callB call_len_str (by rfl) T.b_len (by decide +kernel) (pa_cons (pe_ix ix_tup (pv 0) pe_int (fun _ _ => rfl)) pa_nil)) pe_int (nomark _)) (pe_one (pe_c c_is_bit hr (by decide) rfl (pa_cons (pe_ix ix_tup (pv 0) pe_int (fun _ _ => rfl)) pa_nil)))))))), ?_⟩
    have lp : (W p).length ≤ sizeLine := by rw [W_len]; exact sl_len (by omega)
    refine ⟨_, rfl, _, _, _, _, true, rfl, .ty _, .base (.tup ht), kit_ty (by decide +kernel), _, rfl, ?_⟩
    refine ⟨_, rfl, t, _, rfl, .inr (SqT.of ht), rfl, _, rfl, iteNS rfl ?_⟩
    refine ⟨_, rfl, t, _, 0, _, rfl, rfl, SqT.of ht, rfl, _, rfl, .inl ⟨_, rfl, by rw [W_len]; omega, fun H1 s1 => ⟨_, rfl, iteBT (isW_W _) ?_⟩⟩⟩
    have ht1 := s1 _ _ ht
    refine ⟨_, rfl, t, _, 0, _, rfl, rfl, SqT.of ht1, rfl, _, rfl, lp, ?_⟩
    refine ⟨_, _, rfl, rfl, _, rfl, iteDT ?_ ?_⟩
    · rw [W_len]
      have : p.length ≠ 0 := fun z => hp (List.length_eq_zero_iff.mp z)
      omega
    · refine ⟨_, rfl, t, _, 1, _, rfl, rfl, SqT.of ht1, rfl, x, rfl, fun H2 s2 => k H2 (s1.trans s2)⟩
theorem sc_tail : FnScope ["line", "size"] ["line", "size"] (fnScope s_tail) := fnScope_by (by decide +kernel)
theorem cal_tail {f : Addr} {fd : FuncData} (F : Def K mg "tail" s_tail f fd) (b : Binds K fd ["line", "size"] []) (T : Tx mg) : Cal P w K mg base 1 "tail" spTail [] := by
  refine cal0 F b .nil sc_tail (fun vs H Q E h => ?_) (fun cdv A outer s H vs Q E hr h => ?_)
  · obtain ⟨_, _, rfl, _⟩ := h; rfl
  · obtain ⟨l, n, rfl, hl, k⟩ := h
    refine ⟨_, (pss_one (ps_ret (pe_slice sl_txt (pv 0) (po_some (pe_callB (call_max2 rfl) (by rfl) T.b_max (by decide +kernel) (pa_cons pe_int (pa_cons (pe_op op_sub (pe_callB call_len_str (by rfl) T.b_len (by decide +kernel) (pa_cons (pv 0) pa_nil)) (pv 1)) pa_nil)))) po_none))), ?_⟩
    have lw : (W l).length ≤ sizeLine := by rw [W_len]; exact sl_len (by omega)
    refine ⟨_, rfl, _, rfl, _, rfl, lw, _, rfl, _, _, rfl, rfl, _, _, rfl, _, rfl, _, rfl, lw, ?_⟩
    rw [W_tail]
    exact k
theorem sc_Rule_longest : FnScope ["self", "pattern", "bit"] ["self"] (fnScope s_Rule_longest) := fnScope_by (by decide +kernel)
theorem ok_longest {f C : Addr} {fd : FuncData} (F : C8.Fun K "longest" "Rule.longest" s_Rule_longest f fd) (T : Tx mg) (RT : RuT K C) : FnOk P w K mg base CX0 1 f fd ["self"] (spLongest C) := by
  refine fn0 F sc_Rule_longest (fun vs H Q E h => ?_) (fun cdv A outer s H vs Q E hr h => ?_)
  · obtain ⟨_, _, _, rfl, _⟩ := h; rfl
  · obtain ⟨a, fl, ss, rfl, ⟨dx, t, ps, kb, ha, ht, hs, rfl⟩, hn, hl, k⟩ := h
    refine ⟨_, (pss_one (ps_ret (pe_callB (cr_max rfl) (by rfl) T.b_max (by decide +kernel) (pa_cons (pe_lst (pa_cons pe_int (pa_star (pe_lc (own := [("pattern", 1), ("bit", 2)]) (g := gTup K 2 (gCons (gName 1) (gCons (gName 2) gNil))) (by rfl) sc_Rule_longest.nd (pi_tup (pe_fld (pv 0) rfl)) (blkOk_by (own := [("pattern", 1), ("bit", 2)]) (N := ["self", "pattern", "bit"]) (sc := fnScope s_Rule_longest) (by decide +kernel)) (fun _ _ _ _ _ => (pg_tup rfl (pgs_cons (pg_name (i := 1) sc_Rule_longest.nd rfl (.inl rfl)) (pgs_cons (pg_name (i := 2) sc_Rule_longest.nd rfl (.inl rfl)) pgs_nil)))) (fun _ _ _ _ _ => pts_nil) (fun _ _ _ _ _ => (pe_callB call_len_str (by rfl) T.b_len (by decide +kernel) (pa_cons (pv 1) pa_nil)))) pa_nil))) pa_nil)))), ?_⟩
    refine ⟨_, rfl, a, C, dx, _, _, rfl, ha, RT.cl, RT.nS, ruF_stuffs _ _, t, rfl, ⟨_, SqT.of ht⟩, fun D nD => ?_⟩
    refine lc_it (walk_tup (xs := ps.map V.ref)) (fun i H2 => Same H H2 ∧ H2 D = some (.lst ((((ps.take i).map kb).map fun s => (s.1.length : Int)).map V.int))) ⟨same_upd nD, upd_same⟩ (fun i H2 _ h2 => SqT.of (h2.1 _ _ ht)) ?_ ?_
    · rintro i x H2 H3 hi ⟨s2, hD⟩ ⟨rfl, hx⟩
      rw [List.getElem?_map] at hx
      obtain ⟨q, hq, rfl⟩ := Option.map_eq_some_iff.mp hx
      have hqm : q ∈ ps := List.mem_of_getElem? hq
      have lq : (kb q).1.length ≤ 1000 := hl _ (List.mem_map_of_mem hqm)
      refine ⟨q, _, rfl, SqT.of (s2 _ _ (hs q hqm)), rfl, ?_⟩
      refine ⟨_, _, rfl, _, _, rfl, rfl, rfl, ?_⟩
      refine ⟨_, rfl, _, rfl, by rw [W_len]; exact sl_len (by omega), _, hD, ?_, ?_, ?_⟩
      · rw [List.length_map] at hi
        rw [List.length_map, List.length_map, List.length_map, List.length_take]
        rw [List.length_map] at hn
        exact sl_lt (by omega)
      · intro c' o e
        rw [upd_ne (ne_of_none e nD)]
        exact s2 _ _ e
      · rw [upd_same, List.take_add_one, hq, W_len]
        simp
    · rintro H2 ⟨s2, hD⟩
      rw [List.length_map, List.take_length] at hD
      refine ⟨D, _, rfl, .inr (SqL.of hD), ?_⟩
      have hn' : ps.length ≤ 1000 := by rw [List.length_map] at hn; exact hn
      refine ⟨?_, fun p hp => ?_⟩
      · simp only [List.length_cons, List.length_append, List.length_map, List.length_nil]
        exact sl_len (by omega)
      · refine ⟨p, (0 : Int) :: (ps.map kb).map fun s => (s.1.length : Int), rfl, ?_, by rw [List.length_cons]; omega, fun m hm hx => ?_⟩
        · refine SqL.of (upd_same.trans ?_)
          simp
        · rw [longM_is hm hx]
          exact k _ (s2.trans (same_upd hp))
theorem sc_Rule_put : FnScope ["self", "line", "pattern", "bit"] ["self", "line"] (fnScope s_Rule_put) := fnScope_by (by decide +kernel)
theorem met_put {f C : Addr} {fd : FuncData} (F : C8.Fun K "put" "Rule.put" s_Rule_put f fd) (me : Meth K C "put" f) (b : Binds K fd ["self", "line"] []) (T : Tx mg) (RT : RuT K C) : Met P w K mg base 1 C "put" (spPut C) [] := by
  refine met0 RT.cl me F b sc_Rule_put (fun vs H Q E h => ?_) (fun cdv A outer s H vs Q E hr h => ?_)
  · obtain ⟨_, _, _, _, rfl, _⟩ := h; rfl
  · obtain ⟨a, fl, ss, l, rfl, ⟨dx, t, ps, kb, ha, ht, hs, rfl⟩, k⟩ := h
    refine ⟨_, (pss_cons (ps_for PassesOwn.never rfl (pi_tup (pe_fld (pv 0) rfl)) (pg_tup rfl (pgs_cons (pg_name (i := 2) sc_Rule_put.nd rfl (.inl rfl)) (pgs_cons (pg_name (i := 3) sc_Rule_put.nd rfl (.inl rfl)) pgs_nil)))
    (pss_one (ps_if (pt_val (pe_m1 PySem.F.slot_str_endswith PySem.F.type_str_endswith mt_endswith (pv 1) (pv 2))) (pss_one (ps_ret (pv 3))) pss_nil)))
    (pss_one (ps_ret pe_non))), ?_⟩
    refine ⟨_, rfl, a, C, dx, _, _, rfl, ha, RT.cl, RT.nS, ruF_stuffs _ _, t, rfl, ⟨_, SqT.of ht⟩, ?_⟩
    refine for_it (walk_tup (xs := ps.map V.ref)) (fun i σ H2 => ∃ v2 v3 : Option V, σ = [some (.ref a), some (.str (W l)), v2, v3] ∧ H2 = H ∧ ∀ j q, j < i → ps[j]? = some q → (kb q).1.isSuffixOf l = false) ⟨none, none, rfl, rfl, fun j q hj => absurd hj (Nat.not_lt_zero _)⟩ (fun i σ H2 _ h2 => by obtain ⟨_, _, _, rfl, _⟩ := h2; exact SqT.of ht) ?_ ?_
    · rintro i x σ H2 H3 hi ⟨v2, v3, rfl, rfl, hno⟩ ⟨rfl, hx⟩
      rw [List.getElem?_map] at hx
      obtain ⟨q, hq, rfl⟩ := Option.map_eq_some_iff.mp hx
      have hqm : q ∈ ps := List.mem_of_getElem? hq
      refine ⟨q, _, rfl, SqT.of (hs q hqm), rfl, ?_⟩
      refine ⟨_, _, rfl, _, _, rfl, rfl, ?_⟩
      refine ⟨_, rfl, ⟨_, rfl⟩, _, rfl, _, _, rfl, rfl, _, rfl, ?_⟩
      rw [W_ends]
      cases e : (kb q).1.isSuffixOf l with
      | true =>
        refine ⟨_, rfl, ?_⟩
        have ep : putM (ps.map kb) l = some (kb q).2 := by
          have hf : (ps.map kb).find? (fun s => s.1.isSuffixOf l) = some (kb q) := by
            rw [List.find?_eq_some_iff_getElem]
            have hi' := (List.getElem?_eq_some_iff.mp hq)
            obtain ⟨hi1, hi2⟩ := hi'
            refine ⟨e, i, by rw [List.length_map]; exact hi1, by rw [List.getElem_map, hi2], fun j hj => ?_⟩
            rw [List.getElem_map]
            have := hno j ps[j] hj (List.getElem?_eq_getElem _)
            rw [this]
            rfl
          unfold putM
          rw [hf]
          rfl
        have := k _ (Same.refl _)
        rw [ep] at this
        exact this
      | false =>
        refine ⟨_, _, rfl, rfl, fun j q' hj hq' => ?_⟩
        by_cases ej : j = i
        · subst ej
          rw [hq] at hq'
          cases hq'
          exact e
        · exact hno j q' (by omega) hq'
    · rintro σ H2 ⟨v2, v3, rfl, rfl, hno⟩
      have ep : putM (ps.map kb) l = none := by
        have hf : (ps.map kb).find? (fun s => s.1.isSuffixOf l) = none := by
          rw [List.find?_eq_none]
          intro s hs'
          obtain ⟨q, hq, rfl⟩ := List.mem_map.mp hs'
          obtain ⟨j, hj⟩ := List.getElem?_of_mem hq
          have := hno j q (by rw [List.length_map]; exact (List.getElem?_eq_some_iff.mp hj).1) hj
          rw [this]
          decide
        unfold putM
        rw [hf]
        rfl
      have := k _ (Same.refl _)
      rw [ep] at this
      exact this
end
end U

set_option maxRecDepth 100000
set_option maxHeartbeats 4000000
namespace U
open PySem PySem.Spec PyProof.Rows
open L2 hiding Fun CX0 E0 pass0 Fun.binds
open C8 Lx SX StX
theorem sf_at {ps : List Addr} {kb : Addr → Stf} {i : Nat} {q : Addr} (h : SufFree (ps.map kb)) (hq : ps[i]? = some q) : ∀ q' ∈ ps.take i ++ ps.drop (i + 1), ¬ (kb q').1 <:+ (kb q).1 := by
  obtain ⟨hi, rfl⟩ := List.getElem?_eq_some_iff.mp hq
  have e : ps = ps.take i ++ ps[i] :: ps.drop (i + 1) := by rw [← List.drop_eq_getElem_cons hi, List.take_append_drop]
  unfold SufFree at h
  rw [List.pairwise_map] at h
  generalize ps.take i = A at e ⊢
  generalize ps.drop (i + 1) = B at e ⊢
  generalize ps[i] = q at e ⊢
  rw [e, List.pairwise_append, List.pairwise_cons] at h
  obtain ⟨_, ⟨h2, _⟩, h3⟩ := h
  intro q' hq'
  rcases List.mem_append.mp hq' with m | m
  · exact (h3 q' m q List.mem_cons_self).1
  · exact (h2 q' m).2
theorem cut_to {xs : List V} {i : Nat} (h : i < xs.length) : cutV xs none (some (i : Int)) = xs.take i := by
  unfold cutV
  rw [HT.sIx_none, HT.sIx_nat, List.drop_zero, Nat.sub_zero, Nat.min_eq_left (Nat.le_of_lt h)]
theorem cut_from {xs : List V} {i : Nat} (h : i < xs.length) : cutV xs (some ((i : Int) + 1)) none = xs.drop (i + 1) := by
  unfold cutV
  rw [HT.sIx_none, show ((i : Int) + 1) = ((i + 1 : Nat) : Int) by omega, HT.sIx_nat, Nat.min_eq_left (by omega), List.take_of_length_le (by rw [List.length_drop]; omega)]
/-- stuffs that make a rule -/
structure StOk (ss : List Stf) : Prop where
  few : ss.length ≤ 1000
  pos : ∀ s ∈ ss, s.1 ≠ []
  long : longM ss ≤ 9
  free : SufFree ss
theorem StOk.l9 {ss : List Stf} (h : StOk ss) : ∀ s ∈ ss, s.1.length ≤ 9 := fun s hs => Nat.le_trans (longM_le hs) h.long
theorem StOk.perm {ss ts : List Stf} (h : StOk ss) (p : ss.Perm ts) : StOk ts := ⟨by rw [← p.length_eq]; exact h.few, fun s hs => h.pos s (p.mem_iff.mpr hs), by rw [← longM_perm p]; exact h.long, h.free.perm p⟩
def spAre (K : PySem.W.Frag) : Sp := fun vs H Q _ => ∃ (a : Addr) (ps : List Addr) (kb : Addr → Stf), vs = [.ref a] ∧ Sq K H a (ps.map V.ref) ∧ StV H kb ps ∧ StOk (ps.map kb) ∧ ∀ H', Same H H' → Q (.bl true) H'
def spPutIn (C : Addr) : Sp := fun vs H Q _ => ∃ (a : Addr) (f : List Bool) (ss : List Stf) (l x : List Bool), vs = [.ref a, .str (W l)] ∧ RuAt C H a f ss ∧ ss.length ≤ 1000 ∧ longM ss ≤ 9 ∧ l.length ≤ 50000 ∧ Ins ss l x ∧ ∀ H', Same H H' → Q (.str (W x)) H'
def spEndless (C : Addr) : Sp := fun vs H Q _ => ∃ (a : Addr) (f : List Bool) (ss : List Stf), vs = [.ref a] ∧ RuAt C H a f ss ∧ ss.length ≤ 1000 ∧ longM ss ≤ 9 ∧ OkR ss ∧ ∀ H', Same H H' → Q (.bl false) H'
def kst (ws : List (List Bool)) : List (Key × V) := ws.map fun w => (Sum.inr (W w), V.bl true)
theorem val_in {ws : List (List Bool)} {w : List Bool} (h : w ∈ ws) : valV (kst ws) (Sum.inr (W w)) = some (.bl true) := by
  unfold valV kst
  induction ws with
  | nil => cases h
  | cons x r ih =>
    rw [List.map_cons, List.find?_cons]
    by_cases e : x = w
    · rw [e, decide_eq_true rfl]; rfl
    · rw [decide_eq_false (fun z => e (W_inj (Sum.inr.inj z)))]
      rcases List.mem_cons.mp h with z | h
      · exact absurd z.symm e
      · exact ih h
theorem val_out {ws : List (List Bool)} {w : List Bool} (h : ¬ w ∈ ws) : valV (kst ws) (Sum.inr (W w)) = none := by
  unfold valV kst
  have : (ws.map fun w => ((Sum.inr (W w) : Key), V.bl true)).find? (fun kv => decide (kv.1 = Sum.inr (W w))) = none := by
    rw [List.find?_eq_none]
    intro kv hk
    obtain ⟨x, hx, rfl⟩ := List.mem_map.mp hk
    rw [decide_eq_true_eq]
    intro z
    exact h (W_inj (Sum.inr.inj z) ▸ hx)
  rw [this]
  rfl
theorem put_out {ws : List (List Bool)} {w : List Bool} (h : ¬ w ∈ ws) : putK (kst ws) (Sum.inr (W w)) (.bl true) = kst (ws ++ [w]) := by
  have e : ((kst ws).any fun kv => decide (kv.1 = Sum.inr (W w))) = false := by
    rw [List.any_eq_false]
    intro kv hk
    unfold kst at hk
    obtain ⟨x, hx, rfl⟩ := List.mem_map.mp hk
    rw [decide_eq_true_eq]
    intro z
    exact h (W_inj (Sum.inr.inj z) ▸ hx)
  unfold putK
  rw [e]
  unfold kst
  rw [List.map_append]
  rfl
section
variable {P : Program} {w : World} {K : PySem.W.Frag} {mg : Str → Option Value} {base : Heap}
theorem sc_are_stuffs : FnScope ["value", "one", "at", "stuff", "rest", "pattern", "bit"] ["value"] (fnScope s_are_stuffs) := fnScope_by (by decide +kernel)
theorem cal_are_stuffs {f : Addr} {fd : FuncData} (F : Def K mg "are_stuffs" s_are_stuffs f fd) (b : Binds K fd ["value"] []) (T : Tx mg) (c_is_sequence : Cal P w K mg base 1 "is_sequence" (spIsSeq K) []) (c_is_stuff : Cal P w K mg base 3 "is_stuff" spIsStuff []) : Cal P w K mg base 4 "are_stuffs" (spAre K) [] := by
  refine cal0 F b .nil sc_are_stuffs (fun vs H Q E h => ?_) (fun cdv A outer s H vs Q E hr h => ?_)
  · obtain ⟨_, _, _, rfl, _⟩ := h; rfl
  · obtain ⟨a, ps, kb, rfl, hS, hs, ok, k⟩ := h
    refine ⟨_, (pss_cons (ps_if (PW.pt (pw_or (pt_not (pt_val (pe_c c_is_sequence hr (by decide) rfl (pa_cons (pv 0) pa_nil)))) (pw_or1 (pt_not (pt_val (pe_callB (cr_all rfl) (by rfl) T.b_all (by decide +kernel) (pa_cons (pe_lc (own := [("one", 1)]) (g := gName 1) (by rfl) sc_are_stuffs.nd (pi_seq (pv 0)) (blkOk_by (own := [("one", 1)]) (N := ["value", "one", "at", "stuff", "rest", "pattern", "bit"]) (sc := fnScope s_are_stuffs) (by decide +kernel)) (fun _ _ _ _ _ => (pg_name (i := 1) sc_are_stuffs.nd rfl (.inl rfl))) (fun _ _ _ _ _ => pts_nil) (fun _ _ _ _ _ => (pe_c c_is_stuff hr (by decide) rfl (pa_cons (pv 1) pa_nil)))) pa_nil))))))) (pss_one (ps_ret pe_bl)) pss_nil)
    (pss_cons (ps_for PassesOwn.never rfl (pi_enumQ (by rfl) T.b_enumerate (pa_cons (pv 0) pa_nil)) (pg_tup rfl (pgs_cons (pg_name (i := 2) sc_are_stuffs.nd rfl (.inl rfl)) (pgs_cons (pg_name (i := 3) sc_are_stuffs.nd rfl (.inr rfl)) pgs_nil)))
    (pss_cons (ps_set (i := 4) sc_are_stuffs.nd rfl (.inl rfl) (pe_lst (pa_star (pe_slice (SlR.or sl_list sl_tupA) (pv 0) po_none (po_some (pv 2))) (pa_star (pe_slice (SlR.or sl_list sl_tupA) (pv 0) (po_some (pe_op op_add (pv 2) pe_int)) po_none) pa_nil))))
    (pss_one (ps_if (pt_val (pe_callB (cr_any rfl) (by rfl) T.b_any (by decide +kernel) (pa_cons (pe_lc (own := [("pattern", 5), ("bit", 6)]) (g := gTup K 2 (gCons (gName 5) (gCons (gName 6) gNil))) (by rfl) sc_are_stuffs.nd (pi_list (pv 4)) (blkOk_by (own := [("pattern", 5), ("bit", 6)]) (N := ["value", "one", "at", "stuff", "rest", "pattern", "bit"]) (sc := fnScope s_are_stuffs) (by decide +kernel)) (fun _ _ _ _ _ => (pg_tup rfl (pgs_cons (pg_name (i := 5) sc_are_stuffs.nd rfl (.inl rfl)) (pgs_cons (pg_name (i := 6) sc_are_stuffs.nd rfl (.inl rfl)) pgs_nil)))) (fun _ _ _ _ _ => pts_nil) (fun _ _ _ _ _ => (pe_m1 PySem.F.slot_str_endswith PySem.F.type_str_endswith mt_endswith (pe_ix (show IxR _ (rIxT K) from ix_tup) (pv 3) pe_int (fun _ _ => rfl)) (pv 5)))) pa_nil))) (pss_one (ps_ret pe_bl)) pss_nil))))
    (pss_one (ps_ret pe_bl)))), ?_⟩
    have hn : ps.length ≤ 1000 := by have := ok.few; rw [List.length_map] at this; exact this
    refine ⟨_, rfl, a, _, rfl, hS, fun H1 s1 => ⟨_, rfl, ?_⟩⟩
    have hS1 := hS.same s1
    refine iSeq_var rfl hS1 fun J G hG wk D nD => ?_
    refine lc_it wk (fun i H2 => Same H1 H2 ∧ H2 D = some (.lst ((List.replicate i true).map V.bl))) ⟨same_upd nD, upd_same⟩ (fun i H2 _ h2 => hG _ h2.1) ?_ ?_
    · rintro i x H2 H3 hi ⟨s2, hD⟩ ⟨rfl, hx⟩
      rw [List.getElem?_map] at hx
      obtain ⟨q, hq, rfl⟩ := Option.map_eq_some_iff.mp hx
      have hqm : q ∈ ps := List.mem_of_getElem? hq
      have mk : kb q ∈ ps.map kb := List.mem_map_of_mem hqm
      rw [List.length_map] at hi
      refine ⟨rfl, ?_⟩
      refine ⟨_, rfl, q, (kb q).1, (kb q).2, rfl, (s1.trans s2) _ _ (hs q hqm), ok.pos _ mk, Nat.le_trans (ok.l9 _ mk) (by decide), fun H4 s4 => ⟨_, s4 _ _ hD, ?_, ?_, ?_⟩⟩
      · rw [List.length_map, List.length_replicate]; exact sl_lt (by omega)
      · intro c' o e
        rw [upd_ne (ne_of_none e nD)]
        exact (s2.trans s4) _ _ e
      · rw [upd_same, List.replicate_succ', List.map_append]; rfl
    · rintro H2 ⟨s2, hD⟩
      refine ⟨D, _, rfl, SqL.of hD, _, rfl, ?_⟩
      have et : (List.replicate (ps.map V.ref).length true).all id = true := by simp
      rw [et]
      have hS2 := hS1.same s2
      have s02 := s1.trans s2
      refine iEnumQ_var rfl hS2 fun J G hG wk => ?_
      refine for_it wk (fun i σ H3 => ∃ v1 v2 v3 v4 v5 v6 : Option V, σ = [some (.ref a), v1, v2, v3, v4, v5, v6] ∧ Same H2 H3) ⟨none, none, none, none, none, none, rfl, Same.refl _⟩ (fun i σ H3 _ h3 => by obtain ⟨_, _, _, _, _, _, _, s3⟩ := h3; exact hG _ s3) ?_ ?_
      · rintro i x σ H3 H4 hi ⟨v1, v2, v3, v4, v5, v6, rfl, s3⟩ ⟨T', y1, y2, rfl, nT, rfl, h1, h2⟩
        cases h1
        replace h2 : (ps.map V.ref)[i]? = some y2 := h2
        rw [List.getElem?_map] at h2
        obtain ⟨q, hq, rfl⟩ := Option.map_eq_some_iff.mp h2
        have hqm : q ∈ ps := List.mem_of_getElem? hq
        refine ⟨T', _, rfl, SqT.of upd_same, rfl, _, _, rfl, _, _, rfl, rfl, ?_⟩
        have s4 : Same H2 (upd H3 T' (.tup [.int (i : Nat), .ref q])) := s3.trans (same_upd nT)
        generalize upd H3 T' (.tup [.int (i : Nat), .ref q]) = H4 at s4
        have hS4 := hS2.same s4
        refine ⟨_, rfl, _, rfl, _, rfl, slQ_of hS4 fun p1 H5 s5 h5 => ⟨p1, _, rfl, h5.star, ?_⟩⟩
        refine ⟨_, rfl, _, rfl, _, _, rfl, rfl, _, rfl, slQ_of (hS4.same s5) fun p2 H6 s6 h6 => ⟨p2, _, rfl, h6.star, ?_⟩⟩
        have el : cutV (ps.map V.ref) none (some ((i : Nat) : Int)) ++ (cutV (ps.map V.ref) (some (((i : Nat) : Int) + 1)) none ++ []) = (ps.take i ++ ps.drop (i + 1)).map V.ref := by
          rw [cut_to hi, cut_from hi, List.append_nil, List.map_append, List.map_take, List.map_drop]
        refine ⟨?_, fun R nR => ?_⟩
        · show (cutV (ps.map V.ref) none (some ((i : Nat) : Int)) ++ (cutV (ps.map V.ref) (some (((i : Nat) : Int) + 1)) none ++ [])).length ≤ sizeLine
          rw [el, List.length_map, List.length_append, List.length_take, List.length_drop]
          exact sl_len (by omega)
        · have hR : upd H6 R (.lst (cutV (ps.map V.ref) none (some ((i : Nat) : Int)) ++ (cutV (ps.map V.ref) (some (((i : Nat) : Int) + 1)) none ++ []))) R = some (.lst ((ps.take i ++ ps.drop (i + 1)).map V.ref)) := by rw [upd_same, el]
          have s7 : Same H2 (upd H6 R (.lst (cutV (ps.map V.ref) none (some ((i : Nat) : Int)) ++ (cutV (ps.map V.ref) (some (((i : Nat) : Int) + 1)) none ++ [])))) := ((s4.trans s5).trans s6).trans (same_upd nR)
          show gName 4 _ _ (upd H6 R (.lst (cutV (ps.map V.ref) none (some ((i : Nat) : Int)) ++ (cutV (ps.map V.ref) (some (((i : Nat) : Int) + 1)) none ++ [])))) _
          generalize upd H6 R (.lst (cutV (ps.map V.ref) none (some ((i : Nat) : Int)) ++ (cutV (ps.map V.ref) (some (((i : Nat) : Int) + 1)) none ++ []))) = H7 at hR s7 ⊢
          refine ⟨_, rfl, R, rfl, ⟨_, SqL.of hR⟩, fun D2 nD2 => ?_⟩
          have ne := sf_at ok.free hq
          have hlen : (ps.take i ++ ps.drop (i + 1)).length ≤ 1000 := by
            rw [List.length_append, List.length_take, List.length_drop]; omega
          have hsub : ∀ q' ∈ ps.take i ++ ps.drop (i + 1), q' ∈ ps := fun q' hq' => by
            rcases List.mem_append.mp hq' with m | m
            · exact List.mem_of_mem_take m
            · exact List.mem_of_mem_drop m
          generalize ps.take i ++ ps.drop (i + 1) = rs at hR ne hlen hsub
          refine lc_it (walk_list (xs := rs.map V.ref)) (fun j H8 => Same H7 H8 ∧ H8 D2 = some (.lst ((List.replicate j false).map V.bl))) ⟨same_upd nD2, upd_same⟩ (fun j H8 _ h8 => h8.1.seq (SqL.of hR)) ?_ ?_
          · rintro j x H8 H9 hj ⟨s8, hD2⟩ ⟨rfl, hx⟩
            rw [List.getElem?_map] at hx
            obtain ⟨q', hq', rfl⟩ := Option.map_eq_some_iff.mp hx
            have hm' : q' ∈ rs := List.mem_of_getElem? hq'
            rw [List.length_map] at hj
            have s28 := s02.trans (s7.trans s8)
            refine ⟨q', _, rfl, SqT.of (s28 _ _ (hs q' (hsub _ hm'))), rfl, _, _, rfl, _, _, rfl, rfl, rfl, ?_⟩
            refine ⟨_, rfl, q, _, 0, _, rfl, rfl, SqT.of (s28 _ _ (hs q hqm)), rfl, ⟨_, rfl⟩, _, rfl, _, _, rfl, rfl, _, hD2, ?_, ?_, ?_⟩
            · rw [List.length_map, List.length_replicate]; exact sl_lt (by omega)
            · intro c' o e
              rw [upd_ne (ne_of_none e nD2)]
              exact s8 _ _ e
            · have ef : Txt.endswith (W (kb q).1) (W (kb q').1) = false := by
                rw [W_ends]
                cases e : (kb q').1.isSuffixOf (kb q).1 with
                | false => rfl
                | true => exact absurd (List.isSuffixOf_iff_suffix.mp e) (ne q' hm')
              rw [upd_same, ef, List.replicate_succ', List.map_append]
              rfl
          · rintro H8 ⟨s8, hD2⟩
            refine ⟨D2, _, rfl, SqL.of hD2, _, rfl, ?_⟩
            have et : (List.replicate (rs.map V.ref).length false).any id = false := by simp
            rw [et]
            exact ⟨_, _, _, _, _, _, rfl, s7.trans s8⟩
      · rintro σ H3 ⟨v1, v2, v3, v4, v5, v6, rfl, s3⟩
        exact k H3 (s02.trans s3)
end
end U

set_option maxRecDepth 100000
set_option maxHeartbeats 4000000
namespace U
open PySem PySem.Spec PyProof.Rows
open L2 hiding Fun CX0 E0 pass0 Fun.binds
open C8 Lx SX StX
theorem p10 {n : Nat} (h : n ≤ 9) : 2 ^ (n + 1) ≤ 1024 := Nat.le_trans (Nat.pow_le_pow_right (by decide) (show n + 1 ≤ 10 by omega)) (by decide)
section
variable {P : Program} {w : World} {K : PySem.W.Frag} {mg : Str → Option Value} {base : Heap}
theorem sc_Rule_put_in : FnScope ["self", "line", "found", "known", "bit", "standing"] ["self", "line"] (fnScope s_Rule_put_in) := fnScope_by (by decide +kernel)
theorem met_put_in {f C : Addr} {fd : FuncData} (F : C8.Fun K "put_in" "Rule.put_in" s_Rule_put_in f fd) (me : Meth K C "put_in" f) (b : Binds K fd ["self", "line"] []) (T : Tx mg) (RT : RuT K C)
    (c_put : Met P w K mg base 1 C "put" (spPut C) []) (p_longest : Prp P w K mg base 1 C "longest" (spLongest C)) (c_tail : Cal P w K mg base 1 "tail" spTail []) : Met P w K mg base 3 C "put_in" (spPutIn C) [] := by
  refine met0 RT.cl me F b sc_Rule_put_in (fun vs H Q E h => ?_) (fun cdv A outer s H vs Q E hr h => ?_)
  · obtain ⟨_, _, _, _, _, rfl, _⟩ := h; rfl
  · obtain ⟨a, fl, ss, l, x, rfl, hR, hn, h9, hl, hI, k⟩ := h
    refine ⟨_, (pss_cons (ps_par (i := 2) (j := 3) (by rfl) sc_Rule_put_in.nd rfl rfl (by decide) rfl rfl (pa_cons pe_str (pa_cons pe_dnewK pa_nil)) (by rfl))
    (pss_cons (ps_set (i := 4) sc_Rule_put_in.nd rfl (.inl rfl) (pe_mt (pl := _) c_put hr (by decide) (pv 0) (pa_cons (pv 1) pa_nil)))
    (pss_cons (ps_while PassesOwn.never (pt_cmpR op_notN (pv 4) pe_non (nomark _))
    (pss_cons (ps_set (i := 5) sc_Rule_put_in.nd rfl (.inl rfl) (pe_c c_tail hr (by decide) rfl (pa_cons (pe_op op_add_str (pv 1) (pv 2)) (pa_cons (pe_pr p_longest hr (by decide) (pv 0)) pa_nil))))
    (pss_cons (ps_if (pt_cmp (pc_din (hu_of hr) (pv 5) (pv 3))) (pss_one (ps_ret pe_non)) pss_nil)
    (pss_cons (ps_dput (hu_of hr) (pv 3) (pv 5) pe_bl rfl)
    (pss_cons (ps_aug (i := 2) sc_Rule_put_in.nd rfl (.inl rfl) (pv 4) iop_add_str)
    (pss_one (ps_set (i := 4) sc_Rule_put_in.nd rfl (.inl rfl) (pe_mt (pl := _) c_put hr (by decide) (pv 0) (pa_cons (pe_op op_add_str (pv 1) (pv 2)) pa_nil)))))))))
    (pss_one (ps_ret (pv 2)))))), ?_⟩
    have hL : ∀ s ∈ ss, s.1.length ≤ longM ss := fun s hs => longM_le hs
    have hx : x.length ≤ 1024 := by have := hI.len hL; have := p10 h9; omega
    have hat : ∀ {H2 : Hp}, Same H H2 → ∃ dx t, H2 a = some (.ins C dx (ruF fl t)) := fun s2 => by
      obtain ⟨dx, t, _, _, ha, _⟩ := hR.same s2
      exact ⟨dx, t, ha⟩
    refine fun D nD => ⟨_, _, rfl, ?_⟩
    have s1 : Same H (upd H D (.dK [])) := same_upd nD
    have hD1 : upd H D (.dK []) D = some (.dK []) := upd_same
    generalize upd H D (.dK []) = H1 at s1 hD1
    obtain ⟨dx, t, ha⟩ := hat s1
    refine ⟨_, rfl, a, dx, _, rfl, ha, ruF_no _ _ (by decide +kernel) (by decide +kernel), _, rfl, a, fl, ss, l, rfl, hR.same s1, fun H2 s2 => ?_⟩
    refine ⟨fun m σ H3 => ∃ (j : Nat) (v5 : Option V), j + m = x.length ∧ σ = [some (.ref a), some (.str (W l)), some (.str (W (x.take j))), some (.ref D), some (oB (putM ss (l ++ x.take j))), v5] ∧ Same H H3 ∧ H3 D = some (.dK (kst ((List.range j).map fun i => tl (longM ss) (l ++ x.take i)))),
      ⟨x.length, 0, none, by omega, by rw [List.take_zero, List.append_nil, ← W_nil]; rfl, s1.trans s2, s2 _ _ hD1⟩, ?_⟩
    rintro m σ H3 ⟨j, v5, hj, rfl, s3, hD3⟩
    refine ⟨_, rfl, rfl, _, rfl, ?_⟩
    rw [oB_non]
    by_cases hlt : j < x.length
    · have hb : x[j]? = some x[j] := List.getElem?_eq_getElem hlt
      have hput := hI.at hb
      rw [hput]
      have lx : (x.take j).length ≤ 1024 := by rw [List.length_take]; omega
      have e1 : (W l).length = l.length := W_len l
      have e2 : (W (x.take j)).length = (x.take j).length := W_len _
      refine ⟨fun σ' H' => ∃ m', m' < m ∧ ∃ (j : Nat) (v5 : Option V), j + m' = x.length ∧ σ' = [some (.ref a), some (.str (W l)), some (.str (W (x.take j))), some (.ref D), some (oB (putM ss (l ++ x.take j))), v5] ∧ Same H H' ∧ H' D = some (.dK (kst ((List.range j).map fun i => tl (longM ss) (l ++ x.take i)))), fun _ _ h => h, ?_⟩
      obtain ⟨dx3, t3, ha3⟩ := hat s3
      refine ⟨_, rfl, _, rfl, _, _, rfl, rfl, by rw [e1, e2]; exact sl_len (by omega), _, rfl, a, dx3, _, rfl, ha3, a, fl, ss, rfl, hR.same s3, hn, fun s hs => Nat.le_trans (longM_le hs) (by omega), fun H4 s4 => ?_⟩
      refine ⟨l ++ x.take j, longM ss, by rw [← W_cat]; rfl, by rw [List.length_append]; omega, ?_⟩
      have hD4 := s4 _ _ hD3
      have nin : ¬ tl (longM ss) (l ++ x.take j) ∈ (List.range j).map fun i => tl (longM ss) (l ++ x.take i) := fun hm => by
        obtain ⟨i, hi, e⟩ := List.mem_map.mp hm
        have hi' := List.mem_range.mp hi
        have := hI.apart hL (Nat.le_of_lt (Nat.lt_trans hi' hlt)) (Nat.le_of_lt hlt) e
        omega
      refine ⟨_, rfl, _, rfl, D, _, rfl, DGet.k (k := .inr (W (tl (longM ss) (l ++ x.take j)))) hD4, _, rfl, iteBF (by rw [val_out nin]; rfl) ?_⟩
      refine ⟨_, rfl, _, rfl, D, _, rfl, DPut.k (k := .inr (W (tl (longM ss) (l ++ x.take j)))) hD4 (by unfold kst; rw [List.length_map, List.length_map, List.length_range]; exact sl_lt (by omega)), ?_⟩
      rw [put_out nin]
      have et : x.take (j + 1) = x.take j ++ [x[j]] := by rw [List.take_add_one, hb]; rfl
      have ek : ((List.range j).map fun i => tl (longM ss) (l ++ x.take i)) ++ [tl (longM ss) (l ++ x.take j)] = (List.range (j + 1)).map fun i => tl (longM ss) (l ++ x.take i) := by
        rw [List.range_succ, List.map_append]; rfl
      rw [ek]
      have s5 : Same H (upd H4 D (.dK (kst ((List.range (j + 1)).map fun i => tl (longM ss) (l ++ x.take i))))) := fun c o e => by
        rw [upd_ne (ne_of_none e nD)]
        exact (s3.trans s4) _ _ e
      have hD5 : upd H4 D (.dK (kst ((List.range (j + 1)).map fun i => tl (longM ss) (l ++ x.take i)))) D = some (.dK (kst ((List.range (j + 1)).map fun i => tl (longM ss) (l ++ x.take i)))) := upd_same
      generalize upd H4 D (.dK (kst ((List.range (j + 1)).map fun i => tl (longM ss) (l ++ x.take i)))) = H5 at s5 hD5
      have e3 : (W [x[j]]).length = 1 := W_len _
      refine ⟨_, rfl, _, rfl, _, _, rfl, rfl, by rw [e2, e3]; exact sl_len (by omega), ?_⟩
      rw [W_cat, ← et]
      have e4 : (W (x.take (j + 1))).length = (x.take (j + 1)).length := W_len _
      obtain ⟨dx5, t5, ha5⟩ := hat s5
      refine ⟨_, rfl, a, dx5, _, rfl, ha5, ruF_no _ _ (by decide +kernel) (by decide +kernel), _, rfl, _, rfl, _, _, rfl, rfl, by rw [e1, e4, et, List.length_append]; exact sl_len (by simp only [List.length_cons, List.length_nil]; omega), ?_⟩
      refine ⟨a, fl, ss, l ++ x.take (j + 1), by rw [← W_cat]; rfl, hR.same s5, fun H6 s6 => ?_⟩
      exact ⟨m - 1, by omega, j + 1, _, by omega, rfl, s5.trans s6, s6 _ _ hD5⟩
    · have hj' : j = x.length := by omega
      subst hj'
      rw [List.take_length, hI.end]
      exact ⟨_, rfl, k H3 s3⟩
end
end U

set_option maxRecDepth 100000
set_option maxHeartbeats 4000000
namespace U
open PySem PySem.Spec PyProof.Rows
open L2 hiding Fun CX0 E0 pass0 Fun.binds
open C8 Lx SX StX
/-- the standings that wait, and are known -/
structure Bfs (ss : List Stf) (H H2 : Hp) (q d : Addr) (ws : List (List Bool)) : Prop where
  same : Same H H2
  wait : H2 q = some (.lst (ws.map fun w => V.str (W w)))
  known : H2 d = some (.dK (kst ws))
  nodup : ws.Nodup
  short : ∀ w ∈ ws, w.length ≤ longM ss
  reach : ∀ w ∈ ws, ∃ l, Reach ss l ∧ tl (longM ss) l = w
theorem Bfs.on {ss : List Stf} {H H2 H3 : Hp} {q d : Addr} {ws : List (List Bool)} (b : Bfs ss H H2 q d ws) (s : Same H2 H3) : Bfs ss H H3 q d ws :=
  ⟨b.same.trans s, s _ _ b.wait, s _ _ b.known, b.nodup, b.short, b.reach⟩
theorem Bfs.few {ss : List Stf} {H H2 : Hp} {q d : Addr} {ws : List (List Bool)} (b : Bfs ss H H2 q d ws) : ws.length + 1 ≤ 2 ^ (longM ss + 1) := words_le b.nodup b.short
def key (s : Stf) : Str × Str := (W s.1, W [s.2])
def SortedS (ss : List Stf) : Prop := SrtO.Srtd (fun x y => SrT.lexT (key x) (key y)) ss
def spRuInit (K : PySem.W.Frag) (C : Addr) : Sp := fun vs H Q _ => ∃ (a dx s : Addr) (f : List Bool) (ps : List Addr) (kb : Addr → Stf), vs = [.ref a, .str (W f), .ref s] ∧ H a = some (.ins C dx []) ∧ Sq K H s (ps.map V.ref) ∧ StV H kb ps ∧ StOk (ps.map kb) ∧ OkR (ps.map kb) ∧ 2 ≤ f.length ∧ f.length ≤ 1000 ∧
  ∀ H' ss, (∀ b o, H b = some o → b ≠ a → H' b = some o) → ss.Perm (ps.map kb) → SortedS ss → RuAt C H' a f ss → Q .non H'
theorem pwS {qs : List Addr} {kb : Addr → Stf} (h : SrtO.Srtd (fun x y => SrT.lexT (key (kb x)) (key (kb y))) qs) : SortedS (qs.map kb) := List.pairwise_map.mpr h
section
variable {P : Program} {w : World} {K : PySem.W.Frag} {mg : Str → Option Value} {base : Heap}
theorem sc_Rule_is_endless : FnScope ["self", "waiting", "known", "at", "bit", "line", "more", "standing"] ["self"] (fnScope s_Rule_is_endless) := fnScope_by (by decide +kernel)
theorem met_is_endless {f C : Addr} {fd : FuncData} {tB : Tok} (F : C8.Fun K "is_endless" "Rule.is_endless" s_Rule_is_endless f fd) (me : Meth K C "is_endless" f) (b : Binds K fd ["self"] []) (T : Tx mg) (RT : RuT K C) (g_BITS : mg "BITS" = some (.str "01" tB))
    (c_put_in : Met P w K mg base 3 C "put_in" (spPutIn C) []) (p_longest : Prp P w K mg base 1 C "longest" (spLongest C)) (c_tail : Cal P w K mg base 1 "tail" spTail []) : Met P w K mg base 4 C "is_endless" (spEndless C) [] := by
  refine met0 RT.cl me F b sc_Rule_is_endless (fun vs H Q E h => ?_) (fun cdv A outer s H vs Q E hr h => ?_)
  · obtain ⟨_, _, _, rfl, _⟩ := h; rfl
  · obtain ⟨a, fl, ss, rfl, hR, hn, h9, hO, k⟩ := h
    refine ⟨_, (pss_cons (ps_par3 (i := 1) (j := 2) (l := 3) (by rfl) sc_Rule_is_endless.nd rfl rfl rfl (by decide) (by decide) (by decide) rfl rfl rfl (pa_cons (pe_lst (pa_cons pe_str pa_nil)) (pa_cons (pe_disp (pps_cons pe_str pe_bl pps_nil) (by rfl) (by rfl) (fun z => by cases z) (by decide)) (pa_cons pe_int pa_nil))) (by rfl))
    (pss_cons (ps_while PassesOwn.never (pt_cmpR op_lt (pv 3) (pe_callB call_len_seq (by rfl) T.b_len (by decide +kernel) (pa_cons (pv 1) pa_nil)) (nomark _))
    (pss_cons (ps_for PassesOwn.never rfl (pi_str (pe_glob (v := .str "01") (by rfl) g_BITS ⟨_, rfl⟩)) (pg_name (i := 4) sc_Rule_is_endless.nd rfl (.inl rfl))
    (pss_cons (ps_set (i := 5) sc_Rule_is_endless.nd rfl (.inl rfl) (pe_op op_add_str (pe_ix ix_list (pv 1) (pv 3) (fun _ _ => rfl)) (pv 4)))
    (pss_cons (ps_set (i := 6) sc_Rule_is_endless.nd rfl (.inl rfl) (pe_mt (pl := _) c_put_in hr (by decide) (pv 0) (pa_cons (pv 5) pa_nil)))
    (pss_cons (ps_if (pt_cmpR op_isN (pv 6) pe_non (nomark _)) (pss_one (ps_ret pe_bl)) pss_nil)
    (pss_cons (ps_set (i := 7) sc_Rule_is_endless.nd rfl (.inl rfl) (pe_c c_tail hr (by decide) rfl (pa_cons (pe_op op_add_str (pv 5) (pv 6)) (pa_cons (pe_pr p_longest hr (by decide) (pv 0)) pa_nil))))
    (pss_one (ps_if (pt_cmp (pc_dnotin (hu_of hr) (pv 7) (pv 2))) (pss_cons (ps_dput (hu_of hr) (pv 2) (pv 7) pe_bl rfl)
    (pss_one (ps_expr (pe_bm PySem.F.plainAttrs_list PySem.F.slot_list_append PySem.F.type_list_append mt_append (pv 1) (pa_cons (pv 7) pa_nil))))) pss_nil)))))))
    (pss_one (ps_aug (i := 3) sc_Rule_is_endless.nd rfl (.inl rfl) pe_int ip_add))))
    (pss_one (ps_ret pe_bl)))), ?_⟩
    have hL : ∀ s ∈ ss, s.1.length ≤ longM ss := fun s hs => longM_le hs
    have hpw := p10 h9
    have hat : ∀ {H2 : Hp}, Same H H2 → ∃ dx t, H2 a = some (.ins C dx (ruF fl t)) := fun s2 => by
      obtain ⟨dx, t, _, _, ha, _⟩ := hR.same s2
      exact ⟨dx, t, ha⟩
    refine ⟨by show 1 ≤ sizeLine; decide, fun q nq d nd => ⟨upd_same, [(.inr "", .bl true)], rfl, by decide, _, _, _, rfl, ?_⟩⟩
    have nqd : q ≠ d := fun z => by rw [← z, upd_same] at nd; cases nd
    have b0 : Bfs ss H (upd (upd (upd H q (.lst [.str ""])) d (.dK [])) d (.dK (mergeK [] [(.inr "", .bl true)]))) q d [[]] := by
      refine ⟨fun c o e => ?_, ?_, ?_, ?_, ?_, ?_⟩
      · have n1 := ne_of_none e nq
        have n2 : c ≠ d := fun z => by rw [z] at e n1; rw [upd_ne n1, e] at nd; cases nd
        rw [upd_ne n2, upd_ne n2, upd_ne n1]
        exact e
      · rw [upd_ne nqd, upd_ne nqd, upd_same, W_nil]; rfl
      · rw [upd_same, W_nil]; rfl
      · simp
      · intro w hw; rw [List.mem_singleton.mp hw]; exact Nat.zero_le _
      · intro w hw; rw [List.mem_singleton.mp hw]; exact ⟨[], .nil, by unfold tl; rw [List.drop_nil]⟩
    have nq0 : H q = none := nq
    have nd0 : H d = none := by
      cases e : H d with
      | none => rfl
      | some o => rw [upd_ne (Ne.symm nqd), e] at nd; cases nd
    generalize upd (upd (upd H q (.lst [.str ""])) d (.dK [])) d (.dK (mergeK [] [(.inr "", .bl true)])) = H1 at b0
    refine ⟨fun m σ H2 => ∃ (n : Nat) (ws : List (List Bool)) (v4 v5 v6 v7 : Option V), σ = [some (.ref a), some (.ref q), some (.ref d), some (.int n), v4, v5, v6, v7] ∧ Bfs ss H H2 q d ws ∧ n ≤ ws.length ∧ m + n = 2 ^ (longM ss + 1),
      ⟨2 ^ (longM ss + 1), 0, [[]], none, none, none, none, rfl, b0, Nat.zero_le _, by omega⟩, ?_⟩
    rintro m σ H2 ⟨n, ws, v4, v5, v6, v7, rfl, B2, hn2, hm⟩
    have few2 := B2.few
    refine ⟨_, rfl, _, rfl, q, _, rfl, .inl (SqL.of B2.wait), _, _, rfl, rfl, _, rfl, ?_⟩
    rw [List.length_map]
    by_cases hlt : n < ws.length
    · refine iteDT (by omega) ?_
      refine ⟨fun σ' H' => ∃ m', m' < m ∧ ∃ (n : Nat) (ws : List (List Bool)) (v4 v5 v6 v7 : Option V), σ' = [some (.ref a), some (.ref q), some (.ref d), some (.int n), v4, v5, v6, v7] ∧ Bfs ss H H' q d ws ∧ n ≤ ws.length ∧ m' + n = 2 ^ (longM ss + 1), fun _ _ h => h, ?_⟩
      refine ⟨_, rfl, for_it walk_str (fun i σ H3 => ∃ (ws : List (List Bool)) (v4 v5 v6 v7 : Option V), σ = [some (.ref a), some (.ref q), some (.ref d), some (.int n), v4, v5, v6, v7] ∧ Bfs ss H H3 q d ws ∧ n < ws.length) ⟨ws, _, _, _, _, rfl, B2, hlt⟩ (fun _ _ _ _ _ => trivial) ?_ ?_⟩
      · rintro i x σ H3 H3' hi ⟨ws, v4, v5, v6, v7, rfl, B3, hlt3⟩ ⟨rfl, c, hc, rfl⟩
        have e01 : ("01" : Str) = W [false, true] := by decide +kernel
        rw [e01] at hc
        obtain ⟨bb, _, rfl⟩ := W_get hc
        have hw : (ws.map fun w => V.str (W w))[n]? = some (.str (W ws[n])) := by rw [List.getElem?_map, List.getElem?_eq_getElem hlt3]; rfl
        have hmem : ws[n] ∈ ws := List.getElem_mem hlt3
        generalize ws[n] = w0 at hw hmem
        have hs0 := B3.short _ hmem
        have few3 := B3.few
        obtain ⟨l0, hr0, rfl⟩ := B3.reach _ hmem
        obtain ⟨y, hy⟩ := hO l0 hr0 bb
        have ht0 : tl (longM ss) l0 = tl (longM ss) (tl (longM ss) l0) := (tl_tl (Nat.le_refl _) _).symm
        have hy' := hy.tl hL (tl_snoc (b := bb) ht0)
        have hyl := hy.len hL
        have hnx : tl (longM ss) (l0 ++ [bb] ++ y) = tl (longM ss) (tl (longM ss) l0 ++ [bb] ++ y) := tl_app (tl_snoc (b := bb) ht0) y
        have hrn : Reach ss (l0 ++ [bb] ++ y) := .next hr0 hy
        generalize tl (longM ss) l0 = w0 at *
        have ew : W w0 ++ (⟨#[bt bb]⟩ : Str) = W (w0 ++ [bb]) := W_cat w0 [bb]
        have el : (W w0).length + (⟨#[bt bb]⟩ : Str).length ≤ sizeLine := by
          have e1 : (W w0).length = w0.length := W_len _
          have e2 : (⟨#[bt bb]⟩ : Str).length = 1 := W_len [bb]
          rw [e1, e2]; exact sl_len (by omega)
        refine ⟨_, rfl, _, rfl, q, _, _, _, rfl, rfl, SqL.of B3.wait, atI_nat hw, _, rfl, _, _, rfl, rfl, el, ?_⟩
        rw [ew]
        obtain ⟨dx3, t3, ha3⟩ := hat B3.same
        have hl1 : (w0 ++ [bb]).length ≤ 10 := by rw [List.length_append, List.length_cons, List.length_nil]; omega
        refine ⟨_, rfl, a, dx3, _, rfl, ha3, ruF_no _ _ (by decide +kernel) (by decide +kernel), _, rfl, a, fl, ss, w0 ++ [bb], y, rfl, hR.same B3.same, hn, h9, by omega, hy', fun H4 s4 => ?_⟩
        have B4 := B3.on s4
        refine ⟨_, rfl, rfl, _, rfl, iteDF (fun z => by cases z) ?_⟩
        obtain ⟨dx4, t4, ha4⟩ := hat B4.same
        have e3 : (W (w0 ++ [bb])).length = (w0 ++ [bb]).length := W_len _
        have e4 : (W y).length = y.length := W_len _
        refine ⟨_, rfl, _, rfl, _, _, rfl, rfl, by rw [e3, e4]; exact sl_len (by omega), _, rfl, a, dx4, _, rfl, ha4, a, fl, ss, rfl, hR.same B4.same, hn, fun s hs => Nat.le_trans (longM_le hs) (by omega), fun H5 s5 => ?_⟩
        have B5 := B4.on s5
        refine ⟨w0 ++ [bb] ++ y, longM ss, by rw [← W_cat (w0 ++ [bb]) y]; rfl, by rw [List.length_append]; omega, ?_⟩
        refine ⟨_, rfl, _, rfl, d, _, rfl, DGet.k (k := .inr (W (tl (longM ss) (w0 ++ [bb] ++ y)))) B5.known, _, rfl, ?_⟩
        by_cases hin : tl (longM ss) (w0 ++ [bb] ++ y) ∈ ws
        · refine iteBF (by rw [val_in hin]; rfl) ?_
          exact ⟨ws, _, _, _, _, rfl, B5, hlt3⟩
        · refine iteBT (by rw [val_out hin]; rfl) ?_
          refine ⟨_, rfl, _, rfl, d, _, rfl, DPut.k (k := .inr (W (tl (longM ss) (w0 ++ [bb] ++ y)))) B5.known (by unfold kst; rw [List.length_map]; exact sl_lt (by omega)), ?_⟩
          rw [put_out hin]
          have hW6 : upd H5 d (.dK (kst (ws ++ [tl (longM ss) (w0 ++ [bb] ++ y)]))) q = some (.lst (ws.map fun w => V.str (W w))) := by rw [upd_ne nqd]; exact B5.wait
          refine ⟨_, rfl, .inl ⟨rfl, _, SqL.of hW6⟩, _, rfl, q, _, _, rfl, rfl, hW6, by rw [List.length_map]; exact sl_lt (by omega), ?_⟩
          refine ⟨ws ++ [tl (longM ss) (w0 ++ [bb] ++ y)], _, _, _, _, rfl, ⟨fun c o e => ?_, ?_, ?_, ?_, ?_, ?_⟩, ?_⟩
          · rw [upd_ne (ne_of_none e nq0), upd_ne (ne_of_none e nd0)]
            exact B5.same _ _ e
          · rw [upd_same, List.map_append]; rfl
          · rw [upd_ne (Ne.symm nqd), upd_same]
          · rw [List.nodup_append]
            refine ⟨B5.nodup, by simp, fun u hu v hv e => ?_⟩
            rw [List.mem_singleton.mp hv] at e
            exact hin (e ▸ hu)
          · intro u hu
            rcases List.mem_append.mp hu with m | m
            · exact B5.short _ m
            · rw [List.mem_singleton.mp m]; exact tl_le _ _
          · intro u hu
            rcases List.mem_append.mp hu with m | m
            · exact B5.reach _ m
            · rw [List.mem_singleton.mp m]; exact ⟨_, hrn, hnx⟩
          · rw [List.length_append]; omega
      · rintro σ H3 ⟨ws, v4, v5, v6, v7, rfl, B3, hlt3⟩
        refine ⟨_, rfl, _, _, rfl, rfl, ?_⟩
        refine ⟨m - 1, by omega, n + 1, ws, _, _, _, _, rfl, B3, hlt3, by omega⟩
    · refine iteDF (by omega) ?_
      exact k H2 B2.same
theorem sc_Rule_init : FnScope ["self", "flag", "stuffs"] ["self", "flag", "stuffs"] (fnScope s_Rule_init) := fnScope_by (by decide +kernel)
theorem ok_Rule_init {f C : Addr} {fd : FuncData} (F : C8.Fun K "__init__" "Rule.__init__" s_Rule_init f fd) (T : Tx mg) (RT : RuT K C) (c_is_word : Cal P w K mg base 1 "is_word" (spIsWord K) []) (c_are_stuffs : Cal P w K mg base 4 "are_stuffs" (spAre K) []) (c_is_endless : Met P w K mg base 4 C "is_endless" (spEndless C) []) :
    FnOk P w K mg base CX0 5 f fd ["self", "flag", "stuffs"] (spRuInit K C) := by
  refine fn0 F sc_Rule_init (fun vs H Q E h => ?_) (fun cdv A outer s H vs Q E hr h => ?_)
  · obtain ⟨_, _, _, _, _, _, rfl, _⟩ := h; rfl
  · obtain ⟨a, dx, sq, fl, ps, kb, rfl, ha, hS, hs, ok, hO, h2, hl, k⟩ := h
    refine ⟨_, (pss_cons (ps_if (PW.pt (pw_or (pt_not (pt_val (pe_c c_is_word hr (by decide) rfl (pa_cons (pv 1) pa_nil)))) (pw_or1 (pt_cmpR op_lt (pe_callB call_len_str (by rfl) T.b_len (by decide +kernel) (pa_cons (pv 1) pa_nil)) pe_int (nomark _))))) (pss_one ps_never) pss_nil)
    (pss_cons (ps_if (pt_not (pt_val (pe_c c_are_stuffs hr (by decide) rfl (pa_cons (pv 2) pa_nil)))) (pss_one ps_never) pss_nil)
    (pss_cons (ps_fld (pv 0) (pv 1) rfl)
    (pss_cons (ps_fld (pv 0) (pe_callTy call_tuple_of (by rfl) T.b_tuple (by decide +kernel) (pa_cons (pe_callB cr_sortedT (by rfl) T.b_sorted (by decide +kernel) (pa_cons (pv 2) pa_nil)) pa_nil)) rfl)
    (pss_one (ps_if (pt_val (pe_mt0 (pl := _) c_is_endless hr (by decide) (pv 0))) (pss_one ps_never) pss_nil)))))), ?_⟩
    have lf : (W fl).length = fl.length := W_len fl
    refine ⟨_, rfl, _, rfl, .inl ⟨_, rfl, by rw [lf]; omega, fun H1 s1 => ⟨_, rfl, iteBF (by rw [isW_W]; rfl) ?_⟩⟩⟩
    refine ⟨_, rfl, _, rfl, by rw [lf]; exact sl_len (by omega), _, _, rfl, rfl, _, rfl, iteDF (by rw [lf]; omega) ?_⟩
    refine ⟨_, rfl, sq, ps, kb, rfl, hS.same s1, hs.same s1, ok, fun H2 s2 => ⟨_, rfl, ?_⟩⟩
    have s02 := s1.trans s2
    have ha2 := s02 _ _ ha
    refine ⟨_, rfl, _, rfl, a, C, dx, _, rfl, ha2, RT.cl, RT.nF, by decide, ?_⟩
    have keep3 : ∀ c o, H c = some o → c ≠ a → upd H2 a (.ins C dx (putF "flag" (.str (W fl)) [])) c = some o := fun c o e n => by rw [upd_ne n]; exact s02 _ _ e
    have ha3 : upd H2 a (.ins C dx (putF "flag" (.str (W fl)) [])) a = some (.ins C dx (putF "flag" (.str (W fl)) [])) := upd_same
    have hs3 : StV (upd H2 a (.ins C dx (putF "flag" (.str (W fl)) []))) kb ps := fun t ht => keep3 _ _ (hs t ht) (ne_of (hs t ht) ha (by intro z; cases z))
    have hS3 : SqL K (upd H2 a (.ins C dx (putF "flag" (.str (W fl)) []))) sq (ps.map V.ref) ∨ SqT K (upd H2 a (.ins C dx (putF "flag" (.str (W fl)) []))) sq (ps.map V.ref) := by
      rcases hS with ((h | ⟨o, h⟩) | h) | ((h | ⟨o, h⟩) | h)
      · exact .inl (.inl (.inl (keep3 _ _ h (ne_of h ha (by intro z; cases z)))))
      · exact .inl (.inl (.inr ⟨o, keep3 _ _ h (ne_of h ha (by intro z; cases z))⟩))
      · exact .inl (.inr h)
      · exact .inr (.inl (.inl (keep3 _ _ h (ne_of h ha (by intro z; cases z)))))
      · exact .inr (.inl (.inr ⟨o, keep3 _ _ h (ne_of h ha (by intro z; cases z))⟩))
      · exact .inr (.inr h)
    generalize upd H2 a (.ins C dx (putF "flag" (.str (W fl)) [])) = H3 at keep3 ha3 hs3 hS3
    refine ⟨_, rfl, sq, ps, fun t => key (kb t), rfl, hS3, fun t ht => hs3 t ht, fun qs p1 srt prm n1 => ?_⟩
    refine ⟨p1, _, rfl, .inl ⟨SqL.of upd_same, fun p2 n2 => ?_⟩⟩
    have s5 : Same H3 (upd (upd H3 p1 (.lst (qs.map V.ref))) p2 (.tup (qs.map V.ref))) := (same_upd n1).trans (same_upd n2)
    have hT5 : upd (upd H3 p1 (.lst (qs.map V.ref))) p2 (.tup (qs.map V.ref)) p2 = some (.tup (qs.map V.ref)) := upd_same
    generalize upd (upd H3 p1 (.lst (qs.map V.ref))) p2 (.tup (qs.map V.ref)) = H5 at s5 hT5
    have ha5 := s5 _ _ ha3
    refine ⟨_, rfl, a, C, dx, _, rfl, ha5, RT.cl, RT.nS, by show 1 < 1000; decide, ?_⟩
    have na2 : p2 ≠ a := ne_of hT5 ha5 (by intro z; cases z)
    have keep6 : ∀ c o, H3 c = some o → c ≠ a → upd H5 a (.ins C dx (putF "stuffs" (.ref p2) (putF "flag" (.str (W fl)) []))) c = some o := fun c o e n => by rw [upd_ne n]; exact s5 _ _ e
    have ha6 : upd H5 a (.ins C dx (putF "stuffs" (.ref p2) (putF "flag" (.str (W fl)) []))) a = some (.ins C dx (ruF fl p2)) := upd_same
    have hT6 : upd H5 a (.ins C dx (putF "stuffs" (.ref p2) (putF "flag" (.str (W fl)) []))) p2 = some (.tup (qs.map V.ref)) := by rw [upd_ne na2]; exact hT5
    generalize upd H5 a (.ins C dx (putF "stuffs" (.ref p2) (putF "flag" (.str (W fl)) []))) = H6 at keep6 ha6 hT6
    have hs6 : StV H6 kb qs := StV.perm (fun t ht => keep6 _ _ (hs3 t ht) (ne_of (hs3 t ht) ha3 (by intro z; cases z))) prm
    have pm : (qs.map kb).Perm (ps.map kb) := prm.map kb
    have hR6 : RuAt C H6 a fl (qs.map kb) := ⟨dx, p2, qs, kb, ha6, hT6, hs6, rfl⟩
    have ok6 := ok.perm pm.symm
    refine ⟨_, rfl, a, dx, _, rfl, ha6, ruF_no _ _ (by decide +kernel) (by decide +kernel), a, fl, qs.map kb, rfl, hR6, ok6.few, ok6.long, hO.congr fun l => put_perm ok.free pm.symm l, fun H7 s7 => ⟨_, rfl, ?_⟩⟩
    exact k H7 (qs.map kb) (fun c o e n => s7 _ _ (keep6 _ _ (keep3 _ _ e n) n)) pm (pwS srt) (hR6.same s7)
end
end U

set_option maxRecDepth 100000
set_option maxHeartbeats 4000000
set_option pp.maxSteps 400
namespace U
open PySem PySem.Spec PyProof.Rows
open L2 hiding Fun CX0 E0 pass0 Fun.binds
open C8 Lx SX
/-! hits of any values -/
def sc4 : V → Bool
  | .non => true
  | .bl _ => true
  | .int _ => true
  | .str _ => true
  | _ => false
def intB : V → Bool
  | .int _ => true
  | _ => false
def numB : V → Bool
  | .int i => decide (0 ≤ i)
  | _ => false
def strB : V → Bool
  | .str _ => true
  | _ => false
def kindsV : List V := [.str "double", .str "lose", .str "turn"]
def hitB (lo n : Nat) : List V → Bool
  | [u, v] => match u, v with
    | .int i, .str z => decide (0 ≤ i) && (decide ((lo : Int) ≤ i) && (decide (i < (n : Int)) && inV (.str z) kindsV))
    | _, _ => false
  | _ => false
theorem kind_of {z : Str} (h : inV (.str z) kindsV = true) : ∃ k, z = kS k := by
  unfold kindsV inV at h
  simp only [List.any_cons, List.any_nil, Bool.or_false, Bool.or_eq_true] at h
  rcases h with h | h | h
  · exact ⟨.dbl, by exact (of_decide_eq_true h).symm⟩
  · exact ⟨.lose, by exact (of_decide_eq_true h).symm⟩
  · exact ⟨.turn, by exact (of_decide_eq_true h).symm⟩
theorem kind_in (k : Kd) : inV (.str (kS k)) kindsV = true := by cases k <;> decide +kernel
theorem hitB_true {lo n : Nat} {xs : List V} (h : hitB lo n xs = true) : ∃ (p : Nat) (k : Kd), xs = [.int p, .str (kS k)] ∧ lo ≤ p ∧ p < n := by
  unfold hitB at h
  split at h
  · split at h
    · rename_i i z
      rw [Bool.and_eq_true, Bool.and_eq_true, Bool.and_eq_true, decide_eq_true_iff, decide_eq_true_iff, decide_eq_true_iff] at h
      obtain ⟨h1, h2, h3, h4⟩ := h
      obtain ⟨k, rfl⟩ := kind_of h4
      obtain ⟨p, rfl⟩ := Int.eq_ofNat_of_zero_le h1
      exact ⟨p, k, rfl, by omega, by omega⟩
    · cases h
  · cases h
theorem hitB_of {lo n p : Nat} {k : Kd} (h1 : lo ≤ p) (h2 : p < n) : hitB lo n [.int p, .str (kS k)] = true := by
  show (decide ((0 : Int) ≤ (p : Nat)) && (decide ((lo : Int) ≤ (p : Nat)) && (decide (((p : Nat) : Int) < (n : Int)) && inV (.str (kS k)) kindsV))) = true
  rw [kind_in, decide_eq_true (by omega), decide_eq_true (by omega), decide_eq_true (by omega)]
  rfl
theorem hitB_num {lo n : Nat} {u v : V} (h : numB u = false) : hitB lo n [u, v] = false := by
  cases u with
  | int i =>
    cases v with
    | str z =>
      have h : decide (0 ≤ i) = false := h
      show (decide (0 ≤ i) && (decide ((lo : Int) ≤ i) && (decide (i < (n : Int)) && inV (.str z) kindsV))) = false
      rw [h]; rfl
    | _ => rfl
  | _ => rfl
theorem txt_mid {l : List Bool} {i j : Nat} (h : i ≤ j) (hj : j ≤ l.length) : Txt.slice (W l) (some (i : Int)) (some (j : Int)) = W ((l.drop i).take (j - i)) := by
  have e := beq_iff_eq.mp (PyProof.Rows.slice_closesL (x := W l) (i := i) (j := j) (by omega) (by omega) (by rw [W_len]; omega))
  refine e.trans ?_
  show S (((l.map bt).drop i).take ((j : Int) - i).toNat) = S (((l.drop i).take (j - i)).map bt)
  rw [List.map_take, List.map_drop, show ((j : Int) - i).toNat = j - i by omega]
theorem W_at {l : List Bool} {i : Nat} (h : i < l.length) : atI (W l).cps.toList ((i : Nat) : Int) = some (bt (l.getD i false)) := by
  rw [W_tl]
  refine atI_nat ?_
  rw [List.getElem?_map, List.getElem?_eq_getElem h]
  simp [h]
/-- a tuple of scalars, or no tuple -/
inductive Tg | tup (xs : List V) | oth
def HvAt (K : PySem.W.Frag) (H : Hp) (v : V) : Tg → Prop
  | .tup xs => ∃ p, v = .ref p ∧ H p = some (.tup xs) ∧ xs.all sc4 = true
  | .oth => ∃ t, PySem.W.kitOne K t (.type "tuple") = some false ∧ ∀ H', Same H H' → TyX K H' v t
theorem HvAt.same {K : PySem.W.Frag} {H H' : Hp} {v : V} {t : Tg} (h : HvAt K H v t) (s : Same H H') : HvAt K H' v t := by
  cases t with
  | tup xs => obtain ⟨p, e, hp, ha⟩ := h; exact ⟨p, e, s _ _ hp, ha⟩
  | oth => obtain ⟨t, h1, h2⟩ := h; exact ⟨t, h1, fun H2 s2 => h2 H2 (s.trans s2)⟩
def hitG (lo n : Nat) : Tg → Bool
  | .tup xs => hitB lo n xs
  | .oth => false
def posT : Tg → Nat
  | .tup (.int i :: _) => i.toNat
  | _ => 0
/-- the number of the first wrong one -/
def badAt : Nat → Nat → List Tg → Option Nat
  | _, _, [] => none
  | lo, n, t :: r => if hitG lo n t then (badAt (posT t + 1) n r).map (· + 1) else some 0
theorem badAt_good {lo n p : Nat} {k : Kd} {r : List Tg} (h1 : lo ≤ p) (h2 : p < n) : badAt lo n (.tup [.int p, .str (kS k)] :: r) = (badAt (p + 1) n r).map (· + 1) := by
  show (if hitB lo n [.int p, .str (kS k)] then _ else _) = _
  rw [hitB_of h1 h2]
  rfl
theorem badAt_bad {lo n : Nat} {t : Tg} {r : List Tg} (h : hitG lo n t = false) : badAt lo n (t :: r) = some 0 := by
  show (if hitG lo n t then _ else _) = _
  rw [h]
  rfl
def spSc (f : V → Bool) : Sp := fun vs H Q _ => ∃ x, vs = [x] ∧ sc4 x = true ∧ ∀ H', Same H H' → Q (.bl (f x)) H'
def spSeqX (K : PySem.W.Frag) : Sp := fun vs H Q _ => ∃ x t b1 b2, vs = [x] ∧ (∀ H', Same H H' → TyX K H' x t) ∧ PySem.W.kitOne K t (.type "list") = some b1 ∧ PySem.W.kitOne K t (.type "tuple") = some b2 ∧ ∀ H', Same H H' → Q (.bl (b1 || b2)) H'
def spIsHitX (K : PySem.W.Frag) : Sp := fun vs H Q _ => ∃ (x : V) (g : Tg) (lo n : Nat), vs = [x, .int lo, .int n] ∧ HvAt K H x g ∧ ∀ H', Same H H' → Q (.bl (hitG lo n g)) H'
section
variable {P : Program} {w : World} {K : PySem.W.Frag} {mg : Str → Option Value} {base : Heap}

theorem cal_is_integerX {f : Addr} {fd : FuncData} (F : Def K mg "is_integer" s_is_integer f fd) (b : Binds K fd ["value"] []) (T : Tx mg) : Cal P w K mg base 1 "is_integer" (spSc intB) [] := by
  refine cal0 F b .nil sc_is_integer (fun vs H Q E h => ?_) (fun cdv A outer s H vs Q E hr h => ?_)
  · obtain ⟨_, rfl, _⟩ := h; rfl
  · obtain ⟨x, rfl, hx, k⟩ := h
    refine ⟨_, (pss_one (ps_ret (pe_and (pe_callB call_isi (by rfl) T.b_isinstance (by decide +kernel) (pa_cons (pv 0) (pa_cons (pe_bltn (v := .ty "int") (u := .type "int") (by rfl) T.b_int (by decide +kernel) rfl) pa_nil))) (pe_one (pe_not (pe_callB call_isi (by rfl) T.b_isinstance (by decide +kernel) (pa_cons (pv 0) (pa_cons (pe_bltn (v := .ty "bool") (u := .type "bool") (by rfl) T.b_bool (by decide +kernel) rfl) pa_nil)))))))), ?_⟩
    cases x with
    | non =>
      refine ⟨_, rfl, _, _, _, _, false, rfl, .ty _, .base .non, kit_ty (by decide +kernel), _, rfl, ?_⟩
      exact k H (Same.refl H)
    | bl b =>
      refine ⟨_, rfl, _, _, _, _, true, rfl, .ty _, .base (.bl b), kit_ty (by decide +kernel), _, rfl, ?_⟩
      refine ⟨_, rfl, _, _, _, _, true, rfl, .ty _, .base (.bl b), kit_ty (by decide +kernel), _, rfl, ?_⟩
      exact k H (Same.refl H)
    | int i =>
      refine ⟨_, rfl, _, _, _, _, true, rfl, .ty _, .base (.int i), kit_ty (by decide +kernel), _, rfl, ?_⟩
      refine ⟨_, rfl, _, _, _, _, false, rfl, .ty _, .base (.int i), kit_ty (by decide +kernel), _, rfl, ?_⟩
      exact k H (Same.refl H)
    | str z =>
      refine ⟨_, rfl, _, _, _, _, false, rfl, .ty _, .base (.str z), kit_ty (by decide +kernel), _, rfl, ?_⟩
      exact k H (Same.refl H)
    | _ => cases hx

theorem cal_is_numberX {f : Addr} {fd : FuncData} (F : Def K mg "is_number" s_is_number f fd) (b : Binds K fd ["value"] []) (T : Tx mg) (c_is_integerX : Cal P w K mg base 1 "is_integer" (spSc intB) []) : Cal P w K mg base 2 "is_number" (spSc numB) [] := by
  refine cal0 F b .nil sc_is_number (fun vs H Q E h => ?_) (fun cdv A outer s H vs Q E hr h => ?_)
  · obtain ⟨_, rfl, _⟩ := h; rfl
  · obtain ⟨x, rfl, hx, k⟩ := h
    have c_is_integer := c_is_integerX
    refine ⟨_, (pss_one (ps_ret (pe_and (pe_c c_is_integer hr (by decide) rfl (pa_cons (pv 0) pa_nil)) (pe_one (pe_cmpR op_ge (pv 0) pe_int (nomark _)))))), ?_⟩
    refine ⟨_, rfl, x, rfl, hx, fun H1 s1 => ⟨_, rfl, ?_⟩⟩
    cases x with
    | int i => exact ⟨_, rfl, _, _, rfl, rfl, k H1 s1⟩
    | non => exact k H1 s1
    | bl b => exact k H1 s1
    | str z => exact k H1 s1
    | _ => cases hx

theorem cal_is_sequenceX {f : Addr} {fd : FuncData} (F : Def K mg "is_sequence" s_is_sequence f fd) (b : Binds K fd ["value"] []) (T : Tx mg) : Cal P w K mg base 1 "is_sequence" (spSeqX K) [] := by
  refine cal0 F b .nil sc_is_sequence (fun vs H Q E h => ?_) (fun cdv A outer s H vs Q E hr h => ?_)
  · obtain ⟨_, _, _, _, rfl, _⟩ := h; rfl
  · obtain ⟨x, t, b1, b2, rfl, hT, k1, k2, k⟩ := h
    refine ⟨_, (pss_one (ps_ret (pe_callB call_isiT (by rfl) T.b_isinstance (by decide +kernel) (pa_cons (pv 0) (pa_cons (pe_tup (pa_cons (pe_bltn (v := .ty "list") (u := .type "list") (by rfl) T.b_list (by decide +kernel) rfl) (pa_cons (pe_bltn (v := .ty "tuple") (u := .type "tuple") (by rfl) T.b_tuple (by decide +kernel) rfl) pa_nil))) pa_nil))))), ?_⟩
    refine ⟨_, rfl, by show 2 ≤ sizeLine; decide, fun p hp => ?_⟩
    have s1 := same_upd (o := .tup [.ty "list", .ty "tuple"]) hp
    cases b1 with
    | true => exact ⟨_, p, _, _, _, true, rfl, upd_same, .cons (.ty _) (.cons (.ty _) .nil), hT _ s1, kitAny_cons k1 (fun z => Bool.noConfusion z) (fun _ => rfl), k _ s1⟩
    | false => exact ⟨_, p, _, _, _, b2, rfl, upd_same, .cons (.ty _) (.cons (.ty _) .nil), hT _ s1, kitAny_cons k1 (fun _ => kitAny_cons k2 (fun z => by rw [z]; rfl) (fun z => by rw [z])) (fun z => Bool.noConfusion z), k _ s1⟩

theorem cal_is_hitX {f aK : Addr} {fd : FuncData} (F : Def K mg "is_hit" s_is_hit f fd) (b : Binds K fd ["value", "least", "many"] []) (T : Tx mg) (g_KINDS : mg "KINDS" = some (.ref aK)) (hK : ∀ H, SqT K H aK [.str "double", .str "lose", .str "turn"])
    (c_is_numberX : Cal P w K mg base 2 "is_number" (spSc numB) []) : Cal P w K mg base 3 "is_hit" (spIsHitX K) [] := by
  refine cal0 F b .nil sc_is_hit (fun vs H Q E h => ?_) (fun cdv A outer s H vs Q E hr h => ?_)
  · obtain ⟨_, _, _, _, rfl, _⟩ := h; rfl
  · obtain ⟨x, g, lo, n, rfl, hx, k1⟩ := h
    have c_is_number := c_is_numberX
    refine ⟨_, (pss_cons (ps_if (PW.pt (pw_or (pt_not (pt_val (pe_callB call_isi (by rfl) T.b_isinstance (by decide +kernel) (pa_cons (pv 0) (pa_cons (pe_bltn (v := .ty "tuple") (u := .type "tuple") (by rfl) T.b_tuple (by decide +kernel) rfl) pa_nil))))) (pw_or (pt_cmpR op_ne (pe_callB call_len_seq (by rfl) T.b_len (by decide +kernel) (pa_cons (pv 0) pa_nil)) pe_int (nomark _)) (pw_or (pt_not (pt_val (pe_c c_is_number hr (by decide) rfl (pa_cons (pe_ix ix_tup (pv 0) pe_int (fun _ _ => rfl)) pa_nil)))) (pw_or1 (pt_not (pt_val (pe_callB call_isi (by rfl) T.b_isinstance (by decide +kernel) (pa_cons (pe_ix ix_tup (pv 0) pe_int (fun _ _ => rfl)) (pa_cons (pe_bltn (v := .ty "str") (u := .type "str") (by rfl) T.b_str (by decide +kernel) rfl) pa_nil)))))))))) (pss_one (ps_ret pe_bl)) pss_nil)
    (pss_one (ps_ret (pe_and (pe_chain op_le op_lt (pv 1) (pe_ix ix_tup (pv 0) pe_int (fun _ _ => rfl)) (pv 2)) (pe_one (pe_cmpR op_in_seq (pe_ix ix_tup (pv 0) pe_int (fun _ _ => rfl)) (pe_glob (v := .ref aK) (by rfl) g_KINDS rfl) (by with_unfolding_all rfl))))))), ?_⟩
    cases g with
    | oth =>
      obtain ⟨t, h1, h2⟩ := hx
      refine ⟨_, rfl, _, _, _, _, false, rfl, .ty _, h2 H (Same.refl H), h1, _, rfl, iteT ?_⟩
      exact k1 H (Same.refl H)
    | tup xs =>
      obtain ⟨p, rfl, hp, ha⟩ := hx
      refine ⟨_, rfl, _, _, _, _, true, rfl, .ty _, .base (.tup hp), kit_ty (by decide +kernel), _, rfl, iteF ?_⟩
      refine ⟨_, rfl, p, _, rfl, .inr (SqT.of hp), rfl, _, rfl, ?_⟩
      have other : xs.length ≠ 2 → hitB lo n xs = false := fun h => by
        unfold hitB
        split
        · exact absurd rfl h
        · rfl
      by_cases hl : xs.length = 2
      · refine iteNS (by rw [hl]; rfl) ?_
        match xs, hl, ha, hp, k1 with
        | [u, v], _, ha, hp, k1 =>
          rw [List.all_cons, List.all_cons, Bool.and_eq_true, Bool.and_eq_true] at ha
          obtain ⟨hu, hv, _⟩ := ha
          refine ⟨_, rfl, p, _, _, _, rfl, rfl, SqT.of hp, atI_nat (j := 0) rfl, _, rfl, hu, fun H1 s1 => ⟨_, rfl, ?_⟩⟩
          have hp1 := s1 _ _ hp
          have k1 := fun H' (s : Same H1 H') => k1 H' (s1.trans s)
          cases hn : numB u with
          | false =>
            refine iteT ?_
            have e : hitG lo n (.tup [u, v]) = false := hitB_num hn
            rw [e] at k1
            exact k1 H1 (Same.refl H1)
          | true =>
            refine iteF ?_
            obtain ⟨i, rfl⟩ : ∃ i, u = .int i := by
              cases u with
              | int i => exact ⟨i, rfl⟩
              | _ => cases hn
            have hn : decide (0 ≤ i) = true := hn
            have hn := of_decide_eq_true hn
            refine ⟨_, rfl, p, _, _, _, rfl, rfl, SqT.of hp1, atI_nat (j := 1) rfl, ?_⟩
            cases v with
            | non =>
              refine ⟨_, _, _, _, false, rfl, .ty _, .base .non, kit_ty (by decide +kernel), _, rfl, iteT ?_⟩
              exact k1 H1 (Same.refl H1)
            | bl b =>
              refine ⟨_, _, _, _, false, rfl, .ty _, .base (.bl b), kit_ty (by decide +kernel), _, rfl, iteT ?_⟩
              exact k1 H1 (Same.refl H1)
            | int j =>
              refine ⟨_, _, _, _, false, rfl, .ty _, .base (.int j), kit_ty (by decide +kernel), _, rfl, iteT ?_⟩
              exact k1 H1 (Same.refl H1)
            | str z =>
              refine ⟨_, _, _, _, true, rfl, .ty _, .base (.str z), kit_ty (by decide +kernel), _, rfl, iteF ?_⟩
              have e0 : hitG lo n (.tup [.int i, .str z]) = (decide ((lo : Int) ≤ i) && (decide (i < (n : Int)) && inV (.str z) kindsV)) := by
                show (decide (0 ≤ i) && _) = _
                rw [decide_eq_true hn]; rfl
              rw [e0] at k1
              refine ⟨_, rfl, _, rfl, p, _, _, _, rfl, rfl, SqT.of hp1, atI_nat (j := 0) rfl, _, _, rfl, rfl, _, rfl, ?_⟩
              by_cases c1 : (lo : Int) ≤ i
              · refine iteDT c1 ⟨_, rfl, _, _, rfl, rfl, _, rfl, ?_⟩
                rw [decide_eq_true c1, Bool.true_and] at k1
                by_cases c2 : i < (n : Int)
                · rw [decide_eq_true c2, Bool.true_and] at k1
                  refine iteDT c2 ⟨_, rfl, p, _, _, _, rfl, rfl, SqT.of hp1, atI_nat (j := 1) rfl, aK, _, rfl, .inr (hK H1), rfl, rfl, ?_⟩
                  exact k1 H1 (Same.refl H1)
                · rw [decide_eq_false c2, Bool.false_and] at k1
                  refine iteDF c2 ?_
                  first | exact k1 H1 (Same.refl H1) | exact ⟨_, rfl, k1 H1 (Same.refl H1)⟩
              · rw [decide_eq_false c1, Bool.false_and] at k1
                refine iteDF c1 ?_
                first | exact k1 H1 (Same.refl H1) | exact ⟨_, rfl, k1 H1 (Same.refl H1)⟩
            | _ => cases hv
      · refine iteNT (fun z => hl (by have := V.int.inj z; omega)) ?_
        have := k1 H (Same.refl H)
        rw [show hitG lo n (.tup xs) = false from other hl] at this
        exact this
end
def spHitX (K : PySem.W.Frag) (CHI : Addr) : Sp := fun vs H Q E => ∃ (l : List Bool) (x : V), vs = [.str (W l), x] ∧ l.length ≤ 1000 ∧
  ((∃ t, (∀ H', Same H H' → TyX K H' x t) ∧ PySem.W.kitOne K t (.type "list") = some false ∧ PySem.W.kitOne K t (.type "tuple") = some false ∧ ∀ d H', Same H H' → H' d = some (.xd [("at", .int 0)]) → E (.ref CHI) (some d) H') ∨
   (∃ (a : Addr) (xs : List V) (gs : List Tg), x = .ref a ∧ Sq K H a xs ∧ Paired (HvAt K H) xs gs ∧ (∀ i : Nat, badAt 0 l.length gs = some i → ∀ d H', Same H H' → H' d = some (.xd [("at", .int i)]) → E (.ref CHI) (some d) H') ∧ (badAt 0 l.length gs = none → ∀ v H', Same H H' → Q v H')))
section
variable {P : Program} {w : World} {K : PySem.W.Frag} {mg : Str → Option Value} {base : Heap}
theorem sc_hit : FnScope ["line", "hits", "found", "last", "at", "one"] ["line", "hits"] (fnScope s_hit) := fnScope_by (by decide +kernel)
theorem calT_hit {f CHI : Addr} {fd : FuncData} (F : Def K mg "hit" s_hit f fd) (b : Binds K fd ["line", "hits"] []) (T : Tx mg) (x_InvalidHits : ExS.XMk P w K mg base 1 "InvalidHits" CHI "at")
    (c_is_sequenceX : Cal P w K mg base 1 "is_sequence" (spSeqX K) []) (c_is_hitX : Cal P w K mg base 3 "is_hit" (spIsHitX K) []) (c_arriving : Cal P w K mg base 2 "arriving" spArriving []) :
    ExS.CalT P w K mg base 4 "hit" (spHitX K CHI) := by
  refine ⟨f, fd, _, ExS.fnR F.fn sc_hit (fun vs H Q E h => ?_) (fun cdv A outer s H vs Q E hr h => ?_), F.mgf, F.kp, b⟩
  · obtain ⟨_, _, rfl, _⟩ := h; rfl
  · obtain ⟨l, x, rfl, hl, h⟩ := h
    have c_is_sequence := c_is_sequenceX
    have c_is_hit := c_is_hitX
    refine ⟨_, (pss_cons (ps_if (pt_not (pt_val (pe_c c_is_sequence hr (by decide) rfl (pa_cons (pv 1) pa_nil)))) (pss_one (ps_raise rfl (takes_of rfl rfl rfl rfl) (ExS.pmk_x x_InvalidHits hr (by decide) rfl (pa_cons pe_int pa_nil)))) pss_nil)
    (pss_cons (ps_asg (pe_tup (pa_cons pe_str (pa_cons pe_int pa_nil))) (pg_tup rfl (pgs_cons (pg_name (i := 2) sc_hit.nd rfl (.inl rfl)) (pgs_cons (pg_name (i := 3) sc_hit.nd rfl (.inl rfl)) pgs_nil))))
    (pss_cons (ps_for (passes_of rfl) rfl (pi_enumQ (by rfl) T.b_enumerate (pa_cons (pv 1) pa_nil)) (pg_tup rfl (pgs_cons (pg_name (i := 4) sc_hit.nd rfl (.inl rfl)) (pgs_cons (pg_name (i := 5) sc_hit.nd rfl (.inl rfl)) pgs_nil)))
    (pss_cons (ps_if (pt_not (pt_val (pe_c c_is_hit hr (by decide) rfl (pa_cons (pv 5) (pa_cons (pv 3) (pa_cons (pe_callB call_len_str (by rfl) T.b_len (by decide +kernel) (pa_cons (pv 0) pa_nil)) pa_nil)))))) (pss_one (ps_raise rfl (takes_of rfl rfl rfl rfl) (ExS.pmk_x x_InvalidHits hr (by decide) rfl (pa_cons (pv 4) pa_nil)))) pss_nil)
    (pss_cons (ps_set (i := 2) sc_hit.nd rfl (.inl rfl) (pe_joined (.cons (pe_fmt (pv 2)) (.cons (pe_fmt (pe_slice sl_txt (pv 0) (po_some (pv 3)) (po_some (pe_ix ix_tup (pv 5) pe_int (fun _ _ => rfl))))) (.cons (pe_fmt (pe_c c_arriving hr (by decide) rfl (pa_cons (pe_ix ix_str (pv 0) (pe_ix ix_tup (pv 5) pe_int (fun _ _ => rfl)) (fun _ _ => rfl)) (pa_cons (pe_ix ix_tup (pv 5) pe_int (fun _ _ => rfl)) pa_nil)))) .nil)))))
    (pss_one (ps_set (i := 3) sc_hit.nd rfl (.inl rfl) (pe_op op_add (pe_ix ix_tup (pv 5) pe_int (fun _ _ => rfl)) pe_int))))))
    (pss_one (ps_ret (pe_joined (.cons (pe_fmt (pv 2)) (.cons (pe_fmt (pe_slice sl_txt (pv 0) (po_some (pv 3)) po_none)) .nil)))))))), ?_⟩
    rcases h with ⟨t, hT, k1, k2, k⟩ | ⟨a, xs, gs, rfl, hS, hP, kE, kQ⟩
    · refine ⟨_, rfl, x, t, false, false, rfl, hT, k1, k2, fun H1 s1 => ⟨_, rfl, iteT ?_⟩⟩
      exact ExS.rd_x fun d H' s' _ hd => k d H' (s1.trans s') hd
    have isS : ∃ t b1 b2, (∀ H', Same H H' → TyX K H' (.ref a) t) ∧ PySem.W.kitOne K t (.type "list") = some b1 ∧ PySem.W.kitOne K t (.type "tuple") = some b2 ∧ (b1 || b2) = true := by
      rcases hS with hS | hS
      · exact ⟨_, true, false, fun H' s => ty_list (s.seq hS), kit_ty (by decide +kernel), kit_ty (by decide +kernel), rfl⟩
      · exact ⟨_, false, true, fun H' s => ty_tup (same_tup s hS), kit_ty (by decide +kernel), kit_ty (by decide +kernel), rfl⟩
    obtain ⟨t, b1, b2, hT, k1, k2, eb⟩ := isS
    refine ⟨_, rfl, _, t, b1, b2, rfl, hT, k1, k2, fun H1 s1 => ⟨_, rfl, ?_⟩⟩
    rw [eb]
    refine iteF ?_
    refine ⟨by show 2 ≤ sizeLine; decide, fun p hp => ⟨p, _, rfl, SqT.of upd_same, rfl, _, _, rfl, _, _, rfl, rfl, ?_⟩⟩
    have s2 := s1.trans (same_upd (o := .tup [.str "", .int 0]) hp)
    generalize upd H1 p (.tup [.str "", .int 0]) = H2 at s2
    have lw : (W l).length ≤ sizeLine := by rw [W_len]; exact sl_len (by omega)
    have ww : (W l).length = l.length := W_len l
    refine iEnumQ_var rfl (hS.same s2) fun J G hG wk => ?_
    refine for_it wk (fun i σ H' => ∃ (fnd : List Bool) (last : Nat) (v4 v5 : Option V), σ = [some (.str (W l)), some (.ref a), some (.str (W fnd)), some (.int (last : Nat)), v4, v5] ∧ Same H2 H' ∧ last ≤ l.length ∧ fnd.length ≤ 2 * last ∧ badAt 0 l.length gs = (badAt last l.length (gs.drop i)).map (· + i))
      ⟨[], 0, none, none, by rw [W_nil]; rfl, Same.refl _, Nat.zero_le _, Nat.zero_le _, by rw [List.drop_zero]; cases badAt 0 l.length gs <;> rfl⟩ (fun i σ H' _ ⟨_, _, _, _, _, q, _⟩ => hG _ q) ?_ ?_
    · rintro i x σ H3 H4 hi ⟨fnd, last, v4, v5, rfl, s3, l3, f3, e3⟩ ⟨T, x1, x2, rfl, nT, rfl, g1, g2⟩
      obtain ⟨g, hg, hat⟩ := paired_get hP g2
      cases g1
      have s4 := s3.trans (same_upd (o := .tup [.int (i : Nat), x2]) nT)
      have hT4 : upd H3 T (.tup [.int (i : Nat), x2]) T = some (.tup [.int (i : Nat), x2]) := upd_same
      generalize upd H3 T (.tup [.int (i : Nat), x2]) = H4 at s4 hT4 ⊢
      have ed : gs.drop i = g :: gs.drop (i + 1) := by
        obtain ⟨hi', e⟩ := List.getElem?_eq_some_iff.mp hg
        rw [List.drop_eq_getElem_cons hi', e]
      rw [ed] at e3
      refine ⟨T, _, rfl, SqT.of hT4, rfl, _, _, rfl, _, _, rfl, rfl, ?_⟩
      refine ⟨_, rfl, _, rfl, _, rfl, _, rfl, lw, x2, g, last, (W l).length, rfl, hat.same (s2.trans s4), fun H5 s5 => ⟨_, rfl, ?_⟩⟩
      rw [ww]
      cases hg2 : hitG last l.length g with
      | false =>
        refine iteT ?_
        rw [badAt_bad hg2] at e3
        have e3 : badAt 0 l.length gs = some i := by rw [e3]; show some (0 + i) = _; rw [Nat.zero_add]
        refine ⟨_, rfl, ?_⟩
        exact ExS.rd_x fun d H' s' _ hd => kE i e3 d H' (((s2.trans s4).trans s5).trans s') hd
      | true =>
        refine iteF ?_
        cases g with
        | oth => cases hg2
        | tup ys =>
          obtain ⟨pp, kd, rfl, p1, p2⟩ := hitB_true hg2
          rw [badAt_good p1 p2] at e3
          obtain ⟨q, rfl, hq, _⟩ := hat
          have hat5 := s5 _ _ (s4 _ _ (s2 _ _ hq))
          have ef : Str.empty ++ W fnd = W fnd := by rw [show Str.empty = W [] from rfl, W_cat, List.nil_append]
          have em := txt_mid (l := l) p1 (Nat.le_of_lt p2)
          have lt : ((l.drop last).take (pp - last)).length = pp - last := by rw [List.length_take, List.length_drop]; omega
          have la := arr_len (l.getD pp false) kd
          refine ⟨_, rfl, .inl ⟨_, rfl, (by rw [W_len]; exact sl_len (by omega)), _, rfl, (by rw [ef, W_len]; exact sl_len (by omega)), _, rfl, _, rfl, _, rfl, _, rfl, q, _, _, _, rfl, rfl, SqT.of hat5, atI_nat (j := 0) rfl, _, rfl, _, rfl, lw, .inl ⟨_, rfl, ?_, _, rfl, ?_, ?_⟩⟩⟩
          · rw [em, W_len, lt]; exact sl_len (by omega)
          · rw [ef, em, W_cat, W_len, List.length_append, lt]; exact sl_len (by omega)
          · rw [ef, em, W_cat]
            refine ⟨_, rfl, _, rfl, q, _, _, _, rfl, rfl, SqT.of hat5, atI_nat (j := 0) rfl, _, _, _, rfl, rfl, lw, W_at p2, _, rfl, q, _, _, _, rfl, rfl, SqT.of hat5, atI_nat (j := 1) rfl, l.getD pp false, kd, rfl, .inl ⟨_, rfl, (by rw [W_len]; exact sl_len (by omega)), _, rfl, ?_, ?_⟩⟩
            · rw [W_cat, W_len, List.length_append, List.length_append, lt]; exact sl_len (by omega)
            · rw [W_cat]
              refine ⟨_, rfl, q, _, _, _, rfl, rfl, SqT.of hat5, atI_nat (j := 0) rfl, _, _, rfl, rfl, ?_⟩
              refine ⟨fnd ++ (l.drop last).take (pp - last) ++ arr (l.getD pp false) kd, pp + 1, _, _, rfl, s4.trans s5, p2, ?_, ?_⟩
              · rw [List.length_append, List.length_append, lt]; omega
              · rw [e3]
                cases badAt (pp + 1) l.length (gs.drop (i + 1)) with
                | none => rfl
                | some j => show some (j + 1 + i) = some (j + (i + 1)); rw [show j + 1 + i = j + (i + 1) by omega]
    · rintro σ H3 ⟨fnd, last, v4, v5, rfl, s3, l3, f3, e3⟩
      have hn : gs.drop xs.length = [] := List.drop_eq_nil_of_le (by rw [paired_len hP]; exact Nat.le_refl _)
      rw [hn] at e3
      have e3 : badAt 0 l.length gs = none := e3
      have ef : Str.empty ++ W fnd = W fnd := by rw [show Str.empty = W [] from rfl, W_cat, List.nil_append]
      have ed : Txt.slice (W l) (some (last : Int)) none = W (l.drop last) := by rw [W_drop (by omega), Int.toNat_natCast]
      refine ⟨_, rfl, .inl ⟨_, rfl, (by rw [W_len]; exact sl_len (by omega)), _, rfl, (by rw [ef, W_len]; exact sl_len (by omega)), _, rfl, _, rfl, _, rfl, _, rfl, lw, .inl ⟨_, rfl, ?_, _, rfl, ?_, ?_⟩⟩⟩
      · rw [ed, W_len, List.length_drop]; exact sl_len (by omega)
      · rw [ef, ed, W_cat, W_len, List.length_append, List.length_drop]; exact sl_len (by omega)
      · exact kQ e3 _ H3 (s2.trans s3)
end
end U

set_option maxRecDepth 100000
set_option maxHeartbeats 4000000
set_option pp.maxSteps 400
namespace U
open PySem PySem.Spec PyProof.Rows
open L2 hiding Fun CX0 E0 pass0 Fun.binds
open C8 Lx SX
/-! hits heard: what the law asks -/
theorem asc_mono : ∀ {hs : List (Nat × Kd)} {lo n m : Nat}, Asc lo n hs → n ≤ m → Asc lo m hs
  | [], _, _, _, _, _ => trivial
  | (p, k) :: r, lo, n, m, ⟨h1, h2, h3⟩, h => ⟨h1, by omega, asc_mono h3 h⟩
theorem asc_snoc : ∀ {hs : List (Nat × Kd)} {lo i : Nat} {k : Kd}, Asc lo i hs → lo ≤ i → Asc lo (i + 1) (hs ++ [(i, k)])
  | [], lo, i, k, _, h => ⟨h, Nat.lt_succ_self _, trivial⟩
  | (p, _) :: r, lo, i, k, ⟨h1, h2, h3⟩, h => ⟨h1, by omega, asc_snoc h3 (by omega)⟩
theorem asc_take : ∀ {hs : List (Nat × Kd)} {lo n : Nat} (i : Nat), Asc lo n hs → Asc lo n (hs.take i)
  | [], _, _, i, _ => by rw [List.take_nil]; trivial
  | _ :: _, _, _, 0, _ => trivial
  | (p, k) :: r, lo, n, i + 1, ⟨h1, h2, h3⟩ => ⟨h1, h2, asc_take i h3⟩
theorem mem3 {v : V} (h : v ∈ ([.str "turn", .str "lose", .str "double"] : List V)) : ∃ k : Kd, v = .str (kS k) := by
  rcases List.mem_cons.mp h with rfl | h
  · exact ⟨.turn, rfl⟩
  · rcases List.mem_cons.mp h with rfl | h
    · exact ⟨.lose, rfl⟩
    · rcases List.mem_cons.mp h with rfl | h
      · exact ⟨.dbl, rfl⟩
      · cases h
theorem paired_snoc {α β : Type} {F : α → β → Prop} : ∀ {l : List α} {m : List β} {a : α} {b : β}, Paired F l m → F a b → Paired F (l ++ [a]) (m ++ [b])
  | _, _, _, _, .nil, h => .cons h .nil
  | _, _, _, _, .cons x t, h => .cons x (paired_snoc t h)
theorem paired_app {α β : Type} {F : α → β → Prop} : ∀ {l l2 : List α} {m m2 : List β}, Paired F l m → Paired F l2 m2 → Paired F (l ++ l2) (m ++ m2)
  | _, _, _, _, .nil, h => h
  | _, _, _, _, .cons x t, h => .cons x (paired_app t h)
theorem paired_take {α β : Type} {F : α → β → Prop} : ∀ {l : List α} {m : List β} (i : Nat), Paired F l m → Paired F (l.take i) (m.take i)
  | _, _, i, .nil => by rw [List.take_nil, List.take_nil]; exact .nil
  | _, _, 0, .cons _ _ => .nil
  | _, _, i + 1, .cons x t => .cons x (paired_take i t)
theorem paired_drop {α β : Type} {F : α → β → Prop} : ∀ {l : List α} {m : List β} (i : Nat), Paired F l m → Paired F (l.drop i) (m.drop i)
  | _, _, i, .nil => by rw [List.drop_nil, List.drop_nil]; exact .nil
  | _, _, 0, .cons x t => .cons x t
  | _, _, i + 1, .cons _ t => paired_drop i t
theorem hits_up {b : Addr} {H H' : Hp} {ps : List Addr} {hs : List (Nat × Kd)} (hb : Box H b) (x : Paired (HitAt H) ps hs) (e : Up b H H') : Paired (HitAt H') ps hs :=
  L2.Paired.mapP x fun p _ h => e.1 _ _ h (hb.neT h)
theorem hits_upd {H : Hp} {D : Addr} {xs : List V} {o : HO} {ps : List Addr} {hs : List (Nat × Kd)} (hD : H D = some (.lst xs)) (x : Paired (HitAt H) ps hs) : Paired (HitAt (upd H D o)) ps hs :=
  L2.Paired.mapP x fun p _ h => by
    have n : p ≠ D := ne_of h hD (by intro z; cases z)
    show upd H D o p = _
    rw [upd_ne n]; exact h
/-- a good hit told -/
def gh (h : Nat × Kd) : Tg := .tup [.int (h.1 : Nat), .str (kS h.2)]
theorem hv_hit {K : PySem.W.Frag} {H : Hp} {p : Addr} {h : Nat × Kd} (x : HitAt H p h) : HvAt K H (.ref p) (gh h) := ⟨p, rfl, x, rfl⟩
theorem hv_hits {K : PySem.W.Frag} {H : Hp} : ∀ {ps : List Addr} {hs : List (Nat × Kd)}, Paired (HitAt H) ps hs → Paired (HvAt K H) (ps.map V.ref) (hs.map gh)
  | _, _, .nil => .nil
  | _, _, .cons x t => .cons (hv_hit x) (hv_hits t)
/-- where the next hit may stand -/
def endM : Nat → List (Nat × Kd) → Nat
  | lo, [] => lo
  | _, (p, _) :: r => endM (p + 1) r
theorem bad_app : ∀ {hs : List (Nat × Kd)} {lo n : Nat} {r : List Tg}, Asc lo n hs → badAt lo n (hs.map gh ++ r) = (badAt (endM lo hs) n r).map (· + hs.length)
  | [], lo, n, r, _ => by
    show badAt lo n r = (badAt lo n r).map (· + 0)
    cases badAt lo n r <;> rfl
  | (p, k) :: t, lo, n, r, ⟨h1, h2, h3⟩ => by
    show badAt lo n (.tup [.int p, .str (kS k)] :: (t.map gh ++ r)) = (badAt (endM (p + 1) t) n r).map (· + (t.length + 1))
    rw [badAt_good h1 h2, bad_app h3]
    cases badAt (endM (p + 1) t) n r with
    | none => rfl
    | some j => rfl
theorem bad_none {hs : List (Nat × Kd)} {n : Nat} (h : Asc 0 n hs) : badAt 0 n (hs.map gh) = none := by
  have := bad_app (r := []) h
  rw [List.append_nil] at this
  rw [this]
  rfl
theorem bad_mid {hs : List (Nat × Kd)} {n : Nat} {g : Tg} {r : List Tg} (h : Asc 0 n hs) (hg : hitG (endM 0 hs) n g = false) : badAt 0 n (hs.map gh ++ g :: r) = some hs.length := by
  rw [bad_app h, badAt_bad hg]
  show some (0 + hs.length) = _
  rw [Nat.zero_add]
theorem endM_snoc : ∀ {hs : List (Nat × Kd)} {lo : Nat} {h : Nat × Kd}, endM lo (hs ++ [h]) = h.1 + 1
  | [], _, (_, _) => rfl
  | (p, k) :: r, _, h => endM_snoc (hs := r)
theorem endM_take {hs : List (Nat × Kd)} {i : Nat} {h : Nat × Kd} (e : hs[i]? = some h) : endM 0 (hs.take (i + 1)) = h.1 + 1 := by
  rw [List.take_add_one, e]
  exact endM_snoc
theorem endM_ge : ∀ {hs : List (Nat × Kd)} {lo n : Nat}, Asc lo n hs → lo ≤ endM lo hs
  | [], lo, _, _ => Nat.le_refl _
  | (p, k) :: r, lo, n, ⟨h1, _, h3⟩ => by
    have := endM_ge h3
    show lo ≤ endM (p + 1) r
    omega
/-- what is heard -/
def heardM (n : Nat) (gs : List Tg) : V := match badAt 0 n gs with | none => .str "told" | some i => .int i
def spHeardH (K : PySem.W.Frag) : Sp := fun vs H Q _ => ∃ (l : List Bool) (x : V), vs = [.str (W l), x] ∧ l.length ≤ 1000 ∧
  ((∃ t, (∀ H', Same H H' → TyX K H' x t) ∧ PySem.W.kitOne K t (.type "list") = some false ∧ PySem.W.kitOne K t (.type "tuple") = some false ∧ ∀ H', Same H H' → Q (.int 0) H') ∨
   (∃ (a : Addr) (xs : List V) (gs : List Tg), x = .ref a ∧ Sq K H a xs ∧ Paired (HvAt K H) xs gs ∧ ∀ H', Same H H' → Q (heardM l.length gs) H'))
def spDeep : Sp := fun vs H Q _ => vs = [] ∧ ∀ a xs H', Same H H' → H a = none → H' a = some (.lst xs) → Q (.ref a) H'
section
variable {P : Program} {w : World} {K : PySem.W.Frag} {mg : Str → Option Value} {base : Heap}
theorem sc_l_deep : FnScope ["_law_found", "_law_turn"] [] (fnScope s_l_deep) := fnScope_by (by decide +kernel)
theorem cal_l_deep {f : Addr} {fd : FuncData} (F : Def K mg "_law_deep" s_l_deep f fd) (b : Binds K fd [] []) (T : Tx mg) : Cal P w K mg base 1 "_law_deep" spDeep [] := by
  refine cal0 F b .nil sc_l_deep (fun vs H Q E h => ?_) (fun cdv A outer s H vs Q E hr h => ?_)
  · obtain ⟨rfl, _⟩ := h; rfl
  · obtain ⟨rfl, k⟩ := h
    refine ⟨_, (pss_cons (ps_set (i := 0) sc_l_deep.nd rfl (.inl rfl) pe_int)
    (pss_cons (ps_for PassesOwn.never rfl (pi_range1 (by rfl) T.b_range (pa_cons pe_int pa_nil)) (pg_name (i := 1) sc_l_deep.nd rfl (.inl rfl))
    (pss_one (ps_set (i := 0) sc_l_deep.nd rfl (.inl rfl) (pe_ifExp (pt_cmpR op_eq (pe_op op_mod (pv 1) pe_int) pe_int (nomark _)) (pe_lst (pa_cons (pv 0) pa_nil)) (pe_tup (pa_cons (pv 0) pa_nil))))))
    (pss_one (ps_ret (pv 0))))), ?_⟩
    refine ⟨_, rfl, by decide, by decide, ?_⟩
    refine for_it (walk_range (lo := 0) (n := 7)) (fun i σ H2 => ∃ (x : V) (v1 : Option V), σ = [some x, v1] ∧ Same H H2 ∧ (i % 2 = 1 → ∃ a xs, x = .ref a ∧ H a = none ∧ H2 a = some (.lst xs)))
      ⟨_, none, rfl, Same.refl _, fun z => by cases z⟩ (fun _ _ _ _ _ => trivial) ?_ ?_
    · rintro i x σ H2' H2 hi ⟨x, v1, rfl, s2, hx⟩ ⟨rfl, rfl⟩
      refine ⟨_, rfl, _, _, rfl, rfl, (by show (0 : Int) < 2; decide), rfl, _, rfl, ?_⟩
      by_cases c : i % 2 = 0
      · refine iteDT (by show V.int ((0 + (i : Int)) % 2) = V.int 0; congr 1; omega) ?_
        refine ⟨_, rfl, by show 1 ≤ sizeLine; decide, fun a na => ?_⟩
        exact ⟨_, _, rfl, s2.trans (same_upd na), fun _ => ⟨a, _, rfl, s2.free na, upd_same⟩⟩
      · refine iteDF (by show ¬ V.int ((0 + (i : Int)) % 2) = V.int 0; intro z; have := V.int.inj z; omega) ?_
        refine ⟨_, rfl, by show 1 ≤ sizeLine; decide, fun a na => ?_⟩
        exact ⟨_, _, rfl, s2.trans (same_upd na), fun z => by omega⟩
    · rintro σ H2 ⟨x, v1, rfl, s2, hx⟩
      obtain ⟨a, xs, rfl, na, ha⟩ := hx (by decide)
      exact ⟨_, rfl, k a xs H2 s2 na ha⟩
theorem sc_l_heard : FnScope ["_law_line", "_law_told", "_law_heard_here", "e"] ["_law_line", "_law_told"] (fnScope s_l_heard) := fnScope_by (by decide +kernel)
theorem cal_l_heard {f CHI CFE CWo : Addr} {fd : FuncData} (F : Def K mg "_law_heard" s_l_heard f fd) (b : Binds K fd ["_law_line", "_law_told"] []) (T : Tx mg) (g_InvalidHits : mg "InvalidHits" = some (.ref CHI)) (ex_InvalidHits : PySem.W.exmOne K (.ref CHI) (.ref CHI) = some true) (XF_InvalidHits : XfC K CHI) (nw_InvalidHits : PySem.W.findIn K (.ref CHI) "at" = some none)
    (gi_FlipError : mg "FlipError" = some (.ref CFE)) (gi_InvalidWord : mg "InvalidWord" = some (.ref CWo)) (xc_InvalidHits : L2.ExcC K CHI) (kon_hits_flip : PySem.W.kitOne K (.ref CHI) (.ref CFE) = some true) (kon_hits_word : PySem.W.kitOne K (.ref CHI) (.ref CWo) = some false)
    (cT_hit : ExS.CalT P w K mg base 4 "hit" (spHitX K CHI)) : Cal P w K mg base 5 "_law_heard" (spHeardH K) [] := by
  refine cal0 F b .nil sc_l_heard (fun vs H Q E h => ?_) (fun cdv A outer s H vs Q E hr h => ?_)
  · obtain ⟨_, _, rfl, _⟩ := h; rfl
  · obtain ⟨l, x, rfl, hl, h⟩ := h
    refine ⟨_, (pss_cons (ps_set (i := 2) sc_l_heard.nd rfl (.inl rfl) pe_str)
    (pss_cons (ps_try_as (i := 3) rfl rfl sc_l_heard.nd rfl rfl ⟨rfl, by decide, .inl g_InvalidHits⟩ ExS.takes0 (fun W pn xe tk po => (pss_one (ps_expr (ExS.pe_cT cT_hit hr (by decide) tk rfl (pa_cons (pv 0) (pa_cons (pv 1) pa_nil)))))) (fun a oe cls d pn zc zf => (pss_one (ps_set (i := 2) sc_l_heard.nd rfl (.inl rfl) (pe_ifExp (PW.pt (pw_and (pt_val (pe_callB (show CallR _ _ (ExS.rIsD K a cls d) from ExS.call_isD zc zf) (by rfl) T.b_isinstance (by decide +kernel) (pa_cons (pv 3) (pa_cons (pe_glob (v := .ref _) (by rfl) gi_FlipError rfl) pa_nil)))) (pw_and1 (pt_not (pt_val (pe_callB (show CallR _ _ (ExS.rIsD K a cls d) from ExS.call_isD zc zf) (by rfl) T.b_isinstance (by decide +kernel) (pa_cons (pv 3) (pa_cons (pe_glob (v := .ref _) (by rfl) gi_InvalidWord rfl) pa_nil)))))))) (pe_xf XF_InvalidHits nw_InvalidHits zc zf (pv 3)) pe_str)))))
    (pss_one (ps_ret (pv 2))))), ?_⟩
    refine ⟨_, rfl, _, rfl, l, x, rfl, hl, ?_⟩
    rcases h with ⟨t, hT, k1, k2, k⟩ | ⟨a, xs, gs, rfl, hS, hP, k⟩
    · refine .inl ⟨t, hT, k1, k2, fun d H' s' hd => ?_⟩
      refine ⟨true, ex_InvalidHits, fun _ ea hea => ?_, fun z => by cases z⟩
      refine ⟨_, rfl, CHI, d, _, _, _, true, rfl, rfl, rfl, hd, xc_InvalidHits, .own _, kon_hits_flip, _, rfl, iteT ?_⟩
      refine ⟨_, rfl, CHI, d, _, _, _, false, rfl, rfl, rfl, hd, xc_InvalidHits, .own _, kon_hits_word, _, rfl, iteT ?_⟩
      refine ⟨_, rfl, rfl, rfl, d, _, _, rfl, hd, rfl, ?_⟩
      exact ⟨_, rfl, k H' s'⟩
    · refine .inr ⟨a, xs, gs, rfl, hS, hP, fun i hi d H' s' hd => ?_, fun hn v H' s' => ?_⟩
      · refine ⟨true, ex_InvalidHits, fun _ ea hea => ?_, fun z => by cases z⟩
        refine ⟨_, rfl, CHI, d, _, _, _, true, rfl, rfl, rfl, hd, xc_InvalidHits, .own _, kon_hits_flip, _, rfl, iteT ?_⟩
        refine ⟨_, rfl, CHI, d, _, _, _, false, rfl, rfl, rfl, hd, xc_InvalidHits, .own _, kon_hits_word, _, rfl, iteT ?_⟩
        refine ⟨_, rfl, rfl, rfl, d, _, _, rfl, hd, rfl, ?_⟩
        have := k H' s'
        unfold heardM at this
        rw [hi] at this
        exact ⟨_, rfl, this⟩
      · have := k H' s'
        unfold heardM at this
        rw [hn] at this
        exact ⟨_, rfl, this⟩
end
end U

set_option maxRecDepth 100000
set_option maxHeartbeats 4000000
namespace U
open PySem PySem.Spec PyProof.Rows
open L2 hiding Fun CX0 E0 pass0 Fun.binds
open C8 Lx SX
/-- _law_word(box, few, many) -/
def spWordF : Sp := fun vs H Q _ => ∃ (b : Addr) (few many : Nat), vs = [.ref b, .int few, .int many] ∧ Box H b ∧ few ≤ many ∧ many < 1000 ∧
  ∀ (l : List Bool) H', few ≤ l.length → l.length ≤ many → Up b H H' → Q (.str (W l)) H'
section
variable {P : Program} {w : World} {K : PySem.W.Frag} {mg : Str → Option Value} {base : Heap}
theorem sc_l_word : FnScope ["_law_box", "_law_few", "_law_many", "_law_turn"] ["_law_box", "_law_few", "_law_many"] (fnScope s_l_word) := fnScope_by (by decide +kernel)
theorem cal_l_word {f : Addr} {fd : FuncData} (F : Def K mg "_law_word" s_l_word f fd) (b : Binds K fd ["_law_box", "_law_few", "_law_many"] []) (T : Tx mg)
    (c_l_choose : Cal P w K mg base 1 "_law_choose" spChoose []) (c_l_one_of : Cal P w K mg base 2 "_law_one_of" spOneOf []) : Cal P w K mg base 3 "_law_word" spWordF [] := by
  refine cal0 F b .nil sc_l_word (fun vs H Q E h => ?_) (fun cdv A outer s H vs Q E hr h => ?_)
  · obtain ⟨_, _, _, rfl, _⟩ := h; rfl
  · obtain ⟨bx, few, many, rfl, hb, h1, h2, k⟩ := h
    refine ⟨_, (pss_one (ps_ret (pe_join pe_str (pe_lc (own := [("_law_turn", 3)]) (g := gName 3) (by rfl) sc_l_word.nd (pi_range1 (by rfl) T.b_range (pa_cons (pe_op op_add (pv 1) (pe_c c_l_choose hr (by decide) rfl (pa_cons (pv 0) (pa_cons (pe_op op_add (pe_op op_sub (pv 2) (pv 1)) pe_int) pa_nil)))) pa_nil)) (blkOk_by (own := [("_law_turn", 3)]) (N := ["_law_box", "_law_few", "_law_many", "_law_turn"]) (sc := fnScope s_l_word) (by decide +kernel)) (fun _ _ _ _ _ => (pg_name (i := 3) sc_l_word.nd rfl (.inl rfl))) (fun _ _ _ _ _ => pts_nil) (fun _ _ _ _ _ => (pe_c c_l_one_of hr (by decide) rfl (pa_cons (pv 0) (pa_cons (pe_lst (pa_cons pe_str (pa_cons pe_str pa_nil))) pa_nil)))))))), ?_⟩
    refine ⟨⟨_, rfl⟩, ?_⟩
    refine ⟨_, rfl, _, rfl, _, rfl, _, rfl, _, _, rfl, rfl, _, _, rfl, rfl, bx, _, rfl, hb, (by omega), (by omega), fun d H1 d0 d1 u1 => ?_⟩
    refine ⟨_, _, rfl, rfl, _, rfl, by omega, by omega, fun D nD => ?_⟩
    have nb : D ≠ bx := u1.2.ne nD
    refine lc_it (walk_range (lo := 0) (n := ((few : Int) + d).toNat)) (fun i H2 => ∃ l : List Bool, l.length = i ∧ Up bx H H2 ∧ H2 D = some (.lst (bitsV l)))
      ⟨[], rfl, u1.mut (u1.free nD) nb, upd_same⟩ (fun _ _ _ _ => trivial) ?_ ?_
    · rintro i x H2 H3 hi ⟨l, rfl, u2, hD⟩ ⟨rfl, rfl⟩
      refine ⟨rfl, ?_⟩
      refine ⟨_, rfl, by show 2 ≤ sizeLine; decide, fun p hp => ?_⟩
      have np : p ≠ bx := u2.2.ne hp
      refine ⟨bx, p, _, rfl, u2.2.same (same_upd hp), upd_same, np, by decide, by decide, fun v H4 hv u4 => ?_⟩
      obtain ⟨b, rfl⟩ := mem2 hv
      have hD4 : H4 D = some (.lst (bitsV l)) := u4.1 _ _ (same_upd hp _ _ hD) nb
      refine ⟨_, hD4, ?_, l ++ [b], by simp, ?_, ?_⟩
      · unfold bitsV; rw [List.length_map, List.length_map]; exact sl_lt (by omega)
      · exact ((u2.same (same_upd hp)).trans u4).mut (u1.free nD) nb
      · rw [upd_same]; unfold bitsV; simp
    · rintro H2 ⟨l, hl, u2, hD⟩
      refine ⟨_, D, l.map fun b => W [b], rfl, rfl, .inl (SqL.of hD), ?_, ?_⟩
      · rw [lens_bits]
        have e0 : ("" : Str).length = 0 := by decide +kernel
        rw [e0]; omega
      · show Q (.str (Txt.join "" (l.map fun b => W [b]))) H2
        rw [join_bits]
        exact k l H2 (by omega) (by omega) u2
end
end U

set_option maxRecDepth 100000
set_option maxHeartbeats 4000000
set_option pp.maxSteps 400
namespace U
open PySem PySem.Spec PyProof.Rows
open L2 hiding Fun CX0 E0 pass0 Fun.binds
open C8 Lx SX StX
def spLaw (K : PySem.W.Frag) : Sp := fun vs H Q _ => ∃ (a : Addr) (ns : List Int), vs = [.ref a] ∧ SqL K H a (ns.map V.int) ∧ ns.length ≤ 63 ∧ ∀ H', Q (.bl true) H'
theorem stOk0 : StOk [] := ⟨Nat.zero_le _, (fun _ h => nomatch h), Nat.zero_le _, .nil⟩
theorem cutV_to {xs : List V} {i : Nat} (h : i ≤ xs.length) : cutV xs none (some (i : Int)) = xs.take i := by
  unfold cutV
  rw [HT.sIx_none, HT.sIx_nat, List.drop_zero, Nat.sub_zero, Nat.min_eq_left h]
theorem cutV_from {xs : List V} {i : Nat} (h : i ≤ xs.length) : cutV xs (some (i : Int)) none = xs.drop i := by
  unfold cutV
  rw [HT.sIx_none, HT.sIx_nat, Nat.min_eq_left h, List.take_of_length_le (by rw [List.length_drop]; omega)]
theorem cutV_one {xs : List V} : cutV xs none (some 1) = xs.take 1 := by
  unfold cutV
  rw [HT.sIx_none, show (1 : Int) = ((1 : Nat) : Int) from rfl, HT.sIx_nat, List.drop_zero, Nat.sub_zero]
  cases xs with
  | nil => rfl
  | cons x r => rw [List.length_cons, Nat.min_eq_left (by omega)]
/-- an odd one among hits, while the box turns -/
def Odd (K : PySem.W.Frag) (b : Addr) (e n : Nat) (H : Hp) (v : V) : Prop := ∃ g, hitG e n g = false ∧ ∀ H', Up b H H' → HvAt K H' v g
theorem Odd.up {K : PySem.W.Frag} {b : Addr} {e n : Nat} {H H' : Hp} {v : V} (h : Odd K b e n H v) (u : Up b H H') : Odd K b e n H' v := by
  obtain ⟨g, h1, h2⟩ := h
  exact ⟨g, h1, fun H2 u2 => h2 H2 (u.trans u2)⟩
theorem odd_tup {K : PySem.W.Frag} {b t : Addr} {e n : Nat} {H : Hp} {xs : List V} (hb : Box H b) (nt : H t = none) (ha : xs.all sc4 = true) (hx : hitB e n xs = false) : Up b H (upd H t (.tup xs)) ∧ Odd K b e n (upd H t (.tup xs)) (.ref t) := by
  have s := same_upd (o := .tup xs) nt
  have hb' := hb.same s
  exact ⟨Up.of_same hb s, .tup xs, hx, fun H' u => ⟨t, rfl, u.1 _ _ upd_same (hb'.neT upd_same), ha⟩⟩
theorem odd_lst {K : PySem.W.Frag} {b t : Addr} {e n : Nat} {H : Hp} {xs : List V} (hb : Box H b) (nt : H t = none) : Up b H (upd H t (.lst xs)) ∧ Odd K b e n (upd H t (.lst xs)) (.ref t) := by
  have s := same_upd (o := .lst xs) nt
  exact ⟨Up.of_same hb s, .oth, rfl, fun H' u => ⟨_, kit_ty (by decide +kernel), fun H2 s2 => .base (.lst (s2 _ _ (u.1 _ _ upd_same (hb.ne nt))))⟩⟩
theorem odd_non {K : PySem.W.Frag} {b : Addr} {e n : Nat} {H : Hp} : Odd K b e n H .non := ⟨.oth, rfl, fun _ _ => ⟨_, kit_ty (by decide +kernel), fun _ _ => .base .non⟩⟩
theorem odd_str {K : PySem.W.Frag} {b : Addr} {e n : Nat} {H : Hp} (z : Str) : Odd K b e n H (.str z) := ⟨.oth, rfl, fun _ _ => ⟨_, kit_ty (by decide +kernel), fun _ _ => .base (.str z)⟩⟩
/-- no sequence -/
def NoQ (K : PySem.W.Frag) (b : Addr) (H : Hp) (v : V) : Prop := ∃ t, PySem.W.kitOne K t (.type "list") = some false ∧ PySem.W.kitOne K t (.type "tuple") = some false ∧ ∀ H', Up b H H' → TyX K H' v t
theorem NoQ.up {K : PySem.W.Frag} {b : Addr} {H H' : Hp} {v : V} (h : NoQ K b H v) (u : Up b H H') : NoQ K b H' v := by
  obtain ⟨t, h1, h2, h3⟩ := h
  exact ⟨t, h1, h2, fun H2 u2 => h3 H2 (u.trans u2)⟩
theorem noQ_sc {K : PySem.W.Frag} {b : Addr} {H : Hp} {v : V} (h : sc4 v = true) : NoQ K b H v := by
  cases v with
  | non => exact ⟨_, kit_ty (by decide +kernel), kit_ty (by decide +kernel), fun _ _ => .base .non⟩
  | bl x => exact ⟨_, kit_ty (by decide +kernel), kit_ty (by decide +kernel), fun _ _ => .base (.bl x)⟩
  | int i => exact ⟨_, kit_ty (by decide +kernel), kit_ty (by decide +kernel), fun _ _ => .base (.int i)⟩
  | str z => exact ⟨_, kit_ty (by decide +kernel), kit_ty (by decide +kernel), fun _ _ => .base (.str z)⟩
  | _ => cases h
/-- hits as data -/
def hitD (h : Nat × Kd) : PyData := .tuple [.int (h.1 : Nat), .str (kS h.2)]
theorem canLay_hits : ∀ hs : List (Nat × Kd), PyData.canLayAll0 (hs.map hitD) = true
  | [] => by simp [PyData.canLayAll0]
  | h :: r => by
    rw [List.map_cons, PyData.canLayAll0, canLay_hits r, Bool.and_true]
    unfold hitD
    have e : PyData.strOk (kS h.2) = true := by cases h.2 <;> decide +kernel
    simp only [PyData.canLay0, PyData.canLayAll0, e, Bool.and_true, Bool.true_and]
theorem depth_hits : ∀ hs : List (Nat × Kd), PyData.depthAll (hs.map hitD) ≤ 1
  | [] => by simp [PyData.depthAll]
  | s :: r => by
    have := depth_hits r
    rw [List.map_cons, PyData.depthAll]
    have e : PyData.depth (hitD s) = 1 := by unfold hitD; simp [PyData.depth, PyData.depthAll]
    rw [e]
    omega
theorem shaped_hits (hs : List (Nat × Kd)) : SeqAt.shaped (.list (hs.map hitD)) = true := by
  unfold SeqAt.shaped
  rw [PyData.canLay0, canLay_hits, Bool.true_and]
  refine decide_eq_true ?_
  rw [PyData.depth]
  have := depth_hits hs
  omega
theorem dp_hits {K : PySem.W.Frag} {H : Hp} : ∀ {ps : List Addr} {hs : List (Nat × Kd)}, Paired (HitAt H) ps hs → DpAll K H (ps.map V.ref) (hs.map hitD)
  | _, _, .nil => .nil
  | _, _, .cons x t => .cons (.tup (SqT.of x) (.cons (.int _) (.cons (.str _) .nil))) (dp_hits t)
theorem eqv_nil : ∀ hs : List (Nat × Kd), PyData.eqv (.list (hs.map hitD)) (.list []) = decide (hs = [])
  | [] => by simp [PyData.eqv, PyData.eqvAll]
  | _ :: _ => by simp [PyData.eqv, PyData.eqvAll]
theorem hb_ge {lo n : Nat} {i : Nat} {v : V} (h : n ≤ i) : hitB lo n [.int (i : Nat), v] = false := by
  cases e : hitB lo n [.int (i : Nat), v] with
  | false => rfl
  | true =>
    obtain ⟨p, k, e1, _, h2⟩ := hitB_true e
    have := V.int.inj (List.cons.inj e1).1
    omega
theorem hb_lt {lo n : Nat} {i : Int} {v : V} (h : i < lo) : hitB lo n [.int i, v] = false := by
  cases e : hitB lo n [.int i, v] with
  | false => rfl
  | true =>
    obtain ⟨p, k, e1, h1, _⟩ := hitB_true e
    have := V.int.inj (List.cons.inj e1).1
    omega
theorem hb_kind {lo n : Nat} {i : Int} {z : Str} (h : inV (.str z) kindsV = false) : hitB lo n [.int i, .str z] = false := by
  cases e : hitB lo n [.int i, .str z] with
  | false => rfl
  | true =>
    obtain ⟨p, k, e1, _, _⟩ := hitB_true e
    have e2 := V.str.inj (List.cons.inj (List.cons.inj e1).2).1
    rw [e2, kind_in] at h
    cases h
theorem mk_r0 {K : PySem.W.Frag} {C dE : Addr} {H : Hp} {R : Addr → Hp → Prop} {E : XK} (hE : ∀ H, SqT K H dE []) (k : ∀ x H', Same H H' → (∀ b, Box H b → x ≠ b) ∧ (∃ dx fs, H' x = some (.ins C dx fs)) → R x H') :
    ∀ x dx, H x = none → H dx = none → dx ≠ x → spRuInit K C [.ref x, .str "01", .ref dE] (upd (upd H dx (.own x)) x (.ins C dx [])) (fun v H2 => v = .non ∧ R x H2) E := by
  intro x dx nx ndx nex
  refine ⟨x, dx, dE, [false, true], [], fun _ => ([], false), rfl, upd_same, .inr (hE _), (fun _ h => nomatch h), stOk0, okR_nil, by decide, by decide, fun H3 ss keep pm srt hR => ⟨rfl, k x H3 (fun c o e => keep c o (by rw [upd_ne (ne_of_none e nx), upd_ne (ne_of_none e ndx)]; exact e) (ne_of_none e nx)) ⟨fun b hb => hb.ne nx, ?_⟩⟩⟩
  obtain ⟨d, t, _, _, h, _⟩ := hR
  exact ⟨_, _, h⟩
theorem heard_told {n : Nat} {hs : List (Nat × Kd)} (h : Asc 0 n hs) : heardM n (hs.map gh) = .str "told" := by unfold heardM; rw [bad_none h]
theorem heard_mid {n : Nat} {hs : List (Nat × Kd)} {g : Tg} {r : List Tg} (h : Asc 0 n hs) (hg : hitG (endM 0 hs) n g = false) : heardM n (hs.map gh ++ g :: r) = .int hs.length := by unfold heardM; rw [bad_mid h hg]
section
variable {P : Program} {w : World} {K : PySem.W.Frag} {mg : Str → Option Value} {base : Heap}
theorem sc_law : FnScope ["_law_script", "_law_k", "_law_box", "_law_turn", "_law_line", "_law_many", "_law_told", "_law_spot", "_law_at", "_law_last", "_law_odd", "_law_bent", "_law_value", "_law_row"] ["_law_script"] (fnScope s_law) := fnScope_by (by decide +kernel)
theorem ok_law {f C dE : Addr} {fd : FuncData} (F : Def K mg "law" s_law f fd) (T : Tx mg) (RT : RuT K C) (IS_Rule : IsT K C) (hE : ∀ H, SqT K H dE []) (kon_rule_list : PySem.W.kitOne K (.ref C) (.type "list") = some false) (kon_rule_tuple : PySem.W.kitOne K (.ref C) (.type "tuple") = some false)
    (c_l_seed : Cal P w K mg base 1 "_law_seed" (spSeed K) []) (c_l_choose : Cal P w K mg base 1 "_law_choose" spChoose []) (c_l_one_of : Cal P w K mg base 2 "_law_one_of" spOneOf []) (c_l_word : Cal P w K mg base 3 "_law_word" spWordF []) (c_l_deep : Cal P w K mg base 1 "_law_deep" spDeep []) (c_l_heard : Cal P w K mg base 5 "_law_heard" (spHeardH K) [])
    (m_Rule1 : Mak P w K mg base 5 "Rule" C (spRuInit K C) [.ref dE]) : FnOk P w K mg base CX0 8 f fd ["_law_script"] (spLaw K) := by
  refine fn0 F.fn sc_law (fun vs H Q E h => ?_) (fun cdv A outer s H vs Q E hr h => ?_)
  · obtain ⟨_, _, rfl, _⟩ := h; rfl
  · obtain ⟨a, ns, rfl, hS, hlen, k⟩ := h
    refine ⟨_, (pss_cons (ps_for PassesOwn.never rfl (pi_range1 (by rfl) T.b_range (pa_cons (pe_callB (call_max2 rfl) (by rfl) T.b_max (by decide +kernel) (pa_cons pe_int (pa_cons (pe_callB (call_min2 rfl) (by rfl) T.b_min (by decide +kernel) (pa_cons pe_int (pa_cons (pe_callB call_len_seq (by rfl) T.b_len (by decide +kernel) (pa_cons (pv 0) pa_nil)) pa_nil))) pa_nil))) pa_nil)) (pg_name (i := 1) sc_law.nd rfl (.inl rfl))
    (pss_cons (ps_set (i := 2) sc_law.nd rfl (.inl rfl) (pe_c c_l_seed hr (by decide) rfl (pa_cons (pv 0) (pa_cons (pv 1) pa_nil))))
    (pss_one (ps_for PassesOwn.never rfl (pi_range1 (by rfl) T.b_range (pa_cons pe_int pa_nil)) (pg_name (i := 3) sc_law.nd rfl (.inl rfl))
    (pss_cons (ps_set (i := 4) sc_law.nd rfl (.inl rfl) (pe_c c_l_word hr (by decide) rfl (pa_cons (pv 2) (pa_cons pe_int (pa_cons pe_int pa_nil)))))
    (pss_cons (ps_set (i := 5) sc_law.nd rfl (.inl rfl) (pe_callB call_len_str (by rfl) T.b_len (by decide +kernel) (pa_cons (pv 4) pa_nil)))
    (pss_cons (ps_set (i := 6) sc_law.nd rfl (.inl rfl) (pe_lst pa_nil))
    (pss_cons (ps_for PassesOwn.never rfl (pi_range1 (by rfl) T.b_range (pa_cons (pv 5) pa_nil)) (pg_name (i := 7) sc_law.nd rfl (.inl rfl))
    (pss_one (ps_if (pt_cmpR op_eq (pe_c c_l_choose hr (by decide) rfl (pa_cons (pv 2) (pa_cons pe_int pa_nil))) pe_int (nomark _)) (pss_one (ps_expr (pe_bm PySem.F.plainAttrs_list PySem.F.slot_list_append PySem.F.type_list_append mt_append (pv 6) (pa_cons (pe_tup (pa_cons (pv 7) (pa_cons (pe_c c_l_one_of hr (by decide) rfl (pa_cons (pv 2) (pa_cons (pe_lst (pa_cons pe_str (pa_cons pe_str (pa_cons pe_str pa_nil)))) pa_nil))) pa_nil))) pa_nil)))) pss_nil)))
    (pss_cons (ps_set (i := 8) sc_law.nd rfl (.inl rfl) (pe_c c_l_choose hr (by decide) rfl (pa_cons (pv 2) (pa_cons (pe_op op_add (pe_callB call_len_seq (by rfl) T.b_len (by decide +kernel) (pa_cons (pv 6) pa_nil)) pe_int) pa_nil))))
    (pss_cut (ps_set (i := 9) sc_law.nd rfl (.inl rfl) (pe_ifExp (pt_cmpR op_gt (pv 8) pe_int (nomark _)) (pe_ix ix_tup (pe_ix ix_list (pv 6) (pe_op op_sub (pv 8) pe_int) (fun _ _ => rfl)) pe_int (fun _ _ => rfl)) (pe_op op_sub pe_int pe_int)))
    (pss_cons (ps_set (i := 10) sc_law.nd rfl (.inl rfl) (pe_lst (pa_cons pe_non (pa_cons (pe_tup (pa_cons pe_int pa_nil)) (pa_cons (pe_tup (pa_cons (pv 5) (pa_cons pe_str pa_nil))) (pa_cons (pe_tup (pa_cons (pe_op op_sub pe_int pe_int) (pa_cons pe_str pa_nil))) (pa_cons (pe_lst (pa_cons (pe_op op_add (pv 9) pe_int) (pa_cons pe_str pa_nil))) (pa_cons (pe_tup (pa_cons (pe_op op_add (pv 9) pe_int) (pa_cons pe_str pa_nil))) (pa_cons (pe_tup (pa_cons pe_bl (pa_cons pe_str pa_nil))) pa_nil)))))))))
    (pss_cons (ps_set (i := 10) sc_law.nd rfl (.inl rfl) (pe_op op_cat (pv 10) (pe_lst (pa_cons (pe_tup (pa_cons pe_str (pa_cons pe_str pa_nil))) (pa_cons (pe_tup (pa_cons (pe_op op_add (pv 9) pe_int) (pa_cons pe_non pa_nil))) (pa_cons (pe_tup (pa_cons (pv 9) (pa_cons pe_str pa_nil))) (pa_cons (pe_mk m_Rule1 hr (by decide) rfl (pa_cons pe_str pa_nil)) (pa_cons (pe_c0 c_l_deep hr (by decide) rfl) (pa_cons (pe_tup (pa_cons (pv 5) (pa_cons pe_int pa_nil))) (pa_cons pe_str pa_nil))))))))))
    (pss_cons (ps_set (i := 11) sc_law.nd rfl (.inl rfl) (pe_op op_cat (pe_op op_cat (pe_slice sl_list (pv 6) po_none (po_some (pv 8))) (pe_lst (pa_cons (pe_c c_l_one_of hr (by decide) rfl (pa_cons (pv 2) (pa_cons (pv 10) pa_nil))) pa_nil))) (pe_slice sl_list (pv 6) (po_some (pv 8)) po_none)))
    (pss_cons (ps_if (PW.pt (pw_or (pt_cmpR op_ne (pe_c c_l_heard hr (by decide) rfl (pa_cons (pv 4) (pa_cons (pv 6) pa_nil))) pe_str (nomark _)) (pw_or (pt_cmpR op_ne (pe_c c_l_heard hr (by decide) rfl (pa_cons (pv 4) (pa_cons (pv 11) pa_nil))) (pv 8) (nomark _)) (pw_or1 (pt_cmpR op_ne (pe_c c_l_heard hr (by decide) rfl (pa_cons (pv 4) (pa_cons (pe_callTy call_tuple_of (by rfl) T.b_tuple (by decide +kernel) (pa_cons (pv 11) pa_nil)) pa_nil))) (pv 8) (nomark _)))))) (pss_one (ps_ret pe_bl)) pss_nil)
    (pss_cons (ps_set (i := 12) sc_law.nd rfl (.inl rfl) (pe_c c_l_one_of hr (by decide) rfl (pa_cons (pv 2) (pa_cons (pe_lst (pa_cons pe_non (pa_cons pe_int (pa_cons pe_str (pa_cons pe_str (pa_cons pe_bl (pa_cons (pe_mk m_Rule1 hr (by decide) rfl (pa_cons pe_str pa_nil)) (pa_cons pe_int pa_nil)))))))) pa_nil))))
    (pss_cons (ps_if (pt_cmpR op_ne (pe_c c_l_heard hr (by decide) rfl (pa_cons (pv 4) (pa_cons (pv 12) pa_nil))) pe_int (nomark _)) (pss_one (ps_ret pe_bl)) pss_nil)
    (pss_cons (ps_set (i := 13) sc_law.nd rfl (.inl rfl) (pe_op op_cat (pv 6) (pe_slice sl_list (pv 6) po_none (po_some pe_int))))
    (pss_one (ps_if (PW.pt (pw_and (pt_cmpR (op_neD hr.units) (pv 6) (pe_lst pa_nil) (nomark _)) (pw_and1 (pt_cmpR op_ne (pe_c c_l_heard hr (by decide) rfl (pa_cons (pv 4) (pa_cons (pv 13) pa_nil))) (pe_callB call_len_seq (by rfl) T.b_len (by decide +kernel) (pa_cons (pv 6) pa_nil)) (nomark _))))) (pss_one (ps_ret pe_bl)) pss_nil)))))))))))))))))))
    (pss_one (ps_ret (pe_cmpR op_eq (pe_c c_l_heard hr (by decide) rfl (pa_cons pe_str (pa_cons (pe_lst (pa_cons (pe_tup (pa_cons pe_int (pa_cons pe_str pa_nil))) pa_nil)) pa_nil))) pe_int (nomark _))))), ?_⟩
    refine ⟨_, rfl, a, _, rfl, .inl hS, _, _, rfl, _, _, rfl, _, rfl, by split <;> split <;> omega, by rw [List.length_map]; split <;> split <;> omega, ?_⟩
    refine for_it walk_range (fun i σ H2 => ∃ v1 v2 v3 v4 v5 v6 v7 v8 v9 v10 v11 v12 v13 : Option V, σ = [some (.ref a), v1, v2, v3, v4, v5, v6, v7, v8, v9, v10, v11, v12, v13] ∧ Same H H2) ⟨_, _, _, _, _, _, _, _, _, _, _, _, _, rfl, Same.refl _⟩ (fun _ _ _ _ _ => trivial) ?_ ?_
    · rintro i x σ H2' H2 hi ⟨v1, v2, v3, v4, v5, v6, v7, v8, v9, v10, v11, v12, v13, rfl, s2⟩ ⟨rfl, rfl⟩
      refine ⟨_, rfl, _, rfl, a, ns, i, (by show [V.ref a, V.int (0 + (i : Int))] = _; rw [Int.zero_add]), s2.seq hS, fun bx H1 nb1 s1 hb => ?_⟩
      refine ⟨_, rfl, by decide, by decide, for_it walk_range (fun j σ H3 => ∃ v1 v3 v4 v5 v6 v7 v8 v9 v10 v11 v12 v13 : Option V, σ = [some (.ref a), v1, some (.ref bx), v3, v4, v5, v6, v7, v8, v9, v10, v11, v12, v13] ∧ Up bx H1 H3) ⟨_, _, _, _, _, _, _, _, _, _, _, _, rfl, Up.refl hb⟩ (fun _ _ _ _ _ => trivial) ?_ ?_⟩
      · rintro j y σ H3' H3 hj ⟨v1, v3, v4, v5, v6, v7, v8, v9, v10, v11, v12, v13, rfl, u3⟩ ⟨rfl, rfl⟩
        refine ⟨_, rfl, bx, 3, 20, rfl, u3.2, by decide, by decide, fun l H4 l3 l20 u4 => ?_⟩
        have wl : (W l).length = l.length := W_len l
        refine ⟨_, rfl, _, rfl, by rw [wl]; exact sl_len (by omega), ?_⟩
        rw [wl]
        refine ⟨Nat.zero_le _, fun D nD => ?_⟩
        have nb : D ≠ bx := u4.2.ne nD
        refine ⟨_, rfl, _, rfl, by omega, by omega, ?_⟩
        have u34 := u3.trans u4
        refine for_it (walk_range (lo := 0) (n := ((l.length : Nat) : Int).toNat)) (fun i σ H5 => ∃ (ps : List Addr) (hs : List (Nat × Kd)), ∃ v1 v3 v7 v8 v9 v10 v11 v12 v13 : Option V, σ = [some (.ref a), v1, some (.ref bx), v3, some (.str (W l)), some (.int (l.length : Nat)), some (.ref D), v7, v8, v9, v10, v11, v12, v13] ∧ Up bx H4 H5 ∧ H5 D = some (.lst (ps.map V.ref)) ∧ Paired (HitAt H5) ps hs ∧ Asc 0 i hs ∧ hs.length ≤ i)
          ⟨[], [], _, _, _, _, _, _, _, _, _, rfl, (Up.refl u4.2).mut nD nb, upd_same, .nil, trivial, Nat.le_refl _⟩ (fun _ _ _ _ _ => trivial) ?_ ?_
        · rintro i x σ H5' H5 hi ⟨ps, hs, v1, v3, v7, v8, v9, v10, v11, v12, v13, rfl, u5, hD, hp, ha, hl⟩ ⟨rfl, rfl⟩
          refine ⟨_, rfl, bx, _, rfl, u5.2, by decide, by decide, fun d H6 d0 d1 u6 => ⟨rfl, _, rfl, ?_⟩⟩
          have hD6 := u6.1 _ _ hD nb
          have hp6 := hits_up u5.2 hp u6
          have u56 := u5.trans u6
          refine ite2 (fun _ => ?_) (fun _ => ?_)
          · refine ⟨_, rfl, .inl ⟨rfl, _, SqL.of hD6⟩, _, rfl, _, rfl, by show 3 ≤ sizeLine; decide, fun q hq => ?_⟩
            have nq : q ≠ bx := u56.2.ne hq
            refine ⟨bx, q, _, rfl, u56.2.same (same_upd hq), upd_same, nq, by decide, by decide, fun v H7 hv u7 => ⟨by show 2 ≤ sizeLine; decide, fun t ht => ?_⟩⟩
            obtain ⟨kd, rfl⟩ := mem3 hv
            have b6 : Box (upd H6 q (.lst [.str "turn", .str "lose", .str "double"])) bx := u56.2.same (same_upd hq)
            have hD7 := u7.1 _ _ (same_upd hq _ _ hD6) nb
            have hp7 := hits_up b6 (hits_same hp6 (same_upd hq)) u7
            have u8 := ((u56.same (same_upd hq)).trans u7).same (same_upd (o := .tup [.int (0 + (i : Int)), .str (kS kd)]) ht)
            have nDt : D ≠ t := ne_of_none hD7 ht
            have hD8 : upd H7 t (.tup [.int (0 + (i : Int)), .str (kS kd)]) D = some (.lst (ps.map V.ref)) := by rw [upd_ne nDt]; exact hD7
            refine ⟨D, _, _, rfl, rfl, hD8, ?_, ?_⟩
            · rw [List.length_map, paired_len hp]; exact sl_lt (by omega)
            · refine ⟨ps ++ [t], hs ++ [(i, kd)], _, _, _, _, _, _, _, _, _, rfl, u8.mut nD nb, ?_, ?_, asc_snoc ha (Nat.zero_le _), by rw [List.length_append]; simp only [List.length_cons, List.length_nil]; omega⟩
              · rw [upd_same, List.map_append]; rfl
              · refine hits_upd hD8 (paired_snoc (hits_same hp7 (same_upd ht)) ?_)
                show upd H7 t _ t = _
                rw [upd_same]
                show some (HO.tup [V.int (0 + (i : Int)), _]) = _
                rw [Int.zero_add]
          · exact ⟨ps, hs, _, _, _, _, _, _, _, _, _, rfl, u56, hD6, hp6, asc_mono ha (Nat.le_succ _), by omega⟩
        rintro σ H5 ⟨ps, hs, v1, v3, v7, v8, v9, v10, v11, v12, v13, rfl, u5, hD, hp, ha, hl⟩
        rw [Int.toNat_natCast] at ha hl
        have lp : ps.length = hs.length := paired_len hp
        have lpv : (ps.map V.ref).length = hs.length := by rw [List.length_map, lp]
        have u35 := u34.trans u5
        refine ⟨_, rfl, _, rfl, D, _, rfl, .inl (SqL.of hD), _, _, rfl, rfl, bx, _, rfl, u5.2, by rw [lpv]; omega, by rw [lpv]; omega, fun d H6 d0 d1 u6 => ?_⟩
        rw [lpv] at d1
        obtain ⟨at', rfl⟩ := Int.eq_ofNat_of_zero_le d0
        have hat : at' ≤ hs.length := by omega
        have hD6 := u6.1 _ _ hD nb
        have hp6 := hits_up u5.2 hp u6
        have u36 := u35.trans u6
        refine ⟨fun σ H' => ∃ last : Int, ∃ v1 v3 v7 v10 v11 v12 v13 : Option V, σ = [some (.ref a), v1, some (.ref bx), v3, some (.str (W l)), some (.int (l.length : Nat)), some (.ref D), v7, some (.int at'), some (.int last), v10, v11, v12, v13] ∧ H' = H6 ∧ last + 1 = (endM 0 (hs.take at') : Nat), ?_, ?_⟩
        · refine ⟨_, rfl, _, _, rfl, rfl, _, rfl, ?_⟩
          by_cases c : at' = 0
          · refine iteDF (by omega) ?_
            subst c
            exact ⟨_, _, rfl, rfl, _, _, _, _, _, _, _, _, rfl, rfl, rfl⟩
          · refine iteDT (by omega) ?_
            obtain ⟨h, hh⟩ : ∃ h, hs[at' - 1]? = some h := ⟨_, List.getElem?_eq_getElem (show at' - 1 < hs.length by omega)⟩
            obtain ⟨q, hq⟩ : ∃ q, ps[at' - 1]? = some q := ⟨_, List.getElem?_eq_getElem (show at' - 1 < ps.length by omega)⟩
            obtain ⟨h2, hh2, hat2⟩ := paired_get hp6 hq
            rw [hh] at hh2
            cases hh2
            refine ⟨_, rfl, _, rfl, _, _, rfl, rfl, D, _, _, _, rfl, rfl, SqL.of hD6, (by rw [show ((at' : Nat) : Int) - 1 = ((at' - 1 : Nat) : Int) by omega]; exact atI_nat (by rw [List.getElem?_map, hq]; rfl)), q, _, 0, _, rfl, rfl, SqT.of hat2, rfl, ?_⟩
            refine ⟨_, _, _, _, _, _, _, _, rfl, rfl, ?_⟩
            rw [show at' = (at' - 1) + 1 by omega, endM_take hh]
            rfl
        rintro σ G6 ⟨last, v1, v3, v7, v10, v11, v12, v13, rfl, rfl, hlast⟩
        generalize hen : endM 0 (hs.take at') = en at hlast
        have u0 : Up bx G6 G6 := Up.refl u6.2
        refine ⟨by show 1 ≤ sizeLine; decide, fun t1 n1 => ?_⟩
        obtain ⟨q1, r1⟩ := odd_tup (K := K) (e := en) (n := l.length) (xs := [.int 0]) u0.2 n1 rfl rfl
        generalize upd G6 t1 (.tup [.int 0]) = J1 at q1 r1 ⊢
        have v1 : Up bx G6 J1 := u0.trans q1
        refine ⟨_, rfl, by show 2 ≤ sizeLine; decide, fun t2 n2 => ?_⟩
        obtain ⟨q2, r2⟩ := odd_tup (K := K) (e := en) (n := l.length) (xs := [.int (l.length : Nat), .str "turn"]) v1.2 n2 rfl (hb_ge (Nat.le_refl _))
        generalize upd J1 t2 (.tup [.int (l.length : Nat), .str "turn"]) = J2 at q2 r2 ⊢
        have v2 : Up bx G6 J2 := v1.trans q2
        refine ⟨_, _, rfl, rfl, by show 2 ≤ sizeLine; decide, fun t3 n3 => ?_⟩
        obtain ⟨q3, r3⟩ := odd_tup (K := K) (e := en) (n := l.length) (xs := [.int (0 - 1), .str "turn"]) v2.2 n3 rfl (hitB_num rfl)
        generalize upd J2 t3 (.tup [.int (0 - 1), .str "turn"]) = J3 at q3 r3 ⊢
        have v3 : Up bx G6 J3 := v2.trans q3
        refine ⟨_, rfl, _, _, rfl, rfl, by show 2 ≤ sizeLine; decide, fun t4 n4 => ?_⟩
        obtain ⟨q4, r4⟩ := odd_lst (K := K) (e := en) (n := l.length) (xs := [.int (last + 1), .str "turn"]) v3.2 n4
        generalize upd J3 t4 (.lst [.int (last + 1), .str "turn"]) = J4 at q4 r4 ⊢
        have v4 : Up bx G6 J4 := v3.trans q4
        refine ⟨_, rfl, _, _, rfl, rfl, by show 2 ≤ sizeLine; decide, fun t5 n5 => ?_⟩
        obtain ⟨q5, r5⟩ := odd_tup (K := K) (e := en) (n := l.length) (xs := [.int (last + 1), .str "Turn"]) v4.2 n5 rfl (hb_kind (by decide +kernel))
        generalize upd J4 t5 (.tup [.int (last + 1), .str "Turn"]) = J5 at q5 r5 ⊢
        have v5 : Up bx G6 J5 := v4.trans q5
        refine ⟨by show 2 ≤ sizeLine; decide, fun t6 n6 => ?_⟩
        obtain ⟨q6, r6⟩ := odd_tup (K := K) (e := en) (n := l.length) (xs := [.bl true, .str "turn"]) v5.2 n6 rfl (hitB_num rfl)
        generalize upd J5 t6 (.tup [.bl true, .str "turn"]) = J6 at q6 r6 ⊢
        have v6 : Up bx G6 J6 := v5.trans q6
        refine ⟨by show 7 ≤ sizeLine; decide, fun L1 m1 => ?_⟩
        have w1 := same_upd (o := .lst [.non, .ref t1, .ref t2, .ref t3, .ref t4, .ref t5, .ref t6]) m1
        have e1 : upd J6 L1 (.lst [.non, .ref t1, .ref t2, .ref t3, .ref t4, .ref t5, .ref t6]) L1 = some (.lst [.non, .ref t1, .ref t2, .ref t3, .ref t4, .ref t5, .ref t6]) := upd_same
        have x1b : L1 ≠ bx := v6.2.ne m1
        have v7 : Up bx G6 (upd J6 L1 (.lst [.non, .ref t1, .ref t2, .ref t3, .ref t4, .ref t5, .ref t6])) := v6.same w1
        have y7 : Up bx J6 (upd J6 L1 (.lst [.non, .ref t1, .ref t2, .ref t3, .ref t4, .ref t5, .ref t6])) := Up.of_same v6.2 w1
        generalize upd J6 L1 (.lst [.non, .ref t1, .ref t2, .ref t3, .ref t4, .ref t5, .ref t6]) = J7 at w1 e1 v7 y7 ⊢
        have a1 : ∀ v ∈ ([.non, .ref t1, .ref t2, .ref t3, .ref t4, .ref t5, .ref t6] : List V), Odd K bx en l.length J7 v := fun v hv => by
          simp only [List.mem_cons, List.not_mem_nil, or_false] at hv
          rcases hv with rfl | rfl | rfl | rfl | rfl | rfl | rfl
          · exact odd_non
          · exact (((((r1.up q2).up q3).up q4).up q5).up q6).up y7
          · exact ((((r2.up q3).up q4).up q5).up q6).up y7
          · exact (((r3.up q4).up q5).up q6).up y7
          · exact ((r4.up q5).up q6).up y7
          · exact (r5.up q6).up y7
          · exact r6.up y7
        clear r1 r2 r3 r4 r5 r6 q1 q2 q3 q4 q5 q6 n1 n2 n3 n4 n5 n6 v1 v2 v3 v4 v5 v6 w1 m1 y7
        have len1 : ([.non, .ref t1, .ref t2, .ref t3, .ref t4, .ref t5, .ref t6] : List V).length = 7 := rfl
        generalize ([.non, .ref t1, .ref t2, .ref t3, .ref t4, .ref t5, .ref t6] : List V) = X1 at e1 a1 len1
        refine ⟨_, rfl, ?_⟩
        refine ⟨by show 2 ≤ sizeLine; decide, fun t7 n7 => ?_⟩
        obtain ⟨q7, r7⟩ := odd_tup (K := K) (e := en) (n := l.length) (xs := [.str "0", .str "turn"]) v7.2 n7 rfl (hitB_num rfl)
        generalize upd J7 t7 (.tup [.str "0", .str "turn"]) = J8 at q7 r7 ⊢
        have v8 : Up bx G6 J8 := v7.trans q7
        refine ⟨_, rfl, _, _, rfl, rfl, by show 2 ≤ sizeLine; decide, fun t8 n8 => ?_⟩
        obtain ⟨q8, r8⟩ := odd_tup (K := K) (e := en) (n := l.length) (xs := [.int (last + 1), .non]) v8.2 n8 rfl rfl
        generalize upd J8 t8 (.tup [.int (last + 1), .non]) = J9 at q8 r8 ⊢
        have v9 : Up bx G6 J9 := v8.trans q8
        refine ⟨_, rfl, by show 2 ≤ sizeLine; decide, fun t9 n9 => ?_⟩
        obtain ⟨q9, r9⟩ := odd_tup (K := K) (e := en) (n := l.length) (xs := [.int last, .str "turn"]) v9.2 n9 rfl (hb_lt (by omega))
        generalize upd J9 t9 (.tup [.int last, .str "turn"]) = Ja at q9 r9 ⊢
        have va : Up bx G6 Ja := v9.trans q9
        refine mk_r0 hE fun x1 Jb sb hx1 => ?_
        obtain ⟨nx1, dx1, fs1, hx1⟩ := hx1
        have rx : Odd K bx en l.length Jb (.ref x1) := ⟨.oth, rfl, fun H' u => ⟨_, kon_rule_tuple, fun H2 s2 => IS_Rule.ty (s2 _ _ (u.1 _ _ hx1 (nx1 bx va.2)))⟩⟩
        have qb : Up bx Ja Jb := Up.of_same va.2 sb
        have vb : Up bx G6 Jb := va.trans qb
        refine ⟨rfl, fun dd xsd Jc sc nd hd => ?_⟩
        have ddb : dd ≠ bx := vb.2.ne nd
        have qc : Up bx Jb Jc := Up.of_same vb.2 sc
        have rd : Odd K bx en l.length Jc (.ref dd) := ⟨.oth, rfl, fun H' u => ⟨_, kit_ty (by decide +kernel), fun H2 s2 => .base (.lst (s2 _ _ (u.1 _ _ hd ddb)))⟩⟩
        have vc : Up bx G6 Jc := vb.trans qc
        refine ⟨_, rfl, by show 2 ≤ sizeLine; decide, fun t10 n10 => ?_⟩
        obtain ⟨q10, r10⟩ := odd_tup (K := K) (e := en) (n := l.length) (xs := [.int (l.length : Nat), .int 0]) vc.2 n10 rfl rfl
        generalize upd Jc t10 (.tup [.int (l.length : Nat), .int 0]) = Jd at q10 r10 ⊢
        have vd : Up bx G6 Jd := vc.trans q10
        refine ⟨by show 7 ≤ sizeLine; decide, fun L2 m2 => ?_⟩
        have x2 : L2 ≠ bx := vd.2.ne m2
        have w2 := same_upd (o := .lst [.ref t7, .ref t8, .ref t9, .ref x1, .ref dd, .ref t10, .str "turn"]) m2
        have e2 : upd Jd L2 (.lst [.ref t7, .ref t8, .ref t9, .ref x1, .ref dd, .ref t10, .str "turn"]) L2 = some (.lst [.ref t7, .ref t8, .ref t9, .ref x1, .ref dd, .ref t10, .str "turn"]) := upd_same
        have y2 : Up bx Jd (upd Jd L2 (.lst [.ref t7, .ref t8, .ref t9, .ref x1, .ref dd, .ref t10, .str "turn"])) := Up.of_same vd.2 w2
        generalize upd Jd L2 (.lst [.ref t7, .ref t8, .ref t9, .ref x1, .ref dd, .ref t10, .str "turn"]) = Je at w2 e2 y2 ⊢
        have a2 : ∀ v ∈ ([.ref t7, .ref t8, .ref t9, .ref x1, .ref dd, .ref t10, .str "turn"] : List V), Odd K bx en l.length Je v := fun v hv => by
          simp only [List.mem_cons, List.not_mem_nil, or_false] at hv
          rcases hv with rfl | rfl | rfl | rfl | rfl | rfl | rfl
          · exact (((((r7.up q8).up q9).up qb).up qc).up q10).up y2
          · exact ((((r8.up q9).up qb).up qc).up q10).up y2
          · exact (((r9.up qb).up qc).up q10).up y2
          · exact ((rx.up qc).up q10).up y2
          · exact (rd.up q10).up y2
          · exact r10.up y2
          · exact odd_str _
        have ye : Up bx J7 Je := (((((q7.trans q8).trans q9).trans qb).trans qc).trans q10).trans y2
        have ve : Up bx G6 Je := vd.trans y2
        have len2 : ([.ref t7, .ref t8, .ref t9, .ref x1, .ref dd, .ref t10, .str "turn"] : List V).length = 7 := rfl
        generalize ([.ref t7, .ref t8, .ref t9, .ref x1, .ref dd, .ref t10, .str "turn"] : List V) = X2 at e2 a2 len2
        have a1' : ∀ v ∈ X1, Odd K bx en l.length Je v := fun v hv => (a1 v hv).up ye
        have e1' : Je L1 = some (.lst X1) := ye.1 _ _ e1 x1b
        clear a1 r7 r8 r9 rx rd r10 q7 q8 q9 qb qc q10 y2 w2 vd vc vb va v9 v8 n7 n8 n9 n10 m2 e1 ye
        refine ⟨L1, L2, _, _, rfl, rfl, e1', e2, by rw [len1, len2]; show 14 ≤ sizeLine; decide, fun L3 m3 => ?_⟩
        have w3 := same_upd (o := .lst (X1 ++ X2)) m3
        have e3 : upd Je L3 (.lst (X1 ++ X2)) L3 = some (.lst (X1 ++ X2)) := upd_same
        have x3 : L3 ≠ bx := ve.2.ne m3
        have y3 : Up bx Je (upd Je L3 (.lst (X1 ++ X2))) := Up.of_same ve.2 w3
        generalize upd Je L3 (.lst (X1 ++ X2)) = Jf at w3 e3 y3 ⊢
        have a3 : ∀ v ∈ X1 ++ X2, Odd K bx en l.length Jf v := fun v hv => (List.mem_append.mp hv).elim (fun h => (a1' v h).up y3) (fun h => (a2 v h).up y3)
        have len3 : (X1 ++ X2).length = 14 := by rw [List.length_append, len1, len2]
        generalize X1 ++ X2 = X3 at e3 a3 len3
        have vf : Up bx G6 Jf := ve.trans y3
        clear e1' e2 a1' a2 len1 len2 w3 m3 ve y3
        -- the bent list
        have hDf := vf.1 _ _ hD6 nb
        have hpf := hits_up u6.2 hp6 vf
        have hatp : at' ≤ (ps.map V.ref).length := by rw [lpv]; exact hat
        refine ⟨_, rfl, _, rfl, _, rfl, D, _, rfl, SqL.of hDf, fun c1 nc1 => ?_⟩
        rw [cutV_to hatp]
        have w1 := same_upd (o := .lst ((ps.map V.ref).take at')) nc1
        have hc1 : upd Jf c1 (.lst ((ps.map V.ref).take at')) c1 = some (.lst ((ps.map V.ref).take at')) := upd_same
        have xc1 : c1 ≠ bx := vf.2.ne nc1
        have y1 : Up bx Jf (upd Jf c1 (.lst ((ps.map V.ref).take at'))) := Up.of_same vf.2 w1
        generalize upd Jf c1 (.lst ((ps.map V.ref).take at')) = Jg at w1 hc1 y1 ⊢
        refine ⟨_, rfl, _, rfl, bx, L3, _, rfl, y1.2, w1 _ _ e3, x3, by rw [len3]; decide, by rw [len3]; decide, fun o Jh ho uh => ⟨by show 1 ≤ sizeLine; decide, fun c2 nc2 => ?_⟩⟩
        have oo : Odd K bx en l.length Jh o := ((a3 o ho).up y1).up uh
        have w2 := same_upd (o := .lst [o]) nc2
        have hc2 : upd Jh c2 (.lst [o]) c2 = some (.lst [o]) := upd_same
        have xc2 : c2 ≠ bx := uh.2.ne nc2
        have y2 : Up bx Jh (upd Jh c2 (.lst [o])) := Up.of_same uh.2 w2
        generalize upd Jh c2 (.lst [o]) = Ji at w2 hc2 y2 ⊢
        have hc1i := w2 _ _ (uh.1 _ _ hc1 xc1)
        refine ⟨c1, c2, _, _, rfl, rfl, hc1i, hc2, by rw [List.length_take, lpv]; exact sl_len (by show _ + 1 ≤ 100000; omega), fun c3 nc3 => ?_⟩
        have w3 := same_upd (o := .lst ((ps.map V.ref).take at' ++ [o])) nc3
        have hc3 : upd Ji c3 (.lst ((ps.map V.ref).take at' ++ [o])) c3 = some (.lst ((ps.map V.ref).take at' ++ [o])) := upd_same
        have y3 : Up bx Ji (upd Ji c3 (.lst ((ps.map V.ref).take at' ++ [o]))) := Up.of_same y2.2 w3
        generalize upd Ji c3 (.lst ((ps.map V.ref).take at' ++ [o])) = Jj at w3 hc3 y3 ⊢
        have yj : Up bx Jf Jj := ((y1.trans uh).trans y2).trans y3
        refine ⟨_, rfl, _, rfl, _, rfl, D, _, rfl, SqL.of (yj.1 _ _ hDf nb), fun c4 nc4 => ?_⟩
        rw [cutV_from hatp]
        have w4 := same_upd (o := .lst ((ps.map V.ref).drop at')) nc4
        have hc4 : upd Jj c4 (.lst ((ps.map V.ref).drop at')) c4 = some (.lst ((ps.map V.ref).drop at')) := upd_same
        have y4 : Up bx Jj (upd Jj c4 (.lst ((ps.map V.ref).drop at'))) := Up.of_same y3.2 w4
        generalize upd Jj c4 (.lst ((ps.map V.ref).drop at')) = Jk at w4 hc4 y4 ⊢
        refine ⟨c3, c4, _, _, rfl, rfl, w4 _ _ hc3, hc4, by rw [List.length_append, List.length_take, List.length_drop, lpv]; exact sl_len (by show _ + 1 + _ ≤ 100000; omega), fun B nB => ?_⟩
        have w5 := same_upd (o := .lst ((ps.map V.ref).take at' ++ [o] ++ (ps.map V.ref).drop at')) nB
        have hB : upd Jk B (.lst ((ps.map V.ref).take at' ++ [o] ++ (ps.map V.ref).drop at')) B = some (.lst ((ps.map V.ref).take at' ++ [o] ++ (ps.map V.ref).drop at')) := upd_same
        have xB : B ≠ bx := y4.2.ne nB
        have y5 : Up bx Jk (upd Jk B (.lst ((ps.map V.ref).take at' ++ [o] ++ (ps.map V.ref).drop at'))) := Up.of_same y4.2 w5
        generalize upd Jk B (.lst ((ps.map V.ref).take at' ++ [o] ++ (ps.map V.ref).drop at')) = Jl at w5 hB y5 ⊢
        have yl : Up bx Jf Jl := (yj.trans y4).trans y5
        have ol : Odd K bx en l.length Jl o := (((oo.up y2).up y3).up y4).up y5
        have hDl := yl.1 _ _ hDf nb
        have hpl := hits_up vf.2 hpf yl
        have vl : Up bx G6 Jl := vf.trans yl
        clear oo ho a3 e3 hc1 hc2 hc3 hc4 hc1i w1 w2 w3 w4 w5 y1 y2 y3 y4 y5 uh yj nc1 nc2 nc3 nc4 nB hDf hpf vf x3
        obtain ⟨g, hg, hgA⟩ := ol
        have hPB : ∀ H', Up bx Jl H' → Paired (HvAt K H') ((ps.map V.ref).take at' ++ [o] ++ (ps.map V.ref).drop at') ((hs.take at').map gh ++ g :: (hs.drop at').map gh) := fun H' u => by
          have hp' := hv_hits (K := K) (hits_up vl.2 hpl u)
          have e1 := paired_app (paired_app (paired_take at' hp') (.cons (hgA H' u) .nil)) (paired_drop at' hp')
          rw [List.append_assoc, List.append_assoc] at e1
          rw [List.append_assoc, List.map_take, List.map_drop]
          exact e1
        have hbad : heardM l.length ((hs.take at').map gh ++ g :: (hs.drop at').map gh) = .int at' := by
          rw [heard_mid (asc_take at' ha) (by rw [hen]; exact hg), List.length_take, Nat.min_eq_left hat]
        generalize ((ps.map V.ref).take at' ++ [o] ++ (ps.map V.ref).drop at') = XB at hB hPB
        generalize ((hs.take at').map gh ++ g :: (hs.drop at').map gh) = GB at hPB hbad
        have boxl : Box Jl bx := vl.2
        refine ⟨_, rfl, _, rfl, l, .ref D, rfl, by omega, .inr ⟨D, _, _, rfl, .inl (SqL.of hDl), hv_hits hpl, fun Jm sm => ?_⟩⟩
        rw [heard_told ha]
        refine ⟨rfl, _, rfl, iteNS rfl ?_⟩
        have um : Up bx Jl Jm := Up.of_same boxl sm
        refine ⟨_, rfl, _, rfl, l, .ref B, rfl, by omega, .inr ⟨B, _, _, rfl, .inl (SqL.of (sm _ _ hB)), hPB _ um, fun Jn sn => ?_⟩⟩
        rw [hbad]
        refine ⟨_, rfl, rfl, _, rfl, iteNS rfl ?_⟩
        have un : Up bx Jl Jn := um.same sn
        refine ⟨_, rfl, _, rfl, B, _, rfl, .inl ⟨SqL.of (sn _ _ (sm _ _ hB)), fun tb ntb => ?_⟩⟩
        have stb := same_upd (o := .tup XB) ntb
        refine ⟨l, .ref tb, rfl, by omega, .inr ⟨tb, _, _, rfl, .inr (SqT.of upd_same), hPB _ (un.same stb), fun Jo so => ?_⟩⟩
        rw [hbad]
        refine ⟨_, rfl, rfl, _, rfl, iteNS rfl ?_⟩
        have uo : Up bx Jl Jo := (un.same stb).same so
        -- a value that is no sequence
        have uoB : Box Jo bx := uo.2
        have hDo := uo.1 _ _ hDl nb
        have hpo := hits_up boxl hpl uo
        have voo := vl.trans uo
        clear hPB hbad hgA hg uo un um stb ntb so sn sm hDl hpl vl boxl hB
        refine ⟨_, rfl, ?_⟩
        refine mk_r0 hE fun x2 Jp sp hx2 => ?_
        obtain ⟨nx2, dx2, fs2, hx2⟩ := hx2
        refine ⟨by show 7 ≤ sizeLine; decide, fun L4 m4 => ?_⟩
        have up1 : Up bx Jo Jp := Up.of_same uoB sp
        have w4 := same_upd (o := .lst [.non, .int 0, .str "", .str "turn", .bl true, .ref x2, .int 7]) m4
        have e4 : upd Jp L4 (.lst [.non, .int 0, .str "", .str "turn", .bl true, .ref x2, .int 7]) L4 = some (.lst [.non, .int 0, .str "", .str "turn", .bl true, .ref x2, .int 7]) := upd_same
        have x4 : L4 ≠ bx := up1.2.ne m4
        have y4 : Up bx Jo (upd Jp L4 (.lst [.non, .int 0, .str "", .str "turn", .bl true, .ref x2, .int 7])) := up1.same w4
        generalize upd Jp L4 (.lst [.non, .int 0, .str "", .str "turn", .bl true, .ref x2, .int 7]) = Jq at w4 e4 y4 ⊢
        have hx2q := w4 _ _ hx2
        have x2b := nx2 bx uoB
        refine ⟨bx, L4, _, rfl, y4.2, e4, x4, by show 0 < 7; decide, by show 7 < 1000; decide, fun v Jr hv ur => ?_⟩
        have nv : NoQ K bx Jr v := by
          have hv' : v = .ref x2 ∨ sc4 v = true := by
            simp only [List.mem_cons, List.not_mem_nil, or_false] at hv
            rcases hv with rfl | rfl | rfl | rfl | rfl | rfl | rfl
            · exact .inr rfl
            · exact .inr rfl
            · exact .inr rfl
            · exact .inr rfl
            · exact .inr rfl
            · exact .inl rfl
            · exact .inr rfl
          rcases hv' with rfl | h
          · exact ⟨_, kon_rule_list, kon_rule_tuple, fun H' u => IS_Rule.ty (u.1 _ _ (ur.1 _ _ hx2q x2b) x2b)⟩
          · exact noQ_sc h
        obtain ⟨t, nv1, nv2, nv3⟩ := nv
        refine ⟨_, rfl, _, rfl, l, v, rfl, by omega, .inl ⟨t, fun H' s' => nv3 H' (Up.of_same ur.2 s'), nv1, nv2, fun Js ss => ?_⟩⟩
        refine ⟨rfl, _, rfl, iteNS rfl ?_⟩
        have us : Up bx Jo Js := (y4.trans ur).same ss
        have hDs := us.1 _ _ hDo nb
        have hps := hits_up uoB hpo us
        have vs' := voo.trans us
        clear nv1 nv2 nv3 hv ur e4 w4 y4 hx2q hx2 up1 sp m4 us hDo hpo voo
        -- one twice
        refine ⟨_, rfl, _, rfl, _, rfl, D, _, rfl, SqL.of hDs, fun c1 nc1 => ?_⟩
        rw [cutV_one]
        have w1 := same_upd (o := .lst ((ps.map V.ref).take 1)) nc1
        have hc1 : upd Js c1 (.lst ((ps.map V.ref).take 1)) c1 = some (.lst ((ps.map V.ref).take 1)) := upd_same
        generalize upd Js c1 (.lst ((ps.map V.ref).take 1)) = Jt at w1 hc1 ⊢
        refine ⟨D, c1, _, _, rfl, rfl, w1 _ _ hDs, hc1, by rw [List.length_take, lpv]; exact sl_len (by show _ + min 1 _ ≤ 100000; omega), fun R nR => ?_⟩
        have w2 := same_upd (o := .lst (ps.map V.ref ++ (ps.map V.ref).take 1)) nR
        have hR : upd Jt R (.lst (ps.map V.ref ++ (ps.map V.ref).take 1)) R = some (.lst (ps.map V.ref ++ (ps.map V.ref).take 1)) := upd_same
        generalize upd Jt R (.lst (ps.map V.ref ++ (ps.map V.ref).take 1)) = Ju at w2 hR ⊢
        have sw := w1.trans w2
        have hDu := sw _ _ hDs
        have hpu := hits_same hps sw
        refine ⟨_, rfl, Nat.zero_le _, fun e ne => ?_⟩
        have se := same_upd (o := .lst []) ne
        refine ⟨_, _, .lst (SqL.of (se _ _ hDu)) (dp_hits (hits_same hpu se)), .lst (SqL.of upd_same) .nil, shaped_hits hs, by decide, _, rfl, ?_⟩
        have ufin : Up bx H1 (upd Ju e (.lst [])) := ((u36.trans vs').same sw).same se
        by_cases ce : hs = []
        · refine iteBF (by rw [eqv_nil, decide_eq_true ce]; rfl) ?_
          exact ⟨_, _, _, _, _, _, _, _, _, _, _, _, rfl, ufin⟩
        · refine iteBT (by rw [eqv_nil, decide_eq_false ce]; rfl) ?_
          have hpe := hv_hits (K := K) (hits_same hpu se)
          have pr := paired_app hpe (paired_take 1 hpe)
          refine ⟨_, rfl, _, rfl, l, .ref R, rfl, by omega, .inr ⟨R, _, _, rfl, .inl (SqL.of (se _ _ hR)), pr, fun Jv sv => ?_⟩⟩
          have er : heardM l.length (hs.map gh ++ (hs.map gh).take 1) = .int hs.length := by
            cases hs with
            | nil => exact absurd rfl ce
            | cons h0 r =>
              refine heard_mid (r := []) ha ?_
              have g1 := ha.2.2
              have := endM_ge g1
              show hitB (endM 0 (h0 :: r)) l.length [.int (h0.1 : Nat), .str (kS h0.2)] = false
              refine hb_lt ?_
              show ((h0.1 : Nat) : Int) < (endM (h0.1 + 1) r : Nat)
              omega
          rw [er]
          refine ⟨_, rfl, D, _, rfl, .inl (SqL.of (sv _ _ (se _ _ hDu))), rfl, _, rfl, iteNS (by rw [lpv]) ?_⟩
          exact ⟨_, _, _, _, _, _, _, _, _, _, _, _, rfl, ufin.same sv⟩
      · rintro σ H3 ⟨v1, v3, v4, v5, v6, v7, v8, v9, v10, v11, v12, v13, rfl, u3⟩
        exact ⟨_, _, _, _, _, _, _, _, _, _, _, _, _, rfl, fun c o e => u3.1 _ _ ((s2.trans s1) _ _ e) (ne_of_none ((s2 _ _ e)) nb1)⟩
    · rintro σ H2 ⟨v1, v2, v3, v4, v5, v6, v7, v8, v9, v10, v11, v12, v13, rfl, s2⟩
      refine ⟨by show 2 ≤ sizeLine; decide, fun t nt => ⟨by show 1 ≤ sizeLine; decide, fun p np => ?_⟩⟩
      have st := same_upd (o := .tup [.int 0, .str "lose"]) nt
      have ht : upd H2 t (.tup [.int 0, .str "lose"]) t = some (.tup [.int 0, .str "lose"]) := upd_same
      generalize upd H2 t (.tup [.int 0, .str "lose"]) = H3 at st ht np ⊢
      have sp := same_upd (o := .lst [.ref t]) np
      refine ⟨[], .ref p, by rw [W_nil]; rfl, Nat.zero_le _, .inr ⟨p, [.ref t], [.tup [.int 0, .str "lose"]], rfl, .inl (SqL.of upd_same), .cons ⟨t, rfl, sp _ _ ht, rfl⟩ .nil, fun H4 s4 => ?_⟩⟩
      have e : heardM ([] : List Bool).length [.tup [.int 0, .str "lose"]] = .int 0 := by rfl
      rw [e]
      refine ⟨rfl, ?_⟩
      exact k _
end
end U

set_option maxRecDepth 100000
set_option maxHeartbeats 4000000
namespace U
open PySem PySem.Spec PyProof.Rows
open L2 hiding Fun CX0 E0 pass0 Fun.binds
open C8 Lx
theorem all_mk {l : PySem.W.OpenLaw} {w : World} {K : PySem.W.Frag} {h : Heap} {mg : Str → Option Value} {fa : Addr} (X : K.In h) (G : h.Ns mainGlobals mg) (hfa : mg "law" = some (.ref fa))
    {f_is_integer : Addr} {od_is_integer an_is_integer : Option Addr} {sl_is_integer : Array (Option Value)} {oc_is_integer kV_is_integer dc_is_integer pm_is_integer cd_is_integer ct_is_integer : Value}
    {f_is_number : Addr} {od_is_number an_is_number : Option Addr} {sl_is_number : Array (Option Value)} {oc_is_number kV_is_number dc_is_number pm_is_number cd_is_number ct_is_number : Value}
    {f_is_sequence : Addr} {od_is_sequence an_is_sequence : Option Addr} {sl_is_sequence : Array (Option Value)} {oc_is_sequence kV_is_sequence dc_is_sequence pm_is_sequence cd_is_sequence ct_is_sequence : Value}
    {f_is_word : Addr} {od_is_word an_is_word : Option Addr} {sl_is_word : Array (Option Value)} {oc_is_word kV_is_word dc_is_word pm_is_word cd_is_word ct_is_word : Value}
    {f_is_bit : Addr} {od_is_bit an_is_bit : Option Addr} {sl_is_bit : Array (Option Value)} {oc_is_bit kV_is_bit dc_is_bit pm_is_bit cd_is_bit ct_is_bit : Value}
    {f_other : Addr} {od_other an_other : Option Addr} {sl_other : Array (Option Value)} {oc_other kV_other dc_other pm_other cd_other ct_other : Value}
    {f_tail : Addr} {od_tail an_tail : Option Addr} {sl_tail : Array (Option Value)} {oc_tail kV_tail dc_tail pm_tail cd_tail ct_tail : Value}
    {f_arriving : Addr} {od_arriving an_arriving : Option Addr} {sl_arriving : Array (Option Value)} {oc_arriving kV_arriving dc_arriving pm_arriving cd_arriving ct_arriving : Value}
    {f_is_hit : Addr} {od_is_hit an_is_hit : Option Addr} {sl_is_hit : Array (Option Value)} {oc_is_hit kV_is_hit dc_is_hit pm_is_hit cd_is_hit ct_is_hit : Value}
    {f_hit : Addr} {od_hit an_hit : Option Addr} {sl_hit : Array (Option Value)} {oc_hit kV_hit dc_hit pm_hit cd_hit ct_hit : Value}
    {f_is_stuff : Addr} {od_is_stuff an_is_stuff : Option Addr} {sl_is_stuff : Array (Option Value)} {oc_is_stuff kV_is_stuff dc_is_stuff pm_is_stuff cd_is_stuff ct_is_stuff : Value}
    {f_are_stuffs : Addr} {od_are_stuffs an_are_stuffs : Option Addr} {sl_are_stuffs : Array (Option Value)} {oc_are_stuffs kV_are_stuffs dc_are_stuffs pm_are_stuffs cd_are_stuffs ct_are_stuffs : Value}
    {f_l_seed : Addr} {od_l_seed an_l_seed : Option Addr} {sl_l_seed : Array (Option Value)} {oc_l_seed kV_l_seed dc_l_seed pm_l_seed cd_l_seed ct_l_seed : Value}
    {f_l_choose : Addr} {od_l_choose an_l_choose : Option Addr} {sl_l_choose : Array (Option Value)} {oc_l_choose kV_l_choose dc_l_choose pm_l_choose cd_l_choose ct_l_choose : Value}
    {f_l_one_of : Addr} {od_l_one_of an_l_one_of : Option Addr} {sl_l_one_of : Array (Option Value)} {oc_l_one_of kV_l_one_of dc_l_one_of pm_l_one_of cd_l_one_of ct_l_one_of : Value}
    {f_l_word : Addr} {od_l_word an_l_word : Option Addr} {sl_l_word : Array (Option Value)} {oc_l_word kV_l_word dc_l_word pm_l_word cd_l_word ct_l_word : Value}
    {f_l_deep : Addr} {od_l_deep an_l_deep : Option Addr} {sl_l_deep : Array (Option Value)} {oc_l_deep kV_l_deep dc_l_deep pm_l_deep cd_l_deep ct_l_deep : Value}
    {f_l_heard : Addr} {od_l_heard an_l_heard : Option Addr} {sl_l_heard : Array (Option Value)} {oc_l_heard kV_l_heard dc_l_heard pm_l_heard cd_l_heard ct_l_heard : Value}
    {f_law : Addr} {od_law an_law : Option Addr} {sl_law : Array (Option Value)} {oc_law kV_law dc_law pm_law cd_law ct_law : Value}
    {C_Rule : Addr}
    {f_Rule_init : Addr} {od_Rule_init an_Rule_init : Option Addr} {sl_Rule_init : Array (Option Value)} {oc_Rule_init kV_Rule_init dc_Rule_init pm_Rule_init cd_Rule_init ct_Rule_init : Value}
    {dT_Rule_init : Addr} {dd_Rule_init : Option Addr} {dn_Rule_init : Nat} {ds_Rule_init : Array (Option Value)} {dE_R : Addr} {dde_R : Option Addr} {dne_R : Nat} {dse_R : Array (Option Value)}
    {f_Rule_put : Addr} {od_Rule_put an_Rule_put : Option Addr} {sl_Rule_put : Array (Option Value)} {oc_Rule_put kV_Rule_put dc_Rule_put pm_Rule_put cd_Rule_put ct_Rule_put : Value}
    {f_Rule_longest : Addr} {od_Rule_longest an_Rule_longest : Option Addr} {sl_Rule_longest : Array (Option Value)} {oc_Rule_longest kV_Rule_longest dc_Rule_longest pm_Rule_longest cd_Rule_longest ct_Rule_longest : Value}
    {p_Rule_longest : Addr} {pr_Rule_longest : List Value}
    {f_Rule_put_in : Addr} {od_Rule_put_in an_Rule_put_in : Option Addr} {sl_Rule_put_in : Array (Option Value)} {oc_Rule_put_in kV_Rule_put_in dc_Rule_put_in pm_Rule_put_in cd_Rule_put_in ct_Rule_put_in : Value}
    {f_Rule_is_endless : Addr} {od_Rule_is_endless an_Rule_is_endless : Option Addr} {sl_Rule_is_endless : Array (Option Value)} {oc_Rule_is_endless kV_Rule_is_endless dc_Rule_is_endless pm_Rule_is_endless cd_Rule_is_endless ct_Rule_is_endless : Value}
    {C_InvalidHits f_InvalidHits cc_InvalidHits cda_InvalidHits : Addr} {od_InvalidHits an_InvalidHits : Option Addr} {sl_InvalidHits : Array (Option Value)} {oc_InvalidHits kV_InvalidHits dc_InvalidHits pm_InvalidHits ct_InvalidHits : Value}
    {Enm_InvalidHits Eq_InvalidHits : Str} {EN_InvalidHits : Addr} {Ebs_InvalidHits Ebm_InvalidHits : List Value} {Esn_InvalidHits : List Str} {Esub_InvalidHits : List Value} {Eab_InvalidHits : Bool} {Ecol_InvalidHits : Option Bool} {Edd_InvalidHits : Option Addr} {E0_InvalidHits E1_InvalidHits E2_InvalidHits E3_InvalidHits E5_InvalidHits : Option Value} {cl_InvalidHits ccl_InvalidHits : Value} {cld_InvalidHits cdd_InvalidHits : Option Addr} {csl_InvalidHits ccs_InvalidHits : Array (Option Value)} {cvs_InvalidHits : Array Value} {file_InvalidHits : Str} {ctf_InvalidHits : Tok}
    {CGI_FlipError : Addr}
    {CGI_InvalidWord : Addr}
    {aK : Addr} {ddK : Option Addr} {nK : Nat} {slK : Array (Option Value)} {t1K t2K t3K : Tok}
    {tB : Tok}
    (a_is_integer : PySem.W.nsIn K mainGlobals "is_integer" = some (some (.ref f_is_integer)))
    (l_is_integer : K.lookup f_is_integer = some ⟨oc_is_integer, od_is_integer, .func (PySem.W.fnOf "is_integer" "is_integer" (fnArgs s_is_integer) (fnBody s_is_integer) (fnScope s_is_integer) .none kV_is_integer dc_is_integer pm_is_integer an_is_integer cd_is_integer ct_is_integer), sl_is_integer⟩)
    (c_is_integer : PySem.W.codeIn K cd_is_integer "is_integer" = true)
    (k_is_integer : PySem.W.keepIn K (.ref f_is_integer) = true)
    (a_is_number : PySem.W.nsIn K mainGlobals "is_number" = some (some (.ref f_is_number)))
    (l_is_number : K.lookup f_is_number = some ⟨oc_is_number, od_is_number, .func (PySem.W.fnOf "is_number" "is_number" (fnArgs s_is_number) (fnBody s_is_number) (fnScope s_is_number) .none kV_is_number dc_is_number pm_is_number an_is_number cd_is_number ct_is_number), sl_is_number⟩)
    (c_is_number : PySem.W.codeIn K cd_is_number "is_number" = true)
    (k_is_number : PySem.W.keepIn K (.ref f_is_number) = true)
    (a_is_sequence : PySem.W.nsIn K mainGlobals "is_sequence" = some (some (.ref f_is_sequence)))
    (l_is_sequence : K.lookup f_is_sequence = some ⟨oc_is_sequence, od_is_sequence, .func (PySem.W.fnOf "is_sequence" "is_sequence" (fnArgs s_is_sequence) (fnBody s_is_sequence) (fnScope s_is_sequence) .none kV_is_sequence dc_is_sequence pm_is_sequence an_is_sequence cd_is_sequence ct_is_sequence), sl_is_sequence⟩)
    (c_is_sequence : PySem.W.codeIn K cd_is_sequence "is_sequence" = true)
    (k_is_sequence : PySem.W.keepIn K (.ref f_is_sequence) = true)
    (a_is_word : PySem.W.nsIn K mainGlobals "is_word" = some (some (.ref f_is_word)))
    (l_is_word : K.lookup f_is_word = some ⟨oc_is_word, od_is_word, .func (PySem.W.fnOf "is_word" "is_word" (fnArgs s_is_word) (fnBody s_is_word) (fnScope s_is_word) .none kV_is_word dc_is_word pm_is_word an_is_word cd_is_word ct_is_word), sl_is_word⟩)
    (c_is_word : PySem.W.codeIn K cd_is_word "is_word" = true)
    (k_is_word : PySem.W.keepIn K (.ref f_is_word) = true)
    (a_is_bit : PySem.W.nsIn K mainGlobals "is_bit" = some (some (.ref f_is_bit)))
    (l_is_bit : K.lookup f_is_bit = some ⟨oc_is_bit, od_is_bit, .func (PySem.W.fnOf "is_bit" "is_bit" (fnArgs s_is_bit) (fnBody s_is_bit) (fnScope s_is_bit) .none kV_is_bit dc_is_bit pm_is_bit an_is_bit cd_is_bit ct_is_bit), sl_is_bit⟩)
    (c_is_bit : PySem.W.codeIn K cd_is_bit "is_bit" = true)
    (k_is_bit : PySem.W.keepIn K (.ref f_is_bit) = true)
    (a_other : PySem.W.nsIn K mainGlobals "other" = some (some (.ref f_other)))
    (l_other : K.lookup f_other = some ⟨oc_other, od_other, .func (PySem.W.fnOf "other" "other" (fnArgs s_other) (fnBody s_other) (fnScope s_other) .none kV_other dc_other pm_other an_other cd_other ct_other), sl_other⟩)
    (c_other : PySem.W.codeIn K cd_other "other" = true)
    (k_other : PySem.W.keepIn K (.ref f_other) = true)
    (a_tail : PySem.W.nsIn K mainGlobals "tail" = some (some (.ref f_tail)))
    (l_tail : K.lookup f_tail = some ⟨oc_tail, od_tail, .func (PySem.W.fnOf "tail" "tail" (fnArgs s_tail) (fnBody s_tail) (fnScope s_tail) .none kV_tail dc_tail pm_tail an_tail cd_tail ct_tail), sl_tail⟩)
    (c_tail : PySem.W.codeIn K cd_tail "tail" = true)
    (k_tail : PySem.W.keepIn K (.ref f_tail) = true)
    (a_arriving : PySem.W.nsIn K mainGlobals "arriving" = some (some (.ref f_arriving)))
    (l_arriving : K.lookup f_arriving = some ⟨oc_arriving, od_arriving, .func (PySem.W.fnOf "arriving" "arriving" (fnArgs s_arriving) (fnBody s_arriving) (fnScope s_arriving) .none kV_arriving dc_arriving pm_arriving an_arriving cd_arriving ct_arriving), sl_arriving⟩)
    (c_arriving : PySem.W.codeIn K cd_arriving "arriving" = true)
    (k_arriving : PySem.W.keepIn K (.ref f_arriving) = true)
    (a_is_hit : PySem.W.nsIn K mainGlobals "is_hit" = some (some (.ref f_is_hit)))
    (l_is_hit : K.lookup f_is_hit = some ⟨oc_is_hit, od_is_hit, .func (PySem.W.fnOf "is_hit" "is_hit" (fnArgs s_is_hit) (fnBody s_is_hit) (fnScope s_is_hit) .none kV_is_hit dc_is_hit pm_is_hit an_is_hit cd_is_hit ct_is_hit), sl_is_hit⟩)
    (c_is_hit : PySem.W.codeIn K cd_is_hit "is_hit" = true)
    (k_is_hit : PySem.W.keepIn K (.ref f_is_hit) = true)
    (a_hit : PySem.W.nsIn K mainGlobals "hit" = some (some (.ref f_hit)))
    (l_hit : K.lookup f_hit = some ⟨oc_hit, od_hit, .func (PySem.W.fnOf "hit" "hit" (fnArgs s_hit) (fnBody s_hit) (fnScope s_hit) .none kV_hit dc_hit pm_hit an_hit cd_hit ct_hit), sl_hit⟩)
    (c_hit : PySem.W.codeIn K cd_hit "hit" = true)
    (k_hit : PySem.W.keepIn K (.ref f_hit) = true)
    (a_is_stuff : PySem.W.nsIn K mainGlobals "is_stuff" = some (some (.ref f_is_stuff)))
    (l_is_stuff : K.lookup f_is_stuff = some ⟨oc_is_stuff, od_is_stuff, .func (PySem.W.fnOf "is_stuff" "is_stuff" (fnArgs s_is_stuff) (fnBody s_is_stuff) (fnScope s_is_stuff) .none kV_is_stuff dc_is_stuff pm_is_stuff an_is_stuff cd_is_stuff ct_is_stuff), sl_is_stuff⟩)
    (c_is_stuff : PySem.W.codeIn K cd_is_stuff "is_stuff" = true)
    (k_is_stuff : PySem.W.keepIn K (.ref f_is_stuff) = true)
    (a_are_stuffs : PySem.W.nsIn K mainGlobals "are_stuffs" = some (some (.ref f_are_stuffs)))
    (l_are_stuffs : K.lookup f_are_stuffs = some ⟨oc_are_stuffs, od_are_stuffs, .func (PySem.W.fnOf "are_stuffs" "are_stuffs" (fnArgs s_are_stuffs) (fnBody s_are_stuffs) (fnScope s_are_stuffs) .none kV_are_stuffs dc_are_stuffs pm_are_stuffs an_are_stuffs cd_are_stuffs ct_are_stuffs), sl_are_stuffs⟩)
    (c_are_stuffs : PySem.W.codeIn K cd_are_stuffs "are_stuffs" = true)
    (k_are_stuffs : PySem.W.keepIn K (.ref f_are_stuffs) = true)
    (a_l_seed : PySem.W.nsIn K mainGlobals "_law_seed" = some (some (.ref f_l_seed)))
    (l_l_seed : K.lookup f_l_seed = some ⟨oc_l_seed, od_l_seed, .func (PySem.W.fnOf "_law_seed" "_law_seed" (fnArgs s_l_seed) (fnBody s_l_seed) (fnScope s_l_seed) .none kV_l_seed dc_l_seed pm_l_seed an_l_seed cd_l_seed ct_l_seed), sl_l_seed⟩)
    (c_l_seed : PySem.W.codeIn K cd_l_seed "_law_seed" = true)
    (k_l_seed : PySem.W.keepIn K (.ref f_l_seed) = true)
    (a_l_choose : PySem.W.nsIn K mainGlobals "_law_choose" = some (some (.ref f_l_choose)))
    (l_l_choose : K.lookup f_l_choose = some ⟨oc_l_choose, od_l_choose, .func (PySem.W.fnOf "_law_choose" "_law_choose" (fnArgs s_l_choose) (fnBody s_l_choose) (fnScope s_l_choose) .none kV_l_choose dc_l_choose pm_l_choose an_l_choose cd_l_choose ct_l_choose), sl_l_choose⟩)
    (c_l_choose : PySem.W.codeIn K cd_l_choose "_law_choose" = true)
    (k_l_choose : PySem.W.keepIn K (.ref f_l_choose) = true)
    (a_l_one_of : PySem.W.nsIn K mainGlobals "_law_one_of" = some (some (.ref f_l_one_of)))
    (l_l_one_of : K.lookup f_l_one_of = some ⟨oc_l_one_of, od_l_one_of, .func (PySem.W.fnOf "_law_one_of" "_law_one_of" (fnArgs s_l_one_of) (fnBody s_l_one_of) (fnScope s_l_one_of) .none kV_l_one_of dc_l_one_of pm_l_one_of an_l_one_of cd_l_one_of ct_l_one_of), sl_l_one_of⟩)
    (c_l_one_of : PySem.W.codeIn K cd_l_one_of "_law_one_of" = true)
    (k_l_one_of : PySem.W.keepIn K (.ref f_l_one_of) = true)
    (a_l_word : PySem.W.nsIn K mainGlobals "_law_word" = some (some (.ref f_l_word)))
    (l_l_word : K.lookup f_l_word = some ⟨oc_l_word, od_l_word, .func (PySem.W.fnOf "_law_word" "_law_word" (fnArgs s_l_word) (fnBody s_l_word) (fnScope s_l_word) .none kV_l_word dc_l_word pm_l_word an_l_word cd_l_word ct_l_word), sl_l_word⟩)
    (c_l_word : PySem.W.codeIn K cd_l_word "_law_word" = true)
    (k_l_word : PySem.W.keepIn K (.ref f_l_word) = true)
    (a_l_deep : PySem.W.nsIn K mainGlobals "_law_deep" = some (some (.ref f_l_deep)))
    (l_l_deep : K.lookup f_l_deep = some ⟨oc_l_deep, od_l_deep, .func (PySem.W.fnOf "_law_deep" "_law_deep" (fnArgs s_l_deep) (fnBody s_l_deep) (fnScope s_l_deep) .none kV_l_deep dc_l_deep pm_l_deep an_l_deep cd_l_deep ct_l_deep), sl_l_deep⟩)
    (c_l_deep : PySem.W.codeIn K cd_l_deep "_law_deep" = true)
    (k_l_deep : PySem.W.keepIn K (.ref f_l_deep) = true)
    (a_l_heard : PySem.W.nsIn K mainGlobals "_law_heard" = some (some (.ref f_l_heard)))
    (l_l_heard : K.lookup f_l_heard = some ⟨oc_l_heard, od_l_heard, .func (PySem.W.fnOf "_law_heard" "_law_heard" (fnArgs s_l_heard) (fnBody s_l_heard) (fnScope s_l_heard) .none kV_l_heard dc_l_heard pm_l_heard an_l_heard cd_l_heard ct_l_heard), sl_l_heard⟩)
    (c_l_heard : PySem.W.codeIn K cd_l_heard "_law_heard" = true)
    (k_l_heard : PySem.W.keepIn K (.ref f_l_heard) = true)
    (a_law : PySem.W.nsIn K mainGlobals "law" = some (some (.ref f_law)))
    (l_law : K.lookup f_law = some ⟨oc_law, od_law, .func (PySem.W.fnOf "law" "law" (fnArgs s_law) (fnBody s_law) (fnScope s_law) .none kV_law dc_law pm_law an_law cd_law ct_law), sl_law⟩)
    (c_law : PySem.W.codeIn K cd_law "law" = true)
    (k_law : PySem.W.keepIn K (.ref f_law) = true)
    (aC_Rule : PySem.W.nsIn K mainGlobals "Rule" = some (some (.ref C_Rule)))
    (pg_Rule : PySem.W.plainGet K C_Rule Str.empty = true)
    (hd_Rule : PySem.W.hasDictIn K C_Rule = true)
    (po_Rule : PySem.W.plainOver K C_Rule = true)
    (sa_Rule : PySem.W.findIn K (.ref C_Rule) "__setattr__" = some (some (.builtin "object.__setattr__")))
    (mk_Rule : PySem.W.makesIn K C_Rule = true)
    (kc_Rule : PySem.W.keepIn K (.ref C_Rule) = true)
    (n_Rule_flag : PySem.W.findIn K (.ref C_Rule) "flag" = some none)
    (n_Rule_stuffs : PySem.W.findIn K (.ref C_Rule) "stuffs" = some none)
    (a_Rule_init : PySem.W.findIn K (.ref C_Rule) "__init__" = some (some (.ref f_Rule_init)))
    (i_Rule_init : PySem.W.isFn K (.ref f_Rule_init) = true)
    (l_Rule_init : K.lookup f_Rule_init = some ⟨oc_Rule_init, od_Rule_init, .func (PySem.W.fnOf "__init__" "Rule.__init__" (fnArgs s_Rule_init) (fnBody s_Rule_init) (fnScope s_Rule_init) (.ref dT_Rule_init) kV_Rule_init dc_Rule_init pm_Rule_init an_Rule_init cd_Rule_init ct_Rule_init), sl_Rule_init⟩)
    (c_Rule_init : PySem.W.codeIn K cd_Rule_init "Rule.__init__" = true)
    (k_Rule_init : PySem.W.keepIn K (.ref f_Rule_init) = true)
    (dl_Rule_init : K.lookup dT_Rule_init = some ⟨.type "tuple", dd_Rule_init, .seq #[.ref dE_R] dn_Rule_init, ds_Rule_init⟩)
    (dlE_Rule : K.lookup dE_R = some ⟨.type "tuple", dde_R, .seq #[] dne_R, dse_R⟩)
    (a_Rule_put : PySem.W.findIn K (.ref C_Rule) "put" = some (some (.ref f_Rule_put)))
    (i_Rule_put : PySem.W.isFn K (.ref f_Rule_put) = true)
    (l_Rule_put : K.lookup f_Rule_put = some ⟨oc_Rule_put, od_Rule_put, .func (PySem.W.fnOf "put" "Rule.put" (fnArgs s_Rule_put) (fnBody s_Rule_put) (fnScope s_Rule_put) .none kV_Rule_put dc_Rule_put pm_Rule_put an_Rule_put cd_Rule_put ct_Rule_put), sl_Rule_put⟩)
    (c_Rule_put : PySem.W.codeIn K cd_Rule_put "Rule.put" = true)
    (k_Rule_put : PySem.W.keepIn K (.ref f_Rule_put) = true)
    (a_Rule_longest : PySem.W.findIn K (.ref C_Rule) "longest" = some (some (.ref p_Rule_longest)))
    (g_Rule_longest : PySem.W.specialIn K (.ref p_Rule_longest) "__get__" = some (some (.builtin "property.__get__")))
    (t_Rule_longest : PySem.W.takesIn K (.ref p_Rule_longest) = some true)
    (r_Rule_longest : PySem.W.recIn K p_Rule_longest "property" = some (.ref f_Rule_longest :: pr_Rule_longest))
    (l_Rule_longest : K.lookup f_Rule_longest = some ⟨oc_Rule_longest, od_Rule_longest, .func (PySem.W.fnOf "longest" "Rule.longest" (fnArgs s_Rule_longest) (fnBody s_Rule_longest) (fnScope s_Rule_longest) .none kV_Rule_longest dc_Rule_longest pm_Rule_longest an_Rule_longest cd_Rule_longest ct_Rule_longest), sl_Rule_longest⟩)
    (c_Rule_longest : PySem.W.codeIn K cd_Rule_longest "Rule.longest" = true)
    (a_Rule_put_in : PySem.W.findIn K (.ref C_Rule) "put_in" = some (some (.ref f_Rule_put_in)))
    (i_Rule_put_in : PySem.W.isFn K (.ref f_Rule_put_in) = true)
    (l_Rule_put_in : K.lookup f_Rule_put_in = some ⟨oc_Rule_put_in, od_Rule_put_in, .func (PySem.W.fnOf "put_in" "Rule.put_in" (fnArgs s_Rule_put_in) (fnBody s_Rule_put_in) (fnScope s_Rule_put_in) .none kV_Rule_put_in dc_Rule_put_in pm_Rule_put_in an_Rule_put_in cd_Rule_put_in ct_Rule_put_in), sl_Rule_put_in⟩)
    (c_Rule_put_in : PySem.W.codeIn K cd_Rule_put_in "Rule.put_in" = true)
    (k_Rule_put_in : PySem.W.keepIn K (.ref f_Rule_put_in) = true)
    (a_Rule_is_endless : PySem.W.findIn K (.ref C_Rule) "is_endless" = some (some (.ref f_Rule_is_endless)))
    (i_Rule_is_endless : PySem.W.isFn K (.ref f_Rule_is_endless) = true)
    (l_Rule_is_endless : K.lookup f_Rule_is_endless = some ⟨oc_Rule_is_endless, od_Rule_is_endless, .func (PySem.W.fnOf "is_endless" "Rule.is_endless" (fnArgs s_Rule_is_endless) (fnBody s_Rule_is_endless) (fnScope s_Rule_is_endless) .none kV_Rule_is_endless dc_Rule_is_endless pm_Rule_is_endless an_Rule_is_endless cd_Rule_is_endless ct_Rule_is_endless), sl_Rule_is_endless⟩)
    (c_Rule_is_endless : PySem.W.codeIn K cd_Rule_is_endless "Rule.is_endless" = true)
    (k_Rule_is_endless : PySem.W.keepIn K (.ref f_Rule_is_endless) = true)
    (aC_InvalidHits : PySem.W.nsIn K mainGlobals "InvalidHits" = some (some (.ref C_InvalidHits)))
    (elk_InvalidHits : K.lookup C_InvalidHits = some (excClassObj Enm_InvalidHits Eq_InvalidHits C_InvalidHits EN_InvalidHits Ebs_InvalidHits Ebm_InvalidHits true Esn_InvalidHits Esub_InvalidHits Eab_InvalidHits Ecol_InvalidHits Edd_InvalidHits E0_InvalidHits E1_InvalidHits E2_InvalidHits E3_InvalidHits E5_InvalidHits "ValueError.__new__"))
    (erf_InvalidHits : PySem.HandSPX.refsVE Ebm_InvalidHits = true)
    (sa_InvalidHits : PySem.W.findIn K (.ref C_InvalidHits) "__setattr__" = some (some (.builtin "object.__setattr__")))
    (exC_InvalidHits : PySem.W.subIn K (.ref C_InvalidHits) (.type "BaseException") = some true)
    (tyC_InvalidHits : PySem.W.typeIn K (.ref C_InvalidHits) = some (.type "type"))
    (kC_InvalidHits : PySem.W.keepIn K (.ref C_InvalidHits) = true)
    (no_InvalidHits : PySem.W.findIn K (.ref C_InvalidHits) "at" = some none)
    (a_InvalidHits : PySem.W.findIn K (.ref C_InvalidHits) "__init__" = some (some (.ref f_InvalidHits)))
    (t_InvalidHits : PySem.W.typeIn K (.ref f_InvalidHits) = some (.type "function"))
    (lk_InvalidHits : K.lookup f_InvalidHits = some ⟨oc_InvalidHits, od_InvalidHits, .func (PySem.W.fnX "__init__" "InvalidHits.__init__" (fnArgs s_InvalidHits_init) (fnBody s_InvalidHits_init) (fnScope s_InvalidHits_init) [("__class__", cc_InvalidHits)] .none kV_InvalidHits dc_InvalidHits pm_InvalidHits an_InvalidHits (.ref cda_InvalidHits) ct_InvalidHits), sl_InvalidHits⟩)
    (cd_InvalidHits : PySem.W.codeIn K (.ref cda_InvalidHits) "InvalidHits.__init__" = true)
    (cell_InvalidHits : K.lookup cc_InvalidHits = some ⟨cl_InvalidHits, cld_InvalidHits, .cell (some (.ref C_InvalidHits)), csl_InvalidHits⟩)
    (code_InvalidHits : K.lookup cda_InvalidHits = some ⟨ccl_InvalidHits, cdd_InvalidHits, .fields cvs_InvalidHits, ccs_InvalidHits⟩)
    (cfl_InvalidHits : cvs_InvalidHits[2]? = some (.str file_InvalidHits ctf_InvalidHits))
    (fl_InvalidHits : ((l.prog.main.file : Str) == file_InvalidHits) = true)
    (tp_InvalidHits : (l.prog.main.scope.names.lookup ("super" : Str)).isSome = false)
    (sub_InvalidHits : PySem.W.mroIn K C_InvalidHits (.ref C_InvalidHits) = some true)
    (sup_InvalidHits : PySem.W.nsIn K mainGlobals "super" = some none)
    (opq_InvalidHits : PySem.W.nsIn K cStatics "thirdparty.any" = some none)
    (ini_InvalidHits : PySem.W.ks_superIn K C_InvalidHits C_InvalidHits "__init__" = some (some (.builtin "ValueError.__init__")))
    (ve_InvalidHits : PySem.W.subIn K (.ref C_InvalidHits) (.type "ValueError") = some true)
    (ehd_InvalidHits : PySem.W.hasDictIn K C_InvalidHits = true)
    (esb_InvalidHits : PySem.W.subIn K (.ref C_InvalidHits) (.ref C_InvalidHits) = some true)
    (ega_InvalidHits : PySem.W.findIn K (.ref C_InvalidHits) "__getattribute__" = some (some (.builtin "BaseException.__getattribute__")))
    (egg_InvalidHits : PySem.W.findIn K (.ref C_InvalidHits) "__getattr__" = some none)
    (mro_Rule : PySem.W.mroIn K C_Rule (.type "object") = some true)
    (cls_Rule : PySem.W.findIn K (.ref C_Rule) "__class__" = some (some (.builtin "object.__class__")))
    (clg_X : PySem.W.specialIn K (.builtin "object.__class__") "__get__" = some (some (.builtin "getset_descriptor.__get__")))
    (clt_X : PySem.W.takesIn K (.builtin "object.__class__") = some true)
    (kon_rl : PySem.W.kitOne K (.ref C_Rule) (.type "list") = some false)
    (kon_rt : PySem.W.kitOne K (.ref C_Rule) (.type "tuple") = some false)
    (aGI_FlipError : PySem.W.nsIn K mainGlobals "FlipError" = some (some (.ref CGI_FlipError)))
    (aGI_InvalidWord : PySem.W.nsIn K mainGlobals "InvalidWord" = some (some (.ref CGI_InvalidWord)))
    (xg_InvalidHits : PySem.W.findIn K (.ref C_InvalidHits) "__getattribute__" = some (some (.builtin "BaseException.__getattribute__")))
    (xk_InvalidHits : PySem.W.findIn K (.ref C_InvalidHits) "__getattr__" = some none)
    (xs_InvalidHits : PySem.W.subIn K (.ref C_InvalidHits) (.type "BaseException") = some true)
    (xd_InvalidHits : PySem.W.hasDictIn K C_InvalidHits = true)
    (xa_InvalidHits : PySem.W.findIn K (.ref C_InvalidHits) "__class__" = some (some (.builtin "object.__class__")))
    (xm_InvalidHits : PySem.W.mroIn K C_InvalidHits (.type "object") = some true)
    (kon_hf : PySem.W.kitOne K (.ref C_InvalidHits) (.ref CGI_FlipError) = some true)
    (kon_hw : PySem.W.kitOne K (.ref C_InvalidHits) (.ref CGI_InvalidWord) = some false)
    (gK : PySem.W.nsIn K mainGlobals "KINDS" = some (some (.ref aK)))
    (lK : K.lookup aK = some ⟨.type "tuple", ddK, .seq #[.str "double" t1K, .str "lose" t2K, .str "turn" t3K] nK, slK⟩)
    (gBITS : PySem.W.nsIn K mainGlobals "BITS" = some (some (.str "01" tB)))
    (z_len : PySem.W.nsIn K mainGlobals "len" = some none)
    (z_abs : PySem.W.nsIn K mainGlobals "abs" = some none)
    (z_int : PySem.W.nsIn K mainGlobals "int" = some none)
    (z_range : PySem.W.nsIn K mainGlobals "range" = some none)
    (z_max : PySem.W.nsIn K mainGlobals "max" = some none)
    (z_min : PySem.W.nsIn K mainGlobals "min" = some none)
    (z_enumerate : PySem.W.nsIn K mainGlobals "enumerate" = some none)
    (z_zip : PySem.W.nsIn K mainGlobals "zip" = some none)
    (z_dict : PySem.W.nsIn K mainGlobals "dict" = some none)
    (z_list : PySem.W.nsIn K mainGlobals "list" = some none)
    (z_tuple : PySem.W.nsIn K mainGlobals "tuple" = some none)
    (z_isinstance : PySem.W.nsIn K mainGlobals "isinstance" = some none)
    (z_bool : PySem.W.nsIn K mainGlobals "bool" = some none)
    (z_str : PySem.W.nsIn K mainGlobals "str" = some none)
    (z_all : PySem.W.nsIn K mainGlobals "all" = some none)
    (z_any : PySem.W.nsIn K mainGlobals "any" = some none)
    (z_sum : PySem.W.nsIn K mainGlobals "sum" = some none)
    (z_sorted : PySem.W.nsIn K mainGlobals "sorted" = some none)
    (z_repr : PySem.W.nsIn K mainGlobals "repr" = some none) :
    ∃ fd : FuncData, (∀ (s : Shared) (v : Value), BindsTo s fd ⟨[v], []⟩ [("_law_script", v)]) ∧ ∀ base : Heap, K.In base → base.Ns mainGlobals mg → FnOk l.prog w K mg base CX0 8 fa fd ["_law_script"] (spLaw K) := by
  have e : f_law = fa := Value.ref.inj (Option.some.inj ((PySem.W.mg_of X G a_law).symm.trans hfa))
  subst e
  have T : Tx mg := ⟨PySem.W.mg_none_of X G z_len, PySem.W.mg_none_of X G z_abs, PySem.W.mg_none_of X G z_int, PySem.W.mg_none_of X G z_range, PySem.W.mg_none_of X G z_max, PySem.W.mg_none_of X G z_min, PySem.W.mg_none_of X G z_enumerate, PySem.W.mg_none_of X G z_zip, PySem.W.mg_none_of X G z_dict, PySem.W.mg_none_of X G z_list, PySem.W.mg_none_of X G z_tuple, PySem.W.mg_none_of X G z_isinstance, PySem.W.mg_none_of X G z_bool, PySem.W.mg_none_of X G z_str, PySem.W.mg_none_of X G z_all, PySem.W.mg_none_of X G z_any, PySem.W.mg_none_of X G z_sum, PySem.W.mg_none_of X G z_sorted, PySem.W.mg_none_of X G z_repr⟩
  have F_is_integer : Def K mg "is_integer" s_is_integer f_is_integer (PySem.W.fnOf "is_integer" "is_integer" (fnArgs s_is_integer) (fnBody s_is_integer) (fnScope s_is_integer) .none kV_is_integer dc_is_integer pm_is_integer an_is_integer cd_is_integer ct_is_integer) := ⟨⟨_, _, _, _, _, _, _, _, _, _, rfl, l_is_integer, c_is_integer⟩, PySem.W.mg_of X G a_is_integer, k_is_integer⟩
  have b_is_integer := C8.Fun.binds (ps := ["value"]) F_is_integer.fn rfl fun _ _ _ _ _ _ us hl => match us, hl with | [_], _ => rfl
  have F_is_number : Def K mg "is_number" s_is_number f_is_number (PySem.W.fnOf "is_number" "is_number" (fnArgs s_is_number) (fnBody s_is_number) (fnScope s_is_number) .none kV_is_number dc_is_number pm_is_number an_is_number cd_is_number ct_is_number) := ⟨⟨_, _, _, _, _, _, _, _, _, _, rfl, l_is_number, c_is_number⟩, PySem.W.mg_of X G a_is_number, k_is_number⟩
  have b_is_number := C8.Fun.binds (ps := ["value"]) F_is_number.fn rfl fun _ _ _ _ _ _ us hl => match us, hl with | [_], _ => rfl
  have F_is_sequence : Def K mg "is_sequence" s_is_sequence f_is_sequence (PySem.W.fnOf "is_sequence" "is_sequence" (fnArgs s_is_sequence) (fnBody s_is_sequence) (fnScope s_is_sequence) .none kV_is_sequence dc_is_sequence pm_is_sequence an_is_sequence cd_is_sequence ct_is_sequence) := ⟨⟨_, _, _, _, _, _, _, _, _, _, rfl, l_is_sequence, c_is_sequence⟩, PySem.W.mg_of X G a_is_sequence, k_is_sequence⟩
  have b_is_sequence := C8.Fun.binds (ps := ["value"]) F_is_sequence.fn rfl fun _ _ _ _ _ _ us hl => match us, hl with | [_], _ => rfl
  have F_is_word : Def K mg "is_word" s_is_word f_is_word (PySem.W.fnOf "is_word" "is_word" (fnArgs s_is_word) (fnBody s_is_word) (fnScope s_is_word) .none kV_is_word dc_is_word pm_is_word an_is_word cd_is_word ct_is_word) := ⟨⟨_, _, _, _, _, _, _, _, _, _, rfl, l_is_word, c_is_word⟩, PySem.W.mg_of X G a_is_word, k_is_word⟩
  have b_is_word := C8.Fun.binds (ps := ["value"]) F_is_word.fn rfl fun _ _ _ _ _ _ us hl => match us, hl with | [_], _ => rfl
  have F_is_bit : Def K mg "is_bit" s_is_bit f_is_bit (PySem.W.fnOf "is_bit" "is_bit" (fnArgs s_is_bit) (fnBody s_is_bit) (fnScope s_is_bit) .none kV_is_bit dc_is_bit pm_is_bit an_is_bit cd_is_bit ct_is_bit) := ⟨⟨_, _, _, _, _, _, _, _, _, _, rfl, l_is_bit, c_is_bit⟩, PySem.W.mg_of X G a_is_bit, k_is_bit⟩
  have b_is_bit := C8.Fun.binds (ps := ["value"]) F_is_bit.fn rfl fun _ _ _ _ _ _ us hl => match us, hl with | [_], _ => rfl
  have F_other : Def K mg "other" s_other f_other (PySem.W.fnOf "other" "other" (fnArgs s_other) (fnBody s_other) (fnScope s_other) .none kV_other dc_other pm_other an_other cd_other ct_other) := ⟨⟨_, _, _, _, _, _, _, _, _, _, rfl, l_other, c_other⟩, PySem.W.mg_of X G a_other, k_other⟩
  have b_other := C8.Fun.binds (ps := ["bit"]) F_other.fn rfl fun _ _ _ _ _ _ us hl => match us, hl with | [_], _ => rfl
  have F_tail : Def K mg "tail" s_tail f_tail (PySem.W.fnOf "tail" "tail" (fnArgs s_tail) (fnBody s_tail) (fnScope s_tail) .none kV_tail dc_tail pm_tail an_tail cd_tail ct_tail) := ⟨⟨_, _, _, _, _, _, _, _, _, _, rfl, l_tail, c_tail⟩, PySem.W.mg_of X G a_tail, k_tail⟩
  have b_tail := C8.Fun.binds (ps := ["line", "size"]) F_tail.fn rfl fun _ _ _ _ _ _ us hl => match us, hl with | [_, _], _ => rfl
  have F_arriving : Def K mg "arriving" s_arriving f_arriving (PySem.W.fnOf "arriving" "arriving" (fnArgs s_arriving) (fnBody s_arriving) (fnScope s_arriving) .none kV_arriving dc_arriving pm_arriving an_arriving cd_arriving ct_arriving) := ⟨⟨_, _, _, _, _, _, _, _, _, _, rfl, l_arriving, c_arriving⟩, PySem.W.mg_of X G a_arriving, k_arriving⟩
  have b_arriving := C8.Fun.binds (ps := ["bit", "kind"]) F_arriving.fn rfl fun _ _ _ _ _ _ us hl => match us, hl with | [_, _], _ => rfl
  have F_is_hit : Def K mg "is_hit" s_is_hit f_is_hit (PySem.W.fnOf "is_hit" "is_hit" (fnArgs s_is_hit) (fnBody s_is_hit) (fnScope s_is_hit) .none kV_is_hit dc_is_hit pm_is_hit an_is_hit cd_is_hit ct_is_hit) := ⟨⟨_, _, _, _, _, _, _, _, _, _, rfl, l_is_hit, c_is_hit⟩, PySem.W.mg_of X G a_is_hit, k_is_hit⟩
  have b_is_hit := C8.Fun.binds (ps := ["value", "least", "many"]) F_is_hit.fn rfl fun _ _ _ _ _ _ us hl => match us, hl with | [_, _, _], _ => rfl
  have F_hit : Def K mg "hit" s_hit f_hit (PySem.W.fnOf "hit" "hit" (fnArgs s_hit) (fnBody s_hit) (fnScope s_hit) .none kV_hit dc_hit pm_hit an_hit cd_hit ct_hit) := ⟨⟨_, _, _, _, _, _, _, _, _, _, rfl, l_hit, c_hit⟩, PySem.W.mg_of X G a_hit, k_hit⟩
  have b_hit := C8.Fun.binds (ps := ["line", "hits"]) F_hit.fn rfl fun _ _ _ _ _ _ us hl => match us, hl with | [_, _], _ => rfl
  have F_is_stuff : Def K mg "is_stuff" s_is_stuff f_is_stuff (PySem.W.fnOf "is_stuff" "is_stuff" (fnArgs s_is_stuff) (fnBody s_is_stuff) (fnScope s_is_stuff) .none kV_is_stuff dc_is_stuff pm_is_stuff an_is_stuff cd_is_stuff ct_is_stuff) := ⟨⟨_, _, _, _, _, _, _, _, _, _, rfl, l_is_stuff, c_is_stuff⟩, PySem.W.mg_of X G a_is_stuff, k_is_stuff⟩
  have b_is_stuff := C8.Fun.binds (ps := ["value"]) F_is_stuff.fn rfl fun _ _ _ _ _ _ us hl => match us, hl with | [_], _ => rfl
  have F_are_stuffs : Def K mg "are_stuffs" s_are_stuffs f_are_stuffs (PySem.W.fnOf "are_stuffs" "are_stuffs" (fnArgs s_are_stuffs) (fnBody s_are_stuffs) (fnScope s_are_stuffs) .none kV_are_stuffs dc_are_stuffs pm_are_stuffs an_are_stuffs cd_are_stuffs ct_are_stuffs) := ⟨⟨_, _, _, _, _, _, _, _, _, _, rfl, l_are_stuffs, c_are_stuffs⟩, PySem.W.mg_of X G a_are_stuffs, k_are_stuffs⟩
  have b_are_stuffs := C8.Fun.binds (ps := ["value"]) F_are_stuffs.fn rfl fun _ _ _ _ _ _ us hl => match us, hl with | [_], _ => rfl
  have F_l_seed : Def K mg "_law_seed" s_l_seed f_l_seed (PySem.W.fnOf "_law_seed" "_law_seed" (fnArgs s_l_seed) (fnBody s_l_seed) (fnScope s_l_seed) .none kV_l_seed dc_l_seed pm_l_seed an_l_seed cd_l_seed ct_l_seed) := ⟨⟨_, _, _, _, _, _, _, _, _, _, rfl, l_l_seed, c_l_seed⟩, PySem.W.mg_of X G a_l_seed, k_l_seed⟩
  have b_l_seed := C8.Fun.binds (ps := ["_law_script", "_law_k"]) F_l_seed.fn rfl fun _ _ _ _ _ _ us hl => match us, hl with | [_, _], _ => rfl
  have F_l_choose : Def K mg "_law_choose" s_l_choose f_l_choose (PySem.W.fnOf "_law_choose" "_law_choose" (fnArgs s_l_choose) (fnBody s_l_choose) (fnScope s_l_choose) .none kV_l_choose dc_l_choose pm_l_choose an_l_choose cd_l_choose ct_l_choose) := ⟨⟨_, _, _, _, _, _, _, _, _, _, rfl, l_l_choose, c_l_choose⟩, PySem.W.mg_of X G a_l_choose, k_l_choose⟩
  have b_l_choose := C8.Fun.binds (ps := ["_law_box", "_law_many"]) F_l_choose.fn rfl fun _ _ _ _ _ _ us hl => match us, hl with | [_, _], _ => rfl
  have F_l_one_of : Def K mg "_law_one_of" s_l_one_of f_l_one_of (PySem.W.fnOf "_law_one_of" "_law_one_of" (fnArgs s_l_one_of) (fnBody s_l_one_of) (fnScope s_l_one_of) .none kV_l_one_of dc_l_one_of pm_l_one_of an_l_one_of cd_l_one_of ct_l_one_of) := ⟨⟨_, _, _, _, _, _, _, _, _, _, rfl, l_l_one_of, c_l_one_of⟩, PySem.W.mg_of X G a_l_one_of, k_l_one_of⟩
  have b_l_one_of := C8.Fun.binds (ps := ["_law_box", "_law_some"]) F_l_one_of.fn rfl fun _ _ _ _ _ _ us hl => match us, hl with | [_, _], _ => rfl
  have F_l_word : Def K mg "_law_word" s_l_word f_l_word (PySem.W.fnOf "_law_word" "_law_word" (fnArgs s_l_word) (fnBody s_l_word) (fnScope s_l_word) .none kV_l_word dc_l_word pm_l_word an_l_word cd_l_word ct_l_word) := ⟨⟨_, _, _, _, _, _, _, _, _, _, rfl, l_l_word, c_l_word⟩, PySem.W.mg_of X G a_l_word, k_l_word⟩
  have b_l_word := C8.Fun.binds (ps := ["_law_box", "_law_few", "_law_many"]) F_l_word.fn rfl fun _ _ _ _ _ _ us hl => match us, hl with | [_, _, _], _ => rfl
  have F_l_deep : Def K mg "_law_deep" s_l_deep f_l_deep (PySem.W.fnOf "_law_deep" "_law_deep" (fnArgs s_l_deep) (fnBody s_l_deep) (fnScope s_l_deep) .none kV_l_deep dc_l_deep pm_l_deep an_l_deep cd_l_deep ct_l_deep) := ⟨⟨_, _, _, _, _, _, _, _, _, _, rfl, l_l_deep, c_l_deep⟩, PySem.W.mg_of X G a_l_deep, k_l_deep⟩
  have b_l_deep := C8.Fun.binds (ps := []) F_l_deep.fn rfl fun _ _ _ _ _ _ us hl => match us, hl with | [], _ => rfl
  have F_l_heard : Def K mg "_law_heard" s_l_heard f_l_heard (PySem.W.fnOf "_law_heard" "_law_heard" (fnArgs s_l_heard) (fnBody s_l_heard) (fnScope s_l_heard) .none kV_l_heard dc_l_heard pm_l_heard an_l_heard cd_l_heard ct_l_heard) := ⟨⟨_, _, _, _, _, _, _, _, _, _, rfl, l_l_heard, c_l_heard⟩, PySem.W.mg_of X G a_l_heard, k_l_heard⟩
  have b_l_heard := C8.Fun.binds (ps := ["_law_line", "_law_told"]) F_l_heard.fn rfl fun _ _ _ _ _ _ us hl => match us, hl with | [_, _], _ => rfl
  have F_law : Def K mg "law" s_law f_law (PySem.W.fnOf "law" "law" (fnArgs s_law) (fnBody s_law) (fnScope s_law) .none kV_law dc_law pm_law an_law cd_law ct_law) := ⟨⟨_, _, _, _, _, _, _, _, _, _, rfl, l_law, c_law⟩, PySem.W.mg_of X G a_law, k_law⟩
  have b_law := C8.Fun.binds (ps := ["_law_script"]) F_law.fn rfl fun _ _ _ _ _ _ us hl => match us, hl with | [_], _ => rfl
  have TX_InvalidHits : L2.OexC K C_InvalidHits := ⟨⟨_, _, _, _, _, _, _, _, _, _, _, _, _, _, _, elk_InvalidHits, erf_InvalidHits⟩, sa_InvalidHits, exC_InvalidHits, tyC_InvalidHits, kC_InvalidHits⟩
  have EF_InvalidHits : ExS.ExF l.prog K mg C_InvalidHits "at" f_InvalidHits cc_InvalidHits cda_InvalidHits file_InvalidHits := ⟨TX_InvalidHits, no_InvalidHits, ⟨_, _, _, cell_InvalidHits⟩, ⟨_, _, _, _, _, code_InvalidHits, cfl_InvalidHits⟩, fl_InvalidHits, tp_InvalidHits, sub_InvalidHits, PySem.W.mg_none_of X G sup_InvalidHits, opq_InvalidHits, ini_InvalidHits, ve_InvalidHits⟩
  have XF_InvalidHits : XfC K C_InvalidHits := ⟨ega_InvalidHits, egg_InvalidHits, exC_InvalidHits, ehd_InvalidHits⟩
  have nw_InvalidHits := no_InvalidHits
  have g_InvalidHits := PySem.W.mg_of X G aC_InvalidHits
  have ex_InvalidHits := PySem.W.exm_ref exC_InvalidHits ehd_InvalidHits tyC_InvalidHits esb_InvalidHits
  have CL_Rule : Cls K C_Rule := ⟨pg_Rule, hd_Rule, po_Rule, sa_Rule⟩
  have F_Rule_init : C8.Fun K "__init__" "Rule.__init__" s_Rule_init f_Rule_init (PySem.W.fnOf "__init__" "Rule.__init__" (fnArgs s_Rule_init) (fnBody s_Rule_init) (fnScope s_Rule_init) (.ref dT_Rule_init) kV_Rule_init dc_Rule_init pm_Rule_init an_Rule_init cd_Rule_init ct_Rule_init) := ⟨_, _, _, _, _, _, _, _, _, _, rfl, l_Rule_init, c_Rule_init⟩
  have FD_Rule_init : FunD K "__init__" "Rule.__init__" (fnArgs s_Rule_init) (fnBody s_Rule_init) (fnScope s_Rule_init) [.ref dE_R] [] f_Rule_init (PySem.W.fnOf "__init__" "Rule.__init__" (fnArgs s_Rule_init) (fnBody s_Rule_init) (fnScope s_Rule_init) (.ref dT_Rule_init) kV_Rule_init dc_Rule_init pm_Rule_init an_Rule_init cd_Rule_init ct_Rule_init) := ⟨⟨_, _, _, _, _, _, _, _, _, _, rfl, l_Rule_init, c_Rule_init, .inr ⟨List.cons_ne_nil _ _, _, _, _, _, rfl, dl_Rule_init, rfl, .cons rfl .nil⟩, .inl rfl⟩, k_Rule_init⟩
  obtain ⟨ds0_Rule_init, vd0_Rule_init, bd0_Rule_init⟩ := FD_Rule_init.binds1 (ps := ["self", "flag", "stuffs"]) 2 0 (List.cons_ne_nil _ _) rfl fun _ _ _ _ _ _ _ us its h1 h2 => match us, its, h1, h2 with | [_, _], [_], _, _ => ⟨_, rfl, rfl⟩
  obtain ⟨ds1_Rule_init, vd1_Rule_init, bd1_Rule_init⟩ := FD_Rule_init.binds1 (ps := ["self", "flag", "stuffs"]) 3 1 (List.cons_ne_nil _ _) rfl fun _ _ _ _ _ _ _ us its h1 h2 => match us, its, h1, h2 with | [_, _, _], [_], _, _ => ⟨_, rfl, rfl⟩
  have F_Rule_put : C8.Fun K "put" "Rule.put" s_Rule_put f_Rule_put (PySem.W.fnOf "put" "Rule.put" (fnArgs s_Rule_put) (fnBody s_Rule_put) (fnScope s_Rule_put) .none kV_Rule_put dc_Rule_put pm_Rule_put an_Rule_put cd_Rule_put ct_Rule_put) := ⟨_, _, _, _, _, _, _, _, _, _, rfl, l_Rule_put, c_Rule_put⟩
  have b_Rule_put := C8.Fun.binds (ps := ["self", "line"]) F_Rule_put rfl fun _ _ _ _ _ _ us hl => match us, hl with | [_, _], _ => rfl
  have F_Rule_longest : C8.Fun K "longest" "Rule.longest" s_Rule_longest f_Rule_longest (PySem.W.fnOf "longest" "Rule.longest" (fnArgs s_Rule_longest) (fnBody s_Rule_longest) (fnScope s_Rule_longest) .none kV_Rule_longest dc_Rule_longest pm_Rule_longest an_Rule_longest cd_Rule_longest ct_Rule_longest) := ⟨_, _, _, _, _, _, _, _, _, _, rfl, l_Rule_longest, c_Rule_longest⟩
  have b_Rule_longest := C8.Fun.binds (ps := ["self"]) F_Rule_longest rfl fun _ _ _ _ _ _ us hl => match us, hl with | [_], _ => rfl
  have F_Rule_put_in : C8.Fun K "put_in" "Rule.put_in" s_Rule_put_in f_Rule_put_in (PySem.W.fnOf "put_in" "Rule.put_in" (fnArgs s_Rule_put_in) (fnBody s_Rule_put_in) (fnScope s_Rule_put_in) .none kV_Rule_put_in dc_Rule_put_in pm_Rule_put_in an_Rule_put_in cd_Rule_put_in ct_Rule_put_in) := ⟨_, _, _, _, _, _, _, _, _, _, rfl, l_Rule_put_in, c_Rule_put_in⟩
  have b_Rule_put_in := C8.Fun.binds (ps := ["self", "line"]) F_Rule_put_in rfl fun _ _ _ _ _ _ us hl => match us, hl with | [_, _], _ => rfl
  have F_Rule_is_endless : C8.Fun K "is_endless" "Rule.is_endless" s_Rule_is_endless f_Rule_is_endless (PySem.W.fnOf "is_endless" "Rule.is_endless" (fnArgs s_Rule_is_endless) (fnBody s_Rule_is_endless) (fnScope s_Rule_is_endless) .none kV_Rule_is_endless dc_Rule_is_endless pm_Rule_is_endless an_Rule_is_endless cd_Rule_is_endless ct_Rule_is_endless) := ⟨_, _, _, _, _, _, _, _, _, _, rfl, l_Rule_is_endless, c_Rule_is_endless⟩
  have b_Rule_is_endless := C8.Fun.binds (ps := ["self"]) F_Rule_is_endless rfl fun _ _ _ _ _ _ us hl => match us, hl with | [_], _ => rfl
  refine ⟨PySem.W.fnOf "law" "law" (fnArgs s_law) (fnBody s_law) (fnScope s_law) .none kV_law dc_law pm_law an_law cd_law ct_law, fun s v => .of_eq rfl, fun base _ _ => ?_⟩
  have RT : RuT K C_Rule := ⟨CL_Rule, n_Rule_flag, n_Rule_stuffs⟩
  have IS_Rule : IsT K C_Rule := ⟨CL_Rule, cls_Rule, clg_X, clt_X, mro_Rule⟩
  have hE : ∀ H, SqT K H dE_R [] := fun H => .inr ⟨_, _, _, dlE_Rule, rfl, rfl, (by show 0 ≤ sizeLine; decide), .nil⟩
  have kon_rule_list := kon_rl
  have kon_rule_tuple := kon_rt
  have c_l_seed := cal_l_seed (P := l.prog) (w := w) (base := base) F_l_seed b_l_seed T
  have c_l_choose := cal_l_choose (P := l.prog) (w := w) (base := base) F_l_choose b_l_choose T
  have c_l_one_of := cal_l_one_of (P := l.prog) (w := w) (base := base) F_l_one_of b_l_one_of T c_l_choose
  have c_l_word := cal_l_word (P := l.prog) (w := w) (base := base) F_l_word b_l_word T c_l_choose c_l_one_of
  have c_l_deep := cal_l_deep (P := l.prog) (w := w) (base := base) F_l_deep b_l_deep T
  have gi_FlipError := PySem.W.mg_of X G aGI_FlipError
  have gi_InvalidWord := PySem.W.mg_of X G aGI_InvalidWord
  have xc_InvalidHits : L2.ExcC K C_InvalidHits := ⟨xg_InvalidHits, xk_InvalidHits, xs_InvalidHits, xd_InvalidHits, xa_InvalidHits, clg_X, clt_X, xm_InvalidHits⟩
  have kon_hits_flip := kon_hf
  have kon_hits_word := kon_hw
  have x_InvalidHits : ExS.XMk l.prog w K mg base 1 "InvalidHits" C_InvalidHits "at" := ⟨f_InvalidHits, _, ["self", "at"], TX_InvalidHits, a_InvalidHits, t_InvalidHits, ExS.fn_exc (self := "self") (word := "at") (text := "no hit") (k := 0) EF_InvalidHits lk_InvalidHits cd_InvalidHits (NdefX.nscope_by (by decide +kernel)) (by decide +kernel) rfl rfl ⟨_, _, _, _, _, _, _, _, _, _, _, _, rfl, rfl⟩ (by decide) (by decide) (by decide) (by decide), .all (fun us hl => match us, hl with | [_, _], _ => rfl), g_InvalidHits⟩
  have c_is_sequenceX := cal_is_sequenceX (P := l.prog) (w := w) (base := base) F_is_sequence b_is_sequence T
  have g_KINDS := PySem.W.mg_of X G gK
  have hK : ∀ H, SqT K H aK [.str "double", .str "lose", .str "turn"] := fun H => .inr ⟨_, _, _, lK, rfl, rfl, (by show 3 ≤ sizeLine; decide), .cons ⟨_, rfl⟩ (.cons ⟨_, rfl⟩ (.cons ⟨_, rfl⟩ .nil))⟩
  have c_is_integerX := cal_is_integerX (P := l.prog) (w := w) (base := base) F_is_integer b_is_integer T
  have c_is_numberX := cal_is_numberX (P := l.prog) (w := w) (base := base) F_is_number b_is_number T c_is_integerX
  have c_is_hitX := cal_is_hitX (P := l.prog) (w := w) (base := base) F_is_hit b_is_hit T g_KINDS hK c_is_numberX
  have c_other := cal_other (P := l.prog) (w := w) (base := base) F_other b_other T
  have c_arriving := cal_arriving (P := l.prog) (w := w) (base := base) F_arriving b_arriving T c_other
  have cT_hit := calT_hit (P := l.prog) (w := w) (base := base) F_hit b_hit T x_InvalidHits c_is_sequenceX c_is_hitX c_arriving
  have c_l_heard := cal_l_heard (P := l.prog) (w := w) (base := base) F_l_heard b_l_heard T g_InvalidHits ex_InvalidHits XF_InvalidHits nw_InvalidHits gi_FlipError gi_InvalidWord xc_InvalidHits kon_hits_flip kon_hits_word cT_hit
  have g_BITS := PySem.W.mg_of X G gBITS
  have c_is_word := cal_is_word (P := l.prog) (w := w) (base := base) F_is_word b_is_word T g_BITS
  have c_is_sequence := cal_is_sequence (P := l.prog) (w := w) (base := base) F_is_sequence b_is_sequence T
  have c_is_bit := cal_is_bit (P := l.prog) (w := w) (base := base) F_is_bit b_is_bit T c_is_word
  have c_is_stuff := cal_is_stuff (P := l.prog) (w := w) (base := base) F_is_stuff b_is_stuff T c_is_word c_is_bit
  have c_are_stuffs := cal_are_stuffs (P := l.prog) (w := w) (base := base) F_are_stuffs b_are_stuffs T c_is_sequence c_is_stuff
  have c_put := met_put (P := l.prog) (w := w) (base := base) F_Rule_put ⟨a_Rule_put, i_Rule_put, k_Rule_put⟩ b_Rule_put T RT
  have p_longest : Prp l.prog w K mg base 1 C_Rule "longest" (spLongest C_Rule) := ⟨_, _, _, _, CL_Rule, ⟨a_Rule_longest, g_Rule_longest, t_Rule_longest, ⟨_, r_Rule_longest⟩⟩, ok_longest F_Rule_longest T RT, b_Rule_longest⟩
  have c_tail := cal_tail (P := l.prog) (w := w) (base := base) F_tail b_tail T
  have c_put_in := met_put_in (P := l.prog) (w := w) (base := base) F_Rule_put_in ⟨a_Rule_put_in, i_Rule_put_in, k_Rule_put_in⟩ b_Rule_put_in T RT c_put p_longest c_tail
  have c_is_endless := met_is_endless (P := l.prog) (w := w) (base := base) F_Rule_is_endless ⟨a_Rule_is_endless, i_Rule_is_endless, k_Rule_is_endless⟩ b_Rule_is_endless T RT g_BITS c_put_in p_longest c_tail
  have M_Rule : Mk K C_Rule f_Rule_init := ⟨mk_Rule, a_Rule_init, i_Rule_init, kc_Rule⟩
  have i_ok_Rule := ok_Rule_init (P := l.prog) (w := w) (base := base) F_Rule_init T RT c_is_word c_are_stuffs c_is_endless
  have m_Rule1 : Mak l.prog w K mg base 5 "Rule" C_Rule (spRuInit K C_Rule) [.ref dE_R] := ⟨_, _, _, _, M_Rule, i_ok_Rule, PySem.W.mg_of X G aC_Rule, bd0_Rule_init, vd0_Rule_init⟩
  exact ok_law F_law T RT IS_Rule hE kon_rule_list kon_rule_tuple c_l_seed c_l_choose c_l_one_of c_l_word c_l_deep c_l_heard m_Rule1
theorem walk {l : PySem.W.OpenLaw} {q : Program} {loose : List Str} {XP : (Str → Option Value) → Heap → Prop} {YP : World → Heap → Prop} {d : DefRec} {K : Params → PySem.W.Frag} (hn : l.most = some 63) (hdf : d.params.defaults = [])
    (hY : ∀ (w : World) (h : Heap), YP w h → (K w.params).In h)
    (F : ∀ (w : World) (mg : Str → Option Value) (fa : Addr) (h : Heap), (K w.params).In h → h.Ns mainGlobals mg → mg d.name = some (.ref fa) →
      ∃ fd : FuncData, (∀ (s : Shared) (u : Value), BindsTo s fd ⟨[u], []⟩ [("_law_script", u)]) ∧ ∀ base : Heap, (K w.params).In base → base.Ns mainGlobals mg → FnOk l.prog w (K w.params) mg base CX0 8 fa fd ["_law_script"] (spLaw (K w.params))) :
    PySem.W.WalkO q loose XP YP l.row.toRowW d [] (fun f vs => PySem.call f vs) :=
  L2.walk_of (n := 63) (k := 8) (x := "_law_script") (CX := fun _ => CX0) (sp := fun w => spLaw (K w.params)) hn (by decide) hdf ⟨rfl, by decide, by decide⟩ hY F (fun _ _ a ns hl _ hS => ⟨a, ns, rfl, hS, hl, fun _ => rfl⟩) fun _ _ _ _ _ z => z
end U

set_option pp.maxSteps 300
open PySem PySem.W PyProof.Rows
set_option maxRecDepth 100000 in
set_option maxHeartbeats 0 in
theorem PySem.Challenge.cw_unseenflips_k50_hits_that_are_refused_holds : PySem.Challenge.rw_unseenflips_k50_hits_that_are_refused.Holds := by
  w_on; o_law; k_head; (case hw => w_witness2)
  k_fill
  refine U.walk (l := PySem.Challenge.rw_unseenflips_k50_hits_that_are_refused) rfl rfl (fun w h Y => PySem.W.kIn_of Y) ?F
  case F =>
    intro w mg fa h KX G hmg
    refine' U.all_mk KX G hmg ?a_is_integer ?l_is_integer ?c_is_integer ?k_is_integer ?a_is_number ?l_is_number ?c_is_number ?k_is_number ?a_is_sequence ?l_is_sequence ?c_is_sequence ?k_is_sequence ?a_is_word ?l_is_word ?c_is_word ?k_is_word ?a_is_bit ?l_is_bit ?c_is_bit ?k_is_bit ?a_other ?l_other ?c_other ?k_other ?a_tail ?l_tail ?c_tail ?k_tail ?a_arriving ?l_arriving ?c_arriving ?k_arriving ?a_is_hit ?l_is_hit ?c_is_hit ?k_is_hit ?a_hit ?l_hit ?c_hit ?k_hit ?a_is_stuff ?l_is_stuff ?c_is_stuff ?k_is_stuff ?a_are_stuffs ?l_are_stuffs ?c_are_stuffs ?k_are_stuffs ?a_l_seed ?l_l_seed ?c_l_seed ?k_l_seed ?a_l_choose ?l_l_choose ?c_l_choose ?k_l_choose ?a_l_one_of ?l_l_one_of ?c_l_one_of ?k_l_one_of ?a_l_word ?l_l_word ?c_l_word ?k_l_word ?a_l_deep ?l_l_deep ?c_l_deep ?k_l_deep ?a_l_heard ?l_l_heard ?c_l_heard ?k_l_heard ?a_law ?l_law ?c_law ?k_law ?aC_Rule ?pg_Rule ?hd_Rule ?po_Rule ?sa_Rule ?mk_Rule ?kc_Rule ?n_Rule_flag ?n_Rule_stuffs ?a_Rule_init ?i_Rule_init ?l_Rule_init ?c_Rule_init ?k_Rule_init ?dl_Rule_init ?dlE_Rule ?a_Rule_put ?i_Rule_put ?l_Rule_put ?c_Rule_put ?k_Rule_put ?a_Rule_longest ?g_Rule_longest ?t_Rule_longest ?r_Rule_longest ?l_Rule_longest ?c_Rule_longest ?a_Rule_put_in ?i_Rule_put_in ?l_Rule_put_in ?c_Rule_put_in ?k_Rule_put_in ?a_Rule_is_endless ?i_Rule_is_endless ?l_Rule_is_endless ?c_Rule_is_endless ?k_Rule_is_endless ?aC_InvalidHits ?elk_InvalidHits ?erf_InvalidHits ?sa_InvalidHits ?exC_InvalidHits ?tyC_InvalidHits ?kC_InvalidHits ?no_InvalidHits ?a_InvalidHits ?t_InvalidHits ?lk_InvalidHits ?cd_InvalidHits ?cell_InvalidHits ?code_InvalidHits ?cfl_InvalidHits ?fl_InvalidHits ?tp_InvalidHits ?sub_InvalidHits ?sup_InvalidHits ?opq_InvalidHits ?ini_InvalidHits ?ve_InvalidHits ?ehd_InvalidHits ?esb_InvalidHits ?ega_InvalidHits ?egg_InvalidHits ?mro_Rule ?cls_Rule ?clg_X ?clt_X ?kon_rl ?kon_rt ?aGI_FlipError ?aGI_InvalidWord ?xg_InvalidHits ?xk_InvalidHits ?xs_InvalidHits ?xd_InvalidHits ?xa_InvalidHits ?xm_InvalidHits ?kon_hf ?kon_hw ?gK ?lK ?gBITS ?z_len ?z_abs ?z_int ?z_range ?z_max ?z_min ?z_enumerate ?z_zip ?z_dict ?z_list ?z_tuple ?z_isinstance ?z_bool ?z_str ?z_all ?z_any ?z_sum ?z_sorted ?z_repr
    (case a_is_integer => k_is)
    (case l_is_integer => k_is)
    (case c_is_integer => k_is)
    (case k_is_integer => k_is)
    (case a_is_number => k_is)
    (case l_is_number => k_is)
    (case c_is_number => k_is)
    (case k_is_number => k_is)
    (case a_is_sequence => k_is)
    (case l_is_sequence => k_is)
    (case c_is_sequence => k_is)
    (case k_is_sequence => k_is)
    (case a_is_word => k_is)
    (case l_is_word => k_is)
    (case c_is_word => k_is)
    (case k_is_word => k_is)
    (case a_is_bit => k_is)
    (case l_is_bit => k_is)
    (case c_is_bit => k_is)
    (case k_is_bit => k_is)
    (case a_other => k_is)
    (case l_other => k_is)
    (case c_other => k_is)
    (case k_other => k_is)
    (case a_tail => k_is)
    (case l_tail => k_is)
    (case c_tail => k_is)
    (case k_tail => k_is)
    (case a_arriving => k_is)
    (case l_arriving => k_is)
    (case c_arriving => k_is)
    (case k_arriving => k_is)
    (case a_is_hit => k_is)
    (case l_is_hit => k_is)
    (case c_is_hit => k_is)
    (case k_is_hit => k_is)
    (case a_hit => k_is)
    (case l_hit => k_is)
    (case c_hit => k_is)
    (case k_hit => k_is)
    (case a_is_stuff => k_is)
    (case l_is_stuff => k_is)
    (case c_is_stuff => k_is)
    (case k_is_stuff => k_is)
    (case a_are_stuffs => k_is)
    (case l_are_stuffs => k_is)
    (case c_are_stuffs => k_is)
    (case k_are_stuffs => k_is)
    (case a_l_seed => k_is)
    (case l_l_seed => k_is)
    (case c_l_seed => k_is)
    (case k_l_seed => k_is)
    (case a_l_choose => k_is)
    (case l_l_choose => k_is)
    (case c_l_choose => k_is)
    (case k_l_choose => k_is)
    (case a_l_one_of => k_is)
    (case l_l_one_of => k_is)
    (case c_l_one_of => k_is)
    (case k_l_one_of => k_is)
    (case a_l_word => k_is)
    (case l_l_word => k_is)
    (case c_l_word => k_is)
    (case k_l_word => k_is)
    (case a_l_deep => k_is)
    (case l_l_deep => k_is)
    (case c_l_deep => k_is)
    (case k_l_deep => k_is)
    (case a_l_heard => k_is)
    (case l_l_heard => k_is)
    (case c_l_heard => k_is)
    (case k_l_heard => k_is)
    (case a_law => k_is)
    (case l_law => k_is)
    (case c_law => k_is)
    (case k_law => k_is)
    (case aC_Rule => k_is)
    (case pg_Rule => k_is)
    (case hd_Rule => k_is)
    (case po_Rule => k_is)
    (case sa_Rule => k_is)
    (case mk_Rule => k_is)
    (case kc_Rule => k_is)
    (case n_Rule_flag => k_is)
    (case n_Rule_stuffs => k_is)
    (case a_Rule_init => k_is)
    (case i_Rule_init => k_is)
    (case l_Rule_init => k_is)
    (case c_Rule_init => k_is)
    (case k_Rule_init => k_is)
    (case dl_Rule_init => k_is)
    (case dlE_Rule => k_is)
    (case a_Rule_put => k_is)
    (case i_Rule_put => k_is)
    (case l_Rule_put => k_is)
    (case c_Rule_put => k_is)
    (case k_Rule_put => k_is)
    (case a_Rule_longest => k_is)
    (case g_Rule_longest => k_is)
    (case t_Rule_longest => k_is)
    (case r_Rule_longest => k_is)
    (case l_Rule_longest => k_is)
    (case c_Rule_longest => k_is)
    (case a_Rule_put_in => k_is)
    (case i_Rule_put_in => k_is)
    (case l_Rule_put_in => k_is)
    (case c_Rule_put_in => k_is)
    (case k_Rule_put_in => k_is)
    (case a_Rule_is_endless => k_is)
    (case i_Rule_is_endless => k_is)
    (case l_Rule_is_endless => k_is)
    (case c_Rule_is_endless => k_is)
    (case k_Rule_is_endless => k_is)
    (case aC_InvalidHits => k_is)
    (case elk_InvalidHits => k_is)
    (case erf_InvalidHits => decide +kernel)
    (case sa_InvalidHits => k_is)
    (case exC_InvalidHits => k_is)
    (case tyC_InvalidHits => k_is)
    (case kC_InvalidHits => k_is)
    (case no_InvalidHits => k_is)
    (case a_InvalidHits => k_is)
    (case t_InvalidHits => k_is)
    (case lk_InvalidHits => k_is)
    (case cd_InvalidHits => k_is)
    (case cell_InvalidHits => k_is)
    (case code_InvalidHits => k_is)
    (case cfl_InvalidHits => exact rfl)
    (case fl_InvalidHits => decide +kernel)
    (case tp_InvalidHits => decide +kernel)
    (case sub_InvalidHits => k_is)
    (case sup_InvalidHits => k_is)
    (case opq_InvalidHits => k_is)
    (case ini_InvalidHits => kernel_rfl)
    (case ve_InvalidHits => k_is)
    (case ehd_InvalidHits => k_is)
    (case esb_InvalidHits => k_is)
    (case ega_InvalidHits => k_is)
    (case egg_InvalidHits => k_is)
    (case mro_Rule => k_is)
    (case cls_Rule => k_is)
    (case clg_X => k_is)
    (case clt_X => k_is)
    (case kon_rl => kernel_rfl)
    (case kon_rt => kernel_rfl)
    (case aGI_FlipError => k_is)
    (case aGI_InvalidWord => k_is)
    (case xg_InvalidHits => k_is)
    (case xk_InvalidHits => k_is)
    (case xs_InvalidHits => k_is)
    (case xd_InvalidHits => k_is)
    (case xa_InvalidHits => k_is)
    (case xm_InvalidHits => k_is)
    (case kon_hf => kernel_rfl)
    (case kon_hw => kernel_rfl)
    (case gK => k_is)
    (case lK => k_is)
    (case gBITS => k_is)
    (case z_len => k_is)
    (case z_abs => k_is)
    (case z_int => k_is)
    (case z_range => k_is)
    (case z_max => k_is)
    (case z_min => k_is)
    (case z_enumerate => k_is)
    (case z_zip => k_is)
    (case z_dict => k_is)
    (case z_list => k_is)
    (case z_tuple => k_is)
    (case z_isinstance => k_is)
    (case z_bool => k_is)
    (case z_str => k_is)
    (case z_all => k_is)
    (case z_any => k_is)
    (case z_sum => k_is)
    (case z_sorted => k_is)
    (case z_repr => k_is)
#print axioms PySem.Challenge.cw_unseenflips_k50_hits_that_are_refused_holds
