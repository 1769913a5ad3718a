import PyProof.Rows.All
import Wide.All
import OpenK.AllK
import Wide.FinOn
import HandS.ForMost
import HandS.Codes
import HandS.FStr
import HandS.IsInst
import HandS.Star
import HandS.TupAny
import HandS.Style
import HandS.Walk
import KE.GoesEnum
import KE.GoesNew
import HandS.Property
import HandS.Defaults
import HandS.ClsMeth
import HandS.MakeKw
import KE.GoesZip
import HandS.SortOrd
import HandS.SortRule
import HandS.OwnEq
import HandS.CallLocal
import KE.KCallOwn
import HandS.ExcInit
import HandS.Nested
import HandS.TryOnly
import KE.KExcSuper
import HandS.ExcOwn
import HandS.ExcIs
import HandS.Replace
import HandS.List
import HandS.Deep
import PyProof.Rows.SortShellAny
import HandS.RaiseMore
import PyProof.ReprLen
import PySem.Challenge.RW_unseenflips_k47_whole_rules_that_are_lef
set_option Elab.async false
set_option linter.all false
set_option maxRecDepth 100000
set_option maxHeartbeats 4000000
namespace Lx
open PySem PySem.Spec PyProof.Rows L2

/-! enumerate over a text -/
def ItES (x : Str) : It := ⟨fun i _ => i < x.cps.size, fun i H v H' => ∃ T c, v = .ref T ∧ H T = none ∧ H' = upd H T (.tup [.int (i : Nat), .str ⟨#[c]⟩]) ∧ x.cps[i]? = some c, fun i _ => x.cps.size ≤ i⟩
theorem turn_enumS {P : Program} {w : World} {K : PySem.W.Frag} {elts : List Expr} {kk : Nat} {tpos : Pos} (x : Str) (t : Tok) (e it : Addr) :
    Turn P w K (.Tuple elts kk tpos) (ItES x) [e, it] e (fun i h => (∃ old, IsEnum h e it ((i : Nat) : Int) old) ∧ h.IsStrIter it (strIterType x) x t i ∧ e ≠ it ∧ i ≤ x.cps.size) where
  mem := by simp
  obj := fun i h st b hb => by
    obtain ⟨⟨old, he⟩, ⟨o, ho, hc, hd⟩, _⟩ := st
    have e' : b = e ∨ b = it := by simpa using hb
    rcases e' with z | z
    · rw [z]; exact ⟨_, he, fun v q => nomatch q⟩
    · rw [z]; exact ⟨o, ho, fun v q => by rw [hd] at q; cases q⟩
  keep := fun i h h' st k => by
    obtain ⟨⟨old, he⟩, ⟨o, ho, r⟩, hne⟩ := st
    exact ⟨⟨old, k e (by simp) _ he⟩, ⟨o, k it (by simp) o ho, r⟩, hne⟩
  item := by
    intro X hP hw hK hc i pins s σ H E I hf st hg
    subst hP hw hK
    obtain ⟨⟨old, he⟩, hit, hne, _⟩ := st
    have hlt : i < x.cps.size := hg
    have hel : e < s.heap.objs.size := Heap.lt_size he
    have hil : it < s.heap.objs.size := by obtain ⟨_, q, _⟩ := hit; exact Heap.lt_size q
    have hh : X.A.in1.handled = none := I.ok.hd hc
    refine wpAny_pyNext_enum_itemC (Draws.text hh it x t) he hit hlt hne (by simpa using hne) fun v h' tk hP ho hit' hT hsz hk => ?_
    obtain ⟨c, u, hcx, rfl⟩ := hP
    refine ⟨_, rfl, wpAny_letOwnedTupleGo_enum (s := { s with heap := h', toks := tk + 1 }) ho fun h'' he' sb => ?_⟩
    have hT2 : h''.get? s.heap.objs.size = some { cls := .type "tuple", data := .seq #[.int i tk, .str ⟨#[c]⟩ u] } := (sb.2 _ (Nat.ne_of_gt hel)).trans hT
    have new : ObjOk X.prog X.w (upd H s.heap.objs.size (.tup [.int (i : Nat), .str ⟨#[c]⟩])) h'' s.heap.objs.size (.tup [.int (i : Nat), .str ⟨#[c]⟩]) :=
      ⟨by show 2 ≤ sizeLine; decide, [.int i tk, .str ⟨#[c]⟩ u], .cons ⟨_, rfl⟩ (.cons ⟨_, rfl⟩ .nil), ⟨_, hT2, rfl, _, rfl⟩⟩
    have I1 : Inv X pins σ (upd H s.heap.objs.size (.tup [.int (i : Nat), .str ⟨#[c]⟩])) { s with heap := h'', toks := tk + 1 } :=
      I.turnedNew (ch := [e, it]) (fun b ob hb q => (sb.2 b (fun z => hb (by simp [z]))).trans (hk b ob (fun z => hb (by simp [z])) (fun z => hb (by simp [z])) q)) hf (Nat.le_refl _) new
    refine ⟨.ref s.heap.objs.size, _, I1, rfl, ⟨_, c, rfl, I.hok.fresh (Nat.le_refl _), rfl, hcx⟩, ⟨⟨.str ⟨#[c]⟩ u, ?_⟩, ?_, hne, hlt⟩, fun b hb => ?_⟩
    · have e1 : ((i + 1 : Nat) : Int) = (i : Int) + 1 := by omega
      rw [e1]; exact he'
    · obtain ⟨o, ho', r⟩ := hit'
      exact ⟨o, (sb.2 it (Ne.symm hne)).trans ho', r⟩
    · have hb' : b < s.heap.objs.size := by
        have e' : b = e ∨ b = it := by simpa using hb
        rcases e' with z | z
        · rw [z]; exact hel
        · rw [z]; exact hil
      rw [upd_ne (Nat.ne_of_lt hb')]
      exact (hf b hb).1
  done := by
    intro X hP hw hK hc i pins s σ H E I hf st hg
    subst hP hw hK
    obtain ⟨⟨old, he⟩, hit, hne, hle⟩ := st
    have hge : x.cps.size ≤ i := hg
    have hi : i = x.cps.size := Nat.le_antisymm hle hge
    subst hi
    have hh : X.A.in1.handled = none := I.ok.hd hc
    obtain ⟨f0, f1, f2, f3, f4, f5⟩ := hf it (by simp)
    exact wpAny_pyNext_enum_endD (Draws.text hh it x t) he hit fun h' eb => ⟨rfl, I.turned (t' := s.toks) (fun b o hb q => eb b o hb q) f0 f1 f3 f4 f5⟩
  self := fun A i s Q E st h => let ⟨⟨_, he⟩, _⟩ := st; wpAny_pyIter_enum he h
def iEnumS (ta : TA) : TI := fun σ H R => ta σ H fun vs H1 => ∃ x, vs = [.str x] ∧ R (ItES x) H1
theorem pi_enumS {X : Cx} {e : Expr} {ta : TA} {p pos tpos : Pos} {elts : List Expr} {kk : Nat} (hg : Gl X "enumerate") (hm : X.mg "enumerate" = none) (ha : PA X [e] ta) (hs : starEach [e] X.env = [(false, eval e X.env)] := by rfl) :
    PI X (.Tuple elts kk tpos) (.Call (.Name "enumerate" p) [e] [] pos) (iEnumS ta) := by
  refine ⟨fun pins s σ H R I h => ?_⟩
  refine Call_ (ld_blt I hg hm boot_enumerate (PyProof.Rows.callWith_type1 (thn (ha.run pos pins s σ H _ I h) fun us s1 ⟨vs, H1, I1, r1, q1⟩ => ?_) hs rfl))
  obtain ⟨x, ex, q⟩ := q1
  subst ex
  cases r1 with
  | cons r rr =>
    cases rr
    obtain ⟨t, rfl⟩ := r
    refine call_enumerate_str fun h' he hit hsz hk => wpAny_pyIter_enum he ?_
    have I2 : Inv X pins σ H1 { s1 with heap := h' } := I1.kept (t' := s1.toks) hk
    refine ⟨s1.heap.objs.size + 1, [s1.heap.objs.size + 1, s1.heap.objs.size], _, _, H1, rfl, I2, turn_enumS x t (s1.heap.objs.size + 1) s1.heap.objs.size, ⟨⟨.none, he⟩, hit, Nat.succ_ne_self _, Nat.zero_le _⟩, fun b hb => ?_, q⟩
    have e' : b = s1.heap.objs.size + 1 ∨ b = s1.heap.objs.size := by simpa using hb
    have hle : s1.heap.objs.size ≤ b := by
      rcases e' with z | z
      · rw [z]; exact Nat.le_add_right _ _
      · rw [z]; exact Nat.le_refl _
    exact I1.fpOk hle (I1.hok.fresh hle)

/-! enumerate over a tuple -/
def ItET (K : PySem.W.Frag) (a : Addr) : It :=
  ⟨fun i H => ∃ (xs : List V) (x : V), SqT K H a xs ∧ xs[i]? = some x, fun i H v H' => ∃ T x, v = .ref T ∧ H T = none ∧ H' = upd H T (.tup [.int (i : Nat), x]) ∧ ∀ xs, SqT K H a xs → xs[i]? = some x, fun i H => ∃ xs : List V, SqT K H a xs ∧ xs.length ≤ i⟩
theorem meets_enumerate_newT (l : Addr) (items : Array Value) (n : Nat) (dct : Option Addr) (sl : Array (Option Value)) :
    Meets (Builtin.«enumerate.__new__» ⟨[.type "enumerate", .ref l], []⟩) (fun _ R s => s.heap.get? l = some { cls := .type "tuple", dict := dct, data := .seq items n, slots := sl } ∧
      R (.ok (.ret (.ref (s.heap.push { cls := .type "tuple_iterator", data := .fields #[.ref l, .int 0 0] }).objs.size)))
        { s with heap := (s.heap.push { cls := .type "tuple_iterator", data := .fields #[.ref l, .int 0 0] }).push { cls := .type "enumerate", data := .fields #[.none, .bool false, .ref s.heap.objs.size, rawInt 0, .none, .none] } }) :=
  .of_wp fun prog w A R s h => by
    obtain ⟨hp, g, d, tk, os⟩ := s; obtain ⟨hl, h⟩ := h
    have hsub := sub_enumerate
    have hL : Heap.IsTuple (Shared.heap ⟨hp, g, d, tk, os⟩) l items := ⟨_, hl, rfl, n, rfl⟩
    wp_walk using AutoSeq1.wpAny_loadPart' hl
    refine wpAny_stack_any fun st => wpAny_pure ?_
    split
    · rename_i c _ _ _ _ _
      cases (c == Value.type "enumerate")
      · wp_walk using AutoSeq1.wpAny_loadPart' hl, wpAny_pyIter_tuple hL
        exact ⟨_, rfl, h⟩
      · wp_walk using AutoSeq1.wpAny_loadPart' hl, wpAny_pyIter_tuple hL
        exact ⟨_, rfl, h⟩
    · wp_walk using AutoSeq1.wpAny_loadPart' hl, wpAny_pyIter_tuple hL
      exact ⟨_, rfl, h⟩
theorem call_enumerate_tup {prog : Program} {w : World} {A : Around} {E : Value → Shared → Prop} {s : Shared} {l : Addr} {items : Array Value} {Q : Value → Shared → Prop} (hL : s.heap.IsTuple l items)
    (h : ∀ h', IsEnum h' (s.heap.objs.size + 1) s.heap.objs.size 0 .none → h'.IsTupleIter s.heap.objs.size l 0 → h'.objs.size = s.heap.objs.size + 2 →
      (∀ b o, s.heap.get? b = some o → h'.get? b = some o) → Q (.ref (s.heap.objs.size + 1)) { s with heap := h' }) :
    wpAny (model prog w) A (call (.type "enumerate") [.ref l]) Q E s := by
  obtain ⟨⟨c, dct, dt, sl⟩, hl, hc, n, hd⟩ := hL
  replace hc : c = .type "tuple" := hc
  replace hd : dt = .seq items n := hd
  subst hc hd
  refine callType_new F.called_enumerate (by decide) (F.typeCall_enumerate_1 _) (F.newCall_enumerate_1 _) (fun obj => F.args_object_init_2 obj _) F.entry_enumerate_new
    (meets_enumerate_newT l items n dct sl) ⟨hl, ?_⟩
  have hz : (s.heap.push { cls := .type "tuple_iterator", data := .fields #[.ref l, .int 0 0] }).objs.size = s.heap.objs.size + 1 := Heap.size_push ..
  show _ ∧ _
  rw [hz]
  have he : IsEnum ((s.heap.push { cls := .type "tuple_iterator", data := .fields #[.ref l, .int 0 0] }).push
      { cls := .type "enumerate", data := .fields #[.none, .bool false, .ref s.heap.objs.size, rawInt 0, .none, .none] }) (s.heap.objs.size + 1) s.heap.objs.size 0 .none := by
    have := Heap.get?_push_size (s.heap.push { cls := .type "tuple_iterator", data := .fields #[.ref l, .int 0 0] })
      (o := { cls := .type "enumerate", data := .fields #[.none, .bool false, .ref s.heap.objs.size, rawInt 0, .none, .none] }) rfl
    rw [hz] at this; exact this
  refine ⟨⟨_, he, rfl⟩, h _ he ⟨_, Heap.get?_push_of_some _ (Heap.get?_push_size _ rfl), rfl, rfl⟩ (by rw [Heap.size_push, hz]) fun b o x => Heap.get?_push_of_some _ (Heap.get?_push_of_some _ x)⟩
theorem turn_enumT {P : Program} {w : World} {K : PySem.W.Frag} {elts : List Expr} {kk : Nat} {tpos : Pos} (a e it : Addr) :
    Turn P w K (.Tuple elts kk tpos) (ItET K a) [e, it] e (fun i h => (∃ old, IsEnum h e it ((i : Nat) : Int) old) ∧ h.IsTupleIter it a i ∧ e ≠ it ∧ a ≠ it ∧ a ≠ e) where
  mem := by simp
  obj := fun i h st b hb => by
    obtain ⟨⟨old, he⟩, ⟨o, ho, hc, hd⟩, _⟩ := st
    have e' : b = e ∨ b = it := by simpa using hb
    rcases e' with z | z
    · rw [z]; exact ⟨_, he, fun v q => nomatch q⟩
    · rw [z]; exact ⟨o, ho, fun v q => by rw [hd] at q; cases q⟩
  keep := fun i h h' st k => by
    obtain ⟨⟨old, he⟩, ⟨o, ho, r⟩, hne⟩ := st
    exact ⟨⟨old, k e (by simp) _ he⟩, ⟨o, k it (by simp) o ho, r⟩, hne⟩
  item := by
    intro X hP hw hK hc i pins s σ H E I hf st hg
    subst hP hw hK
    obtain ⟨⟨old, he⟩, hit, hne, hai, hae⟩ := st
    obtain ⟨xs, x, hq, hx⟩ := hg
    obtain ⟨its, rv, p, hz⟩ := I.tuple hq
    obtain ⟨u, hu, ru⟩ := rv.get hx
    have hel : e < s.heap.objs.size := Heap.lt_size he
    have hil : it < s.heap.objs.size := by obtain ⟨_, q, _⟩ := hit; exact Heap.lt_size q
    have hh : X.A.in1.handled = none := I.ok.hd hc
    have pT : s.heap.IsTuple a its.toArray := p
    have hlt : i < its.toArray.size := by
      have := (List.getElem?_eq_some_iff.mp hu).1
      simpa using this
    refine wpAny_pyNext_enum_itemC (Draws.tuple hh it a hai its.toArray) he ⟨hit, pT⟩ hlt hne (by simp [hne, Ne.symm hae]) fun v h' tk hP ho hit' hT hsz hk => ?_
    have ev : v = u := by
      have hP' : its.toArray[i]? = some v := hP
      rw [List.getElem?_toArray, hu] at hP'
      exact (Option.some.inj hP').symm
    subst ev
    refine ⟨_, rfl, wpAny_letOwnedTupleGo_enum (s := { s with heap := h', toks := tk + 1 }) ho fun h'' he' sb => ?_⟩
    have hT2 : h''.get? s.heap.objs.size = some { cls := .type "tuple", data := .seq #[.int i tk, v] } := (sb.2 _ (Nat.ne_of_gt hel)).trans hT
    have new : ObjOk X.prog X.w (upd H s.heap.objs.size (.tup [.int (i : Nat), x])) h'' s.heap.objs.size (.tup [.int (i : Nat), x]) :=
      ⟨by show 2 ≤ sizeLine; decide, [.int i tk, v], .cons ⟨_, rfl⟩ (.cons ru .nil), ⟨_, hT2, rfl, _, rfl⟩⟩
    have I1 : Inv X pins σ (upd H s.heap.objs.size (.tup [.int (i : Nat), x])) { s with heap := h'', toks := tk + 1 } :=
      I.turnedNew (ch := [e, it]) (fun b ob hb q => (sb.2 b (fun z => hb (by simp [z]))).trans (hk b ob (fun z => hb (by simp [z])) (fun z => hb (by simp [z])) q)) hf (Nat.le_refl _) new
    refine ⟨.ref s.heap.objs.size, _, I1, rfl, ⟨_, x, rfl, I.hok.fresh (Nat.le_refl _), rfl, fun ys hy => by rw [I.tuple_inj hy hq]; exact hx⟩, ⟨⟨v, ?_⟩, ?_, hne, hai, hae⟩, fun b hb => ?_⟩
    · have e1 : ((i + 1 : Nat) : Int) = (i : Int) + 1 := by omega
      rw [e1]; exact he'
    · obtain ⟨⟨o, ho', r⟩, _⟩ := hit'
      exact ⟨o, (sb.2 it (Ne.symm hne)).trans ho', r⟩
    · have hb' : b < s.heap.objs.size := by
        have e' : b = e ∨ b = it := by simpa using hb
        rcases e' with z | z
        · rw [z]; exact hel
        · rw [z]; exact hil
      rw [upd_ne (Nat.ne_of_lt hb')]
      exact (hf b hb).1
  done := by
    intro X hP hw hK hc i pins s σ H E I hf st hg
    subst hP hw hK
    obtain ⟨⟨old, he⟩, hit, hne, hai, hae⟩ := st
    obtain ⟨xs, hq, hx⟩ := hg
    obtain ⟨its, rv, p, hz⟩ := I.tuple hq
    have hl := rv.length
    have pT : s.heap.IsTuple a its.toArray := p
    have hh : X.A.in1.handled = none := I.ok.hd hc
    obtain ⟨f0, f1, f2, f3, f4, f5⟩ := hf it (by simp)
    have D : Draws X.prog X.w X.A.in1 it [it, a] i (fun _ _ => True) (fun j h => j = i ∧ h.IsTupleIter it a i ∧ h.IsTuple a its.toArray) :=
      { live := fun _ _ st => let ⟨o, ho, _⟩ := st.2.1; ⟨o, ho⟩
        frame := fun _ _ _ st hk => ⟨st.1, st.2.1.at fun o e => hk it (by simp) o e, st.2.2.at fun o e => hk a (by simp) o e⟩
        item := fun j s Q E hj st hQ => absurd st.1 (Nat.ne_of_lt hj)
        done := fun s Q E st hE => wpAny_nextOf_tuple_end hh st.2.1 st.2.2 (by simp; omega) hE }
    exact wpAny_pyNext_enum_endD D he ⟨rfl, hit, pT⟩ fun h' eb => ⟨rfl, I.turned (t' := s.toks) (fun b o hb q => eb b o hb q) f0 f1 f3 f4 f5⟩
  self := fun A i s Q E st h => let ⟨⟨_, he⟩, _⟩ := st; wpAny_pyIter_enum he h
def iEnumT (K : PySem.W.Frag) (ta : TA) : TI := fun σ H R => ta σ H fun vs H1 => ∃ a xs, vs = [.ref a] ∧ SqT K H1 a xs ∧ R (ItET K a) H1
theorem pi_enumT {X : Cx} {e : Expr} {ta : TA} {p pos tpos : Pos} {elts : List Expr} {kk : Nat} (hg : Gl X "enumerate") (hm : X.mg "enumerate" = none) (ha : PA X [e] ta) (hs : starEach [e] X.env = [(false, eval e X.env)] := by rfl) :
    PI X (.Tuple elts kk tpos) (.Call (.Name "enumerate" p) [e] [] pos) (iEnumT X.K ta) := by
  refine ⟨fun pins s σ H R I h => ?_⟩
  refine Call_ (ld_blt I hg hm boot_enumerate (PyProof.Rows.callWith_type1 (thn (ha.run pos pins s σ H _ I h) fun us s1 ⟨vs, H1, I1, r1, q1⟩ => ?_) hs rfl))
  obtain ⟨a, xs, ex, hq, q⟩ := q1
  subst ex
  cases r1 with
  | cons r rr =>
    cases rr
    cases r
    obtain ⟨its, rv, p', hz⟩ := I1.tuple hq
    have pT : s1.heap.IsTuple a its.toArray := p'
    have hlt : a < s1.heap.objs.size := by obtain ⟨o, ho, _⟩ := pT; exact Heap.lt_size ho
    refine call_enumerate_tup pT fun h' he hit hsz hk => wpAny_pyIter_enum he ?_
    have I2 : Inv X pins σ H1 { s1 with heap := h' } := I1.kept (t' := s1.toks) hk
    refine ⟨s1.heap.objs.size + 1, [s1.heap.objs.size + 1, s1.heap.objs.size], _, _, H1, rfl, I2, turn_enumT a (s1.heap.objs.size + 1) s1.heap.objs.size, ⟨⟨.none, he⟩, hit, Nat.succ_ne_self _, Nat.ne_of_lt hlt, Nat.ne_of_lt (Nat.lt_succ_of_lt hlt)⟩, fun b hb => ?_, q⟩
    have e' : b = s1.heap.objs.size + 1 ∨ b = s1.heap.objs.size := by simpa using hb
    have hle : s1.heap.objs.size ≤ b := by
      rcases e' with z | z
      · rw [z]; exact Nat.le_add_right _ _
      · rw [z]; exact Nat.le_refl _
    exact I1.fpOk hle (I1.hok.fresh hle)
/-- a list or a tuple, enumerated -/
def iEnumQ (K : PySem.W.Frag) (ta : TA) : TI := fun σ H R => iEnum K ta σ H R ∨ iEnumT K ta σ H R
theorem pi_enumQ {X : Cx} {e : Expr} {ta : TA} {p pos tpos : Pos} {elts : List Expr} {kk : Nat} (hg : Gl X "enumerate") (hm : X.mg "enumerate" = none) (ha : PA X [e] ta) (hs : starEach [e] X.env = [(false, eval e X.env)] := by rfl) :
    PI X (.Tuple elts kk tpos) (.Call (.Name "enumerate" p) [e] [] pos) (iEnumQ X.K ta) := by
  refine ⟨fun pins s σ H R I h => ?_⟩
  rcases h with h | h
  · exact (pi_enum hg hm ha hs).run pins s σ H R I h
  · exact (pi_enumT hg hm ha hs).run pins s σ H R I h
theorem walk_enumT {K : PySem.W.Frag} {a : Addr} {xs : List V} : Walk (ItET K a) xs.length (fun H => SqT K H a xs) (YPair (fun i => some (.int (i : Nat))) (fun i => xs[i]?)) := by
  refine ⟨fun i _ hi q => ⟨xs, xs[i], q, by simp [hi]⟩, fun _ q => ⟨xs, q, Nat.le_refl _⟩, fun i H v H' _ q y => ?_⟩
  obtain ⟨T, x, h1, h2, h3, h4⟩ := y
  exact ⟨T, .int (i : Nat), x, h1, h2, h3, rfl, h4 xs q⟩
theorem walk_enumS {x : Str} : Walk (ItES x) x.cps.size (fun _ => True) (fun i H v H' => ∃ T c, v = .ref T ∧ H T = none ∧ H' = upd H T (.tup [.int (i : Nat), .str ⟨#[c]⟩]) ∧ x.cps[i]? = some c) :=
  ⟨fun _ _ hi _ => hi, fun _ _ => Nat.le_refl _, fun _ _ _ _ _ _ y => y⟩
end Lx

set_option maxRecDepth 100000
set_option maxHeartbeats 4000000
namespace Lx
open PySem PySem.Spec PyProof.Rows L2
/-- n turns, each a new tuple whose items are as f says -/
def ItTup (n : Nat) (f : Nat → List V → Prop) : It :=
  ⟨fun i _ => i < n, fun i H v H' => ∃ T xs, v = .ref T ∧ H T = none ∧ H' = upd H T (.tup xs) ∧ f i xs, fun i _ => n ≤ i⟩
theorem turn_tuples {P : Program} {w : World} {K : PySem.W.Frag} {elts : List Expr} {kk : Nat} {tpos : Pos} {it : Addr} {fp wr : List Addr} {n : Nat} {Pt : Nat → Array Value → Prop} {St : Nat → Heap → Prop} {Mid : Nat → Addr → Heap → Prop} {f : Nat → List V → Prop}
    (Wk : ∀ A : Around, A.in1.handled = none → WalksT P w A it fp wr n Pt St Mid) (hrel : ∀ i vals, Pt i vals → ∃ xs, Vals xs vals.toList ∧ f i xs ∧ xs.length ≤ 8)
    (hobj : ∀ i h, St i h → ∀ b ∈ fp, ∃ o, h.get? b = some o ∧ ∀ v, o.data ≠ .cell v) (hmem : it ∈ fp)
    (hself : ∀ (A : Around) (i : Nat) (s : Shared) (Q : Value → Shared → Prop) (E : Value → Shared → Prop), St i s.heap → Q (.ref it) s → wpAny (model P w) A (pyIter (.ref it)) Q E s) :
    Turn P w K (.Tuple elts kk tpos) (ItTup n f) fp it (fun i h => St i h ∧ i ≤ n) where
  mem := hmem
  obj := fun i h st => hobj i h st.1
  keep := fun i h h' st k => ⟨(Wk {} rfl).frame i h h' st.1 k, st.2⟩
  item := by
    intro X hP hw hK hc i pins s σ H E I hf st hg
    subst hP hw hK
    have hh : X.A.in1.handled = none := I.ok.hd hc
    have hlt : i < n := hg
    refine (GoesN.ofWalksT (elts := elts) (k := kk) (pos := tpos) (Wk X.A hh)).goes i s _ _ hlt st.1 fun v h' tk hY st' hk htk => ?_
    obtain ⟨T, vals, rfl, hnew, hPt, hT⟩ := hY
    obtain ⟨xs, rv, hfx, hl⟩ := hrel i vals hPt
    have new : ObjOk X.prog X.w (upd H T (.tup xs)) h' T (.tup xs) := ⟨Nat.le_trans hl (by decide), vals.toList, rv, by rw [Array.toArray_toList]; exact hT⟩
    have I1 : Inv X pins σ (upd H T (.tup xs)) { s with heap := h', toks := tk } :=
      I.turnedNew (ch := fp) (fun b ob hb q => hk b ob (fun z => hb ((Wk X.A hh).sub b z)) q) hf hnew new
    refine ⟨.ref T, _, I1, rfl, ⟨T, xs, rfl, I.hok.fresh hnew, rfl, hfx⟩, ⟨st', hlt⟩, fun b hb => ?_⟩
    have hb' : b < s.heap.objs.size := by obtain ⟨o, ho, _⟩ := hobj i _ st.1 b hb; exact Heap.lt_size ho
    rw [upd_ne (Nat.ne_of_lt (Nat.lt_of_lt_of_le hb' hnew))]
    exact (hf b hb).1
  done := by
    intro X hP hw hK hc i pins s σ H E I hf st hg
    subst hP hw hK
    have hh : X.A.in1.handled = none := I.ok.hd hc
    have hge : n ≤ i := hg
    have hi : i = n := Nat.le_antisymm st.2 hge
    subst hi
    refine (Wk X.A hh).done s _ _ st.1 fun h' tk hk => ⟨rfl, ?_⟩
    exact I.turnedL (ch := fp) (fun c o hb q => hk c o (fun z => hb ((Wk X.A hh).sub c z)) q) hf
  self := fun A i s Q E st h => hself A i s Q E st.1 h
theorem walk_tuples {n : Nat} {f : Nat → List V → Prop} : Walk (ItTup n f) n (fun _ => True) (fun i H v H' => ∃ T xs, v = .ref T ∧ H T = none ∧ H' = upd H T (.tup xs) ∧ f i xs) :=
  ⟨fun _ _ hi _ => hi, fun _ _ => Nat.le_refl _, fun _ _ _ _ _ _ y => y⟩
/-! zip of two texts -/
def zipF (x y : Str) : Nat → List V → Prop := fun i xs => ∃ c d, x.cps[i]? = some c ∧ y.cps[i]? = some d ∧ xs = [.str ⟨#[c]⟩, .str ⟨#[d]⟩]
def iZipS (ta : TA) : TI := fun σ H R => ta σ H fun vs H1 => ∃ x y, vs = [.str x, .str y] ∧ R (ItTup (min x.cps.size y.cps.size) (zipF x y)) H1
theorem pi_zipS {X : Cx} {e e2 : Expr} {ta : TA} {p pos tpos : Pos} {elts : List Expr} {kk : Nat} (hg : Gl X "zip") (hm : X.mg "zip" = none) (ha : PA X [e, e2] ta)
    (hs : starEach [e, e2] X.env = (false, eval e X.env) :: starEach [e2] X.env := by rfl) (hpl : (backTo pos (starEach [e2] X.env)).any (·.1) = false := by rfl) :
    PI X (.Tuple elts kk tpos) (.Call (.Name "zip" p) [e, e2] [] pos) (iZipS ta) := by
  refine ⟨fun pins s σ H R I h => ?_⟩
  refine Call_ (ld_blt I hg hm PyProof.Rows.boot_zip (PyProof.Rows.callWith_type1 (thn (ha.run pos pins s σ H _ I h) fun us s1 ⟨vs, H1, I1, r1, q1⟩ => ?_) hs hpl))
  obtain ⟨x, y, ex, q⟩ := q1
  subst ex
  cases r1 with
  | cons r rr =>
    cases rr with
    | cons r' rr =>
      cases rr
      obtain ⟨t, rfl⟩ := r
      obtain ⟨t', rfl⟩ := r'
      refine zip_begins2 (begins_text x t) (begins_text y t') trivial trivial fun h' hz hTI hTO h1 h2 hsz hk => wpAny_pyIter_zip hz ?_
      have I2 : Inv X pins σ H1 { s1 with heap := h' } := I1.kept (t' := s1.toks) hk
      have sep := zip_sep2 (N := s1.heap.objs.size) (fp1 := []) (fp2 := []) (fun b hb => nomatch hb) (fun b hb => nomatch hb)
      have tn := turn_tuples (P := X.prog) (w := X.w) (K := X.K) (elts := elts) (kk := kk) (tpos := tpos) (f := zipF x y)
        (fun A hh => WalksT.zipD2 sep (Draws.text (prog := X.prog) (w := X.w) hh s1.heap.objs.size x t) (Draws.text (prog := X.prog) (w := X.w) hh (s1.heap.objs.size + 1) y t'))
        (fun i vals hv => by
          obtain ⟨x1, x2, ⟨c, u, hc, rfl⟩, ⟨d, u', hd, rfl⟩, rfl⟩ := hv
          exact ⟨[.str ⟨#[c]⟩, .str ⟨#[d]⟩], .cons ⟨_, rfl⟩ (.cons ⟨_, rfl⟩ .nil), ⟨c, d, hc, hd, rfl⟩, by show 2 ≤ 8; decide⟩)
        (fun i h st b hb => by
          obtain ⟨z1, z2, ⟨a1, a2, z3⟩, ⟨o1, e1, _, d1⟩, ⟨o2, e2, _, d2⟩⟩ := st
          have e' : b = s1.heap.objs.size + 4 ∨ b = s1.heap.objs.size + 2 ∨ b = s1.heap.objs.size + 3 ∨ b = s1.heap.objs.size ∨ b = s1.heap.objs.size + 1 := by simpa using hb
          rcases e' with q | q | q | q | q
          · rw [q]; exact ⟨_, z1, fun v q => nomatch q⟩
          · rw [q]; exact ⟨_, z2, fun v q => nomatch q⟩
          · rw [q]; exact ⟨_, z3, fun v q => nomatch q⟩
          · rw [q]; exact ⟨o1, e1, fun v q => by rw [d1] at q; cases q⟩
          · rw [q]; exact ⟨o2, e2, fun v q => by rw [d2] at q; cases q⟩)
        (by simp) (fun A i s Q E st h => wpAny_pyIter_zip st.1 h)
      refine ⟨s1.heap.objs.size + 4, _, _, _, H1, rfl, I2, tn, ⟨⟨hz, hTI, ⟨_, _, hTO⟩, ⟨_, h1, rfl, rfl⟩, ⟨_, h2, rfl, rfl⟩⟩, Nat.zero_le _⟩, fun c hcm => ?_, q⟩
      have e' : c = s1.heap.objs.size + 4 ∨ c = s1.heap.objs.size + 2 ∨ c = s1.heap.objs.size + 3 ∨ c = s1.heap.objs.size ∨ c = s1.heap.objs.size + 1 := by simpa using hcm
      have hle : s1.heap.objs.size ≤ c := by
        rcases e' with z | z | z | z | z
        · rw [z]; exact Nat.le_add_right _ _
        · rw [z]; exact Nat.le_add_right _ _
        · rw [z]; exact Nat.le_add_right _ _
        · rw [z]; exact Nat.le_refl _
        · rw [z]; exact Nat.le_add_right _ _
      exact I1.fpOk hle (I1.hok.fresh hle)
/-! text * int -/
section
variable {X : Cx}
theorem op_rep_str : OpR X (binaryOp .Mult) (fun x y H Q => ∃ (z : Str) (n : Int), x = .str z ∧ y = .int n ∧ n < 2 ^ 20 ∧ -(2 ^ 20) < n ∧ z.length * n.toNat ≤ 100000 ∧ Q (.str (Txt.mul z n)) H) := by
  intro pins s σ H x y u v Q I rx ry h
  obtain ⟨z, n, rfl, rfl, h1, h2, h3, q⟩ := h
  obtain ⟨t, rfl⟩ := rx
  obtain ⟨t', rfl⟩ := ry
  refine SB.mul ⟨?_, fun a b => ?_, fun a b => ?_⟩ fun t' k => ⟨.str (Txt.mul z n), H, I.tok _, ⟨_, rfl⟩, q⟩
  · rw [decide_eq_false (by omega), decide_eq_false (by omega)]; rfl
  · have e1 : ((z.length : Int)) ≤ 100000 := by
      have : z.length * 1 ≤ z.length * n.toNat := Nat.mul_le_mul_left _ (by omega)
      omega
    have e2 : (100000 : Int) ≤ (2 ^ 63 - 1) / n := by
      refine (Int.le_ediv_iff_mul_le (by omega)).mpr ?_
      omega
    omega
  · show decide (z.length * n.toNat > sizeLine) = false
    exact decide_eq_false (Nat.not_lt.mpr (Nat.le_trans h3 (by decide)))
end
/-! a class made without arguments; a def called without; a property -/
open C8 in
theorem pe_mk0 {X : Cx} {k j : Nat} {C : Addr} {x : Str} {sp : Sp} {dvs : List V} {p pos : Pos} (c : Mak X.prog X.w X.K X.mg X.base k x C sp dvs) (hr : Room j X.A) (hk : k + 1 ≤ j) (hg : Gl X x) (hdb : (x == ("__debug__" : Str)) = false := by decide) :
    PE X (.Call (.Name x p) [] [] pos) (tMake C sp dvs C8.E0 tNil) := by
  obtain ⟨f, fd, ps, ds, M, F, hm, b, d⟩ := c.ex
  exact pe_make0 M F (hr.mono hk) hg hm b d C8.pass0 hdb
open C8 in
theorem pe_c0 {X : Cx} {k j : Nat} {x : Str} {sp : Sp} {dvs : List V} {p pos : Pos} (c : Cal X.prog X.w X.K X.mg X.base k x sp dvs) (hr : Room j X.A) (hk : k ≤ j) (hg : Gl X x) (hdb : (x == ("__debug__" : Str)) = false := by decide) :
    PE X (.Call (.Name x p) [] [] pos) (tCall sp dvs C8.E0 tNil) := by
  obtain ⟨f, fd, ps, ds, F, hm, kp, b, d⟩ := c.ex
  exact pe_call0 F (hr.mono hk) hg hm kp b d C8.pass0 hdb
/-- a property of the class at C -/
structure Prp (P : Program) (w : World) (K : PySem.W.Frag) (mg : Str → Option Value) (base : Heap) (k : Nat) (C : Addr) (m : Str) (sp : Sp) : Prop where
  ex : ∃ (p f : Addr) (fd : FuncData) (ps : List Str), Cls K C ∧ PropOf K C m p f ∧ FnOk P w K mg base C8.CX0 k f fd ps sp ∧ Binds K fd ps []
theorem pe_pr {X : Cx} {k j : Nat} {C : Addr} {m : Str} {sp : Sp} {e : Expr} {ta : TE} {pos : Pos} (c : Prp X.prog X.w X.K X.mg X.base k C m sp) (hr : Room j X.A) (hk : k + 1 ≤ j) (he : PE X e ta) (hab : attributeBase e m X.env (eval e X.env) = eval e X.env := by rfl) :
    PE X (.Attribute e m pos) (tProp C sp [] C8.E0 ta) := by
  obtain ⟨p, f, fd, ps, hc, hp, F, b⟩ := c.ex
  exact pe_prop he hc hp F (hr.mono hk) b .nil C8.pass0 hab
end Lx

set_option maxRecDepth 100000
set_option maxHeartbeats 4000000
/-! sorted of pairs of texts -/
namespace SrT
open PySem PyProof.Rows SrtO
def IsTT (h : Heap) (v : Value) (x y : Str) : Prop := ∃ a o t u n, v = .ref a ∧ h.get? a = some o ∧ o.cls = .type "tuple" ∧ o.data = .seq #[.str x t, .str y u] n
theorem IsTT.keeps {h h' : Heap} {v : Value} {x y : Str} (p : IsTT h v x y) (k : ∀ b o, h.get? b = some o → o.cls = .type "tuple" → h'.get? b = some o) : IsTT h' v x y := by
  obtain ⟨a, o, t, u, n, e, ho, hc, hd⟩ := p
  exact ⟨a, o, t, u, n, e, k _ _ ho hc, hc, hd⟩
def lexT (p q : Str × Str) : Bool := if p.1 = q.1 then decide (p.2.cps.toList < q.2.cps.toList) else decide (p.1.cps.toList < q.1.cps.toList)
theorem str_of {a b : Str} (h : a.cps.toList = b.cps.toList) : a = b := TL.ext_tl h
theorem tri {a b : Str} (h1 : ¬ a.cps.toList < b.cps.toList) (h2 : ¬ b.cps.toList < a.cps.toList) : a = b :=
  str_of (List.le_antisymm (List.not_lt.mp h2) (List.not_lt.mp h1))
theorem lexT_no {p q : Str × Str} : lexT p q = false ↔ q.1.cps.toList < p.1.cps.toList ∨ (p.1 = q.1 ∧ ¬ p.2.cps.toList < q.2.cps.toList) := by
  unfold lexT
  by_cases e : p.1 = q.1
  · rw [if_pos e, decide_eq_false_iff_not]
    constructor
    · intro h; exact .inr ⟨e, h⟩
    · rintro (h | h)
      · rw [e] at h; exact absurd h (List.lt_irrefl _)
      · exact h.2
  · rw [if_neg e, decide_eq_false_iff_not]
    constructor
    · intro h
      by_cases c : q.1.cps.toList < p.1.cps.toList
      · exact .inl c
      · exact absurd (tri h c) e
    · rintro (h | h)
      · exact List.lt_asymm h
      · exact absurd h.1 e
theorem lexT_yes {p q : Str × Str} : lexT p q = true ↔ p.1.cps.toList < q.1.cps.toList ∨ (p.1 = q.1 ∧ p.2.cps.toList < q.2.cps.toList) := by
  unfold lexT
  by_cases e : p.1 = q.1
  · rw [if_pos e, decide_eq_true_eq]
    constructor
    · intro h; exact .inr ⟨e, h⟩
    · rintro (h | h)
      · rw [e] at h; exact absurd h (List.lt_irrefl _)
      · exact h.2
  · rw [if_neg e, decide_eq_true_eq]
    constructor
    · intro h; exact .inl h
    · rintro (h | h)
      · exact h
      · exact absurd h.1 e
theorem swo_T {α : Type} (k : α → Str × Str) : Swo fun v u => lexT (k v) (k u) := by
  refine ⟨fun x y h => ?_, fun x y z h1 h2 => ?_⟩
  · rcases lexT_yes.mp h with a | ⟨a, b⟩
    · exact lexT_no.mpr (.inl a)
    · exact lexT_no.mpr (.inr ⟨a.symm, List.lt_asymm b⟩)
  · refine lexT_no.mpr ?_
    rcases lexT_no.mp h1 with a | ⟨a, b⟩ <;> rcases lexT_no.mp h2 with c | ⟨c, d⟩
    · exact .inl (List.lt_trans a c)
    · rw [← c] at a; exact .inl a
    · rw [a] at c; exact .inl c
    · refine .inr ⟨c.trans a, fun hz => ?_⟩
      by_cases e : (k y).2.cps.toList < (k x).2.cps.toList
      · exact b e
      · by_cases g : (k z).2 = (k y).2
        · rw [g] at hz; exact b hz
        · by_cases i : (k y).2.cps.toList < (k z).2.cps.toList
          · exact b (List.lt_trans i hz)
          · exact g (tri d i)
section
variable {prog : Program} {w : World} {A : Around} {E : Value → Shared → Prop} {s : Shared}
theorem tt_cmp {vs : List Value} {k : Value → Str × Str} (hp : ∀ v ∈ vs, IsTT s.heap v (k v).1 (k v).2) : Cmp prog w A s (tuples' true) (fun p => p.1 ∈ vs) (lt2 fun v u => lexT (k v) (k u)) := by
  intro p q hm hm'
  have h1 := hp _ hm
  have h2 := hp _ hm'
  show wpAny (model prog w) A (keyLt' (tuples' true) p.1 q.1) (fun r s' => s' = s ∧ r = lexT (k p.1) (k q.1)) (fun _ _ => False) s
  unfold lexT
  generalize (k p.1).1 = x at h1 ⊢
  generalize (k p.1).2 = y at h1 ⊢
  generalize (k q.1).1 = x' at h2 ⊢
  generalize (k q.1).2 = y' at h2 ⊢
  obtain ⟨a, o, t, u, n, e, ho, hc, hd⟩ := h1
  obtain ⟨a', o', t', u', n', e', ho', hc', hd'⟩ := h2
  rw [e, e']
  refine PySem.W.kat_lt ho hd ho' hd' ?_
  show PySem.W.KatLex prog w A true (decide (2 < 2)) _ [(.str x t, .str x' t'), (.str y u, .str y' u')] 0 s
  refine PySem.W.kat_cons (SeqAt.EqAt.str_str x t x' t' prog w _ _ ?_)
  refine PySem.W.kat_go (fun e1 => ?_) (fun e1 => ?_)
  · have ex : x = x' := by simpa using e1
    refine PySem.W.kat_yes (PySem.W.kat_cons (SeqAt.EqAt.str_str y u y' u' prog w _ _ ?_))
    refine PySem.W.kat_go (fun e2 => ?_) (fun e2 => ?_)
    · have ey : y = y' := by simpa using e2
      have e3 : (if x = x' then decide (y.cps.toList < y'.cps.toList) else decide (x.cps.toList < x'.cps.toList)) = false := by
        rw [if_pos ex, ey]
        exact decide_eq_false (List.lt_irrefl _)
      exact PySem.W.kat_yes (PySem.W.kat_nil ⟨rfl, e3.symm⟩)
    · have e3 : (if x = x' then decide (y.cps.toList < y'.cps.toList) else decide (x.cps.toList < x'.cps.toList)) = decide (y.cps.toList < y'.cps.toList) := if_pos ex
      refine PySem.W.kat_no (PySem.W.kat_one _ _ (PyProof.Rows.lt_str ?_))
      exact (show s = s ∧ decide (y.cps.toList < y'.cps.toList) = (if x = x' then decide (y.cps.toList < y'.cps.toList) else decide (x.cps.toList < x'.cps.toList)) from ⟨rfl, e3.symm⟩)
  · have ex : ¬ x = x' := by simpa using e1
    have e3 : (if x = x' then decide (y.cps.toList < y'.cps.toList) else decide (x.cps.toList < x'.cps.toList)) = decide (x.cps.toList < x'.cps.toList) := if_neg ex
    exact PySem.W.kat_no (oneLt_str ⟨rfl, e3.symm⟩)
theorem firsts_T {h : Heap} : ∀ {vs : List Value}, (∀ v ∈ vs, ∃ x y, IsTT h v x y) → ∃ fs : List Value, PySem.W.KatTups h vs fs ∧ fs.length = vs.length ∧ ∀ f ∈ fs, ∃ x t, f = Value.str x t
  | [], _ => ⟨[], PySem.W.KatTups.nil, rfl, fun _ hm => by simp at hm⟩
  | v :: vs, hp => by
    obtain ⟨fs, h1, h2, h3⟩ := firsts_T (vs := vs) fun v' hm => hp v' (List.mem_cons_of_mem _ hm)
    obtain ⟨x, y, a, o, t, u, n, e, ho, hc, hd⟩ := hp v (List.mem_cons_self ..)
    subst e
    refine ⟨.str x t :: fs, PySem.W.KatTups.cons ho hc hd rfl h1, by rw [List.length_cons, List.length_cons, h2], fun f hm => ?_⟩
    rcases List.mem_cons.mp hm with rfl | hm
    · exact ⟨x, t, rfl⟩
    · exact h3 f hm
theorem tt_sortable {a : Addr} {vs : List Value} {k : Value → Str × Str} (h0 : 0 < vs.length) (hp : ∀ v ∈ vs, IsTT s.heap v (k v).1 (k v).2) (ha : ∀ o, s.heap.get? a = some o → o.cls ≠ .type "tuple") : SortableO prog w A s a vs fun v u => lexT (k v) (k u) := by
  intro h' keep
  have hp' : ∀ v ∈ vs, IsTT h' v (k v).1 (k v).2 := fun v hm => (hp v hm).keeps fun b o e c => keep b o (fun z => by subst z; exact ha o e c) e
  obtain ⟨fs, h1, h2, h3⟩ := firsts_T fun v hm => ⟨_, _, hp' v hm⟩
  refine ⟨tuples' true, fun Q E hq => ?_, tt_cmp hp'⟩
  refine PySem.W.kat_kind (T := .type "str") h1 (by omega) (fun f hm => ?_) (by rfl) ?_
  · obtain ⟨x, t, rfl⟩ := h3 f hm
    exact PySem.W.Looks.now
  · have e : (Value.type "str" != Value.type "tuple") = true := by first | decide +kernel | rfl | decide
    rw [e]
    exact hq
theorem collect_tup {l : Addr} {vs : List Value} {Q : List Value → Shared → Prop} (hl : s.heap.IsTuple l vs.toArray)
    (h : Q vs { s with heap := (s.heap.push (seqObj "list" #[] 0)).update s.heap.objs.size (Obj.mapSeq (· ++ vs.toArray)) }) (hsz : vs.length ≤ sizeLine) :
    wpAny (model prog w) A (collect (.ref l)) Q E s := by
  obtain ⟨o, ho, hc, n, hd⟩ := id hl
  unfold collect
  refine wpAny_bind (wpAny_runValue (codeAny_builtin entry_proto_collect' ?_))
  show wpAny _ _ (do again (.builtin "list.__iadd__" ⟨[← newList [], .ref l], []⟩)) _ _ s
  refine wpAny_bind (wpAny_newList (wpAny_pure ⟨Code.quiet_builtin _ (by decide +kernel), codeAny_builtin entry_list_iadd' ?_⟩))
  show wpAny _ _ (Builtin.List.listExtendWith (.ref s.heap.objs.size) (.ref l) (.ref s.heap.objs.size)) _ _ { s with heap := s.heap.push (seqObj "list" #[] 0) }
  unfold Builtin.List.listExtendWith
  have ho' : (s.heap.push (seqObj "list" #[] 0)).get? l = some o := Heap.get?_push_of_some _ ho
  refine wpAny_bind (wpAny_typeOf (T := "tuple") ⟨o, ho', hc⟩ ?_)
  have ht : (Value.type "tuple" == Value.type "tuple") = true := by rfl
  rw [if_pos (by rw [ht]; simp)]
  refine wpAny_bind (listItems_at ho' hd ?_)
  refine wpAny_bind (listItems_at (xs := #[]) (n := 0) (Heap.get?_push_size _ rfl) rfl ?_)
  rw [if_neg (by simp)]
  refine wpAny_bind (listUpdate_at (xs := #[]) (n := 0) (Heap.get?_push_size _ rfl) rfl ?_ (Nat.zero_le _) (by show (#[] ++ vs.toArray).size ≤ sizeLine + 1; simp only [Array.size_append, List.size_toArray, List.length_nil]; omega))
  refine wpAny_pure ?_
  show wpAny (model prog w) A (do
      let o ← load s.heap.objs.size
      match o.data with
      | .seq xs _ => pure xs.toList
      | _ => unsupported "internal:collect") Q E { s with heap := (s.heap.push (seqObj "list" #[] 0)).update s.heap.objs.size (Obj.mapSeq (· ++ vs.toArray)) }
  refine wpAny_bind (wpAny_load (get?_update_seq (Heap.get?_push_size _ rfl) _) ?_)
  show wpAny _ _ (pure ((#[] : Array Value) ++ vs.toArray).toList) Q E _
  rw [show ((#[] : Array Value) ++ vs.toArray).toList = vs by simp]
  exact wpAny_pure h
/-- sorted(x) of what is collected -/
theorem sorted_col {x : Value} {vs : List Value} {ltv : Value → Value → Bool} {Q : Value → Shared → Prop} (O : Swo ltv)
    (hcol : ∀ (A : Around) (E : Value → Shared → Prop) (Q : List Value → Shared → Prop), Q vs { s with heap := (s.heap.push (seqObj "list" #[] 0)).update s.heap.objs.size (Obj.mapSeq (· ++ vs.toArray)) } → wpAny (model prog w) A (collect x) Q E s) (hz : vs.length ≤ sizeLine)
    (hS : 2 ≤ vs.length → ∀ (h₁ : Heap) (a : Addr), h₁.get? a = some (seqObj "list" vs.toArray 0) → (∀ b o, s.heap.get? b = some o → b ≠ a ∧ h₁.get? b = some o) → SortableO prog w A.in1.in1 { s with heap := h₁ } a vs ltv)
    (h : ∀ out : List Value, Srtd ltv out → Stb ltv out vs → Q (.ref (s.heap.objs.size + 1)) { s with heap := sortedAll s.heap vs out.toArray }) :
    wpAny (model prog w) A (call (.builtin "sorted") [x]) Q E s := by
  refine Calls.call_function_entry kind_sorted plain_sorted entry_sorted (args_sorted1 _) ?_
  unfold Builtin.«sorted»
  refine wpAny_bind (m := checkCount "sorted" 1 1 _) (wpAny_pure ?_)
  refine wpAny_bind (hcol _ _ _ ?_)
  refine wpAny_bind (wpAny_newList ?_ hz)
  have hsz : ((s.heap.push (seqObj "list" #[] 0)).update s.heap.objs.size (Obj.mapSeq (· ++ vs.toArray))).objs.size = s.heap.objs.size + 1 := by
    rw [Heap.size_update, size_push']
  have hoL : (((s.heap.push (seqObj "list" #[] 0)).update s.heap.objs.size (Obj.mapSeq (· ++ vs.toArray))).push (seqObj "list" vs.toArray 0)).get? (s.heap.objs.size + 1) = some (seqObj "list" vs.toArray 0) := by
    rw [← hsz]; exact Heap.get?_push_size _ rfl
  have keep : ∀ b o, s.heap.get? b = some o → b ≠ s.heap.objs.size + 1 ∧ (((s.heap.push (seqObj "list" #[] 0)).update s.heap.objs.size (Obj.mapSeq (· ++ vs.toArray))).push (seqObj "list" vs.toArray 0)).get? b = some o := fun b o q => by
    have hlt : b < s.heap.objs.size := Heap.lt_size q
    refine ⟨Nat.ne_of_lt (Nat.lt_succ_of_lt hlt), Heap.get?_push_of_some _ ?_⟩
    rw [Heap.get?_update_ne _ _ _ _ (Nat.ne_of_lt hlt)]
    exact Heap.get?_push_of_some _ q
  show wpAny _ _ _ _ _ { s with heap := ((s.heap.push (seqObj "list" #[] 0)).update s.heap.objs.size (Obj.mapSeq (· ++ vs.toArray))).push (seqObj "list" vs.toArray 0) }
  rw [hsz]
  refine wpAny_bind (wpAny_holding (wpAny_call_entry slot_list_sort ⟨_, hoL, rfl⟩ entry_list_sort (list_sort_ord O hoL hz (fun h2 => hS h2 _ _ hoL keep) fun out hs hb => ⟨_, rfl, ?_⟩) (args_list_sort _)))
  exact wpAny_pure ⟨_, rfl, h out hs hb⟩
end
end SrT
namespace Lx
open PySem PySem.Spec PyProof.Rows L2
/-- sorted(xs), xs a list or a tuple of pairs of texts -/
def rSortedT (K : PySem.W.Frag) : List V → Hp → VK → Prop := fun vs H Q => ∃ (a : Addr) (ps : List Addr) (k : Addr → Str × Str), vs = [V.ref a] ∧ (SqL K H a (ps.map V.ref) ∨ SqT K H a (ps.map V.ref)) ∧ (∀ t ∈ ps, H t = some (.tup [.str (k t).1, .str (k t).2])) ∧
  ∀ (qs : List Addr) p, SrtO.Srtd (fun x y => SrT.lexT (k x) (k y)) qs → qs.Perm ps → H p = none → Q (.ref p) (upd H p (.lst (qs.map V.ref)))
section
variable {X : Cx}
theorem cr_sortedT : CallR X (.builtin "sorted") (rSortedT X.K) := by
  intro pins s σ H vs us Q I r h
  obtain ⟨a, ps, k, rfl, hs, hx, q⟩ := h
  obtain ⟨u, rfl, ru⟩ := vals1 r
  obtain rfl : u = Value.ref a := ru
  have com : ∀ its : List Value, Vals (ps.map V.ref) its → its.length ≤ sizeLine → (∀ (A : Around) (E : Value → Shared → Prop) (Q : List Value → Shared → Prop), Q its { s with heap := (s.heap.push (seqObj "list" #[] 0)).update s.heap.objs.size (Obj.mapSeq (· ++ its.toArray)) } → wpAny (model X.prog X.w) A (collect (.ref a)) Q E s) →
      wpAny (model X.prog X.w) X.A (call (.builtin "sorted") [Value.ref a]) (EP X pins σ Q) X.xe s := by
    intro its rv hz hcol
    have ei : its = ps.map Value.ref := by
      clear hcol hz hx q hs
      induction ps generalizing its with
      | nil => cases rv; rfl
      | cons x l ih =>
        cases rv with
        | cons h1 h2 =>
          rw [List.map_cons, ← ih _ h2]
          congr 1
    subst ei
    have hp : ∀ v ∈ ps.map Value.ref, SrT.IsTT s.heap v (match v with | .ref t => k t | _ => ("", "")).1 (match v with | .ref t => k t | _ => ("", "")).2 := by
      intro v hv
      obtain ⟨t, ht, rfl⟩ := List.mem_map.mp hv
      obtain ⟨_, its2, r2, o, ho, hc, n, hd⟩ := I.hok _ _ (hx t ht)
      obtain ⟨u1, u2, rfl, ri, rj⟩ := vals2 r2
      obtain ⟨t1, rfl⟩ := ri
      obtain ⟨t2, rfl⟩ := rj
      exact ⟨t, o, t1, t2, n, rfl, ho, hc, hd⟩
    refine SrT.sorted_col (SrT.swo_T fun v : Value => match v with | .ref t => k t | _ => ("", "")) hcol hz (fun h2 h₁ b hb kk => ?_) fun out h1 h2 => ?_
    · refine SrT.tt_sortable (s := { s with heap := h₁ }) (by omega) (fun v hm => (hp v hm).keeps fun b o e _ => (kk b o e).2) fun o e => ?_
      have e' : some o = some (seqObj "list" (ps.map Value.ref).toArray 0) := e.symm.trans hb
      cases e'
      intro c
      exact absurd (Value.type.inj c) (by decide)
    · obtain ⟨qs, rfl⟩ : ∃ qs : List Addr, out = qs.map Value.ref := by
        have hm : ∀ v ∈ out, ∃ t, v = Value.ref t := fun v hv => by
          obtain ⟨t, _, e⟩ := List.mem_map.mp (h2.perm.mem_iff.mp hv)
          exact ⟨t, e.symm⟩
        clear h1 h2
        induction out with
        | nil => exact ⟨[], rfl⟩
        | cons v r ih =>
          obtain ⟨t, rfl⟩ := hm v List.mem_cons_self
          obtain ⟨qs, rfl⟩ := ih fun v hv => hm v (List.mem_cons_of_mem _ hv)
          exact ⟨t :: qs, rfl⟩
      have perm : qs.Perm ps := by
        have h3 := h2.perm.map (fun v : Value => match v with | .ref t => t | _ => 0)
        rw [List.map_map, List.map_map] at h3
        have ef : ((fun v : Value => match v with | .ref t => t | _ => 0) ∘ Value.ref) = id := by funext t; rfl
        rw [ef, List.map_id, List.map_id] at h3
        exact h3
      have srt : SrtO.Srtd (fun x y => SrT.lexT (k x) (k y)) qs := List.pairwise_map.mp h1
      obtain ⟨n, hn⟩ := PyProof.Rows.sortedAll_at s.heap (ps.map Value.ref) (qs.map Value.ref).toArray
      have hd : s.heap.objs.size ≤ s.heap.objs.size + 1 := Nat.le_succ _
      have rq : Vals (qs.map V.ref) (qs.map Value.ref) := by
        clear h1 h2 perm srt hn
        induction qs with
        | nil => exact .nil
        | cons x l ih => exact .cons rfl ih
      refine ⟨.ref (s.heap.objs.size + 1), upd H (s.heap.objs.size + 1) (.lst (qs.map V.ref)), I.laid (t' := s.toks) (fun b o e => PyProof.Rows.sortedAll_old e) hd ⟨?_, _, n, rq, hn⟩, rfl, q qs _ srt perm (I.hok.fresh hd)⟩
      rw [List.length_map, perm.length_eq, ← List.length_map (f := Value.ref)]
      exact hz
  rcases hs with hs | hs
  · obtain ⟨its, rv, hl, hz⟩ := I.list hs
    exact com its rv (by rw [← rv.length]; exact hz) fun A E Q h => collect_list hl.isList h (by rw [← rv.length]; exact hz)
  · obtain ⟨its, rv, hl, hz⟩ := I.tuple hs
    exact com its rv (by rw [← rv.length]; exact hz) fun A E Q h => SrT.collect_tup (show s.heap.IsTuple a its.toArray from hl) h (by rw [← rv.length]; exact hz)
/-- a list or a tuple, walked -/
def iSeq (K : PySem.W.Frag) (tl : TE) : TI := fun σ H R => iList K tl σ H R ∨ iTup K tl σ H R
theorem pi_seq {tg l : Expr} {tl : TE} (hl : PE X l tl) : PI X tg l (iSeq X.K tl) := by
  refine ⟨fun pins s σ H R I h => ?_⟩
  rcases h with h | h
  · exact (pi_list hl).run pins s σ H R I h
  · exact (pi_tup hl).run pins s σ H R I h
theorem ty_list {K : PySem.W.Frag} {H : Hp} {a : Addr} {xs : List V} (h : SqL K H a xs) : TyX K H (.ref a) (.type "list") := by
  rcases h with (h | ⟨o, h⟩) | ⟨o, its, n, hk, hc, _⟩
  · exact .base (.lst h)
  · exact .base (.frz h)
  · exact .kList hk hc
theorem ty_tup {K : PySem.W.Frag} {H : Hp} {a : Addr} {xs : List V} (h : SqT K H a xs) : TyX K H (.ref a) (.type "tuple") := by
  rcases h with (h | ⟨o, h⟩) | ⟨o, its, n, hk, hc, _⟩
  · exact .base (.tup h)
  · exact .fTuple h
  · exact .kTuple hk hc
theorem same_tup {K : PySem.W.Frag} {H H' : Hp} {a : Addr} {xs : List V} (e : Same H H') (h : SqT K H a xs) : SqT K H' a xs := by
  rcases h with (h | ⟨o, h⟩) | h
  · exact .inl (.inl (e _ _ h))
  · exact .inl (.inr ⟨o, e _ _ h⟩)
  · exact .inr h
/-- a list or a tuple -/
def Sq (K : PySem.W.Frag) (H : Hp) (a : Addr) (xs : List V) : Prop := SqL K H a xs ∨ SqT K H a xs
theorem Sq.same {K : PySem.W.Frag} {H H' : Hp} {a : Addr} {xs : List V} (h : Sq K H a xs) (e : Same H H') : Sq K H' a xs := h.elim (fun h => .inl (e.seq h)) (fun h => .inr (same_tup e h))
end
end Lx

set_option maxRecDepth 100000
set_option maxHeartbeats 4000000
namespace Lx
open PySem PySem.Spec PyProof.Rows L2
section
variable {X : Cx} {k j : Nat} {C : Addr} {sp : Sp}
/-- a def run from a deeper place of the same frame -/
theorem run_sub {CX : CXT} {f : Addr} {fd : FuncData} {ps : List Str} {A : Around} {pins : List (Addr × Obj)} {σ : L2.St} {H : Hp} {s : Shared} {Q : VK} {E : XK} {us : List Value} {vs : List V} (F : FnOk X.prog X.w X.K X.mg X.base CX k f fd ps sp) (sb : Sub X k A) (hb : Binds X.K fd ps [])
    (hx : Passes CX X E) (I : Inv X pins σ H s) (r : Vals vs us) (h : sp vs H Q E) : wpAny (model X.prog X.w) A (call (.ref f) us) (EP X pins σ Q) X.xe s := by
  have e0 : Env0 X.prog X.w X.K X.mg X.base A X.stack s H := by
    have e := I.env0
    exact ⟨by rw [sb.fr]; exact e.frames, e.mod, e.bs, e.bsz, e.funs, e.frf, e.hok, e.bare⟩
  have hl : (us ++ []).length = ps.length := by rw [List.append_nil, ← r.length]; exact F.len _ _ _ _ h
  refine wpAny_call (codeAny_mono (F.run A X.stack s H ⟨us, []⟩ us vs Q E sb.room e0 (by have := hb s us I.kIn hl; simpa using this) r h) fun r s' hq => ?_)
  cases r with
  | error e => exact hx pins σ H s e s' I hq
  | ok fl =>
    cases fl with
    | ret w => exact I.after hq
    | next => exact False.elim hq
    | brk => exact False.elim hq
    | cont => exact False.elim hq
theorem vals_nil {ds : List Value} (h : Vals [] ds) : ds = [] := by cases h; rfl
theorem sub_in2 {A : Around} (hr : Room j A) (hk : k + 2 ≤ j) (hf : A.frames = X.A.frames) : Sub X k A.in1.in1 := by
  have s : Sub X (k + 2) A := ⟨hr.mono hk, hf⟩
  exact s.in1.in1
/-- str(o) by the text's own __str__ -/
def rStrO (C : Addr) (sp : Sp) : List V → Hp → VK → Prop := fun xs H Q => ∃ a dx fs, xs = [.ref a] ∧ H a = some (.ins C dx fs) ∧ sp [.ref a] H (fun v H' => ∃ z, v = .str z ∧ Q (.str z) H') C8.E0
theorem call_str_own (c : C8.Met X.prog X.w X.K X.mg X.base k C "__str__" sp []) (hr : Room j X.A) (hk : k + 2 ≤ j) : CallR X (.type "str") (rStrO C sp) := by
  intro pins s σ H xs us Q I rv h
  obtain ⟨a, dx, fs, rfl, ha, hsp⟩ := h
  obtain ⟨f, fd, ps, ds, _, me, F, b, d⟩ := c.ex
  obtain rfl := vals_nil d
  cases rv with
  | cons r rr =>
    cases rr
    cases r
    obtain ⟨mA, J, _⟩ := ins_get I.hok ha
    obtain ⟨od, J, _⟩ := J.look
    have sb : Sub X k X.A.in1.in1 := sub_in2 hr hk rfl
    refine PySem.W.kso_call sb.room.units0 I.kIn J me.at_ me.fn (wpAny_mono (run_sub (vs := [.ref a]) F sb b C8.pass0 I (.cons rfl .nil) hsp) (fun u s' q => ?_) fun _ _ x => x)
    obtain ⟨v, H', I', ru, z, ez, q⟩ := q
    subst ez
    obtain ⟨t, rfl⟩ := ru
    exact ⟨.str z, H', I', ⟨t, rfl⟩, q⟩
/-- len(o) by the text's own __len__ -/
def rLenO (C : Addr) (sp : Sp) : List V → Hp → VK → Prop := fun xs H Q => ∃ a dx fs, xs = [.ref a] ∧ H a = some (.ins C dx fs) ∧ sp [.ref a] H (fun v H' => ∃ n : Int, v = .int n ∧ 0 ≤ n ∧ n < 2 ^ 63 ∧ Q (.int n) H') C8.E0
theorem call_len_own (c : C8.Met X.prog X.w X.K X.mg X.base k C "__len__" sp []) (hr : Room j X.A) (hk : k + 2 ≤ j) : CallR X (.builtin "len") (rLenO C sp) := by
  intro pins s σ H xs us Q I rv h
  obtain ⟨a, dx, fs, rfl, ha, hsp⟩ := h
  obtain ⟨f, fd, ps, ds, _, me, F, b, d⟩ := c.ex
  obtain rfl := vals_nil d
  cases rv with
  | cons r rr =>
    cases rr
    cases r
    obtain ⟨mA, J, _⟩ := ins_get I.hok ha
    obtain ⟨od, J, _⟩ := J.look
    have sb : Sub X k X.A.in1 := (show Sub X (k + 1) X.A from ⟨hr.mono (by omega), rfl⟩).in1
    obtain ⟨m, hF⟩ := I.fr
    refine PySem.W.len_K hF I.ok.mod.kin J me.at_ me.fn (wpAny_mono (run_sub (vs := [.ref a]) F sb b C8.pass0 I (.cons rfl .nil) hsp) (fun u s' q => ?_) fun _ _ x => x)
    obtain ⟨v, H', I', ru, z, ez, h0, h1, q⟩ := q
    subst ez
    obtain ⟨t, rfl⟩ := ru
    exact ⟨⟨h0, h1⟩, .int z, H', I'.tok _, ⟨_, rfl⟩, q⟩
/-- o == p, both of the class at C, by the text's own __eq__ -/
def rEqO (C : Addr) (sp : Sp) : R2 := fun x y H Q => ∃ a b dx dy fs gs, x = .ref a ∧ y = .ref b ∧ H a = some (.ins C dx fs) ∧ H b = some (.ins C dy gs) ∧ sp [.ref a, .ref b] H (fun v H' => ∃ t : Bool, v = .bl t ∧ Q (.bl t) H') C8.E0
theorem op_eqOwn (c : C8.Met X.prog X.w X.K X.mg X.base k C "__eq__" sp []) (hr : Room j X.A) (hk : k ≤ j) : OpR X (compareOp .Eq) (rEqO C sp) := by
  intro pins s σ H x y v u Q I rx ry h
  obtain ⟨a, b, dx, dy, fs, gs, rfl, rfl, ha, hb, hsp⟩ := h
  obtain ⟨f, fd, ps, ds, _, me, F, bn, d⟩ := c.ex
  obtain rfl := vals_nil d
  cases rx
  cases ry
  obtain ⟨mA, J, _⟩ := ins_get I.hok ha
  obtain ⟨mB, J', _⟩ := ins_get I.hok hb
  obtain ⟨od, J, _⟩ := J.look
  obtain ⟨od', J', _⟩ := J'.look
  obtain ⟨m, hF⟩ := I.fr
  have sb : Sub X k X.A := ⟨hr.mono hk, rfl⟩
  show wpAny (model X.prog X.w) X.A (richCompare .Eq (.ref a) (.ref b)) (EP X pins σ Q) X.xe s
  refine PySem.W.cmp_K (op := .Eq) (tb := .ref C) sb.room.units0 hF I.ok.mod.kin J J'.type (by simp [PySem.W.notFirst]) me.at_ me.fn ?_
  refine wpAny_mono (run_sub (vs := [.ref a, .ref b]) F sb bn C8.pass0 I (.cons rfl (.cons rfl .nil)) hsp) (fun u s' q => ?_) fun _ _ x => x
  obtain ⟨v, H', I', ru, t, ez, q⟩ := q
  subst ez
  cases (show u = Value.bool t from ru)
  exact ⟨.bl t, H', I', rfl, q⟩
end
/-- what of the text != wants -/
structure NeT (K : PySem.W.Frag) (C : Addr) : Prop where
  mro : PySem.W.mroIn K C (.type "object") = some true
  ne : PySem.W.findIn K (.ref C) "__ne__" = some (some (.builtin "object.__ne__"))
section
open PySem.W
variable {M : Model} {prog : Program} {w : World} {A : Around} {E : Value → Shared → Prop} {s : Shared} {K : PySem.W.Frag} {x C f : Addr} {ox : Obj} {od : Option Obj} {b tb : Value}
theorem ifBound_bltn {name : Str} {id : String} {args : List Value} {Q : Option Value → Shared → Prop} (X : K.In s.heap) (I : PySem.W.InstAt s.heap x ox C od) (hs : PySem.W.findIn K (.ref C) name = some (some (.builtin id)))
    (hb : ∀ self, bindSpecial (.builtin id) self = pure (.builtin id, [self])) (h : wpAny M A (call (.builtin id) (.ref x :: args)) (fun v => Q (some v)) E s) : wpAny M A (callSpecialIfBound? (.ref x) name args) Q E s := by
  simp only [callSpecialIfBound?, bindSpecialIfBound?]
  refine wpAny_holding (wpAny_bind (wpAny_bind (wpAny_bind (I.type.here ((PySem.W.looks_findIn X hs).here ?_)))))
  refine wpAny_bind (wpAny_askSetting (wpAny_ite ?_))
  have fin : wpAny M A (call (.builtin id) ([.ref x] ++ args) >>= fun v => pure (some v)) Q E s := wpAny_bind (wpAny_mono h (fun v s' h' => wpAny_pure h') fun _ _ h' => h')
  split
  · exact wpAny_bind (wpAny_of_eq (hb _) (wpAny_pure (by exact fin)))
  · exact wpAny_tryCatch (wpAny_bind (wpAny_of_eq (hb _) (wpAny_pure (by exact fin))))
theorem ne_tree {Q : Fin → Shared → Prop} (hu : A.units < cLine) (X : K.In s.heap) (I : PySem.W.InstAt s.heap x ox C od) (he : PySem.W.findIn K (.ref C) "__eq__" = some (some (.ref f))) (hf : PySem.W.isFn K (.ref f) = true)
    (h : wpAny M A (call (.ref f) [.ref x, b]) (fun v s' => ∃ t : Bool, v = .bool t ∧ Q (.done (.ret (.bool (!t)))) s') E s) : wpAny M A (Builtin.«object.__ne__» ⟨[.ref x, b], []⟩) Q E s := by
  unfold Builtin.«object.__ne__»
  refine wpAny_bind (m := slotArgs "__ne__" 1 _) (wpAny_pure ?_)
  refine wpAny_bind (m := cRoomFor _ _) (wpAny_cRoomFor hu ?_)
  refine wpAny_bind (m := callSpecialIfBound? (.ref x) (Str.ofString "__eq__") _) (ifBound_K X I he hf (wpAny_mono h (fun r s' hr => ?_) fun _ _ y => y))
  obtain ⟨t, rfl, q⟩ := hr
  exact wpAny_bind (wpAny_truthy_bool (wpAny_pure q))
theorem cmp_neK {Q : Value → Shared → Prop} (hu : A.units < cLine) (hu1 : A.in1.units < cLine) (X : K.In s.heap) (I : PySem.W.InstAt s.heap x ox C od) (hb : Looks (model prog w) s.heap (typeOf b) tb) (hn : PySem.W.notFirst K C tb = true) (N : NeT K C)
    (he : PySem.W.findIn K (.ref C) "__eq__" = some (some (.ref f))) (hf : PySem.W.isFn K (.ref f) = true)
    (h : wpAny (model prog w) A.in1 (call (.ref f) [.ref x, b]) (fun v s' => ∃ t : Bool, v = .bool t ∧ Q (.bool (!t)) s') E s) : wpAny (model prog w) A (richCompare .NotEq (.ref x) b) Q E s := by
  have one : wpAny (model prog w) A (tryCompare (.ref x) (cmpInfo .NotEq).2.1 b) (fun r s' => ∃ v, r = some v ∧ Q v s') E s := by
    unfold tryCompare
    refine wpAny_bind (ifBound_bltn X I N.ne F.cmp_object.ne.bind ?_)
    refine wpAny_call (codeAny_call_builtin F.cmp_object.ne.plain F.cmpEntry_ne (PySem.W.check_slot F.cmpKind_ne F.cmpSplit_ne (I.type.andThen (PySem.W.looks_mroIn X N.mro)) (F.cmpArgs_ne _ _) (ne_tree hu1 X I he hf (wpAny_mono h (fun v s' hv => ?_) fun _ _ e => e))))
    obtain ⟨t, rfl, q⟩ := hv
    exact ⟨t, rfl, wpAny_pure ⟨_, rfl, q⟩⟩
  unfold richCompare
  simp only [oneThing_ref]
  refine wpAny_holding (wpAny_bind (wpAny_cRoomFor hu ?_))
  refine wpAny_bind (I.type.here (wpAny_bind (hb.here ?_)))
  split
  · rename_i q
    have e : subIn K tb (.ref C) = some false := by
      rcases Bool.or_eq_true_iff.mp hn with e | e
      · rw [beq_iff_eq.mp e] at q; simp at q
      · exact beq_iff_eq.mp e
    refine wpAny_bind ((looks_subIn X e).here ?_)
    simp only [Bool.false_eq_true, if_false]
    refine wpAny_bind (wpAny_mono one (fun r s' z => ?_) fun _ _ e => e)
    obtain ⟨v, rfl, hq⟩ := z
    exact wpAny_pure hq
  · refine wpAny_bind (wpAny_pure ?_)
    simp only [Bool.false_eq_true, if_false]
    refine wpAny_bind (wpAny_mono one (fun r s' z => ?_) fun _ _ e => e)
    obtain ⟨v, rfl, hq⟩ := z
    exact wpAny_pure hq
end
section
variable {X : Cx} {k j i : Nat} {C : Addr} {sp : Sp} {x y : Str} {dvs : List V} {p pos : Pos} {e : Expr} {es : List Expr} {t : TA}
/-- o != p -/
def rNeO (C : Addr) (sp : Sp) : R2 := fun x y H Q => ∃ a b dx dy fs gs, x = .ref a ∧ y = .ref b ∧ H a = some (.ins C dx fs) ∧ H b = some (.ins C dy gs) ∧ sp [.ref a, .ref b] H (fun v H' => ∃ t : Bool, v = .bl t ∧ Q (.bl (!t)) H') C8.E0
theorem op_neOwn (c : C8.Met X.prog X.w X.K X.mg X.base k C "__eq__" sp []) (N : NeT X.K C) (hr : Room j X.A) (hk : k + 1 ≤ j) : OpR X (compareOp .NotEq) (rNeO C sp) := by
  intro pins s σ H x y v u Q I rx ry h
  obtain ⟨a, b, dx, dy, fs, gs, rfl, rfl, ha, hb, hsp⟩ := h
  obtain ⟨f, fd, ps, ds, _, me, F, bn, d⟩ := c.ex
  obtain rfl := vals_nil d
  cases rx
  cases ry
  obtain ⟨mA, J, _⟩ := ins_get I.hok ha
  obtain ⟨mB, J', _⟩ := ins_get I.hok hb
  obtain ⟨od, J, _⟩ := J.look
  obtain ⟨od', J', _⟩ := J'.look
  have sb1 : Sub X (k + 1) X.A := ⟨hr.mono hk, rfl⟩
  have sb := sb1.in1
  show wpAny (model X.prog X.w) X.A (richCompare .NotEq (.ref a) (.ref b)) (EP X pins σ Q) X.xe s
  refine cmp_neK (tb := .ref C) sb1.room.units0 sb.room.units0 I.kIn J J'.type (by simp [PySem.W.notFirst]) N me.at_ me.fn ?_
  refine wpAny_mono (run_sub (vs := [.ref a, .ref b]) F sb bn C8.pass0 I (.cons rfl (.cons rfl .nil)) hsp) (fun u s' q => ?_) fun _ _ x => x
  obtain ⟨v, H', I', ru, t, ez, q⟩ := q
  subst ez
  cases (show u = Value.bool t from ru)
  exact ⟨t, rfl, .bl (!t), H', I', rfl, q⟩
/-- the class in the i-th slot is made -/
def tMakeL (i : Nat) (C : Addr) (sp : Sp) (dvs : List V) (t : TA) : TE := fun σ H Q => σ[i]? = some (some (.ref C)) ∧ tMake C sp dvs C8.E0 t σ H Q
theorem pe_mkL (i : Nat) (c : C8.Mak X.prog X.w X.K X.mg X.base k y C sp dvs) (hr : Room j X.A) (hk : k + 1 ≤ j) (ha : PA X (e :: es) t) (hN : X.N[i]? = some x := by rfl) (hv : Vis X.env.scope x := by first | exact Or.inl rfl | exact Or.inr (Or.inl rfl) | exact Or.inr (Or.inr rfl))
    (hdb : (x == ("__debug__" : Str)) = false := by decide) (hcd : (x == ("__classdict__" : Str)) = false := by decide)
    (he : starEach (e :: es) X.env = (false, eval e X.env) :: starEach es X.env := by rfl) (hpl : (backTo pos (starEach es X.env)).any (·.1) = false := by rfl) : PE X (.Call (.Name x p) (e :: es) [] pos) (tMakeL i C sp dvs t) := by
  obtain ⟨f, fd, ps, ds, M, F, hm, b, d⟩ := c.ex
  refine ⟨fun pins s σ H Q I h => ?_⟩
  obtain ⟨hs, ht⟩ := h
  refine wpAny_Call_Name_kw (thn ((pe_var (pos := p) hN hv hdb hcd).run pins s σ H (fun v H1 => v = .ref C ∧ H1 = H) I ⟨.ref C, hs, rfl, rfl⟩) fun u s1 ⟨v, H1, I1, r1, q1⟩ => ?_)
  obtain ⟨rfl, rfl⟩ := q1
  cases r1
  refine PySem.W.callWith_K (h₀ := X.base) I.ok.mod.kin M.kp (thn (ha.run pos pins s1 σ _ _ I1 ht) fun us s2 ⟨vs, H2, I2, r, q⟩ => ⟨I2.kIn, ?_⟩) he hpl
  exact run_make M F (hr.mono hk) b d C8.pass0 I2 r q
theorem pe_mkL0 (i : Nat) (c : C8.Mak X.prog X.w X.K X.mg X.base k y C sp dvs) (hr : Room j X.A) (hk : k + 1 ≤ j) (hN : X.N[i]? = some x := by rfl) (hv : Vis X.env.scope x := by first | exact Or.inl rfl | exact Or.inr (Or.inl rfl) | exact Or.inr (Or.inr rfl))
    (hdb : (x == ("__debug__" : Str)) = false := by decide) (hcd : (x == ("__classdict__" : Str)) = false := by decide) : PE X (.Call (.Name x p) [] [] pos) (tMakeL i C sp dvs tNil) := by
  obtain ⟨f, fd, ps, ds, M, F, hm, b, d⟩ := c.ex
  refine ⟨fun pins s σ H Q I h => ?_⟩
  obtain ⟨hs, ht⟩ := h
  refine wpAny_Call_Name_kw (thn ((pe_var (pos := p) hN hv hdb hcd).run pins s σ H (fun v H1 => v = .ref C ∧ H1 = H) I ⟨.ref C, hs, rfl, rfl⟩) fun u s1 ⟨v, H1, I1, r1, q1⟩ => ?_)
  obtain ⟨rfl, rfl⟩ := q1
  cases r1
  exact PySem.W.callWith_K0 I1.kIn M.kp (run_make (us := []) M F (hr.mono hk) b d C8.pass0 I1 .nil ht)
/-- a classmethod of the class at C, C the module's name x -/
structure CMt (P : Program) (w : World) (K : PySem.W.Frag) (mg : Str → Option Value) (base : Heap) (k : Nat) (x : Str) (C : Addr) (m : Str) (sp : Sp) : Prop where
  ex : ∃ (mc : Value) (p g : Addr) (fd : FuncData) (ps : List Str), mg x = some (.ref C) ∧ ClX.CRead K C mc ∧ ClX.CMet K C mc m p g ∧ FnOk P w K mg base C8.CX0 k g fd ps sp ∧ Binds K fd ps []
theorem pe_cm {m : Str} {apos : Pos} {pl : Sem Bool} (c : CMt X.prog X.w X.K X.mg X.base k x C m sp) (hr : Room j X.A) (hk : k ≤ j) (hg : Gl X x) (ha : PA X (e :: es) t) (hdb : (x == ("__debug__" : Str)) = false := by decide)
    (hst : starEach (e :: es) X.env = (false, eval e X.env) :: starEach es X.env := by rfl) (hpl : (backTo pos (starEach es X.env)).any (·.1) = false := by rfl)
    (ht : eval (.Call (.Attribute (.Name x p) m apos) (e :: es) [] pos) X.env = (do
      let ov ← eval (.Name x p) X.env
      standAt apos.atName
      let (f, first) ← holding [ov] (getMethod ov m pl)
      callWith pos f first (backTo pos (starEach (e :: es) X.env)) (backToKw pos (keywordEach [] X.env))) := by rfl) :
    PE X (.Call (.Attribute (.Name x p) m apos) (e :: es) [] pos) (ClX.tCMeth C sp C8.E0 (tC (.ref C)) t) := by
  obtain ⟨mc, q, g, fd, ps, hm, r, cm, F, b⟩ := c.ex
  exact ClX.pe_cmeth (pe_glob (v := .ref C) hg hm rfl hdb) r cm (F.raw b .nil |>.imp fun vs H Q E h => by rw [List.append_nil]; exact h) (hr.mono hk) C8.pass0 ha hst hpl ht
end
/-- what isinstance wants of a class -/
structure IsT (K : PySem.W.Frag) (C : Addr) : Prop where
  cl : Cls K C
  ha : PySem.W.findIn K (.ref C) "__class__" = some (some (.builtin "object.__class__"))
  hn : PySem.W.specialIn K (.builtin "object.__class__") "__get__" = some (some (.builtin "getset_descriptor.__get__"))
  ht : PySem.W.takesIn K (.builtin "object.__class__") = some true
  hm : PySem.W.mroIn K C (.type "object") = some true
theorem IsT.ty {K : PySem.W.Frag} {C a dx : Addr} {H : Hp} {fs : List (Str × V)} (I : IsT K C) (e : H a = some (.ins C dx fs)) : TyX K H (.ref a) (.ref C) := .base (.ins e I.cl I.ha I.hn I.ht I.hm)
theorem IsT.one {K : PySem.W.Frag} {C : Addr} (_ : IsT K C) : PySem.W.kitOne K (.ref C) (.ref C) = some true := by
  unfold PySem.W.kitOne
  rw [if_pos (beq_self_eq_true _)]
/-- an f-string inside a comprehension: its reading by a name -/
def tJn (ts : List TE) : TE := fun σ H Q => tJs ts Str.empty σ H fun out H1 => Q (.str out) H1
theorem pe_jn {X : Cx} {v1 v2 : Expr} {rest : List Expr} {ts : List TE} {pos : Pos} (h : PJ X (v1 :: v2 :: rest) ts) : PE X (.JoinedStr (v1 :: v2 :: rest) pos) (tJn ts) := pe_joined h
end Lx

set_option maxRecDepth 100000
set_option maxHeartbeats 4000000
/-! own errors whose __init__ says super().__init__(text, x) and self.f = x -/
namespace ExS
open PySem PySem.Spec PyProof.Rows L2 NdefX
/-- what such an __init__ does to the error at a -/
def spXI (C : Addr) (fld : Str) : Sp := fun vs H Q _ => ∃ (a : Addr) (v : V), vs = [.ref a, v] ∧ H a = some (exo a C none) ∧
  ∀ dx, H dx = none → dx ≠ a → Q .non (upd (upd H dx (exd dx [(fld, v)])) a (exo a C (some dx)))
/-- the built-in __init__ bound to the error, called: nothing of it is told -/
theorem call_mw {X : Cx} {pins : List (Addr × Obj)} {σ : L2.St} {H : Hp} {s : Shared} {a C u : Addr} {us : List Value} {Q : Value → Shared → Prop} {E : Value → Shared → Prop} {A : Around}
    (T : OexC X.K C) (I : Inv X pins σ H s) (e : H a = some (exo a C none)) (hu : s.heap.get? u = some (PySem.W.kxs_mw "ValueError.__init__" a)) (hl : us.length ≤ sizeLine) (h : ∀ s', Inv X pins σ H s' → Q .none s') :
    wpAny (model X.prog X.w) A (call (.ref u) us) Q E s := by
  obtain ⟨nm, q, N, bs, bm, sn, sub, ab, col, dd, k0, k1, k2, k3, k5, hC, hbm⟩ := T.cls
  obtain ⟨t1, ho⟩ := exo_at I.hok e
  obtain ⟨hp, g, d, t, os⟩ := s
  have fin : ∀ h' : Heap, (∀ b o, b ≠ a → hp.get? b = some o → h'.get? b = some o) → h'.get? a = some (PySem.W.excObj C hp.objs.size none .none) → Q .none ⟨h', g, d, t, os⟩ := fun h' k hx => by
    have J := I.write (t' := t) (x := a) (e := a) (o := exo a C none) (by rw [e]; exact True.intro) (.inl rfl) k ⟨_, hx⟩ (exo_ok hx)
    have eu : upd H a (exo a C none) = H := funext fun b => by
      by_cases hb : b = a
      · rw [hb, upd_same, e]
      · rw [upd_ne hb]
    rw [eu] at J
    exact h _ J
  refine wpAny_call (codeAny_of_tree ?_)
  show wpAny _ A.in1 (callAny (.ref u) ⟨us, []⟩) _ _ _
  simp only [callAny]
  refine wpAny_bind (wpAny_load hu ?_)
  simp only [PySem.W.kxs_mw, show (Value.type "method-wrapper" == Value.type "method" || Value.type "method-wrapper" == Value.type "builtin_function_or_method" || Value.type "method-wrapper" == Value.type "method-wrapper") = true by decide, if_true]
  refine PySem.W.KFB.if_so (by decide) ?_
  refine wpAny_bind (PySem.W.check_bound_init F.excBase_ValueError.toExcCallFacts (I.kIn _ _ hC) ho rfl ?_)
  refine wpAny_bind (wpAny_pure (wpAny_pure ?_))
  refine ⟨plainId_quiet F.excBase_ValueError.init.plain _, codeAny_builtin F.excBase_ValueError.initEntry ?_⟩
  exact PySem.W.exc_init_tree (cls := .ref C) (t0 := t1) (dv := none) (c2 := .none) (c3 := .none) (b4 := .bool false) ho hl fun h' k hx _ => fin h' k hx
/-- the two statements of such an __init__ -/
def Body2 (self word fld text : Str) (body : List Stmt) : Prop := ∃ (p0 p1 p2 p3 p4 p5 p6 p7 p8 p9 p10 : Pos) (j : Nat), body = [.Expr (.Call (.Attribute (.Call (.Name "super" p0) [] [] p1) "__init__" p2) [.Constant (.str text) j p3, .Name word p4] [] p5) p6, .Assign [.Attribute (.Name self p7) fld p8] (.Name word p9) p10] ∧ (p2.endLine == p5.line) = true
theorem eval_sup {o : Expr} {name : Str} {apos pos : Pos} {e1 e2 : Expr} {env : Env} (hl : (apos.endLine == pos.line) = true) (h1 : starEach [e1, e2] env = [(false, eval e1 env), (false, eval e2 env)]) :
    eval (.Call (.Attribute o name apos) [e1, e2] [] pos) env = (do
      let ov ← attributeBase o name env (eval o env)
      standAt apos.atName
      let (f, first) ← holding [ov] (getMethod ov name (do return (← importBound o env).getD true))
      callWith pos f first (backTo pos (starEach [e1, e2] env)) []) := by
  have hp : methodCallPos true o env apos pos = pure pos := by unfold methodCallPos; rw [hl]; rfl
  show (do
    let ov ← attributeBase o name env (eval o env)
    standAt apos.atName
    methodCall o name apos pos env ov 2 (backTo pos (starEach [e1, e2] env)) []) = _
  rw [h1]
  have hm : ∀ ov, methodCall o name apos pos env ov 2 (backTo pos [(false, eval e1 env), (false, eval e2 env)]) [] = (do
      let (f, first) ← holding [ov] (getMethod ov name (do return (← importBound o env).getD true))
      callWith pos f first (backTo pos [(false, eval e1 env), (false, eval e2 env)]) []) := fun ov => by
    unfold methodCall
    have hf : methodCallForm 2 (backTo pos [(false, eval e1 env), (false, eval e2 env)]) [] = true := rfl
    rw [hf, hp]
    rfl
  simp only [hm]
structure ExF (P : Program) (K : PySem.W.Frag) (mg : Str → Option Value) (C : Addr) (fld : Str) (f cc cda : Addr) (file : Str) : Prop where
  T : OexC K C
  no : PySem.W.findIn K (.ref C) fld = some none
  cell : ∃ cl cld csl, K.lookup cc = some ⟨cl, cld, .cell (some (.ref C)), csl⟩
  code : ∃ ccl cdd vs ccs tf, K.lookup cda = some ⟨ccl, cdd, .fields vs, ccs⟩ ∧ vs[2]? = some (.str file tf)
  file : ((P.main.file : Str) == file) = true
  top : (P.main.scope.names.lookup ("super" : Str)).isSome = false
  sub : PySem.W.mroIn K C (.ref C) = some true
  sup : mg "super" = none
  opq : PySem.W.nsIn K cStatics "thirdparty.any" = some none
  ini : PySem.W.ks_superIn K C C "__init__" = some (some (.builtin "ValueError.__init__"))
  ve : PySem.W.subIn K (.ref C) (.type "ValueError") = some true
theorem fn_exc {P : Program} {w : World} {K : PySem.W.Frag} {mg : Str → Option Value} {base : Heap} {C f cc cda : Addr} {name qual self word fld text file : Str} {params : Arguments} {body : List Stmt} {scope : Scope} {dV kV doc pm ct oc : Value} {an od : Option Addr} {osl : Array (Option Value)} {ar : Arg} {k : Nat}
    (X : ExF P K mg C fld f cc cda file) (lk : K.lookup f = some ⟨oc, od, .func (PySem.W.fnX name qual params body scope [("__class__", cc)] dV kV doc pm an (.ref cda) ct), osl⟩) (hcd : PySem.W.codeIn K (.ref cda) qual = true)
    (S : NScope [self, word, "__class__"] [self, word] ["__class__"] scope) (hks : scope.names.lookup ("super" : Str) = some .globalImplicit) (hp : (params.posonlyargs ++ params.args).head? = some ar) (har : ar.arg = self) (hb2 : Body2 self word fld text body) (hd0 : (self == ("__debug__" : Str)) = false) (hd1 : (word == ("__debug__" : Str)) = false) (hc0 : (self == ("__classdict__" : Str)) = false) (hc1 : (word == ("__classdict__" : Str)) = false) :
    FnOk P w K mg base CX0 (k + 1) f (PySem.W.fnX name qual params body scope [("__class__", cc)] dV kV doc pm an (.ref cda) ct) [self, word] (spXI C fld) := by
  refine ⟨fun vs H Q E h => by obtain ⟨_, _, rfl, _⟩ := h; rfl, fun A outer s H args us vs Q E hr e0 hb r hsp => ?_⟩
  obtain ⟨a, v, rfl, ha, kk⟩ := hsp
  obtain ⟨u1, rfl, rv⟩ : ∃ u1, us = [.ref a, u1] ∧ RelV v u1 := by
    cases r with
    | @cons _ u0 _ ur ra rr =>
      obtain rfl : u0 = Value.ref a := ra
      cases rr with
      | @cons _ u1 _ ur2 rv rn =>
        cases rn
        exact ⟨u1, rfl, rv⟩
  have KX : K.In s.heap := e0.mod.kin.keeps fun b o e => (e0.bs b o e).1
  have lim : s.heap.NoLimit := e0.mod.nolimit.keeps fun b o e => (e0.bs b o e).1
  obtain ⟨cl, cld, csl, lcc⟩ := X.cell
  obtain ⟨ccl, cdd, cvs, ccs, tf, lcd, hvs⟩ := X.code
  refine codeAny_call_function hr.depth (KX _ _ lk) rfl S.co S.gen rfl (PySem.W.codeRec_of KX hcd) (hb _ _ _ _ ?_)
  refine wpAny_newFunctionEnv S.nocell (fun ⟨n, _⟩ hy => S.par n (List.of_mem_zip hy).1) (fun h₁ hns hsb => ⟨lim.fresh _ hsb, ?_⟩) S.kind
  show codeAny _ _ (.func body (PySem.W.envX qual scope s.heap.objs.size f (.ref cda) [("__class__", cc)])) _ _
  refine ks_codeAny_funcAt ?_
  have kp : ∀ b o, s.heap.get? b = some o → h₁.get? b = some o := fun b o e => hsb.extBut b o (Nat.ne_of_lt (Heap.lt_size e)) (Heap.get?_push_of_some _ e)
  have hcb := e0.bs _ _ (e0.mod.kin _ _ lcc)
  have C0 : CellsAt [("__class__", cc)] ["__class__"] [some (.ref C)] s.heap H := by
    have one : ∀ y c, ([("__class__", cc)] : List (Str × Addr)).lookup y = some c → y = "__class__" ∧ c = cc := fun y c e => by
      rw [List.lookup_cons] at e
      split at e
      · rename_i z
        exact ⟨eq_of_beq z, (Option.some.inj e).symm⟩
      · cases e
    refine ⟨rfl, fun y c e => ?_, fun x y c e1 e2 => (one x c e1).1.trans (one y c e2).1.symm, fun i y e => ?_⟩
    · rw [(one y c e).2]
      exact ⟨hcb.2, _, _, hcb.1, rfl⟩
    · match i, e with
      | 0, e =>
        rw [← Option.some.inj e]
        exact ⟨cc, rfl, fun v hv => ⟨.ref C, by cases hv; exact rfl, _, hcb.1, rfl⟩⟩
  have I : Inv (ncx CX0 P w K mg base [self, word, "__class__"] ⟨name, qual, params, body, scope, [("__class__", cc)], cda⟩ f A outer s H E) [] (startF [self, word, "__class__"] [.ref a, v] [some (.ref C)]) H { s with heap := h₁, toks := s.toks + ([self, word].zip [Value.ref a, u1]).length } :=
    inv_startN (F := ⟨name, qual, params, body, scope, [("__class__", cc)], cda⟩) S hr.hd e0 rfl r C0 hns kp
  have KX1 : K.In h₁ := KX.keeps kp
  obtain ⟨p0, p1, p2, p3, p4, p5, p6, p7, p8, p9, p10, j, rfl, hline⟩ := hb2
  have hkc : scope.names.lookup ("__class__" : Str) = some .free := S.frk _ (List.mem_singleton.mpr rfl)
  have hself : scope.names.lookup self = some .local := S.par _ List.mem_cons_self
  have hword : scope.names.lookup word = some .local := S.par _ (List.mem_cons_of_mem _ List.mem_cons_self)
  obtain ⟨nm, q, N, bs, bm, sn, sub, ab, col, dd, k0, k1, k2, k3, k5, hC, hbm⟩ := X.T.cls
  have hcl : PySem.W.clsIn K C = some { name := nm, bases := bs, mro := .ref C :: bm, ns := N, qualname := q, hasDict := true, slotNames := sn, subclasses := sub, abstract := ab, collection := col, hasDel := false } := by unfold PySem.W.clsIn; rw [hC] <;> rfl
  obtain ⟨t1, hoa⟩ := exo_at I.hok ha
  obtain ⟨mb, b1, b2⟩ := I.mod.blt
  have boot : bootBuiltins "super" = some (.type "super") := by first | boot_by_name | rfl | kernel_rfl
  have hne : a ≠ C := fun z => by
    have := KX1 _ _ hC
    rw [← z, hoa] at this
    cases this
  refine ks_wpAt_execs_cons (ks_wpAt_Expr_any (ks_wpAt_MethodCall ?_ (eval_sup hline rfl)) I.quiet rfl)
  refine ks_wpAt_super_base (f := f) (cc := cda) hks hkc (by decide) rfl (KX1 _ _ lk) rfl hp rfl (KX1 _ _ lcd) rfl hvs X.file X.top ?_
  refine PySem.W.ks_loadName_global I.ok.kind hks (Calls.loadGlobal_builtin (I.mod.glob.keeps I.bk) X.sup (b1.keeps I.bk) ((b2 _ (by decide)).trans boot) ⟨rfl, ?_⟩)
  refine wpAny_loadName_free I.ok.kind hkc rfl ⟨_, kp _ _ hcb.1, rfl⟩ ?_
  rw [har]
  have ndp : [self, word].Nodup := (List.nodup_append.mp (show ([self, word] ++ [("__class__" : Str)]).Nodup from S.nd)).1
  refine wpAny_loadName_local I.ok.kind hself hns (zip_look (i := 0) ndp rfl rfl) ?_
  refine ks_wpAny_isType_cls (KX1 _ _ hC) rfl ⟨rfl, ?_⟩
  refine ks_wpAny_call_super (KX1 _ _ hC) rfl hoa rfl (fun c z => by cases z) (PySem.W.looks_mroIn KX1 X.sub) (fun h2 e2 kq => ?_)
  have I2 := I.kept (h' := h2) (t' := s.toks + ([self, word].zip [Value.ref a, u1]).length) kq
  have KX2 : K.In h2 := KX1.keeps kq
  have hoa2 := kq _ _ hoa
  have hal : PySem.W.alongIn K "__init__" (((Value.ref C :: bm).dropWhile (· != .ref C)).drop 1) = some (some (.builtin "ValueError.__init__")) := by
    have := X.ini
    unfold PySem.W.ks_superIn at this
    rw [hcl] at this
    exact this
  have IA : PySem.W.InstAt h2 a (PySem.W.excObj C t1 none .none) C none := ⟨hoa2, rfl, rfl, trivial⟩
  refine PySem.W.kxs_getMethod PySem.W.kxs_ValueError (l₀ := .ref C :: bm) e2 (PySem.W.looks_opaque KX2 X.opq) ?_ rfl KX2 hal (IA.type.andThen (PySem.W.looks_subIn KX2 X.ve)) hne (by decide) ?_
  · exact fun A Q E s k q => wpAny_bind ((PySem.W.looks_clsIn KX2 hcl) A _ E s k (wpAny_pure q))
  have kp3 : ∀ b o, h2.get? b = some o → (h2.push (PySem.W.kxs_mw "ValueError.__init__" a)).get? b = some o := fun b o e => Heap.get?_push_of_some _ e
  have I3 := I2.kept (h' := h2.push (PySem.W.kxs_mw "ValueError.__init__" a)) (t' := s.toks + ([self, word].zip [Value.ref a, u1]).length + 1) kp3
  have hu3 : (h2.push (PySem.W.kxs_mw "ValueError.__init__" a)).get? h2.objs.size = some (PySem.W.kxs_mw "ValueError.__init__" a) := Heap.get?_push_at rfl rfl
  have I4 := I3.pins_of (pins' := [(h2.objs.size, PySem.W.kxs_mw "ValueError.__init__" a)]) fun p hp => by
    rw [List.mem_singleton.mp hp]
    exact ⟨hu3, I2.hok.fresh (Nat.le_refl _), (Nat.ne_of_lt I2.lt).symm, I2.nofs (Nat.le_refl _), fun v z => by cases z⟩
  have pw : PE (ncx CX0 P w K mg base [self, word, "__class__"] ⟨name, qual, params, [.Expr (.Call (.Attribute (.Call (.Name "super" p0) [] [] p1) "__init__" p2) [.Constant (.str text) j p3, .Name word p4] [] p5) p6, .Assign [.Attribute (.Name self p7) fld p8] (.Name word p9) p10], scope, [("__class__", cc)], cda⟩ f A outer s H E) (.Name word p4) (tVar 1) := pe_var rfl (.inl hword) hd1 hc1
  have pa := pa_cons (pe_str (x := text) (j := j) (pos := p3)) (pa_cons pw pa_nil)
  refine PySem.W.kxs_callWith (i := "ValueError.__init__") (x := a) rfl (PySem.Calls.evalArgs_plain (thn (pa.run p5 _ _ _ _ (fun vs H1 => vs = [.str text, v] ∧ H1 = H) I4 ⟨v, rfl, rfl, rfl⟩) fun ws s5 h5 => ?_))
  obtain ⟨vs5, H5, I5, r5, rfl, rfl⟩ := h5
  have hu5 := (I5.pin _ (List.mem_append_right _ (List.mem_singleton.mpr rfl))).1
  have l5 : ws.length ≤ sizeLine := by
    have := Paired.length r5
    rw [← this]
    show 2 ≤ sizeLine
    decide
  refine ⟨hu5, ?_⟩
  refine call_mw X.T (I5.pins_of (pins' := []) fun p hp => absurd hp (by exact List.not_mem_nil)) ha hu5 l5 fun s6 I6 => ?_
  have pself : PE (ncx CX0 P w K mg base [self, word, "__class__"] ⟨name, qual, params, [.Expr (.Call (.Attribute (.Call (.Name "super" p0) [] [] p1) "__init__" p2) [.Constant (.str text) j p3, .Name word p4] [] p5) p6, .Assign [.Attribute (.Name self p7) fld p8] (.Name word p9) p10], scope, [("__class__", cc)], cda⟩ f A outer s H5 E) (.Name self p7) (tVar 0) := pe_var rfl (.inl hself) hd0 hc0
  have pword : PE (ncx CX0 P w K mg base [self, word, "__class__"] ⟨name, qual, params, [.Expr (.Call (.Attribute (.Call (.Name "super" p0) [] [] p1) "__init__" p2) [.Constant (.str text) j p3, .Name word p4] [] p5) p6, .Assign [.Attribute (.Name self p7) fld p8] (.Name word p9) p10], scope, [("__class__", cc)], cda⟩ f A outer s H5 E) (.Name word p9) (tVar 1) := pe_var rfl (.inl hword) hd1 hc1
  have st := pss_one (ps_ost (f := fld) (p' := p8) (pos := p10) pself pword)
  refine wpAt_of_wpAny (wpAny_mono (st.run [] s6 _ H5 { nx := fun _ H' => Q .non H', rt := Q } I6 ⟨v, rfl, .ref a, rfl, a, C, rfl, X.T, X.no, .inl ⟨ha, fun dx n ne => kk dx n ne⟩⟩) (fun fl s7 hs => ?_) fun e s' hs => hs)
  cases fl with
  | ret u =>
    obtain ⟨v7, σ7, H7, J, r7, q7⟩ := hs
    exact ⟨v7, H7, J.os, J.bare, J.base, J.hok, r7, q7⟩
  | next =>
    obtain ⟨σ7, H7, J, q7⟩ := hs
    exact ⟨.non, H7, J.os, J.bare, J.base, J.hok, rfl, q7⟩
  | brk =>
    obtain ⟨_, _, _, q7⟩ := hs
    exact False.elim q7
  | cont =>
    obtain ⟨_, _, _, q7⟩ := hs
    exact False.elim q7
end ExS

set_option maxRecDepth 100000
set_option maxHeartbeats 4000000
namespace ExS
open PySem PySem.Spec PyProof.Rows L2
/-- an own error's class under its name -/
structure XMk (P : Program) (w : World) (K : PySem.W.Frag) (mg : Str → Option Value) (base : Heap) (k : Nat) (x : Str) (C : Addr) (fld : Str) : Prop where
  ex : ∃ (fI : Addr) (fd : FuncData) (ps : List Str), OexC K C ∧ PySem.W.findIn K (.ref C) "__init__" = some (some (.ref fI)) ∧ PySem.W.typeIn K (.ref fI) = some (.type "function") ∧ FnOk P w K mg base L2.CX0 k fI fd ps (spXI C fld) ∧ Binds K fd ps [] ∧ mg x = some (.ref C)
section
variable {X : Cx} {x fld : Str} {C : Addr} {k j : Nat} {p pos : Pos} {e : Expr} {es : List Expr} {ta : TA}
theorem pmk_x (c : XMk X.prog X.w X.K X.mg X.base k x C fld) (hr : Room j X.A) (hk : k + 1 ≤ j) (hg : Gl X x) (ha : PA X (e :: es) ta)
    (hdb : (x == ("__debug__" : Str)) = false := by decide) (he : starEach (e :: es) X.env = (false, eval e X.env) :: starEach es X.env := by rfl) (hpl : (backTo pos (starEach es X.env)).any (·.1) = false := by rfl) :
    PMk X (.Call (.Name x p) (e :: es) [] pos) (tMkO C (spXI C fld) [] ta) := by
  obtain ⟨fI, fd, ps, T, iC, tI, F, b, hm⟩ := c.ex
  exact pmk_oex T iC tI F (hr.mono hk) b .nil L2.pass0 hg hm ha hdb he hpl
end
theorem exo_exd {a C d : Addr} {o : Option Addr} {fs : List (Str × V)} {H : Hp} (h1 : H a = some (exo a C o)) (h2 : H d = none) : d ≠ a := fun z => by
  rw [z, h1] at h2
  cases h2
/-- what the making of such an error asks -/
theorem rd_x {C : Addr} {fld : Str} {H1 : Hp} {v : V} {Q : XK} (k : ∀ d H', Same H1 H' → H1 d = none → H' d = some (.xd [(fld, v)]) → Q (.ref C) (some d) H') :
    [v].length ≤ 1000 ∧ ∀ a, H1 a = none → spXI C fld (.ref a :: ([v] ++ [])) (upd H1 a (exo a C none)) (fun w H2 => w = .non ∧ ∃ (d : Addr) (fs : List (Str × V)), H2 a = some (exo a C (some d)) ∧ H2 d = some (exd d fs) ∧ H1 d = none ∧ Q (.ref C) (some d) (upd (del H2 a) d (.xd fs))) (fun _ _ _ => False) := by
  refine ⟨by show 1 ≤ 1000; decide, fun a na => ⟨a, v, rfl, upd_same, fun dx nd ne => ⟨rfl, dx, [(fld, v)], upd_same, by rw [upd_ne ne, upd_same], ?_, ?_⟩⟩⟩
  · rw [upd_ne ne] at nd
    exact nd
  · rw [upd_ne ne] at nd
    refine k dx _ (fun b o e => ?_) nd upd_same
    have b1 : b ≠ a := ne_of_none e na
    have b2 : b ≠ dx := ne_of_none e nd
    rw [upd_ne b2, del_ne b1, upd_ne b1, upd_ne b2, upd_ne b1]
    exact e
theorem takes0 {X : Cx} : L2.Takes X (fun _ _ _ _ => False) := fun _ _ ⟨_, _, _, _, _, _, _, _, _, _, _, _, _, _, _, _, w⟩ => w.elim
/-- a class whose __init__ may raise -/
structure MakX (P : Program) (w : World) (K : PySem.W.Frag) (mg : Str → Option Value) (base : Heap) (k : Nat) (x : Str) (C : Addr) (sp : Sp) (dvs : List V) : Prop where
  ex : ∃ (f : Addr) (fd : FuncData) (ps : List Str) (ds : List Value), Mk K C f ∧ FnOk P w K mg base (L2.CX P w) k f fd ps sp ∧ mg x = some (.ref C) ∧ Binds K fd ps ds ∧ Vals dvs ds
def tMakeS (C : Addr) (sp : Sp) (dvs : List V) (E : L2.St → XK) (t : TA) : TE := fun σ H Q => t σ H fun vs H1 => ∀ x dx, H1 x = none → H1 dx = none → dx ≠ x →
  sp (.ref x :: (vs ++ dvs)) (upd (upd H1 dx (.own x)) x (.ins C dx [])) (fun v H2 => v = .non ∧ Q (.ref x) H2) (E σ)
section
variable {X : Cx} {x : Str} {C : Addr} {k j : Nat} {p pos : Pos} {e : Expr} {es : List Expr} {t : TA} {sp : Sp} {dvs : List V} {W : WX}
theorem pe_mkT (c : MakX X.prog X.w X.K X.mg X.base k x C sp dvs) (hr : Room j X.A) (hk : k + 1 ≤ j) (tk : Takes X W) (hg : Gl X x) (ha : PA X (e :: es) t)
    (hdb : (x == ("__debug__" : Str)) = false := by decide) (he : starEach (e :: es) X.env = (false, eval e X.env) :: starEach es X.env := by rfl) (hpl : (backTo pos (starEach es X.env)).any (·.1) = false := by rfl) :
    PE X (.Call (.Name x p) (e :: es) [] pos) (tMakeS C sp dvs (WE W) t) := by
  obtain ⟨f, fd, ps, ds, M, F, hm, b, d⟩ := c.ex
  refine ⟨fun pins s σ H Q I h => wpAny_Call_Name_kw (ld_glob I hg hm ?_ hdb)⟩
  refine PySem.W.callWith_K (h₀ := X.base) I.ok.mod.kin M.kp (thn (ha.run pos pins s σ H _ I h) fun us s1 ⟨vs, H1, I1, r, q⟩ => ⟨I1.kIn, ?_⟩) he hpl
  have q1 := q (s1.heap.objs.size + 1) s1.heap.objs.size (I1.hok.fresh (Nat.le_succ _)) (I1.hok.fresh (Nat.le_refl _)) (Nat.ne_of_lt (Nat.lt_succ_self _))
  have J := Inv.made (C := C) I1
  have rr : Vals (V.ref (s1.heap.objs.size + 1) :: (vs ++ dvs)) (Value.ref (s1.heap.objs.size + 1) :: (us ++ ds)) := .cons rfl (r.append d)
  have len : (Value.ref (s1.heap.objs.size + 1) :: us ++ ds).length = ps.length := (rr.length).symm.trans (F.len _ _ _ _ q1)
  have go := F.run (X.A.under (.builtin "type.__call__" ⟨.ref C :: us, []⟩)) X.stack _ _ ⟨Value.ref (s1.heap.objs.size + 1) :: us, []⟩ _ _ _ _ ((hr.mono hk).make C us []) (J.env0.make C us []) (b _ (Value.ref (s1.heap.objs.size + 1) :: us) J.kIn len) rr q1
  refine wpAny_call (make_map (f := f) I1.kIn M.makes M.init (beq_iff_eq.mp M.fn) (codeAny_mono go fun res s2 hres => ?_))
  match res, hres with
  | .error er, hres => exact passAt tk σ pins _ _ er s2 J hres
  | .ok (.ret u), hres =>
    obtain ⟨v, H2, J2, rv, ev, q2⟩ := J.after hres
    subst ev
    exact ⟨rv, V.ref (s1.heap.objs.size + 1), H2, J2, rfl, q2⟩
  | .ok .next, hres => exact False.elim hres
  | .ok .brk, hres => exact False.elim hres
  | .ok .cont, hres => exact False.elim hres
end
section
variable {P : Program} {w : World} {K : PySem.W.Frag} {mg : Str → Option Value} {base : Heap}
/-- a def that may raise, by its body -/
theorem fnR {x qual : Str} {st : Stmt} {f : Addr} {fd : FuncData} {N ps : List Str} {k : Nat} {sp : Sp} (F : C8.Fun K x qual st f fd) (S : FnScope N ps (C8.fnScope st)) (len : ∀ vs H Q E, sp vs H Q E → vs.length = ps.length)
    (hbody : ∀ (cdv : Value) (A : Around) (outer : List Env) (s : Shared) (H : Hp) (vs : List V) (Q : VK) (E : XK), Room k (A.deeper (envOfC qual (C8.fnScope st) s.heap.objs.size f cdv)) → sp vs H Q E →
      ∃ t, PSs (cxOf (L2.CX P w) P w K mg base N qual (C8.fnScope st) f cdv A outer s H E) (C8.fnBody st) t ∧ t { nx := fun _ H' => Q .non H', rt := Q } (start N vs) H) : FnOk P w K mg base (L2.CX P w) (k + 1) f fd ps sp := by
  obtain ⟨oc, od, dV, kV, doc, pm, an, cdv, ct, osl, rfl, lk, hcd⟩ := F.ex
  exact fn_of lk hcd S len fun A outer s H vs Q E hr hsp => hbody cdv A outer s H vs Q E hr hsp
end
end ExS

set_option maxRecDepth 100000
set_option maxHeartbeats 4000000
namespace U
open PySem PySem.Spec PyProof.Rows
open L2 hiding Fun CX0 E0 pass0 Fun.binds
open C8 Lx SX
/-! words of bits as texts -/
def bt (b : Bool) : Nat := if b then 49 else 48
def W (l : List Bool) : Str := S (l.map bt)
theorem bt_inj : ∀ {a b : Bool}, bt a = bt b → a = b := by decide
theorem map_bt_inj : ∀ {a b : List Bool}, a.map bt = b.map bt → a = b
  | [], [], _ => rfl
  | [], _ :: _, h => by simp at h
  | _ :: _, [], h => by simp at h
  | x :: l, y :: m, h => by
    rw [List.map_cons, List.map_cons] at h
    injection h with h1 h2
    rw [bt_inj h1, map_bt_inj h2]
theorem W_inj {a b : List Bool} (h : W a = W b) : a = b := map_bt_inj (S_inj h)
theorem W_eq {a b : List Bool} : (W a = W b) ↔ a = b := ⟨W_inj, fun h => by rw [h]⟩
theorem W_len (a : List Bool) : (W a).length = a.length := by unfold W; rw [S_len, List.length_map]
theorem W_size (a : List Bool) : (W a).cps.size = a.length := by unfold W; simp
theorem W_cat (a b : List Bool) : W a ++ W b = W (a ++ b) := by unfold W; rw [S_cat, List.map_append]
theorem W_nil : ("" : Str) = W [] := by decide +kernel
theorem W_0 : ("0" : Str) = W [false] := by decide +kernel
theorem W_1 : ("1" : Str) = W [true] := by decide +kernel
theorem W_get {a : List Bool} {i : Nat} {c : Nat} (h : (W a).cps[i]? = some c) : ∃ b, a[i]? = some b ∧ c = bt b := by
  unfold W S at h
  rw [List.getElem?_toArray, List.getElem?_map] at h
  cases e : a[i]? with
  | none => rw [e] at h; cases h
  | some b => rw [e] at h; exact ⟨b, rfl, (Option.some.inj h).symm⟩
theorem W_bit (b : Bool) : (⟨#[bt b]⟩ : Str) = W [b] := rfl
theorem W_tl (a : List Bool) : (W a).cps.toList = a.map bt := rfl
theorem joinL_nil : ∀ ys : List (List Nat), TL.joinL [] ys = ys.flatten
  | [] => rfl
  | [p] => by simp [TL.joinL]
  | p :: q :: r => by
    show p ++ ([] ++ TL.joinL [] (q :: r)) = _
    rw [List.nil_append, joinL_nil (q :: r)]
    rfl
theorem join_W (ls : List (List Bool)) : Txt.join "" (ls.map W) = W ls.flatten := by
  have e : (ls.map W) = (ls.map (·.map bt)).map S := by rw [List.map_map]; rfl
  have e2 : ("" : Str) = S [] := by decide +kernel
  rw [e, e2, join_S, joinL_nil]
  unfold W
  rw [List.map_flatten]
theorem join_bits (l : List Bool) : Txt.join "" (l.map fun b => W [b]) = W l := by
  have e : (l.map fun b => W [b]) = (l.map fun b => [b]).map W := by rw [List.map_map]; rfl
  rw [e, join_W]
  congr 1
  induction l with
  | nil => rfl
  | cons b r ih => simp [ih]
theorem sum_lens : ∀ ls : List (List Bool), ((ls.map W).map (·.length)).sum = (ls.map (·.length)).sum
  | [] => rfl
  | l :: r => by
    rw [List.map_cons, List.map_cons, List.map_cons, List.sum_cons, List.sum_cons, W_len, sum_lens r]
theorem sl_len {n : Nat} (h : n ≤ 100000) : n ≤ sizeLine := Nat.le_trans h (by decide)
theorem sl_lt {n : Nat} (h : n < 100000) : n < sizeLine := Nat.lt_of_lt_of_le h (by decide)
def bitsV (l : List Bool) : List V := (l.map fun b => W [b]).map V.str
theorem lens_bits (l : List Bool) : ((l.map fun b => W [b]).map (·.length)).sum = l.length := by
  induction l with
  | nil => rfl
  | cons b r ih => rw [List.map_cons, List.map_cons, List.sum_cons, ih, W_len, List.length_cons]; simp only [List.length_cons, List.length_nil]; omega
theorem bitsV_len (l : List Bool) : (bitsV l).length = l.length := by unfold bitsV; rw [List.length_map, List.length_map]
theorem bitsV_snoc (l : List Bool) (b : Bool) : bitsV l ++ [V.str (W [b])] = bitsV (l ++ [b]) := by unfold bitsV; simp
theorem mem2 {v : V} (h : v ∈ ([.str "0", .str "1"] : List V)) : ∃ b : Bool, v = .str (W [b]) := by
  rcases List.mem_cons.mp h with rfl | h
  · exact ⟨false, by rw [W_0]⟩
  · rcases List.mem_cons.mp h with rfl | h
    · exact ⟨true, by rw [W_1]⟩
    · cases h
theorem empty_len : ("" : Str).length = 0 := by decide +kernel
/-! tests whose answer is known -/
theorem q_dec {c : Prop} [Decidable c] {Q : VK} {H : Hp} (hc : c) (h : Q (.bl true) H) : Q (.bl (decide c)) H := by rw [decide_eq_true hc]; exact h
theorem q_ndec {c : Prop} [Decidable c] {Q : VK} {H : Hp} (hc : ¬ c) (h : Q (.bl false) H) : Q (.bl (decide c)) H := by rw [decide_eq_false hc]; exact h
theorem iteDT {c A B : Prop} [Decidable c] (hc : c) (h : A) : if decide c = true then A else B := by rw [decide_eq_true hc]; exact iteT h
theorem iteDF {c A B : Prop} [Decidable c] (hc : ¬ c) (h : B) : if decide c = true then A else B := by rw [decide_eq_false hc]; exact iteF h
theorem iteNT {c A B : Prop} [Decidable c] (hc : ¬ c) (h : A) : if (!decide c) = true then A else B := by rw [decide_eq_false hc]; exact iteT h
theorem iteBT {b : Bool} {A B : Prop} (hc : b = true) (h : A) : if b = true then A else B := by rw [hc]; exact iteT h
theorem iteBF {b : Bool} {A B : Prop} (hc : b = false) (h : B) : if b = true then A else B := by rw [hc]; exact iteF h
def oW : Option (List Bool) → V
  | none => .non
  | some x => .str (W x)
/-! slices -/
theorem W_drop {a : List Bool} {i : Int} (h : 0 ≤ i) : Txt.slice (W a) (some i) none = W (a.drop i.toNat) := by
  unfold W; rw [slice_from h, List.map_drop]
theorem W_take {a : List Bool} {i : Int} (h : 0 ≤ i) : Txt.slice (W a) none (some i) = W (a.take i.toNat) := by
  unfold W; rw [slice_to h, List.map_take]
theorem repl_succ (l : List Bool) (n : Nat) : (List.replicate (n + 1) l).flatten = l ++ (List.replicate n l).flatten := by rw [List.replicate_succ]; rfl
theorem foldl_app : ∀ (n : Nat) (a b : Array Nat), ((List.replicate n a).foldl (· ++ ·) b).toList = b.toList ++ (List.replicate n a.toList).flatten
  | 0, a, b => by simp
  | n + 1, a, b => by
    rw [List.replicate_succ, List.foldl_cons, foldl_app n a (b ++ a), List.replicate_succ, List.flatten_cons, Array.toList_append, List.append_assoc]
theorem mul_W {l : List Bool} {n : Nat} (h : 1 ≤ n) : Txt.mul (W l) (n : Int) = W (List.replicate n l).flatten := by
  refine TL.ext_tl ?_
  unfold Txt.mul
  rw [if_neg (by omega)]
  by_cases c : (((n : Int) == 1) || (W l).length == 0) = true
  · rw [if_pos c]
    simp only [Bool.or_eq_true, beq_iff_eq] at c
    rcases c with c | c
    · have : n = 1 := by omega
      subst this
      simp
    · rw [W_len] at c
      have : l = [] := List.length_eq_zero_iff.mp c
      subst this
      rw [show (List.replicate n ([] : List Bool)).flatten = [] by simp]
  · rw [if_neg c]
    show ((List.replicate (n : Int).toNat (W l).cps).foldl (· ++ ·) #[]).toList = _
    rw [foldl_app, Int.toNat_natCast]
    show [] ++ (List.replicate n (l.map bt)).flatten = ((List.replicate n l).flatten).map bt
    rw [List.map_flatten, List.map_replicate, List.nil_append]
end U

set_option maxRecDepth 100000
set_option maxHeartbeats 4000000
/-! rules, in plain Lean -/
namespace U
abbrev Stf := List Bool × Bool
def putM (ss : List Stf) (l : List Bool) : Option Bool := (ss.find? fun s => s.1.isSuffixOf l).map (·.2)
/-- the bits that are put in behind l -/
inductive Ins (ss : List Stf) : List Bool → List Bool → Prop
  | stop {l : List Bool} : putM ss l = none → Ins ss l []
  | more {l x : List Bool} {b : Bool} : putM ss l = some b → Ins ss (l ++ [b]) x → Ins ss l (b :: x)
inductive Reach (ss : List Stf) : List Bool → Prop
  | nil : Reach ss []
  | next {l x : List Bool} {b : Bool} : Reach ss l → Ins ss (l ++ [b]) x → Reach ss (l ++ [b] ++ x)
def OkR (ss : List Stf) : Prop := ∀ l, Reach ss l → ∀ b, ∃ x, Ins ss (l ++ [b]) x
/-- each message ends, within n bits that are put in at a time -/
def OkN (n : Nat) (ss : List Stf) : Prop := ∀ l, Reach ss l → ∀ b, ∃ x, Ins ss (l ++ [b]) x ∧ x.length ≤ n
abbrev OkS (ss : List Stf) : Prop := OkN 19 ss
theorem OkN.ok {n : Nat} {ss : List Stf} (h : OkN n ss) : OkR ss := fun l r b => by
  obtain ⟨x, hx, _⟩ := h l r b
  exact ⟨x, hx⟩
theorem OkN.mono {n m : Nat} {ss : List Stf} (h : OkN n ss) (hn : n ≤ m) : OkN m ss := fun l r b => by
  obtain ⟨x, hx, h1⟩ := h l r b
  exact ⟨x, hx, Nat.le_trans h1 hn⟩
def tl (n : Nat) (l : List Bool) : List Bool := l.drop (l.length - n)
theorem tl_len (n : Nat) (l : List Bool) : (tl n l).length = min n l.length := by unfold tl; rw [List.length_drop]; omega
theorem tl_le (n : Nat) (l : List Bool) : (tl n l).length ≤ n := by rw [tl_len]; omega
theorem tl_id {n : Nat} {l : List Bool} (h : l.length ≤ n) : tl n l = l := by
  unfold tl
  rw [show l.length - n = 0 by omega, List.drop_zero]
theorem tl_tl {a b : Nat} (h : a ≤ b) (l : List Bool) : tl a (tl b l) = tl a l := by
  unfold tl
  rw [List.drop_drop, List.length_drop]
  congr 1
  omega
theorem tl_of {a b : Nat} (h : a ≤ b) {l m : List Bool} (e : tl b l = tl b m) : tl a l = tl a m := by rw [← tl_tl h l, e, tl_tl h m]
theorem tl_snoc0 (n : Nat) (l : List Bool) (b : Bool) : tl (n + 1) (l ++ [b]) = tl n l ++ [b] := by
  unfold tl
  rw [List.length_append, List.length_cons, List.length_nil, List.drop_append]
  have e : l.length + (0 + 1) - (n + 1) = l.length - n := by omega
  rw [e, show l.length - n - l.length = 0 by omega]
  rfl
theorem tl_zero (l : List Bool) : tl 0 l = [] := by unfold tl; rw [List.drop_eq_nil_iff]; omega
theorem tl_snoc {n : Nat} {l m : List Bool} {b : Bool} (e : tl n l = tl n m) : tl n (l ++ [b]) = tl n (m ++ [b]) := by
  cases n with
  | zero => rw [tl_zero, tl_zero]
  | succ n => rw [tl_snoc0, tl_snoc0, tl_of (Nat.le_succ n) e]
theorem tl_app {n : Nat} {l m : List Bool} (e : tl n l = tl n m) : ∀ x : List Bool, tl n (l ++ x) = tl n (m ++ x)
  | [] => by rw [List.append_nil, List.append_nil]; exact e
  | b :: x => by
    have := tl_app (tl_snoc (b := b) e) x
    rw [List.append_assoc, List.append_assoc] at this
    exact this
theorem suf_iff {p l : List Bool} : p.isSuffixOf l = true ↔ p = tl p.length l := by
  rw [List.isSuffixOf_iff_suffix, List.suffix_iff_eq_drop]
  rfl
theorem suf_tl {L : Nat} {p l m : List Bool} (h : p.length ≤ L) (e : tl L l = tl L m) : p.isSuffixOf l = p.isSuffixOf m := by
  rw [Bool.eq_iff_iff, suf_iff, suf_iff, tl_of h e]
theorem put_tl {L : Nat} {l m : List Bool} (e : tl L l = tl L m) : ∀ {ss : List Stf}, (∀ s ∈ ss, s.1.length ≤ L) → putM ss l = putM ss m
  | [], _ => rfl
  | s :: r, h => by
    have ih := put_tl e (ss := r) fun s hs => h s (List.mem_cons_of_mem _ hs)
    have es := suf_tl (h s List.mem_cons_self) e
    unfold putM at ih ⊢
    rw [List.find?_cons, List.find?_cons, es]
    cases s.1.isSuffixOf m with
    | true => rfl
    | false => exact ih
theorem Ins.tl {ss : List Stf} {L : Nat} (hL : ∀ s ∈ ss, s.1.length ≤ L) {l x : List Bool} (h : Ins ss l x) : ∀ {m}, tl L l = tl L m → Ins ss m x := by
  induction h with
  | stop h => intro m e; exact .stop (by rw [← put_tl e hL]; exact h)
  | more h _ ih => intro m e; exact .more (by rw [← put_tl e hL]; exact h) (ih (tl_snoc e))
theorem Ins.det {ss : List Stf} {l x : List Bool} (h : Ins ss l x) : ∀ {y}, Ins ss l y → x = y := by
  induction h with
  | stop h =>
    intro y hy
    cases hy with
    | stop _ => rfl
    | more h2 _ => rw [h] at h2; cases h2
  | more h _ ih =>
    intro y hy
    cases hy with
    | stop h2 => rw [h] at h2; cases h2
    | more h2 hx =>
      rw [h] at h2
      cases h2
      rw [ih hx]
theorem Ins.end {ss : List Stf} {l x : List Bool} (h : Ins ss l x) : putM ss (l ++ x) = none := by
  induction h with
  | stop h => rw [List.append_nil]; exact h
  | more _ _ ih => rw [List.append_assoc] at ih; exact ih
theorem Ins.drop {ss : List Stf} {l x : List Bool} (h : Ins ss l x) : ∀ {i}, i ≤ x.length → Ins ss (l ++ x.take i) (x.drop i) := by
  induction h with
  | stop h => intro i hi; rw [List.take_nil, List.drop_nil, List.append_nil]; exact .stop h
  | more h hx ih =>
    intro i hi
    cases i with
    | zero => rw [List.take_zero, List.append_nil, List.drop_zero]; exact .more h hx
    | succ i =>
      have := ih (i := i) (by rw [List.length_cons] at hi; omega)
      rw [List.append_assoc] at this
      exact this
theorem Ins.at {ss : List Stf} {l x : List Bool} (h : Ins ss l x) {i : Nat} {b : Bool} (hb : x[i]? = some b) : putM ss (l ++ x.take i) = some b := by
  have hi := (List.getElem?_eq_some_iff.mp hb).1
  have h2 := h.drop (Nat.le_of_lt hi)
  rw [List.drop_eq_getElem_cons hi] at h2
  cases h2 with
  | more h3 _ => rw [h3, ← hb, List.getElem?_eq_getElem hi]
theorem Ins.apart {ss : List Stf} {L : Nat} (hL : ∀ s ∈ ss, s.1.length ≤ L) {l x : List Bool} (h : Ins ss l x) {i j : Nat} (hi : i ≤ x.length) (hj : j ≤ x.length) (e : U.tl L (l ++ x.take i) = U.tl L (l ++ x.take j)) : i = j := by
  have := congrArg List.length (((h.drop hi).tl hL e).det (h.drop hj))
  rw [List.length_drop, List.length_drop] at this
  omega
/-! how many words there are -/
def allW : Nat → List (List Bool)
  | 0 => [[]]
  | n + 1 => [] :: ((allW n).map (false :: ·) ++ (allW n).map (true :: ·))
theorem allW_len : ∀ n, (allW n).length + 1 = 2 ^ (n + 1)
  | 0 => rfl
  | n + 1 => by
    have := allW_len n
    show ([] :: ((allW n).map (false :: ·) ++ (allW n).map (true :: ·))).length + 1 = _
    rw [List.length_cons, List.length_append, List.length_map, List.length_map, Nat.pow_succ]
    omega
theorem mem_allW : ∀ {n : Nat} {w : List Bool}, w.length ≤ n → w ∈ allW n
  | 0, [], _ => List.mem_cons_self
  | 0, _ :: _, h => by rw [List.length_cons] at h; omega
  | n + 1, [], _ => List.mem_cons_self
  | n + 1, b :: w, h => by
    have := mem_allW (n := n) (w := w) (by rw [List.length_cons] at h; omega)
    refine List.mem_cons_of_mem _ (List.mem_append.mpr ?_)
    cases b with
    | false => exact .inl (List.mem_map_of_mem this)
    | true => exact .inr (List.mem_map_of_mem this)
theorem nodup_le {α : Type} [DecidableEq α] : ∀ {l m : List α}, l.Nodup → (∀ x ∈ l, x ∈ m) → l.length ≤ m.length
  | [], _, _, _ => Nat.zero_le _
  | x :: r, m, hn, hs => by
    have hx := hs x List.mem_cons_self
    have hn' := List.nodup_cons.mp hn
    have h2 := nodup_le (l := r) (m := m.erase x) hn'.2 fun y hy => by
      have hne : y ≠ x := fun e => hn'.1 (e ▸ hy)
      exact (List.mem_erase_of_ne hne).mpr (hs y (List.mem_cons_of_mem _ hy))
    rw [List.length_erase_of_mem hx] at h2
    have := List.length_pos_of_mem hx
    rw [List.length_cons]
    omega
theorem words_le {ws : List (List Bool)} {n : Nat} (hn : ws.Nodup) (hl : ∀ w ∈ ws, w.length ≤ n) : ws.length + 1 ≤ 2 ^ (n + 1) := by
  have := nodup_le hn fun w hw => mem_allW (hl w hw)
  have := allW_len n
  omega
theorem Ins.len {ss : List Stf} {L : Nat} (hL : ∀ s ∈ ss, s.1.length ≤ L) {l x : List Bool} (h : Ins ss l x) : x.length + 1 ≤ 2 ^ (L + 1) := by
  have := words_le (ws := (List.range x.length).map fun i => U.tl L (l ++ x.take i)) (n := L) (by
    rw [List.nodup_iff_pairwise_ne, List.pairwise_map]
    refine List.Pairwise.imp_of_mem ?_ List.nodup_range
    intro a b ha hb hne e
    have ha' := List.mem_range.mp ha
    have hb' := List.mem_range.mp hb
    exact hne (h.apart hL (Nat.le_of_lt ha') (Nat.le_of_lt hb') e)) (fun w hw => by
      obtain ⟨i, _, rfl⟩ := List.mem_map.mp hw
      exact tl_le _ _)
  rw [List.length_map, List.length_range] at this
  exact this
/-! the order of the stuffs does not matter -/
def SufFree (ss : List Stf) : Prop := ss.Pairwise fun a b => ¬ a.1 <:+ b.1 ∧ ¬ b.1 <:+ a.1
theorem SufFree.ne {ss : List Stf} (h : SufFree ss) {a b : Stf} (ha : a ∈ ss) (hb : b ∈ ss) (n : a ≠ b) : ¬ a.1 <:+ b.1 := by
  unfold SufFree at h
  induction ss with
  | nil => cases ha
  | cons s r ih =>
    obtain ⟨h1, h2⟩ := List.pairwise_cons.mp h
    rcases List.mem_cons.mp ha with ea | ha'
    · rcases List.mem_cons.mp hb with eb | hb'
      · exact absurd (ea.trans eb.symm) n
      · rw [ea]; exact (h1 _ hb').1
    · rcases List.mem_cons.mp hb with eb | hb'
      · rw [eb]; exact (h1 _ ha').2
      · exact ih h2 ha' hb'
theorem put_iff {ss : List Stf} (h : SufFree ss) {l : List Bool} {b : Bool} : putM ss l = some b ↔ ∃ p, (p, b) ∈ ss ∧ p <:+ l := by
  unfold putM
  constructor
  · intro e
    obtain ⟨s, hs, rfl⟩ := Option.map_eq_some_iff.mp e
    exact ⟨s.1, List.mem_of_find?_eq_some hs, List.isSuffixOf_iff_suffix.mp (List.find?_some (p := fun s : Stf => s.1.isSuffixOf l) hs)⟩
  · rintro ⟨p, hm, hp⟩
    cases e : ss.find? fun s => s.1.isSuffixOf l with
    | none =>
      have := List.find?_eq_none.mp e _ hm
      exact absurd (List.isSuffixOf_iff_suffix.mpr hp) this
    | some s =>
      have hs := List.mem_of_find?_eq_some e
      have hq : s.1 <:+ l := List.isSuffixOf_iff_suffix.mp (List.find?_some (p := fun s : Stf => s.1.isSuffixOf l) e)
      by_cases n : s = (p, b)
      · rw [n]; rfl
      · rcases List.suffix_or_suffix_of_suffix hq hp with z | z
        · exact absurd z (h.ne hs hm n)
        · exact absurd z (h.ne hm hs (Ne.symm n))
theorem SufFree.perm {ss ts : List Stf} (h : SufFree ss) (p : ss.Perm ts) : SufFree ts := by
  unfold SufFree at h ⊢
  exact (List.Perm.pairwise_iff (fun ⟨a, b⟩ => ⟨b, a⟩) p).mp h
theorem put_perm {ss ts : List Stf} (h : SufFree ss) (p : ss.Perm ts) (l : List Bool) : putM ss l = putM ts l := by
  refine Option.ext fun b => ?_
  rw [put_iff h, put_iff (h.perm p)]
  constructor
  · rintro ⟨q, hm, hq⟩; exact ⟨q, p.mem_iff.mp hm, hq⟩
  · rintro ⟨q, hm, hq⟩; exact ⟨q, p.mem_iff.mpr hm, hq⟩
theorem Ins.congr {ss ts : List Stf} (h : ∀ l, putM ss l = putM ts l) {l x : List Bool} (i : Ins ss l x) : Ins ts l x := by
  induction i with
  | stop e => exact .stop (by rw [← h]; exact e)
  | more e _ ih => exact .more (by rw [← h]; exact e) ih
theorem Reach.congr {ss ts : List Stf} (h : ∀ l, putM ss l = putM ts l) {l : List Bool} (r : Reach ss l) : Reach ts l := by
  induction r with
  | nil => exact .nil
  | next _ i ih => exact .next ih (i.congr h)
theorem OkR.congr {ss ts : List Stf} (h : ∀ l, putM ss l = putM ts l) (o : OkR ss) : OkR ts := fun l r b => by
  obtain ⟨x, hx⟩ := o l (r.congr fun l => (h l).symm) b
  exact ⟨x, hx.congr h⟩
/-! so many puts, one behind another -/
def stP (ss : List Stf) (l : List Bool) : List Bool := match putM ss l with
  | none => l
  | some b => l ++ [b]
def itP (ss : List Stf) : Nat → List Bool → List Bool
  | 0, l => l
  | n + 1, l => itP ss n (stP ss l)
theorem itP_succ (ss : List Stf) : ∀ (n : Nat) (l : List Bool), itP ss (n + 1) l = stP ss (itP ss n l)
  | 0, _ => rfl
  | n + 1, l => itP_succ ss n (stP ss l)
theorem itP_stop {ss : List Stf} {l : List Bool} (h : putM ss l = none) : ∀ n, itP ss n l = l
  | 0 => rfl
  | n + 1 => by
    show itP ss n (stP ss l) = l
    have e : stP ss l = l := by unfold stP; rw [h]
    rw [e, itP_stop h n]
theorem itP_add (ss : List Stf) : ∀ (i j : Nat) (l : List Bool), itP ss (i + j) l = itP ss j (itP ss i l)
  | 0, j, l => by rw [Nat.zero_add]; rfl
  | i + 1, j, l => by rw [show i + 1 + j = (i + j) + 1 by omega]; exact itP_add ss i j (stP ss l)
theorem itP_rest {ss : List Stf} {i n : Nat} {l : List Bool} (h : putM ss (itP ss i l) = none) (hi : i ≤ n) : itP ss n l = itP ss i l := by
  rw [show n = i + (n - i) by omega, itP_add, itP_stop h]
theorem itP_or (ss : List Stf) : ∀ (n : Nat) (l : List Bool), (itP ss n l).length = l.length + n ∨ ∃ x, Ins ss l x ∧ itP ss n l = l ++ x
  | 0, l => .inl rfl
  | n + 1, l => by
    cases e : putM ss l with
    | none => exact .inr ⟨[], .stop e, by rw [itP_stop e, List.append_nil]⟩
    | some b =>
      have es : stP ss l = l ++ [b] := by unfold stP; rw [e]
      show (itP ss n (stP ss l)).length = _ ∨ ∃ x, Ins ss l x ∧ itP ss n (stP ss l) = l ++ x
      rw [es]
      rcases itP_or ss n (l ++ [b]) with h | ⟨x, h1, h2⟩
      · left; rw [h, List.length_append, List.length_cons, List.length_nil]; omega
      · exact .inr ⟨b :: x, .more e h1, by rw [h2, List.append_assoc]; rfl⟩
theorem itP_le (ss : List Stf) : ∀ (n : Nat) (l : List Bool), l.length ≤ (itP ss n l).length ∧ (itP ss n l).length ≤ l.length + n
  | 0, l => ⟨Nat.le_refl _, Nat.le_refl _⟩
  | n + 1, l => by
    have h := itP_le ss n (stP ss l)
    have e : l.length ≤ (stP ss l).length ∧ (stP ss l).length ≤ l.length + 1 := by
      unfold stP
      cases putM ss l with
      | none => exact ⟨Nat.le_refl _, Nat.le_succ _⟩
      | some b => show l.length ≤ (l ++ [b]).length ∧ (l ++ [b]).length ≤ _; rw [List.length_append, List.length_cons, List.length_nil]; omega
    show l.length ≤ (itP ss n (stP ss l)).length ∧ (itP ss n (stP ss l)).length ≤ _
    omega
/-- a closed set of standings, of 5 bits at most, shows that no message is without end -/
theorem okS_of {ss : List Stf} (kn : List (List Bool)) (hL : ∀ s ∈ ss, s.1.length ≤ 5) (h0 : [] ∈ kn) (hc : ∀ w ∈ kn, ∀ b, (itP ss 24 (w ++ [b])).length ≤ w.length + 20 ∧ tl 5 (itP ss 24 (w ++ [b])) ∈ kn) : OkS ss := by
  have hx : ∀ w ∈ kn, ∀ b, ∃ x, Ins ss (w ++ [b]) x ∧ tl 5 (w ++ [b] ++ x) ∈ kn ∧ x.length ≤ 19 := fun w hw b => by
    obtain ⟨h1, h2⟩ := hc w hw b
    rcases itP_or ss 24 (w ++ [b]) with h | ⟨x, hi, e⟩
    · rw [h, List.length_append, List.length_cons, List.length_nil] at h1; omega
    · rw [e] at h2 h1; exact ⟨x, hi, h2, by rw [List.length_append, List.length_append, List.length_cons, List.length_nil] at h1; omega⟩
  have hr : ∀ l, Reach ss l → ∃ w ∈ kn, tl 5 w = tl 5 l := fun l r => by
    induction r with
    | nil => exact ⟨[], h0, rfl⟩
    | @next l x b r i ih =>
      obtain ⟨w, hw, e⟩ := ih
      obtain ⟨y, hy, hm, _⟩ := hx w hw b
      have e2 := tl_snoc (b := b) e
      have ey := (hy.tl hL e2).det i
      subst ey
      exact ⟨_, hm, by rw [tl_tl (Nat.le_refl 5)]; exact tl_app e2 y⟩
  intro l r b
  obtain ⟨w, hw, e⟩ := hr l r
  obtain ⟨y, hy, _, h19⟩ := hx w hw b
  exact ⟨y, hy.tl hL (tl_snoc e), h19⟩
theorem okS_dec {ss : List Stf} (hL : (ss.all fun s => decide (s.1.length ≤ 5)) = true) (h : ((allW 5).all fun w => [false, true].all fun b => decide ((itP ss 24 (w ++ [b])).length ≤ w.length + 20)) = true) : OkS ss := by
  refine okS_of (allW 5) (fun s hs => of_decide_eq_true (List.all_eq_true.mp hL s hs)) (mem_allW (by decide)) fun w hw b => ⟨?_, mem_allW (tl_le _ _)⟩
  have := List.all_eq_true.mp (List.all_eq_true.mp h w hw) b (by cases b <;> decide)
  exact of_decide_eq_true this
theorem okS_11 : OkS [([true, true], false)] := okS_dec (by decide +kernel) (by decide +kernel)
theorem okS_001 : OkS [([false, false, true], true)] := okS_dec (by decide +kernel) (by decide +kernel)
theorem okS_1 : OkS [([true], false)] := okS_dec (by decide +kernel) (by decide +kernel)
theorem okS_00 : OkS [([false, false], true)] := okS_dec (by decide +kernel) (by decide +kernel)
theorem okS_nil : OkS [] := okS_dec (by decide +kernel) (by decide +kernel)
theorem okR_nil : OkR [] := okS_nil.ok
theorem OkN.congr {n : Nat} {ss ts : List Stf} (h : ∀ l, putM ss l = putM ts l) (o : OkN n ss) : OkN n ts := fun l r b => by
  obtain ⟨x, hx, hl⟩ := o l (r.congr fun l => (h l).symm) b
  exact ⟨x, hx.congr h, hl⟩
/-- the line for a message -/
inductive Body (ss : List Stf) : List Bool → List Bool → Prop
  | nil : Body ss [] []
  | snoc {m l x : List Bool} {b : Bool} : Body ss m l → Ins ss (l ++ [b]) x → Body ss (m ++ [b]) (l ++ [b] ++ x)
theorem Body.reach {ss : List Stf} {m l : List Bool} (h : Body ss m l) : Reach ss l := by
  induction h with
  | nil => exact .nil
  | snoc _ i ih => exact .next ih i
theorem Body.congr {ss ts : List Stf} (h : ∀ l, putM ss l = putM ts l) {m l : List Bool} (b : Body ss m l) : Body ts m l := by
  induction b with
  | nil => exact .nil
  | snoc _ i ih => exact .snoc ih (i.congr h)
theorem body_steps {N : Nat} {ss : List Stf} (o : OkN N ss) (m : List Bool) : ∃ f : Nat → List Bool, f 0 = [] ∧ (∀ i b, m[i]? = some b → ∃ x, Ins ss (f i ++ [b]) x ∧ x.length ≤ N ∧ f (i + 1) = f i ++ [b] ++ x) ∧ (∀ i, i ≤ m.length → Body ss (m.take i) (f i) ∧ (f i).length ≤ (N + 1) * i) := by
  have step : ∀ (n : Nat) (hn : n ≤ m.length), ∃ f : Nat → List Bool, f 0 = [] ∧ (∀ i b, i < n → m[i]? = some b → ∃ x, Ins ss (f i ++ [b]) x ∧ x.length ≤ N ∧ f (i + 1) = f i ++ [b] ++ x) ∧ (∀ i, i ≤ n → Body ss (m.take i) (f i) ∧ (f i).length ≤ (N + 1) * i) := by
    intro n
    induction n with
    | zero => exact fun _ => ⟨fun _ => [], rfl, fun i b h => absurd h (Nat.not_lt_zero _), fun i h => by rw [Nat.le_zero.mp h, List.take_zero]; exact ⟨.nil, Nat.le_refl _⟩⟩
    | succ n ih =>
      intro hn
      obtain ⟨f, h0, h1, h2⟩ := ih (by omega)
      have hb : m[n]? = some m[n] := List.getElem?_eq_getElem (by omega)
      obtain ⟨hB, hl⟩ := h2 n (Nat.le_refl _)
      obtain ⟨x, hx, hx19⟩ := o (f n) hB.reach m[n]
      refine ⟨fun i => if i = n + 1 then f n ++ [m[n]] ++ x else f i, ?_, fun i b hi hb' => ?_, fun i hi => ?_⟩
      · show (if 0 = n + 1 then _ else f 0) = []
        rw [if_neg (by omega), h0]
      · show ∃ y, Ins ss ((if i = n + 1 then _ else f i) ++ [b]) y ∧ _ ∧ (if i + 1 = n + 1 then f n ++ [m[n]] ++ x else f (i + 1)) = (if i = n + 1 then f n ++ [m[n]] ++ x else f i) ++ [b] ++ y
        rw [if_neg (show ¬ i = n + 1 by omega)]
        by_cases e : i = n
        · subst e
          rw [hb] at hb'
          cases hb'
          rw [if_pos rfl]
          exact ⟨x, hx, hx19, rfl⟩
        · rw [if_neg (by omega)]
          exact h1 i b (by omega) hb'
      · show Body ss (m.take i) (if i = n + 1 then _ else f i) ∧ (if i = n + 1 then f n ++ [m[n]] ++ x else f i).length ≤ (N + 1) * i
        by_cases e : i = n + 1
        · subst e
          rw [if_pos rfl, List.take_add_one, hb]
          refine ⟨.snoc hB hx, ?_⟩
          rw [List.length_append, List.length_append, List.length_cons, List.length_nil, Nat.mul_add]
          omega
        · rw [if_neg e]
          exact h2 i (by omega)
  obtain ⟨f, h0, h1, h2⟩ := step m.length (Nat.le_refl _)
  exact ⟨f, h0, fun i b hb => h1 i b (List.getElem?_eq_some_iff.mp hb).1 hb, h2⟩
theorem Ins.itP {ss : List Stf} {l x : List Bool} (h : Ins ss l x) : ∀ n, itP ss n l = l ++ x.take n := by
  induction h with
  | stop h => intro n; rw [itP_stop h, List.take_nil, List.append_nil]
  | @more l x b h _ ih =>
    intro n
    cases n with
    | zero => rw [List.take_zero, List.append_nil]; rfl
    | succ n =>
      have es : stP ss l = l ++ [b] := by unfold stP; rw [h]
      show U.itP ss n (stP ss l) = _
      rw [es, ih n, List.append_assoc]
      rfl
theorem ins_of_itP {ss : List Stf} {l y : List Bool} {j : Nat} (h : itP ss j l = l ++ y) (hn : putM ss (l ++ y) = none) (hj : y.length = j) : Ins ss l y := by
  rcases itP_or ss (j + 1) l with c | ⟨x, hx, e⟩
  · rw [itP_succ, h] at c
    unfold stP at c
    rw [hn] at c
    have c' : (l ++ y).length = l.length + (j + 1) := c
    rw [List.length_append] at c'
    omega
  · rw [itP_succ, h] at e
    unfold stP at e
    rw [hn] at e
    have e' : l ++ y = l ++ x := e
    rw [List.append_cancel_left e']
    exact hx
/-- the line for a message, as a function -/
def bodyF (ss : List Stf) (m : List Bool) : List Bool := m.foldl (fun l b => itP ss 40 (l ++ [b])) []
theorem Body.isF {ss : List Stf} (o : OkN 39 ss) {m l : List Bool} (h : Body ss m l) : l = bodyF ss m := by
  induction h with
  | nil => rfl
  | @snoc m l x b hb hi ih =>
    obtain ⟨y, hy, h39⟩ := o l hb.reach b
    have e := hi.det hy
    subst e
    unfold bodyF
    rw [List.foldl_append]
    show _ = itP ss 40 (bodyF ss m ++ [b])
    rw [← ih, hi.itP, List.take_of_length_le (by omega)]
theorem body_ex {ss : List Stf} (o : OkN 39 ss) (m : List Bool) : Body ss m (bodyF ss m) := by
  obtain ⟨f, _, _, h⟩ := body_steps o m
  have := (h m.length (Nat.le_refl _)).1
  rw [List.take_length] at this
  rw [← this.isF o]
  exact this
end U

set_option maxRecDepth 100000
set_option maxHeartbeats 4000000
namespace U
open PySem PySem.Spec PyProof.Rows L2
def top (i : Nat) : Stmt := PySem.Challenge.pw_unseenflips_k47_whole_rules_that_are_lef.main.body.getD i (.Pass ⟨0, 0, 0, 0⟩)
abbrev s_wall : Stmt := top 0
abbrev s_InvalidRule_init : Stmt := inClass (top 3) 0
abbrev s_InvalidText_init : Stmt := inClass (top 4) 0
abbrev s_put_behind : Stmt := top 6
abbrev s_body : Stmt := top 7
abbrev s_is_sequence : Stmt := top 10
abbrev s_is_word : Stmt := top 11
abbrev s_is_bit : Stmt := top 12
abbrev s_all_words : Stmt := top 13
abbrev s_tail : Stmt := top 14
abbrev s_is_stuff : Stmt := top 16
abbrev s_are_stuffs : Stmt := top 17
abbrev s_stuff_in : Stmt := top 18
abbrev s_Rule_init : Stmt := inClass (top 19) 0
abbrev s_Rule_read : Stmt := inClass (top 19) 1
abbrev s_Rule_longest : Stmt := inClass (top 19) 2
abbrev s_Rule_swapped : Stmt := inClass (top 19) 3
abbrev s_Rule_put : Stmt := inClass (top 19) 4
abbrev s_Rule_put_in : Stmt := inClass (top 19) 5
abbrev s_Rule_is_endless : Stmt := inClass (top 19) 6
abbrev s_Rule_len : Stmt := inClass (top 19) 7
abbrev s_Rule_iter : Stmt := inClass (top 19) 8
abbrev s_Rule_eq : Stmt := inClass (top 19) 9
abbrev s_Rule_str : Stmt := inClass (top 19) 10
abbrev s_parting : Stmt := top 21
abbrev s_rule_with : Stmt := top 22
abbrev s_single_rules : Stmt := top 23
abbrev s_could_be : Stmt := top 24
abbrev s_l_seed : Stmt := top 26
abbrev s_l_choose : Stmt := top 27
abbrev s_l_one_of : Stmt := top 28
abbrev s_l_word : Stmt := top 29
abbrev s_l_ends : Stmt := top 30
abbrev s_l_due : Stmt := top 31
abbrev s_l_chain : Stmt := top 32
abbrev s_l_tails : Stmt := top 33
abbrev s_l_are_stuffs : Stmt := top 34
abbrev s_l_words : Stmt := top 35
abbrev s_l_singles : Stmt := top 36
abbrev s_law : Stmt := top 37
structure Tx (mg : Str → Option Value) : Prop where
  b_len : mg "len" = none
  b_abs : mg "abs" = none
  b_int : mg "int" = none
  b_range : mg "range" = none
  b_max : mg "max" = none
  b_min : mg "min" = none
  b_enumerate : mg "enumerate" = none
  b_zip : mg "zip" = none
  b_dict : mg "dict" = none
  b_list : mg "list" = none
  b_tuple : mg "tuple" = none
  b_isinstance : mg "isinstance" = none
  b_bool : mg "bool" = none
  b_str : mg "str" = none
  b_all : mg "all" = none
  b_any : mg "any" = none
  b_sum : mg "sum" = none
  b_sorted : mg "sorted" = none
  b_repr : mg "repr" = none
end U

set_option maxRecDepth 100000
set_option maxHeartbeats 4000000
namespace U
open PySem PySem.Spec PyProof.Rows
open L2 hiding Fun CX0 E0 pass0 Fun.binds
open C8 Lx
local macro_rules | `(tactic| walk_at "g") => `(tactic| repeat (first | (refine ⟨_, rfl, ?_⟩) | (refine ⟨_, _, rfl, rfl, ?_⟩) | (refine ⟨rfl, ?_⟩) | (refine .inl ⟨_, rfl, ?_⟩)))
/-- the box: a list of two ints -/
def Box (H : Hp) (b : Addr) : Prop := ∃ x y : Int, H b = some (.lst [.int x, .int y])
/-- all but the box at b stands as it stood; the box is a box -/
def Up (b : Addr) (H H' : Hp) : Prop := (∀ c o, H c = some o → c ≠ b → H' c = some o) ∧ Box H' b
theorem Box.same {b : Addr} {H H' : Hp} (h : Box H b) (y : Same H H') : Box H' b := by obtain ⟨i, j, e⟩ := h; exact ⟨i, j, y _ _ e⟩
theorem Up.refl {b : Addr} {H : Hp} (h : Box H b) : Up b H H := ⟨fun _ _ e _ => e, h⟩
theorem Up.trans {b : Addr} {H H1 H2 : Hp} (x : Up b H H1) (y : Up b H1 H2) : Up b H H2 := ⟨fun c o e n => y.1 c o (x.1 c o e n) n, y.2⟩
theorem Up.same {b : Addr} {H H1 H2 : Hp} (x : Up b H H1) (y : Same H1 H2) : Up b H H2 := ⟨fun c o e n => y c o (x.1 c o e n), x.2.same y⟩
theorem Up.of_same {b : Addr} {H H2 : Hp} (h : Box H b) (y : Same H H2) : Up b H H2 := (Up.refl h).same y
theorem same_upd {H : Hp} {p : Addr} {o : HO} (h : H p = none) : Same H (upd H p o) := fun b x e => by
  rw [upd_ne (ne_of_none e h)]
  exact e
theorem same_mut' {H H1 : Hp} {p : Addr} {o : HO} (s : Same H H1) (n : H p = none) : Same H (upd H1 p o) := fun c u e => by
  rw [upd_ne (ne_of_none e n)]
  exact s _ _ e
theorem Box.ne {H : Hp} {b p : Addr} (h : Box H b) (n : H p = none) : p ≠ b := by
  obtain ⟨i, j, e⟩ := h
  intro z
  rw [z, e] at n
  cases n
/-- a thing that is no list of two ints is not the box -/
theorem Box.neT {H : Hp} {b p : Addr} {xs : List V} (h : Box H b) (n : H p = some (.tup xs)) : p ≠ b := by
  obtain ⟨i, j, e⟩ := h
  intro z
  rw [z, e] at n
  cases n
/-- an object that H doesn't know, changed -/
theorem Up.mut {b : Addr} {H H1 : Hp} {p : Addr} {o : HO} (x : Up b H H1) (h : H p = none) (n : p ≠ b) : Up b H (upd H1 p o) :=
  ⟨fun c u e nc => by rw [upd_ne (ne_of_none e h)]; exact x.1 c u e nc, by obtain ⟨i, j, e⟩ := x.2; exact ⟨i, j, by rw [upd_ne (Ne.symm n)]; exact e⟩⟩
theorem Up.free {b : Addr} {H H1 : Hp} {p : Addr} (x : Up b H H1) (h : H1 p = none) : H p = none := by
  cases e : H p with
  | none => rfl
  | some o =>
    by_cases n : p = b
    · obtain ⟨i, j, e2⟩ := x.2
      rw [n, e2] at h
      cases h
    · rw [x.1 p o e n] at h
      cases h
/-- what is no list stands as it stood -/
def NL (H H' : Hp) : Prop := ∀ c o, H c = some o → (∀ xs, o ≠ .lst xs) → H' c = some o
theorem NL.refl (H : Hp) : NL H H := fun _ _ e _ => e
theorem NL.trans {H H1 H2 : Hp} (a : NL H H1) (b : NL H1 H2) : NL H H2 := fun c o e n => b c o (a c o e n) n
theorem NL.of {H H' : Hp} (s : Same H H') : NL H H' := fun c o e _ => s c o e
theorem Up.nl {b : Addr} {H H' : Hp} (hb : Box H b) (u : Up b H H') : NL H H' := fun c o e n => u.1 c o e fun z => by
  obtain ⟨i, j, hb⟩ := hb
  rw [z, hb] at e
  exact n _ (Option.some.inj e).symm
theorem nl_upd {H : Hp} {q : Addr} {xs : List V} {o : HO} (h : H q = some (.lst xs)) : NL H (upd H q o) := fun c u e n => by
  have nq : c ≠ q := fun z => by
    rw [z, h] at e
    exact n _ (Option.some.inj e).symm
  rw [upd_ne nq]
  exact e
theorem NL.tup {H H' : Hp} {a : Addr} {xs : List V} (n : NL H H') (h : H a = some (.tup xs)) : H' a = some (.tup xs) := n _ _ h fun _ z => by cases z
theorem NL.ins {H H' : Hp} {a C dx : Addr} {fs : List (Str × V)} (n : NL H H') (h : H a = some (.ins C dx fs)) : H' a = some (.ins C dx fs) := n _ _ h fun _ z => by cases z
def spSeed (K : PySem.W.Frag) : Sp := fun vs H Q _ => ∃ (a : Addr) (ns : List Int) (k : Nat), vs = [.ref a, .int k] ∧ SqL K H a (ns.map V.int) ∧
  ∀ p H', H p = none → Same H H' → Box H' p → Q (.ref p) H'
def spChoose : Sp := fun vs H Q _ => ∃ (b : Addr) (m : Int), vs = [.ref b, .int m] ∧ Box H b ∧ 0 < m ∧ m < 1073741824 ∧
  ∀ (d : Int) H', 0 ≤ d → d < m → Up b H H' → Q (.int d) H'
def spOneOf : Sp := fun vs H Q _ => ∃ (b l : Addr) (xs : List V), vs = [.ref b, .ref l] ∧ Box H b ∧ H l = some (.lst xs) ∧ l ≠ b ∧ 0 < xs.length ∧ xs.length < 1000 ∧
  ∀ (v : V) H', v ∈ xs → Up b H H' → Q v H'
theorem cell_at {ns : List Int} {k : Int} (h0 : 0 ≤ k) (h1 : k < ns.length) : ∃ z, atI (ns.map V.int) k = some (V.int z) := by
  obtain ⟨j, rfl⟩ := Int.eq_ofNat_of_zero_le h0
  have h2 : j < ns.length := by omega
  exact ⟨ns[j], atI_nat (by simp [h2])⟩
section
variable {P : Program} {w : World} {K : PySem.W.Frag} {mg : Str → Option Value} {base : Heap}
theorem sc_l_choose : FnScope ["_law_box", "_law_many", "_law_digit", "_law_raw"] ["_law_box", "_law_many"] (fnScope s_l_choose) := fnScope_by (by decide +kernel)
theorem cal_l_choose {f : Addr} {fd : FuncData} (F : Def K mg "_law_choose" s_l_choose f fd) (b : Binds K fd ["_law_box", "_law_many"] []) (T : Tx mg) : Cal P w K mg base 1 "_law_choose" spChoose [] := by
  refine cal0 F b .nil sc_l_choose (fun vs H Q E h => ?_) (fun cdv A outer s H vs Q E hr h => ?_)
  · obtain ⟨_, _, rfl, _⟩ := h; rfl
  · obtain ⟨bx, m, rfl, ⟨x, y, hb⟩, m0, m1, k⟩ := h
    refine ⟨_, (pss_cons (ps_if (pt_cmpR op_gt (pe_ix ix_list (pv 0) pe_int (fun _ _ => rfl)) pe_int (nomark _)) (pss_cons (ps_set (i := 2) sc_l_choose.nd rfl (.inl rfl) (pe_op op_mod (pe_callTy call_int1 (by rfl) T.b_int (by decide +kernel) (pa_cons (pe_ix ix_list (pv 0) pe_int (fun _ _ => rfl)) pa_nil)) (pv 1)))
    (pss_cons (ps_asg (pe_op op_fdiv (pe_ix ix_list (pv 0) pe_int (fun _ _ => rfl)) (pv 1)) (pg_sub (pv 0) pe_int set_list))
    (pss_one (ps_ret (pv 2))))) pss_nil)
    (pss_cons (ps_set (i := 3) sc_l_choose.nd rfl (.inl rfl) (pe_op op_mod (pe_callTy call_int1 (by rfl) T.b_int (by decide +kernel) (pa_cons (pe_op op_add (pe_op op_mul (pe_ix ix_list (pv 0) pe_int (fun _ _ => rfl)) pe_int) pe_int) pa_nil)) pe_int))
    (pss_cons (ps_asg (pe_op op_add (pe_op op_mod (pe_callTy call_int1 (by rfl) T.b_int (by decide +kernel) (pa_cons (pe_op op_add (pe_op op_mul (pv 3) pe_int) pe_int) pa_nil)) pe_int) pe_int) (pg_sub (pv 0) pe_int set_list))
    (pss_one (ps_ret (pe_op op_mod (pe_callTy call_int1 (by rfl) T.b_int (by decide +kernel) (pa_cons (pe_op op_fdiv (pe_op op_add (pe_op op_mul (pv 3) pe_int) (pe_ix ix_list (pv 0) pe_int (fun _ _ => rfl))) pe_int) pa_nil)) (pv 1))))))), ?_⟩
    have up : ∀ x' y' : Int, Up bx H (upd H bx (.lst [.int x', .int y'])) := fun x' y' => ⟨fun c o e n => by rw [upd_ne n]; exact e, _, _, upd_same⟩
    refine ⟨_, rfl, bx, _, _, _, rfl, rfl, SqL.of hb, atI_nat (j := 0) rfl, _, _, rfl, rfl, _, rfl, ?_⟩
    refine ite2 (fun h1 => ?_) (fun h1 => ?_)
    · refine ⟨_, rfl, bx, _, _, _, rfl, rfl, SqL.of hb, atI_nat (j := 0) rfl, .inl ⟨_, rfl, _, rfl, _, _, rfl, rfl, m0, ?_⟩⟩
      refine ⟨_, rfl, bx, _, _, _, rfl, rfl, SqL.of hb, atI_nat (j := 0) rfl, _, rfl, _, _, rfl, rfl, ⟨m0, m1⟩, _, rfl, bx, _, _, 0, rfl, rfl, hb, rfl, ?_⟩
      exact ⟨_, rfl, k _ _ (Int.emod_nonneg _ (by omega)) (Int.emod_lt_of_pos _ m0) (up _ _)⟩
    · refine ⟨_, rfl, bx, _, _, _, rfl, rfl, SqL.of hb, atI_nat (j := 1) rfl, _, _, rfl, rfl, .inr ⟨by decide, by decide⟩, _, _, rfl, rfl, .inl ⟨_, rfl, _, _, rfl, rfl, (by show (0 : Int) < 2147483563; decide), ?_⟩⟩
      refine ⟨_, rfl, _, _, rfl, rfl, .inr ⟨by decide, by decide⟩, _, _, rfl, rfl, .inl ⟨_, rfl, _, _, rfl, rfl, (by show (0 : Int) < 2147483629; decide), _, _, rfl, rfl, _, rfl, bx, _, _, 1, rfl, rfl, hb, rfl, ?_⟩⟩
      refine ⟨_, rfl, _, _, rfl, rfl, .inr ⟨by decide, by decide⟩, _, rfl, bx, _, _, _, rfl, rfl, SqL.of upd_same, atI_nat (j := 1) rfl, _, _, rfl, rfl, _, _, rfl, rfl, ⟨by decide, by decide⟩, .inl ⟨_, rfl, _, rfl, _, _, rfl, rfl, m0, ?_⟩⟩
      exact k _ _ (Int.emod_nonneg _ (by omega)) (Int.emod_lt_of_pos _ m0) (up _ _)
theorem sc_l_seed : FnScope ["_law_script", "_law_k", "_law_cell"] ["_law_script", "_law_k"] (fnScope s_l_seed) := fnScope_by (by decide +kernel)
theorem cal_l_seed {f : Addr} {fd : FuncData} (F : Def K mg "_law_seed" s_l_seed f fd) (b : Binds K fd ["_law_script", "_law_k"] []) (T : Tx mg) : Cal P w K mg base 1 "_law_seed" (spSeed K) [] := by
  refine cal0 F b .nil sc_l_seed (fun vs H Q E h => ?_) (fun cdv A outer s H vs Q E hr h => ?_)
  · obtain ⟨_, _, _, rfl, _⟩ := h; rfl
  · obtain ⟨a, ns, n, rfl, hS, k⟩ := h
    refine ⟨_, (pss_cons (ps_set (i := 2) sc_l_seed.nd rfl (.inl rfl) (pe_op op_add (pe_op op_mul pe_int (pv 1)) pe_int))
    (pss_cons (ps_if (pt_cmpR op_lt (pv 1) (pe_callB call_len_seq (by rfl) T.b_len (by decide +kernel) (pa_cons (pv 0) pa_nil)) (nomark _)) (pss_one (ps_set (i := 2) sc_l_seed.nd rfl (.inl rfl) (pe_callB call_abs (by rfl) T.b_abs (by decide +kernel) (pa_cons (pe_ix ix_list (pv 0) (pv 1) (fun _ _ => rfl)) pa_nil)))) (pss_one (ps_if (pt_cmpR op_gt (pe_callB call_len_seq (by rfl) T.b_len (by decide +kernel) (pa_cons (pv 0) pa_nil)) pe_int (nomark _)) (pss_one (ps_set (i := 2) sc_l_seed.nd rfl (.inl rfl) (pe_op op_add (pv 2) (pe_op op_mul (pe_op op_mod (pe_callTy call_int1 (by rfl) T.b_int (by decide +kernel) (pa_cons (pe_callB call_abs (by rfl) T.b_abs (by decide +kernel) (pa_cons (pe_ix ix_list (pv 0) (pe_op op_mod (pe_callTy call_int1 (by rfl) T.b_int (by decide +kernel) (pa_cons (pv 1) pa_nil)) (pe_callB call_len_seq (by rfl) T.b_len (by decide +kernel) (pa_cons (pv 0) pa_nil))) (fun _ _ => rfl)) pa_nil)) pa_nil)) pe_int) pe_int)))) pss_nil)))
    (pss_one (ps_ret (pe_lst (pa_cons (pe_ifExp (pt_cmpR op_ge (pv 2) (pe_op op_pow pe_int pe_int) (nomark _)) (pv 2) pe_int) (pa_cons (pe_op op_add (pe_op op_mod (pe_callTy call_int1 (by rfl) T.b_int (by decide +kernel) (pa_cons (pe_op op_add (pe_op op_mul (pe_op op_mod (pe_callTy call_int1 (by rfl) T.b_int (by decide +kernel) (pa_cons (pv 2) pa_nil)) pe_int) pe_int) (pe_op op_mul pe_int (pv 1))) pa_nil)) pe_int) pe_int) pa_nil))))))), ?_⟩
    have fin : ∀ z : Int, tRet (tLst (tCons (tIf (tTest (tOp (rI0 fun i j => V.bl (decide (j ≤ i))) (tVar 2) (tOp (rI CPow fun i j => V.int (i ^ j.toNat)) (tC (V.int 10)) (tC (V.int 18))))) (tVar 2) (tC (V.int 0))) (tCons (tOp (rI0 fun i j => V.int (i + j)) (tOp (rI (fun _ j => 0 < j) fun i j => V.int (i % j)) (tCB (fun xs H Q => (∃ i, xs = [V.int i] ∧ Q (V.int i) H) ∨ ∃ k, xs = [V.bl k] ∧ Q (V.int (if k = true then 1 else 0)) H) (tCons (tOp (rI0 fun i j => V.int (i + j)) (tOp (rI CMul fun i j => V.int (i * j)) (tOp (rI (fun _ j => 0 < j) fun i j => V.int (i % j)) (tCB (fun xs H Q => (∃ i, xs = [V.int i] ∧ Q (V.int i) H) ∨ ∃ k, xs = [V.bl k] ∧ Q (V.int (if k = true then 1 else 0)) H) (tCons (tVar 2) tNil)) (tC (V.int 2147483629))) (tC (V.int 48271))) (tOp (rI CMul fun i j => V.int (i * j)) (tC (V.int 36007)) (tVar 1))) tNil)) (tC (V.int 2147483629))) (tC (V.int 1))) tNil))) { nx := fun _ H' => Q .non H', rt := Q } [some (.ref a), some (.int n), some (.int z)] H := by
      intro z
      refine ⟨_, rfl, _, _, rfl, rfl, ⟨by decide, by decide, by decide⟩, _, _, rfl, rfl, _, rfl, ?_⟩
      refine ite2 (fun h1 => ?_) (fun h1 => ?_)
      all_goals
        first
          | refine ⟨_, rfl, _, rfl, .inl ⟨_, rfl, _, _, rfl, rfl, (by show (0 : Int) < 2147483629; decide), _, _, rfl, rfl, .inr ⟨by decide, by decide⟩, _, rfl, _, _, rfl, rfl, .inl ⟨by decide, by decide⟩, _, _, rfl, rfl, .inl ⟨_, rfl, _, _, rfl, rfl, (by show (0 : Int) < 2147483629; decide), _, _, rfl, rfl, ?_⟩⟩⟩
          | refine ⟨_, rfl, .inl ⟨_, rfl, _, _, rfl, rfl, (by show (0 : Int) < 2147483629; decide), _, _, rfl, rfl, .inr ⟨by decide, by decide⟩, _, rfl, _, _, rfl, rfl, .inl ⟨by decide, by decide⟩, _, _, rfl, rfl, .inl ⟨_, rfl, _, _, rfl, rfl, (by show (0 : Int) < 2147483629; decide), _, _, rfl, rfl, ?_⟩⟩⟩
        exact ⟨by show 2 ≤ sizeLine; decide, fun p hp => k p _ hp (same_upd hp) ⟨_, _, upd_same⟩⟩
    refine ⟨_, rfl, _, _, rfl, rfl, .inl ⟨by decide, by decide⟩, _, _, rfl, rfl, ?_⟩
    refine ⟨_, rfl, _, rfl, a, _, rfl, .inl hS, _, _, rfl, rfl, _, rfl, ?_⟩
    refine ite2 (fun h1 => ?_) (fun h1 => ?_)
    · have h2 : (n : Int) < ((ns.map V.int).length : Int) := of_decide_eq_true h1
      rw [List.length_map] at h2
      obtain ⟨z, hz⟩ := cell_at (ns := ns) (by omega : (0 : Int) ≤ n) h2
      refine ⟨_, rfl, _, rfl, a, _, _, _, rfl, rfl, hS, hz, _, rfl, ?_⟩
      exact fin _
    · refine ⟨_, rfl, a, _, rfl, .inl hS, _, _, rfl, rfl, _, rfl, ?_⟩
      refine ite2 (fun h3 => ?_) (fun h3 => ?_)
      · have h4 : (0 : Int) < ((ns.map V.int).length : Int) := of_decide_eq_true h3
        have h5 := h4
        rw [List.length_map] at h5
        obtain ⟨z, hz⟩ := cell_at (ns := ns) (k := (n : Int) % ((ns.map V.int).length : Int)) (Int.emod_nonneg _ (by omega)) (by have := Int.emod_lt_of_pos (n : Int) h4; rw [List.length_map] at this ⊢; exact this)
        refine ⟨_, rfl, _, rfl, _, rfl, .inl ⟨_, rfl, _, rfl, a, _, rfl, .inl hS, _, _, rfl, rfl, h4, a, _, _, _, rfl, rfl, hS, hz, _, rfl, .inl ⟨_, rfl, _, _, rfl, rfl, (by show (0 : Int) < 2147483629; decide), _, _, rfl, rfl, .inr ⟨by decide, by decide⟩, _, _, rfl, rfl, ?_⟩⟩⟩
        exact fin _
      · exact fin _
theorem sc_l_one_of : FnScope ["_law_box", "_law_some"] ["_law_box", "_law_some"] (fnScope s_l_one_of) := fnScope_by (by decide +kernel)
theorem cal_l_one_of {f : Addr} {fd : FuncData} (F : Def K mg "_law_one_of" s_l_one_of f fd) (b : Binds K fd ["_law_box", "_law_some"] []) (T : Tx mg) (c_l_choose : Cal P w K mg base 1 "_law_choose" spChoose []) : Cal P w K mg base 2 "_law_one_of" spOneOf [] := by
  refine cal0 F b .nil sc_l_one_of (fun vs H Q E h => ?_) (fun cdv A outer s H vs Q E hr h => ?_)
  · obtain ⟨_, _, _, rfl, _⟩ := h; rfl
  · obtain ⟨bx, l, xs, rfl, hb, hl, nl, x0, x1, k⟩ := h
    refine ⟨_, (pss_one (ps_ret (pe_ix ix_list (pv 1) (pe_c c_l_choose hr (by decide) rfl (pa_cons (pv 0) (pa_cons (pe_callB call_len_seq (by rfl) T.b_len (by decide +kernel) (pa_cons (pv 1) pa_nil)) pa_nil))) (fun _ _ => rfl)))), ?_⟩
    refine ⟨_, rfl, _, rfl, _, rfl, l, _, rfl, .inl (SqL.of hl), bx, _, rfl, hb, by omega, by omega, fun d H' d0 d1 u => ?_⟩
    obtain ⟨j, rfl⟩ := Int.eq_ofNat_of_zero_le d0
    have hj : j < xs.length := by omega
    have g : xs[j]? = some xs[j] := by simp [hj]
    exact ⟨l, xs, _, xs[j], rfl, rfl, SqL.of (u.1 l _ hl nl), atI_nat g, k _ _ (List.getElem_mem hj) u⟩
end
end U

set_option maxRecDepth 100000
set_option maxHeartbeats 4000000
namespace U
open PySem PySem.Spec PyProof.Rows
open L2 hiding Fun CX0 E0 pass0 Fun.binds
open C8 Lx SX
/-! words told -/
def isW (z : Str) : Bool := z.cps.toList.all fun c => decide (c ∈ ("01" : Str).cps.toList)
theorem isW_W (l : List Bool) : isW (W l) = true := by
  unfold isW
  rw [W_tl, List.all_map, List.all_eq_true]
  intro b _
  cases b <;> decide +kernel
/-- is_word of any value: a text, or a thing whose type is not str -/
def spIsWord (K : PySem.W.Frag) : Sp := fun vs H Q _ => ∃ x, vs = [x] ∧ ((∃ z : Str, x = .str z ∧ z.length ≤ 100000 ∧ ∀ H', Same H H' → Q (.bl (isW z)) H') ∨
  (∃ t, TyX K H x t ∧ PySem.W.kitOne K t (.type "str") = some false ∧ Q (.bl false) H))
theorem spIsWord.word {K : PySem.W.Frag} {H : Hp} {Q : VK} {E : XK} {l : List Bool} (hl : l.length ≤ 100000) (k : ∀ H', Same H H' → Q (.bl true) H') : spIsWord K [.str (W l)] H Q E :=
  ⟨_, rfl, .inl ⟨_, rfl, by rw [W_len]; exact hl, fun H' s => by rw [isW_W]; exact k H' s⟩⟩
section
variable {P : Program} {w : World} {K : PySem.W.Frag} {mg : Str → Option Value} {base : Heap}
theorem sc_is_word : FnScope ["value", "sign"] ["value"] (fnScope s_is_word) := fnScope_by (by decide +kernel)
theorem cal_is_word {f : Addr} {fd : FuncData} {tB : Tok} (F : Def K mg "is_word" s_is_word f fd) (b : Binds K fd ["value"] []) (T : Tx mg) (g_BITS : mg "BITS" = some (.str "01" tB)) : Cal P w K mg base 1 "is_word" (spIsWord K) [] := by
  refine cal0 F b .nil sc_is_word (fun vs H Q E h => ?_) (fun cdv A outer s H vs Q E hr h => ?_)
  · obtain ⟨_, rfl, _⟩ := h; rfl
  · obtain ⟨_, rfl, h⟩ := h
    refine ⟨_, (pss_one (ps_ret (pe_and (pe_callB call_isi (by rfl) T.b_isinstance (by decide +kernel) (pa_cons (pv 0) (pa_cons (pe_bltn (v := .ty "str") (u := .type "str") (by rfl) T.b_str (by decide +kernel) rfl) pa_nil))) (pe_one (pe_callB (cr_all rfl) (by rfl) T.b_all (by decide +kernel) (pa_cons (pe_lc (own := [("sign", 1)]) (g := gName 1) (by rfl) sc_is_word.nd (pi_str (pv 0)) (blkOk_by (own := [("sign", 1)]) (N := ["value", "sign"]) (sc := fnScope s_is_word) (by decide +kernel)) (fun _ _ _ _ _ => (pg_name (i := 1) sc_is_word.nd rfl (.inl rfl))) (fun _ _ _ _ _ => pts_nil) (fun _ _ _ _ _ => (pe_cmpR op_in_sign (pv 1) (pe_glob (v := .str "01") (by rfl) g_BITS ⟨_, rfl⟩) (by with_unfolding_all rfl)))) pa_nil)))))), ?_⟩
    rcases h with ⟨z, rfl, hz, k⟩ | ⟨t, ht, hk, k⟩
    · refine ⟨_, rfl, _, _, _, _, true, rfl, .ty _, .base (.str z), kit_ty (by decide +kernel), _, rfl, ?_⟩
      refine ⟨_, rfl, z, rfl, fun D nD => ?_⟩
      refine lc_it walk_str (fun i H2 => Same H H2 ∧ H2 D = some (.lst (((z.cps.toList.take i).map fun c => decide (c ∈ ("01" : Str).cps.toList)).map V.bl))) ⟨same_upd nD, upd_same⟩ (fun _ _ _ _ => trivial) ?_ ?_
      · rintro i x H2 H3 hi ⟨s2, hD⟩ ⟨rfl, c, hc, rfl⟩
        refine ⟨rfl, ?_⟩
        refine ⟨_, rfl, c, _, rfl, rfl, _, hD, ?_, ?_, ?_⟩
        · rw [List.length_map, List.length_map, List.length_take]
          have e : z.length = z.cps.toList.length := TL.len_tl z
          exact sl_lt (by have : z.cps.size = z.cps.toList.length := by simp
                          omega)
        · intro c' o e
          rw [upd_ne (ne_of_none e nD)]
          exact s2 _ _ e
        · have hc' : z.cps.toList[i]? = some c := by rw [Array.getElem?_toList]; exact hc
          rw [upd_same, List.take_add_one, hc']
          simp
      · rintro H2 ⟨s2, hD⟩
        have e : z.cps.toList.take z.cps.size = z.cps.toList := List.take_of_length_le (by simp)
        rw [e] at hD
        refine ⟨D, _, rfl, SqL.of hD, ?_⟩
        have e2 : (List.map (fun c => decide (c ∈ ("01" : Str).cps.toList)) z.cps.toList).all id = isW z := by
          unfold isW
          rw [List.all_map]
          rfl
        rw [e2]
        exact k H2 s2
    · exact ⟨_, rfl, _, _, _, _, false, rfl, .ty _, ht, hk, _, rfl, k⟩
end
end U

set_option maxRecDepth 100000
set_option maxHeartbeats 4000000
namespace Lx
open PySem PySem.Spec PyProof.Rows L2
theorem Sq.of_same {K : PySem.W.Frag} {H H' : Hp} {a : Addr} {xs : List V} (h : Sq K H a xs) (e : Same H H') : Sq K H' a xs := h.same e
/-- a list or a tuple, walked: what holds behind -/
theorem iSeq_var {K : PySem.W.Frag} {i : Nat} {σ : L2.St} {H : Hp} {R : It → Hp → Prop} {a : Addr} {xs : List V} (hv : σ[i]? = some (some (.ref a))) (hS : Sq K H a xs)
    (h : ∀ (J : It) (G : Hp → Prop), (∀ H', Same H H' → G H') → Walk J xs.length G (YAt xs) → R J H) : iSeq K (tVar i) σ H R := by
  rcases hS with hS | hS
  · exact .inl ⟨_, hv, a, rfl, ⟨xs, hS⟩, h _ _ (fun H' s => s.seq hS) walk_list⟩
  · exact .inr ⟨_, hv, a, rfl, ⟨xs, hS⟩, h _ _ (fun H' s => same_tup s hS) walk_tup⟩
theorem iEnumQ_var {K : PySem.W.Frag} {i : Nat} {σ : L2.St} {H : Hp} {R : It → Hp → Prop} {a : Addr} {xs : List V} (hv : σ[i]? = some (some (.ref a))) (hS : Sq K H a xs)
    (h : ∀ (J : It) (G : Hp → Prop), (∀ H', Same H H' → G H') → Walk J xs.length G (YPair (fun i => some (.int (i : Nat))) (fun i => xs[i]?)) → R J H) : iEnumQ K (tCons (tVar i) tNil) σ H R := by
  rcases hS with hS | hS
  · exact .inl ⟨_, hv, a, xs, rfl, hS, h _ _ (fun H' s => s.seq hS) walk_enum⟩
  · exact .inr ⟨_, hv, a, xs, rfl, hS, h _ _ (fun H' s => same_tup s hS) walk_enumT⟩
theorem cut_whole {xs : List V} {lo hi : Option Int} (h1 : HT.sIx xs.length 0 lo = 0) (h2 : HT.sIx xs.length xs.length hi = xs.length) : cutV xs lo hi = xs := by
  unfold cutV
  rw [h1, h2, List.drop_zero, Nat.sub_zero, List.take_length]
theorem slQ_of {K : PySem.W.Frag} {H : Hp} {Q : VK} {a : Addr} {xs : List V} {lo hi : Option Int} (hS : Sq K H a xs) (h : ∀ p H', Same H H' → Sq K H' p (cutV xs lo hi) → Q (.ref p) H') : rSlL K (.ref a) lo hi H Q ∨ rSlA K (.ref a) lo hi H Q := by
  rcases hS with hS | hS
  · exact .inl ⟨a, xs, rfl, hS, fun p hp => h p _ (fun b x e => by rw [upd_ne (ne_of_none e hp)]; exact e) (.inl (SqL.of upd_same))⟩
  · refine .inr ⟨a, xs, rfl, hS, fun c => h a H (Same.refl H) ?_, fun _ p hp => h p _ (fun b x e => by rw [upd_ne (ne_of_none e hp)]; exact e) (.inr (SqT.of upd_same))⟩
    rw [cut_whole c.1 c.2]
    exact .inr hS
theorem Sq.star {K : PySem.W.Frag} {H : Hp} {a : Addr} {xs : List V} (h : Sq K H a xs) : SqT K H a xs ∨ SqL K H a xs := h.elim .inr .inl
end Lx
namespace U
open PySem PySem.Spec PyProof.Rows
open L2 hiding Fun CX0 E0 pass0 Fun.binds
open C8 Lx SX StX
/-! texts -/
theorem W_ends (l p : List Bool) : Txt.endswith (W l) (W p) = p.isSuffixOf l := by
  unfold Txt.endswith
  rw [PySem.StrLaws.subAt_eq, W_len, W_len, W_tl, W_tl, ← List.map_drop, ← List.map_take, Bool.eq_iff_iff, List.isSuffixOf_iff_suffix, Bool.and_eq_true, decide_eq_true_eq, beq_iff_eq]
  constructor
  · rintro ⟨h1, h2⟩
    have h3 := map_bt_inj h2
    rw [List.take_of_length_le (by rw [List.length_drop]; omega)] at h3
    rw [← h3]
    exact List.drop_suffix _ _
  · intro h
    have hl := h.length_le
    refine ⟨by omega, ?_⟩
    rw [List.take_of_length_le (by rw [List.length_drop]; omega), ← List.suffix_iff_eq_drop.mp h]
theorem W_tail (l : List Bool) (n : Nat) : Txt.slice (W l) (some (if (((W l).length : Nat) : Int) - (n : Int) > 0 then (((W l).length : Nat) : Int) - (n : Int) else 0)) none = W (tl n l) := by
  rw [W_drop (by split <;> omega)]
  congr 1
  unfold tl
  rw [W_len]
  congr 1
  split <;> omega
/-! stuffs -/
def StV (H : Hp) (kb : Addr → Stf) (ps : List Addr) : Prop := ∀ t ∈ ps, H t = some (.tup [.str (W (kb t).1), .str (W [(kb t).2])])
theorem StV.same {H H' : Hp} {kb : Addr → Stf} {ps : List Addr} (h : StV H kb ps) (e : Same H H') : StV H' kb ps := fun t ht => e _ _ (h t ht)
theorem StV.nl {H H' : Hp} {kb : Addr → Stf} {ps : List Addr} (h : StV H kb ps) (e : NL H H') : StV H' kb ps := fun t ht => e.tup (h t ht)
theorem StV.perm {H : Hp} {kb : Addr → Stf} {ps qs : List Addr} (h : StV H kb ps) (p : qs.Perm ps) : StV H kb qs := fun t ht => h t (p.mem_iff.mp ht)
def ruF (f : List Bool) (t : Addr) : List (Str × V) := putF "stuffs" (.ref t) (putF "flag" (.str (W f)) [])
theorem fs_ne : ¬ (("flag" : Str) = "stuffs") := by decide +kernel
theorem ruF_flag (f : List Bool) (t : Addr) : (ruF f t).lookup ("flag" : Str) = some (.str (W f)) := by
  unfold ruF
  rw [lookup_putF, if_neg fs_ne, lookup_putF, if_pos rfl]
theorem ruF_stuffs (f : List Bool) (t : Addr) : (ruF f t).lookup ("stuffs" : Str) = some (.ref t) := by
  unfold ruF
  rw [lookup_putF, if_pos rfl]
theorem ruF_no (f : List Bool) (t : Addr) {m : Str} (h1 : ¬ m = "stuffs") (h2 : ¬ m = "flag") : (ruF f t).lookup m = none := by
  unfold ruF
  rw [lookup_putF, if_neg h1, lookup_putF, if_neg h2]
  all_goals rfl
def RuAt (C : Addr) (H : Hp) (a : Addr) (f : List Bool) (ss : List Stf) : Prop :=
  ∃ dx t ps kb, H a = some (.ins C dx (ruF f t)) ∧ H t = some (.tup (ps.map V.ref)) ∧ StV H kb ps ∧ ss = ps.map kb
theorem RuAt.same {C : Addr} {H H' : Hp} {a : Addr} {f : List Bool} {ss : List Stf} (h : RuAt C H a f ss) (e : Same H H') : RuAt C H' a f ss := by
  obtain ⟨dx, t, ps, kb, h1, h2, h3, h4⟩ := h
  exact ⟨dx, t, ps, kb, e _ _ h1, e _ _ h2, h3.same e, h4⟩
theorem RuAt.nl {C : Addr} {H H' : Hp} {a : Addr} {f : List Bool} {ss : List Stf} (h : RuAt C H a f ss) (e : NL H H') : RuAt C H' a f ss := by
  obtain ⟨dx, t, ps, kb, h1, h2, h3, h4⟩ := h
  exact ⟨dx, t, ps, kb, e.ins h1, e.tup h2, h3.nl e, h4⟩
def longM (ss : List Stf) : Nat := ss.foldr (fun s m => max s.1.length m) 0
theorem longM_le : ∀ {ss : List Stf} {s : Stf}, s ∈ ss → s.1.length ≤ longM ss
  | x :: r, s, h => by
    show s.1.length ≤ max x.1.length (longM r)
    rcases List.mem_cons.mp h with e | h
    · rw [e]; omega
    · have := longM_le h; omega
theorem longM_max : ∀ {ss : List Stf} {n : Nat}, (∀ s ∈ ss, s.1.length ≤ n) → longM ss ≤ n
  | [], _, _ => Nat.zero_le _
  | x :: r, n, h => by
    have := longM_max (ss := r) fun s hs => h s (List.mem_cons_of_mem _ hs)
    have := h x List.mem_cons_self
    show max x.1.length (longM r) ≤ n
    omega
theorem longM_perm {ss ts : List Stf} (p : ss.Perm ts) : longM ss = longM ts :=
  Nat.le_antisymm (longM_max fun s hs => longM_le (p.mem_iff.mp hs)) (longM_max fun s hs => longM_le (p.mem_iff.mpr hs))
theorem longM_is {ss : List Stf} {m : Int} (hm : m ∈ (0 : Int) :: ss.map fun s => (s.1.length : Int)) (hx : ∀ y ∈ (0 : Int) :: ss.map fun s => (s.1.length : Int), y ≤ m) : m = (longM ss : Nat) := by
  have h0 := hx 0 List.mem_cons_self
  have h1 : longM ss ≤ m.toNat := longM_max fun s hs => by
    have := hx _ (List.mem_cons_of_mem _ (List.mem_map_of_mem (f := fun s : Stf => (s.1.length : Int)) hs))
    omega
  rcases List.mem_cons.mp hm with e | h
  · omega
  · obtain ⟨s, hs, rfl⟩ := List.mem_map.mp h
    have := longM_le hs
    omega
def oB : Option Bool → V
  | none => .non
  | some b => .str (W [b])
theorem oB_non (o : Option Bool) : decide (oB o = .non) = o.isNone := by
  cases o with
  | none => exact decide_eq_true rfl
  | some b => exact decide_eq_false (fun z => by cases z)
/-- the class as the top leaves it -/
structure RuT (K : PySem.W.Frag) (C : Addr) : Prop where
  cl : Cls K C
  nF : NoAttr K C "flag"
  nS : NoAttr K C "stuffs"
def spIsSeq (K : PySem.W.Frag) : Sp := fun vs H Q _ => ∃ a xs, vs = [.ref a] ∧ Sq K H a xs ∧ ∀ H', Same H H' → Q (.bl true) H'
def spIsBit : Sp := fun vs H Q _ => ∃ b, vs = [.str (W [b])] ∧ ∀ H', Same H H' → Q (.bl true) H'
def spIsStuff : Sp := fun vs H Q _ => ∃ (t : Addr) (p : List Bool) (b : Bool), vs = [.ref t] ∧ H t = some (.tup [.str (W p), .str (W [b])]) ∧ p ≠ [] ∧ p.length ≤ 1000 ∧ ∀ H', Same H H' → Q (.bl true) H'
def spTail : Sp := fun vs H Q _ => ∃ (l : List Bool) (n : Nat), vs = [.str (W l), .int n] ∧ l.length ≤ 100000 ∧ Q (.str (W (tl n l))) H
def spLongest (C : Addr) : Sp := fun vs H Q _ => ∃ (a : Addr) (f : List Bool) (ss : List Stf), vs = [.ref a] ∧ RuAt C H a f ss ∧ ss.length ≤ 1000 ∧ (∀ s ∈ ss, s.1.length ≤ 1000) ∧ ∀ H', Same H H' → Q (.int (longM ss : Nat)) H'
def spPut (C : Addr) : Sp := fun vs H Q _ => ∃ (a : Addr) (f : List Bool) (ss : List Stf) (l : List Bool), vs = [.ref a, .str (W l)] ∧ RuAt C H a f ss ∧ ∀ H', Same H H' → Q (oB (putM ss l)) H'
section
variable {P : Program} {w : World} {K : PySem.W.Frag} {mg : Str → Option Value} {base : Heap}
theorem sc_is_sequence : FnScope ["value"] ["value"] (fnScope s_is_sequence) := fnScope_by (by decide +kernel)
theorem cal_is_sequence {f : Addr} {fd : FuncData} (F : Def K mg "is_sequence" s_is_sequence f fd) (b : Binds K fd ["value"] []) (T : Tx mg) : Cal P w K mg base 1 "is_sequence" (spIsSeq K) [] := by
  refine cal0 F b .nil sc_is_sequence (fun vs H Q E h => ?_) (fun cdv A outer s H vs Q E hr h => ?_)
  · obtain ⟨_, _, rfl, _⟩ := h; rfl
  · obtain ⟨a, xs, rfl, hS, k⟩ := h
    refine ⟨_, (pss_one (ps_ret (pe_callB call_isiT (by rfl) T.b_isinstance (by decide +kernel) (pa_cons (pv 0) (pa_cons (pe_tup (pa_cons (pe_bltn (v := .ty "list") (u := .type "list") (by rfl) T.b_list (by decide +kernel) rfl) (pa_cons (pe_bltn (v := .ty "tuple") (u := .type "tuple") (by rfl) T.b_tuple (by decide +kernel) rfl) pa_nil))) pa_nil))))), ?_⟩
    refine ⟨_, rfl, by show 2 ≤ sizeLine; decide, fun tp htp => ?_⟩
    have hS' := hS.same (same_upd (o := .tup [.ty "list", .ty "tuple"]) htp)
    rcases hS' with hS' | hS'
    · exact ⟨_, tp, _, _, _, true, rfl, upd_same, .cons (.ty _) (.cons (.ty _) .nil), ty_list hS', by first | exact kit_any (by decide +kernel) | rfl | decide +kernel, k _ (same_upd htp)⟩
    · exact ⟨_, tp, _, _, _, true, rfl, upd_same, .cons (.ty _) (.cons (.ty _) .nil), ty_tup hS', by first | exact kit_any (by decide +kernel) | rfl | decide +kernel, k _ (same_upd htp)⟩
theorem sc_is_bit : FnScope ["value"] ["value"] (fnScope s_is_bit) := fnScope_by (by decide +kernel)
theorem cal_is_bit {f : Addr} {fd : FuncData} (F : Def K mg "is_bit" s_is_bit f fd) (b : Binds K fd ["value"] []) (T : Tx mg) (c_is_word : Cal P w K mg base 1 "is_word" (spIsWord K) []) : Cal P w K mg base 2 "is_bit" spIsBit [] := by
  refine cal0 F b .nil sc_is_bit (fun vs H Q E h => ?_) (fun cdv A outer s H vs Q E hr h => ?_)
  · obtain ⟨_, rfl, _⟩ := h; rfl
  · obtain ⟨x, rfl, k⟩ := h
    refine ⟨_, (pss_one (ps_ret (pe_and (pe_c c_is_word hr (by decide) rfl (pa_cons (pv 0) pa_nil)) (pe_one (pe_cmpR op_eq (pe_callB call_len_str (by rfl) T.b_len (by decide +kernel) (pa_cons (pv 0) pa_nil)) pe_int (nomark _)))))), ?_⟩
    have l1 : (W [x]).length = 1 := W_len _
    refine ⟨_, rfl, _, rfl, .inl ⟨_, rfl, by rw [l1]; decide, fun H1 s1 => ⟨_, rfl, iteBT (isW_W _) ?_⟩⟩⟩
    refine ⟨_, rfl, _, rfl, by rw [l1]; decide, ?_⟩
    rw [l1]
    exact ⟨rfl, q_dec (Q := Q) rfl (k H1 s1)⟩
theorem sc_is_stuff : FnScope ["value"] ["value"] (fnScope s_is_stuff) := fnScope_by (by decide +kernel)
theorem cal_is_stuff {f : Addr} {fd : FuncData} (F : Def K mg "is_stuff" s_is_stuff f fd) (b : Binds K fd ["value"] []) (T : Tx mg) (c_is_word : Cal P w K mg base 1 "is_word" (spIsWord K) []) (c_is_bit : Cal P w K mg base 2 "is_bit" spIsBit []) : Cal P w K mg base 3 "is_stuff" spIsStuff [] := by
  refine cal0 F b .nil sc_is_stuff (fun vs H Q E h => ?_) (fun cdv A outer s H vs Q E hr h => ?_)
  · obtain ⟨_, _, _, rfl, _⟩ := h; rfl
  · obtain ⟨t, p, x, rfl, ht, hp, hl, k⟩ := h
    refine ⟨_, (pss_cons (ps_if (PW.pt (pw_or (pt_not (pt_val (pe_callB call_isi (by rfl) T.b_isinstance (by decide +kernel) (pa_cons (pv 0) (pa_cons (pe_bltn (v := .ty "tuple") (u := .type "tuple") (by rfl) T.b_tuple (by decide +kernel) rfl) pa_nil))))) (pw_or1 (pt_cmpR op_ne (pe_callB call_len_seq (by rfl) T.b_len (by decide +kernel) (pa_cons (pv 0) pa_nil)) pe_int (nomark _))))) (pss_one (ps_ret pe_bl)) pss_nil)
    (pss_one (ps_ret (pe_and (pe_c c_is_word hr (by decide) rfl (pa_cons (pe_ix ix_tup (pv 0) pe_int (fun _ _ => rfl)) pa_nil)) (pe_and (pe_cmpR op_gt (pe_callB call_len_str (by rfl) T.b_len (by decide +kernel) (pa_cons (pe_ix ix_tup (pv 0) pe_int (fun _ _ => rfl)) pa_nil)) pe_int (nomark _)) (pe_one (pe_c c_is_bit hr (by decide) rfl (pa_cons (pe_ix ix_tup (pv 0) pe_int (fun _ _ => rfl)) pa_nil)))))))), ?_⟩
    have lp : (W p).length ≤ sizeLine := by rw [W_len]; exact sl_len (by omega)
    refine ⟨_, rfl, _, _, _, _, true, rfl, .ty _, .base (.tup ht), kit_ty (by decide +kernel), _, rfl, ?_⟩
    refine ⟨_, rfl, t, _, rfl, .inr (SqT.of ht), rfl, _, rfl, iteNS rfl ?_⟩
    refine ⟨_, rfl, t, _, 0, _, rfl, rfl, SqT.of ht, rfl, _, rfl, .inl ⟨_, rfl, by rw [W_len]; omega, fun H1 s1 => ⟨_, rfl, iteBT (isW_W _) ?_⟩⟩⟩
    have ht1 := s1 _ _ ht
    refine ⟨_, rfl, t, _, 0, _, rfl, rfl, SqT.of ht1, rfl, _, rfl, lp, ?_⟩
    refine ⟨_, _, rfl, rfl, _, rfl, iteDT ?_ ?_⟩
    · rw [W_len]
      have : p.length ≠ 0 := fun z => hp (List.length_eq_zero_iff.mp z)
      omega
    · refine ⟨_, rfl, t, _, 1, _, rfl, rfl, SqT.of ht1, rfl, x, rfl, fun H2 s2 => k H2 (s1.trans s2)⟩
theorem sc_tail : FnScope ["line", "size"] ["line", "size"] (fnScope s_tail) := fnScope_by (by decide +kernel)
theorem cal_tail {f : Addr} {fd : FuncData} (F : Def K mg "tail" s_tail f fd) (b : Binds K fd ["line", "size"] []) (T : Tx mg) : Cal P w K mg base 1 "tail" spTail [] := by
  refine cal0 F b .nil sc_tail (fun vs H Q E h => ?_) (fun cdv A outer s H vs Q E hr h => ?_)
  · obtain ⟨_, _, rfl, _⟩ := h; rfl
  · obtain ⟨l, n, rfl, hl, k⟩ := h
    refine ⟨_, (pss_one (ps_ret (pe_slice sl_txt (pv 0) (po_some (pe_callB (call_max2 rfl) (by rfl) T.b_max (by decide +kernel) (pa_cons pe_int (pa_cons (pe_op op_sub (pe_callB call_len_str (by rfl) T.b_len (by decide +kernel) (pa_cons (pv 0) pa_nil)) (pv 1)) pa_nil)))) po_none))), ?_⟩
    have lw : (W l).length ≤ sizeLine := by rw [W_len]; exact sl_len (by omega)
    refine ⟨_, rfl, _, rfl, _, rfl, lw, _, rfl, _, _, rfl, rfl, _, _, rfl, _, rfl, _, rfl, lw, ?_⟩
    rw [W_tail]
    exact k
theorem sc_Rule_longest : FnScope ["self", "pattern", "bit"] ["self"] (fnScope s_Rule_longest) := fnScope_by (by decide +kernel)
theorem ok_longest {f C : Addr} {fd : FuncData} (F : C8.Fun K "longest" "Rule.longest" s_Rule_longest f fd) (T : Tx mg) (RT : RuT K C) : FnOk P w K mg base CX0 1 f fd ["self"] (spLongest C) := by
  refine fn0 F sc_Rule_longest (fun vs H Q E h => ?_) (fun cdv A outer s H vs Q E hr h => ?_)
  · obtain ⟨_, _, _, rfl, _⟩ := h; rfl
  · obtain ⟨a, fl, ss, rfl, ⟨dx, t, ps, kb, ha, ht, hs, rfl⟩, hn, hl, k⟩ := h
    refine ⟨_, (pss_one (ps_ret (pe_callB (cr_max rfl) (by rfl) T.b_max (by decide +kernel) (pa_cons (pe_lst (pa_cons pe_int (pa_star (pe_lc (own := [("pattern", 1), ("bit", 2)]) (g := gTup K 2 (gCons (gName 1) (gCons (gName 2) gNil))) (by rfl) sc_Rule_longest.nd (pi_tup (pe_fld (pv 0) rfl)) (blkOk_by (own := [("pattern", 1), ("bit", 2)]) (N := ["self", "pattern", "bit"]) (sc := fnScope s_Rule_longest) (by decide +kernel)) (fun _ _ _ _ _ => (pg_tup rfl (pgs_cons (pg_name (i := 1) sc_Rule_longest.nd rfl (.inl rfl)) (pgs_cons (pg_name (i := 2) sc_Rule_longest.nd rfl (.inl rfl)) pgs_nil)))) (fun _ _ _ _ _ => pts_nil) (fun _ _ _ _ _ => (pe_callB call_len_str (by rfl) T.b_len (by decide +kernel) (pa_cons (pv 1) pa_nil)))) pa_nil))) pa_nil)))), ?_⟩
    refine ⟨_, rfl, a, C, dx, _, _, rfl, ha, RT.cl, RT.nS, ruF_stuffs _ _, t, rfl, ⟨_, SqT.of ht⟩, fun D nD => ?_⟩
    refine lc_it (walk_tup (xs := ps.map V.ref)) (fun i H2 => Same H H2 ∧ H2 D = some (.lst ((((ps.take i).map kb).map fun s => (s.1.length : Int)).map V.int))) ⟨same_upd nD, upd_same⟩ (fun i H2 _ h2 => SqT.of (h2.1 _ _ ht)) ?_ ?_
    · rintro i x H2 H3 hi ⟨s2, hD⟩ ⟨rfl, hx⟩
      rw [List.getElem?_map] at hx
      obtain ⟨q, hq, rfl⟩ := Option.map_eq_some_iff.mp hx
      have hqm : q ∈ ps := List.mem_of_getElem? hq
      have lq : (kb q).1.length ≤ 1000 := hl _ (List.mem_map_of_mem hqm)
      refine ⟨q, _, rfl, SqT.of (s2 _ _ (hs q hqm)), rfl, ?_⟩
      refine ⟨_, _, rfl, _, _, rfl, rfl, rfl, ?_⟩
      refine ⟨_, rfl, _, rfl, by rw [W_len]; exact sl_len (by omega), _, hD, ?_, ?_, ?_⟩
      · rw [List.length_map] at hi
        rw [List.length_map, List.length_map, List.length_map, List.length_take]
        rw [List.length_map] at hn
        exact sl_lt (by omega)
      · intro c' o e
        rw [upd_ne (ne_of_none e nD)]
        exact s2 _ _ e
      · rw [upd_same, List.take_add_one, hq, W_len]
        simp
    · rintro H2 ⟨s2, hD⟩
      rw [List.length_map, List.take_length] at hD
      refine ⟨D, _, rfl, .inr (SqL.of hD), ?_⟩
      have hn' : ps.length ≤ 1000 := by rw [List.length_map] at hn; exact hn
      refine ⟨?_, fun p hp => ?_⟩
      · simp only [List.length_cons, List.length_append, List.length_map, List.length_nil]
        exact sl_len (by omega)
      · refine ⟨p, (0 : Int) :: (ps.map kb).map fun s => (s.1.length : Int), rfl, ?_, by rw [List.length_cons]; omega, fun m hm hx => ?_⟩
        · refine SqL.of (upd_same.trans ?_)
          simp
        · rw [longM_is hm hx]
          exact k _ (s2.trans (same_upd hp))
theorem sc_Rule_put : FnScope ["self", "line", "pattern", "bit"] ["self", "line"] (fnScope s_Rule_put) := fnScope_by (by decide +kernel)
theorem met_put {f C : Addr} {fd : FuncData} (F : C8.Fun K "put" "Rule.put" s_Rule_put f fd) (me : Meth K C "put" f) (b : Binds K fd ["self", "line"] []) (T : Tx mg) (RT : RuT K C) : Met P w K mg base 1 C "put" (spPut C) [] := by
  refine met0 RT.cl me F b sc_Rule_put (fun vs H Q E h => ?_) (fun cdv A outer s H vs Q E hr h => ?_)
  · obtain ⟨_, _, _, _, rfl, _⟩ := h; rfl
  · obtain ⟨a, fl, ss, l, rfl, ⟨dx, t, ps, kb, ha, ht, hs, rfl⟩, k⟩ := h
    refine ⟨_, (pss_cons (ps_for PassesOwn.never rfl (pi_tup (pe_fld (pv 0) rfl)) (pg_tup rfl (pgs_cons (pg_name (i := 2) sc_Rule_put.nd rfl (.inl rfl)) (pgs_cons (pg_name (i := 3) sc_Rule_put.nd rfl (.inl rfl)) pgs_nil)))
    (pss_one (ps_if (pt_val (pe_m1 PySem.F.slot_str_endswith PySem.F.type_str_endswith mt_endswith (pv 1) (pv 2))) (pss_one (ps_ret (pv 3))) pss_nil)))
    (pss_one (ps_ret pe_non))), ?_⟩
    refine ⟨_, rfl, a, C, dx, _, _, rfl, ha, RT.cl, RT.nS, ruF_stuffs _ _, t, rfl, ⟨_, SqT.of ht⟩, ?_⟩
    refine for_it (walk_tup (xs := ps.map V.ref)) (fun i σ H2 => ∃ v2 v3 : Option V, σ = [some (.ref a), some (.str (W l)), v2, v3] ∧ H2 = H ∧ ∀ j q, j < i → ps[j]? = some q → (kb q).1.isSuffixOf l = false) ⟨none, none, rfl, rfl, fun j q hj => absurd hj (Nat.not_lt_zero _)⟩ (fun i σ H2 _ h2 => by obtain ⟨_, _, _, rfl, _⟩ := h2; exact SqT.of ht) ?_ ?_
    · rintro i x σ H2 H3 hi ⟨v2, v3, rfl, rfl, hno⟩ ⟨rfl, hx⟩
      rw [List.getElem?_map] at hx
      obtain ⟨q, hq, rfl⟩ := Option.map_eq_some_iff.mp hx
      have hqm : q ∈ ps := List.mem_of_getElem? hq
      refine ⟨q, _, rfl, SqT.of (hs q hqm), rfl, ?_⟩
      refine ⟨_, _, rfl, _, _, rfl, rfl, ?_⟩
      refine ⟨_, rfl, ⟨_, rfl⟩, _, rfl, _, _, rfl, rfl, _, rfl, ?_⟩
      rw [W_ends]
      cases e : (kb q).1.isSuffixOf l with
      | true =>
        refine ⟨_, rfl, ?_⟩
        have ep : putM (ps.map kb) l = some (kb q).2 := by
          have hf : (ps.map kb).find? (fun s => s.1.isSuffixOf l) = some (kb q) := by
            rw [List.find?_eq_some_iff_getElem]
            have hi' := (List.getElem?_eq_some_iff.mp hq)
            obtain ⟨hi1, hi2⟩ := hi'
            refine ⟨e, i, by rw [List.length_map]; exact hi1, by rw [List.getElem_map, hi2], fun j hj => ?_⟩
            rw [List.getElem_map]
            have := hno j ps[j] hj (List.getElem?_eq_getElem _)
            rw [this]
            rfl
          unfold putM
          rw [hf]
          rfl
        have := k _ (Same.refl _)
        rw [ep] at this
        exact this
      | false =>
        refine ⟨_, _, rfl, rfl, fun j q' hj hq' => ?_⟩
        by_cases ej : j = i
        · subst ej
          rw [hq] at hq'
          cases hq'
          exact e
        · exact hno j q' (by omega) hq'
    · rintro σ H2 ⟨v2, v3, rfl, rfl, hno⟩
      have ep : putM (ps.map kb) l = none := by
        have hf : (ps.map kb).find? (fun s => s.1.isSuffixOf l) = none := by
          rw [List.find?_eq_none]
          intro s hs'
          obtain ⟨q, hq, rfl⟩ := List.mem_map.mp hs'
          obtain ⟨j, hj⟩ := List.getElem?_of_mem hq
          have := hno j q (by rw [List.length_map]; exact (List.getElem?_eq_some_iff.mp hj).1) hj
          rw [this]
          decide
        unfold putM
        rw [hf]
        rfl
      have := k _ (Same.refl _)
      rw [ep] at this
      exact this
end
end U

set_option maxRecDepth 100000
set_option maxHeartbeats 4000000
namespace U
open PySem PySem.Spec PyProof.Rows
open L2 hiding Fun CX0 E0 pass0 Fun.binds
open C8 Lx SX StX
theorem sf_at {ps : List Addr} {kb : Addr → Stf} {i : Nat} {q : Addr} (h : SufFree (ps.map kb)) (hq : ps[i]? = some q) : ∀ q' ∈ ps.take i ++ ps.drop (i + 1), ¬ (kb q').1 <:+ (kb q).1 := by
  obtain ⟨hi, rfl⟩ := List.getElem?_eq_some_iff.mp hq
  have e : ps = ps.take i ++ ps[i] :: ps.drop (i + 1) := by rw [← List.drop_eq_getElem_cons hi, List.take_append_drop]
  unfold SufFree at h
  rw [List.pairwise_map] at h
  generalize ps.take i = A at e ⊢
  generalize ps.drop (i + 1) = B at e ⊢
  generalize ps[i] = q at e ⊢
  rw [e, List.pairwise_append, List.pairwise_cons] at h
  obtain ⟨_, ⟨h2, _⟩, h3⟩ := h
  intro q' hq'
  rcases List.mem_append.mp hq' with m | m
  · exact (h3 q' m q List.mem_cons_self).1
  · exact (h2 q' m).2
theorem cut_to {xs : List V} {i : Nat} (h : i < xs.length) : cutV xs none (some (i : Int)) = xs.take i := by
  unfold cutV
  rw [HT.sIx_none, HT.sIx_nat, List.drop_zero, Nat.sub_zero, Nat.min_eq_left (Nat.le_of_lt h)]
theorem cut_from {xs : List V} {i : Nat} (h : i < xs.length) : cutV xs (some ((i : Int) + 1)) none = xs.drop (i + 1) := by
  unfold cutV
  rw [HT.sIx_none, show ((i : Int) + 1) = ((i + 1 : Nat) : Int) by omega, HT.sIx_nat, Nat.min_eq_left (by omega), List.take_of_length_le (by rw [List.length_drop]; omega)]
/-- stuffs that make a rule -/
structure StOk (ss : List Stf) : Prop where
  few : ss.length ≤ 1000
  pos : ∀ s ∈ ss, s.1 ≠ []
  long : longM ss ≤ 9
  free : SufFree ss
theorem StOk.l9 {ss : List Stf} (h : StOk ss) : ∀ s ∈ ss, s.1.length ≤ 9 := fun s hs => Nat.le_trans (longM_le hs) h.long
theorem StOk.perm {ss ts : List Stf} (h : StOk ss) (p : ss.Perm ts) : StOk ts := ⟨by rw [← p.length_eq]; exact h.few, fun s hs => h.pos s (p.mem_iff.mpr hs), by rw [← longM_perm p]; exact h.long, h.free.perm p⟩
def spAre (K : PySem.W.Frag) : Sp := fun vs H Q _ => ∃ (a : Addr) (ps : List Addr) (kb : Addr → Stf), vs = [.ref a] ∧ Sq K H a (ps.map V.ref) ∧ StV H kb ps ∧ StOk (ps.map kb) ∧ ∀ H', Same H H' → Q (.bl true) H'
def spPutIn (C : Addr) : Sp := fun vs H Q _ => ∃ (a : Addr) (f : List Bool) (ss : List Stf) (l x : List Bool), vs = [.ref a, .str (W l)] ∧ RuAt C H a f ss ∧ ss.length ≤ 1000 ∧ longM ss ≤ 9 ∧ l.length ≤ 50000 ∧ Ins ss l x ∧ ∀ H', Same H H' → Q (.str (W x)) H'
def spEndless (C : Addr) : Sp := fun vs H Q _ => ∃ (a : Addr) (f : List Bool) (ss : List Stf), vs = [.ref a] ∧ RuAt C H a f ss ∧ ss.length ≤ 1000 ∧ longM ss ≤ 9 ∧ OkR ss ∧ ∀ H', Same H H' → Q (.bl false) H'
def kst (ws : List (List Bool)) : List (Key × V) := ws.map fun w => (Sum.inr (W w), V.bl true)
theorem val_in {ws : List (List Bool)} {w : List Bool} (h : w ∈ ws) : valV (kst ws) (Sum.inr (W w)) = some (.bl true) := by
  unfold valV kst
  induction ws with
  | nil => cases h
  | cons x r ih =>
    rw [List.map_cons, List.find?_cons]
    by_cases e : x = w
    · rw [e, decide_eq_true rfl]; rfl
    · rw [decide_eq_false (fun z => e (W_inj (Sum.inr.inj z)))]
      rcases List.mem_cons.mp h with z | h
      · exact absurd z.symm e
      · exact ih h
theorem val_out {ws : List (List Bool)} {w : List Bool} (h : ¬ w ∈ ws) : valV (kst ws) (Sum.inr (W w)) = none := by
  unfold valV kst
  have : (ws.map fun w => ((Sum.inr (W w) : Key), V.bl true)).find? (fun kv => decide (kv.1 = Sum.inr (W w))) = none := by
    rw [List.find?_eq_none]
    intro kv hk
    obtain ⟨x, hx, rfl⟩ := List.mem_map.mp hk
    rw [decide_eq_true_eq]
    intro z
    exact h (W_inj (Sum.inr.inj z) ▸ hx)
  rw [this]
  rfl
theorem put_out {ws : List (List Bool)} {w : List Bool} (h : ¬ w ∈ ws) : putK (kst ws) (Sum.inr (W w)) (.bl true) = kst (ws ++ [w]) := by
  have e : ((kst ws).any fun kv => decide (kv.1 = Sum.inr (W w))) = false := by
    rw [List.any_eq_false]
    intro kv hk
    unfold kst at hk
    obtain ⟨x, hx, rfl⟩ := List.mem_map.mp hk
    rw [decide_eq_true_eq]
    intro z
    exact h (W_inj (Sum.inr.inj z) ▸ hx)
  unfold putK
  rw [e]
  unfold kst
  rw [List.map_append]
  rfl
section
variable {P : Program} {w : World} {K : PySem.W.Frag} {mg : Str → Option Value} {base : Heap}
theorem sc_are_stuffs : FnScope ["value", "one", "at", "stuff", "rest", "pattern", "bit"] ["value"] (fnScope s_are_stuffs) := fnScope_by (by decide +kernel)
theorem cal_are_stuffs {f : Addr} {fd : FuncData} (F : Def K mg "are_stuffs" s_are_stuffs f fd) (b : Binds K fd ["value"] []) (T : Tx mg) (c_is_sequence : Cal P w K mg base 1 "is_sequence" (spIsSeq K) []) (c_is_stuff : Cal P w K mg base 3 "is_stuff" spIsStuff []) : Cal P w K mg base 4 "are_stuffs" (spAre K) [] := by
  refine cal0 F b .nil sc_are_stuffs (fun vs H Q E h => ?_) (fun cdv A outer s H vs Q E hr h => ?_)
  · obtain ⟨_, _, _, rfl, _⟩ := h; rfl
  · obtain ⟨a, ps, kb, rfl, hS, hs, ok, k⟩ := h
    refine ⟨_, (pss_cons (ps_if (PW.pt (pw_or (pt_not (pt_val (pe_c c_is_sequence hr (by decide) rfl (pa_cons (pv 0) pa_nil)))) (pw_or1 (pt_not (pt_val (pe_callB (cr_all rfl) (by rfl) T.b_all (by decide +kernel) (pa_cons (pe_lc (own := [("one", 1)]) (g := gName 1) (by rfl) sc_are_stuffs.nd (pi_seq (pv 0)) (blkOk_by (own := [("one", 1)]) (N := ["value", "one", "at", "stuff", "rest", "pattern", "bit"]) (sc := fnScope s_are_stuffs) (by decide +kernel)) (fun _ _ _ _ _ => (pg_name (i := 1) sc_are_stuffs.nd rfl (.inl rfl))) (fun _ _ _ _ _ => pts_nil) (fun _ _ _ _ _ => (pe_c c_is_stuff hr (by decide) rfl (pa_cons (pv 1) pa_nil)))) pa_nil))))))) (pss_one (ps_ret pe_bl)) pss_nil)
    (pss_cons (ps_for PassesOwn.never rfl (pi_enumQ (by rfl) T.b_enumerate (pa_cons (pv 0) pa_nil)) (pg_tup rfl (pgs_cons (pg_name (i := 2) sc_are_stuffs.nd rfl (.inl rfl)) (pgs_cons (pg_name (i := 3) sc_are_stuffs.nd rfl (.inr rfl)) pgs_nil)))
    (pss_cons (ps_set (i := 4) sc_are_stuffs.nd rfl (.inl rfl) (pe_lst (pa_star (pe_slice (SlR.or sl_list sl_tupA) (pv 0) po_none (po_some (pv 2))) (pa_star (pe_slice (SlR.or sl_list sl_tupA) (pv 0) (po_some (pe_op op_add (pv 2) pe_int)) po_none) pa_nil))))
    (pss_one (ps_if (pt_val (pe_callB (cr_any rfl) (by rfl) T.b_any (by decide +kernel) (pa_cons (pe_lc (own := [("pattern", 5), ("bit", 6)]) (g := gTup K 2 (gCons (gName 5) (gCons (gName 6) gNil))) (by rfl) sc_are_stuffs.nd (pi_list (pv 4)) (blkOk_by (own := [("pattern", 5), ("bit", 6)]) (N := ["value", "one", "at", "stuff", "rest", "pattern", "bit"]) (sc := fnScope s_are_stuffs) (by decide +kernel)) (fun _ _ _ _ _ => (pg_tup rfl (pgs_cons (pg_name (i := 5) sc_are_stuffs.nd rfl (.inl rfl)) (pgs_cons (pg_name (i := 6) sc_are_stuffs.nd rfl (.inl rfl)) pgs_nil)))) (fun _ _ _ _ _ => pts_nil) (fun _ _ _ _ _ => (pe_m1 PySem.F.slot_str_endswith PySem.F.type_str_endswith mt_endswith (pe_ix (show IxR _ (rIxT K) from ix_tup) (pv 3) pe_int (fun _ _ => rfl)) (pv 5)))) pa_nil))) (pss_one (ps_ret pe_bl)) pss_nil))))
    (pss_one (ps_ret pe_bl)))), ?_⟩
    have hn : ps.length ≤ 1000 := by have := ok.few; rw [List.length_map] at this; exact this
    refine ⟨_, rfl, a, _, rfl, hS, fun H1 s1 => ⟨_, rfl, ?_⟩⟩
    have hS1 := hS.same s1
    refine iSeq_var rfl hS1 fun J G hG wk D nD => ?_
    refine lc_it wk (fun i H2 => Same H1 H2 ∧ H2 D = some (.lst ((List.replicate i true).map V.bl))) ⟨same_upd nD, upd_same⟩ (fun i H2 _ h2 => hG _ h2.1) ?_ ?_
    · rintro i x H2 H3 hi ⟨s2, hD⟩ ⟨rfl, hx⟩
      rw [List.getElem?_map] at hx
      obtain ⟨q, hq, rfl⟩ := Option.map_eq_some_iff.mp hx
      have hqm : q ∈ ps := List.mem_of_getElem? hq
      have mk : kb q ∈ ps.map kb := List.mem_map_of_mem hqm
      rw [List.length_map] at hi
      refine ⟨rfl, ?_⟩
      refine ⟨_, rfl, q, (kb q).1, (kb q).2, rfl, (s1.trans s2) _ _ (hs q hqm), ok.pos _ mk, Nat.le_trans (ok.l9 _ mk) (by decide), fun H4 s4 => ⟨_, s4 _ _ hD, ?_, ?_, ?_⟩⟩
      · rw [List.length_map, List.length_replicate]; exact sl_lt (by omega)
      · intro c' o e
        rw [upd_ne (ne_of_none e nD)]
        exact (s2.trans s4) _ _ e
      · rw [upd_same, List.replicate_succ', List.map_append]; rfl
    · rintro H2 ⟨s2, hD⟩
      refine ⟨D, _, rfl, SqL.of hD, _, rfl, ?_⟩
      have et : (List.replicate (ps.map V.ref).length true).all id = true := by simp
      rw [et]
      have hS2 := hS1.same s2
      have s02 := s1.trans s2
      refine iEnumQ_var rfl hS2 fun J G hG wk => ?_
      refine for_it wk (fun i σ H3 => ∃ v1 v2 v3 v4 v5 v6 : Option V, σ = [some (.ref a), v1, v2, v3, v4, v5, v6] ∧ Same H2 H3) ⟨none, none, none, none, none, none, rfl, Same.refl _⟩ (fun i σ H3 _ h3 => by obtain ⟨_, _, _, _, _, _, _, s3⟩ := h3; exact hG _ s3) ?_ ?_
      · rintro i x σ H3 H4 hi ⟨v1, v2, v3, v4, v5, v6, rfl, s3⟩ ⟨T', y1, y2, rfl, nT, rfl, h1, h2⟩
        cases h1
        replace h2 : (ps.map V.ref)[i]? = some y2 := h2
        rw [List.getElem?_map] at h2
        obtain ⟨q, hq, rfl⟩ := Option.map_eq_some_iff.mp h2
        have hqm : q ∈ ps := List.mem_of_getElem? hq
        refine ⟨T', _, rfl, SqT.of upd_same, rfl, _, _, rfl, _, _, rfl, rfl, ?_⟩
        have s4 : Same H2 (upd H3 T' (.tup [.int (i : Nat), .ref q])) := s3.trans (same_upd nT)
        generalize upd H3 T' (.tup [.int (i : Nat), .ref q]) = H4 at s4
        have hS4 := hS2.same s4
        refine ⟨_, rfl, _, rfl, _, rfl, slQ_of hS4 fun p1 H5 s5 h5 => ⟨p1, _, rfl, h5.star, ?_⟩⟩
        refine ⟨_, rfl, _, rfl, _, _, rfl, rfl, _, rfl, slQ_of (hS4.same s5) fun p2 H6 s6 h6 => ⟨p2, _, rfl, h6.star, ?_⟩⟩
        have el : cutV (ps.map V.ref) none (some ((i : Nat) : Int)) ++ (cutV (ps.map V.ref) (some (((i : Nat) : Int) + 1)) none ++ []) = (ps.take i ++ ps.drop (i + 1)).map V.ref := by
          rw [cut_to hi, cut_from hi, List.append_nil, List.map_append, List.map_take, List.map_drop]
        refine ⟨?_, fun R nR => ?_⟩
        · show (cutV (ps.map V.ref) none (some ((i : Nat) : Int)) ++ (cutV (ps.map V.ref) (some (((i : Nat) : Int) + 1)) none ++ [])).length ≤ sizeLine
          rw [el, List.length_map, List.length_append, List.length_take, List.length_drop]
          exact sl_len (by omega)
        · have hR : upd H6 R (.lst (cutV (ps.map V.ref) none (some ((i : Nat) : Int)) ++ (cutV (ps.map V.ref) (some (((i : Nat) : Int) + 1)) none ++ []))) R = some (.lst ((ps.take i ++ ps.drop (i + 1)).map V.ref)) := by rw [upd_same, el]
          have s7 : Same H2 (upd H6 R (.lst (cutV (ps.map V.ref) none (some ((i : Nat) : Int)) ++ (cutV (ps.map V.ref) (some (((i : Nat) : Int) + 1)) none ++ [])))) := ((s4.trans s5).trans s6).trans (same_upd nR)
          show gName 4 _ _ (upd H6 R (.lst (cutV (ps.map V.ref) none (some ((i : Nat) : Int)) ++ (cutV (ps.map V.ref) (some (((i : Nat) : Int) + 1)) none ++ [])))) _
          generalize upd H6 R (.lst (cutV (ps.map V.ref) none (some ((i : Nat) : Int)) ++ (cutV (ps.map V.ref) (some (((i : Nat) : Int) + 1)) none ++ []))) = H7 at hR s7 ⊢
          refine ⟨_, rfl, R, rfl, ⟨_, SqL.of hR⟩, fun D2 nD2 => ?_⟩
          have ne := sf_at ok.free hq
          have hlen : (ps.take i ++ ps.drop (i + 1)).length ≤ 1000 := by
            rw [List.length_append, List.length_take, List.length_drop]; omega
          have hsub : ∀ q' ∈ ps.take i ++ ps.drop (i + 1), q' ∈ ps := fun q' hq' => by
            rcases List.mem_append.mp hq' with m | m
            · exact List.mem_of_mem_take m
            · exact List.mem_of_mem_drop m
          generalize ps.take i ++ ps.drop (i + 1) = rs at hR ne hlen hsub
          refine lc_it (walk_list (xs := rs.map V.ref)) (fun j H8 => Same H7 H8 ∧ H8 D2 = some (.lst ((List.replicate j false).map V.bl))) ⟨same_upd nD2, upd_same⟩ (fun j H8 _ h8 => h8.1.seq (SqL.of hR)) ?_ ?_
          · rintro j x H8 H9 hj ⟨s8, hD2⟩ ⟨rfl, hx⟩
            rw [List.getElem?_map] at hx
            obtain ⟨q', hq', rfl⟩ := Option.map_eq_some_iff.mp hx
            have hm' : q' ∈ rs := List.mem_of_getElem? hq'
            rw [List.length_map] at hj
            have s28 := s02.trans (s7.trans s8)
            refine ⟨q', _, rfl, SqT.of (s28 _ _ (hs q' (hsub _ hm'))), rfl, _, _, rfl, _, _, rfl, rfl, rfl, ?_⟩
            refine ⟨_, rfl, q, _, 0, _, rfl, rfl, SqT.of (s28 _ _ (hs q hqm)), rfl, ⟨_, rfl⟩, _, rfl, _, _, rfl, rfl, _, hD2, ?_, ?_, ?_⟩
            · rw [List.length_map, List.length_replicate]; exact sl_lt (by omega)
            · intro c' o e
              rw [upd_ne (ne_of_none e nD2)]
              exact s8 _ _ e
            · have ef : Txt.endswith (W (kb q).1) (W (kb q').1) = false := by
                rw [W_ends]
                cases e : (kb q').1.isSuffixOf (kb q).1 with
                | false => rfl
                | true => exact absurd (List.isSuffixOf_iff_suffix.mp e) (ne q' hm')
              rw [upd_same, ef, List.replicate_succ', List.map_append]
              rfl
          · rintro H8 ⟨s8, hD2⟩
            refine ⟨D2, _, rfl, SqL.of hD2, _, rfl, ?_⟩
            have et : (List.replicate (rs.map V.ref).length false).any id = false := by simp
            rw [et]
            exact ⟨_, _, _, _, _, _, rfl, s7.trans s8⟩
      · rintro σ H3 ⟨v1, v2, v3, v4, v5, v6, rfl, s3⟩
        exact k H3 (s02.trans s3)
end
end U

set_option maxRecDepth 100000
set_option maxHeartbeats 4000000
namespace U
open PySem PySem.Spec PyProof.Rows
open L2 hiding Fun CX0 E0 pass0 Fun.binds
open C8 Lx SX StX
theorem p10 {n : Nat} (h : n ≤ 9) : 2 ^ (n + 1) ≤ 1024 := Nat.le_trans (Nat.pow_le_pow_right (by decide) (show n + 1 ≤ 10 by omega)) (by decide)
section
variable {P : Program} {w : World} {K : PySem.W.Frag} {mg : Str → Option Value} {base : Heap}
theorem sc_Rule_put_in : FnScope ["self", "line", "found", "known", "bit", "standing"] ["self", "line"] (fnScope s_Rule_put_in) := fnScope_by (by decide +kernel)
theorem met_put_in {f C : Addr} {fd : FuncData} (F : C8.Fun K "put_in" "Rule.put_in" s_Rule_put_in f fd) (me : Meth K C "put_in" f) (b : Binds K fd ["self", "line"] []) (T : Tx mg) (RT : RuT K C)
    (c_put : Met P w K mg base 1 C "put" (spPut C) []) (p_longest : Prp P w K mg base 1 C "longest" (spLongest C)) (c_tail : Cal P w K mg base 1 "tail" spTail []) : Met P w K mg base 3 C "put_in" (spPutIn C) [] := by
  refine met0 RT.cl me F b sc_Rule_put_in (fun vs H Q E h => ?_) (fun cdv A outer s H vs Q E hr h => ?_)
  · obtain ⟨_, _, _, _, _, rfl, _⟩ := h; rfl
  · obtain ⟨a, fl, ss, l, x, rfl, hR, hn, h9, hl, hI, k⟩ := h
    refine ⟨_, (pss_cons (ps_par (i := 2) (j := 3) (by rfl) sc_Rule_put_in.nd rfl rfl (by decide) rfl rfl (pa_cons pe_str (pa_cons pe_dnewK pa_nil)) (by rfl))
    (pss_cons (ps_set (i := 4) sc_Rule_put_in.nd rfl (.inl rfl) (pe_mt (pl := _) c_put hr (by decide) (pv 0) (pa_cons (pv 1) pa_nil)))
    (pss_cons (ps_while PassesOwn.never (pt_cmpR op_notN (pv 4) pe_non (nomark _))
    (pss_cons (ps_set (i := 5) sc_Rule_put_in.nd rfl (.inl rfl) (pe_c c_tail hr (by decide) rfl (pa_cons (pe_op op_add_str (pv 1) (pv 2)) (pa_cons (pe_pr p_longest hr (by decide) (pv 0)) pa_nil))))
    (pss_cons (ps_if (pt_cmp (pc_din (hu_of hr) (pv 5) (pv 3))) (pss_one (ps_ret pe_non)) pss_nil)
    (pss_cons (ps_dput (hu_of hr) (pv 3) (pv 5) pe_bl rfl)
    (pss_cons (ps_aug (i := 2) sc_Rule_put_in.nd rfl (.inl rfl) (pv 4) iop_add_str)
    (pss_one (ps_set (i := 4) sc_Rule_put_in.nd rfl (.inl rfl) (pe_mt (pl := _) c_put hr (by decide) (pv 0) (pa_cons (pe_op op_add_str (pv 1) (pv 2)) pa_nil)))))))))
    (pss_one (ps_ret (pv 2)))))), ?_⟩
    have hL : ∀ s ∈ ss, s.1.length ≤ longM ss := fun s hs => longM_le hs
    have hx : x.length ≤ 1024 := by have := hI.len hL; have := p10 h9; omega
    have hat : ∀ {H2 : Hp}, Same H H2 → ∃ dx t, H2 a = some (.ins C dx (ruF fl t)) := fun s2 => by
      obtain ⟨dx, t, _, _, ha, _⟩ := hR.same s2
      exact ⟨dx, t, ha⟩
    refine fun D nD => ⟨_, _, rfl, ?_⟩
    have s1 : Same H (upd H D (.dK [])) := same_upd nD
    have hD1 : upd H D (.dK []) D = some (.dK []) := upd_same
    generalize upd H D (.dK []) = H1 at s1 hD1
    obtain ⟨dx, t, ha⟩ := hat s1
    refine ⟨_, rfl, a, dx, _, rfl, ha, ruF_no _ _ (by decide +kernel) (by decide +kernel), _, rfl, a, fl, ss, l, rfl, hR.same s1, fun H2 s2 => ?_⟩
    refine ⟨fun m σ H3 => ∃ (j : Nat) (v5 : Option V), j + m = x.length ∧ σ = [some (.ref a), some (.str (W l)), some (.str (W (x.take j))), some (.ref D), some (oB (putM ss (l ++ x.take j))), v5] ∧ Same H H3 ∧ H3 D = some (.dK (kst ((List.range j).map fun i => tl (longM ss) (l ++ x.take i)))),
      ⟨x.length, 0, none, by omega, by rw [List.take_zero, List.append_nil, ← W_nil]; rfl, s1.trans s2, s2 _ _ hD1⟩, ?_⟩
    rintro m σ H3 ⟨j, v5, hj, rfl, s3, hD3⟩
    refine ⟨_, rfl, rfl, _, rfl, ?_⟩
    rw [oB_non]
    by_cases hlt : j < x.length
    · have hb : x[j]? = some x[j] := List.getElem?_eq_getElem hlt
      have hput := hI.at hb
      rw [hput]
      have lx : (x.take j).length ≤ 1024 := by rw [List.length_take]; omega
      have e1 : (W l).length = l.length := W_len l
      have e2 : (W (x.take j)).length = (x.take j).length := W_len _
      refine ⟨fun σ' H' => ∃ m', m' < m ∧ ∃ (j : Nat) (v5 : Option V), j + m' = x.length ∧ σ' = [some (.ref a), some (.str (W l)), some (.str (W (x.take j))), some (.ref D), some (oB (putM ss (l ++ x.take j))), v5] ∧ Same H H' ∧ H' D = some (.dK (kst ((List.range j).map fun i => tl (longM ss) (l ++ x.take i)))), fun _ _ h => h, ?_⟩
      obtain ⟨dx3, t3, ha3⟩ := hat s3
      refine ⟨_, rfl, _, rfl, _, _, rfl, rfl, by rw [e1, e2]; exact sl_len (by omega), _, rfl, a, dx3, _, rfl, ha3, a, fl, ss, rfl, hR.same s3, hn, fun s hs => Nat.le_trans (longM_le hs) (by omega), fun H4 s4 => ?_⟩
      refine ⟨l ++ x.take j, longM ss, by rw [← W_cat]; rfl, by rw [List.length_append]; omega, ?_⟩
      have hD4 := s4 _ _ hD3
      have nin : ¬ tl (longM ss) (l ++ x.take j) ∈ (List.range j).map fun i => tl (longM ss) (l ++ x.take i) := fun hm => by
        obtain ⟨i, hi, e⟩ := List.mem_map.mp hm
        have hi' := List.mem_range.mp hi
        have := hI.apart hL (Nat.le_of_lt (Nat.lt_trans hi' hlt)) (Nat.le_of_lt hlt) e
        omega
      refine ⟨_, rfl, _, rfl, D, _, rfl, DGet.k (k := .inr (W (tl (longM ss) (l ++ x.take j)))) hD4, _, rfl, iteBF (by rw [val_out nin]; rfl) ?_⟩
      refine ⟨_, rfl, _, rfl, D, _, rfl, DPut.k (k := .inr (W (tl (longM ss) (l ++ x.take j)))) hD4 (by unfold kst; rw [List.length_map, List.length_map, List.length_range]; exact sl_lt (by omega)), ?_⟩
      rw [put_out nin]
      have et : x.take (j + 1) = x.take j ++ [x[j]] := by rw [List.take_add_one, hb]; rfl
      have ek : ((List.range j).map fun i => tl (longM ss) (l ++ x.take i)) ++ [tl (longM ss) (l ++ x.take j)] = (List.range (j + 1)).map fun i => tl (longM ss) (l ++ x.take i) := by
        rw [List.range_succ, List.map_append]; rfl
      rw [ek]
      have s5 : Same H (upd H4 D (.dK (kst ((List.range (j + 1)).map fun i => tl (longM ss) (l ++ x.take i))))) := fun c o e => by
        rw [upd_ne (ne_of_none e nD)]
        exact (s3.trans s4) _ _ e
      have hD5 : upd H4 D (.dK (kst ((List.range (j + 1)).map fun i => tl (longM ss) (l ++ x.take i)))) D = some (.dK (kst ((List.range (j + 1)).map fun i => tl (longM ss) (l ++ x.take i)))) := upd_same
      generalize upd H4 D (.dK (kst ((List.range (j + 1)).map fun i => tl (longM ss) (l ++ x.take i)))) = H5 at s5 hD5
      have e3 : (W [x[j]]).length = 1 := W_len _
      refine ⟨_, rfl, _, rfl, _, _, rfl, rfl, by rw [e2, e3]; exact sl_len (by omega), ?_⟩
      rw [W_cat, ← et]
      have e4 : (W (x.take (j + 1))).length = (x.take (j + 1)).length := W_len _
      obtain ⟨dx5, t5, ha5⟩ := hat s5
      refine ⟨_, rfl, a, dx5, _, rfl, ha5, ruF_no _ _ (by decide +kernel) (by decide +kernel), _, rfl, _, rfl, _, _, rfl, rfl, by rw [e1, e4, et, List.length_append]; exact sl_len (by simp only [List.length_cons, List.length_nil]; omega), ?_⟩
      refine ⟨a, fl, ss, l ++ x.take (j + 1), by rw [← W_cat]; rfl, hR.same s5, fun H6 s6 => ?_⟩
      exact ⟨m - 1, by omega, j + 1, _, by omega, rfl, s5.trans s6, s6 _ _ hD5⟩
    · have hj' : j = x.length := by omega
      subst hj'
      rw [List.take_length, hI.end]
      exact ⟨_, rfl, k H3 s3⟩
end
end U

set_option maxRecDepth 100000
set_option maxHeartbeats 4000000
namespace U
open PySem PySem.Spec PyProof.Rows
open L2 hiding Fun CX0 E0 pass0 Fun.binds
open C8 Lx SX StX
/-- the standings that wait, and are known -/
structure Bfs (ss : List Stf) (H H2 : Hp) (q d : Addr) (ws : List (List Bool)) : Prop where
  same : Same H H2
  wait : H2 q = some (.lst (ws.map fun w => V.str (W w)))
  known : H2 d = some (.dK (kst ws))
  nodup : ws.Nodup
  short : ∀ w ∈ ws, w.length ≤ longM ss
  reach : ∀ w ∈ ws, ∃ l, Reach ss l ∧ tl (longM ss) l = w
theorem Bfs.on {ss : List Stf} {H H2 H3 : Hp} {q d : Addr} {ws : List (List Bool)} (b : Bfs ss H H2 q d ws) (s : Same H2 H3) : Bfs ss H H3 q d ws :=
  ⟨b.same.trans s, s _ _ b.wait, s _ _ b.known, b.nodup, b.short, b.reach⟩
theorem Bfs.few {ss : List Stf} {H H2 : Hp} {q d : Addr} {ws : List (List Bool)} (b : Bfs ss H H2 q d ws) : ws.length + 1 ≤ 2 ^ (longM ss + 1) := words_le b.nodup b.short
def key (s : Stf) : Str × Str := (W s.1, W [s.2])
def SortedS (ss : List Stf) : Prop := SrtO.Srtd (fun x y => SrT.lexT (key x) (key y)) ss
def spRuInit (K : PySem.W.Frag) (C : Addr) : Sp := fun vs H Q _ => ∃ (a dx s : Addr) (f : List Bool) (ps : List Addr) (kb : Addr → Stf), vs = [.ref a, .str (W f), .ref s] ∧ H a = some (.ins C dx []) ∧ Sq K H s (ps.map V.ref) ∧ StV H kb ps ∧ StOk (ps.map kb) ∧ OkR (ps.map kb) ∧ 2 ≤ f.length ∧ f.length ≤ 1000 ∧
  ∀ H' ss, (∀ b o, H b = some o → b ≠ a → H' b = some o) → ss.Perm (ps.map kb) → SortedS ss → RuAt C H' a f ss → Q .non H'
theorem pwS {qs : List Addr} {kb : Addr → Stf} (h : SrtO.Srtd (fun x y => SrT.lexT (key (kb x)) (key (kb y))) qs) : SortedS (qs.map kb) := List.pairwise_map.mpr h
section
variable {P : Program} {w : World} {K : PySem.W.Frag} {mg : Str → Option Value} {base : Heap}
theorem sc_Rule_is_endless : FnScope ["self", "waiting", "known", "at", "bit", "line", "more", "standing"] ["self"] (fnScope s_Rule_is_endless) := fnScope_by (by decide +kernel)
theorem met_is_endless {f C : Addr} {fd : FuncData} {tB : Tok} (F : C8.Fun K "is_endless" "Rule.is_endless" s_Rule_is_endless f fd) (me : Meth K C "is_endless" f) (b : Binds K fd ["self"] []) (T : Tx mg) (RT : RuT K C) (g_BITS : mg "BITS" = some (.str "01" tB))
    (c_put_in : Met P w K mg base 3 C "put_in" (spPutIn C) []) (p_longest : Prp P w K mg base 1 C "longest" (spLongest C)) (c_tail : Cal P w K mg base 1 "tail" spTail []) : Met P w K mg base 4 C "is_endless" (spEndless C) [] := by
  refine met0 RT.cl me F b sc_Rule_is_endless (fun vs H Q E h => ?_) (fun cdv A outer s H vs Q E hr h => ?_)
  · obtain ⟨_, _, _, rfl, _⟩ := h; rfl
  · obtain ⟨a, fl, ss, rfl, hR, hn, h9, hO, k⟩ := h
    refine ⟨_, (pss_cons (ps_par3 (i := 1) (j := 2) (l := 3) (by rfl) sc_Rule_is_endless.nd rfl rfl rfl (by decide) (by decide) (by decide) rfl rfl rfl (pa_cons (pe_lst (pa_cons pe_str pa_nil)) (pa_cons (pe_disp (pps_cons pe_str pe_bl pps_nil) (by rfl) (by rfl) (fun z => by cases z) (by decide)) (pa_cons pe_int pa_nil))) (by rfl))
    (pss_cons (ps_while PassesOwn.never (pt_cmpR op_lt (pv 3) (pe_callB call_len_seq (by rfl) T.b_len (by decide +kernel) (pa_cons (pv 1) pa_nil)) (nomark _))
    (pss_cons (ps_for PassesOwn.never rfl (pi_str (pe_glob (v := .str "01") (by rfl) g_BITS ⟨_, rfl⟩)) (pg_name (i := 4) sc_Rule_is_endless.nd rfl (.inl rfl))
    (pss_cons (ps_set (i := 5) sc_Rule_is_endless.nd rfl (.inl rfl) (pe_op op_add_str (pe_ix ix_list (pv 1) (pv 3) (fun _ _ => rfl)) (pv 4)))
    (pss_cons (ps_set (i := 6) sc_Rule_is_endless.nd rfl (.inl rfl) (pe_mt (pl := _) c_put_in hr (by decide) (pv 0) (pa_cons (pv 5) pa_nil)))
    (pss_cons (ps_if (pt_cmpR op_isN (pv 6) pe_non (nomark _)) (pss_one (ps_ret pe_bl)) pss_nil)
    (pss_cons (ps_set (i := 7) sc_Rule_is_endless.nd rfl (.inl rfl) (pe_c c_tail hr (by decide) rfl (pa_cons (pe_op op_add_str (pv 5) (pv 6)) (pa_cons (pe_pr p_longest hr (by decide) (pv 0)) pa_nil))))
    (pss_one (ps_if (pt_cmp (pc_dnotin (hu_of hr) (pv 7) (pv 2))) (pss_cons (ps_dput (hu_of hr) (pv 2) (pv 7) pe_bl rfl)
    (pss_one (ps_expr (pe_bm PySem.F.plainAttrs_list PySem.F.slot_list_append PySem.F.type_list_append mt_append (pv 1) (pa_cons (pv 7) pa_nil))))) pss_nil)))))))
    (pss_one (ps_aug (i := 3) sc_Rule_is_endless.nd rfl (.inl rfl) pe_int ip_add))))
    (pss_one (ps_ret pe_bl)))), ?_⟩
    have hL : ∀ s ∈ ss, s.1.length ≤ longM ss := fun s hs => longM_le hs
    have hpw := p10 h9
    have hat : ∀ {H2 : Hp}, Same H H2 → ∃ dx t, H2 a = some (.ins C dx (ruF fl t)) := fun s2 => by
      obtain ⟨dx, t, _, _, ha, _⟩ := hR.same s2
      exact ⟨dx, t, ha⟩
    refine ⟨by show 1 ≤ sizeLine; decide, fun q nq d nd => ⟨upd_same, [(.inr "", .bl true)], rfl, by decide, _, _, _, rfl, ?_⟩⟩
    have nqd : q ≠ d := fun z => by rw [← z, upd_same] at nd; cases nd
    have b0 : Bfs ss H (upd (upd (upd H q (.lst [.str ""])) d (.dK [])) d (.dK (mergeK [] [(.inr "", .bl true)]))) q d [[]] := by
      refine ⟨fun c o e => ?_, ?_, ?_, ?_, ?_, ?_⟩
      · have n1 := ne_of_none e nq
        have n2 : c ≠ d := fun z => by rw [z] at e n1; rw [upd_ne n1, e] at nd; cases nd
        rw [upd_ne n2, upd_ne n2, upd_ne n1]
        exact e
      · rw [upd_ne nqd, upd_ne nqd, upd_same, W_nil]; rfl
      · rw [upd_same, W_nil]; rfl
      · simp
      · intro w hw; rw [List.mem_singleton.mp hw]; exact Nat.zero_le _
      · intro w hw; rw [List.mem_singleton.mp hw]; exact ⟨[], .nil, by unfold tl; rw [List.drop_nil]⟩
    have nq0 : H q = none := nq
    have nd0 : H d = none := by
      cases e : H d with
      | none => rfl
      | some o => rw [upd_ne (Ne.symm nqd), e] at nd; cases nd
    generalize upd (upd (upd H q (.lst [.str ""])) d (.dK [])) d (.dK (mergeK [] [(.inr "", .bl true)])) = H1 at b0
    refine ⟨fun m σ H2 => ∃ (n : Nat) (ws : List (List Bool)) (v4 v5 v6 v7 : Option V), σ = [some (.ref a), some (.ref q), some (.ref d), some (.int n), v4, v5, v6, v7] ∧ Bfs ss H H2 q d ws ∧ n ≤ ws.length ∧ m + n = 2 ^ (longM ss + 1),
      ⟨2 ^ (longM ss + 1), 0, [[]], none, none, none, none, rfl, b0, Nat.zero_le _, by omega⟩, ?_⟩
    rintro m σ H2 ⟨n, ws, v4, v5, v6, v7, rfl, B2, hn2, hm⟩
    have few2 := B2.few
    refine ⟨_, rfl, _, rfl, q, _, rfl, .inl (SqL.of B2.wait), _, _, rfl, rfl, _, rfl, ?_⟩
    rw [List.length_map]
    by_cases hlt : n < ws.length
    · refine iteDT (by omega) ?_
      refine ⟨fun σ' H' => ∃ m', m' < m ∧ ∃ (n : Nat) (ws : List (List Bool)) (v4 v5 v6 v7 : Option V), σ' = [some (.ref a), some (.ref q), some (.ref d), some (.int n), v4, v5, v6, v7] ∧ Bfs ss H H' q d ws ∧ n ≤ ws.length ∧ m' + n = 2 ^ (longM ss + 1), fun _ _ h => h, ?_⟩
      refine ⟨_, rfl, for_it walk_str (fun i σ H3 => ∃ (ws : List (List Bool)) (v4 v5 v6 v7 : Option V), σ = [some (.ref a), some (.ref q), some (.ref d), some (.int n), v4, v5, v6, v7] ∧ Bfs ss H H3 q d ws ∧ n < ws.length) ⟨ws, _, _, _, _, rfl, B2, hlt⟩ (fun _ _ _ _ _ => trivial) ?_ ?_⟩
      · rintro i x σ H3 H3' hi ⟨ws, v4, v5, v6, v7, rfl, B3, hlt3⟩ ⟨rfl, c, hc, rfl⟩
        have e01 : ("01" : Str) = W [false, true] := by decide +kernel
        rw [e01] at hc
        obtain ⟨bb, _, rfl⟩ := W_get hc
        have hw : (ws.map fun w => V.str (W w))[n]? = some (.str (W ws[n])) := by rw [List.getElem?_map, List.getElem?_eq_getElem hlt3]; rfl
        have hmem : ws[n] ∈ ws := List.getElem_mem hlt3
        generalize ws[n] = w0 at hw hmem
        have hs0 := B3.short _ hmem
        have few3 := B3.few
        obtain ⟨l0, hr0, rfl⟩ := B3.reach _ hmem
        obtain ⟨y, hy⟩ := hO l0 hr0 bb
        have ht0 : tl (longM ss) l0 = tl (longM ss) (tl (longM ss) l0) := (tl_tl (Nat.le_refl _) _).symm
        have hy' := hy.tl hL (tl_snoc (b := bb) ht0)
        have hyl := hy.len hL
        have hnx : tl (longM ss) (l0 ++ [bb] ++ y) = tl (longM ss) (tl (longM ss) l0 ++ [bb] ++ y) := tl_app (tl_snoc (b := bb) ht0) y
        have hrn : Reach ss (l0 ++ [bb] ++ y) := .next hr0 hy
        generalize tl (longM ss) l0 = w0 at *
        have ew : W w0 ++ (⟨#[bt bb]⟩ : Str) = W (w0 ++ [bb]) := W_cat w0 [bb]
        have el : (W w0).length + (⟨#[bt bb]⟩ : Str).length ≤ sizeLine := by
          have e1 : (W w0).length = w0.length := W_len _
          have e2 : (⟨#[bt bb]⟩ : Str).length = 1 := W_len [bb]
          rw [e1, e2]; exact sl_len (by omega)
        refine ⟨_, rfl, _, rfl, q, _, _, _, rfl, rfl, SqL.of B3.wait, atI_nat hw, _, rfl, _, _, rfl, rfl, el, ?_⟩
        rw [ew]
        obtain ⟨dx3, t3, ha3⟩ := hat B3.same
        have hl1 : (w0 ++ [bb]).length ≤ 10 := by rw [List.length_append, List.length_cons, List.length_nil]; omega
        refine ⟨_, rfl, a, dx3, _, rfl, ha3, ruF_no _ _ (by decide +kernel) (by decide +kernel), _, rfl, a, fl, ss, w0 ++ [bb], y, rfl, hR.same B3.same, hn, h9, by omega, hy', fun H4 s4 => ?_⟩
        have B4 := B3.on s4
        refine ⟨_, rfl, rfl, _, rfl, iteDF (fun z => by cases z) ?_⟩
        obtain ⟨dx4, t4, ha4⟩ := hat B4.same
        have e3 : (W (w0 ++ [bb])).length = (w0 ++ [bb]).length := W_len _
        have e4 : (W y).length = y.length := W_len _
        refine ⟨_, rfl, _, rfl, _, _, rfl, rfl, by rw [e3, e4]; exact sl_len (by omega), _, rfl, a, dx4, _, rfl, ha4, a, fl, ss, rfl, hR.same B4.same, hn, fun s hs => Nat.le_trans (longM_le hs) (by omega), fun H5 s5 => ?_⟩
        have B5 := B4.on s5
        refine ⟨w0 ++ [bb] ++ y, longM ss, by rw [← W_cat (w0 ++ [bb]) y]; rfl, by rw [List.length_append]; omega, ?_⟩
        refine ⟨_, rfl, _, rfl, d, _, rfl, DGet.k (k := .inr (W (tl (longM ss) (w0 ++ [bb] ++ y)))) B5.known, _, rfl, ?_⟩
        by_cases hin : tl (longM ss) (w0 ++ [bb] ++ y) ∈ ws
        · refine iteBF (by rw [val_in hin]; rfl) ?_
          exact ⟨ws, _, _, _, _, rfl, B5, hlt3⟩
        · refine iteBT (by rw [val_out hin]; rfl) ?_
          refine ⟨_, rfl, _, rfl, d, _, rfl, DPut.k (k := .inr (W (tl (longM ss) (w0 ++ [bb] ++ y)))) B5.known (by unfold kst; rw [List.length_map]; exact sl_lt (by omega)), ?_⟩
          rw [put_out hin]
          have hW6 : upd H5 d (.dK (kst (ws ++ [tl (longM ss) (w0 ++ [bb] ++ y)]))) q = some (.lst (ws.map fun w => V.str (W w))) := by rw [upd_ne nqd]; exact B5.wait
          refine ⟨_, rfl, .inl ⟨rfl, _, SqL.of hW6⟩, _, rfl, q, _, _, rfl, rfl, hW6, by rw [List.length_map]; exact sl_lt (by omega), ?_⟩
          refine ⟨ws ++ [tl (longM ss) (w0 ++ [bb] ++ y)], _, _, _, _, rfl, ⟨fun c o e => ?_, ?_, ?_, ?_, ?_, ?_⟩, ?_⟩
          · rw [upd_ne (ne_of_none e nq0), upd_ne (ne_of_none e nd0)]
            exact B5.same _ _ e
          · rw [upd_same, List.map_append]; rfl
          · rw [upd_ne (Ne.symm nqd), upd_same]
          · rw [List.nodup_append]
            refine ⟨B5.nodup, by simp, fun u hu v hv e => ?_⟩
            rw [List.mem_singleton.mp hv] at e
            exact hin (e ▸ hu)
          · intro u hu
            rcases List.mem_append.mp hu with m | m
            · exact B5.short _ m
            · rw [List.mem_singleton.mp m]; exact tl_le _ _
          · intro u hu
            rcases List.mem_append.mp hu with m | m
            · exact B5.reach _ m
            · rw [List.mem_singleton.mp m]; exact ⟨_, hrn, hnx⟩
          · rw [List.length_append]; omega
      · rintro σ H3 ⟨ws, v4, v5, v6, v7, rfl, B3, hlt3⟩
        refine ⟨_, rfl, _, _, rfl, rfl, ?_⟩
        refine ⟨m - 1, by omega, n + 1, ws, _, _, _, _, rfl, B3, hlt3, by omega⟩
    · refine iteDF (by omega) ?_
      exact k H2 B2.same
theorem sc_Rule_init : FnScope ["self", "flag", "stuffs"] ["self", "flag", "stuffs"] (fnScope s_Rule_init) := fnScope_by (by decide +kernel)
theorem ok_Rule_init {f C : Addr} {fd : FuncData} (F : C8.Fun K "__init__" "Rule.__init__" s_Rule_init f fd) (T : Tx mg) (RT : RuT K C) (c_is_word : Cal P w K mg base 1 "is_word" (spIsWord K) []) (c_are_stuffs : Cal P w K mg base 4 "are_stuffs" (spAre K) []) (c_is_endless : Met P w K mg base 4 C "is_endless" (spEndless C) []) :
    FnOk P w K mg base CX0 5 f fd ["self", "flag", "stuffs"] (spRuInit K C) := by
  refine fn0 F sc_Rule_init (fun vs H Q E h => ?_) (fun cdv A outer s H vs Q E hr h => ?_)
  · obtain ⟨_, _, _, _, _, _, rfl, _⟩ := h; rfl
  · obtain ⟨a, dx, sq, fl, ps, kb, rfl, ha, hS, hs, ok, hO, h2, hl, k⟩ := h
    refine ⟨_, (pss_cons (ps_if (PW.pt (pw_or (pt_not (pt_val (pe_c c_is_word hr (by decide) rfl (pa_cons (pv 1) pa_nil)))) (pw_or1 (pt_cmpR op_lt (pe_callB call_len_str (by rfl) T.b_len (by decide +kernel) (pa_cons (pv 1) pa_nil)) pe_int (nomark _))))) (pss_one ps_never) pss_nil)
    (pss_cons (ps_if (pt_not (pt_val (pe_c c_are_stuffs hr (by decide) rfl (pa_cons (pv 2) pa_nil)))) (pss_one ps_never) pss_nil)
    (pss_cons (ps_fld (pv 0) (pv 1) rfl)
    (pss_cons (ps_fld (pv 0) (pe_callTy call_tuple_of (by rfl) T.b_tuple (by decide +kernel) (pa_cons (pe_callB cr_sortedT (by rfl) T.b_sorted (by decide +kernel) (pa_cons (pv 2) pa_nil)) pa_nil)) rfl)
    (pss_one (ps_if (pt_val (pe_mt0 (pl := _) c_is_endless hr (by decide) (pv 0))) (pss_one ps_never) pss_nil)))))), ?_⟩
    have lf : (W fl).length = fl.length := W_len fl
    refine ⟨_, rfl, _, rfl, .inl ⟨_, rfl, by rw [lf]; omega, fun H1 s1 => ⟨_, rfl, iteBF (by rw [isW_W]; rfl) ?_⟩⟩⟩
    refine ⟨_, rfl, _, rfl, by rw [lf]; exact sl_len (by omega), _, _, rfl, rfl, _, rfl, iteDF (by rw [lf]; omega) ?_⟩
    refine ⟨_, rfl, sq, ps, kb, rfl, hS.same s1, hs.same s1, ok, fun H2 s2 => ⟨_, rfl, ?_⟩⟩
    have s02 := s1.trans s2
    have ha2 := s02 _ _ ha
    refine ⟨_, rfl, _, rfl, a, C, dx, _, rfl, ha2, RT.cl, RT.nF, by decide, ?_⟩
    have keep3 : ∀ c o, H c = some o → c ≠ a → upd H2 a (.ins C dx (putF "flag" (.str (W fl)) [])) c = some o := fun c o e n => by rw [upd_ne n]; exact s02 _ _ e
    have ha3 : upd H2 a (.ins C dx (putF "flag" (.str (W fl)) [])) a = some (.ins C dx (putF "flag" (.str (W fl)) [])) := upd_same
    have hs3 : StV (upd H2 a (.ins C dx (putF "flag" (.str (W fl)) []))) kb ps := fun t ht => keep3 _ _ (hs t ht) (ne_of (hs t ht) ha (by intro z; cases z))
    have hS3 : SqL K (upd H2 a (.ins C dx (putF "flag" (.str (W fl)) []))) sq (ps.map V.ref) ∨ SqT K (upd H2 a (.ins C dx (putF "flag" (.str (W fl)) []))) sq (ps.map V.ref) := by
      rcases hS with ((h | ⟨o, h⟩) | h) | ((h | ⟨o, h⟩) | h)
      · exact .inl (.inl (.inl (keep3 _ _ h (ne_of h ha (by intro z; cases z)))))
      · exact .inl (.inl (.inr ⟨o, keep3 _ _ h (ne_of h ha (by intro z; cases z))⟩))
      · exact .inl (.inr h)
      · exact .inr (.inl (.inl (keep3 _ _ h (ne_of h ha (by intro z; cases z)))))
      · exact .inr (.inl (.inr ⟨o, keep3 _ _ h (ne_of h ha (by intro z; cases z))⟩))
      · exact .inr (.inr h)
    generalize upd H2 a (.ins C dx (putF "flag" (.str (W fl)) [])) = H3 at keep3 ha3 hs3 hS3
    refine ⟨_, rfl, sq, ps, fun t => key (kb t), rfl, hS3, fun t ht => hs3 t ht, fun qs p1 srt prm n1 => ?_⟩
    refine ⟨p1, _, rfl, .inl ⟨SqL.of upd_same, fun p2 n2 => ?_⟩⟩
    have s5 : Same H3 (upd (upd H3 p1 (.lst (qs.map V.ref))) p2 (.tup (qs.map V.ref))) := (same_upd n1).trans (same_upd n2)
    have hT5 : upd (upd H3 p1 (.lst (qs.map V.ref))) p2 (.tup (qs.map V.ref)) p2 = some (.tup (qs.map V.ref)) := upd_same
    generalize upd (upd H3 p1 (.lst (qs.map V.ref))) p2 (.tup (qs.map V.ref)) = H5 at s5 hT5
    have ha5 := s5 _ _ ha3
    refine ⟨_, rfl, a, C, dx, _, rfl, ha5, RT.cl, RT.nS, by show 1 < 1000; decide, ?_⟩
    have na2 : p2 ≠ a := ne_of hT5 ha5 (by intro z; cases z)
    have keep6 : ∀ c o, H3 c = some o → c ≠ a → upd H5 a (.ins C dx (putF "stuffs" (.ref p2) (putF "flag" (.str (W fl)) []))) c = some o := fun c o e n => by rw [upd_ne n]; exact s5 _ _ e
    have ha6 : upd H5 a (.ins C dx (putF "stuffs" (.ref p2) (putF "flag" (.str (W fl)) []))) a = some (.ins C dx (ruF fl p2)) := upd_same
    have hT6 : upd H5 a (.ins C dx (putF "stuffs" (.ref p2) (putF "flag" (.str (W fl)) []))) p2 = some (.tup (qs.map V.ref)) := by rw [upd_ne na2]; exact hT5
    generalize upd H5 a (.ins C dx (putF "stuffs" (.ref p2) (putF "flag" (.str (W fl)) []))) = H6 at keep6 ha6 hT6
    have hs6 : StV H6 kb qs := StV.perm (fun t ht => keep6 _ _ (hs3 t ht) (ne_of (hs3 t ht) ha3 (by intro z; cases z))) prm
    have pm : (qs.map kb).Perm (ps.map kb) := prm.map kb
    have hR6 : RuAt C H6 a fl (qs.map kb) := ⟨dx, p2, qs, kb, ha6, hT6, hs6, rfl⟩
    have ok6 := ok.perm pm.symm
    refine ⟨_, rfl, a, dx, _, rfl, ha6, ruF_no _ _ (by decide +kernel) (by decide +kernel), a, fl, qs.map kb, rfl, hR6, ok6.few, ok6.long, hO.congr fun l => put_perm ok.free pm.symm l, fun H7 s7 => ⟨_, rfl, ?_⟩⟩
    exact k H7 (qs.map kb) (fun c o e n => s7 _ _ (keep6 _ _ (keep3 _ _ e n) n)) pm (pwS srt) (hR6.same s7)
end
end U

set_option maxRecDepth 100000
set_option maxHeartbeats 4000000
/-! rules that may be without end -/
namespace U
open PySem PySem.Spec PyProof.Rows
open L2 hiding Fun CX0 E0 pass0 Fun.binds
open C8 Lx SX StX
/-- bits that are put in one behind another -/
inductive PutX (ss : List Stf) (l : List Bool) : List Bool → Prop
  | nil : PutX ss l []
  | snoc {y : List Bool} {b : Bool} : PutX ss l y → putM ss (l ++ y) = some b → PutX ss l (y ++ [b])
theorem PutX.ins {ss : List Stf} {l y : List Bool} (h : PutX ss l y) : ∀ {x}, Ins ss (l ++ y) x → Ins ss l (y ++ x) := by
  induction h with
  | nil => intro x hx; rw [List.append_nil] at hx; exact hx
  | @snoc y b hp hb ih =>
    intro x hx
    rw [← List.append_assoc] at hx
    have := ih (.more hb hx)
    rw [List.append_assoc]
    exact this
theorem PutX.pre {ss : List Stf} {l y : List Bool} (h : PutX ss l y) : ∀ {x}, Ins ss l x → ∃ z, x = y ++ z ∧ Ins ss (l ++ y) z := by
  induction h with
  | nil => intro x hx; exact ⟨x, rfl, by rw [List.append_nil]; exact hx⟩
  | @snoc y b hp hb ih =>
    intro x hx
    obtain ⟨z, rfl, hz⟩ := ih hx
    cases hz with
    | stop h => rw [hb] at h; cases h
    | @more _ z' b' h1 h2 =>
      rw [hb] at h1
      cases Option.some.inj h1
      exact ⟨z', by simp, by rw [← List.append_assoc]; exact h2⟩
/-- what is put in behind a line, or that it has no end -/
def OutR (ss : List Stf) (l : List Bool) (o : Option (List Bool)) : Prop := (∀ x, o = some x → Ins ss l x) ∧ (o = none → ∀ x, ¬ Ins ss l x)
theorem oWx_non (o : Option (List Bool)) : decide (oW o = .non) = o.isNone := by
  cases o with
  | none => exact decide_eq_true rfl
  | some _ => exact decide_eq_false (fun z => by cases z)
def spPutInX (C : Addr) : Sp := fun vs H Q _ => ∃ (a : Addr) (f : List Bool) (ss : List Stf) (l : List Bool), vs = [.ref a, .str (W l)] ∧ RuAt C H a f ss ∧ ss.length ≤ 1000 ∧ longM ss ≤ 9 ∧ l.length ≤ 40000 ∧ ∀ o H', OutR ss l o → Same H H' → Q (oW o) H'
def spEndlessX (C : Addr) : Sp := fun vs H Q _ => ∃ (a : Addr) (f : List Bool) (ss : List Stf), vs = [.ref a] ∧ RuAt C H a f ss ∧ ss.length ≤ 1000 ∧ longM ss ≤ 9 ∧ ∀ b H', (b = true ↔ ¬ OkR ss) → Same H H' → Q (.bl b) H'
section
variable {P : Program} {w : World} {K : PySem.W.Frag} {mg : Str → Option Value} {base : Heap}

theorem met_put_inX {f C : Addr} {fd : FuncData} (F : C8.Fun K "put_in" "Rule.put_in" s_Rule_put_in f fd) (me : Meth K C "put_in" f) (b : Binds K fd ["self", "line"] []) (T : Tx mg) (RT : RuT K C)
    (c_put : Met P w K mg base 1 C "put" (spPut C) []) (p_longest : Prp P w K mg base 1 C "longest" (spLongest C)) (c_tail : Cal P w K mg base 1 "tail" spTail []) : Met P w K mg base 3 C "put_in" (spPutInX C) [] := by
  refine met0 RT.cl me F b sc_Rule_put_in (fun vs H Q E h => ?_) (fun cdv A outer s H vs Q E hr h => ?_)
  · obtain ⟨_, _, _, _, rfl, _⟩ := h; rfl
  · obtain ⟨a, fl, ss, l, rfl, hR, hn, h9, hl, k⟩ := h
    refine ⟨_, (pss_cons (ps_par (i := 2) (j := 3) (by rfl) sc_Rule_put_in.nd rfl rfl (by decide) rfl rfl (pa_cons pe_str (pa_cons pe_dnewK pa_nil)) (by rfl))
    (pss_cons (ps_set (i := 4) sc_Rule_put_in.nd rfl (.inl rfl) (pe_mt (pl := _) c_put hr (by decide) (pv 0) (pa_cons (pv 1) pa_nil)))
    (pss_cons (ps_while PassesOwn.never (pt_cmpR op_notN (pv 4) pe_non (nomark _))
    (pss_cons (ps_set (i := 5) sc_Rule_put_in.nd rfl (.inl rfl) (pe_c c_tail hr (by decide) rfl (pa_cons (pe_op op_add_str (pv 1) (pv 2)) (pa_cons (pe_pr p_longest hr (by decide) (pv 0)) pa_nil))))
    (pss_cons (ps_if (pt_cmp (pc_din (hu_of hr) (pv 5) (pv 3))) (pss_one (ps_ret pe_non)) pss_nil)
    (pss_cons (ps_dput (hu_of hr) (pv 3) (pv 5) pe_bl rfl)
    (pss_cons (ps_aug (i := 2) sc_Rule_put_in.nd rfl (.inl rfl) (pv 4) iop_add_str)
    (pss_one (ps_set (i := 4) sc_Rule_put_in.nd rfl (.inl rfl) (pe_mt (pl := _) c_put hr (by decide) (pv 0) (pa_cons (pe_op op_add_str (pv 1) (pv 2)) pa_nil)))))))))
    (pss_one (ps_ret (pv 2)))))), ?_⟩
    have hL : ∀ s ∈ ss, s.1.length ≤ longM ss := fun s hs => longM_le hs
    have hpw := p10 h9
    have hat : ∀ {H2 : Hp}, Same H H2 → ∃ dx t, H2 a = some (.ins C dx (ruF fl t)) := fun s2 => by
      obtain ⟨dx, t, _, _, ha, _⟩ := hR.same s2
      exact ⟨dx, t, ha⟩
    have e1 : (W l).length = l.length := W_len l
    refine fun D nD => ⟨_, _, rfl, ?_⟩
    have s1 : Same H (upd H D (.dK [])) := same_upd nD
    have hD1 : upd H D (.dK []) D = some (.dK []) := upd_same
    generalize upd H D (.dK []) = H1 at s1 hD1
    obtain ⟨dx, t, ha⟩ := hat s1
    refine ⟨_, rfl, a, dx, _, rfl, ha, ruF_no _ _ (by decide +kernel) (by decide +kernel), _, rfl, a, fl, ss, l, rfl, hR.same s1, fun H2 s2 => ?_⟩
    refine ⟨fun m σ H3 => ∃ (y : List Bool) (v5 : Option V), y.length + m = 1024 ∧ PutX ss l y ∧ ((List.range y.length).map fun i => tl (longM ss) (l ++ y.take i)).Nodup ∧ σ = [some (.ref a), some (.str (W l)), some (.str (W y)), some (.ref D), some (oB (putM ss (l ++ y))), v5] ∧ Same H H3 ∧ H3 D = some (.dK (kst ((List.range y.length).map fun i => tl (longM ss) (l ++ y.take i)))),
      ⟨1024, [], none, rfl, .nil, List.nodup_nil, by rw [List.append_nil, ← W_nil]; rfl, s1.trans s2, s2 _ _ hD1⟩, ?_⟩
    rintro m σ H3 ⟨y, v5, hm, hP, hnd, rfl, s3, hD3⟩
    refine ⟨_, rfl, rfl, _, rfl, ?_⟩
    rw [oB_non]
    cases hput : putM ss (l ++ y) with
    | none =>
      refine ⟨_, rfl, ?_⟩
      have e := hP.ins (.stop hput)
      rw [List.append_nil] at e
      exact k (some y) H3 ⟨fun x hx => Option.some.inj hx ▸ e, fun z => by cases z⟩ s3
    | some c =>
      refine ⟨fun σ' H' => ∃ m', m' < m ∧ ∃ (y : List Bool) (v5 : Option V), y.length + m' = 1024 ∧ PutX ss l y ∧ ((List.range y.length).map fun i => tl (longM ss) (l ++ y.take i)).Nodup ∧ σ' = [some (.ref a), some (.str (W l)), some (.str (W y)), some (.ref D), some (oB (putM ss (l ++ y))), v5] ∧ Same H H' ∧ H' D = some (.dK (kst ((List.range y.length).map fun i => tl (longM ss) (l ++ y.take i)))), fun _ _ h => h, ?_⟩
      have hfew : y.length + 1 ≤ 2 ^ (longM ss + 1) := by
        have := words_le hnd (fun w hw => by obtain ⟨i, _, rfl⟩ := List.mem_map.mp hw; exact tl_le _ _)
        rw [List.length_map, List.length_range] at this
        exact this
      have e2 : (W y).length = y.length := W_len _
      obtain ⟨dx3, t3, ha3⟩ := hat s3
      refine ⟨_, rfl, _, rfl, _, _, rfl, rfl, by rw [e1, e2]; exact sl_len (by omega), _, rfl, a, dx3, _, rfl, ha3, a, fl, ss, rfl, hR.same s3, hn, fun s hs => Nat.le_trans (longM_le hs) (by omega), fun H4 s4 => ?_⟩
      refine ⟨l ++ y, longM ss, by rw [← W_cat l]; rfl, by rw [List.length_append]; omega, ?_⟩
      have hD4 := s4 _ _ hD3
      have s34 := s3.trans s4
      by_cases nin : tl (longM ss) (l ++ y) ∈ (List.range y.length).map fun i => tl (longM ss) (l ++ y.take i)
      · refine ⟨_, rfl, _, rfl, D, _, rfl, DGet.k (k := .inr (W (tl (longM ss) (l ++ y)))) hD4, _, rfl, iteBT (by rw [val_in nin]; rfl) ?_⟩
        refine k none H4 ⟨fun x z => (by cases z), fun _ x hx => ?_⟩ s34
        obtain ⟨z, rfl, hz⟩ := hP.pre hx
        obtain ⟨i, hi, e⟩ := List.mem_map.mp nin
        have hi' := List.mem_range.mp hi
        have t1 : (y ++ z).take i = y.take i := List.take_append_of_le_length (by omega)
        have t2 : (y ++ z).take y.length = y := List.take_left' rfl
        have := hx.apart hL (i := i) (j := y.length) (by rw [List.length_append]; omega) (by rw [List.length_append]; omega) (by rw [t1, t2]; exact e)
        omega
      · refine ⟨_, rfl, _, rfl, D, _, rfl, DGet.k (k := .inr (W (tl (longM ss) (l ++ y)))) hD4, _, rfl, iteBF (by rw [val_out nin]; rfl) ?_⟩
        refine ⟨_, rfl, _, rfl, D, _, rfl, DPut.k (k := .inr (W (tl (longM ss) (l ++ y)))) hD4 (by unfold kst; rw [List.length_map, List.length_map, List.length_range]; exact sl_lt (by omega)), ?_⟩
        rw [put_out nin]
        have ek : ((List.range y.length).map fun i => tl (longM ss) (l ++ y.take i)) ++ [tl (longM ss) (l ++ y)] = (List.range (y ++ [c]).length).map fun i => tl (longM ss) (l ++ (y ++ [c]).take i) := by
          rw [List.length_append, show [c].length = 1 from rfl, List.range_succ, List.map_append]
          congr 1
          · refine List.map_congr_left fun i hi => ?_
            have := List.mem_range.mp hi
            rw [List.take_append_of_le_length (by omega)]
          · show [tl (longM ss) (l ++ y)] = [tl (longM ss) (l ++ (y ++ [c]).take y.length)]
            rw [List.take_left' rfl]
        have hnd2 : ((List.range (y ++ [c]).length).map fun i => tl (longM ss) (l ++ (y ++ [c]).take i)).Nodup := by
          rw [← ek, List.nodup_append]
          exact ⟨hnd, by simp, fun x hx z hz e => nin (by rw [← List.mem_singleton.mp hz, ← e]; exact hx)⟩
        rw [ek]
        have s5 : Same H (upd H4 D (.dK (kst ((List.range (y ++ [c]).length).map fun i => tl (longM ss) (l ++ (y ++ [c]).take i))))) := fun c o e => by
          rw [upd_ne (ne_of_none e nD)]
          exact s34 _ _ e
        have hD5 : upd H4 D (.dK (kst ((List.range (y ++ [c]).length).map fun i => tl (longM ss) (l ++ (y ++ [c]).take i)))) D = some (.dK (kst ((List.range (y ++ [c]).length).map fun i => tl (longM ss) (l ++ (y ++ [c]).take i)))) := upd_same
        generalize upd H4 D (.dK (kst ((List.range (y ++ [c]).length).map fun i => tl (longM ss) (l ++ (y ++ [c]).take i)))) = H5 at s5 hD5
        have e3 : (W [c]).length = 1 := W_len _
        refine ⟨_, rfl, _, rfl, _, _, rfl, rfl, by rw [e2, e3]; exact sl_len (by omega), ?_⟩
        rw [W_cat]
        have e4 : (W (y ++ [c])).length = y.length + 1 := by rw [W_len, List.length_append]; rfl
        obtain ⟨dx5, t5, ha5⟩ := hat s5
        refine ⟨_, rfl, a, dx5, _, rfl, ha5, ruF_no _ _ (by decide +kernel) (by decide +kernel), _, rfl, _, rfl, _, _, rfl, rfl, by rw [e1, e4]; exact sl_len (by omega), ?_⟩
        refine ⟨a, fl, ss, l ++ (y ++ [c]), by rw [← W_cat l]; rfl, hR.same s5, fun H6 s6 => ?_⟩
        exact ⟨m - 1, by omega, y ++ [c], _, by rw [List.length_append]; show _ + 1 + _ = _; omega, hP.snoc hput, hnd2, rfl, s5.trans s6, s6 _ _ hD5⟩
end
end U

set_option maxRecDepth 100000
set_option maxHeartbeats 4000000
namespace U
open PySem PySem.Spec PyProof.Rows
open L2 hiding Fun CX0 E0 pass0 Fun.binds
open C8 Lx SX StX
/-- a closed set of standings shows that no message is without end -/
theorem okR_of {ss : List Stf} {L : Nat} (kn : List (List Bool)) (hL : ∀ s ∈ ss, s.1.length ≤ L) (h0 : [] ∈ kn) (hx : ∀ w ∈ kn, ∀ b, ∃ x, Ins ss (w ++ [b]) x ∧ tl L (w ++ [b] ++ x) ∈ kn) : OkR ss := by
  have hr : ∀ l, Reach ss l → ∃ w ∈ kn, tl L w = tl L l := fun l r => by
    induction r with
    | nil => exact ⟨[], h0, rfl⟩
    | @next l x b r i ih =>
      obtain ⟨w, hw, e⟩ := ih
      obtain ⟨y, hy, hm⟩ := hx w hw b
      have e2 := tl_snoc (b := b) e
      have ey := (hy.tl hL e2).det i
      subst ey
      exact ⟨_, hm, by rw [tl_tl (Nat.le_refl L)]; exact tl_app e2 y⟩
  intro l r b
  obtain ⟨w, hw, e⟩ := hr l r
  obtain ⟨y, hy, _⟩ := hx w hw b
  exact ⟨y, hy.tl hL (tl_snoc e)⟩
/-- what is known of the standings looked at: all ahead of n, and the bits bs of the one at n -/
def CldB (ss : List Stf) (ws : List (List Bool)) (n : Nat) (bs : List Bool) : Prop := ∀ j w b, ws[j]? = some w → (j < n ∨ (j = n ∧ b ∈ bs)) → ∃ x, Ins ss (w ++ [b]) x ∧ tl (longM ss) (w ++ [b] ++ x) ∈ ws
theorem CldB.more {ss : List Stf} {ws : List (List Bool)} {n : Nat} {bs : List Bool} {u : List Bool} (h : CldB ss ws n bs) (hn : n < ws.length) : CldB ss (ws ++ [u]) n bs := fun j w b e c => by
  have hj : j < ws.length := by rcases c with c | ⟨c, _⟩ <;> omega
  rw [List.getElem?_append_left hj] at e
  obtain ⟨x, h1, h2⟩ := h j w b e c
  exact ⟨x, h1, List.mem_append_left _ h2⟩
theorem CldB.bit {ss : List Stf} {ws : List (List Bool)} {n i : Nat} {b0 : Bool} {w0 x : List Bool} (h : CldB ss ws n ([false, true].take i)) (hb : [false, true][i]? = some b0) (hw : ws[n]? = some w0) (h1 : Ins ss (w0 ++ [b0]) x) (h2 : tl (longM ss) (w0 ++ [b0] ++ x) ∈ ws) : CldB ss ws n ([false, true].take (i + 1)) := fun j w b e c => by
  rcases c with c | ⟨c, m⟩
  · exact h j w b e (.inl c)
  · rw [List.take_add_one, hb] at m
    rcases List.mem_append.mp m with m | m
    · exact h j w b e (.inr ⟨c, m⟩)
    · subst c
      rw [hw] at e
      cases e
      rw [List.mem_singleton.mp m]
      exact ⟨x, h1, h2⟩
theorem CldB.next {ss : List Stf} {ws : List (List Bool)} {n : Nat} (h : CldB ss ws n [false, true]) : CldB ss ws (n + 1) [] := fun j w b e c => by
  refine h j w b e ?_
  rcases c with c | ⟨_, m⟩
  · rcases Nat.lt_or_eq_of_le (Nat.le_of_lt_succ c) with z | z
    · exact .inl z
    · exact .inr ⟨z, by cases b <;> simp⟩
  · cases m
theorem CldB.ok {ss : List Stf} {ws : List (List Bool)} {n : Nat} {bs : List Bool} (h : CldB ss ws n bs) (hn : ws.length ≤ n) (h0 : [] ∈ ws) : OkR ss :=
  okR_of ws (fun s hs => longM_le hs) h0 fun w hw b => by
    obtain ⟨j, hj, e⟩ := List.getElem_of_mem hw
    exact h j w b (by rw [List.getElem?_eq_getElem hj, e]) (.inl (by omega))
def spRuInitX (K : PySem.W.Frag) (C CI : Addr) : Sp := fun vs H Q E => ∃ (a dx s : Addr) (f : List Bool) (ps : List Addr) (kb : Addr → Stf), vs = [.ref a, .str (W f), .ref s] ∧ H a = some (.ins C dx []) ∧ Sq K H s (ps.map V.ref) ∧ StV H kb ps ∧ StOk (ps.map kb) ∧ f.length ≤ 1000 ∧
  (f.length < 2 → ∀ d H', (∀ b o, H b = some o → b ≠ a → H' b = some o) → H' d = some (.xd [("word", .str "flag")]) → E (.ref CI) (some d) H') ∧
  (2 ≤ f.length → OkR (ps.map kb) → ∀ H' ss, (∀ b o, H b = some o → b ≠ a → H' b = some o) → ss.Perm (ps.map kb) → SortedS ss → RuAt C H' a f ss → Q .non H') ∧
  (2 ≤ f.length → ¬ OkR (ps.map kb) → ∀ d H', (∀ b o, H b = some o → b ≠ a → H' b = some o) → H' d = some (.xd [("word", .str "endless")]) → E (.ref CI) (some d) H')
section
variable {P : Program} {w : World} {K : PySem.W.Frag} {mg : Str → Option Value} {base : Heap}

theorem met_is_endlessX {f C : Addr} {fd : FuncData} {tB : Tok} (F : C8.Fun K "is_endless" "Rule.is_endless" s_Rule_is_endless f fd) (me : Meth K C "is_endless" f) (b : Binds K fd ["self"] []) (T : Tx mg) (RT : RuT K C) (g_BITS : mg "BITS" = some (.str "01" tB))
    (c_put_inX : Met P w K mg base 3 C "put_in" (spPutInX C) []) (p_longest : Prp P w K mg base 1 C "longest" (spLongest C)) (c_tail : Cal P w K mg base 1 "tail" spTail []) : Met P w K mg base 4 C "is_endless" (spEndlessX C) [] := by
  refine met0 RT.cl me F b sc_Rule_is_endless (fun vs H Q E h => ?_) (fun cdv A outer s H vs Q E hr h => ?_)
  · obtain ⟨_, _, _, rfl, _⟩ := h; rfl
  · obtain ⟨a, fl, ss, rfl, hR, hn, h9, k⟩ := h
    have c_put_in := c_put_inX
    refine ⟨_, (pss_cons (ps_par3 (i := 1) (j := 2) (l := 3) (by rfl) sc_Rule_is_endless.nd rfl rfl rfl (by decide) (by decide) (by decide) rfl rfl rfl (pa_cons (pe_lst (pa_cons pe_str pa_nil)) (pa_cons (pe_disp (pps_cons pe_str pe_bl pps_nil) (by rfl) (by rfl) (fun z => by cases z) (by decide)) (pa_cons pe_int pa_nil))) (by rfl))
    (pss_cons (ps_while PassesOwn.never (pt_cmpR op_lt (pv 3) (pe_callB call_len_seq (by rfl) T.b_len (by decide +kernel) (pa_cons (pv 1) pa_nil)) (nomark _))
    (pss_cons (ps_for PassesOwn.never rfl (pi_str (pe_glob (v := .str "01") (by rfl) g_BITS ⟨_, rfl⟩)) (pg_name (i := 4) sc_Rule_is_endless.nd rfl (.inl rfl))
    (pss_cons (ps_set (i := 5) sc_Rule_is_endless.nd rfl (.inl rfl) (pe_op op_add_str (pe_ix ix_list (pv 1) (pv 3) (fun _ _ => rfl)) (pv 4)))
    (pss_cons (ps_set (i := 6) sc_Rule_is_endless.nd rfl (.inl rfl) (pe_mt (pl := _) c_put_in hr (by decide) (pv 0) (pa_cons (pv 5) pa_nil)))
    (pss_cons (ps_if (pt_cmpR op_isN (pv 6) pe_non (nomark _)) (pss_one (ps_ret pe_bl)) pss_nil)
    (pss_cons (ps_set (i := 7) sc_Rule_is_endless.nd rfl (.inl rfl) (pe_c c_tail hr (by decide) rfl (pa_cons (pe_op op_add_str (pv 5) (pv 6)) (pa_cons (pe_pr p_longest hr (by decide) (pv 0)) pa_nil))))
    (pss_one (ps_if (pt_cmp (pc_dnotin (hu_of hr) (pv 7) (pv 2))) (pss_cons (ps_dput (hu_of hr) (pv 2) (pv 7) pe_bl rfl)
    (pss_one (ps_expr (pe_bm PySem.F.plainAttrs_list PySem.F.slot_list_append PySem.F.type_list_append mt_append (pv 1) (pa_cons (pv 7) pa_nil))))) pss_nil)))))))
    (pss_one (ps_aug (i := 3) sc_Rule_is_endless.nd rfl (.inl rfl) pe_int ip_add))))
    (pss_one (ps_ret pe_bl)))), ?_⟩
    have hL : ∀ s ∈ ss, s.1.length ≤ longM ss := fun s hs => longM_le hs
    have hpw := p10 h9
    have hat : ∀ {H2 : Hp}, Same H H2 → ∃ dx t, H2 a = some (.ins C dx (ruF fl t)) := fun s2 => by
      obtain ⟨dx, t, _, _, ha, _⟩ := hR.same s2
      exact ⟨dx, t, ha⟩
    refine ⟨by show 1 ≤ sizeLine; decide, fun q nq d nd => ⟨upd_same, [(.inr "", .bl true)], rfl, by decide, _, _, _, rfl, ?_⟩⟩
    have nqd : q ≠ d := fun z => by rw [← z, upd_same] at nd; cases nd
    have b0 : Bfs ss H (upd (upd (upd H q (.lst [.str ""])) d (.dK [])) d (.dK (mergeK [] [(.inr "", .bl true)]))) q d [[]] := by
      refine ⟨fun c o e => ?_, ?_, ?_, ?_, ?_, ?_⟩
      · have n1 := ne_of_none e nq
        have n2 : c ≠ d := fun z => by rw [z] at e n1; rw [upd_ne n1, e] at nd; cases nd
        rw [upd_ne n2, upd_ne n2, upd_ne n1]
        exact e
      · rw [upd_ne nqd, upd_ne nqd, upd_same, W_nil]; rfl
      · rw [upd_same, W_nil]; rfl
      · simp
      · intro w hw; rw [List.mem_singleton.mp hw]; exact Nat.zero_le _
      · intro w hw; rw [List.mem_singleton.mp hw]; exact ⟨[], .nil, by unfold tl; rw [List.drop_nil]⟩
    have nq0 : H q = none := nq
    have nd0 : H d = none := by
      cases e : H d with
      | none => rfl
      | some o => rw [upd_ne (Ne.symm nqd), e] at nd; cases nd
    generalize upd (upd (upd H q (.lst [.str ""])) d (.dK [])) d (.dK (mergeK [] [(.inr "", .bl true)])) = H1 at b0
    refine ⟨fun m σ H2 => ∃ (n : Nat) (ws : List (List Bool)) (v4 v5 v6 v7 : Option V), σ = [some (.ref a), some (.ref q), some (.ref d), some (.int n), v4, v5, v6, v7] ∧ Bfs ss H H2 q d ws ∧ n ≤ ws.length ∧ m + n = 2 ^ (longM ss + 1) ∧ CldB ss ws n [] ∧ [] ∈ ws,
      ⟨2 ^ (longM ss + 1), 0, [[]], none, none, none, none, rfl, b0, Nat.zero_le _, by omega, fun j w b _ c => (by rcases c with c | ⟨_, c⟩ <;> cases c), List.mem_singleton.mpr rfl⟩, ?_⟩
    rintro m σ H2 ⟨n, ws, v4, v5, v6, v7, rfl, B2, hn2, hm, hc2, h02⟩
    have few2 := B2.few
    refine ⟨_, rfl, _, rfl, q, _, rfl, .inl (SqL.of B2.wait), _, _, rfl, rfl, _, rfl, ?_⟩
    rw [List.length_map]
    by_cases hlt : n < ws.length
    · refine iteDT (by omega) ?_
      refine ⟨fun σ' H' => ∃ m', m' < m ∧ ∃ (n : Nat) (ws : List (List Bool)) (v4 v5 v6 v7 : Option V), σ' = [some (.ref a), some (.ref q), some (.ref d), some (.int n), v4, v5, v6, v7] ∧ Bfs ss H H' q d ws ∧ n ≤ ws.length ∧ m' + n = 2 ^ (longM ss + 1) ∧ CldB ss ws n [] ∧ [] ∈ ws, fun _ _ h => h, ?_⟩
      refine ⟨_, rfl, for_it walk_str (fun i σ H3 => ∃ (ws : List (List Bool)) (v4 v5 v6 v7 : Option V), σ = [some (.ref a), some (.ref q), some (.ref d), some (.int n), v4, v5, v6, v7] ∧ Bfs ss H H3 q d ws ∧ n < ws.length ∧ CldB ss ws n ([false, true].take i) ∧ [] ∈ ws) ⟨ws, _, _, _, _, rfl, B2, hlt, hc2, h02⟩ (fun _ _ _ _ _ => trivial) ?_ ?_⟩
      · rintro i x σ H3 H3' hi ⟨ws, v4, v5, v6, v7, rfl, B3, hlt3, hc3, h03⟩ ⟨rfl, c, hc, rfl⟩
        have e01 : ("01" : Str) = W [false, true] := by decide +kernel
        rw [e01] at hc
        obtain ⟨bb, hbb, rfl⟩ := W_get hc
        have hwn : ws[n]? = some ws[n] := List.getElem?_eq_getElem hlt3
        have hw : (ws.map fun w => V.str (W w))[n]? = some (.str (W ws[n])) := by rw [List.getElem?_map, List.getElem?_eq_getElem hlt3]; rfl
        have hmem : ws[n] ∈ ws := List.getElem_mem hlt3
        generalize ws[n] = w0 at hw hmem hwn
        have hs0 := B3.short _ hmem
        have few3 := B3.few
        obtain ⟨l0, hr0, e0⟩ := B3.reach _ hmem
        have ht0 : tl (longM ss) l0 = tl (longM ss) w0 := by rw [← e0, tl_tl (Nat.le_refl _)]
        have ew : W w0 ++ (⟨#[bt bb]⟩ : Str) = W (w0 ++ [bb]) := W_cat w0 [bb]
        have el : (W w0).length + (⟨#[bt bb]⟩ : Str).length ≤ sizeLine := by
          have e1 : (W w0).length = w0.length := W_len _
          have e2 : (⟨#[bt bb]⟩ : Str).length = 1 := W_len [bb]
          rw [e1, e2]; exact sl_len (by omega)
        refine ⟨_, rfl, _, rfl, q, _, _, _, rfl, rfl, SqL.of B3.wait, atI_nat hw, _, rfl, _, _, rfl, rfl, el, ?_⟩
        rw [ew]
        obtain ⟨dx3, t3, ha3⟩ := hat B3.same
        have hl1 : (w0 ++ [bb]).length ≤ 10 := by rw [List.length_append, List.length_cons, List.length_nil]; omega
        refine ⟨_, rfl, a, dx3, _, rfl, ha3, ruF_no _ _ (by decide +kernel) (by decide +kernel), _, rfl, a, fl, ss, w0 ++ [bb], rfl, hR.same B3.same, hn, h9, by omega, fun o H4 ho s4 => ?_⟩
        have B4 := B3.on s4
        cases o with
        | none =>
          refine ⟨_, rfl, rfl, _, rfl, iteDT rfl ?_⟩
          refine k true H4 ⟨fun _ hO => ?_, fun _ => rfl⟩ B4.same
          obtain ⟨y, hy⟩ := hO l0 hr0 bb
          exact ho.2 rfl y (hy.tl hL (tl_snoc ht0))
        | some y =>
        have hy' := ho.1 y rfl
        have hy : Ins ss (l0 ++ [bb]) y := hy'.tl hL (tl_snoc (b := bb) ht0.symm)
        have hyl := hy.len hL
        have hnx : tl (longM ss) (l0 ++ [bb] ++ y) = tl (longM ss) (w0 ++ [bb] ++ y) := tl_app (tl_snoc (b := bb) ht0) y
        have hrn : Reach ss (l0 ++ [bb] ++ y) := .next hr0 hy
        refine ⟨_, rfl, rfl, _, rfl, iteDF (fun z => by cases z) ?_⟩
        obtain ⟨dx4, t4, ha4⟩ := hat B4.same
        have e3 : (W (w0 ++ [bb])).length = (w0 ++ [bb]).length := W_len _
        have e4 : (W y).length = y.length := W_len _
        refine ⟨_, rfl, _, rfl, _, _, rfl, rfl, by rw [e3, e4]; exact sl_len (by omega), _, rfl, a, dx4, _, rfl, ha4, a, fl, ss, rfl, hR.same B4.same, hn, fun s hs => Nat.le_trans (longM_le hs) (by omega), fun H5 s5 => ?_⟩
        have B5 := B4.on s5
        refine ⟨w0 ++ [bb] ++ y, longM ss, by rw [← W_cat (w0 ++ [bb]) y]; rfl, by rw [List.length_append]; omega, ?_⟩
        refine ⟨_, rfl, _, rfl, d, _, rfl, DGet.k (k := .inr (W (tl (longM ss) (w0 ++ [bb] ++ y)))) B5.known, _, rfl, ?_⟩
        by_cases hin : tl (longM ss) (w0 ++ [bb] ++ y) ∈ ws
        · refine iteBF (by rw [val_in hin]; rfl) ?_
          exact ⟨ws, _, _, _, _, rfl, B5, hlt3, hc3.bit hbb hwn hy' hin, h03⟩
        · refine iteBT (by rw [val_out hin]; rfl) ?_
          refine ⟨_, rfl, _, rfl, d, _, rfl, DPut.k (k := .inr (W (tl (longM ss) (w0 ++ [bb] ++ y)))) B5.known (by unfold kst; rw [List.length_map]; exact sl_lt (by omega)), ?_⟩
          rw [put_out hin]
          have hW6 : upd H5 d (.dK (kst (ws ++ [tl (longM ss) (w0 ++ [bb] ++ y)]))) q = some (.lst (ws.map fun w => V.str (W w))) := by rw [upd_ne nqd]; exact B5.wait
          refine ⟨_, rfl, .inl ⟨rfl, _, SqL.of hW6⟩, _, rfl, q, _, _, rfl, rfl, hW6, by rw [List.length_map]; exact sl_lt (by omega), ?_⟩
          refine ⟨ws ++ [tl (longM ss) (w0 ++ [bb] ++ y)], _, _, _, _, rfl, ⟨fun c o e => ?_, ?_, ?_, ?_, ?_, ?_⟩, ?_, ?_, List.mem_append_left _ h03⟩
          · rw [upd_ne (ne_of_none e nq0), upd_ne (ne_of_none e nd0)]
            exact B5.same _ _ e
          · rw [upd_same, List.map_append]; rfl
          · rw [upd_ne (Ne.symm nqd), upd_same]
          · rw [List.nodup_append]
            refine ⟨B5.nodup, by simp, fun u hu v hv e => ?_⟩
            rw [List.mem_singleton.mp hv] at e
            exact hin (e ▸ hu)
          · intro u hu
            rcases List.mem_append.mp hu with m | m
            · exact B5.short _ m
            · rw [List.mem_singleton.mp m]; exact tl_le _ _
          · intro u hu
            rcases List.mem_append.mp hu with m | m
            · exact B5.reach _ m
            · rw [List.mem_singleton.mp m]; exact ⟨_, hrn, hnx⟩
          · rw [List.length_append]; omega
          · exact (hc3.more hlt3).bit hbb (by rw [List.getElem?_append_left hlt3]; exact hwn) hy' (List.mem_append_right _ (List.mem_singleton.mpr rfl))
      · rintro σ H3 ⟨ws, v4, v5, v6, v7, rfl, B3, hlt3, hc3, h03⟩
        refine ⟨_, rfl, _, _, rfl, rfl, ?_⟩
        refine ⟨m - 1, by omega, n + 1, ws, _, _, _, _, rfl, B3, hlt3, by omega, CldB.next hc3, h03⟩
    · refine iteDF (by omega) ?_
      exact k false H2 ⟨fun z => by (cases z), fun z => absurd (hc2.ok (by omega) h02) z⟩ B2.same

theorem ok_Rule_initX {f C CI : Addr} {fd : FuncData} (F : C8.Fun K "__init__" "Rule.__init__" s_Rule_init f fd) (T : Tx mg) (RT : RuT K C) (x_InvalidRule : ExS.XMk P w K mg base 1 "InvalidRule" CI "word") (c_is_word : Cal P w K mg base 1 "is_word" (spIsWord K) []) (c_are_stuffs : Cal P w K mg base 4 "are_stuffs" (spAre K) []) (c_is_endlessX : Met P w K mg base 4 C "is_endless" (spEndlessX C) []) :
    FnOk P w K mg base (L2.CX P w) 5 f fd ["self", "flag", "stuffs"] (spRuInitX K C CI) := by
  refine ExS.fnR F sc_Rule_init (fun vs H Q E h => ?_) (fun cdv A outer s H vs Q E hr h => ?_)
  · obtain ⟨_, _, _, _, _, _, rfl, _⟩ := h; rfl
  · obtain ⟨a, dx, sq, fl, ps, kb, rfl, ha, hS, hs, ok, hl, kF, k, kE⟩ := h
    have c_is_endless := c_is_endlessX
    refine ⟨_, (pss_cons (ps_if (PW.pt (pw_or (pt_not (pt_val (pe_c c_is_word hr (by decide) rfl (pa_cons (pv 1) pa_nil)))) (pw_or1 (pt_cmpR op_lt (pe_callB call_len_str (by rfl) T.b_len (by decide +kernel) (pa_cons (pv 1) pa_nil)) pe_int (nomark _))))) (pss_one (ps_raise rfl (takes_of rfl rfl rfl rfl) (ExS.pmk_x x_InvalidRule hr (by decide) rfl (pa_cons pe_str pa_nil)))) pss_nil)
    (pss_cons (ps_if (pt_not (pt_val (pe_c c_are_stuffs hr (by decide) rfl (pa_cons (pv 2) pa_nil)))) (pss_one (ps_raise rfl (takes_of rfl rfl rfl rfl) (ExS.pmk_x x_InvalidRule hr (by decide) rfl (pa_cons pe_str pa_nil)))) pss_nil)
    (pss_cons (ps_fld (pv 0) (pv 1) rfl)
    (pss_cons (ps_fld (pv 0) (pe_callTy call_tuple_of (by rfl) T.b_tuple (by decide +kernel) (pa_cons (pe_callB cr_sortedT (by rfl) T.b_sorted (by decide +kernel) (pa_cons (pv 2) pa_nil)) pa_nil)) rfl)
    (pss_one (ps_if (pt_val (pe_mt0 (pl := _) c_is_endless hr (by decide) (pv 0))) (pss_one (ps_raise rfl (takes_of rfl rfl rfl rfl) (ExS.pmk_x x_InvalidRule hr (by decide) rfl (pa_cons pe_str pa_nil)))) pss_nil)))))), ?_⟩
    have lf : (W fl).length = fl.length := W_len fl
    refine ⟨_, rfl, _, rfl, .inl ⟨_, rfl, by rw [lf]; omega, fun H1 s1 => ⟨_, rfl, iteBF (by rw [isW_W]; rfl) ?_⟩⟩⟩
    refine ⟨_, rfl, _, rfl, by rw [lf]; exact sl_len (by omega), _, _, rfl, rfl, _, rfl, ?_⟩
    by_cases h2 : fl.length < 2
    · refine iteDT (by rw [lf]; omega) ?_
      exact ExS.rd_x fun d H' s' _ hd => kF h2 d H' (fun b o e _ => (s1.trans s') _ _ e) hd
    replace k := k (by omega)
    replace kE := kE (by omega)
    refine iteDF (by rw [lf]; omega) ?_
    refine ⟨_, rfl, sq, ps, kb, rfl, hS.same s1, hs.same s1, ok, fun H2 s2 => ⟨_, rfl, ?_⟩⟩
    have s02 := s1.trans s2
    have ha2 := s02 _ _ ha
    refine ⟨_, rfl, _, rfl, a, C, dx, _, rfl, ha2, RT.cl, RT.nF, by decide, ?_⟩
    have keep3 : ∀ c o, H c = some o → c ≠ a → upd H2 a (.ins C dx (putF "flag" (.str (W fl)) [])) c = some o := fun c o e n => by rw [upd_ne n]; exact s02 _ _ e
    have ha3 : upd H2 a (.ins C dx (putF "flag" (.str (W fl)) [])) a = some (.ins C dx (putF "flag" (.str (W fl)) [])) := upd_same
    have hs3 : StV (upd H2 a (.ins C dx (putF "flag" (.str (W fl)) []))) kb ps := fun t ht => keep3 _ _ (hs t ht) (ne_of (hs t ht) ha (by intro z; cases z))
    have hS3 : SqL K (upd H2 a (.ins C dx (putF "flag" (.str (W fl)) []))) sq (ps.map V.ref) ∨ SqT K (upd H2 a (.ins C dx (putF "flag" (.str (W fl)) []))) sq (ps.map V.ref) := by
      rcases hS with ((h | ⟨o, h⟩) | h) | ((h | ⟨o, h⟩) | h)
      · exact .inl (.inl (.inl (keep3 _ _ h (ne_of h ha (by intro z; cases z)))))
      · exact .inl (.inl (.inr ⟨o, keep3 _ _ h (ne_of h ha (by intro z; cases z))⟩))
      · exact .inl (.inr h)
      · exact .inr (.inl (.inl (keep3 _ _ h (ne_of h ha (by intro z; cases z)))))
      · exact .inr (.inl (.inr ⟨o, keep3 _ _ h (ne_of h ha (by intro z; cases z))⟩))
      · exact .inr (.inr h)
    generalize upd H2 a (.ins C dx (putF "flag" (.str (W fl)) [])) = H3 at keep3 ha3 hs3 hS3
    refine ⟨_, rfl, sq, ps, fun t => key (kb t), rfl, hS3, fun t ht => hs3 t ht, fun qs p1 srt prm n1 => ?_⟩
    refine ⟨p1, _, rfl, .inl ⟨SqL.of upd_same, fun p2 n2 => ?_⟩⟩
    have s5 : Same H3 (upd (upd H3 p1 (.lst (qs.map V.ref))) p2 (.tup (qs.map V.ref))) := (same_upd n1).trans (same_upd n2)
    have hT5 : upd (upd H3 p1 (.lst (qs.map V.ref))) p2 (.tup (qs.map V.ref)) p2 = some (.tup (qs.map V.ref)) := upd_same
    generalize upd (upd H3 p1 (.lst (qs.map V.ref))) p2 (.tup (qs.map V.ref)) = H5 at s5 hT5
    have ha5 := s5 _ _ ha3
    refine ⟨_, rfl, a, C, dx, _, rfl, ha5, RT.cl, RT.nS, by show 1 < 1000; decide, ?_⟩
    have na2 : p2 ≠ a := ne_of hT5 ha5 (by intro z; cases z)
    have keep6 : ∀ c o, H3 c = some o → c ≠ a → upd H5 a (.ins C dx (putF "stuffs" (.ref p2) (putF "flag" (.str (W fl)) []))) c = some o := fun c o e n => by rw [upd_ne n]; exact s5 _ _ e
    have ha6 : upd H5 a (.ins C dx (putF "stuffs" (.ref p2) (putF "flag" (.str (W fl)) []))) a = some (.ins C dx (ruF fl p2)) := upd_same
    have hT6 : upd H5 a (.ins C dx (putF "stuffs" (.ref p2) (putF "flag" (.str (W fl)) []))) p2 = some (.tup (qs.map V.ref)) := by rw [upd_ne na2]; exact hT5
    generalize upd H5 a (.ins C dx (putF "stuffs" (.ref p2) (putF "flag" (.str (W fl)) []))) = H6 at keep6 ha6 hT6
    have hs6 : StV H6 kb qs := StV.perm (fun t ht => keep6 _ _ (hs3 t ht) (ne_of (hs3 t ht) ha3 (by intro z; cases z))) prm
    have pm : (qs.map kb).Perm (ps.map kb) := prm.map kb
    have hR6 : RuAt C H6 a fl (qs.map kb) := ⟨dx, p2, qs, kb, ha6, hT6, hs6, rfl⟩
    have ok6 := ok.perm pm.symm
    have oeq : OkR (qs.map kb) ↔ OkR (ps.map kb) := ⟨fun o => o.congr fun l => put_perm ok6.free pm l, fun o => o.congr fun l => put_perm ok.free pm.symm l⟩
    refine ⟨_, rfl, a, dx, _, rfl, ha6, ruF_no _ _ (by decide +kernel) (by decide +kernel), a, fl, qs.map kb, rfl, hR6, ok6.few, ok6.long, fun b7 H7 hb7 s7 => ⟨_, rfl, ?_⟩⟩
    have keep7 : ∀ c o, H c = some o → c ≠ a → H7 c = some o := fun c o e n => s7 _ _ (keep6 _ _ (keep3 _ _ e n) n)
    cases b7 with
    | false =>
      have hO : OkR (ps.map kb) := Classical.byContradiction fun z => by
        have := hb7.mpr fun y => z (oeq.mp y)
        cases this
      exact k hO H7 (qs.map kb) keep7 pm (pwS srt) (hR6.same s7)
    | true =>
      have hO : ¬ OkR (ps.map kb) := fun z => hb7.mp rfl (oeq.mpr z)
      exact ExS.rd_x fun d H' s' _ hd => kE hO d H' (fun b o e n => s' _ _ (keep7 _ _ e n)) hd
end
end U

set_option maxRecDepth 100000
set_option maxHeartbeats 4000000
namespace U
open PySem PySem.Spec PyProof.Rows
open L2 hiding Fun CX0 E0 pass0 Fun.binds
open C8 Lx SX
/-- where f begins in l first -/
def posM (l f : List Bool) : Option Nat := (List.range (l.length + 1)).find? fun i => f.isPrefixOf (l.drop i)
theorem posM_some {l f : List Bool} {i : Nat} : posM l f = some i ↔ (i ≤ l.length ∧ f <+: l.drop i ∧ ∀ k, k < i → ¬ f <+: l.drop k) := by
  unfold posM
  rw [List.find?_range_eq_some, List.isPrefixOf_iff_prefix]
  constructor
  · rintro ⟨h1, h2, h3⟩
    refine ⟨by have := List.mem_range.mp h2; omega, h1, fun k hk z => ?_⟩
    have := h3 k hk
    rw [List.isPrefixOf_iff_prefix.mpr z] at this
    cases this
  · rintro ⟨h1, h2, h3⟩
    refine ⟨h2, List.mem_range.mpr (by omega), fun k hk => ?_⟩
    cases e : f.isPrefixOf (l.drop k) with
    | false => rfl
    | true => exact absurd (List.isPrefixOf_iff_prefix.mp e) (h3 k hk)
theorem posM_none {l f : List Bool} : posM l f = none ↔ ∀ i, i ≤ l.length → ¬ f <+: l.drop i := by
  unfold posM
  rw [List.find?_eq_none]
  constructor
  · intro h i hi z
    exact h i (List.mem_range.mpr (by omega)) (List.isPrefixOf_iff_prefix.mpr z)
  · intro h i hi z
    exact h i (by have := List.mem_range.mp hi; omega) (List.isPrefixOf_iff_prefix.mp z)
theorem at_W {l f : List Bool} {i : Nat} : StrLaws.At (W l) (W f) (W l).length i ↔ (i ≤ l.length ∧ f <+: l.drop i) := by
  unfold StrLaws.At
  rw [StrLaws.subAt_eq, W_len, W_len, W_tl, W_tl, ← List.map_drop, ← List.map_take, beq_iff_eq]
  constructor
  · rintro ⟨h1, h2⟩
    refine ⟨by omega, List.prefix_iff_eq_take.mpr (map_bt_inj h2).symm⟩
  · rintro ⟨h1, h2⟩
    have hl := h2.length_le
    rw [List.length_drop] at hl
    exact ⟨by omega, by rw [← List.prefix_iff_eq_take.mp h2]⟩
theorem occ_none {l f : List Bool} (h : posM l f = none) : Builtin.Str.occurrences (W l) (W f) 0 (W l).length 1 = [] := by
  rcases StrLaws.occ_head (W l) (W f) 1 (Nat.le_refl _) with ⟨h1, _⟩ | ⟨i, r, _, h2, _⟩
  · exact h1
  · obtain ⟨h3, h4⟩ := at_W.mp h2
    exact absurd h4 (posM_none.mp h i h3)
theorem occ_some {l f : List Bool} {i : Nat} (h : posM l f = some i) : ∃ r, Builtin.Str.occurrences (W l) (W f) 0 (W l).length 1 = i :: r := by
  obtain ⟨p1, p2, p3⟩ := posM_some.mp h
  rcases StrLaws.occ_head (W l) (W f) 1 (Nat.le_refl _) with ⟨_, h2⟩ | ⟨j, r, h1, h2, h3⟩
  · exact absurd (at_W.mpr ⟨p1, p2⟩) (h2 i)
  · obtain ⟨q1, q2⟩ := at_W.mp h2
    have e : j = i := by
      rcases Nat.lt_trichotomy i j with c | c | c
      · exact absurd (at_W.mpr ⟨p1, p2⟩) (h3 i c)
      · exact c.symm
      · exact absurd q2 (p3 j c)
    subst e
    exact ⟨r, h1⟩
theorem find_W {l f : List Bool} {i : Nat} (h : posM l f = some i) : Txt.find (W l) (W f) = (i : Int) := by
  obtain ⟨r, e⟩ := occ_some h
  unfold Txt.find
  rw [e]
theorem posM_end (l f : List Bool) : ∃ i, posM (l ++ f) f = some i ∧ i ≤ l.length := by
  cases e : posM (l ++ f) f with
  | none =>
    refine absurd ?_ (posM_none.mp e l.length (by rw [List.length_append]; omega))
    rw [List.drop_left]
    exact List.prefix_refl _
  | some i =>
    refine ⟨i, rfl, ?_⟩
    obtain ⟨_, _, h3⟩ := posM_some.mp e
    rcases Nat.lt_or_ge l.length i with c | c
    · refine absurd ?_ (h3 _ c)
      rw [List.drop_left]
      exact List.prefix_refl _
    · exact c
end U

set_option maxRecDepth 100000
namespace U
theorem nodup1 {α : Type} (a : α) : [a].Nodup := by simp
theorem tl_nil (w : Nat) : tl w [] = [] := by unfold tl; simp
/-! flags in lines -/
/-- a flag ahead of the one at the end -/
def SpL (f l : List Bool) : Prop := ∃ i, i < l.length ∧ f <+: (l ++ f).drop i
theorem posM_sp {f l : List Bool} : posM (l ++ f) f = some l.length ↔ ¬ SpL f l := by
  constructor
  · intro h ⟨i, hi, hp⟩
    exact (posM_some.mp h).2.2 i hi hp
  · intro h
    refine posM_some.mpr ⟨by rw [List.length_append]; omega, by rw [List.drop_left]; exact List.prefix_refl _, fun k hk hp => h ⟨k, hk, hp⟩⟩
theorem pre_cut {f a r : List Bool} {i : Nat} (h : f <+: (a ++ r).drop i) (hi : i + f.length ≤ a.length) : f <+: a.drop i := by
  rw [List.prefix_iff_eq_take] at h ⊢
  rw [List.drop_append_of_le_length (by omega), List.take_append_of_le_length (by rw [List.length_drop]; omega)] at h
  exact h
theorem pre_ext {f a r : List Bool} {i : Nat} (h : f <+: a.drop i) (hi : i ≤ a.length) : f <+: (a ++ r).drop i := by
  rw [List.drop_append_of_le_length hi]
  exact h.trans (List.prefix_append _ _)
theorem drop_add' (u v : List Bool) (j : Nat) : (u ++ v).drop (u.length + j) = v.drop j := by
  rw [← List.drop_drop, List.drop_left]
/-- f stands in l -/
def infx (f l : List Bool) : Bool := (posM l f).isSome
theorem infx_iff {f l : List Bool} : infx f l = true ↔ ∃ i, i ≤ l.length ∧ f <+: l.drop i := by
  unfold infx
  cases e : posM l f with
  | none =>
    constructor
    · intro h; cases h
    · rintro ⟨i, hi, hp⟩
      exact absurd hp (posM_none.mp e i hi)
  | some i =>
    obtain ⟨h1, h2, _⟩ := posM_some.mp e
    exact ⟨fun _ => ⟨i, h1, h2⟩, fun _ => rfl⟩
theorem infx_false {f l : List Bool} : infx f l = false ↔ ∀ i, i ≤ l.length → ¬ f <+: l.drop i := by
  rw [← Bool.not_eq_true, infx_iff]
  constructor
  · intro h i hi hp; exact h ⟨i, hi, hp⟩
  · rintro h ⟨i, hi, hp⟩; exact h i hi hp
def bordM (f l : List Bool) : Bool := decide (posM (l ++ f) f = some l.length)
theorem bordM_iff {f l : List Bool} : bordM f l = true ↔ ¬ SpL f l := by
  unfold bordM
  rw [decide_eq_true_iff]
  exact posM_sp
theorem tl_split (n : Nat) (l : List Bool) : l = l.take (l.length - n) ++ tl n l := by unfold tl; rw [List.take_append_drop]
theorem SpL.infx {f l : List Bool} (hf : f ≠ []) (h : U.infx f l = true) : SpL f l := by
  obtain ⟨i, hi, hp⟩ := infx_iff.mp h
  have := hp.length_le
  rw [List.length_drop] at this
  have h0 : 0 < f.length := List.length_pos_iff.mpr hf
  exact ⟨i, by omega, pre_ext hp hi⟩
theorem sp_front {f u v : List Bool} (h : SpL f v) : SpL f (u ++ v) := by
  obtain ⟨i, hi, hp⟩ := h
  refine ⟨u.length + i, by rw [List.length_append]; omega, ?_⟩
  rw [List.append_assoc, drop_add']
  exact hp
/-- the test of one step -/
theorem sp_step {f l st y : List Bool} {w : Nat} (hf : f ≠ []) (hw : f.length ≤ w + 1) (hst : st = tl w l) (hl : ¬ SpL f l) : SpL f (l ++ y) ↔ (infx f (st ++ y) = true ∨ SpL f (tl w (st ++ y))) := by
  have h0 : 0 < f.length := List.length_pos_iff.mpr hf
  have el := tl_split w l
  rw [← hst] at el
  generalize hu : l.take (l.length - w) = u at el
  have lu : u.length = l.length - w := by rw [← hu, List.length_take]; omega
  have ly : l ++ y = u ++ (st ++ y) := by rw [← List.append_assoc, ← el]
  have lst : st.length = min w l.length := by rw [hst, tl_len]
  constructor
  · rintro ⟨i, hi, hp⟩
    by_cases c : i + f.length ≤ (l ++ y).length
    · left
      have h1 := pre_cut hp c
      by_cases c2 : i + f.length ≤ l.length
      · exfalso
        have h2 := pre_cut h1 c2
        exact hl ⟨i, by omega, pre_ext h2 (by omega)⟩
      · have hiu : u.length ≤ i := by omega
        refine infx_iff.mpr ⟨i - u.length, by rw [List.length_append] at hi ⊢; omega, ?_⟩
        rw [ly, show i = u.length + (i - u.length) by omega, drop_add'] at h1
        exact h1
    · right
      -- the line's last bits
      have e2 := tl_split w (st ++ y)
      generalize hv : (st ++ y).take ((st ++ y).length - w) = v at e2
      have lv : v.length = (st ++ y).length - w := by rw [← hv, List.length_take]; omega
      have e3 : l ++ y = (u ++ v) ++ tl w (st ++ y) := by rw [List.append_assoc, ← e2]; exact ly
      have l3 : (l ++ y).length = u.length + v.length + (tl w (st ++ y)).length := by rw [e3, List.length_append, List.length_append]
      have l4 : (tl w (st ++ y)).length = min w (st ++ y).length := tl_len _ _
      have l5 : (st ++ y).length = st.length + y.length := List.length_append
      have l6 : (l ++ y).length = l.length + y.length := List.length_append
      refine ⟨i - (u ++ v).length, ?_, ?_⟩
      · rw [List.length_append]; omega
      · have hge : (u ++ v).length ≤ i := by rw [List.length_append]; omega
        rw [e3, List.append_assoc, show i = (u ++ v).length + (i - (u ++ v).length) by omega, drop_add'] at hp
        exact hp
  · rintro (h | h)
    · rw [ly]
      exact sp_front (SpL.infx hf h)
    · have e2 := tl_split w (st ++ y)
      rw [ly, e2, ← List.append_assoc]
      exact sp_front h
/-! the walk over standings -/
def wid (ss : List Stf) (f : List Bool) : Nat := max (ss.foldr (fun s m => max s.1.length m) 0) f.length - 1
def edge (ss : List Stf) (f : List Bool) (w : Nat) (st : List Bool) (b : Bool) : Option (List Bool) :=
  if infx f (itP ss 40 (st ++ [b])) || !bordM f (tl w (itP ss 40 (st ++ [b]))) then none else some (tl w (itP ss 40 (st ++ [b])))
theorem bodyF_snoc (ss : List Stf) (m : List Bool) (b : Bool) : bodyF ss (m ++ [b]) = itP ss 40 (bodyF ss m ++ [b]) := by unfold bodyF; rw [List.foldl_append]; rfl
theorem ins40 {ss : List Stf} (o : OkN 39 ss) (m : List Bool) (b : Bool) : ∃ x, Ins ss (bodyF ss m ++ [b]) x ∧ x.length ≤ 39 ∧ bodyF ss (m ++ [b]) = bodyF ss m ++ [b] ++ x := by
  obtain ⟨x, hx, hl⟩ := o _ (body_ex o m).reach b
  refine ⟨x, hx, hl, ?_⟩
  rw [bodyF_snoc, hx.itP, List.take_of_length_le (by omega)]
/-- the standing of a message -/
def stand (ss : List Stf) (w : Nat) (m : List Bool) : List Bool := tl w (bodyF ss m)
theorem edge_at {ss : List Stf} {f : List Bool} {w : Nat} (o : OkN 39 ss) (hf : f ≠ []) (hw : f.length ≤ w + 1) (hL : ∀ s ∈ ss, s.1.length ≤ w + 1) {m : List Bool} (hm : ¬ SpL f (bodyF ss m)) (b : Bool) :
    (∃ x, Ins ss (stand ss w m ++ [b]) x ∧ x.length ≤ 39 ∧ itP ss 40 (stand ss w m ++ [b]) = stand ss w m ++ [b] ++ x) ∧
    (SpL f (bodyF ss (m ++ [b])) → edge ss f w (stand ss w m) b = none) ∧ (¬ SpL f (bodyF ss (m ++ [b])) → edge ss f w (stand ss w m) b = some (stand ss w (m ++ [b]))) := by
  obtain ⟨x, hx, hl, eb⟩ := ins40 o m b
  have et : tl (w + 1) (bodyF ss m ++ [b]) = tl (w + 1) (stand ss w m ++ [b]) := by
    rw [tl_snoc0, tl_snoc0]
    unfold stand
    rw [tl_tl (Nat.le_refl w)]
  have hx2 : Ins ss (stand ss w m ++ [b]) x := hx.tl hL et
  have e40 : itP ss 40 (stand ss w m ++ [b]) = stand ss w m ++ [b] ++ x := by rw [hx2.itP, List.take_of_length_le (by omega)]
  have key := sp_step (y := [b] ++ x) hf hw (show stand ss w m = tl w (bodyF ss m) from rfl) hm
  rw [← List.append_assoc, ← List.append_assoc] at key
  have etl : tl w (stand ss w m ++ [b] ++ x) = stand ss w (m ++ [b]) := by
    unfold stand
    rw [eb, List.append_assoc, List.append_assoc]
    exact tl_app (tl_tl (Nat.le_refl w) _) _
  refine ⟨⟨x, hx2, hl, e40⟩, fun h => ?_, fun h => ?_⟩
  · rw [eb] at h
    unfold edge
    rw [e40]
    rcases key.mp h with h1 | h1
    · rw [h1]; rfl
    · have : bordM f (tl w (stand ss w m ++ [b] ++ x)) = false := by
        rw [← Bool.not_eq_true, bordM_iff]
        exact fun z => z h1
      rw [this, Bool.not_false, Bool.or_true]
      rfl
  · rw [eb] at h
    unfold edge
    rw [e40]
    have h1 : infx f (stand ss w m ++ [b] ++ x) = false := by
      rw [← Bool.not_eq_true]
      exact fun z => h (key.mpr (.inl z))
    have h2 : bordM f (tl w (stand ss w m ++ [b] ++ x)) = true := bordM_iff.mpr fun z => h (key.mpr (.inr z))
    rw [h1, h2, etl]
    rfl
/-- a word as a number -/
def num (m : List Bool) : Nat := m.foldl (fun n b => 2 * n + (if b then 1 else 0)) 0
theorem num_snoc (m : List Bool) (b : Bool) : num (m ++ [b]) = 2 * num m + (if b then 1 else 0) := by unfold num; rw [List.foldl_append]; rfl
/-- how things stand ahead of a layer -/
structure WkL (ss : List Stf) (f : List Bool) (w n : Nat) (kn : List (List Bool)) (ly : List (List Bool × List Bool)) : Prop where
  a : ∀ m, m.length ≤ n → ¬ SpL f (bodyF ss m)
  nd : kn.Nodup
  sh : ∀ t ∈ kn, t.length ≤ w
  g : ∀ t ∈ kn, ∃ m, m.length ≤ n ∧ t = stand ss w m
  nil : [] ∈ kn
  l1 : ∀ p ∈ ly, p.1.length = n ∧ p.2 = stand ss w p.1 ∧ p.2 ∈ kn
  srt : ly.Pairwise fun p q => num p.1 < num q.1
  d : ∀ t ∈ kn, (∃ p ∈ ly, p.2 = t) ∨ ∀ b, ∃ u ∈ kn, edge ss f w t b = some u
  e : ∀ m, m.length = n → (∀ b, ∃ u ∈ kn, edge ss f w (stand ss w m) b = some u) ∨ ∃ p ∈ ly, p.2 = stand ss w m ∧ num p.1 ≤ num m
def Dn (ly : List (List Bool × List Bool)) (i : Nat) (c : Bool) (p : List Bool × List Bool) (b : Bool) : Prop := p ∈ ly.take i ∨ (c = true ∧ ly[i]? = some p ∧ b = false)
/-- within a layer: the edges of the first i are done, and the first one of the next if c -/
structure WkE (ss : List Stf) (f : List Bool) (w n : Nat) (k0 : List (List Bool)) (ly : List (List Bool × List Bool)) (i : Nat) (c : Bool) (kn : List (List Bool)) (lt : List (List Bool × List Bool)) : Prop where
  nd : kn.Nodup
  sh : ∀ t ∈ kn, t.length ≤ w
  g : ∀ t ∈ kn, ∃ m, m.length ≤ n + 1 ∧ t = stand ss w m
  sub : ∀ t ∈ k0, t ∈ kn
  app : kn.length = k0.length + lt.length
  l1 : ∀ p ∈ lt, p.1.length = n + 1 ∧ p.2 = stand ss w p.1 ∧ p.2 ∈ kn
  srt : lt.Pairwise fun p q => num p.1 < num q.1
  ltd : ∀ p ∈ lt, ∃ q b, Dn ly i c q b ∧ p.1 = q.1 ++ [b]
  new : ∀ t ∈ kn, t ∈ k0 ∨ ∃ p ∈ lt, p.2 = t
  ed : ∀ q b, Dn ly i c q b → ∃ u ∈ kn, edge ss f w q.2 b = some u ∧ (u ∈ k0 ∨ ∃ p ∈ lt, p.2 = u ∧ num p.1 ≤ num (q.1 ++ [b]))
theorem WkE.start {ss : List Stf} {f : List Bool} {w n : Nat} {kn : List (List Bool)} {ly : List (List Bool × List Bool)} (h : WkL ss f w n kn ly) : WkE ss f w n kn ly 0 false kn [] :=
  ⟨h.nd, h.sh, fun t ht => by obtain ⟨m, h1, h2⟩ := h.g t ht; exact ⟨m, by omega, h2⟩, fun _ h => h, rfl, (fun _ h => nomatch h), .nil, (fun _ h => nomatch h), fun t ht => .inl ht, fun q b hd => by
    rcases hd with h | ⟨h, _⟩
    · rw [List.take_zero] at h; cases h
    · cases h⟩
theorem Dn.lt {ss : List Stf} {f : List Bool} {w n : Nat} {k0 : List (List Bool)} {ly : List (List Bool × List Bool)} (h : WkL ss f w n k0 ly) {i : Nat} {c : Bool} {p : List Bool × List Bool} (hp : ly[i]? = some p) {q : List Bool × List Bool} {b : Bool} (hd : Dn ly i c q b) : num (q.1 ++ [b]) < num (p.1 ++ [c]) := by
  rw [num_snoc, num_snoc]
  rcases hd with h1 | ⟨rfl, h1, rfl⟩
  · have hi := (List.getElem?_eq_some_iff.mp hp).1
    have hs : ly = ly.take i ++ ly.drop i := (List.take_append_drop i ly).symm
    have hpd : p ∈ ly.drop i := by
      rw [List.drop_eq_getElem_cons hi]
      rw [List.getElem?_eq_getElem hi] at hp
      rw [Option.some.inj hp]
      exact List.mem_cons_self
    have := h.srt
    rw [hs] at this
    have := (List.pairwise_append.mp this).2.2 q h1 p hpd
    split <;> split <;> omega
  · rw [hp] at h1
    rw [Option.some.inj h1]
    simp
/-- the edges that are done grow by one -/
theorem Dn.step {ly : List (List Bool × List Bool)} {i : Nat} {c : Bool} {p : List Bool × List Bool} (hp : ly[i]? = some p) {q : List Bool × List Bool} {b : Bool} : Dn ly (if c then i + 1 else i) (!c) q b → Dn ly i c q b ∨ (q = p ∧ b = c) := by
  cases c with
  | false =>
    rintro (h | ⟨_, h1, h2⟩)
    · exact .inl (.inl h)
    · rw [show (if false = true then i + 1 else i) = i from rfl, hp] at h1
      exact .inr ⟨(Option.some.inj h1).symm, h2⟩
  | true =>
    rintro (h | ⟨h, _⟩)
    · rw [show (if true = true then i + 1 else i) = i + 1 from rfl, List.take_add_one, hp] at h
      rcases List.mem_append.mp h with h | h
      · exact .inl (.inl h)
      · have e : q = p := by simpa using h
        cases b with
        | false => exact .inl (.inr ⟨rfl, by rw [e]; exact hp, rfl⟩)
        | true => exact .inr ⟨e, rfl⟩
    · cases h
theorem WkE.next {ss : List Stf} {f : List Bool} {w n : Nat} (o : OkN 39 ss) (hf : f ≠ []) (hw : f.length ≤ w + 1) (hL : ∀ s ∈ ss, s.1.length ≤ w + 1) {k0 kn : List (List Bool)} {ly lt : List (List Bool × List Bool)} (h : WkL ss f w n k0 ly) {i : Nat} {c : Bool} (E : WkE ss f w n k0 ly i c kn lt) {p : List Bool × List Bool} (hp : ly[i]? = some p)
    {u : List Bool} (hu : edge ss f w p.2 c = some u) :
    (u ∈ kn → WkE ss f w n k0 ly (if c then i + 1 else i) (!c) kn lt) ∧ (u ∉ kn → WkE ss f w n k0 ly (if c then i + 1 else i) (!c) (kn ++ [u]) (lt ++ [(p.1 ++ [c], u)])) := by
  have hpm := List.mem_of_getElem? hp
  obtain ⟨p1, p2, p3⟩ := h.l1 p hpm
  have hm : ¬ SpL f (bodyF ss p.1) := h.a p.1 (by omega)
  obtain ⟨_, e1, e2⟩ := edge_at o hf hw hL hm c
  rw [← p2] at e1 e2
  have us : u = stand ss w (p.1 ++ [c]) := by
    by_cases z : SpL f (bodyF ss (p.1 ++ [c]))
    · rw [e1 z] at hu; cases hu
    · rw [e2 z] at hu; exact (Option.some.inj hu).symm
  have hdn : ∀ {q b}, Dn ly i c q b → Dn ly (if c then i + 1 else i) (!c) q b := by
    intro q b hd
    cases c with
    | false =>
      rcases hd with h | ⟨h, _⟩
      · exact .inl h
      · cases h
    | true =>
      refine .inl ?_
      rw [show (if true = true then i + 1 else i) = i + 1 from rfl, List.take_add_one, hp]
      rcases hd with h | ⟨_, h1, _⟩
      · exact List.mem_append_left _ h
      · rw [hp] at h1
        exact List.mem_append_right _ (by simp [Option.some.inj h1])
  have hpn : Dn ly (if c then i + 1 else i) (!c) p c := by
    cases c with
    | false => exact .inr ⟨rfl, hp, rfl⟩
    | true =>
      refine .inl ?_
      rw [show (if true = true then i + 1 else i) = i + 1 from rfl, List.take_add_one, hp]
      exact List.mem_append_right _ (by simp)
  constructor
  · intro hk
    refine ⟨E.nd, E.sh, E.g, E.sub, E.app, E.l1, E.srt, fun q hq => ?_, E.new, fun q b hd => ?_⟩
    · obtain ⟨q2, b, h1, h2⟩ := E.ltd q hq
      exact ⟨q2, b, hdn h1, h2⟩
    · rcases Dn.step hp hd with h1 | ⟨rfl, rfl⟩
      · exact E.ed q b h1
      · refine ⟨u, hk, hu, ?_⟩
        rcases E.new u hk with h1 | ⟨r, h1, h2⟩
        · exact .inl h1
        · refine .inr ⟨r, h1, h2, ?_⟩
          obtain ⟨q2, b2, h3, h4⟩ := E.ltd r h1
          rw [h4]
          exact Nat.le_of_lt (Dn.lt h hp h3)
  · intro hk
    refine ⟨?_, ?_, ?_, fun t ht => List.mem_append_left _ (E.sub t ht), by rw [List.length_append, List.length_append, E.app]; show _ + 1 = _ + (_ + 1); omega, ?_, ?_, ?_, ?_, ?_⟩
    · rw [List.nodup_append]
      exact ⟨E.nd, nodup1 _, fun x hx y hy z => hk (by rw [← List.mem_singleton.mp hy, ← z]; exact hx)⟩
    · intro t ht
      rcases List.mem_append.mp ht with h1 | h1
      · exact E.sh t h1
      · rw [List.mem_singleton.mp h1, us]
        exact tl_le _ _
    · intro t ht
      rcases List.mem_append.mp ht with h1 | h1
      · exact E.g t h1
      · exact ⟨p.1 ++ [c], by rw [List.length_append, p1]; exact Nat.le_refl _, by rw [List.mem_singleton.mp h1]; exact us⟩
    · intro q hq
      rcases List.mem_append.mp hq with h1 | h1
      · obtain ⟨a1, a2, a3⟩ := E.l1 q h1
        exact ⟨a1, a2, List.mem_append_left _ a3⟩
      · rw [List.mem_singleton.mp h1]
        exact ⟨by rw [List.length_append, p1]; rfl, us, List.mem_append_right _ (List.mem_singleton.mpr rfl)⟩
    · rw [List.pairwise_append]
      refine ⟨E.srt, List.pairwise_singleton _ _, fun q hq r hr => ?_⟩
      rw [List.mem_singleton.mp hr]
      obtain ⟨q2, b2, h3, h4⟩ := E.ltd q hq
      rw [h4]
      exact Dn.lt h hp h3
    · intro q hq
      rcases List.mem_append.mp hq with h1 | h1
      · obtain ⟨q2, b, h1, h2⟩ := E.ltd q h1
        exact ⟨q2, b, hdn h1, h2⟩
      · rw [List.mem_singleton.mp h1]
        exact ⟨p, c, hpn, rfl⟩
    · intro t ht
      rcases List.mem_append.mp ht with h1 | h1
      · rcases E.new t h1 with h2 | ⟨r, h2, h3⟩
        · exact .inl h2
        · exact .inr ⟨r, List.mem_append_left _ h2, h3⟩
      · exact .inr ⟨_, List.mem_append_right _ (List.mem_singleton.mpr rfl), (List.mem_singleton.mp h1).symm⟩
    · intro q b hd
      rcases Dn.step hp hd with h1 | ⟨rfl, rfl⟩
      · obtain ⟨v, h2, h3, h4⟩ := E.ed q b h1
        refine ⟨v, List.mem_append_left _ h2, h3, ?_⟩
        rcases h4 with h4 | ⟨r, h5, h6⟩
        · exact .inl h4
        · exact .inr ⟨r, List.mem_append_left _ h5, h6⟩
      · exact ⟨u, List.mem_append_right _ (List.mem_singleton.mpr rfl), hu, .inr ⟨_, List.mem_append_right _ (List.mem_singleton.mpr rfl), rfl, Nat.le_refl _⟩⟩
/-- the end of a layer -/
theorem WkE.done {ss : List Stf} {f : List Bool} {w n : Nat} (o : OkN 39 ss) (hf : f ≠ []) (hw : f.length ≤ w + 1) (hL : ∀ s ∈ ss, s.1.length ≤ w + 1) {k0 kn : List (List Bool)} {ly lt : List (List Bool × List Bool)} (h : WkL ss f w n k0 ly) (E : WkE ss f w n k0 ly ly.length false kn lt) : WkL ss f w (n + 1) kn lt := by
  have dn : ∀ {q b}, q ∈ ly → Dn ly ly.length false q b := fun hq => .inl (by rw [List.take_length]; exact hq)
  -- each message that is one bit longer
  have step : ∀ m b, m.length = n → ∃ u ∈ kn, edge ss f w (stand ss w m) b = some u ∧ (u ∈ k0 ∨ ∃ p ∈ lt, p.2 = u ∧ num p.1 ≤ num (m ++ [b])) := by
    intro m b hm
    rcases h.e m hm with h1 | ⟨p, h1, h2, h3⟩
    · obtain ⟨u, h4, h5⟩ := h1 b
      exact ⟨u, E.sub u h4, h5, .inl h4⟩
    · obtain ⟨u, h4, h5, h6⟩ := E.ed p b (dn h1)
      rw [h2] at h5
      refine ⟨u, h4, h5, ?_⟩
      rcases h6 with h6 | ⟨r, h7, h8, h9⟩
      · exact .inl h6
      · refine .inr ⟨r, h7, h8, Nat.le_trans h9 ?_⟩
        rw [num_snoc, num_snoc]
        omega
  have old : ∀ t ∈ k0, ∀ b, ∃ u ∈ kn, edge ss f w t b = some u := by
    intro t ht b
    rcases h.d t ht with ⟨p, h1, rfl⟩ | h1
    · obtain ⟨u, h4, h5, _⟩ := E.ed p b (dn h1)
      exact ⟨u, h4, h5⟩
    · obtain ⟨u, h4, h5⟩ := h1 b
      exact ⟨u, E.sub u h4, h5⟩
  have cut : ∀ m : List Bool, m.length = n + 1 → ∃ m' b, m = m' ++ [b] ∧ m'.length = n := by
    intro m hm
    rcases List.eq_nil_or_concat m with z | ⟨m', b, z⟩
    · rw [z] at hm; cases hm
    · rw [List.concat_eq_append] at z
      exact ⟨m', b, z, by rw [z, List.length_append] at hm; simpa using hm⟩
  have unsp : ∀ m b, m.length = n → ¬ SpL f (bodyF ss (m ++ [b])) ∧ edge ss f w (stand ss w m) b = some (stand ss w (m ++ [b])) := by
    intro m b hm
    obtain ⟨u, _, h2, _⟩ := step m b hm
    obtain ⟨_, e1, e2⟩ := edge_at o hf hw hL (h.a m (by omega)) b
    have hn : ¬ SpL f (bodyF ss (m ++ [b])) := fun z => by rw [e1 z] at h2; cases h2
    exact ⟨hn, e2 hn⟩
  refine ⟨fun m hm => ?_, E.nd, E.sh, E.g, E.sub _ h.nil, E.l1, E.srt, fun t ht => ?_, fun m hm => ?_⟩
  · rcases Nat.lt_or_ge m.length (n + 1) with c | c
    · exact h.a m (by omega)
    · obtain ⟨m', b, rfl, h1⟩ := cut m (by omega)
      exact (unsp m' b h1).1
  · rcases E.new t ht with h1 | h1
    · exact .inr (old t h1)
    · exact .inl h1
  · obtain ⟨m', b, rfl, h1⟩ := cut m hm
    obtain ⟨u, h2, h3, h4⟩ := step m' b h1
    rw [(unsp m' b h1).2] at h3
    have eu := Option.some.inj h3
    rw [eu]
    rcases h4 with h4 | h4
    · exact .inl (old u h4)
    · exact .inr h4
/-- m is the first spoiled message -/
def FirstSp (ss : List Stf) (f m : List Bool) : Prop := SpL f (bodyF ss m) ∧ ∀ m', (m'.length < m.length ∨ (m'.length = m.length ∧ num m' < num m)) → ¬ SpL f (bodyF ss m')
theorem WkE.bad {ss : List Stf} {f : List Bool} {w n : Nat} (o : OkN 39 ss) (hf : f ≠ []) (hw : f.length ≤ w + 1) (hL : ∀ s ∈ ss, s.1.length ≤ w + 1) {k0 kn : List (List Bool)} {ly lt : List (List Bool × List Bool)} (h : WkL ss f w n k0 ly) {i : Nat} {c : Bool} (E : WkE ss f w n k0 ly i c kn lt) {p : List Bool × List Bool} (hp : ly[i]? = some p)
    (hu : edge ss f w p.2 c = none) : FirstSp ss f (p.1 ++ [c]) := by
  have hpm := List.mem_of_getElem? hp
  obtain ⟨p1, p2, p3⟩ := h.l1 p hpm
  obtain ⟨_, e1, e2⟩ := edge_at o hf hw hL (h.a p.1 (by omega)) c
  rw [← p2] at e2
  refine ⟨?_, fun m' hm' => ?_⟩
  · by_cases z : SpL f (bodyF ss (p.1 ++ [c]))
    · exact z
    · rw [e2 z] at hu; cases hu
  · rw [List.length_append, p1] at hm'
    simp only [List.length_cons, List.length_nil] at hm'
    rcases hm' with h1 | ⟨h1, h2⟩
    · exact h.a m' (by omega)
    · have : ∃ v b, m' = v ++ [b] ∧ v.length = n := by
        rcases List.eq_nil_or_concat m' with z | ⟨v, b, z⟩
        · rw [z] at h1; simp at h1
        · rw [List.concat_eq_append] at z
          exact ⟨v, b, z, by rw [z, List.length_append] at h1; simpa using h1⟩
      obtain ⟨v, b, rfl, hv⟩ := this
      obtain ⟨_, f1, f2⟩ := edge_at o hf hw hL (h.a v (by omega)) b
      intro z
      have hz := f1 z
      rcases h.e v hv with h3 | ⟨q, h3, h4, h5⟩
      · obtain ⟨u, _, h6⟩ := h3 b
        rw [hz] at h6; cases h6
      · have hd : Dn ly i c q b := by
          obtain ⟨j, hj⟩ := List.getElem?_of_mem h3
          rcases Nat.lt_trichotomy j i with c1 | c1 | c1
          · exact .inl (List.mem_of_getElem? (i := j) (by rw [List.getElem?_take, if_pos c1]; exact hj))
          · subst c1
            rw [hp] at hj
            have eq := Option.some.inj hj
            subst eq
            rw [num_snoc, num_snoc] at h2
            cases c with
            | false =>
              exfalso
              simp only [Bool.false_eq_true, if_false] at h2
              split at h2 <;> omega
            | true =>
              cases b with
              | false => exact .inr ⟨rfl, hp, rfl⟩
              | true =>
                exfalso
                simp only [if_true] at h2
                omega
          · exfalso
            have hjl := (List.getElem?_eq_some_iff.mp hj).1
            have := List.pairwise_iff_getElem.mp h.srt i j (by omega) hjl c1
            rw [List.getElem?_eq_getElem (by omega)] at hp
            rw [List.getElem?_eq_getElem hjl] at hj
            rw [Option.some.inj hp, Option.some.inj hj] at this
            rw [num_snoc, num_snoc] at h2
            split at h2 <;> split at h2 <;> omega
        obtain ⟨u, _, h6, _⟩ := E.ed q b hd
        rw [h4, hz] at h6
        cases h6
/-- the standings of a clean rule -/
structure Paper (ss : List Stf) (f : List Bool) (w : Nat) (kn : List (List Bool)) : Prop where
  nd : kn.Nodup
  sh : ∀ t ∈ kn, t.length ≤ w
  nil : [] ∈ kn
  cl : ∀ t ∈ kn, ∀ b, ∃ u ∈ kn, edge ss f w t b = some u
  g : ∀ t ∈ kn, ∃ m, t = stand ss w m
theorem WkL.clean {ss : List Stf} {f : List Bool} {w n : Nat} (o : OkN 39 ss) (hf : f ≠ []) (hw : f.length ≤ w + 1) (hL : ∀ s ∈ ss, s.1.length ≤ w + 1) {kn : List (List Bool)} (h : WkL ss f w n kn []) : Paper ss f w kn ∧ ∀ m, ¬ SpL f (bodyF ss m) := by
  have cl : ∀ t ∈ kn, ∀ b, ∃ u ∈ kn, edge ss f w t b = some u := fun t ht => by
    rcases h.d t ht with ⟨p, h1, _⟩ | h1
    · cases h1
    · exact h1
  refine ⟨⟨h.nd, h.sh, h.nil, cl, fun t ht => by obtain ⟨m, _, e⟩ := h.g t ht; exact ⟨m, e⟩⟩, ?_⟩
  have all : ∀ k m, m.length = k → ¬ SpL f (bodyF ss m) ∧ stand ss w m ∈ kn := by
    intro k
    induction k with
    | zero =>
      intro m hm
      have : m = [] := List.length_eq_zero_iff.mp hm
      subst this
      exact ⟨h.a [] (Nat.zero_le _), by show tl w [] ∈ kn; rw [tl_nil]; exact h.nil⟩
    | succ k ih =>
      intro m hm
      rcases List.eq_nil_or_concat m with z | ⟨v, b, z⟩
      · rw [z] at hm; cases hm
      · rw [List.concat_eq_append] at z
        subst z
        obtain ⟨h1, h2⟩ := ih v (by rw [List.length_append] at hm; simpa using hm)
        obtain ⟨u, h3, h4⟩ := cl _ h2 b
        obtain ⟨_, e1, e2⟩ := edge_at o hf hw hL h1 b
        have hn : ¬ SpL f (bodyF ss (v ++ [b])) := fun z => by rw [e1 z] at h4; cases h4
        rw [e2 hn] at h4
        exact ⟨hn, by rw [Option.some.inj h4]; exact h3⟩
  exact fun m => (all m.length m rfl).1
theorem WkL.begin {ss : List Stf} {f : List Bool} {w : Nat} : WkL ss f w 0 [[]] [([], [])] := by
  have st0 : stand ss w [] = [] := tl_nil w
  have z0 : ∀ m : List Bool, m.length ≤ 0 → m = [] := fun m h => List.length_eq_zero_iff.mp (by omega)
  refine ⟨fun m hm => ?_, nodup1 _, fun t ht => by rw [List.mem_singleton.mp ht]; exact Nat.zero_le _, fun t ht => ⟨[], Nat.le_refl _, by rw [List.mem_singleton.mp ht, st0]⟩, List.mem_singleton.mpr rfl, fun p hp => by rw [List.mem_singleton.mp hp]; exact ⟨rfl, st0.symm, List.mem_singleton.mpr rfl⟩, List.pairwise_singleton _ _, fun t ht => .inl ⟨_, List.mem_singleton.mpr rfl, (List.mem_singleton.mp ht).symm⟩, fun m hm => .inr ⟨_, List.mem_singleton.mpr rfl, ?_, ?_⟩⟩
  · rw [z0 m hm]
    rintro ⟨i, hi, _⟩
    exact absurd hi (Nat.not_lt_zero _)
  · rw [z0 m (by omega)]; exact st0.symm
  · rw [z0 m (by omega)]; exact Nat.le_refl _
end U

set_option maxRecDepth 100000
set_option maxHeartbeats 4000000
namespace U
open PySem PySem.Spec PyProof.Rows
open L2 hiding Fun CX0 E0 pass0 Fun.binds
open C8 Lx SX StX
theorem Body.det {ss : List Stf} : ∀ {m l l' : List Bool}, Body ss m l → Body ss m l' → l = l' := by
  intro m l l' h
  induction h generalizing l' with
  | nil =>
    intro h'
    generalize e : ([] : List Bool) = m at h'
    cases h' with
    | nil => rfl
    | snoc _ _ => have := congrArg List.length e; simp at this
  | @snoc m l x b hb hi ih =>
    intro h'
    generalize e : m ++ [b] = m' at h'
    cases h' with
    | nil => have := congrArg List.length e; simp at this
    | @snoc m2 l2 x2 b2 hb2 hi2 =>
      obtain ⟨rfl, e2⟩ := List.append_inj' e rfl
      cases (List.cons.inj e2).1
      have el := ih hb2
      subst el
      rw [hi.det hi2]
def spPutB (C : Addr) : Sp := fun vs H Q _ => ∃ (a : Addr) (f : List Bool) (ss : List Stf) (l x : List Bool), vs = [.ref a, .str (W l)] ∧ RuAt C H a f ss ∧ l.length ≤ 50000 ∧ x.length ≤ 1000 ∧ Ins ss l x ∧ ∀ H', Same H H' → Q (.str (W x)) H'
def spBody (C : Addr) : Sp := fun vs H Q _ => ∃ (a : Addr) (f : List Bool) (ss : List Stf) (m : List Bool), vs = [.ref a, .str (W m)] ∧ RuAt C H a f ss ∧ m.length ≤ 1000 ∧ OkN 39 ss ∧ ∀ l H', Body ss m l → l.length ≤ 40 * m.length → Same H H' → Q (.str (W l)) H'
section
variable {P : Program} {w : World} {K : PySem.W.Frag} {mg : Str → Option Value} {base : Heap}
theorem sc_put_behind : FnScope ["rule", "line", "found", "bit"] ["rule", "line"] (fnScope s_put_behind) := fnScope_by (by decide +kernel)
theorem cal_put_behind {f C : Addr} {fd : FuncData} (F : Def K mg "put_behind" s_put_behind f fd) (b : Binds K fd ["rule", "line"] []) (T : Tx mg) (c_put : Met P w K mg base 1 C "put" (spPut C) []) : Cal P w K mg base 3 "put_behind" (spPutB C) [] := by
  refine cal0 F b .nil sc_put_behind (fun vs H Q E h => ?_) (fun cdv A outer s H vs Q E hr h => ?_)
  · obtain ⟨_, _, _, _, _, rfl, _⟩ := h; rfl
  · obtain ⟨a, fl, ss, l, x, rfl, hR, hl, hx, hI, k⟩ := h
    refine ⟨_, (pss_cons (ps_par (i := 2) (j := 3) (by rfl) sc_put_behind.nd rfl rfl (by decide) rfl rfl (pa_cons pe_str (pa_cons (pe_mt (pl := _) c_put hr (by decide) (pv 0) (pa_cons (pv 1) pa_nil)) pa_nil)) (by rfl))
    (pss_cons (ps_while PassesOwn.never (pt_cmpR op_notN (pv 3) pe_non (nomark _))
    (pss_cons (ps_set (i := 2) sc_put_behind.nd rfl (.inl rfl) (pe_op op_add_str (pv 2) (pv 3)))
    (pss_one (ps_set (i := 3) sc_put_behind.nd rfl (.inl rfl) (pe_mt (pl := _) c_put hr (by decide) (pv 0) (pa_cons (pe_op op_add_str (pv 1) (pv 2)) pa_nil))))))
    (pss_one (ps_ret (pv 2))))), ?_⟩
    have hat : ∀ {H2 : Hp}, Same H H2 → ∃ dx t, H2 a = some (.ins C dx (ruF fl t)) := fun s2 => by
      obtain ⟨dx, t, _, _, ha, _⟩ := hR.same s2
      exact ⟨dx, t, ha⟩
    obtain ⟨dx, t, ha⟩ := hat (Same.refl H)
    refine ⟨_, rfl, a, dx, _, rfl, ha, ruF_no _ _ (by decide +kernel) (by decide +kernel), _, rfl, a, fl, ss, l, rfl, hR, fun H2 s2 => ⟨_, _, rfl, ?_⟩⟩
    have e1 : (W l).length = l.length := W_len l
    refine ⟨fun m σ H3 => ∃ (j : Nat), j + m = x.length ∧ σ = [some (.ref a), some (.str (W l)), some (.str (W (x.take j))), some (oB (putM ss (l ++ x.take j)))] ∧ Same H H3,
      ⟨x.length, 0, by omega, by rw [List.take_zero, List.append_nil, ← W_nil]; rfl, s2⟩, ?_⟩
    rintro m σ H3 ⟨j, hj, rfl, s3⟩
    refine ⟨_, rfl, rfl, _, rfl, ?_⟩
    rw [oB_non]
    by_cases hlt : j < x.length
    · have hb : x[j]? = some x[j] := List.getElem?_eq_getElem hlt
      have hput := hI.at hb
      rw [hput]
      have lx : (x.take j).length ≤ 1000 := by rw [List.length_take]; omega
      have e2 : (W (x.take j)).length = (x.take j).length := W_len _
      have e3 : (W [x[j]]).length = 1 := W_len _
      refine ⟨fun σ' H' => ∃ m', m' < m ∧ ∃ (j : Nat), j + m' = x.length ∧ σ' = [some (.ref a), some (.str (W l)), some (.str (W (x.take j))), some (oB (putM ss (l ++ x.take j)))] ∧ Same H H', fun _ _ h => h, ?_⟩
      have et : x.take (j + 1) = x.take j ++ [x[j]] := by rw [List.take_add_one, hb]; rfl
      refine ⟨_, rfl, _, rfl, _, _, rfl, rfl, by rw [e2, e3]; exact sl_len (by omega), ?_⟩
      rw [W_cat, ← et]
      have e4 : (W (x.take (j + 1))).length = (x.take (j + 1)).length := W_len _
      obtain ⟨dx5, t5, ha5⟩ := hat s3
      refine ⟨_, rfl, a, dx5, _, rfl, ha5, ruF_no _ _ (by decide +kernel) (by decide +kernel), _, rfl, _, rfl, _, _, rfl, rfl, by rw [e1, e4, et, List.length_append]; exact sl_len (by simp only [List.length_cons, List.length_nil]; omega), ?_⟩
      refine ⟨a, fl, ss, l ++ x.take (j + 1), by rw [← W_cat]; rfl, hR.same s3, fun H6 s6 => ?_⟩
      exact ⟨m - 1, by omega, j + 1, by omega, rfl, s3.trans s6⟩
    · have hj' : j = x.length := by omega
      subst hj'
      rw [List.take_length, hI.end]
      exact ⟨_, rfl, k H3 s3⟩
theorem sc_body : FnScope ["rule", "message", "line", "bit"] ["rule", "message"] (fnScope s_body) := fnScope_by (by decide +kernel)
theorem cal_body {f C : Addr} {fd : FuncData} (F : Def K mg "body" s_body f fd) (b : Binds K fd ["rule", "message"] []) (T : Tx mg) (c_put_behind : Cal P w K mg base 3 "put_behind" (spPutB C) []) : Cal P w K mg base 4 "body" (spBody C) [] := by
  refine cal0 F b .nil sc_body (fun vs H Q E h => ?_) (fun cdv A outer s H vs Q E hr h => ?_)
  · obtain ⟨_, _, _, _, rfl, _⟩ := h; rfl
  · obtain ⟨a, fl, ss, m, rfl, hR, hm, hO, k⟩ := h
    refine ⟨_, (pss_cons (ps_set (i := 2) sc_body.nd rfl (.inl rfl) pe_str)
    (pss_cons (ps_for PassesOwn.never rfl (pi_str (pv 1)) (pg_name (i := 3) sc_body.nd rfl (.inl rfl))
    (pss_cons (ps_set (i := 2) sc_body.nd rfl (.inl rfl) (pe_op op_add_str (pv 2) (pv 3)))
    (pss_one (ps_set (i := 2) sc_body.nd rfl (.inl rfl) (pe_op op_add_str (pv 2) (pe_c c_put_behind hr (by decide) rfl (pa_cons (pv 0) (pa_cons (pv 2) pa_nil))))))))
    (pss_one (ps_ret (pv 2))))), ?_⟩
    obtain ⟨g, g0, g1, g2⟩ := body_steps hO m
    refine ⟨_, rfl, W m, rfl, for_it walk_str (fun i σ H2 => ∃ v3 : Option V, σ = [some (.ref a), some (.str (W m)), some (.str (W (g i))), v3] ∧ Same H H2) ⟨none, by rw [g0, ← W_nil]; rfl, Same.refl _⟩ (fun _ _ _ _ _ => trivial) ?_ ?_⟩
    · rintro i x σ H2 H3 hi ⟨v3, rfl, s2⟩ ⟨rfl, c, hc, rfl⟩
      obtain ⟨bb, hbb, rfl⟩ := W_get hc
      have hi' := (List.getElem?_eq_some_iff.mp hbb).1
      obtain ⟨x, hx, hx19, eg⟩ := g1 i bb hbb
      have hl := (g2 i (Nat.le_of_lt hi')).2
      have e1 : (W (g i)).length = (g i).length := W_len _
      have e2 : (⟨#[bt bb]⟩ : Str).length = 1 := W_len [bb]
      have ew : W (g i) ++ (⟨#[bt bb]⟩ : Str) = W (g i ++ [bb]) := W_cat (g i) [bb]
      refine ⟨_, rfl, _, rfl, _, _, rfl, rfl, by rw [e1, e2]; exact sl_len (by omega), ?_⟩
      rw [ew]
      have e3 : (W (g i ++ [bb])).length = (g i ++ [bb]).length := W_len _
      have l3 : (g i ++ [bb]).length = (g i).length + 1 := by rw [List.length_append]; rfl
      refine ⟨_, rfl, _, rfl, _, rfl, a, fl, ss, g i ++ [bb], x, rfl, hR.same s2, by omega, by omega, hx, fun H4 s4 => ⟨_, _, rfl, rfl, by rw [e3, W_len]; exact sl_len (by omega), ?_⟩⟩
      rw [W_cat, ← eg]
      exact ⟨_, rfl, s2.trans s4⟩
    · rintro σ H2 ⟨v3, rfl, s2⟩
      have g3 := g2 m.length (Nat.le_refl _)
      rw [List.take_length] at g3
      refine ⟨_, rfl, ?_⟩
      rw [W_size]
      exact k _ H2 g3.1 g3.2 s2
end
end U

set_option maxRecDepth 100000
set_option maxHeartbeats 4000000
namespace U
open PySem PySem.Spec PyProof.Rows
open L2 hiding Fun CX0 E0 pass0 Fun.binds
open C8 Lx SX StX
/-! all words of a size, ascending -/
def wdsP : Nat → List (List Bool)
  | 0 => [[]]
  | n + 1 => (wdsP n).map (false :: ·) ++ (wdsP n).map (true :: ·)
theorem wdsP_len : ∀ n, (wdsP n).length = 2 ^ n
  | 0 => rfl
  | n + 1 => by
    show ((wdsP n).map (false :: ·) ++ (wdsP n).map (true :: ·)).length = _
    rw [List.length_append, List.length_map, List.length_map, wdsP_len n, Nat.pow_succ]
    omega
theorem wdsP_size : ∀ {n : Nat} {w : List Bool}, w ∈ wdsP n → w.length = n
  | 0, w, h => by rw [List.mem_singleton.mp h]; rfl
  | n + 1, w, h => by
    rcases List.mem_append.mp h with h1 | h1
    · obtain ⟨v, hv, rfl⟩ := List.mem_map.mp h1
      rw [List.length_cons, wdsP_size hv]
    · obtain ⟨v, hv, rfl⟩ := List.mem_map.mp h1
      rw [List.length_cons, wdsP_size hv]
theorem num_acc : ∀ (w : List Bool) (a : Nat), w.foldl (fun n b => 2 * n + (if b then 1 else 0)) a = a * 2 ^ w.length + num w
  | [], a => by show a = a * 1 + 0; omega
  | b :: r, a => by
    have h1 := num_acc r (2 * a + (if b then 1 else 0))
    have h2 := num_acc r (2 * 0 + (if b then 1 else 0))
    show r.foldl _ (2 * a + (if b then 1 else 0)) = a * 2 ^ (r.length + 1) + r.foldl _ (2 * 0 + (if b then 1 else 0))
    rw [h1, h2, Nat.pow_succ, Nat.add_mul, Nat.add_mul]
    have : 2 * a * 2 ^ r.length = a * (2 ^ r.length * 2) := by rw [Nat.mul_comm 2 a, Nat.mul_assoc, Nat.mul_comm 2]
    omega
theorem num_cons (b : Bool) (w : List Bool) : num (b :: w) = (if b then 2 ^ w.length else 0) + num w := by
  have := num_acc w (2 * 0 + (if b then 1 else 0))
  show w.foldl _ (2 * 0 + (if b then 1 else 0)) = _
  rw [this]
  cases b <;> simp
theorem num_lt : ∀ w : List Bool, num w < 2 ^ w.length
  | [] => by show 0 < 1; decide
  | b :: r => by
    have := num_lt r
    rw [num_cons, List.length_cons, Nat.pow_succ]
    split <;> omega
theorem wdsP_at : ∀ (m : List Bool), (wdsP m.length)[num m]? = some m
  | [] => rfl
  | b :: r => by
    have ih := wdsP_at r
    have hl := num_lt r
    have e : (wdsP r.length).length = 2 ^ r.length := wdsP_len _
    rw [num_cons]
    show ((wdsP r.length).map (false :: ·) ++ (wdsP r.length).map (true :: ·))[_]? = _
    cases b with
    | false =>
      rw [if_neg (by decide), Nat.zero_add, List.getElem?_append_left (by rw [List.length_map]; omega), List.getElem?_map, ih]
      rfl
    | true =>
      rw [if_pos rfl, List.getElem?_append_right (by rw [List.length_map]; omega), List.length_map, e, List.getElem?_map, show 2 ^ r.length + num r - 2 ^ r.length = num r by omega, ih]
      rfl
theorem num_inj : ∀ {a b : List Bool}, a.length = b.length → num a = num b → a = b := by
  intro a b hl hn
  have h1 := wdsP_at a
  have h2 := wdsP_at b
  rw [hl, hn, h2] at h1
  exact (Option.some.inj h1).symm
theorem wdsP_num {n i : Nat} {w : List Bool} (h : (wdsP n)[i]? = some w) : num w = i := by
  have hs := wdsP_size (List.mem_of_getElem? h)
  have hi := (List.getElem?_eq_some_iff.mp h).1
  rw [wdsP_len] at hi
  -- the words are told one by one
  have : ∀ n i w, (wdsP n)[i]? = some w → num w = i := by
    intro n
    induction n with
    | zero =>
      intro i w h
      have := (List.getElem?_eq_some_iff.mp h).1
      have hi : i = 0 := by simpa [wdsP] using this
      subst hi
      have : w = [] := by simpa [wdsP] using h.symm
      rw [this]; rfl
    | succ n ih =>
      intro i w h
      have e : (wdsP n).length = 2 ^ n := wdsP_len _
      have h' : ((wdsP n).map (false :: ·) ++ (wdsP n).map (true :: ·))[i]? = some w := h
      by_cases c : i < 2 ^ n
      · rw [List.getElem?_append_left (by rw [List.length_map]; omega), List.getElem?_map] at h'
        obtain ⟨v, hv, rfl⟩ := Option.map_eq_some_iff.mp h'
        rw [num_cons, if_neg (by decide), ih i v hv, Nat.zero_add]
      · rw [List.getElem?_append_right (by rw [List.length_map]; omega), List.length_map, e, List.getElem?_map] at h'
        obtain ⟨v, hv, rfl⟩ := Option.map_eq_some_iff.mp h'
        rw [num_cons, if_pos rfl, ih _ v hv, wdsP_size (List.mem_of_getElem? hv)]
        omega
  exact this n i w h
theorem first_of {n : Nat} {p : List Bool → Bool} {m : List Bool} {r : List (List Bool)} (h : (wdsP n).filter p = m :: r) : m.length = n ∧ p m = true ∧ ∀ m', m'.length = n → num m' < num m → p m' = false := by
  have h1 : (wdsP n).find? p = some m := by rw [← List.head?_filter, h]; rfl
  have hm := List.mem_of_find?_eq_some h1
  refine ⟨wdsP_size hm, List.find?_some h1, fun m' hl hn => ?_⟩
  obtain ⟨_, i, hi, e1, e2⟩ := List.find?_eq_some_iff_getElem.mp h1
  have ei : num m = i := wdsP_num (n := n) (by rw [List.getElem?_eq_getElem hi, e1])
  have h3 := wdsP_at m'
  rw [hl] at h3
  obtain ⟨h4, h5⟩ := List.getElem?_eq_some_iff.mp h3
  have := e2 (num m') (by omega)
  rw [h5] at this
  simpa using this
theorem none_of {n : Nat} {p : List Bool → Bool} (h : (wdsP n).filter p = []) : ∀ m', m'.length = n → p m' = false := fun m' hl => by
  have h3 := wdsP_at m'
  rw [hl] at h3
  have := List.filter_eq_nil_iff.mp h m' (List.mem_of_getElem? h3)
  simpa using this
/-! words in a list -/
def wdsV (ws : List (List Bool)) : List V := ws.map fun w => V.str (W w)
def wdsD (ws : List (List Bool)) : List PyData := ws.map fun w => PyData.str (W w)
theorem wdsV_len (ws : List (List Bool)) : (wdsV ws).length = ws.length := List.length_map _
theorem wdsV_app (a b : List (List Bool)) : wdsV (a ++ b) = wdsV a ++ wdsV b := List.map_append
theorem wdsV_get {ws : List (List Bool)} {i : Nat} {x : V} (h : (wdsV ws)[i]? = some x) : ∃ w, ws[i]? = some w ∧ x = .str (W w) := by
  unfold wdsV at h
  rw [List.getElem?_map] at h
  obtain ⟨w, hw, rfl⟩ := Option.map_eq_some_iff.mp h
  exact ⟨w, hw, rfl⟩
theorem dp_wds {K : PySem.W.Frag} {H : Hp} : ∀ ws : List (List Bool), DpAll K H (wdsV ws) (wdsD ws)
  | [] => .nil
  | w :: r => .cons (.str _) (dp_wds r)
theorem ok_W (l : List Bool) : PyData.strOk (W l) = true := by
  unfold PyData.strOk
  show ((l.map bt).toArray.all _) = true
  rw [List.all_toArray, List.all_map, List.all_eq_true]
  intro b _
  cases b <;> rfl
theorem lay_wds : ∀ ws : List (List Bool), PyData.canLayAll0 (wdsD ws) = true ∧ PyData.depthAll (wdsD ws) = 0
  | [] => by simp [wdsD, PyData.canLayAll0, PyData.depthAll]
  | w :: r => by
    obtain ⟨h1, h2⟩ := lay_wds r
    show PyData.canLayAll0 (PyData.str (W w) :: wdsD r) = true ∧ PyData.depthAll (PyData.str (W w) :: wdsD r) = 0
    rw [PyData.canLayAll0, PyData.depthAll, h1, h2, PyData.canLay0, PyData.depth, ok_W]
    exact ⟨rfl, rfl⟩
theorem shaped_wds (ws : List (List Bool)) : SeqAt.shaped (.list (wdsD ws)) = true := by
  unfold SeqAt.shaped
  rw [PyData.canLay0, (lay_wds ws).1, PyData.depth, (lay_wds ws).2]
  rfl
theorem eqv_wnil (ws : List (List Bool)) : PyData.eqv (.list (wdsD ws)) (.list []) = ws.isEmpty := by
  cases ws with
  | nil => simp [wdsD, PyData.eqv, PyData.eqvAll]
  | cons w r => simp [wdsD, PyData.eqv, PyData.eqvAll]
end U

set_option maxRecDepth 100000
set_option maxHeartbeats 4000000
namespace U
open PySem PySem.Spec PyProof.Rows
open L2 hiding Fun CX0 E0 pass0 Fun.binds
open C8 Lx SX StX
/-! texts of rules -/
def stT (s : Stf) : Str := W s.1 ++ ":" ++ W [s.2]
def ruWs (f : List Bool) (ss : List Stf) : List Str := "flag" :: W f :: (if ss = [] then [] else "put" :: ss.map stT)
def ruT (f : List Bool) (ss : List Stf) : Str := Txt.join " " (ruWs f ss)
theorem lenC (a b : Str) : (a ++ b).length = a.length + b.length := by
  rw [TL.len_tl, TL.len_tl a, TL.len_tl b]
  have := TL.tl_append a b
  show (TL.tl (a ++ b)).length = _
  rw [this, List.length_append]
theorem no_in (c : Nat) (h : ¬ c = 48 ∧ ¬ c = 49) (l : List Bool) : c ∉ TL.tl (W l) := by
  show c ∉ l.map bt
  intro z
  obtain ⟨b, _, e⟩ := List.mem_map.mp z
  cases b
  · exact h.1 e.symm
  · exact h.2 e.symm
theorem sp_tl : TL.tl (" " : Str) = 32 :: [] := by decide +kernel
theorem co_tl : TL.tl (":" : Str) = 58 :: [] := by decide +kernel
theorem sp_st (s : Stf) : (32 : Nat) ∉ TL.tl (stT s) := by
  unfold stT
  rw [TL.tl_append, TL.tl_append, co_tl]
  intro z
  rcases List.mem_append.mp z with z | z
  · rcases List.mem_append.mp z with z | z
    · exact no_in 32 (by decide) _ z
    · exact absurd (List.mem_singleton.mp z) (by decide)
  · exact no_in 32 (by decide) _ z
theorem sp_ws (f : List Bool) (ss : List Stf) : ∀ p ∈ ruWs f ss, (32 : Nat) ∉ TL.tl p := by
  intro p hp
  unfold ruWs at hp
  rcases List.mem_cons.mp hp with rfl | hp
  · decide +kernel
  · rcases List.mem_cons.mp hp with rfl | hp
    · exact no_in 32 (by decide) _
    · split at hp
      · cases hp
      · rcases List.mem_cons.mp hp with rfl | hp
        · decide +kernel
        · obtain ⟨s, _, rfl⟩ := List.mem_map.mp hp
          exact sp_st s
theorem ruT_split (f : List Bool) (ss : List Stf) : Txt.split (ruT f ss) " " = ruWs f ss :=
  TL.split_join sp_tl (by decide +kernel) (by unfold ruWs; exact List.cons_ne_nil _ _) (sp_ws f ss)
theorem stT_part (s : Stf) : Txt.partition (stT s) ":" = (W s.1, (":" : Str), W [s.2]) := TL.partition_app co_tl (no_in 58 (by decide) _)
theorem stT_inj {s t : Stf} (h : stT s = stT t) : s = t := by
  have e := congrArg (fun z => Txt.partition z ":") h
  simp only [stT_part] at e
  have e1 := W_inj (congrArg Prod.fst e)
  have e2 := W_inj (congrArg (fun z => z.2.2) e)
  exact Prod.ext e1 (List.cons.inj e2).1
theorem map_stT_inj : ∀ {ss ts : List Stf}, ss.map stT = ts.map stT → ss = ts
  | [], [], _ => rfl
  | [], _ :: _, h => by simp at h
  | _ :: _, [], h => by simp at h
  | a :: l, b :: m, h => by
    rw [List.map_cons, List.map_cons] at h
    injection h with h1 h2
    rw [stT_inj h1, map_stT_inj h2]
theorem ruT_inj {f f' : List Bool} {ss ss' : List Stf} (h : ruT f ss = ruT f' ss') : f = f' ∧ ss = ss' := by
  have e := congrArg (fun z => Txt.split z " ") h
  simp only [ruT_split] at e
  unfold ruWs at e
  injection e with _ e
  injection e with e1 e2
  refine ⟨W_inj e1, ?_⟩
  by_cases c : ss = []
  · by_cases c' : ss' = []
    · rw [c, c']
    · rw [if_pos c, if_neg c'] at e2; cases e2
  · by_cases c' : ss' = []
    · rw [if_neg c, if_pos c'] at e2; cases e2
    · rw [if_neg c, if_neg c'] at e2
      injection e2 with _ e2
      exact map_stT_inj e2
theorem ruT_eq {f f' : List Bool} {ss ss' : List Stf} : ruT f ss = ruT f' ss' ↔ (f = f' ∧ ss = ss') := ⟨ruT_inj, fun h => by rw [h.1, h.2]⟩
/-! a sorted row of stuffs is one -/
theorem key_inj {s t : Stf} (h : key s = key t) : s = t := by
  have e1 := W_inj (congrArg Prod.fst h)
  have e2 := W_inj (congrArg Prod.snd h)
  exact Prod.ext e1 (List.cons.inj e2).1
theorem lex_anti {s t : Stf} (h1 : SrT.lexT (key s) (key t) = false) (h2 : SrT.lexT (key t) (key s) = false) : s = t := by
  refine key_inj ?_
  rcases SrT.lexT_no.mp h1 with a | ⟨a, b⟩
  · rcases SrT.lexT_no.mp h2 with c | ⟨c, d⟩
    · exact absurd c (List.lt_asymm a)
    · rw [c] at a; exact absurd a (List.lt_irrefl _)
  · rcases SrT.lexT_no.mp h2 with c | ⟨c, d⟩
    · rw [a] at c; exact absurd c (List.lt_irrefl _)
    · refine Prod.ext a ?_
      exact TL.ext_tl (List.le_antisymm (List.not_lt.mp d) (List.not_lt.mp b))
theorem sorted_one : ∀ {ss ts : List Stf}, ss.Perm ts → SortedS ss → SortedS ts → ss = ts
  | [], ts, p, _, _ => (List.Perm.nil_eq p)
  | a :: l, [], p, _, _ => absurd (List.Perm.eq_nil p) (List.cons_ne_nil _ _)
  | a :: l, b :: m, p, h1, h2 => by
    obtain ⟨a1, a2⟩ := List.pairwise_cons.mp h1
    obtain ⟨b1, b2⟩ := List.pairwise_cons.mp h2
    have e : a = b := by
      rcases List.mem_cons.mp (p.mem_iff.mp (List.mem_cons_self (a := a) (l := l))) with z | z
      · exact z
      · rcases List.mem_cons.mp (p.mem_iff.mpr (List.mem_cons_self (a := b) (l := m))) with y | y
        · exact y.symm
        · exact lex_anti (b1 a z) (a1 b y)
    subst e
    rw [sorted_one (List.Perm.cons_inv p) a2 b2]
theorem RuAt.few {C : Addr} {H : Hp} {a : Addr} {f : List Bool} {ss : List Stf} (h : RuAt C H a f ss) : ∃ dx t, H a = some (.ins C dx (ruF f t)) := by
  obtain ⟨dx, t, _, _, h1, _⟩ := h
  exact ⟨dx, t, h1⟩
/-- a rule that is small enough for its text -/
structure RuSm (f : List Bool) (ss : List Stf) : Prop where
  fl : f.length ≤ 1000
  few : ss.length ≤ 1000
  long : ∀ s ∈ ss, s.1.length ≤ 9
theorem StOk.sm {f : List Bool} {ss : List Stf} (h : StOk ss) (hf : f.length ≤ 1000) : RuSm f ss := ⟨hf, h.few, h.l9⟩
def spRuStr (C : Addr) : Sp := fun vs H Q _ => ∃ (a : Addr) (f : List Bool) (ss : List Stf), vs = [.ref a] ∧ RuAt C H a f ss ∧ RuSm f ss ∧ ∀ H', Same H H' → Q (.str (ruT f ss)) H'
def spRuEq (C : Addr) : Sp := fun vs H Q _ => ∃ (a b : Addr) (f f' : List Bool) (ss ss' : List Stf), vs = [.ref a, .ref b] ∧ RuAt C H a f ss ∧ RuSm f ss ∧ RuAt C H b f' ss' ∧ RuSm f' ss' ∧ ∀ H', Same H H' → Q (.bl (decide (f = f' ∧ ss = ss'))) H'
def spRuLen (C : Addr) : Sp := fun vs H Q _ => ∃ (a : Addr) (f : List Bool) (ss : List Stf), vs = [.ref a] ∧ RuAt C H a f ss ∧ Q (.int (ss.length : Nat)) H
theorem stT_len {s : Stf} (h : s.1.length ≤ 9) : (stT s).length ≤ 11 := by
  unfold stT
  rw [lenC, lenC, W_len, W_len, show (":" : Str).length = 1 by decide +kernel]
  simp only [List.length_cons, List.length_nil]
  omega
theorem sum_st : ∀ {ss : List Stf}, (∀ s ∈ ss, s.1.length ≤ 9) → ((ss.map stT).map (·.length)).sum ≤ 11 * ss.length
  | [], _ => Nat.le_refl _
  | s :: r, h => by
    have h1 := stT_len (h s List.mem_cons_self)
    have h2 := sum_st fun t ht => h t (List.mem_cons_of_mem _ ht)
    rw [List.map_cons, List.map_cons, List.sum_cons, List.length_cons]
    omega
section
variable {P : Program} {w : World} {K : PySem.W.Frag} {mg : Str → Option Value} {base : Heap}
theorem sc_Rule_str : FnScope ["self", "told", "pattern", "bit"] ["self"] (fnScope s_Rule_str) := fnScope_by (by decide +kernel)
theorem met_Rule_str {f C : Addr} {fd : FuncData} (F : C8.Fun K "__str__" "Rule.__str__" s_Rule_str f fd) (me : Meth K C "__str__" f) (b : Binds K fd ["self"] []) (T : Tx mg) (RT : RuT K C) : Met P w K mg base 1 C "__str__" (spRuStr C) [] := by
  refine met0 RT.cl me F b sc_Rule_str (fun vs H Q E h => ?_) (fun cdv A outer s H vs Q E hr h => ?_)
  · obtain ⟨_, _, _, rfl, _⟩ := h; rfl
  · obtain ⟨a, fl, ss, rfl, hR, sm, k⟩ := h
    refine ⟨_, (pss_cons (ps_setLc (i := 1) (own := [("pattern", 2), ("bit", 3)]) (g := gTup K 2 (gCons (gName 2) (gCons (gName 3) gNil))) (by rfl) sc_Rule_str.nd rfl rfl (sw_true rfl rfl rfl (by decide +kernel)) (pi_tup (pe_fld (pv 0) rfl)) (blkOk_by (own := [("pattern", 2), ("bit", 3)]) (N := ["self", "told", "pattern", "bit"]) (sc := fnScope s_Rule_str) (by decide +kernel)) (fun _ _ _ _ _ => (pg_tup rfl (pgs_cons (pg_name (i := 2) sc_Rule_str.nd rfl (.inl rfl)) (pgs_cons (pg_name (i := 3) sc_Rule_str.nd rfl (.inl rfl)) pgs_nil)))) (fun _ _ _ _ _ => pts_nil) (fun _ _ _ _ _ => (pe_jn (.cons (pe_fmt (pv 2)) (.cons pe_str (.cons (pe_fmt (pv 3)) .nil))))))
    (pss_one (ps_ret (pe_join pe_str (pe_lst (pa_cons pe_str (pa_cons (pe_fld (pv 0) rfl) (pa_star (pe_ifExp (pt_cmpR op_gt (pe_callB call_len_seq (by rfl) T.b_len (by decide +kernel) (pa_cons (pv 1) pa_nil)) pe_int (nomark _)) (pe_lst (pa_cons pe_str (pa_star (pv 1) pa_nil))) (pe_lst pa_nil)) pa_nil)))))))), ?_⟩
    obtain ⟨dx, t, ps, kb, ha, ht, hv, rfl⟩ := id hR
    refine ⟨_, rfl, a, C, dx, _, _, rfl, ha, RT.cl, RT.nS, ruF_stuffs _ _, t, rfl, ⟨_, SqT.of ht⟩, fun D nD => ?_⟩
    refine lc_it (walk_tup (xs := ps.map V.ref)) (fun i H2 => Same H H2 ∧ H2 D = some (.lst ((((ps.map kb).take i).map stT).map V.str))) ⟨same_upd nD, upd_same⟩ (fun i H2 _ h2 => SqT.of (h2.1 _ _ ht)) ?_ ?_
    · rintro i x H2 H3 hi ⟨s2, hD⟩ ⟨rfl, hx⟩
      rw [List.getElem?_map] at hx
      obtain ⟨q, hq, rfl⟩ := Option.map_eq_some_iff.mp hx
      have hqm := List.mem_of_getElem? hq
      have hqv := s2 _ _ (hv q hqm)
      have l9 := sm.long (kb q) (List.mem_map.mpr ⟨q, hqm, rfl⟩)
      have e1 : Str.empty ++ W (kb q).1 = W (kb q).1 := by
        have e : Str.empty = W [] := by decide +kernel
        rw [e, W_cat]; rfl
      have l1 : (":" : Str).length = 1 := by decide +kernel
      refine ⟨q, _, rfl, SqT.of hqv, rfl, _, _, rfl, _, _, rfl, rfl, rfl, ?_⟩
      refine ⟨_, rfl, .inl ⟨_, rfl, by rw [W_len]; exact sl_len (by omega), _, rfl, by rw [e1, W_len]; exact sl_len (by omega), ?_⟩⟩
      refine ⟨_, rfl, by rw [e1, lenC, W_len, l1]; exact sl_len (by omega), ?_⟩
      refine ⟨_, rfl, .inl ⟨_, rfl, by rw [W_len]; exact sl_len (by show 1 ≤ 100000; decide), _, rfl, by rw [e1, lenC, lenC, W_len, W_len, l1]; exact sl_len (by simp only [List.length_cons, List.length_nil]; omega), ?_⟩⟩
      refine ⟨_, hD, ?_, ?_, ?_⟩
      · rw [List.length_map, List.length_map, List.length_take]
        have := sm.few
        exact sl_lt (by omega)
      · intro c o e
        rw [upd_ne (ne_of_none e nD)]
        exact s2 _ _ e
      · rw [upd_same, e1, List.take_add_one, List.getElem?_map, hq]
        simp [stT]
    · rintro H2 ⟨s2, hD⟩
      have el : ((ps.map kb).take (ps.map V.ref).length) = ps.map kb := List.take_of_length_le (by simp)
      rw [el] at hD
      have lk : (ps.map kb).length ≤ 1000 := sm.few
      have ls := sum_st sm.long
      refine ⟨⟨_, rfl⟩, ?_⟩
      refine ⟨_, rfl, a, C, dx, _, _, rfl, s2 _ _ ha, RT.cl, RT.nF, ruF_flag _ _, ?_⟩
      refine ⟨_, rfl, D, _, rfl, .inl (SqL.of hD), _, _, rfl, rfl, _, rfl, ?_⟩
      have l4 : ("flag" : Str).length = 4 := by decide +kernel
      have l3 : ("put" : Str).length = 3 := by decide +kernel
      have l1 : (" " : Str).length = 1 := by decide +kernel
      by_cases c : ps.map kb = []
      · refine iteDF (by rw [c]; decide) ?_
        refine ⟨Nat.zero_le _, fun p np => ?_⟩
        refine ⟨p, _, rfl, .inr (SqL.of upd_same), ?_⟩
        refine ⟨by show 2 ≤ sizeLine; decide, fun q nq => ?_⟩
        refine ⟨_, q, ["flag", W fl], rfl, rfl, .inl (SqL.of upd_same), ?_, ?_⟩
        · rw [l1]
          simp only [List.map_cons, List.map_nil, List.sum_cons, List.sum_nil, l4, W_len, List.length_cons, List.length_nil]
          have := sm.fl
          omega
        · have := k _ ((s2.trans (same_upd np)).trans (same_upd (o := .lst [.str "flag", .str (W fl)]) nq))
          unfold ruT ruWs at this
          rw [if_pos c] at this
          exact this
      · have c1 : 0 < (ps.map kb).length := List.length_pos_iff.mpr c
        refine iteDT (by rw [List.length_map, List.length_map]; omega) ?_
        refine ⟨_, rfl, D, _, rfl, .inr (SqL.of hD), by rw [List.length_cons, List.append_nil, List.length_map, List.length_map]; exact sl_len (by omega), fun p np => ?_⟩
        refine ⟨p, _, rfl, .inr (SqL.of upd_same), by rw [List.length_cons, List.length_cons, List.append_nil, List.length_cons, List.append_nil, List.length_map, List.length_map]; exact sl_len (by omega), fun q nq => ?_⟩
        refine ⟨_, q, "flag" :: W fl :: "put" :: (ps.map kb).map stT, rfl, rfl, .inl (SqL.of (by rw [upd_same]; simp)), ?_, ?_⟩
        · rw [l1]
          simp only [List.map_cons, List.sum_cons, l4, l3, W_len, List.length_cons, List.length_map] at ls lk ⊢
          have := sm.fl
          omega
        · have e := (s2.trans (same_upd np)).trans (same_upd (o := .lst ((V.str "flag" :: V.str (W fl) :: ((V.str "put" :: (((ps.map kb).map stT).map V.str ++ [])) ++ [])))) nq)
          have := k _ e
          unfold ruT ruWs at this
          rw [if_neg c] at this
          exact this
theorem sc_Rule_eq : FnScope ["self", "other"] ["self", "other"] (fnScope s_Rule_eq) := fnScope_by (by decide +kernel)
theorem met_Rule_eq {f C : Addr} {fd : FuncData} (F : C8.Fun K "__eq__" "Rule.__eq__" s_Rule_eq f fd) (me : Meth K C "__eq__" f) (b : Binds K fd ["self", "other"] []) (T : Tx mg) (RT : RuT K C) (g_Rule : mg "Rule" = some (.ref C)) (IS_Rule : IsT K C)
    (c_Rule_str : Met P w K mg base 1 C "__str__" (spRuStr C) []) : Met P w K mg base 4 C "__eq__" (spRuEq C) [] := by
  refine met0 RT.cl me F b sc_Rule_eq (fun vs H Q E h => ?_) (fun cdv A outer s H vs Q E hr h => ?_)
  · obtain ⟨_, _, _, _, _, _, rfl, _⟩ := h; rfl
  · obtain ⟨a, b, fl, fl', ss, ss', rfl, ra, h1, rb, h2, k⟩ := h
    refine ⟨_, (pss_one (ps_ret (pe_and (pe_callB call_isi (by rfl) T.b_isinstance (by decide +kernel) (pa_cons (pv 1) (pa_cons (pe_glob (v := .ref C) (by rfl) g_Rule rfl) pa_nil))) (pe_one (pe_cmpR op_eq (pe_callTy (call_str_own c_Rule_str hr (by decide)) (by rfl) T.b_str (by decide +kernel) (pa_cons (pv 0) pa_nil)) (pe_callTy (call_str_own c_Rule_str hr (by decide)) (by rfl) T.b_str (by decide +kernel) (pa_cons (pv 1) pa_nil)) (nomark _)))))), ?_⟩
    obtain ⟨dx, t, ha⟩ := ra.few
    obtain ⟨dy, t', hb⟩ := rb.few
    refine ⟨_, rfl, _, _, _, _, true, rfl, .own C, IS_Rule.ty hb, IS_Rule.one, _, rfl, ?_⟩
    refine ⟨_, rfl, a, dx, _, rfl, ha, a, fl, ss, rfl, ra, h1, fun H1 s1 => ⟨_, rfl, ?_⟩⟩
    refine ⟨_, rfl, b, dy, _, rfl, s1 _ _ hb, b, fl', ss', rfl, rb.same s1, h2, fun H2 s2 => ⟨_, rfl, rfl, ?_⟩⟩
    have e : decide (V.str (ruT fl ss) = V.str (ruT fl' ss')) = decide (fl = fl' ∧ ss = ss') := by
      rw [decide_eq_decide]
      exact ⟨fun z => ruT_inj (V.str.inj z), fun z => by rw [z.1, z.2]⟩
    rw [e]
    exact k H2 (s1.trans s2)
theorem sc_Rule_len : FnScope ["self"] ["self"] (fnScope s_Rule_len) := fnScope_by (by decide +kernel)
theorem met_Rule_len {f C : Addr} {fd : FuncData} (F : C8.Fun K "__len__" "Rule.__len__" s_Rule_len f fd) (me : Meth K C "__len__" f) (b : Binds K fd ["self"] []) (T : Tx mg) (RT : RuT K C) : Met P w K mg base 1 C "__len__" (spRuLen C) [] := by
  refine met0 RT.cl me F b sc_Rule_len (fun vs H Q E h => ?_) (fun cdv A outer s H vs Q E hr h => ?_)
  · obtain ⟨_, _, _, rfl, _⟩ := h; rfl
  · obtain ⟨a, fl, ss, rfl, hR, k⟩ := h
    refine ⟨_, (pss_one (ps_ret (pe_callB call_len_seq (by rfl) T.b_len (by decide +kernel) (pa_cons (pe_fld (pv 0) rfl) pa_nil)))), ?_⟩
    obtain ⟨dx, t, ps, kb, ha, ht, hv, rfl⟩ := id hR
    refine ⟨_, rfl, a, C, dx, _, _, rfl, ha, RT.cl, RT.nS, ruF_stuffs _ _, t, _, rfl, .inr (SqT.of ht), ?_⟩
    rw [List.length_map] at k ⊢
    exact k
end
end U

set_option maxRecDepth 100000
set_option maxHeartbeats 400000
/-! rules with one pattern, in plain Lean -/
namespace U
/-- a rule with one pattern has an end just if its pattern holds another bit than the one put in -/
def okB (s : Stf) : Bool := s.1.any fun c => c != s.2
theorem put1 (s : Stf) (l : List Bool) : putM [s] l = if s.1.isSuffixOf l then some s.2 else none := by
  unfold putM
  rw [List.find?_cons]
  cases s.1.isSuffixOf l <;> rfl
theorem all_tail {p l : List Bool} {b : Bool} (h1 : p <:+ l) (h2 : p <:+ l ++ [b]) : ∀ c ∈ p, c = b := by
  obtain ⟨u, rfl⟩ := h1
  obtain ⟨v, hv⟩ := h2
  -- v ++ p = u ++ p ++ [b]
  have key : ∀ (n : Nat) (p v u : List Bool), p.length = n → v ++ p = u ++ p ++ [b] → ∀ c ∈ p, c = b := by
    intro n
    induction n with
    | zero => intro p v u hn _ c hc; rw [List.length_eq_zero_iff.mp hn] at hc; cases hc
    | succ n ih =>
      intro p v u hn e
      rcases List.eq_nil_or_concat p with rfl | ⟨q, x, rfl⟩
      · intro c hc; cases hc
      · rw [List.concat_eq_append] at e hn ⊢
        rw [← List.append_assoc] at e
        have e' := List.append_inj' e rfl
        obtain ⟨e1, e2⟩ := e'
        have hx : x = b := (List.cons.inj e2).1
        subst hx
        rw [← List.append_assoc] at e1
        have := ih q v u (by rw [List.length_append, List.length_cons, List.length_nil] at hn; omega) e1
        intro c hc
        rcases List.mem_append.mp hc with h | h
        · exact this c h
        · exact List.mem_singleton.mp h
  exact key _ p v u rfl hv
theorem okN1 {s : Stf} (h : okB s = true) (l : List Bool) : ∃ x, Ins [s] l x ∧ x.length ≤ 1 := by
  cases e : s.1.isSuffixOf l with
  | false => exact ⟨[], .stop (by rw [put1, e]; rfl), Nat.zero_le _⟩
  | true =>
    refine ⟨[s.2], .more (by rw [put1, e]; rfl) (.stop ?_), Nat.le_refl _⟩
    rw [put1]
    cases e2 : s.1.isSuffixOf (l ++ [s.2]) with
    | false => rfl
    | true =>
      obtain ⟨c, hc, hn⟩ := List.any_eq_true.mp h
      have := all_tail (List.isSuffixOf_iff_suffix.mp e) (List.isSuffixOf_iff_suffix.mp e2) c hc
      rw [this] at hn
      simp at hn
theorem okN_one {s : Stf} (h : okB s = true) : OkN 1 [s] := fun l _ b => okN1 h (l ++ [b])
theorem rep_of {p : List Bool} {b : Bool} (h : ∀ c ∈ p, c = b) : p = List.replicate p.length b := by
  exact List.eq_replicate_iff.mpr ⟨rfl, h⟩
theorem rep_suf {n m : Nat} {b : Bool} : (List.replicate n b).isSuffixOf (List.replicate m b) = decide (n ≤ m) := by
  rw [Bool.eq_iff_iff, List.isSuffixOf_iff_suffix, decide_eq_true_eq]
  constructor
  · intro h; have := h.length_le; rw [List.length_replicate, List.length_replicate] at this; exact this
  · intro h; exact ⟨List.replicate (m - n) b, by rw [List.replicate_append_replicate]; congr 1; omega⟩
theorem not_ok {s : Stf} (hp : s.1 ≠ []) (h : okB s = false) : ¬ OkR [s] := by
  obtain ⟨p, b⟩ := s
  have hall : ∀ c ∈ p, c = b := fun c hc => by
    have : ¬ (p.any fun c => c != b) = true := by rw [show (p.any fun c => c != b) = okB (p, b) from rfl, h]; decide
    rw [List.any_eq_true] at this
    have h2 : ¬ (c != b) = true := fun z => this ⟨c, hc, z⟩
    simpa using h2
  have hr := rep_of hall
  generalize p.length = n at hr
  subst hr
  have hn : 0 < n := by
    cases n with
    | zero => exact absurd rfl hp
    | succ n => exact Nat.succ_pos _
  have reach : ∀ k, k < n → Reach [(List.replicate n b, b)] (List.replicate k b) := by
    intro k
    induction k with
    | zero => exact fun _ => .nil
    | succ k ih =>
      intro hk
      have := Reach.next (b := b) (x := []) (ih (by omega)) (.stop (by
        rw [put1]
        show (if (List.replicate n b).isSuffixOf (List.replicate k b ++ [b]) = true then some b else none) = none
        rw [← List.replicate_succ', rep_suf, decide_eq_false (by omega)]; rfl))
      rw [List.append_nil, ← List.replicate_succ'] at this
      exact this
  intro o
  obtain ⟨x, hx⟩ := o _ (reach (n - 1) (by omega)) b
  rw [← List.replicate_succ', show n - 1 + 1 = n by omega] at hx
  have bad : ∀ (m : Nat) (x : List Bool), n ≤ m → ¬ Ins [(List.replicate n b, b)] (List.replicate m b) x := by
    intro m x
    induction x generalizing m with
    | nil =>
      intro hm hi
      cases hi with
      | stop h =>
        rw [put1] at h
        change (if (List.replicate n b).isSuffixOf (List.replicate m b) = true then some b else none) = none at h
        rw [rep_suf, decide_eq_true hm] at h
        cases h
    | cons c x ih =>
      intro hm hi
      cases hi with
      | more h1 h2 =>
        rw [put1] at h1
        change (if (List.replicate n b).isSuffixOf (List.replicate m b) = true then some b else none) = some c at h1
        rw [rep_suf, decide_eq_true hm] at h1
        cases h1
        rw [← List.replicate_succ'] at h2
        exact ih (m + 1) (by omega) h2
  exact bad n x (Nat.le_refl _) hx
theorem okB_iff {s : Stf} (hp : s.1 ≠ []) : okB s = true ↔ OkR [s] :=
  ⟨fun h => (okN_one h).ok, fun h => by
    cases e : okB s with
    | true => rfl
    | false => exact absurd h (not_ok hp e)⟩
/-! all words, and all patterns with a bit -/
def wdsA : Nat → List (List Bool)
  | 0 => [[]]
  | n + 1 => (wdsA n).flatMap fun w => [w ++ [false], w ++ [true]]
theorem wdsA_len : ∀ n, (wdsA n).length = 2 ^ n
  | 0 => rfl
  | n + 1 => by
    show ((wdsA n).flatMap fun w => [w ++ [false], w ++ [true]]).length = _
    have : ∀ l : List (List Bool), (l.flatMap fun w => [w ++ [false], w ++ [true]]).length = 2 * l.length := fun l => by
      induction l with
      | nil => rfl
      | cons w r ih => rw [List.flatMap_cons, List.length_append, ih]; show 2 + 2 * r.length = 2 * (r.length + 1); omega
    rw [this, wdsA_len n, Nat.pow_succ]
    omega
theorem wdsA_size : ∀ {n : Nat} {w : List Bool}, w ∈ wdsA n → w.length = n
  | 0, w, h => by rw [List.mem_singleton.mp h]; rfl
  | n + 1, w, h => by
    obtain ⟨v, hv, hw⟩ := List.mem_flatMap.mp h
    have := wdsA_size hv
    rcases List.mem_cons.mp hw with rfl | hw
    · rw [List.length_append, this]; rfl
    · rw [List.mem_singleton.mp hw, List.length_append, this]; rfl
/-- a pattern with both bits -/
def both (w : List Bool) : List Stf := [(w, false), (w, true)]
def sglN (k : Nat) : List Stf := (wdsA k).flatMap both
def sgls (n : Nat) : List Stf := (List.range n).flatMap fun i => sglN (i + 1)
theorem sglN_size {k : Nat} {s : Stf} (h : s ∈ sglN k) : s.1.length = k := by
  obtain ⟨w, hw, hs⟩ := List.mem_flatMap.mp h
  rw [← wdsA_size hw]
  rcases List.mem_cons.mp hs with rfl | hs
  · rfl
  · rw [List.mem_singleton.mp hs]
theorem sgls_size {n : Nat} {s : Stf} (h : s ∈ sgls n) : 1 ≤ s.1.length ∧ s.1.length ≤ n := by
  obtain ⟨i, hi, hs⟩ := List.mem_flatMap.mp h
  have := List.mem_range.mp hi
  have := sglN_size hs
  omega
theorem sgls_succ (n : Nat) : sgls (n + 1) = sgls n ++ sglN (n + 1) := by
  unfold sgls
  rw [List.range_succ, List.flatMap_append]
  simp
theorem both_len (ws : List (List Bool)) : (ws.flatMap both).length = 2 * ws.length := by
  induction ws with
  | nil => rfl
  | cons w r ih => rw [List.flatMap_cons, List.length_append, ih, show (both w).length = 2 from rfl, List.length_cons]; omega
theorem sgls_len : ∀ n, (sgls n).length + 4 = 2 ^ (n + 2)
  | 0 => rfl
  | n + 1 => by
    have := sgls_len n
    rw [sgls_succ, List.length_append]
    unfold sglN
    rw [both_len, wdsA_len, Nat.pow_succ 2 (n + 2)]
    have : 2 ^ (n + 2) = 2 * 2 ^ (n + 1) := by rw [Nat.pow_succ 2 (n + 1)]; omega
    omega
theorem sgls_len9 {n : Nat} (h : n ≤ 9) : (sgls n).length ≤ 2048 := by
  have h1 := sgls_len n
  have h2 : 2 ^ (n + 2) ≤ 2 ^ 11 := Nat.pow_le_pow_right (by decide) (by omega)
  have h3 : (2 : Nat) ^ 11 = 2048 := by decide
  omega
end U

set_option maxRecDepth 100000
set_option maxHeartbeats 400000
/-! a sorted row of texts is one -/
namespace U
open PySem PySem.Spec PyProof.Rows
theorem ltCps_iff : ∀ {a b : List Nat}, ltCps a b = true ↔ a < b
  | [], [] => by simp [ltCps]
  | [], _ :: _ => by simp [ltCps]
  | _ :: _, [] => by simp [ltCps]
  | a :: r, b :: t => by
    unfold ltCps
    rw [Bool.or_eq_true, Bool.and_eq_true, decide_eq_true_iff, beq_iff_eq, ltCps_iff (a := r) (b := t), List.cons_lt_cons_iff]
theorem rising_le : ∀ {l : List Str} {p : Str}, risingS p l = true → (p :: l).Pairwise fun a b => a.cps.toList ≤ b.cps.toList
  | [], p, _ => List.pairwise_singleton _ _
  | x :: r, p, h => by
    have h' : (!ltCps x.cps.toList p.cps.toList && risingS x r) = true := h
    rw [Bool.and_eq_true, Bool.not_eq_true'] at h'
    have ih := rising_le h'.2
    have hx : p.cps.toList ≤ x.cps.toList := List.not_lt.mp fun z => by rw [ltCps_iff.mpr z] at h'; cases h'.1
    refine List.pairwise_cons.mpr ⟨fun y hy => ?_, ih⟩
    rcases List.mem_cons.mp hy with rfl | hy
    · exact hx
    · exact List.le_trans hx ((List.pairwise_cons.mp ih).1 y hy)
theorem sorted_le : ∀ {l : List Str}, sortedS l = true → l.Pairwise fun a b => a.cps.toList ≤ b.cps.toList
  | [], _ => List.Pairwise.nil
  | _ :: _, h => rising_le h
theorem le_one : ∀ {ss ts : List Str}, ss.Perm ts → (ss.Pairwise fun a b => a.cps.toList ≤ b.cps.toList) → (ts.Pairwise fun a b => a.cps.toList ≤ b.cps.toList) → ss = ts
  | [], ts, p, _, _ => (List.Perm.nil_eq p)
  | a :: l, [], p, _, _ => absurd (List.Perm.eq_nil p) (List.cons_ne_nil _ _)
  | a :: l, b :: m, p, h1, h2 => by
    obtain ⟨a1, a2⟩ := List.pairwise_cons.mp h1
    obtain ⟨b1, b2⟩ := List.pairwise_cons.mp h2
    have e : a = b := by
      rcases List.mem_cons.mp (p.mem_iff.mp (List.mem_cons_self (a := a) (l := l))) with z | z
      · exact z
      · rcases List.mem_cons.mp (p.mem_iff.mpr (List.mem_cons_self (a := b) (l := m))) with y | y
        · exact y.symm
        · have e := List.le_antisymm (a1 b y) (b1 a z)
          cases a; cases b
          congr 1
          exact Array.ext' e
    subst e
    rw [le_one (List.Perm.cons_inv p) a2 b2]
theorem sortedS_one {ss ts : List Str} (p : ss.Perm ts) (h1 : sortedS ss = true) (h2 : sortedS ts = true) : ss = ts := le_one p (sorted_le h1) (sorted_le h2)
end U

set_option maxRecDepth 100000
set_option maxHeartbeats 4000000
namespace U
open PySem PySem.Spec PyProof.Rows
open L2 hiding Fun CX0 E0 pass0 Fun.binds
open C8 Lx SX StX
section
variable {J : It} {n : Nat} {G : Hp → Prop} {Y : Nat → Hp → V → Hp → Prop}
/-- the inner for of a comprehension with two -/
theorem lc_in (w : Walk J n G Y) {g : TG} {tt : TT} {te : TE} {vs : List Nat} {σ : L2.St} {H1 : Hp} {D : Addr} {Qd : Hp → Prop} (Pv : Nat → Hp → Prop) (h0 : Pv 0 H1) (hG : ∀ i H, i ≤ n → Pv i H → G H)
    (hs : ∀ i x H H', i < n → Pv i H → Y i H x H' → g x (wipe σ vs) H' fun σ2 H2 => wipe σ2 vs = wipe σ vs ∧ tt σ2 H2 fun b H3 =>
      if b = true then te σ2 H3 fun y H4 => ∃ acc, H4 D = some (.lst acc) ∧ acc.length < sizeLine ∧ Pv (i + 1) (upd H4 D (.lst (acc ++ [y]))) else Pv (i + 1) H3) (hd : ∀ H, Pv n H → Qd H) :
    ∃ W : Nat → Nat → Hp → Prop, (∃ m, W 0 m H1) ∧ ∀ i m H, W i m H →
      (J.stop i H ∧ Qd H) ∨ (J.go i H ∧ ∃ Nx : Hp → Prop, (∀ H', Nx H' → ∃ m', m' < m ∧ W (i + 1) m' H') ∧ ∀ x H', J.yld i H x H' → g x (wipe σ vs) H' fun σ2 H2 => wipe σ2 vs = wipe σ vs ∧ tt σ2 H2 fun b H3 =>
        if b = true then te σ2 H3 fun y H4 => ∃ acc, H4 D = some (.lst acc) ∧ acc.length < sizeLine ∧ Nx (upd H4 D (.lst (acc ++ [y]))) else Nx H3) := by
  refine ⟨fun i m H => m = n - i ∧ i ≤ n ∧ Pv i H, ⟨n, by simp, Nat.zero_le _, h0⟩, ?_⟩
  rintro i m H ⟨rfl, hi, p⟩
  have q := hG i H hi p
  by_cases hlt : i < n
  · refine .inr ⟨w.goes i H hlt q, Pv (i + 1), fun H' p' => ⟨n - (i + 1), by omega, rfl, hlt, p'⟩, fun x H' y => hs i x H H' hlt p (w.yields i H x H' hlt q y)⟩
  · have e : i = n := by omega
    subst e
    exact .inl ⟨w.stops H q, hd H p⟩
/-- the outer one: R tells what the inner one asks, by what is to hold behind it -/
theorem lc_out (w : Walk J n G Y) {g : TG} {tt : TT} {R : (Hp → Prop) → L2.St → Hp → Prop} {vs : List Nat} {σ : L2.St} {H1 : Hp} {Qd : Hp → Prop} (Pv : Nat → Hp → Prop) (h0 : Pv 0 H1) (hG : ∀ i H, i ≤ n → Pv i H → G H)
    (hs : ∀ i x H H', i < n → Pv i H → Y i H x H' → g x (wipe σ vs) H' fun σ2 H2 => wipe σ2 vs = wipe σ vs ∧ tt σ2 H2 fun b H3 => if b = true then R (Pv (i + 1)) σ2 H3 else Pv (i + 1) H3) (hd : ∀ H, Pv n H → Qd H) :
    ∃ W : Nat → Nat → Hp → Prop, (∃ m, W 0 m H1) ∧ ∀ i m H, W i m H →
      (J.stop i H ∧ Qd H) ∨ (J.go i H ∧ ∃ Nx : Hp → Prop, (∀ H', Nx H' → ∃ m', m' < m ∧ W (i + 1) m' H') ∧ ∀ x H', J.yld i H x H' → g x (wipe σ vs) H' fun σ2 H2 => wipe σ2 vs = wipe σ vs ∧ tt σ2 H2 fun b H3 => if b = true then R Nx σ2 H3 else Nx H3) := by
  refine ⟨fun i m H => m = n - i ∧ i ≤ n ∧ Pv i H, ⟨n, by simp, Nat.zero_le _, h0⟩, ?_⟩
  rintro i m H ⟨rfl, hi, p⟩
  have q := hG i H hi p
  by_cases hlt : i < n
  · refine .inr ⟨w.goes i H hlt q, Pv (i + 1), fun H' p' => ⟨n - (i + 1), by omega, rfl, hlt, p'⟩, fun x H' y => hs i x H H' hlt p (w.yields i H x H' hlt q y)⟩
  · have e : i = n := by omega
    subst e
    exact .inl ⟨w.stops H q, hd H p⟩
end
theorem e01 : ("01" : Str) = W [false, true] := by decide +kernel
theorem Same.madeX {H H' : Hp} {x dx : Addr} {C : Addr} (nx : H x = none) (ndx : H dx = none) (keep : ∀ b o, upd (upd H dx (.own x)) x (.ins C dx []) b = some o → b ≠ x → H' b = some o) : Same H H' := fun c o e =>
  keep c o (by rw [upd_ne (ne_of_none e nx), upd_ne (ne_of_none e ndx)]; exact e) (ne_of_none e nx)
theorem stOk1 {p : List Bool} {b : Bool} (h1 : 1 ≤ p.length) (h2 : p.length ≤ 9) : StOk [(p, b)] := by
  refine ⟨by show 1 ≤ 1000; decide, fun s hs => ?_, ?_, ?_⟩
  · rw [List.mem_singleton.mp hs]; intro z; rw [show p = [] from z] at h1; exact absurd h1 (by decide)
  · show max p.length 0 ≤ 9
    omega
  · exact List.pairwise_singleton _ _
/-- a rule with one stuff that may be without end -/
theorem mk_oneX {K : PySem.W.Frag} {C CI : Addr} {H : Hp} {p1 p2 : Addr} {f p : List Bool} {b : Bool} {R : Addr → Hp → Prop} {E : XK} (n1 : H p1 = none) (n2 : upd H p1 (.tup [.str (W p), .str (W [b])]) p2 = none) (hp1 : 1 ≤ p.length) (hp9 : p.length ≤ 9) (h2 : 2 ≤ f.length) (h3 : f.length ≤ 1000)
    (k : okB (p, b) = true → ∀ x H', Same H H' → H x = none → RuAt C H' x f [(p, b)] → R x H') (kE : okB (p, b) = false → ∀ d H', Same H H' → E (.ref CI) (some d) H') :
    ∀ x dx, upd (upd H p1 (.tup [.str (W p), .str (W [b])])) p2 (.lst [.ref p1]) x = none → upd (upd H p1 (.tup [.str (W p), .str (W [b])])) p2 (.lst [.ref p1]) dx = none → dx ≠ x →
      spRuInitX K C CI [.ref x, .str (W f), .ref p2] (upd (upd (upd (upd H p1 (.tup [.str (W p), .str (W [b])])) p2 (.lst [.ref p1])) dx (.own x)) x (.ins C dx [])) (fun v H2 => v = .non ∧ R x H2) E := by
  intro x dx nx ndx nex
  have s0 := (same_upd n1).trans (same_upd (o := .lst [.ref p1]) n2)
  have n12 : p1 ≠ p2 := fun z => by rw [← z, upd_same] at n2; cases n2
  have ht : upd (upd H p1 (.tup [.str (W p), .str (W [b])])) p2 (.lst [.ref p1]) p1 = some (.tup [.str (W p), .str (W [b])]) := by rw [upd_ne n12]; exact upd_same
  have hl : upd (upd H p1 (.tup [.str (W p), .str (W [b])])) p2 (.lst [.ref p1]) p2 = some (.lst [.ref p1]) := upd_same
  generalize upd (upd H p1 (.tup [.str (W p), .str (W [b])])) p2 (.lst [.ref p1]) = H1 at nx ndx s0 ht hl
  have sm : Same H1 (upd (upd H1 dx (.own x)) x (.ins C dx [])) := fun c o e => by
    rw [upd_ne (ne_of_none e nx), upd_ne (ne_of_none e ndx)]; exact e
  have hne : (p, b).1 ≠ [] := fun z => by rw [show p = [] from z] at hp1; exact absurd hp1 (by decide)
  have nx0 : H x = none := by
    cases e : H x with
    | none => rfl
    | some o => rw [s0 _ _ e] at nx; cases nx
  refine ⟨x, dx, p2, f, [p1], fun _ => (p, b), rfl, upd_same, .inl (SqL.of (sm _ _ hl)), fun t h => ?_, stOk1 hp1 hp9, h3, fun z => absurd z (by omega), fun _ hO H' ss keep pm _ hR => ⟨rfl, ?_⟩, fun _ hO d H' keep _ => kE ?_ d H' (s0.trans (Same.madeX nx ndx keep))⟩
  · rw [List.mem_singleton.mp h]
    exact sm _ _ ht
  · have es : ss = [(p, b)] := List.perm_singleton.mp pm
    subst es
    exact k ((okB_iff hne).mpr hO) x H' (s0.trans (Same.madeX nx ndx keep)) nx0 hR
  · cases e : okB (p, b) with
    | false => rfl
    | true => exact absurd ((okB_iff hne).mp e) hO
def spRuleWith (C : Addr) : Sp := fun vs H Q _ => ∃ (f p : List Bool) (b : Bool), vs = [.str (W f), .str (W p), .str (W [b])] ∧ 2 ≤ f.length ∧ f.length ≤ 1000 ∧ 1 ≤ p.length ∧ p.length ≤ 9 ∧
  (okB (p, b) = true → ∀ x H', Same H H' → H x = none → RuAt C H' x f [(p, b)] → Q (.ref x) H') ∧ (okB (p, b) = false → ∀ H', Same H H' → Q .non H')
def wdW (ws : List (List Bool)) : List V := ws.map fun w => V.str (W w)
theorem wdW_get {ws : List (List Bool)} {i : Nat} {x : V} (h : (wdW ws)[i]? = some x) : ∃ w, ws[i]? = some w ∧ x = .str (W w) := by
  unfold wdW at h
  rw [List.getElem?_map] at h
  obtain ⟨w, hw, rfl⟩ := Option.map_eq_some_iff.mp h
  exact ⟨w, hw, rfl⟩
def spAllWords : Sp := fun vs H Q _ => ∃ n : Nat, vs = [.int n] ∧ n ≤ 9 ∧ ∀ D H', Same H H' → H D = none → H' D = some (.lst (wdW (wdsA n))) → Q (.ref D) H'
/-- a value that rule_with told for s -/
def ToldO (C : Addr) (H : Hp) (f : List Bool) (v : V) (s : Stf) : Prop := (okB s = true ∧ ∃ a, v = .ref a ∧ RuAt C H a f [s]) ∨ (okB s = false ∧ v = .non)
theorem ToldO.same {C : Addr} {H H' : Hp} {f : List Bool} {v : V} {s : Stf} (h : ToldO C H f v s) (e : Same H H') : ToldO C H' f v s := by
  rcases h with ⟨h1, a, h2, h3⟩ | h
  · exact .inl ⟨h1, a, h2, h3.same e⟩
  · exact .inr h
theorem ToldO.nl {C : Addr} {H H' : Hp} {f : List Bool} {v : V} {s : Stf} (h : ToldO C H f v s) (e : NL H H') : ToldO C H' f v s := by
  rcases h with ⟨h1, a, h2, h3⟩ | h
  · exact .inl ⟨h1, a, h2, h3.nl e⟩
  · exact .inr h
inductive F2 {α β : Type} (R : α → β → Prop) : List α → List β → Prop
  | nil : F2 R [] []
  | cons {a : α} {b : β} {l : List α} {m : List β} : R a b → F2 R l m → F2 R (a :: l) (b :: m)
/-- rules in a list, each with its one stuff -/
def RusAt (C : Addr) (H : Hp) (f : List Bool) (as : List Addr) (ss : List Stf) : Prop := F2 (fun a s => RuAt C H a f [s]) as ss
theorem f2_imp {α β : Type} {R S : α → β → Prop} {l : List α} {m : List β} (h : F2 R l m) (hi : ∀ a b, R a b → S a b) : F2 S l m := by
  induction h with
  | nil => exact .nil
  | cons h _ ih => exact .cons (hi _ _ h) ih
theorem f2_app {α β : Type} {R : α → β → Prop} {l l' : List α} {m m' : List β} (h : F2 R l m) (h' : F2 R l' m') : F2 R (l ++ l') (m ++ m') := by
  induction h with
  | nil => exact h'
  | cons h _ ih => exact .cons h ih
theorem f2_len {α β : Type} {R : α → β → Prop} {l : List α} {m : List β} (h : F2 R l m) : l.length = m.length := by
  induction h with
  | nil => rfl
  | cons _ _ ih => rw [List.length_cons, List.length_cons, ih]
theorem f2_get {α β : Type} {R : α → β → Prop} {l : List α} {m : List β} (h : F2 R l m) : ∀ {i : Nat} {a : α}, l[i]? = some a → ∃ b, m[i]? = some b ∧ R a b := by
  induction h with
  | nil => intro i a e; cases i <;> cases e
  | @cons a0 b0 _ _ h _ ih =>
    intro i a e
    cases i with
    | zero => cases e; exact ⟨b0, rfl, h⟩
    | succ i => exact ih e
theorem RusAt.same {C : Addr} {H H' : Hp} {f : List Bool} {as : List Addr} {ss : List Stf} (h : RusAt C H f as ss) (e : Same H H') : RusAt C H' f as ss := f2_imp h fun _ _ r => r.same e
def spSingles (C : Addr) : Sp := fun vs H Q _ => ∃ (f : List Bool) (n : Nat), vs = [.str (W f), .int n] ∧ 2 ≤ f.length ∧ f.length ≤ 1000 ∧ n ≤ 9 ∧
  ∀ D as H', Same H H' → H D = none → H' D = some (.lst (as.map V.ref)) → RusAt C H' f as ((sgls n).filter okB) → Q (.ref D) H'
section
variable {P : Program} {w : World} {K : PySem.W.Frag} {mg : Str → Option Value} {base : Heap}
theorem sc_rule_with : FnScope ["flag", "pattern", "bit"] ["flag", "pattern", "bit"] (fnScope s_rule_with) := fnScope_by (by decide +kernel)
theorem cal_rule_with {f C CI : Addr} {fd : FuncData} (F : Def K mg "rule_with" s_rule_with f fd) (b : Binds K fd ["flag", "pattern", "bit"] []) (T : Tx mg) (g_InvalidRule : mg "InvalidRule" = some (.ref CI)) (ex_InvalidRule : PySem.W.exmOne K (.ref CI) (.ref CI) = some true) (mX_Rule2 : ExS.MakX P w K mg base 5 "Rule" C (spRuInitX K C CI) []) : Cal P w K mg base 7 "rule_with" (spRuleWith C) [] := by
  refine cal0 F b .nil sc_rule_with (fun vs H Q E h => ?_) (fun cdv A outer s H vs Q E hr h => ?_)
  · obtain ⟨_, _, _, rfl, _⟩ := h; rfl
  · obtain ⟨fl, p, bb, rfl, h2, h3, hp1, hp9, k, kN⟩ := h
    refine ⟨_, (pss_one (ps_try_only rfl rfl ⟨rfl, by decide, .inl g_InvalidRule⟩ ExS.takes0 (fun W pn xe tk po => (pss_one (ps_ret (ExS.pe_mkT mX_Rule2 hr (by decide) tk rfl (pa_cons (pv 0) (pa_cons (pe_lst (pa_cons (pe_tup (pa_cons (pv 1) (pa_cons (pv 2) pa_nil))) pa_nil)) pa_nil)))))) (fun a oe cls d pn _ _ => (pss_one (ps_ret pe_non))))), ?_⟩
    refine ⟨_, rfl, _, rfl, _, rfl, by show 2 ≤ sizeLine; decide, fun p1 n1 => ⟨by show 1 ≤ sizeLine; decide, fun p2 n2 => ?_⟩⟩
    refine mk_oneX n1 n2 hp1 hp9 h2 h3 (fun ok x H' s' nx hR => k ok x H' s' nx hR) fun ok d H' s' => ?_
    exact ⟨true, ex_InvalidRule, fun _ a ha => kN ok H' s', fun z => by cases z⟩
theorem sc_all_words : FnScope ["size", "found", "turn", "word", "bit"] ["size"] (fnScope s_all_words) := fnScope_by (by decide +kernel)
theorem cal_all_words {f : Addr} {fd : FuncData} {tB : Tok} (F : Def K mg "all_words" s_all_words f fd) (b : Binds K fd ["size"] []) (T : Tx mg) (g_BITS : mg "BITS" = some (.str "01" tB)) : Cal P w K mg base 1 "all_words" spAllWords [] := by
  refine cal0 F b .nil sc_all_words (fun vs H Q E h => ?_) (fun cdv A outer s H vs Q E hr h => ?_)
  · obtain ⟨_, rfl, _⟩ := h; rfl
  · obtain ⟨n, rfl, hn, k⟩ := h
    refine ⟨_, (pss_cons (ps_set (i := 1) sc_all_words.nd rfl (.inl rfl) (pe_lst (pa_cons pe_str pa_nil)))
    (pss_cons (ps_for PassesOwn.never rfl (pi_range1 (by rfl) T.b_range (pa_cons (pv 0) pa_nil)) (pg_name (i := 2) sc_all_words.nd rfl (.inl rfl))
    (pss_one (ps_setLc2 (i := 1) (own := [("word", 3), ("bit", 4)]) (vs1 := [4]) (g := gName 3) (g1 := gName 4) (by rfl) sc_all_words.nd rfl rfl (sw_true rfl rfl rfl (by decide +kernel)) (pi_list (pv 1)) (blkOk_by (own := [("word", 3), ("bit", 4)]) (N := ["size", "found", "turn", "word", "bit"]) (sc := fnScope s_all_words) (by decide +kernel)) (by decide) (fun _ _ _ _ _ => (pg_name (i := 3) sc_all_words.nd rfl (.inl rfl))) (fun _ _ _ _ _ => pts_nil) (fun _ _ _ _ _ => (pi_str (pe_glob (v := .str "01") (by rfl) g_BITS ⟨_, rfl⟩))) (fun _ _ _ _ _ => (pg_name (i := 4) sc_all_words.nd rfl (.inl rfl))) (fun _ _ _ _ _ => pts_nil) (fun _ _ _ _ _ => (pe_op op_add_str (pv 3) (pv 4))))))
    (pss_one (ps_ret (pv 1))))), ?_⟩
    refine ⟨by show 1 ≤ sizeLine; decide, fun q nq => ?_⟩
    have hq : upd H q (.lst [.str ""]) q = some (.lst (wdW (wdsA 0))) := by rw [upd_same, W_nil]; rfl
    have sq := same_upd (o := .lst [.str ""]) nq
    have nqH : H q = none := nq
    generalize upd H q (.lst [.str ""]) = H1 at hq sq
    refine ⟨_, rfl, _, rfl, by omega, by omega, ?_⟩
    refine for_it (walk_range (lo := 0) (n := (n : Int).toNat)) (fun i σ H2 => ∃ (v2 v3 v4 : Option V) (q : Addr), σ = [some (.int n), some (.ref q), v2, v3, v4] ∧ H q = none ∧ Same H H2 ∧ H2 q = some (.lst (wdW (wdsA i)))) ⟨_, _, _, q, rfl, nqH, sq, hq⟩ (fun _ _ _ _ _ => trivial) ?_ ?_
    · rintro i x σ H2' H2 hi ⟨v2, v3, v4, q, rfl, nq, s2, hq⟩ ⟨rfl, rfl⟩
      have hi' : i < n := by omega
      have l4 : (wdsA i).length ≤ 512 := by rw [wdsA_len]; exact Nat.le_trans (Nat.pow_le_pow_right (by decide) (show i ≤ 9 by omega)) (by decide)
      refine ⟨_, rfl, q, rfl, ⟨_, SqL.of hq⟩, fun D nD => ?_⟩
      refine lc_out (walk_list (xs := wdW (wdsA i))) (fun j H3 => Same H2 H3 ∧ H3 D = some (.lst (wdW (((wdsA i).take j).flatMap fun w => [w ++ [false], w ++ [true]])))) ⟨same_upd nD, upd_same⟩ (fun j H3 _ h3 => SqL.of (h3.1 _ _ hq)) ?_ ?_
      · rintro j x H3 H3' hj ⟨s3, hD⟩ ⟨rfl, hx⟩
        obtain ⟨v, hv, rfl⟩ := wdW_get hx
        have lv := wdsA_size (List.mem_of_getElem? hv)
        refine ⟨rfl, ?_⟩
        refine ⟨_, rfl, ?_⟩
        refine lc_in walk_str (fun i2 H4 => Same H2 H4 ∧ H4 D = some (.lst (wdW ((((wdsA i).take j).flatMap fun w => [w ++ [false], w ++ [true]]) ++ ([false, true].take i2).map fun b => v ++ [b])))) ⟨s3, by rw [show ([false, true].take 0).map (fun b => v ++ [b]) = [] from rfl, List.append_nil]; exact hD⟩ (fun _ _ _ _ => trivial) ?_ ?_
        · rintro i2 x H4 H4' hi2 ⟨s4, hD4⟩ ⟨rfl, c, hc, rfl⟩
          rw [e01] at hc
          obtain ⟨bb, hbb, rfl⟩ := W_get hc
          have e1 : (W v).length = i := by rw [W_len, lv]
          have e2 : (⟨#[bt bb]⟩ : Str).length = 1 := W_len [bb]
          refine ⟨rfl, _, rfl, _, rfl, _, _, rfl, rfl, by rw [e1, e2]; exact sl_len (by omega), _, hD4, ?_, same_mut' s4 nD, ?_⟩
          · have hj2 : (((wdsA i).take j).flatMap fun w => [w ++ [false], w ++ [true]]).length ≤ 1024 := by
              have : ∀ l : List (List Bool), (l.flatMap fun w => [w ++ [false], w ++ [true]]).length = 2 * l.length := fun l => by
                induction l with
                | nil => rfl
                | cons w r ih => rw [List.flatMap_cons, List.length_append, ih]; show 2 + 2 * r.length = 2 * (r.length + 1); omega
              rw [this, List.length_take]
              omega
            unfold wdW
            rw [List.length_map, List.length_append, List.length_map, List.length_take]
            exact sl_lt (by show _ + min i2 2 < _; omega)
          · rw [upd_same, List.take_add_one, hbb, List.map_append, ← List.append_assoc]
            unfold wdW
            rw [List.map_append (l₁ := _ ++ _)]
            have ew : W v ++ (⟨#[bt bb]⟩ : Str) = W (v ++ [bb]) := W_cat v [bb]
            rw [ew]
            rfl
        · rintro H4 ⟨s4, hD4⟩
          refine ⟨s4, ?_⟩
          rw [hD4, List.take_add_one, hv, List.flatMap_append]
          rfl
      · rintro H3 ⟨s3, hD⟩
        refine ⟨_, _, _, D, rfl, ?_, s2.trans s3, ?_⟩
        · cases e : H D with
          | none => rfl
          | some o => rw [s2 _ _ e] at nD; cases nD
        · rw [hD, List.take_of_length_le (by unfold wdW; rw [List.length_map]; exact Nat.le_refl _)]
          rfl
    · rintro σ H2 ⟨v2, v3, v4, q, rfl, nq, s2, hq⟩
      refine ⟨_, rfl, k q H2 s2 nq ?_⟩
      rw [hq]
      congr 4
theorem sc_single_rules : FnScope ["flag", "size", "found", "many", "pattern", "bit", "rule"] ["flag", "size"] (fnScope s_single_rules) := fnScope_by (by decide +kernel)
theorem cal_single_rules {f C : Addr} {fd : FuncData} {tB : Tok} (F : Def K mg "single_rules" s_single_rules f fd) (b : Binds K fd ["flag", "size"] []) (T : Tx mg) (g_BITS : mg "BITS" = some (.str "01" tB)) (c_all_words : Cal P w K mg base 1 "all_words" spAllWords []) (c_rule_with : Cal P w K mg base 7 "rule_with" (spRuleWith C) []) : Cal P w K mg base 8 "single_rules" (spSingles C) [] := by
  refine cal0 F b .nil sc_single_rules (fun vs H Q E h => ?_) (fun cdv A outer s H vs Q E hr h => ?_)
  · obtain ⟨_, _, rfl, _⟩ := h; rfl
  · obtain ⟨fl, n, rfl, h2, h3, h9, k⟩ := h
    refine ⟨_, (pss_cons (ps_set (i := 2) sc_single_rules.nd rfl (.inl rfl) (pe_lst pa_nil))
    (pss_cons (ps_for PassesOwn.never rfl (pi_range2 (by rfl) T.b_range (pa_cons pe_int (pa_cons (pe_op op_add (pv 1) pe_int) pa_nil))) (pg_name (i := 3) sc_single_rules.nd rfl (.inl rfl))
    (pss_one (ps_for PassesOwn.never rfl (pi_list (pe_c c_all_words hr (by decide) rfl (pa_cons (pv 3) pa_nil))) (pg_name (i := 4) sc_single_rules.nd rfl (.inr rfl))
    (pss_one (ps_expr (pe_bm PySem.F.plainAttrs_list PySem.F.slot_list_extend PySem.F.type_list_extend mt_extend (pv 2) (pa_cons (pe_lc (own := [("bit", 5)]) (g := gName 5) (by rfl) sc_single_rules.nd (pi_str (pe_glob (v := .str "01") (by rfl) g_BITS ⟨_, rfl⟩)) (blkOk_by (own := [("bit", 5)]) (N := ["flag", "size", "found", "many", "pattern", "bit", "rule"]) (sc := fnScope s_single_rules) (by decide +kernel)) (fun _ _ _ _ _ => (pg_name (i := 5) sc_single_rules.nd rfl (.inl rfl))) (fun _ _ _ _ _ => pts_nil) (fun _ _ _ _ _ => (pe_c c_rule_with hr (by decide) rfl (pa_cons (pv 0) (pa_cons (pv 4) (pa_cons (pv 5) pa_nil)))))) pa_nil)))))))
    (pss_one (ps_ret (pe_lc (own := [("rule", 6)]) (g := gName 6) (by rfl) sc_single_rules.nd (pi_list (pv 2)) (blkOk_by (own := [("rule", 6)]) (N := ["flag", "size", "found", "many", "pattern", "bit", "rule"]) (sc := fnScope s_single_rules) (by decide +kernel)) (fun _ _ _ _ _ => (pg_name (i := 6) sc_single_rules.nd rfl (.inl rfl))) (fun _ _ _ _ _ => (pts_one (pt_cmpR op_notN (pv 6) pe_non (nomark _)))) (fun _ _ _ _ _ => (pv 6))))))), ?_⟩
    refine ⟨by show 0 ≤ sizeLine; decide, fun D nD => ?_⟩
    have hD : upd H D (.lst []) D = some (.lst []) := upd_same
    have sD := same_upd (o := .lst []) nD
    generalize upd H D (.lst []) = H1 at hD sD
    refine ⟨_, rfl, _, _, rfl, rfl, _, _, rfl, ⟨by omega, by omega, by omega, by omega⟩, ?_⟩
    refine for_it walk_range (fun i σ H2 => ∃ (v3 v4 v5 v6 : Option V) (vs : List V), σ = [some (.str (W fl)), some (.int n), some (.ref D), v3, v4, v5, v6] ∧ Same H H2 ∧ H2 D = some (.lst vs) ∧ F2 (ToldO C H2 fl) vs (sgls i)) ⟨_, _, _, _, [], rfl, sD, hD, .nil⟩ (fun _ _ _ _ _ => trivial) ?_ ?_
    · rintro i x σ H2' H2 hi ⟨v3, v4, v5, v6, vs, rfl, s2, hD2, hF⟩ ⟨rfl, rfl⟩
      have hi9 : i < n := by omega
      refine ⟨_, rfl, i + 1, by show [V.int (1 + (i : Int))] = _; rw [show (1 : Int) + (i : Int) = ((i + 1 : Nat) : Int) by omega], by omega, fun q H3 s3 nq hq => ?_⟩
      have hD3 := s3 _ _ hD2
      have nqD : q ≠ D := fun z => by rw [z, hD2] at nq; cases nq
      refine ⟨q, rfl, ⟨_, SqL.of hq⟩, ?_⟩
      refine for_it (walk_list (xs := wdW (wdsA (i + 1)))) (fun j σ H4 => ∃ (v4 v5 v6 : Option V) (vs : List V), σ = [some (.str (W fl)), some (.int n), some (.ref D), some (.int (1 + (i : Int))), v4, v5, v6] ∧ Same H H4 ∧ H4 q = some (.lst (wdW (wdsA (i + 1)))) ∧ H4 D = some (.lst vs) ∧ F2 (ToldO C H4 fl) vs (sgls i ++ ((wdsA (i + 1)).take j).flatMap both))
        ⟨v4, v5, v6, vs, rfl, s2.trans s3, hq, hD3, by rw [List.take_zero, List.flatMap_nil, List.append_nil]; exact f2_imp hF fun _ _ r => r.same s3⟩ (fun j σ H4 _ h4 => by obtain ⟨_, _, _, _, _, _, h, _⟩ := h4; exact SqL.of h) ?_ ?_
      · rintro j x σ H4' H4 hj ⟨v4, v5, v6, vs, rfl, s4, hq4, hD4, hF4⟩ ⟨rfl, hx⟩
        obtain ⟨v, hv, rfl⟩ := wdW_get hx
        have lv := wdsA_size (List.mem_of_getElem? hv)
        have lvs := f2_len hF4
        have lall : (sgls i ++ ((wdsA (i + 1)).take j).flatMap both).length ≤ 4096 := by
          have h1 := sgls_len9 (n := i) (by omega)
          have h2 : (wdsA (i + 1)).length ≤ 512 := by rw [wdsA_len]; exact Nat.le_trans (Nat.pow_le_pow_right (by decide) (show i + 1 ≤ 9 by omega)) (by decide)
          rw [List.length_append, both_len, List.length_take]
          omega
        refine ⟨_, rfl, .inl ⟨rfl, _, SqL.of hD4⟩, ?_⟩
        refine ⟨_, rfl, fun D2 nD2 => ?_⟩
        refine lc_it walk_str (fun i2 H5 => Same H4 H5 ∧ ∃ us, H5 D2 = some (.lst us) ∧ F2 (ToldO C H5 fl) us (([false, true].take i2).map fun b => (v, b))) ⟨same_upd nD2, [], upd_same, .nil⟩ (fun _ _ _ _ => trivial) ?_ ?_
        · rintro i2 x H5' H5 hi2 ⟨s5, us, hD5, hF5⟩ ⟨rfl, c, hc, rfl⟩
          rw [e01] at hc
          obtain ⟨bb, hbb, rfl⟩ := W_get hc
          have lus := f2_len hF5
          rw [List.length_map, List.length_take] at lus
          have hlu : us.length < sizeLine := sl_lt (by have : min i2 2 ≤ 2 := Nat.min_le_right _ _; have e : [false, true].length = 2 := rfl; omega)
          have fin : ∀ {H6 : Hp} {y : V}, Same H5 H6 → ToldO C H6 fl y (v, bb) → ∃ acc, H6 D2 = some (.lst acc) ∧ acc.length < sizeLine ∧ (Same H4 (upd H6 D2 (.lst (acc ++ [y]))) ∧ ∃ us, upd H6 D2 (.lst (acc ++ [y])) D2 = some (.lst us) ∧ F2 (ToldO C (upd H6 D2 (.lst (acc ++ [y]))) fl) us (([false, true].take (i2 + 1)).map fun b => (v, b))) := fun {H6 y} s6 hy => by
            have h6 := s6 _ _ hD5
            have nl := nl_upd (o := .lst (us ++ [y])) h6
            refine ⟨us, h6, hlu, same_mut' (s5.trans s6) nD2, us ++ [y], upd_same, ?_⟩
            rw [List.take_add_one, hbb, List.map_append]
            exact f2_app (f2_imp hF5 fun _ _ r => (r.same s6).nl nl) (.cons (hy.nl nl) .nil)
          refine ⟨rfl, _, rfl, _, rfl, _, rfl, fl, v, bb, rfl, h2, h3, by omega, by omega, fun ok x H6 s6 nx hR => ?_, fun ok H6 s6 => ?_⟩
          · exact fin s6 (.inl ⟨ok, x, rfl, hR⟩)
          · exact fin s6 (.inr ⟨ok, rfl⟩)
        · rintro H5 ⟨s5, us, hD5, hF5⟩
          have hD45 := s5 _ _ hD4
          have lus := f2_len hF5
          have nl := nl_upd (o := .lst (vs ++ us)) hD45
          refine ⟨D, D2, vs, us, rfl, rfl, hD45, hD5, sl_len (by rw [lvs, lus]; show _ + 2 ≤ _; omega), ?_⟩
          refine ⟨_, _, _, vs ++ us, rfl, same_mut' (s4.trans s5) nD, by rw [upd_ne nqD]; exact s5 _ _ hq4, upd_same, ?_⟩
          rw [List.take_add_one, hv, List.flatMap_append, ← List.append_assoc]
          refine f2_app (f2_imp hF4 fun _ _ r => (r.same s5).nl nl) ?_
          exact f2_imp hF5 fun _ _ r => r.nl nl
      · rintro σ H4 ⟨v4, v5, v6, vs, rfl, s4, hq4, hD4, hF4⟩
        refine ⟨_, _, _, _, vs, rfl, s4, hD4, ?_⟩
        rw [sgls_succ]
        rw [List.take_of_length_le (by unfold wdW; rw [List.length_map]; exact Nat.le_refl _)] at hF4
        exact hF4
    · rintro σ H2 ⟨v3, v4, v5, v6, vs, rfl, s2, hD2, hF⟩
      have en : ((n : Int) + 1 - 1).toNat = n := by omega
      rw [en] at hF
      refine ⟨_, rfl, D, rfl, ⟨_, SqL.of hD2⟩, fun L nL => ?_⟩
      have lvs := f2_len hF
      have l9 := sgls_len9 h9
      refine lc_it (walk_list (xs := vs)) (fun i H3 => Same H2 H3 ∧ ∃ as, H3 L = some (.lst (as.map V.ref)) ∧ RusAt C H3 fl as (((sgls n).take i).filter okB)) ⟨same_upd nL, [], upd_same, .nil⟩ (fun i H3 _ h3 => SqL.of (h3.1 _ _ hD2)) ?_ ?_
      · rintro i x H3' H3 hi ⟨s3, as, hL3, hR3⟩ ⟨rfl, hx⟩
        obtain ⟨st, hst, ht⟩ := f2_get hF hx
        have las := f2_len hR3
        have lf : (((sgls n).take i).filter okB).length ≤ 2048 := Nat.le_trans (List.length_filter_le _ _) (by rw [List.length_take]; omega)
        refine ⟨rfl, _, rfl, rfl, _, rfl, ?_⟩
        rcases ht with ⟨ok, a, rfl, hR⟩ | ⟨ok, rfl⟩
        · refine iteBT rfl ?_
          have nl := nl_upd (o := .lst (as.map V.ref ++ [.ref a])) hL3
          refine ⟨_, rfl, as.map V.ref, hL3, by rw [List.length_map]; exact sl_lt (by omega), same_mut' s3 nL, as ++ [a], by rw [upd_same, List.map_append]; rfl, ?_⟩
          rw [List.take_add_one, hst, List.filter_append]
          refine f2_app (f2_imp hR3 fun _ _ r => r.nl nl) ?_
          rw [show ((some st).toList.filter okB) = [st] by show [st].filter okB = _; rw [List.filter_cons, if_pos ok]; rfl]
          exact .cons ((hR.same s3).nl nl) .nil
        · refine iteBF rfl ?_
          refine ⟨s3, as, hL3, ?_⟩
          rw [List.take_add_one, hst, List.filter_append, show ((some st).toList.filter okB) = [] by show [st].filter okB = _; rw [List.filter_cons, if_neg (by rw [ok]; decide)]; rfl, List.append_nil]
          exact hR3
      · rintro H3 ⟨s3, as, hL3, hR3⟩
        rw [List.take_of_length_le (by omega)] at hR3
        refine k L as H3 (s2.trans s3) ?_ hL3 hR3
        cases e : H L with
        | none => rfl
        | some o => rw [s2 _ _ e] at nL; cases nL
end
end U

set_option maxRecDepth 100000
set_option maxHeartbeats 4000000
set_option pp.maxSteps 400
namespace U
open PySem PySem.Spec PyProof.Rows
open L2 hiding Fun CX0 E0 pass0 Fun.binds
open C8 Lx SX StX
/-- the scope of the comprehension that a def's statement is -/
def lcSc (st : Stmt) (i : Nat) : Scope := match (C8.fnBody st)[i]? with
  | some (.Assign _ (.ListComp _ _ sc _) _) => sc
  | some (.Return (some (.ListComp _ _ sc _)) _) => sc
  | _ => C8.fnScope st
abbrev Pr2 := List Bool × List Bool
/-- the pairs seen, in a list -/
def PrsAt (H : Hp) (l : Addr) (ps : List Pr2) : Prop := ∃ (qs : List Addr) (kb : Addr → Pr2), (H l = some (.lst (qs.map V.ref)) ∨ H l = some (.tup (qs.map V.ref))) ∧ (∀ q ∈ qs, H q = some (.tup [.str (W (kb q).1), .str (W (kb q).2)])) ∧ ps = qs.map kb
theorem PrsAt.same {H H' : Hp} {l : Addr} {ps : List Pr2} (h : PrsAt H l ps) (s : Same H H') : PrsAt H' l ps := by
  obtain ⟨qs, kb, h1, h2, h3⟩ := h
  exact ⟨qs, kb, h1.imp (s _ _) (s _ _), fun q hq => s _ _ (h2 q hq), h3⟩
def fitB (ps : List Pr2) (s : Stf) : Bool := ps.all fun p => decide (bodyF [s] p.1 = p.2)
def couL (n : Nat) (ps : List Pr2) : List Stf := ((sgls n).filter okB).filter (fitB ps)
def spCould (C : Addr) : Sp := fun vs H Q _ => ∃ (f : List Bool) (n : Nat) (l : Addr) (ps : List Pr2), vs = [.str (W f), .int n, .ref l] ∧ 2 ≤ f.length ∧ f.length ≤ 9 ∧ n ≤ 3 ∧ PrsAt H l ps ∧ ps.length ≤ 1000 ∧ (∀ p ∈ ps, p.1.length ≤ 1000) ∧
  ∀ t (ys : List Str) H', Same H H' → H t = none → H' t = some (.tup (ys.map V.str)) → ys.Perm ((couL n ps).map fun s => ruT f [s]) → sortedS ys = true → Q (.ref t) H'
theorem sgls3c {n : Nat} (h : n ≤ 3) : (sgls n).length ≤ 28 := by
  have h1 := sgls_len n
  have h2 : 2 ^ (n + 2) ≤ 2 ^ 5 := Nat.pow_le_pow_right (by decide) (by omega)
  have h3 : (2 : Nat) ^ 5 = 32 := by decide
  omega
section
variable {P : Program} {w : World} {K : PySem.W.Frag} {mg : Str → Option Value} {base : Heap}
theorem sc_could_be : FnScope ["flag", "size", "pairs", "found", "rule", "one", "other"] ["flag", "size", "pairs"] (fnScope s_could_be) := fnScope_by (by decide +kernel)
theorem cal_could_be {f C : Addr} {fd : FuncData} (F : Def K mg "could_be" s_could_be f fd) (b : Binds K fd ["flag", "size", "pairs"] []) (T : Tx mg) (RT : RuT K C) (c_single_rules : Cal P w K mg base 8 "single_rules" (spSingles C) []) (c_body : Cal P w K mg base 4 "body" (spBody C) []) (c_Rule_str : Met P w K mg base 1 C "__str__" (spRuStr C) []) : Cal P w K mg base 10 "could_be" (spCould C) [] := by
  refine cal0 F b .nil sc_could_be (fun vs H Q E h => ?_) (fun cdv A outer s H vs Q E hr h => ?_)
  · obtain ⟨_, _, _, _, rfl, _⟩ := h; rfl
  · obtain ⟨fl, n, l, prs, rfl, h2, h9, hn, hP, hp1, hp2, k⟩ := h
    refine ⟨_, (pss_cons (ps_setLc (i := 3) (own := [("rule", 4)]) (g := gName 4) (by rfl) sc_could_be.nd rfl rfl (sw_true rfl rfl rfl (by decide +kernel)) (pi_list (pe_c c_single_rules hr (by decide) rfl (pa_cons (pv 0) (pa_cons (pv 1) pa_nil)))) (blkOk_by (own := [("rule", 4)]) (N := ["flag", "size", "pairs", "found", "rule", "one", "other"]) (sc := fnScope s_could_be) (by decide +kernel)) (fun _ _ _ _ _ => (pg_name (i := 4) sc_could_be.nd rfl (.inr rfl))) (fun _ _ _ _ _ => (pts_one (pt_val (pe_callB (show CallR _ (.builtin "all") (rAll K) from cr_all (by rfl)) (by rfl) T.b_all (by decide +kernel) (pa_cons (pe_lc (own := [("one", 5), ("other", 6)]) (g := gTup K 2 (gCons (gName 5) (gCons (gName 6) gNil))) (by rfl) sc_could_be.nd (show PI _ _ _ (iSeq K _) from pi_seq (pv 2)) (by refine blkOk_by ?_; kernel_rfl) (fun _ _ _ _ _ => (pg_tup rfl (pgs_cons (pg_name (i := 5) sc_could_be.nd rfl (.inl rfl)) (pgs_cons (pg_name (i := 6) sc_could_be.nd rfl (.inl rfl)) pgs_nil)))) (fun _ _ _ _ _ => pts_nil) (fun _ _ _ _ _ => (pe_cmpR op_eq (pe_c c_body hr (by decide) rfl (pa_cons (pv 4) (pa_cons (pv 5) pa_nil))) (pv 6) (nomark _)))) pa_nil))))) (fun _ _ _ _ _ => (pv 4)))
    (pss_one (ps_ret (pe_callTy call_tuple_of (by rfl) T.b_tuple (by decide +kernel) (pa_cons (pe_callB cr_sortedS (by rfl) T.b_sorted (by decide +kernel) (pa_cons (pe_lc (own := [("rule", 4)]) (g := gName 4) (by rfl) sc_could_be.nd (pi_list (pv 3)) (blkOk_by (own := [("rule", 4)]) (N := ["flag", "size", "pairs", "found", "rule", "one", "other"]) (sc := fnScope s_could_be) (by decide +kernel)) (fun _ _ _ _ _ => (pg_name (i := 4) sc_could_be.nd rfl (.inl rfl))) (fun _ _ _ _ _ => pts_nil) (fun _ _ _ _ _ => (pe_callTy (call_str_own c_Rule_str hr (by decide)) (by rfl) T.b_str (by decide +kernel) (pa_cons (pv 4) pa_nil)))) pa_nil)) pa_nil))))), ?_⟩
    refine ⟨_, rfl, _, rfl, fl, n, rfl, h2, by omega, by omega, fun D as H1 s1 nD hD hR => ?_⟩
    refine ⟨D, rfl, ⟨_, SqL.of hD⟩, fun L nL => ?_⟩
    have las := f2_len hR
    have l28 : ((sgls n).filter okB).length ≤ 28 := Nat.le_trans (List.length_filter_le _ _) (sgls3c hn)
    refine lc_it (walk_list (xs := as.map V.ref)) (fun i H3 => Same H1 H3 ∧ ∃ bs, H3 L = some (.lst (bs.map V.ref)) ∧ RusAt C H3 fl bs ((((sgls n).filter okB).take i).filter (fitB prs))) ⟨same_upd nL, [], upd_same, .nil⟩ (fun i H3 _ h3 => SqL.of (h3.1 _ _ hD)) ?_ ?_
    · rintro i x H3' H3 hi ⟨s3, bs, hL3, hR3⟩ ⟨rfl, hx⟩
      rw [List.getElem?_map] at hx
      obtain ⟨a, ha, rfl⟩ := Option.map_eq_some_iff.mp hx
      obtain ⟨st, hst, hRa⟩ := f2_get hR ha
      obtain ⟨hm1, hm2⟩ := List.mem_filter.mp (List.mem_of_getElem? hst)
      obtain ⟨z1, z2⟩ := sgls_size hm1
      have lbs := f2_len hR3
      have lf : ((((sgls n).filter okB).take i).filter (fitB prs)).length ≤ 28 := Nat.le_trans (List.length_filter_le _ _) (by rw [List.length_take]; omega)
      have hO : OkN 39 [st] := (okN_one hm2).mono (by decide)
      obtain ⟨qs, kb, hl3, hq3, hps⟩ := (hP.same s1).same s3
      have lqs : prs.length = qs.length := by rw [hps, List.length_map]
      rcases hl3 with hl3 | hl3
      · refine ⟨rfl, .inl ⟨_, rfl, l, rfl, ⟨_, SqL.of hl3⟩, fun D2 nD2 => ?_⟩⟩
        refine lc_it (walk_list (xs := qs.map V.ref)) (fun j H4 => Same H3 H4 ∧ H4 D2 = some (.lst (((prs.take j).map fun p => decide (bodyF [st] p.1 = p.2)).map V.bl))) ⟨same_upd nD2, upd_same⟩ (fun j H4 _ h4 => SqL.of (h4.1 _ _ hl3)) ?_ ?_
        · rintro j y H4' H4 hj ⟨s4, hD4⟩ ⟨rfl, hy⟩
          rw [List.getElem?_map] at hy
          obtain ⟨q, hq, rfl⟩ := Option.map_eq_some_iff.mp hy
          have hqm := List.mem_of_getElem? hq
          have hpj : prs[j]? = some (kb q) := by rw [hps, List.getElem?_map, hq]; rfl
          refine ⟨q, _, rfl, SqT.of (s4 _ _ (hq3 q hqm)), rfl, _, _, rfl, _, _, rfl, rfl, rfl, ?_⟩
          refine ⟨_, rfl, _, rfl, a, fl, [st], (kb q).1, rfl, (hRa.same s3).same s4, hp2 _ (List.mem_of_getElem? hpj), hO, fun m H5 hB hl5 s5 => ?_⟩
          have em : m = bodyF [st] (kb q).1 := hB.isF hO
          refine ⟨_, rfl, rfl, _, s5 _ _ hD4, by rw [List.length_map, List.length_map, List.length_take]; exact sl_lt (by omega), same_mut' (s4.trans s5) nD2, ?_⟩
          have ed : decide (V.str (W m) = V.str (W (kb q).2)) = decide (bodyF [st] (kb q).1 = (kb q).2) := by
            rw [decide_eq_decide, ← em]
            exact ⟨fun z => W_inj (V.str.inj z), fun z => by rw [z]⟩
          rw [upd_same, List.take_add_one, hpj, List.map_append, List.map_append, ed]
          rfl
        · rintro H4 ⟨s4, hD4⟩
          rw [List.take_of_length_le (by rw [List.length_map]; omega)] at hD4
          refine ⟨D2, _, rfl, SqL.of hD4, _, rfl, ?_⟩
          have ef : ((prs.map fun p => decide (bodyF [st] p.1 = p.2)).all id) = fitB prs st := by unfold fitB; rw [List.all_map]; rfl
          rw [ef]
          cases hfit : fitB prs st with
          | true =>
            refine iteBT rfl ?_
            have hL4 := s4 _ _ hL3
            have nl := nl_upd (o := .lst (bs.map V.ref ++ [.ref a])) hL4
            refine ⟨_, rfl, bs.map V.ref, hL4, by rw [List.length_map]; exact sl_lt (by omega), same_mut' (s3.trans s4) nL, bs ++ [a], by rw [upd_same, List.map_append]; rfl, ?_⟩
            rw [List.take_add_one, hst, List.filter_append]
            refine f2_app (f2_imp hR3 fun _ _ r => (r.same s4).nl nl) ?_
            rw [show ((some st).toList.filter (fitB prs)) = [st] by show [st].filter _ = _; rw [List.filter_cons, if_pos hfit]; rfl]
            exact .cons (((hRa.same s3).same s4).nl nl) .nil
          | false =>
            refine iteBF rfl ?_
            refine ⟨s3.trans s4, bs, s4 _ _ hL3, ?_⟩
            rw [List.take_add_one, hst, List.filter_append, show ((some st).toList.filter (fitB prs)) = [] by show [st].filter _ = _; rw [List.filter_cons, if_neg (by rw [hfit]; decide)]; rfl, List.append_nil]
            exact hR3.same s4
      · refine ⟨rfl, .inr ⟨_, rfl, l, rfl, ⟨_, SqT.of hl3⟩, fun D2 nD2 => ?_⟩⟩
        refine lc_it (walk_tup (xs := qs.map V.ref)) (fun j H4 => Same H3 H4 ∧ H4 D2 = some (.lst (((prs.take j).map fun p => decide (bodyF [st] p.1 = p.2)).map V.bl))) ⟨same_upd nD2, upd_same⟩ (fun j H4 _ h4 => SqT.of (h4.1 _ _ hl3)) ?_ ?_
        · rintro j y H4' H4 hj ⟨s4, hD4⟩ ⟨rfl, hy⟩
          rw [List.getElem?_map] at hy
          obtain ⟨q, hq, rfl⟩ := Option.map_eq_some_iff.mp hy
          have hqm := List.mem_of_getElem? hq
          have hpj : prs[j]? = some (kb q) := by rw [hps, List.getElem?_map, hq]; rfl
          refine ⟨q, _, rfl, SqT.of (s4 _ _ (hq3 q hqm)), rfl, _, _, rfl, _, _, rfl, rfl, rfl, ?_⟩
          refine ⟨_, rfl, _, rfl, a, fl, [st], (kb q).1, rfl, (hRa.same s3).same s4, hp2 _ (List.mem_of_getElem? hpj), hO, fun m H5 hB hl5 s5 => ?_⟩
          have em : m = bodyF [st] (kb q).1 := hB.isF hO
          refine ⟨_, rfl, rfl, _, s5 _ _ hD4, by rw [List.length_map, List.length_map, List.length_take]; exact sl_lt (by omega), same_mut' (s4.trans s5) nD2, ?_⟩
          have ed : decide (V.str (W m) = V.str (W (kb q).2)) = decide (bodyF [st] (kb q).1 = (kb q).2) := by
            rw [decide_eq_decide, ← em]
            exact ⟨fun z => W_inj (V.str.inj z), fun z => by rw [z]⟩
          rw [upd_same, List.take_add_one, hpj, List.map_append, List.map_append, ed]
          rfl
        · rintro H4 ⟨s4, hD4⟩
          rw [List.take_of_length_le (by rw [List.length_map]; omega)] at hD4
          refine ⟨D2, _, rfl, SqL.of hD4, _, rfl, ?_⟩
          have ef : ((prs.map fun p => decide (bodyF [st] p.1 = p.2)).all id) = fitB prs st := by unfold fitB; rw [List.all_map]; rfl
          rw [ef]
          cases hfit : fitB prs st with
          | true =>
            refine iteBT rfl ?_
            have hL4 := s4 _ _ hL3
            have nl := nl_upd (o := .lst (bs.map V.ref ++ [.ref a])) hL4
            refine ⟨_, rfl, bs.map V.ref, hL4, by rw [List.length_map]; exact sl_lt (by omega), same_mut' (s3.trans s4) nL, bs ++ [a], by rw [upd_same, List.map_append]; rfl, ?_⟩
            rw [List.take_add_one, hst, List.filter_append]
            refine f2_app (f2_imp hR3 fun _ _ r => (r.same s4).nl nl) ?_
            rw [show ((some st).toList.filter (fitB prs)) = [st] by show [st].filter _ = _; rw [List.filter_cons, if_pos hfit]; rfl]
            exact .cons (((hRa.same s3).same s4).nl nl) .nil
          | false =>
            refine iteBF rfl ?_
            refine ⟨s3.trans s4, bs, s4 _ _ hL3, ?_⟩
            rw [List.take_add_one, hst, List.filter_append, show ((some st).toList.filter (fitB prs)) = [] by show [st].filter _ = _; rw [List.filter_cons, if_neg (by rw [hfit]; decide)]; rfl, List.append_nil]
            exact hR3.same s4
    · rintro H3 ⟨s3, bs, hL3, hR3⟩
      rw [List.take_of_length_le (by rw [List.length_map]; omega)] at hR3
      have lbs := f2_len hR3
      have l28' : (couL n prs).length ≤ 28 := Nat.le_trans (List.length_filter_le _ _) l28
      have hR3 : RusAt C H3 fl bs (couL n prs) := hR3
      have lbs2 := f2_len hR3
      refine ⟨_, rfl, L, rfl, ⟨_, SqL.of hL3⟩, fun L2 nL2 => ?_⟩
      refine lc_it (walk_list (xs := bs.map V.ref)) (fun i H4 => Same H3 H4 ∧ H4 L2 = some (.lst ((((couL n prs).take i).map fun s => ruT fl [s]).map V.str))) ⟨same_upd nL2, upd_same⟩ (fun i H4 _ h4 => SqL.of (h4.1 _ _ hL3)) ?_ ?_
      · rintro i x H4' H4 hi ⟨s4, hL4⟩ ⟨rfl, hx⟩
        rw [List.getElem?_map] at hx
        obtain ⟨a, ha, rfl⟩ := Option.map_eq_some_iff.mp hx
        obtain ⟨st, hst, hRa⟩ := f2_get hR3 ha
        obtain ⟨hm0, _⟩ := List.mem_filter.mp (List.mem_of_getElem? hst)
        obtain ⟨hm1, hm2⟩ := List.mem_filter.mp hm0
        obtain ⟨z1, z2⟩ := sgls_size hm1
        obtain ⟨dx, t, hat⟩ := (hRa.same s4).few
        refine ⟨rfl, _, rfl, a, dx, _, rfl, hat, a, fl, [st], rfl, hRa.same s4, (stOk1 z1 (by omega)).sm (by omega), fun H5 s5 => ⟨_, rfl, ?_⟩⟩
        refine ⟨_, s5 _ _ hL4, by rw [List.length_map, List.length_map, List.length_take]; exact sl_lt (by omega), same_mut' (s4.trans s5) nL2, ?_⟩
        rw [upd_same, List.take_add_one, hst, List.map_append, List.map_append]
        rfl
      · rintro H4 ⟨s4, hL4⟩
        rw [List.take_of_length_le (by rw [List.length_map]; omega)] at hL4
        refine ⟨L2, _, rfl, SqL.of hL4, by rw [List.length_map]; omega, fun ys p pm srt np => ?_⟩
        refine ⟨p, _, rfl, .inl ⟨SqL.of upd_same, fun t nt => ?_⟩⟩
        have sp := same_upd (o := .lst (ys.map V.str)) np
        refine k t ys _ ((((s1.trans s3).trans s4).trans sp).trans (same_upd nt)) ((((s1.trans s3).trans s4).trans sp).free nt) upd_same pm srt
end
end U


set_option maxRecDepth 100000
set_option maxHeartbeats 4000000
namespace U
open PySem PySem.Spec PyProof.Rows
open L2 hiding Fun CX0 E0 pass0 Fun.binds
open C8 Lx SX StX
/-- a rule as the law tells it -/
def Told (H : Hp) (t : Addr) (f : List Bool) (ss : List Stf) : Prop := ∃ l ps kb, H t = some (.tup [.str (W f), .ref l]) ∧ H l = some (.lst (ps.map V.ref)) ∧ StV H kb ps ∧ ss = ps.map kb
theorem Told.same {H H' : Hp} {t : Addr} {f : List Bool} {ss : List Stf} (h : Told H t f ss) (e : Same H H') : Told H' t f ss := by
  obtain ⟨l, ps, kb, h1, h2, h3, h4⟩ := h
  exact ⟨l, ps, kb, e _ _ h1, e _ _ h2, h3.same e, h4⟩
theorem refs_ne {ps : List Addr} {i j : Int} : ps.map V.ref ≠ [.int i, .int j] := fun z => by
  cases ps with
  | nil => cases z
  | cons p r => cases (List.cons.inj z).1
theorem Box.neL {H : Hp} {b l : Addr} {ps : List Addr} (hb : Box H b) (h : H l = some (.lst (ps.map V.ref))) : l ≠ b := fun z => by
  obtain ⟨i, j, hb⟩ := hb
  rw [z, hb] at h
  exact refs_ne (HO.lst.inj (Option.some.inj h)).symm
theorem Told.up {b : Addr} {H H' : Hp} {t : Addr} {f : List Bool} {ss : List Stf} (hb : Box H b) (h : Told H t f ss) (e : Up b H H') : Told H' t f ss := by
  obtain ⟨l, ps, kb, h1, h2, h3, h4⟩ := h
  exact ⟨l, ps, kb, e.1 _ _ h1 (hb.neT h1), e.1 _ _ h2 (hb.neL h2), fun t ht => e.1 _ _ (h3 t ht) (hb.neT (h3 t ht)), h4⟩
theorem RuAt.up {C b : Addr} {H H' : Hp} {a : Addr} {f : List Bool} {ss : List Stf} (hb : Box H b) (h : RuAt C H a f ss) (e : Up b H H') : RuAt C H' a f ss := h.nl (e.nl hb)
def putL (ss : List Stf) (l : List Bool) : List Bool := match putM ss l with
  | none => []
  | some b => [b]
theorem putL_len (ss : List Stf) (l : List Bool) : (putL ss l).length ≤ 1 := by unfold putL; cases putM ss l <;> simp
theorem stP_eq (ss : List Stf) (l : List Bool) : stP ss l = l ++ putL ss l := by
  unfold stP putL
  cases putM ss l with
  | none => rw [List.append_nil]
  | some b => rfl
theorem putL_head {ss : List Stf} {l : List Bool} : putM ss l = ((ss.filter fun s => s.1.isSuffixOf l).map (·.2)).head? := by
  unfold putM
  rw [List.head?_map, List.head?_filter]
def dS (x : List Bool) : PyData := .str (W x)
theorem dp_strs {K : PySem.W.Frag} {H : Hp} : ∀ xs : List (List Bool), DpAll K H (xs.map fun x => V.str (W x)) (xs.map dS)
  | [] => .nil
  | x :: r => .cons (.str _) (dp_strs r)
theorem strOk_W (x : List Bool) : PyData.strOk (W x) = true := by
  unfold PyData.strOk
  simp only [W, S, List.all_toArray, List.all_map, List.all_eq_true]
  intro b _
  cases b <;> decide +kernel
/-- data that can be compared -/
def DOk (n : Nat) (d : PyData) : Prop := PyData.canLay0 d = true ∧ PyData.depth d ≤ n
theorem dok_str (x : List Bool) : DOk 0 (.str (W x)) := ⟨strOk_W x, Nat.le_refl _⟩
theorem dok_all {n : Nat} : ∀ {ds : List PyData}, (∀ d ∈ ds, DOk n d) → PyData.canLayAll0 ds = true ∧ PyData.depthAll ds ≤ n
  | [], _ => ⟨rfl, Nat.zero_le _⟩
  | d :: r, h => by
    have h1 := h d List.mem_cons_self
    have h2 := dok_all (ds := r) fun d hd => h d (List.mem_cons_of_mem _ hd)
    refine ⟨?_, ?_⟩
    · show (PyData.canLay0 d && PyData.canLayAll0 r) = true
      rw [h1.1, h2.1]; rfl
    · show max (PyData.depth d) (PyData.depthAll r) ≤ n
      have := h1.2; have := h2.2; omega
theorem dok_list {n : Nat} {ds : List PyData} (h : ∀ d ∈ ds, DOk n d) : DOk (n + 1) (.list ds) := ⟨(dok_all h).1, Nat.succ_le_succ (dok_all h).2⟩
theorem dok_tup {n : Nat} {ds : List PyData} (h : ∀ d ∈ ds, DOk n d) : DOk (n + 1) (.tuple ds) := ⟨(dok_all h).1, Nat.succ_le_succ (dok_all h).2⟩
theorem DOk.shaped {n : Nat} {d : PyData} (h : DOk n d) (hn : n ≤ 64) : SeqAt.shaped d = true := by
  unfold SeqAt.shaped
  rw [h.1, decide_eq_true (Nat.le_trans h.2 hn)]
  rfl
theorem shaped_strs (xs : List (List Bool)) : SeqAt.shaped (.list (xs.map dS)) = true := (dok_list (n := 0) fun d hd => by
  obtain ⟨x, _, rfl⟩ := List.mem_map.mp hd
  exact dok_str x).shaped (by decide)
theorem shaped_nil : SeqAt.shaped (.list []) = true := by decide +kernel
theorem eqv_nil (ds : List PyData) : PyData.eqv (.list ds) (.list []) = ds.isEmpty := by cases ds <;> rfl
end U

set_option maxRecDepth 100000
set_option maxHeartbeats 4000000
namespace U
open PySem PySem.Spec PyProof.Rows
open L2 hiding Fun CX0 E0 pass0 Fun.binds
open C8 Lx SX StX
/-- stuffs as a list of the law -/
def Stl (H : Hp) (r : Addr) (ss : List Stf) : Prop := ∃ ps kb, H r = some (.lst (ps.map V.ref)) ∧ StV H kb ps ∧ ss = ps.map kb
theorem Stl.same {H H' : Hp} {r : Addr} {ss : List Stf} (h : Stl H r ss) (e : Same H H') : Stl H' r ss := by
  obtain ⟨ps, kb, h1, h2, h3⟩ := h
  exact ⟨ps, kb, e _ _ h1, h2.same e, h3⟩
theorem Stl.up {b : Addr} {H H' : Hp} {r : Addr} {ss : List Stf} (hb : Box H b) (h : Stl H r ss) (e : Up b H H') : Stl H' r ss := by
  obtain ⟨ps, kb, h2, h3, h4⟩ := h
  exact ⟨ps, kb, e.1 _ _ h2 (hb.neL h2), fun t ht => e.1 _ _ (h3 t ht) (hb.neT (h3 t ht)), h4⟩
def spEnds : Sp := fun vs H Q _ => ∃ l p : List Bool, vs = [.str (W l), .str (W p)] ∧ l.length ≤ 50000 ∧ p.length ≤ 50000 ∧ Q (.bl (p.isSuffixOf l)) H
def spDue : Sp := fun vs H Q _ => ∃ (r : Addr) (l : List Bool) (ss : List Stf), vs = [.ref r, .str (W l)] ∧ Stl H r ss ∧ l.length ≤ 50000 ∧ ss.length ≤ 1000 ∧ (∀ s ∈ ss, s.1.length ≤ 1000) ∧ ∀ H', Same H H' → Q (oB (putM ss l)) H'
def spChain : Sp := fun vs H Q _ => ∃ (r : Addr) (l : List Bool) (ss : List Stf), vs = [.ref r, .str (W l)] ∧ Stl H r ss ∧ l.length ≤ 40000 ∧ ss.length ≤ 1000 ∧ (∀ s ∈ ss, s.1.length ≤ 1000) ∧
  ∀ o H', Same H H' → (∀ x, o = some x → Ins ss l x ∧ x.length ≤ 39) → (∀ x, Ins ss l x → x.length ≤ 39 → o = some x) → Q (oW o) H'
theorem W_dropN {l : List Bool} {n : Nat} (h : n ≤ l.length) : Txt.slice (W l) (some (((W l).length : Nat) - (n : Nat) : Int)) none = W (tl n l) := by
  rw [W_len, W_drop (by omega)]
  unfold tl
  congr 2
  omega
section
variable {P : Program} {w : World} {K : PySem.W.Frag} {mg : Str → Option Value} {base : Heap}
theorem sc_l_ends : FnScope ["_law_line", "_law_pattern"] ["_law_line", "_law_pattern"] (fnScope s_l_ends) := fnScope_by (by decide +kernel)
theorem cal_l_ends {f : Addr} {fd : FuncData} (F : Def K mg "_law_ends" s_l_ends f fd) (b : Binds K fd ["_law_line", "_law_pattern"] []) (T : Tx mg) : Cal P w K mg base 1 "_law_ends" spEnds [] := by
  refine cal0 F b .nil sc_l_ends (fun vs H Q E h => ?_) (fun cdv A outer s H vs Q E hr h => ?_)
  · obtain ⟨_, _, rfl, _⟩ := h; rfl
  · obtain ⟨l, p, rfl, hl, hp, k⟩ := h
    refine ⟨_, (pss_one (ps_ret (pe_and (pe_cmpR op_ge (pe_callB call_len_str (by rfl) T.b_len (by decide +kernel) (pa_cons (pv 0) pa_nil)) (pe_callB call_len_str (by rfl) T.b_len (by decide +kernel) (pa_cons (pv 1) pa_nil)) (nomark _)) (pe_one (pe_cmpR op_eq (pe_slice sl_txt (pv 0) (po_some (pe_op op_sub (pe_callB call_len_str (by rfl) T.b_len (by decide +kernel) (pa_cons (pv 0) pa_nil)) (pe_callB call_len_str (by rfl) T.b_len (by decide +kernel) (pa_cons (pv 1) pa_nil)))) po_none) (pv 1) (nomark _)))))), ?_⟩
    have el : (W l).length = l.length := W_len _
    have ep : (W p).length = p.length := W_len _
    have lw : (W l).length ≤ sizeLine := by rw [el]; exact sl_len (by omega)
    have lp : (W p).length ≤ sizeLine := by rw [ep]; exact sl_len (by omega)
    refine ⟨_, rfl, _, rfl, lw, _, rfl, _, rfl, lp, _, _, rfl, rfl, _, rfl, ?_⟩
    by_cases c : p.length ≤ l.length
    · refine iteDT (by rw [el, ep]; omega) ?_
      refine ⟨_, rfl, _, rfl, _, rfl, lw, _, rfl, _, rfl, lp, _, _, rfl, rfl, _, rfl, _, rfl, lw, _, rfl, rfl, ?_⟩
      have e : Txt.slice (W l) (some (((W l).length : Nat) - ((W p).length : Nat) : Int)) none = W (tl p.length l) := by rw [ep]; exact W_dropN c
      show Q (.bl (decide (V.str (Txt.slice (W l) (some (((W l).length : Nat) - ((W p).length : Nat) : Int)) none) = V.str (W p)))) H
      rw [e]
      cases c2 : p.isSuffixOf l with
      | true =>
        rw [c2] at k
        exact q_dec (Q := Q) (by rw [← suf_iff.mp c2]) k
      | false =>
        rw [c2] at k
        refine q_ndec (Q := Q) (fun z => ?_) k
        have := suf_iff.mpr (W_inj (V.str.inj z)).symm
        rw [c2] at this
        cases this
    · have c2 : p.isSuffixOf l = false := by
        cases e : p.isSuffixOf l with
        | false => rfl
        | true => exact absurd (List.isSuffixOf_iff_suffix.mp e).length_le c
      rw [c2] at k
      have e : decide (((W p).length : Int) ≤ ((W l).length : Int)) = false := decide_eq_false (by rw [el, ep]; omega)
      rw [e]
      exact k
theorem sc_l_due : FnScope ["_law_stuffs", "_law_line", "_law_found", "_law_pattern", "_law_bit"] ["_law_stuffs", "_law_line"] (fnScope s_l_due) := fnScope_by (by decide +kernel)
theorem cal_l_due {f : Addr} {fd : FuncData} (F : Def K mg "_law_due" s_l_due f fd) (b : Binds K fd ["_law_stuffs", "_law_line"] []) (T : Tx mg) (c_l_ends : Cal P w K mg base 1 "_law_ends" spEnds []) : Cal P w K mg base 2 "_law_due" spDue [] := by
  refine cal0 F b .nil sc_l_due (fun vs H Q E h => ?_) (fun cdv A outer s H vs Q E hr h => ?_)
  · obtain ⟨_, _, _, rfl, _⟩ := h; rfl
  · obtain ⟨r, l, ss, rfl, ⟨ps, kb, hl, hs, rfl⟩, h1, h2, h3, k⟩ := h
    refine ⟨_, (pss_cons (ps_setLc (i := 2) (own := [("_law_pattern", 3), ("_law_bit", 4)]) (g := gTup K 2 (gCons (gName 3) (gCons (gName 4) gNil))) (by rfl) sc_l_due.nd rfl rfl (sw_true rfl rfl rfl (by decide +kernel)) (pi_list (pv 0)) (blkOk_by (own := [("_law_pattern", 3), ("_law_bit", 4)]) (N := ["_law_stuffs", "_law_line", "_law_found", "_law_pattern", "_law_bit"]) (sc := fnScope s_l_due) (by decide +kernel)) (fun _ _ _ _ _ => (pg_tup rfl (pgs_cons (pg_name (i := 3) sc_l_due.nd rfl (.inl rfl)) (pgs_cons (pg_name (i := 4) sc_l_due.nd rfl (.inl rfl)) pgs_nil)))) (fun _ _ _ _ _ => (pts_one (pt_val (pe_c c_l_ends hr (by decide) rfl (pa_cons (pv 1) (pa_cons (pv 3) pa_nil)))))) (fun _ _ _ _ _ => (pv 4)))
    (pss_one (ps_ret (pe_ifExp (pt_cmpR (op_neD hr.units) (pv 2) (pe_lst pa_nil) (nomark _)) (pe_ix ix_list (pv 2) pe_int (fun _ _ => rfl)) pe_non)))), ?_⟩
    refine ⟨_, rfl, r, rfl, ⟨_, SqL.of hl⟩, fun D nD => ?_⟩
    refine lc_it (walk_list (xs := ps.map V.ref)) (fun i H2 => Same H H2 ∧ H2 D = some (.lst (((((ps.take i).map kb).filter fun s => s.1.isSuffixOf l).map fun s => [s.2]).map fun x => V.str (W x)))) ⟨same_upd nD, upd_same⟩ (fun i H2 _ h2 => h2.1.seq (SqL.of hl)) ?_ ?_
    · rintro i x H2 H3 hi ⟨s2, hD⟩ ⟨rfl, hx⟩
      rw [List.getElem?_map] at hx
      obtain ⟨q, hq, rfl⟩ := Option.map_eq_some_iff.mp hx
      have hqm : q ∈ ps := List.mem_of_getElem? hq
      refine ⟨q, _, rfl, SqT.of (s2 _ _ (hs q hqm)), rfl, _, _, rfl, _, _, rfl, rfl, rfl, ?_⟩
      refine ⟨_, rfl, _, rfl, l, (kb q).1, rfl, h1, Nat.le_trans (h3 _ (List.mem_map_of_mem hqm)) (by decide), _, rfl, ?_⟩
      have et : (ps.take (i + 1)).map kb = (ps.take i).map kb ++ [kb q] := by rw [List.take_add_one, hq, List.map_append]; rfl
      cases c : (kb q).1.isSuffixOf l with
      | true =>
        refine ⟨_, rfl, _, hD, ?_, ?_, ?_⟩
        · rw [List.length_map, List.length_map]
          refine sl_lt (Nat.lt_of_le_of_lt (List.length_filter_le _ _) ?_)
          rw [List.length_map, List.length_take]
          rw [List.length_map] at h2
          omega
        · intro c' o e
          rw [upd_ne (ne_of_none e nD)]
          exact s2 _ _ e
        · rw [upd_same, et, List.filter_append, List.map_append, List.map_append, List.filter_cons_of_pos (p := fun s : Stf => s.1.isSuffixOf l) c]
          rfl
      | false =>
        refine ⟨s2, ?_⟩
        rw [hD, et, List.filter_append, List.filter_cons_of_neg (p := fun s : Stf => s.1.isSuffixOf l) (by rw [c]; decide), List.filter_nil, List.append_nil]
    · rintro H2 ⟨s2, hD⟩
      rw [List.length_map, List.take_length] at hD
      refine ⟨_, rfl, Nat.zero_le _, fun p hp => ?_⟩
      have hp2 := putL_head (ss := ps.map kb) (l := l)
      have hD2 : upd H2 p (.lst []) D = some (.lst ((((ps.map kb).filter fun s => s.1.isSuffixOf l).map fun s => [s.2]).map fun x => V.str (W x))) := same_upd hp _ _ hD
      have s3 := s2.trans (same_upd (o := .lst []) hp)
      refine ⟨.list ((((ps.map kb).filter fun s => s.1.isSuffixOf l).map fun s => [s.2]).map dS), .list [], .lst (SqL.of hD2) (dp_strs _), .lst (SqL.of upd_same) .nil, shaped_strs _, shaped_nil, _, rfl, ?_⟩
      rw [eqv_nil]
      have k3 := k _ s3
      rw [hp2] at k3
      generalize (ps.map kb).filter (fun s => s.1.isSuffixOf l) = fs at hD2 k3
      cases fs with
      | nil => exact k3
      | cons x r => exact ⟨_, rfl, D, _, 0, .str (W [x.2]), rfl, rfl, SqL.of hD2, atI_nat (j := 0) rfl, k3⟩
theorem sc_l_chain : FnScope ["_law_stuffs", "_law_line", "_law_found", "_law_turn", "_law_bit"] ["_law_stuffs", "_law_line"] (fnScope s_l_chain) := fnScope_by (by decide +kernel)
theorem cal_l_chain {f : Addr} {fd : FuncData} (F : Def K mg "_law_chain" s_l_chain f fd) (b : Binds K fd ["_law_stuffs", "_law_line"] []) (T : Tx mg) (c_l_due : Cal P w K mg base 2 "_law_due" spDue []) : Cal P w K mg base 3 "_law_chain" spChain [] := by
  refine cal0 F b .nil sc_l_chain (fun vs H Q E h => ?_) (fun cdv A outer s H vs Q E hr h => ?_)
  · obtain ⟨_, _, _, rfl, _⟩ := h; rfl
  · obtain ⟨r, l, ss, rfl, hst, h1, h2, h3, k⟩ := h
    refine ⟨_, (pss_cons (ps_set (i := 2) sc_l_chain.nd rfl (.inl rfl) pe_str)
    (pss_cons (ps_for PassesOwn.never rfl (pi_range1 (by rfl) T.b_range (pa_cons pe_int pa_nil)) (pg_name (i := 3) sc_l_chain.nd rfl (.inl rfl))
    (pss_cons (ps_set (i := 4) sc_l_chain.nd rfl (.inl rfl) (pe_c c_l_due hr (by decide) rfl (pa_cons (pv 0) (pa_cons (pe_op op_add_str (pv 1) (pv 2)) pa_nil))))
    (pss_cons (ps_if (pt_cmpR op_isN (pv 4) pe_non (nomark _)) (pss_one (ps_ret (pv 2))) pss_nil)
    (pss_one (ps_set (i := 2) sc_l_chain.nd rfl (.inl rfl) (pe_op op_add_str (pv 2) (pv 4)))))))
    (pss_one (ps_ret pe_non)))), ?_⟩
    have el : (W l).length = l.length := W_len _
    refine ⟨_, rfl, by decide, by decide, for_it walk_range (fun j σ H2 => ∃ (y : List Bool) (v3 v4 : Option V), σ = [some (.ref r), some (.str (W l)), some (.str (W y)), v3, v4] ∧ Same H H2 ∧ y.length = j ∧ itP ss j l = l ++ y) ⟨[], none, none, by rw [← W_nil]; rfl, Same.refl _, rfl, by rw [List.append_nil]; rfl⟩ (fun _ _ _ _ _ => trivial) ?_ ?_⟩
    · rintro j x σ H2 H3 hj ⟨y, v3, v4, rfl, s2, hy, hit⟩ ⟨rfl, rfl⟩
      have hj40 : j < 40 := hj
      have ey : (W y).length = y.length := W_len _
      refine ⟨_, rfl, _, rfl, _, rfl, _, _, rfl, rfl, by rw [el, ey]; exact sl_len (by omega), r, l ++ y, ss, by rw [← W_cat]; rfl, hst.same s2, by rw [List.length_append]; omega, h2, h3, fun H4 s4 => ?_⟩
      refine ⟨_, rfl, rfl, _, rfl, ?_⟩
      rw [oB_non]
      cases e : putM ss (l ++ y) with
      | none =>
        have hI := ins_of_itP hit e hy
        exact ⟨_, rfl, k (some y) H4 (s2.trans s4) (fun x ex => by cases ex; exact ⟨hI, by omega⟩) (fun x hx _ => by rw [hI.det hx])⟩
      | some b =>
        have e3 : (W [b]).length = 1 := W_len _
        refine ⟨_, rfl, _, rfl, _, _, rfl, rfl, by rw [ey, e3]; exact sl_len (by omega), ?_⟩
        rw [W_cat]
        refine ⟨y ++ [b], _, _, rfl, s2.trans s4, by rw [List.length_append, hy]; rfl, ?_⟩
        rw [itP_succ, hit]
        unfold stP
        rw [e]
        exact List.append_assoc _ _ _
    · rintro σ H2 ⟨y, v3, v4, rfl, s2, hy, hit⟩
      refine k none H2 s2 (fun x ex => by cases ex) (fun x hx hl => ?_)
      have hy40 : y.length = 40 := hy
      have h40 : itP ss 40 l = l ++ y := hit
      rw [hx.itP, List.take_of_length_le (by omega)] at h40
      have := List.append_cancel_left h40
      rw [this] at hl
      omega
end
end U

set_option maxRecDepth 100000
set_option maxHeartbeats 4000000
namespace U
open PySem PySem.Spec PyProof.Rows
open L2 hiding Fun CX0 E0 pass0 Fun.binds
open C8 Lx SX StX
theorem cutS_4 (l : List Bool) : cutS (W l) (some (-4)) none = W (tl 4 l) := by
  refine TL.ext_tl ?_
  unfold cutS
  show (((l.map bt).drop (HT.sIx (W l).length 0 (some (-4)))).take (HT.sIx (W l).length (W l).length none - HT.sIx (W l).length 0 (some (-4)))) = (tl 4 l).map bt
  rw [HT.sIx_none, W_len]
  have e : HT.sIx l.length 0 (some (-4)) = l.length - 4 := by
    unfold HT.sIx
    simp only []
    split <;> omega
  rw [e, List.take_of_length_le (by rw [List.length_drop, List.length_map]; omega)]
  unfold tl
  rw [List.map_drop]
theorem strs_flat (ws : List (List Bool)) : (ws.map fun w => V.str (W w)).all flatV = true := by
  rw [List.all_map, List.all_eq_true]
  intro w _
  rfl
theorem inV_W {w : List Bool} {ws : List (List Bool)} : inV (.str (W w)) (ws.map fun w => V.str (W w)) = decide (w ∈ ws) := by
  unfold inV
  rw [List.any_map, Bool.eq_iff_iff, List.any_eq_true, decide_eq_true_eq]
  constructor
  · rintro ⟨u, hu, e⟩
    have e2 : W u = W w := by simpa [eqV] using e
    rw [← W_inj e2]
    exact hu
  · intro h
    exact ⟨w, h, by simp [eqV]⟩
/-- the tails that are found -/
structure Tls (ss : List Stf) (H H2 : Hp) (q : Addr) (n : Nat) (ws : List (List Bool)) : Prop where
  same : Same H H2
  list : H2 q = some (.lst (ws.map fun w => V.str (W w)))
  nodup : ws.Nodup
  short : ∀ w ∈ ws, w.length ≤ 4
  nil : [] ∈ ws
  done : ∀ i w, i < n → ws[i]? = some w → ∀ b, ∃ x, Ins ss (w ++ [b]) x ∧ x.length ≤ 39 ∧ tl 4 (w ++ [b] ++ x) ∈ ws
theorem Tls.few {ss : List Stf} {H H2 : Hp} {q : Addr} {n : Nat} {ws : List (List Bool)} (h : Tls ss H H2 q n ws) : ws.length ≤ 31 := by
  have := words_le h.nodup h.short
  have e : (2 : Nat) ^ (4 + 1) = 32 := by decide
  omega
theorem okN_of {ss : List Stf} (kn : List (List Bool)) (hL : ∀ s ∈ ss, s.1.length ≤ 4) (h0 : [] ∈ kn) (hx : ∀ w ∈ kn, ∀ b, ∃ x, Ins ss (w ++ [b]) x ∧ x.length ≤ 39 ∧ tl 4 (w ++ [b] ++ x) ∈ kn) : OkN 39 ss := by
  have hr : ∀ l, Reach ss l → ∃ w ∈ kn, tl 4 w = tl 4 l := fun l r => by
    induction r with
    | nil => exact ⟨[], h0, rfl⟩
    | @next l x b r i ih =>
      obtain ⟨w, hw, e⟩ := ih
      obtain ⟨y, hy, _, hm⟩ := hx w hw b
      have e2 := tl_snoc (b := b) e
      have ey := (hy.tl hL e2).det i
      subst ey
      exact ⟨_, hm, by rw [tl_tl (Nat.le_refl 4)]; exact tl_app e2 y⟩
  intro l r b
  obtain ⟨w, hw, e⟩ := hr l r
  obtain ⟨y, hy, h39, _⟩ := hx w hw b
  exact ⟨y, hy.tl hL (tl_snoc e), h39⟩
def spTails : Sp := fun vs H Q _ => ∃ (r : Addr) (ss : List Stf), vs = [.ref r] ∧ Stl H r ss ∧ ss.length ≤ 1000 ∧ (∀ s ∈ ss, s.1.length ≤ 4) ∧
  (∀ H', Same H H' → (∃ l, ∀ x, Ins ss l x → ¬ x.length ≤ 39) → Q .non H') ∧ ∀ q H', Same H H' → OkN 39 ss → Q (.ref q) H'
end U

set_option maxRecDepth 100000
set_option maxHeartbeats 4000000
namespace U
open PySem PySem.Spec PyProof.Rows
open L2 hiding Fun CX0 E0 pass0 Fun.binds
open C8 Lx SX StX
theorem two01 {i : Nat} {x : V} (h : [V.str "0", V.str "1"][i]? = some x) : ∃ b : Bool, [false, true][i]? = some b ∧ x = .str (W [b]) := by
  match i, h with
  | 0, h => cases h; exact ⟨false, rfl, by rw [W_0]⟩
  | 1, h => cases h; exact ⟨true, rfl, by rw [W_1]⟩
section
variable {P : Program} {w : World} {K : PySem.W.Frag} {mg : Str → Option Value} {base : Heap}
theorem sc_l_tails : FnScope ["_law_stuffs", "_law_found", "_law_at", "_law_bit", "_law_more", "_law_last"] ["_law_stuffs"] (fnScope s_l_tails) := fnScope_by (by decide +kernel)
theorem cal_l_tails {f : Addr} {fd : FuncData} (F : Def K mg "_law_tails" s_l_tails f fd) (b : Binds K fd ["_law_stuffs"] []) (T : Tx mg) (c_l_chain : Cal P w K mg base 3 "_law_chain" spChain []) : Cal P w K mg base 4 "_law_tails" spTails [] := by
  refine cal0 F b .nil sc_l_tails (fun vs H Q E h => ?_) (fun cdv A outer s H vs Q E hr h => ?_)
  · obtain ⟨_, _, rfl, _⟩ := h; rfl
  · obtain ⟨r, ss, rfl, hst, h2, h3, knon, kok⟩ := h
    refine ⟨_, (pss_cons (ps_set (i := 1) sc_l_tails.nd rfl (.inl rfl) (pe_lst (pa_cons pe_str pa_nil)))
    (pss_cons (ps_set (i := 2) sc_l_tails.nd rfl (.inl rfl) pe_int)
    (pss_cons (ps_while PassesOwn.never (pt_cmpR op_lt (pv 2) (pe_callB call_len_seq (by rfl) T.b_len (by decide +kernel) (pa_cons (pv 1) pa_nil)) (nomark _))
    (pss_cons (ps_for PassesOwn.never rfl (pi_tup (pe_tup (pa_cons pe_str (pa_cons pe_str pa_nil)))) (pg_name (i := 3) sc_l_tails.nd rfl (.inl rfl))
    (pss_cons (ps_set (i := 4) sc_l_tails.nd rfl (.inl rfl) (pe_c c_l_chain hr (by decide) rfl (pa_cons (pv 0) (pa_cons (pe_op op_add_str (pe_ix ix_list (pv 1) (pv 2) (fun _ _ => rfl)) (pv 3)) pa_nil))))
    (pss_cons (ps_if (pt_cmpR op_isN (pv 4) pe_non (nomark _)) (pss_one (ps_ret pe_non)) pss_nil)
    (pss_cons (ps_set (i := 5) sc_l_tails.nd rfl (.inl rfl) (pe_slice sl_str (pe_op op_add_str (pe_op op_add_str (pe_ix ix_list (pv 1) (pv 2) (fun _ _ => rfl)) (pv 3)) (pv 4)) (po_some (pe_un un_neg pe_int)) po_none))
    (pss_one (ps_if (pt_cmpR op_notIn_seq (pv 5) (pv 1) (by with_unfolding_all rfl)) (pss_one (ps_expr (pe_bm PySem.F.plainAttrs_list PySem.F.slot_list_append PySem.F.type_list_append mt_append (pv 1) (pa_cons (pv 5) pa_nil)))) pss_nil))))))
    (pss_one (ps_set (i := 2) sc_l_tails.nd rfl (.inl rfl) (pe_op op_add (pv 2) pe_int)))))
    (pss_one (ps_ret (pv 1)))))), ?_⟩
    refine ⟨by show 1 ≤ sizeLine; decide, fun q nq => ?_⟩
    have b0 : Tls ss H (upd H q (.lst [.str ""])) q 0 [[]] := ⟨same_upd nq, by rw [upd_same, W_nil]; rfl, by simp, fun w hw => by rw [List.mem_singleton.mp hw]; exact Nat.zero_le _, List.mem_cons_self, fun i w h => absurd h (Nat.not_lt_zero _)⟩
    generalize upd H q (.lst [.str ""]) = H1 at b0
    refine ⟨fun m σ H2 => ∃ (n : Nat) (ws : List (List Bool)) (v3 v4 v5 : Option V), σ = [some (.ref r), some (.ref q), some (.int n), v3, v4, v5] ∧ Tls ss H H2 q n ws ∧ n ≤ ws.length ∧ m + n = 32,
      ⟨32, 0, [[]], none, none, none, rfl, b0, Nat.zero_le _, rfl⟩, ?_⟩
    rintro m σ H2 ⟨n, ws, v3, v4, v5, rfl, B2, hn2, hm⟩
    have few2 := B2.few
    refine ⟨_, rfl, _, rfl, q, _, rfl, .inl (SqL.of B2.list), _, _, rfl, rfl, _, rfl, ?_⟩
    rw [List.length_map]
    by_cases hlt : n < ws.length
    · refine iteDT (by omega) ?_
      refine ⟨fun σ' H' => ∃ m', m' < m ∧ ∃ (n : Nat) (ws : List (List Bool)) (v3 v4 v5 : Option V), σ' = [some (.ref r), some (.ref q), some (.int n), v3, v4, v5] ∧ Tls ss H H' q n ws ∧ n ≤ ws.length ∧ m' + n = 32, fun _ _ h => h, ?_⟩
      have hw0 : ws[n]? = some ws[n] := List.getElem?_eq_getElem hlt
      have hmem0 : ws[n] ∈ ws := List.getElem_mem hlt
      have l4 := B2.short _ hmem0
      generalize ws[n] = w0 at hw0 l4
      refine ⟨by show 2 ≤ sizeLine; decide, fun T' nT => ⟨T', rfl, ⟨_, SqT.of upd_same⟩, ?_⟩⟩
      have sT : Same H2 (upd H2 T' (.tup [.str "0", .str "1"])) := same_upd nT
      have hT : upd H2 T' (.tup [.str "0", .str "1"]) T' = some (.tup [.str "0", .str "1"]) := upd_same
      have B3 : Tls ss H (upd H2 T' (.tup [.str "0", .str "1"])) q n ws := ⟨B2.same.trans sT, sT _ _ B2.list, B2.nodup, B2.short, B2.nil, B2.done⟩
      generalize upd H2 T' (.tup [.str "0", .str "1"]) = H3 at B3 hT
      have nTq : T' ≠ q := ne_of hT B3.list (by intro z; cases z)
      refine for_it (walk_tup (xs := [.str "0", .str "1"])) (fun i σ H4 => ∃ (ws : List (List Bool)) (v3 v4 v5 : Option V), σ = [some (.ref r), some (.ref q), some (.int n), v3, v4, v5] ∧ Tls ss H H4 q n ws ∧ H4 T' = some (.tup [.str "0", .str "1"]) ∧ n < ws.length ∧ ws[n]? = some w0 ∧ ∀ j b, j < i → [false, true][j]? = some b → ∃ x, Ins ss (w0 ++ [b]) x ∧ x.length ≤ 39 ∧ tl 4 (w0 ++ [b] ++ x) ∈ ws)
        ⟨ws, _, _, _, rfl, B3, hT, hlt, hw0, fun j b h => absurd h (Nat.not_lt_zero _)⟩ (fun i σ H4 _ h4 => by obtain ⟨_, _, _, _, _, _, h, _⟩ := h4; exact SqT.of h) ?_ ?_
      · clear B3 B2 few2 hmem0 hw0 hlt hn2
        rintro i x σ H4 H4' hi ⟨ws, v3, v4, v5, rfl, B4, hT4, hlt4, hw4, hbits⟩ ⟨rfl, hx⟩
        obtain ⟨bb, hbb, rfl⟩ := two01 hx
        have few4 := B4.few
        have hat : (ws.map fun w => V.str (W w))[n]? = some (.str (W w0)) := by rw [List.getElem?_map, hw4]; rfl
        have e1 : (W w0).length = w0.length := W_len _
        have e2 : (W [bb]).length = 1 := W_len _
        have len1 : (W w0).length + (W [bb]).length ≤ sizeLine := by rw [e1, e2]; exact sl_len (by omega)
        have ll : (w0 ++ [bb]).length = w0.length + 1 := by rw [List.length_append]; rfl
        refine ⟨_, rfl, _, rfl, _, rfl, q, _, _, _, rfl, rfl, SqL.of B4.list, atI_nat hat, _, rfl, _, _, rfl, rfl, len1, r, w0 ++ [bb], ss, by rw [← W_cat]; rfl, hst.same B4.same, by omega, h2, fun s hs => Nat.le_trans (h3 s hs) (by decide), fun o H5 s5 ho1 ho2 => ?_⟩
        have B5 : Tls ss H H5 q n ws := ⟨B4.same.trans s5, s5 _ _ B4.list, B4.nodup, B4.short, B4.nil, B4.done⟩
        have hT5 := s5 _ _ hT4
        refine ⟨_, rfl, rfl, _, rfl, ?_⟩
        cases o with
        | none => exact iteDT rfl (knon H5 B5.same ⟨_, fun x hx h39 => by cases ho2 x hx h39⟩)
        | some y =>
          obtain ⟨hI, h39⟩ := ho1 y rfl
          refine iteDF (fun z => by cases z) ?_
          have e3 : (W (w0 ++ [bb])).length = (w0 ++ [bb]).length := W_len _
          have e4 : (W y).length = y.length := W_len _
          have e5 : (W (w0 ++ [bb] ++ y)).length = (w0 ++ [bb] ++ y).length := W_len _
          refine ⟨_, rfl, _, rfl, q, _, _, _, rfl, rfl, SqL.of B5.list, atI_nat hat, _, rfl, _, _, rfl, rfl, len1, _, rfl, _, _, rfl, rfl, by rw [W_cat, e3, e4]; exact sl_len (by omega), _, rfl, _, rfl, _, rfl, by rw [W_cat, W_cat, e5, List.length_append]; exact sl_len (by omega), ?_⟩
          rw [W_cat, W_cat]
          show gName 5 (.str (cutS (W (w0 ++ [bb] ++ y)) (some (-4)) none)) _ _ _
          rw [cutS_4]
          refine ⟨_, rfl, _, rfl, q, _, rfl, .inl (SqL.of B5.list), rfl, strs_flat _, _, rfl, ?_⟩
          show if (!inV (.str (W (tl 4 (w0 ++ [bb] ++ y)))) (ws.map fun w => V.str (W w))) = true then _ else _
          rw [inV_W]
          by_cases hin : tl 4 (w0 ++ [bb] ++ y) ∈ ws
          · refine iteBF (by rw [decide_eq_true hin]; rfl) ?_
            refine ⟨ws, _, _, _, rfl, B5, hT5, hlt4, hw4, fun j b hj hb => ?_⟩
            by_cases ej : j = i
            · subst ej
              rw [hbb] at hb
              cases hb
              exact ⟨y, hI, h39, hin⟩
            · exact hbits j b (by omega) hb
          · refine iteBT (by rw [decide_eq_false hin]; rfl) ?_
            refine ⟨_, rfl, .inl ⟨rfl, _, SqL.of B5.list⟩, _, rfl, q, _, _, rfl, rfl, B5.list, by rw [List.length_map]; exact sl_lt (by omega), ?_⟩
            refine ⟨ws ++ [tl 4 (w0 ++ [bb] ++ y)], _, _, _, rfl, ⟨fun c o e => ?_, ?_, ?_, ?_, List.mem_append_left _ B5.nil, ?_⟩, ?_, ?_, ?_, fun j b hj hb => ?_⟩
            · rw [upd_ne (ne_of_none e nq)]; exact B5.same _ _ e
            · rw [upd_same, List.map_append]; rfl
            · rw [List.nodup_append]
              refine ⟨B5.nodup, by simp, fun u hu v hv e => ?_⟩
              rw [List.mem_singleton.mp hv] at e
              exact hin (e ▸ hu)
            · intro u hu
              rcases List.mem_append.mp hu with z | z
              · exact B5.short _ z
              · rw [List.mem_singleton.mp z]; exact tl_le _ _
            · intro i' w hi' hw' b
              rw [List.getElem?_append_left (by omega)] at hw'
              obtain ⟨x, hx1, hx2, hx3⟩ := B5.done i' w hi' hw' b
              exact ⟨x, hx1, hx2, List.mem_append_left _ hx3⟩
            · rw [upd_ne nTq]; exact hT5
            · rw [List.length_append]; omega
            · rw [List.getElem?_append_left hlt4]; exact hw4
            · by_cases ej : j = i
              · subst ej
                rw [hbb] at hb
                cases hb
                exact ⟨y, hI, h39, List.mem_append_right _ List.mem_cons_self⟩
              · obtain ⟨x, hx1, hx2, hx3⟩ := hbits j b (by omega) hb
                exact ⟨x, hx1, hx2, List.mem_append_left _ hx3⟩
      · rintro σ H4 ⟨ws, v3, v4, v5, rfl, B4, _, hlt4, hw4, hbits⟩
        refine ⟨_, rfl, _, _, rfl, rfl, ?_⟩
        refine ⟨m - 1, by omega, n + 1, ws, _, _, _, rfl, ⟨B4.same, B4.list, B4.nodup, B4.short, B4.nil, fun i w hi hw b => ?_⟩, hlt4, by omega⟩
        by_cases ei : i = n
        · subst ei
          rw [hw4] at hw
          cases hw
          cases b with
          | false => exact hbits 0 false (by show 0 < 2; decide) rfl
          | true => exact hbits 1 true (by show 1 < 2; decide) rfl
        · exact B4.done i w (by omega) hw b
    · refine iteDF (by omega) ?_
      refine ⟨_, rfl, kok q H2 B2.same (okN_of ws h3 B2.nil fun w hw b => ?_)⟩
      obtain ⟨i, hi⟩ := List.getElem?_of_mem hw
      exact B2.done i w (by have := (List.getElem?_eq_some_iff.mp hi).1; omega) hi b
end
end U

set_option maxRecDepth 100000
set_option maxHeartbeats 4000000
namespace U
open PySem PySem.Spec PyProof.Rows
open L2 hiding Fun CX0 E0 pass0 Fun.binds
open C8 Lx SX
def spWordN : Sp := fun vs H Q _ => ∃ (b : Addr) (n : Nat), vs = [.ref b, .int n] ∧ Box H b ∧ n ≤ 1000 ∧
  ∀ (l : List Bool) H', l.length = n → Up b H H' → Q (.str (W l)) H'
def spTurn : Sp := fun vs H Q _ => ∃ b : Bool, vs = [.str (W [b])] ∧ Q (.str (W [!b])) H
section
variable {P : Program} {w : World} {K : PySem.W.Frag} {mg : Str → Option Value} {base : Heap}
theorem sc_l_word : FnScope ["_law_box", "_law_size", "_law_turn"] ["_law_box", "_law_size"] (fnScope s_l_word) := fnScope_by (by decide +kernel)
theorem cal_l_word {f : Addr} {fd : FuncData} (F : Def K mg "_law_word" s_l_word f fd) (b : Binds K fd ["_law_box", "_law_size"] []) (T : Tx mg)
    (c_l_one_of : Cal P w K mg base 2 "_law_one_of" spOneOf []) : Cal P w K mg base 3 "_law_word" spWordN [] := by
  refine cal0 F b .nil sc_l_word (fun vs H Q E h => ?_) (fun cdv A outer s H vs Q E hr h => ?_)
  · obtain ⟨_, _, rfl, _⟩ := h; rfl
  · obtain ⟨bx, n, rfl, hb, h1, k⟩ := h
    refine ⟨_, (pss_one (ps_ret (pe_join pe_str (pe_lc (own := [("_law_turn", 2)]) (g := gName 2) (by rfl) sc_l_word.nd (pi_range1 (by rfl) T.b_range (pa_cons (pv 1) pa_nil)) (blkOk_by (own := [("_law_turn", 2)]) (N := ["_law_box", "_law_size", "_law_turn"]) (sc := fnScope s_l_word) (by decide +kernel)) (fun _ _ _ _ _ => (pg_name (i := 2) sc_l_word.nd rfl (.inl rfl))) (fun _ _ _ _ _ => pts_nil) (fun _ _ _ _ _ => (pe_c c_l_one_of hr (by decide) rfl (pa_cons (pv 0) (pa_cons (pe_lst (pa_cons pe_str (pa_cons pe_str pa_nil))) pa_nil)))))))), ?_⟩
    refine ⟨⟨_, rfl⟩, ?_⟩
    refine ⟨_, rfl, _, rfl, by omega, by omega, fun D nD => ?_⟩
    have nb : D ≠ bx := hb.ne nD
    refine lc_it (walk_range (lo := 0) (n := (n : Int).toNat)) (fun i H2 => ∃ l : List Bool, l.length = i ∧ Up bx H H2 ∧ H2 D = some (.lst (bitsV l)))
      ⟨[], rfl, (Up.refl hb).mut nD nb, upd_same⟩ (fun _ _ _ _ => trivial) ?_ ?_
    · rintro i x H2 H3 hi ⟨l, rfl, u2, hD⟩ ⟨rfl, rfl⟩
      refine ⟨rfl, ?_⟩
      refine ⟨_, rfl, by show 2 ≤ sizeLine; decide, fun p hp => ?_⟩
      have np : p ≠ bx := u2.2.ne hp
      refine ⟨bx, p, _, rfl, u2.2.same (same_upd hp), upd_same, np, by decide, by decide, fun v H4 hv u4 => ?_⟩
      obtain ⟨b, rfl⟩ := mem2 hv
      have hD4 : H4 D = some (.lst (bitsV l)) := u4.1 _ _ (same_upd hp _ _ hD) nb
      refine ⟨_, hD4, ?_, l ++ [b], by simp, ?_, ?_⟩
      · unfold bitsV; rw [List.length_map, List.length_map]; exact sl_lt (by omega)
      · exact ((u2.same (same_upd hp)).trans u4).mut nD nb
      · rw [upd_same]; unfold bitsV; simp
    · rintro H2 ⟨l, hl, u2, hD⟩
      refine ⟨_, D, l.map fun b => W [b], rfl, rfl, .inl (SqL.of hD), ?_, ?_⟩
      · rw [lens_bits, empty_len]; omega
      · show Q (.str (Txt.join "" (l.map fun b => W [b]))) H2
        rw [join_bits]
        exact k l H2 (by omega) u2
end
end U

set_option maxRecDepth 100000
set_option maxHeartbeats 4000000
namespace U
open PySem PySem.Spec PyProof.Rows
open L2 hiding Fun CX0 E0 pass0 Fun.binds
open C8 Lx SX StX
def spLAre : Sp := fun vs H Q _ => ∃ (r : Addr) (ss : List Stf), vs = [.ref r] ∧ Stl H r ss ∧ ss.length ≤ 100 ∧ (∀ s ∈ ss, s.1.length ≤ 4) ∧ ∀ b H', Same H H' → (b = true → SufFree ss ∧ OkN 39 ss) → (ss.length ≤ 1 → (∀ l, ∃ x, Ins ss l x ∧ x.length ≤ 39) → b = true) → Q (.bl b) H'
def spStuff : Sp := fun vs H Q _ => ∃ (b : Addr) (fl : List Bool) (most : Nat), vs = [.ref b, .str (W fl), .int most] ∧ Box H b ∧ 0 < fl.length ∧ fl.length ≤ 1000 ∧ 0 < most ∧ most ≤ 100 ∧
  ∀ t (p : List Bool) (c : Bool) H', Up b H H' → H t = none → H' t = some (.tup [.str (W p), .str (W [c])]) → p ≠ [] → p.length ≤ most → Q (.ref t) H'
theorem mem6 {v : V} (h : v ∈ ([.int 0, .int 1, .int 1, .int 1, .int 2, .int 2] : List V)) : ∃ n : Nat, v = .int n ∧ n ≤ 2 := by
  rcases List.mem_cons.mp h with rfl | h
  · exact ⟨0, rfl, by decide⟩
  · rcases List.mem_cons.mp h with rfl | h
    · exact ⟨1, rfl, by decide⟩
    · rcases List.mem_cons.mp h with rfl | h
      · exact ⟨1, rfl, by decide⟩
      · rcases List.mem_cons.mp h with rfl | h
        · exact ⟨1, rfl, by decide⟩
        · rcases List.mem_cons.mp h with rfl | h
          · exact ⟨2, rfl, by decide⟩
          · exact ⟨2, List.mem_singleton.mp h, by decide⟩
theorem sufFree_at {ps : List Addr} {kb : Addr → Stf} (h : ∀ i q, ps[i]? = some q → ∀ q' ∈ ps.take i ++ ps.drop (i + 1), (kb q').1.isSuffixOf (kb q).1 = false) : SufFree (ps.map kb) := by
  unfold SufFree
  rw [List.pairwise_map, List.pairwise_iff_getElem]
  intro i j hi hj hij
  have no : ∀ {a b : Stf}, a.1.isSuffixOf b.1 = false → ¬ a.1 <:+ b.1 := fun e z => by rw [List.isSuffixOf_iff_suffix.mpr z] at e; cases e
  refine ⟨no (h j ps[j] (List.getElem?_eq_getElem hj) ps[i] (List.mem_append_left _ ?_)), no (h i ps[i] (List.getElem?_eq_getElem hi) ps[j] (List.mem_append_right _ ?_))⟩
  · exact List.mem_iff_getElem.mpr ⟨i, by rw [List.length_take]; omega, by rw [List.getElem_take]⟩
  · exact List.mem_iff_getElem.mpr ⟨j - (i + 1), by rw [List.length_drop]; omega, by rw [List.getElem_drop]; congr 1; omega⟩
theorem q_ndecN {Q : VK} {H : Hp} (h : Q (.bl false) H) : Q (.bl (!decide (V.non = V.non))) H := by rw [decide_eq_true rfl]; exact h
theorem q_decN {Q : VK} {H : Hp} {v : V} (hv : ¬ v = V.non) (h : Q (.bl true) H) : Q (.bl (!decide (v = V.non))) H := by rw [decide_eq_false hv]; exact h
section
variable {P : Program} {w : World} {K : PySem.W.Frag} {mg : Str → Option Value} {base : Heap}
theorem sc_l_are_stuffs : FnScope ["_law_stuffs", "_law_spot", "_law_pattern", "_law_bit", "_law_mate", "_law_more"] ["_law_stuffs"] (fnScope s_l_are_stuffs) := fnScope_by (by decide +kernel)
theorem cal_l_are_stuffs {f : Addr} {fd : FuncData} (F : Def K mg "_law_are_stuffs" s_l_are_stuffs f fd) (b : Binds K fd ["_law_stuffs"] []) (T : Tx mg) (c_l_ends : Cal P w K mg base 1 "_law_ends" spEnds []) (c_l_tails : Cal P w K mg base 4 "_law_tails" spTails []) : Cal P w K mg base 5 "_law_are_stuffs" spLAre [] := by
  refine cal0 F b .nil sc_l_are_stuffs (fun vs H Q E h => ?_) (fun cdv A outer s H vs Q E hr h => ?_)
  · obtain ⟨_, _, rfl, _⟩ := h; rfl
  · obtain ⟨r, ss, rfl, hst, h2, h3, k⟩ := h
    refine ⟨_, (pss_cons (ps_for PassesOwn.never rfl (pi_enum (by rfl) T.b_enumerate (pa_cons (pv 0) pa_nil)) (pg_tup rfl (pgs_cons (pg_name (i := 1) sc_l_are_stuffs.nd rfl (.inl rfl)) (pgs_cons (pg_tup rfl (pgs_cons (pg_name (i := 2) sc_l_are_stuffs.nd rfl (.inl rfl)) (pgs_cons (pg_name (i := 3) sc_l_are_stuffs.nd rfl (.inl rfl)) pgs_nil))) pgs_nil)))
    (pss_one (ps_for PassesOwn.never rfl (pi_list (pe_op op_cat (pe_slice sl_list (pv 0) po_none (po_some (pv 1))) (pe_slice sl_list (pv 0) (po_some (pe_op op_add (pv 1) pe_int)) po_none))) (pg_tup rfl (pgs_cons (pg_name (i := 4) sc_l_are_stuffs.nd rfl (.inl rfl)) (pgs_cons (pg_name (i := 5) sc_l_are_stuffs.nd rfl (.inl rfl)) pgs_nil)))
    (pss_one (ps_if (pt_val (pe_c c_l_ends hr (by decide) rfl (pa_cons (pv 2) (pa_cons (pv 4) pa_nil)))) (pss_one (ps_ret pe_bl)) pss_nil)))))
    (pss_one (ps_ret (pe_cmpR op_notN (pe_c c_l_tails hr (by decide) rfl (pa_cons (pv 0) pa_nil)) pe_non (nomark _))))), ?_⟩
    obtain ⟨ps, kb, hl, hs, hss⟩ := id hst
    have lps : ps.length ≤ 100 := by rw [hss, List.length_map] at h2; exact h2
    have h3' : ∀ q ∈ ps, (kb q).1.length ≤ 4 := fun q hq => h3 _ (by rw [hss]; exact List.mem_map_of_mem hq)
    refine ⟨_, rfl, r, _, rfl, SqL.of hl, ?_⟩
    refine for_it (walk_enum (xs := ps.map V.ref)) (fun i σ H2 => ∃ v1 v2 v3 v4 v5 : Option V, σ = [some (.ref r), v1, v2, v3, v4, v5] ∧ Same H H2 ∧ ∀ i' q, i' < i → ps[i']? = some q → ∀ q' ∈ ps.take i' ++ ps.drop (i' + 1), (kb q').1.isSuffixOf (kb q).1 = false)
      ⟨none, none, none, none, none, rfl, Same.refl _, fun i' q h => absurd h (Nat.not_lt_zero _)⟩ (fun i σ H2 _ h2 => by obtain ⟨_, _, _, _, _, _, s2, _⟩ := h2; exact s2.seq (SqL.of hl)) ?_ ?_
    · rintro i x σ H2 H3 hi ⟨v1, v2, v3, v4, v5, rfl, s2, hno⟩ ⟨T', y1, y2, rfl, nT, rfl, e1, e2⟩
      cases e1
      replace e2 : (ps.map V.ref)[i]? = some y2 := e2
      rw [List.getElem?_map] at e2
      obtain ⟨q, hq, rfl⟩ := Option.map_eq_some_iff.mp e2
      have hqm : q ∈ ps := List.mem_of_getElem? hq
      have s3 : Same H (upd H2 T' (.tup [.int (i : Nat), .ref q])) := s2.trans (same_upd nT)
      refine ⟨T', _, rfl, SqT.of upd_same, rfl, _, _, rfl, _, _, rfl, ⟨q, _, rfl, SqT.of (s3 _ _ (hs q hqm)), rfl, _, _, rfl, _, _, rfl, rfl, rfl, ?_⟩⟩
      generalize upd H2 T' (.tup [.int (i : Nat), .ref q]) = H3 at s3
      have hl3 := s3 _ _ hl
      rw [List.length_map] at hi
      have hi' : i < (ps.map V.ref).length := by rw [List.length_map]; exact hi
      refine ⟨_, rfl, _, rfl, _, rfl, r, _, rfl, SqL.of hl3, fun p1 n1 => ?_⟩
      rw [cut_to hi']
      refine ⟨_, rfl, _, rfl, _, _, rfl, rfl, _, rfl, r, _, rfl, SqL.of (same_upd n1 _ _ hl3), fun p2 n2 => ?_⟩
      rw [cut_from hi']
      refine ⟨p1, p2, _, _, rfl, rfl, same_upd n2 _ _ upd_same, upd_same, ?_, fun p3 n3 => ?_⟩
      · rw [List.length_take, List.length_drop, List.length_map]; exact sl_len (by omega)
      have s6 : Same H (upd (upd (upd H3 p1 (.lst ((ps.map V.ref).take i))) p2 (.lst ((ps.map V.ref).drop (i + 1)))) p3 (.lst ((ps.map V.ref).take i ++ (ps.map V.ref).drop (i + 1)))) := ((s3.trans (same_upd n1)).trans (same_upd n2)).trans (same_upd n3)
      have h6 : upd (upd (upd H3 p1 (.lst ((ps.map V.ref).take i))) p2 (.lst ((ps.map V.ref).drop (i + 1)))) p3 (.lst ((ps.map V.ref).take i ++ (ps.map V.ref).drop (i + 1))) p3 = some (.lst ((ps.take i ++ ps.drop (i + 1)).map V.ref)) := by rw [upd_same, List.map_append, List.map_take, List.map_drop]
      generalize upd (upd (upd H3 p1 (.lst ((ps.map V.ref).take i))) p2 (.lst ((ps.map V.ref).drop (i + 1)))) p3 (.lst ((ps.map V.ref).take i ++ (ps.map V.ref).drop (i + 1))) = H6 at s6 h6
      have hsub : ∀ q' ∈ ps.take i ++ ps.drop (i + 1), q' ∈ ps := fun q' hq' => by
        rcases List.mem_append.mp hq' with m | m
        · exact List.mem_of_mem_take m
        · exact List.mem_of_mem_drop m
      generalize hrs : ps.take i ++ ps.drop (i + 1) = rs at h6 hsub
      refine ⟨p3, rfl, ⟨_, SqL.of h6⟩, ?_⟩
      refine for_it (walk_list (xs := rs.map V.ref)) (fun j σ H7 => ∃ v4 v5 : Option V, σ = [some (.ref r), some (.int (i : Nat)), some (.str (W (kb q).1)), some (.str (W [(kb q).2])), v4, v5] ∧ Same H6 H7 ∧ ∀ j' q', j' < j → rs[j']? = some q' → (kb q').1.isSuffixOf (kb q).1 = false)
        ⟨_, _, rfl, Same.refl _, fun j' q' h => absurd h (Nat.not_lt_zero _)⟩ (fun j σ H7 _ h7 => by obtain ⟨_, _, _, s7, _⟩ := h7; exact s7.seq (SqL.of h6)) ?_ ?_
      · rintro j x σ H7 H8 hj ⟨v4, v5, rfl, s7, hno7⟩ ⟨rfl, hx⟩
        rw [List.getElem?_map] at hx
        obtain ⟨q', hq', rfl⟩ := Option.map_eq_some_iff.mp hx
        have hm' : q' ∈ rs := List.mem_of_getElem? hq'
        refine ⟨q', _, rfl, SqT.of ((s6.trans s7) _ _ (hs q' (hsub _ hm'))), rfl, _, _, rfl, _, _, rfl, rfl, ?_⟩
        refine ⟨_, rfl, _, rfl, (kb q).1, (kb q').1, rfl, Nat.le_trans (h3' q hqm) (by decide), Nat.le_trans (h3' q' (hsub _ hm')) (by decide), _, rfl, ?_⟩
        cases ce : (kb q').1.isSuffixOf (kb q).1 with
        | true =>
          refine k false _ (s6.trans s7) (fun z => by cases z) fun h1 _ => ?_
          rw [hss, List.length_map] at h1
          have : i = 0 := by omega
          subst this
          have : rs = [] := by rw [← hrs]; exact List.eq_nil_of_length_eq_zero (by rw [List.length_append, List.length_take, List.length_drop]; omega)
          rw [this] at hm'
          cases hm'
        | false =>
          refine ⟨_, _, rfl, s7, fun j' q2 hj' hq2 => ?_⟩
          by_cases ej : j' = j
          · subst ej
            rw [hq'] at hq2
            cases hq2
            exact ce
          · exact hno7 j' q2 (by omega) hq2
      · rintro σ H7 ⟨v4, v5, rfl, s7, hno7⟩
        refine ⟨_, _, _, _, _, rfl, s6.trans s7, fun i' q2 hi' hq2 q' hq' => ?_⟩
        by_cases ei : i' = i
        · subst ei
          rw [hq] at hq2
          cases hq2
          rw [hrs] at hq'
          obtain ⟨j, hj⟩ := List.getElem?_of_mem hq'
          exact hno7 j q' (by rw [List.length_map]; exact (List.getElem?_eq_some_iff.mp hj).1) hj
        · exact hno i' q2 (by omega) hq2 q' hq'
    · rintro σ H2 ⟨v1, v2, v3, v4, v5, rfl, s2, hno⟩
      have hfree : SufFree ss := by
        rw [hss]
        exact sufFree_at fun i q hq => hno i q (by rw [List.length_map]; exact (List.getElem?_eq_some_iff.mp hq).1) hq
      refine ⟨_, rfl, r, ss, rfl, hst.same s2, by omega, h3, fun H3 s3 hno3 => ⟨rfl, ?_⟩, fun q H3 s3 hO => ⟨rfl, ?_⟩⟩
      · exact q_ndecN (Q := Q) (k false H3 (s2.trans s3) (fun z => by cases z) fun _ hall => by obtain ⟨l, hl⟩ := hno3; obtain ⟨x, hx, h39⟩ := hall l; exact absurd h39 (hl x hx))
      · exact q_decN (Q := Q) (fun z => by cases z) (k true H3 (s2.trans s3) (fun _ => ⟨hfree, hO⟩) fun _ _ => rfl)
end
end U

set_option maxRecDepth 100000
set_option maxHeartbeats 4000000
namespace U
open PySem PySem.Spec PyProof.Rows
open L2 hiding Fun CX0 E0 pass0 Fun.binds
open C8 Lx SX StX
theorem W_mid {l : List Bool} {i n : Nat} (h : i + n ≤ l.length) : Txt.slice (W l) (some (i : Int)) (some ((i : Int) + (n : Int))) = W ((l.drop i).take n) := by
  have e := beq_iff_eq.mp (PyProof.Rows.slice_closesL (x := W l) (i := (i : Int)) (j := (i : Int) + (n : Int)) (by omega) (by omega) (by rw [W_len]; omega))
  rw [e]
  refine TL.ext_tl ?_
  show (((l.map bt).drop ((i : Int)).toNat).take ((i : Int) + (n : Int) - (i : Int)).toNat) = _
  rw [show ((i : Int)).toNat = i by omega, show ((i : Int) + (n : Int) - (i : Int)).toNat = n by omega, ← List.map_drop, ← List.map_take]
  rfl
def spLBody2 : Sp := fun vs H Q _ => ∃ (r : Addr) (m : List Bool) (ss : List Stf), vs = [.ref r, .str (W m)] ∧ Stl H r ss ∧ m.length ≤ 900 ∧ ss.length ≤ 1000 ∧ (∀ s ∈ ss, s.1.length ≤ 1000) ∧ OkN 39 ss ∧ ∀ l H', Body ss m l → l.length ≤ 40 * m.length → Same H H' → Q (.str (W l)) H'
section
variable {P : Program} {w : World} {K : PySem.W.Frag} {mg : Str → Option Value} {base : Heap}
end
end U

set_option maxRecDepth 100000
set_option maxHeartbeats 4000000
set_option pp.maxSteps 400
namespace U
open PySem PySem.Spec PyProof.Rows
open L2 hiding Fun CX0 E0 pass0 Fun.binds
open C8 Lx SX StX
def strsV (ls : List (List Bool)) : List V := (ls.map W).map V.str
theorem strsV_len (ls : List (List Bool)) : (strsV ls).length = ls.length := by unfold strsV; rw [List.length_map, List.length_map]
theorem strsV_app (a b : List (List Bool)) : strsV (a ++ b) = strsV a ++ strsV b := by unfold strsV; simp
theorem strsV_get {ls : List (List Bool)} {i : Nat} {x : V} (h : (strsV ls)[i]? = some x) : ∃ w, ls[i]? = some w ∧ x = .str (W w) := by
  unfold strsV at h
  rw [List.getElem?_map, List.getElem?_map] at h
  cases e : ls[i]? with
  | none => rw [e] at h; cases h
  | some w => rw [e] at h; exact ⟨w, rfl, (Option.some.inj h).symm⟩
def spWords : Sp := fun vs H Q _ => ∃ n : Nat, vs = [.int n] ∧ n ≤ 10 ∧ ∀ l H', H l = none → Same H H' → H' l = some (.lst (strsV (wdsA n))) → Q (.ref l) H'
section
variable {P : Program} {w : World} {K : PySem.W.Frag} {mg : Str → Option Value} {base : Heap}
theorem sc_l_words : FnScope ["_law_size", "_law_found", "_law_turn", "_law_longer", "_law_one"] ["_law_size"] (fnScope s_l_words) := fnScope_by (by decide +kernel)
theorem cal_l_words {f : Addr} {fd : FuncData} (F : Def K mg "_law_words" s_l_words f fd) (b : Binds K fd ["_law_size"] []) (T : Tx mg) : Cal P w K mg base 1 "_law_words" spWords [] := by
  refine cal0 F b .nil sc_l_words (fun vs H Q E h => ?_) (fun cdv A outer s H vs Q E hr h => ?_)
  · obtain ⟨_, rfl, _⟩ := h; rfl
  · obtain ⟨n, rfl, hn, k⟩ := h
    refine ⟨_, (pss_cons (ps_set (i := 1) sc_l_words.nd rfl (.inl rfl) (pe_lst (pa_cons pe_str pa_nil)))
    (pss_cons (ps_for PassesOwn.never rfl (pi_range1 (by rfl) T.b_range (pa_cons (pv 0) pa_nil)) (pg_name (i := 2) sc_l_words.nd rfl (.inl rfl))
    (pss_cons (ps_set (i := 3) sc_l_words.nd rfl (.inl rfl) (pe_lst pa_nil))
    (pss_cons (ps_for PassesOwn.never rfl (pi_list (pv 1)) (pg_name (i := 4) sc_l_words.nd rfl (.inl rfl))
    (pss_one (ps_expr (pe_bm PySem.F.plainAttrs_list PySem.F.slot_list_extend PySem.F.type_list_extend mt_extend (pv 3) (pa_cons (pe_lst (pa_cons (pe_op op_add_str (pv 4) pe_str) (pa_cons (pe_op op_add_str (pv 4) pe_str) pa_nil))) pa_nil)))))
    (pss_one (ps_set (i := 1) sc_l_words.nd rfl (.inl rfl) (pv 3))))))
    (pss_one (ps_ret (pv 1))))), ?_⟩
    refine ⟨by show 1 ≤ sizeLine; decide, fun q nq => ?_⟩
    refine ⟨_, rfl, _, rfl, by omega, by omega, ?_⟩
    refine for_it (walk_range (lo := 0) (n := (n : Int).toNat)) (fun i σ H2 => ∃ (l : Addr) (v2 v3 v4 : Option V), σ = [some (.int n), some (.ref l), v2, v3, v4] ∧ H l = none ∧ Same H H2 ∧ H2 l = some (.lst (strsV (wdsA i))))
      ⟨q, _, _, _, rfl, nq, same_upd nq, by rw [upd_same]; show some (HO.lst [V.str ""]) = _; rw [W_nil]; rfl⟩ (fun _ _ _ _ _ => trivial) ?_ ?_
    · rintro i x σ H2' H2 hi ⟨l, v2, v3, v4, rfl, nl, s2, hl⟩ ⟨rfl, rfl⟩
      refine ⟨Nat.zero_le _, fun q2 nq2 => ?_⟩
      have s3 := s2.trans (same_upd (o := .lst []) nq2)
      have nql : q2 ≠ l := fun z => by rw [z, hl] at nq2; cases nq2
      have hl3 : upd H2 q2 (.lst []) l = some (.lst (strsV (wdsA i))) := by rw [upd_ne nql.symm]; exact hl
      have hq3 : upd H2 q2 (.lst []) q2 = some (.lst (strsV (((wdsA i).take 0).flatMap fun w => [w ++ [false], w ++ [true]]))) := upd_same
      generalize upd H2 q2 (.lst []) = H3 at s3 hl3 hq3
      have wl := wdsA_len i
      have wb : 2 ^ i ≤ 2 ^ 10 := Nat.pow_le_pow_right (by decide) (by omega)
      refine ⟨_, rfl, l, rfl, ⟨_, SqL.of hl3⟩, for_it (walk_list (K := K) (a := l) (xs := strsV (wdsA i))) (fun j σ H4 => ∃ v4 : Option V, σ = [some (.int n), some (.ref l), some (.int (0 + (i : Int))), some (.ref q2), v4] ∧ Same H H4 ∧ H4 l = some (.lst (strsV (wdsA i))) ∧ H4 q2 = some (.lst (strsV (((wdsA i).take j).flatMap fun w => [w ++ [false], w ++ [true]]))))
        ⟨_, rfl, s3, hl3, hq3⟩ (fun j σ H4 _ ⟨_, _, _, h, _⟩ => SqL.of h) ?_ ?_⟩
      · rintro j y σ H4' H4 hj ⟨v4, rfl, s4, hl4, hq4⟩ ⟨rfl, hy⟩
        obtain ⟨u, hu, rfl⟩ := strsV_get hy
        have ul : u.length = i := wdsA_size (List.mem_of_getElem? hu)
        have lu : (W u).length + 1 ≤ sizeLine := by rw [W_len]; exact sl_len (by omega)
        have l1 : ("1" : Str).length = 1 := by decide +kernel
        have l0 : ("0" : Str).length = 1 := by decide +kernel
        refine ⟨_, rfl, .inl ⟨rfl, _, SqL.of hq4⟩, _, rfl, _, _, rfl, rfl, by rw [l0]; exact lu, _, rfl, _, _, rfl, rfl, by rw [l1]; exact lu, by show 2 ≤ sizeLine; decide, fun z nz => ?_⟩
        have nzq : z ≠ q2 := fun e => by rw [e, hq4] at nz; cases nz
        have hq5 : upd H4 z (.lst [.str (W u ++ "0"), .str (W u ++ "1")]) q2 = some (.lst (strsV (((wdsA i).take j).flatMap fun w => [w ++ [false], w ++ [true]]))) := by rw [upd_ne nzq.symm]; exact hq4
        have jl : (((wdsA i).take j).flatMap fun w => [w ++ [false], w ++ [true]]).length ≤ 2 * 2 ^ 10 := by
          have e : ∀ ls : List (List Bool), (ls.flatMap fun w => [w ++ [false], w ++ [true]]).length = 2 * ls.length := by
            intro ls
            induction ls with
            | nil => rfl
            | cons x r ih => rw [List.flatMap_cons, List.length_append, ih, List.length_cons]; simp only [List.length_cons, List.length_nil]; omega
          rw [e, List.length_take]
          omega
        refine ⟨q2, z, _, _, rfl, rfl, hq5, upd_same, ?_, ?_⟩
        · rw [strsV_len]; exact sl_len (by show _ + 2 ≤ 100000; omega)
        · refine ⟨_, rfl, ?_, ?_, ?_⟩
          · intro c o e
            have nc : c ≠ q2 := ne_of_none e (s2.free nq2)
            rw [upd_ne nc]
            exact same_upd nz _ _ (s4 _ _ e)
          · rw [upd_ne nql.symm]; exact same_upd nz _ _ hl4
          · rw [upd_same, List.take_add_one, hu, List.flatMap_append, strsV_app]
            show some (HO.lst (_ ++ [V.str (W u ++ "0"), V.str (W u ++ "1")])) = _
            rw [W_0, W_1, W_cat, W_cat]
            rfl
      · rintro σ H4 ⟨v4, rfl, s4, hl4, hq4⟩
        rw [strsV_len, List.take_length] at hq4
        exact ⟨_, rfl, q2, _, _, _, rfl, s2.free nq2, s4, hq4⟩
    · rintro σ H2 ⟨l, v2, v3, v4, rfl, nl, s2, hl⟩
      exact ⟨_, rfl, k l H2 nl s2 hl⟩
end
end U

set_option maxRecDepth 100000
set_option maxHeartbeats 4000000
set_option pp.maxSteps 400
namespace U
open PySem PySem.Spec PyProof.Rows
open L2 hiding Fun CX0 E0 pass0 Fun.binds
open C8 Lx SX StX
/-! the law's own rules with one stuff -/
/-- lists of one stuff each -/
def StlsAt (H : Hp) (as : List Addr) (ss : List Stf) : Prop := F2 (fun a s => Stl H a [s]) as ss
theorem StlsAt.same {H H' : Hp} {as : List Addr} {ss : List Stf} (h : StlsAt H as ss) (e : Same H H') : StlsAt H' as ss := f2_imp h fun _ _ r => r.same e
def spLSgl : Sp := fun vs H Q _ => ∃ n : Nat, vs = [.int n] ∧ 1 ≤ n ∧ n ≤ 4 ∧ ∀ D as H', Same H H' → H D = none → H' D = some (.lst (as.map V.ref)) → StlsAt H' as ((sgls n).filter okB) → Q (.ref D) H'
theorem stl_one {H : Hp} {q l : Addr} {x y : Str} {p : List Bool} {b : Bool} (hx : x = W p) (hy : y = W [b]) (n1 : H q = none) (n2 : upd H q (.tup [.str x, .str y]) l = none) :
    Same H (upd (upd H q (.tup [.str x, .str y])) l (.lst [.ref q])) ∧ Stl (upd (upd H q (.tup [.str x, .str y])) l (.lst [.ref q])) l [(p, b)] := by
  subst hx hy
  have s2 := same_upd (o := .lst [.ref q]) n2
  refine ⟨(same_upd n1).trans s2, [q], fun _ => (p, b), upd_same, fun u hu => ?_, rfl⟩
  rw [List.mem_singleton.mp hu]
  exact s2 _ _ upd_same
theorem free_okB {s : Stf} (h : okB s = true) : SufFree [s] ∧ ∀ l, ∃ x, Ins [s] l x ∧ x.length ≤ 39 := ⟨List.pairwise_singleton _ _, fun l => by
  obtain ⟨x, hx, h1⟩ := okN1 h l
  exact ⟨x, hx, by omega⟩⟩
theorem Stl.upd {H : Hp} {l D : Addr} {ss : List Stf} {xs : List V} {o : HO} (h : Stl H l ss) (hD : H D = some (.lst xs)) (hl : l ≠ D) : Stl (upd H D o) l ss := by
  obtain ⟨ps, kb, h1, h2, h3⟩ := h
  refine ⟨ps, kb, by rw [upd_ne hl]; exact h1, fun u hu => ?_, h3⟩
  rw [upd_ne (ne_of (h2 u hu) hD (by intro z; cases z))]
  exact h2 u hu
section
variable {P : Program} {w : World} {K : PySem.W.Frag} {mg : Str → Option Value} {base : Heap}
theorem sc_l_singles : FnScope ["_law_most", "_law_found", "_law_size", "_law_pattern", "_law_bit"] ["_law_most"] (fnScope s_l_singles) := fnScope_by (by decide +kernel)
theorem cal_l_singles {f : Addr} {fd : FuncData} (F : Def K mg "_law_singles" s_l_singles f fd) (b : Binds K fd ["_law_most"] []) (T : Tx mg) (c_l_words : Cal P w K mg base 1 "_law_words" spWords []) (c_l_are_stuffs : Cal P w K mg base 5 "_law_are_stuffs" spLAre []) : Cal P w K mg base 6 "_law_singles" spLSgl [] := by
  refine cal0 F b .nil sc_l_singles (fun vs H Q E h => ?_) (fun cdv A outer s H vs Q E hr h => ?_)
  · obtain ⟨_, rfl, _⟩ := h; rfl
  · obtain ⟨n, rfl, n1, n4, k⟩ := h
    refine ⟨_, (pss_cons (ps_set (i := 1) sc_l_singles.nd rfl (.inl rfl) (pe_lst pa_nil))
    (pss_cons (ps_for PassesOwn.never rfl (pi_range2 (by rfl) T.b_range (pa_cons pe_int (pa_cons (pe_op op_add (pv 0) pe_int) pa_nil))) (pg_name (i := 2) sc_l_singles.nd rfl (.inl rfl))
    (pss_one (ps_for PassesOwn.never rfl (pi_list (pe_c c_l_words hr (by decide) rfl (pa_cons (pv 2) pa_nil))) (pg_name (i := 3) sc_l_singles.nd rfl (.inr rfl))
    (pss_one (ps_expr (pe_bm PySem.F.plainAttrs_list PySem.F.slot_list_extend PySem.F.type_list_extend mt_extend (pv 1) (pa_cons (pe_lc (own := [("_law_bit", 4)]) (g := gName 4) (by rfl) sc_l_singles.nd (pi_tup (pe_tup (pa_cons pe_str (pa_cons pe_str pa_nil)))) (blkOk_by (own := [("_law_bit", 4)]) (N := ["_law_most", "_law_found", "_law_size", "_law_pattern", "_law_bit"]) (sc := fnScope s_l_singles) (by decide +kernel)) (fun _ _ _ _ _ => (pg_name (i := 4) sc_l_singles.nd rfl (.inl rfl))) (fun _ _ _ _ _ => (pts_one (pt_val (pe_c c_l_are_stuffs hr (by decide) rfl (pa_cons (pe_lst (pa_cons (pe_tup (pa_cons (pv 3) (pa_cons (pv 4) pa_nil))) pa_nil)) pa_nil))))) (fun _ _ _ _ _ => (pe_lst (pa_cons (pe_tup (pa_cons (pv 3) (pa_cons (pv 4) pa_nil))) pa_nil)))) pa_nil)))))))
    (pss_one (ps_ret (pv 1))))), ?_⟩
    refine ⟨by show 0 ≤ sizeLine; decide, fun D nD => ?_⟩
    have hD : upd H D (.lst []) D = some (.lst []) := upd_same
    have sD := same_upd (o := .lst []) nD
    have nDH : H D = none := nD
    generalize upd H D (.lst []) = H1 at hD sD
    refine ⟨_, rfl, _, _, rfl, rfl, _, _, rfl, ⟨by omega, by omega, by omega, by omega⟩, ?_⟩
    refine for_it walk_range (fun i σ H2 => ∃ (v2 v3 v4 : Option V) (as : List Addr), σ = [some (.int n), some (.ref D), v2, v3, v4] ∧ Same H H2 ∧ H2 D = some (.lst (as.map V.ref)) ∧ F2 (fun a s => Stl H2 a [s] ∧ a ≠ D) as ((sgls i).filter okB)) ⟨_, _, _, [], rfl, sD, hD, .nil⟩ (fun _ _ _ _ _ => trivial) ?_ ?_
    · rintro i x σ H2' H2 hi ⟨v2, v3, v4, as, rfl, s2, hD2, hF⟩ ⟨rfl, rfl⟩
      have hi4 : i < n := by omega
      refine ⟨_, rfl, i + 1, by show [V.int (1 + (i : Int))] = _; rw [show (1 : Int) + (i : Int) = ((i + 1 : Nat) : Int) by omega], by omega, fun q H3 nq s3 hq => ?_⟩
      have hD3 := s3 _ _ hD2
      have nqD : q ≠ D := fun z => by rw [z, hD2] at nq; cases nq
      refine ⟨q, rfl, ⟨_, SqL.of hq⟩, ?_⟩
      refine for_it (walk_list (xs := strsV (wdsA (i + 1)))) (fun j σ H4 => ∃ (v3 v4 : Option V) (as : List Addr), σ = [some (.int n), some (.ref D), some (.int (1 + (i : Int))), v3, v4] ∧ Same H H4 ∧ H4 q = some (.lst (strsV (wdsA (i + 1)))) ∧ H4 D = some (.lst (as.map V.ref)) ∧ F2 (fun a s => Stl H4 a [s] ∧ a ≠ D) as ((sgls i ++ ((wdsA (i + 1)).take j).flatMap both).filter okB))
        ⟨v3, v4, as, rfl, s2.trans s3, hq, hD3, by rw [List.take_zero, List.flatMap_nil, List.append_nil]; exact f2_imp hF fun _ _ r => ⟨r.1.same s3, r.2⟩⟩ (fun j σ H4 _ h4 => by obtain ⟨_, _, _, _, _, h, _⟩ := h4; exact SqL.of h) ?_ ?_
      · rintro j x σ H4' H4 hj ⟨v3, v4, as, rfl, s4, hq4, hD4, hF4⟩ ⟨rfl, hx⟩
        obtain ⟨v, hv, rfl⟩ := strsV_get hx
        have lv := wdsA_size (List.mem_of_getElem? hv)
        have las := f2_len hF4
        have lall : ((sgls i ++ ((wdsA (i + 1)).take j).flatMap both).filter okB).length ≤ 4096 := by
          have h1 := sgls_len9 (n := i) (by omega)
          have h2 : (wdsA (i + 1)).length ≤ 512 := by rw [wdsA_len]; exact Nat.le_trans (Nat.pow_le_pow_right (by decide) (show i + 1 ≤ 9 by omega)) (by decide)
          refine Nat.le_trans (List.length_filter_le _ _) ?_
          rw [List.length_append, both_len, List.length_take]
          omega
        refine ⟨_, rfl, .inl ⟨rfl, _, SqL.of hD4⟩, ?_⟩
        refine ⟨by show 2 ≤ sizeLine; decide, fun tw ntw => ?_⟩
        have stw := same_upd (o := .tup [.str "0", .str "1"]) ntw
        have htw : upd H4 tw (.tup [.str "0", .str "1"]) tw = some (.tup [.str "0", .str "1"]) := upd_same
        have hF5 : F2 (fun a s => Stl (upd H4 tw (.tup [.str "0", .str "1"])) a [s] ∧ a ≠ D) as ((sgls i ++ ((wdsA (i + 1)).take j).flatMap both).filter okB) := f2_imp hF4 fun _ _ r => ⟨r.1.same stw, r.2⟩
        have s5 := s4.trans stw
        have hq5 := stw _ _ hq4
        have hD5 := stw _ _ hD4
        generalize upd H4 tw (.tup [.str "0", .str "1"]) = H5 at htw hF5 s5 hq5 hD5
        refine ⟨tw, rfl, ⟨_, SqT.of htw⟩, fun D2 nD2 => ?_⟩
        have nD2H : H D2 = none := s5.free nD2
        have D2D : D2 ≠ D := fun z => by rw [z, hD5] at nD2; cases nD2
        refine lc_it (walk_tup (xs := [.str "0", .str "1"])) (fun i2 H6 => Same H5 H6 ∧ ∃ us, H6 D2 = some (.lst (us.map V.ref)) ∧ F2 (fun a s => Stl H6 a [s] ∧ a ≠ D ∧ a ≠ D2) us ((([false, true].take i2).map fun b => (v, b)).filter okB)) ⟨same_upd nD2, [], upd_same, .nil⟩ (fun i2 H6 _ h6 => SqT.of (h6.1 _ _ htw)) ?_ ?_
        · rintro i2 x H6' H6 hi2 ⟨s6, us, hD6, hF6⟩ ⟨rfl, hx⟩
          obtain ⟨bb, hbb, rfl⟩ := two01 hx
          have lus := f2_len hF6
          have lus2 : us.length ≤ 2 := by
            rw [lus]
            refine Nat.le_trans (List.length_filter_le _ _) ?_
            rw [List.length_map, List.length_take]
            exact Nat.min_le_right _ _
          refine ⟨rfl, _, rfl, _, rfl, by show 2 ≤ sizeLine; decide, fun p1 np1 => ⟨by show 1 ≤ sizeLine; decide, fun p2 np2 => ?_⟩⟩
          obtain ⟨s7, hl7⟩ := stl_one (p := v) (b := bb) rfl rfl np1 np2
          generalize upd (upd H6 p1 (.tup [.str (W v), .str (W [bb])])) p2 (.lst [.ref p1]) = H7 at s7 hl7
          refine ⟨p2, [(v, bb)], rfl, hl7, by show 1 ≤ 100; decide, fun s hs => by rw [List.mem_singleton.mp hs]; show v.length ≤ 4; omega, fun r H8 s8 hr1 hr2 => ⟨_, rfl, ?_⟩⟩
          have s68 := s7.trans s8
          have hD8 := s68 _ _ hD6
          have hF8 : F2 (fun a s => Stl H8 a [s] ∧ a ≠ D ∧ a ≠ D2) us ((([false, true].take i2).map fun b => (v, b)).filter okB) := f2_imp hF6 fun _ _ r => ⟨r.1.same s68, r.2⟩
          have er : r = okB (v, bb) := by
            cases e : okB (v, bb) with
            | true => exact hr2 (Nat.le_refl _) (free_okB e).2
            | false =>
              cases r with
              | false => rfl
              | true =>
                have := (okB_iff (s := (v, bb)) (by show v ≠ []; intro z; rw [z] at lv; cases lv)).mpr (hr1 rfl).2.ok
                rw [e] at this
                cases this
          have key : ((([false, true].take (i2 + 1)).map fun b => (v, b)).filter okB) = ((([false, true].take i2).map fun b => (v, b)).filter okB) ++ [(v, bb)].filter okB := by
            rw [List.take_add_one, hbb, List.map_append, List.filter_append]
            rfl
          cases er2 : okB (v, bb) with
          | false =>
            rw [er, er2]
            refine iteBF rfl ?_
            refine ⟨s6.trans s68, us, hD8, ?_⟩
            rw [key, List.filter_cons, if_neg (by rw [er2]; decide), List.filter_nil, List.append_nil]
            exact hF8
          | true =>
            rw [er, er2]
            refine iteBT rfl ?_
            refine ⟨_, rfl, _, rfl, by show 2 ≤ sizeLine; decide, fun p3 np3 => ⟨by show 1 ≤ sizeLine; decide, fun p4 np4 => ?_⟩⟩
            have nD4 : D ≠ p4 := fun z => by
              rw [← z] at np4
              have np3' := np3
              have := (same_upd (o := .tup [.str (W v), .str (W [bb])]) np3) _ _ (s68 _ _ (s6 _ _ hD5))
              rw [this] at np4
              cases np4
            have nD24 : D2 ≠ p4 := fun z => by
              rw [← z] at np4
              have := (same_upd (o := .tup [.str (W v), .str (W [bb])]) np3) _ _ hD8
              rw [this] at np4
              cases np4
            obtain ⟨s9, hl9⟩ := stl_one (p := v) (b := bb) rfl rfl np3 np4
            generalize upd (upd H8 p3 (.tup [.str (W v), .str (W [bb])])) p4 (.lst [.ref p3]) = H9 at s9 hl9
            have hD9 := s9 _ _ hD8
            refine ⟨us.map V.ref, hD9, by rw [List.length_map]; exact sl_lt (by omega), same_mut' ((s6.trans s68).trans s9) nD2, us ++ [p4], by rw [upd_same, List.map_append]; rfl, ?_⟩
            rw [key, List.filter_cons, if_pos er2, List.filter_nil]
            refine f2_app (f2_imp hF8 fun _ _ r => ⟨(r.1.same s9).upd hD9 r.2.2, r.2⟩) (.cons ⟨hl9.upd hD9 nD24.symm, nD4.symm, nD24.symm⟩ .nil)
        · rintro H6 ⟨s6, us, hD6, hF6⟩
          have hD56 := s6 _ _ hD5
          have lus := f2_len hF6
          have lus2 : us.length ≤ 2 := by
            rw [lus]
            exact Nat.le_trans (List.length_filter_le _ _) (by rw [List.length_map]; exact Nat.le_refl 2)
          refine ⟨D, D2, as.map V.ref, us.map V.ref, rfl, rfl, hD56, hD6, by rw [List.length_map, List.length_map]; exact sl_len (by omega), ?_⟩
          refine ⟨_, _, as ++ us, rfl, same_mut' (s5.trans s6) nDH, by rw [upd_ne nqD]; exact s6 _ _ hq5, by rw [upd_same, List.map_append], ?_⟩
          have key : (sgls i ++ ((wdsA (i + 1)).take (j + 1)).flatMap both).filter okB = (sgls i ++ ((wdsA (i + 1)).take j).flatMap both).filter okB ++ (both v).filter okB := by
            rw [List.take_add_one, hv, List.flatMap_append, ← List.append_assoc, List.filter_append]
            congr 2
          rw [key]
          refine f2_app (f2_imp hF5 fun _ _ r => ⟨(r.1.same s6).upd hD56 r.2, r.2⟩) ?_
          exact f2_imp hF6 fun _ _ r => ⟨r.1.upd hD56 r.2.1, r.2.1⟩
      · rintro σ H4 ⟨v3, v4, as, rfl, s4, hq4, hD4, hF4⟩
        refine ⟨_, _, _, as, rfl, s4, hD4, ?_⟩
        rw [sgls_succ]
        rw [strsV_len, List.take_length] at hF4
        exact hF4
    · rintro σ H2 ⟨v2, v3, v4, as, rfl, s2, hD2, hF⟩
      have en : ((n : Int) + 1 - 1).toNat = n := by omega
      rw [en] at hF
      exact ⟨_, rfl, k D as H2 s2 nDH hD2 (f2_imp hF fun _ _ r => r.1)⟩
end
end U

set_option maxRecDepth 100000
namespace U
/-! 0 and 1 exchanged -/
def sw (l : List Bool) : List Bool := l.map not
def swS (s : Stf) : Stf := (sw s.1, !s.2)
theorem sw_len (l : List Bool) : (sw l).length = l.length := List.length_map _
theorem sw_sw (l : List Bool) : sw (sw l) = l := by
  unfold sw
  rw [List.map_map]
  exact (List.map_congr_left fun b _ => Bool.not_not b).trans (List.map_id l)
theorem sw_app (a b : List Bool) : sw (a ++ b) = sw a ++ sw b := List.map_append
theorem sw_inj {a b : List Bool} (h : sw a = sw b) : a = b := by rw [← sw_sw a, h, sw_sw]
theorem swS_swS (s : Stf) : swS (swS s) = s := by
  unfold swS
  exact Prod.ext (sw_sw s.1) (Bool.not_not s.2)
theorem map_sw2 (ss : List Stf) : (ss.map swS).map swS = ss := by
  rw [List.map_map]
  exact (List.map_congr_left fun s _ => swS_swS s).trans (List.map_id ss)
theorem sw_suf {p l : List Bool} : sw p <:+ sw l ↔ p <:+ l := by
  constructor
  · rintro ⟨t, h⟩
    refine ⟨sw t, ?_⟩
    have := congrArg sw h
    rw [sw_app, sw_sw, sw_sw] at this
    exact this
  · rintro ⟨t, rfl⟩
    exact ⟨sw t, by rw [sw_app]⟩
theorem sw_isSuf (p l : List Bool) : (sw p).isSuffixOf (sw l) = p.isSuffixOf l := by
  rw [Bool.eq_iff_iff, List.isSuffixOf_iff_suffix, List.isSuffixOf_iff_suffix]
  exact sw_suf
theorem put_sw (l : List Bool) : ∀ ss : List Stf, putM (ss.map swS) (sw l) = (putM ss l).map not
  | [] => rfl
  | s :: r => by
    unfold putM
    rw [List.map_cons, List.find?_cons, List.find?_cons]
    show Option.map (fun x => x.2) (match (sw s.1).isSuffixOf (sw l) with | true => some (swS s) | false => _) = _
    rw [sw_isSuf]
    cases s.1.isSuffixOf l with
    | true => rfl
    | false => exact put_sw l r
theorem Ins.sw {ss : List Stf} {l x : List Bool} (h : Ins ss l x) : Ins (ss.map swS) (U.sw l) (U.sw x) := by
  induction h with
  | stop h => exact .stop (by rw [put_sw, h]; rfl)
  | more h _ ih =>
    refine .more (by rw [put_sw, h]; rfl) ?_
    rw [sw_app] at ih
    exact ih
theorem Reach.sw {ss : List Stf} {l : List Bool} (h : Reach ss l) : Reach (ss.map swS) (U.sw l) := by
  induction h with
  | nil => exact .nil
  | next _ i ih =>
    have := i.sw
    rw [sw_app] at this
    have r := Reach.next ih this
    rw [sw_app, sw_app]
    exact r
theorem OkN.sw {n : Nat} {ss : List Stf} (h : OkN n ss) : OkN n (ss.map swS) := fun l r b => by
  have r2 := r.sw
  rw [map_sw2] at r2
  obtain ⟨x, hx, hl⟩ := h _ r2 (!b)
  refine ⟨U.sw x, ?_, by rw [sw_len]; exact hl⟩
  have := hx.sw
  rw [sw_app, sw_sw] at this
  have e : U.sw [!b] = [b] := by cases b <;> rfl
  rw [e] at this
  exact this
theorem OkR.sw {ss : List Stf} (h : OkR ss) : OkR (ss.map swS) := fun l r b => by
  have r2 := r.sw
  rw [map_sw2] at r2
  obtain ⟨x, hx⟩ := h _ r2 (!b)
  refine ⟨U.sw x, ?_⟩
  have := hx.sw
  rw [sw_app, sw_sw] at this
  have e : U.sw [!b] = [b] := by cases b <;> rfl
  rw [e] at this
  exact this
theorem Body.sw {ss : List Stf} {m l : List Bool} (h : Body ss m l) : Body (ss.map swS) (U.sw m) (U.sw l) := by
  induction h with
  | nil => exact .nil
  | snoc _ i ih =>
    have := i.sw
    rw [sw_app] at this
    have r := Body.snoc ih this
    rw [sw_app, sw_app, sw_app]
    exact r
theorem SufFree.sw {ss : List Stf} (h : SufFree ss) : SufFree (ss.map swS) := by
  unfold SufFree at h ⊢
  rw [List.pairwise_map]
  refine h.imp fun {a b} hab => ?_
  exact ⟨fun z => hab.1 (sw_suf.mp z), fun z => hab.2 (sw_suf.mp z)⟩
end U

set_option maxRecDepth 100000
set_option maxHeartbeats 4000000
namespace U
open PySem PySem.Spec PyProof.Rows
open L2 hiding Fun CX0 E0 pass0 Fun.binds
open C8 Lx SX StX
theorem longM_sw : ∀ ss : List Stf, longM (ss.map swS) = longM ss
  | [] => rfl
  | s :: r => by
    show max (sw s.1).length (longM (r.map swS)) = max s.1.length (longM r)
    rw [sw_len, longM_sw r]
theorem StOk.sw {ss : List Stf} (h : StOk ss) : StOk (ss.map swS) := ⟨by rw [List.length_map]; exact h.few, fun s hs => by
    obtain ⟨t, ht, rfl⟩ := List.mem_map.mp hs
    intro z
    exact h.pos t ht (List.length_eq_zero_iff.mp (by rw [← sw_len]; exact List.length_eq_zero_iff.mpr z)), by rw [longM_sw]; exact h.long, h.free.sw⟩
def spOther : Sp := fun vs H Q _ => ∃ b : Bool, vs = [.str (W [b])] ∧ Q (.str (W [!b])) H
def spSwW : Sp := fun vs H Q _ => ∃ l : List Bool, vs = [.str (W l)] ∧ l.length ≤ 10000 ∧ ∀ H', Same H H' → Q (.str (W (sw l))) H'
def spSwapped (C : Addr) : Sp := fun vs H Q _ => ∃ (a : Addr) (f : List Bool) (ss : List Stf), vs = [.ref a] ∧ RuAt C H a f ss ∧ StOk ss ∧ OkR ss ∧ 2 ≤ f.length ∧ f.length ≤ 1000 ∧
  ∀ x ss' H', Same H H' → ss'.Perm (ss.map swS) → SortedS ss' → RuAt C H' x (sw f) ss' → Q (.ref x) H'
/-- a pair more in a list of stuffs -/
theorem st_push {H : Hp} {D z : Addr} {qs : List Addr} {kc : Addr → Stf} {zs : List V} {s : Stf} (hD : H D = some (.lst (qs.map V.ref))) (hS : StV H kc qs) (hz : H z = none) (ez : zs = [.str (W s.1), .str (W [s.2])]) :
    ∃ kc' : Addr → Stf, upd (upd H z (.tup zs)) D (.lst (qs.map V.ref ++ [.ref z])) D = some (.lst ((qs ++ [z]).map V.ref)) ∧ StV (upd (upd H z (.tup zs)) D (.lst (qs.map V.ref ++ [.ref z]))) kc' (qs ++ [z]) ∧ (qs ++ [z]).map kc' = qs.map kc ++ [s] := by
  subst ez
  have zq : ∀ y ∈ qs, y ≠ z := fun y hy => ne_of_none (hS y hy) hz
  have nDz : z ≠ D := (ne_of_none hD hz).symm
  refine ⟨fun y => if y = z then s else kc y, by rw [upd_same, List.map_append]; rfl, fun y hy => ?_, ?_⟩
  · have ny : y ≠ D := by
      rcases List.mem_append.mp hy with h1 | h1
      · exact ne_of (hS y h1) hD (by intro z; cases z)
      · rw [List.mem_singleton.mp h1]; exact nDz
    rw [upd_ne ny]
    dsimp only
    rcases List.mem_append.mp hy with h1 | h1
    · rw [if_neg (zq y h1), upd_ne (zq y h1)]
      exact hS y h1
    · rw [List.mem_singleton.mp h1, if_pos rfl]
      exact upd_same
  · rw [List.map_append]
    congr 1
    · exact List.map_congr_left fun y hy => if_neg (zq y hy)
    · show [if z = z then s else kc z] = [s]
      rw [if_pos rfl]
/-- a rule made of stuffs in a list or a tuple -/
theorem mk_ru {K : PySem.W.Frag} {C : Addr} {H : Hp} {l : Addr} {z : Str} {f : List Bool} {ps : List Addr} {kb : Addr → Stf} {R : Addr → Hp → Prop} {E : XK} (hz : z = W f) (hl : Sq K H l (ps.map V.ref)) (hs : StV H kb ps) (ok : StOk (ps.map kb)) (hO : OkR (ps.map kb)) (h2 : 2 ≤ f.length) (h3 : f.length ≤ 1000)
    (k : ∀ x ss' H', Same H H' → ss'.Perm (ps.map kb) → SortedS ss' → RuAt C H' x f ss' → R x H') :
    ∀ x dx, H x = none → H dx = none → dx ≠ x → spRuInit K C [.ref x, .str z, .ref l] (upd (upd H dx (.own x)) x (.ins C dx [])) (fun v H2 => v = .non ∧ R x H2) E := by
  subst hz
  intro x dx nx ndx nex
  have sm : Same H (upd (upd H dx (.own x)) x (.ins C dx [])) := fun c o e => by
    rw [upd_ne (ne_of_none e nx), upd_ne (ne_of_none e ndx)]; exact e
  exact ⟨x, dx, l, f, ps, kb, rfl, upd_same, hl.of_same sm, hs.same sm, ok, hO, h2, h3, fun H' ss' keep pm srt hR => ⟨rfl, k x ss' H' (Same.made nx ndx keep) pm srt hR⟩⟩
/-- a rule with one stuff, written -/
theorem mk_one {K : PySem.W.Frag} {C : Addr} {H : Hp} {p1 p2 : Addr} {z u v : Str} {f p : List Bool} {b : Bool} {R : Addr → Hp → Prop} {E : XK} (hz : z = W f) (hu : u = W p) (hv : v = W [b]) (n1 : H p1 = none) (n2 : upd H p1 (.tup [.str u, .str v]) p2 = none) (ok : StOk [(p, b)]) (hO : OkR [(p, b)]) (h2 : 2 ≤ f.length) (h3 : f.length ≤ 1000)
    (k : ∀ x H', Same H H' → RuAt C H' x f [(p, b)] → R x H') :
    ∀ x dx, upd (upd H p1 (.tup [.str u, .str v])) p2 (.lst [.ref p1]) x = none → upd (upd H p1 (.tup [.str u, .str v])) p2 (.lst [.ref p1]) dx = none → dx ≠ x →
      spRuInit K C [.ref x, .str z, .ref p2] (upd (upd (upd (upd H p1 (.tup [.str u, .str v])) p2 (.lst [.ref p1])) dx (.own x)) x (.ins C dx [])) (fun v H2 => v = .non ∧ R x H2) E := by
  subst hu hv
  refine mk_ru (ps := [p1]) (kb := fun _ => (p, b)) hz (.inl (SqL.of upd_same)) (fun t ht => ?_) ok hO h2 h3 fun x ss' H' s pm srt hR => ?_
  · rw [List.mem_singleton.mp ht, upd_ne (fun z => by rw [z, upd_same] at n2; cases n2)]
    exact upd_same
  · have es : ss' = [(p, b)] := List.perm_singleton.mp pm
    subst es
    exact k x H' (((same_upd n1).trans (same_upd n2)).trans s) hR
section
variable {P : Program} {w : World} {K : PySem.W.Frag} {mg : Str → Option Value} {base : Heap}
end
end U

set_option maxRecDepth 100000
set_option maxHeartbeats 4000000
namespace U
open PySem PySem.Spec PyProof.Rows
open L2 hiding Fun CX0 E0 pass0 Fun.binds
open C8 Lx SX StX
theorem u65 {k : Nat} {A : Around} (r : Room k A) : A.units + 65 < cLine := by have := r.un; omega
/-! stuffs as data -/
def pairD (s : Stf) : PyData := .tuple [.str (W s.1), .str (W [s.2])]
theorem sOk_W (l : List Bool) : PyData.strOk (W l) = true := by
  unfold PyData.strOk
  show ((l.map bt).toArray.all _) = true
  rw [List.all_toArray, List.all_map, List.all_eq_true]
  intro b _
  cases b <;> rfl
theorem canLay_pairs : ∀ ss : List Stf, PyData.canLayAll0 (ss.map pairD) = true
  | [] => by simp [PyData.canLayAll0]
  | s :: r => by
    rw [List.map_cons, PyData.canLayAll0, canLay_pairs r, Bool.and_true]
    unfold pairD
    simp only [PyData.canLay0, PyData.canLayAll0, sOk_W, Bool.and_true]
theorem depth_pairs : ∀ ss : List Stf, PyData.depthAll (ss.map pairD) ≤ 1
  | [] => by simp [PyData.depthAll]
  | s :: r => by
    have := depth_pairs r
    rw [List.map_cons, PyData.depthAll]
    have e : PyData.depth (pairD s) = 1 := by unfold pairD; simp [PyData.depth, PyData.depthAll]
    rw [e]
    omega
theorem shaped_tup (ss : List Stf) : SeqAt.shaped (.tuple (ss.map pairD)) = true := by
  unfold SeqAt.shaped
  rw [PyData.canLay0, canLay_pairs, Bool.true_and]
  refine decide_eq_true ?_
  rw [PyData.depth]
  have := depth_pairs ss
  omega
theorem shaped_lst (ss : List Stf) : SeqAt.shaped (.list (ss.map pairD)) = true := by
  unfold SeqAt.shaped
  rw [PyData.canLay0, canLay_pairs, Bool.true_and]
  refine decide_eq_true ?_
  rw [PyData.depth]
  have := depth_pairs ss
  omega
theorem beq_W (a b : List Bool) : (W a == W b) = decide (a = b) := by
  rw [Bool.eq_iff_iff, beq_iff_eq, decide_eq_true_iff]
  exact W_eq
theorem eqv_pair (s t : Stf) : PyData.eqv (pairD s) (pairD t) = decide (s = t) := by
  unfold pairD
  simp only [PyData.eqv, PyData.eqvAll, beq_W, Bool.and_true]
  obtain ⟨p, b⟩ := s
  obtain ⟨q, c⟩ := t
  rw [Bool.eq_iff_iff]
  simp
theorem eqv_pairs : ∀ ss ts : List Stf, PyData.eqvAll (ss.map pairD) (ts.map pairD) = decide (ss = ts)
  | [], [] => by simp [PyData.eqvAll]
  | [], _ :: _ => by simp [PyData.eqvAll]
  | _ :: _, [] => by simp [PyData.eqvAll]
  | s :: r, t :: q => by
    rw [List.map_cons, List.map_cons, PyData.eqvAll, eqv_pair, eqv_pairs r q, Bool.eq_iff_iff]
    simp
theorem eqv_tup (ss ts : List Stf) : PyData.eqv (.tuple (ss.map pairD)) (.tuple (ts.map pairD)) = decide (ss = ts) := by rw [PyData.eqv, eqv_pairs]
theorem eqv_lst (ss ts : List Stf) : PyData.eqv (.list (ss.map pairD)) (.list (ts.map pairD)) = decide (ss = ts) := by rw [PyData.eqv, eqv_pairs]
theorem dp_all {K : PySem.W.Frag} {H : Hp} {kb : Addr → Stf} : ∀ {ps : List Addr}, StV H kb ps → DpAll K H (ps.map V.ref) ((ps.map kb).map pairD)
  | [], _ => .nil
  | p :: r, h => .cons (.tup (SqT.of (h p List.mem_cons_self)) (.cons (.str _) (.cons (.str _) .nil))) (dp_all fun t ht => h t (List.mem_cons_of_mem _ ht))
theorem no_none (ss : List Stf) : ((ss.map pairD).any fun z => PyData.eqv z .none) = false := by
  rw [List.any_eq_false]
  intro z hz
  obtain ⟨s, _, rfl⟩ := List.mem_map.mp hz
  unfold pairD
  simp [PyData.eqv]
end U

set_option maxRecDepth 100000
set_option maxHeartbeats 4000000
namespace U
open PySem PySem.Spec PyProof.Rows
open L2 hiding Fun CX0 E0 pass0 Fun.binds
open C8 Lx SX StX
def spStuffIn : Sp := fun vs H Q _ => ∃ s : Stf, vs = [.str (stT s)] ∧ s.1 ≠ [] ∧ s.1.length ≤ 9 ∧ ∀ t H', H t = none → Same H H' → H' t = some (.tup [.str (W s.1), .str (W [s.2])]) → Q (.ref t) H'
def spRuRead (C : Addr) : Sp := fun vs H Q _ => ∃ (f : List Bool) (ss : List Stf), vs = [.ref C, .str (ruT f ss)] ∧ StOk ss ∧ OkR ss ∧ 2 ≤ f.length ∧ f.length ≤ 1000 ∧
  ∀ x ss' H', Same H H' → ss'.Perm ss → SortedS ss' → RuAt C H' x f ss' → Q (.ref x) H'
theorem ruT_len {f : List Bool} {ss : List Stf} (sm : RuSm f ss) : (ruT f ss).length ≤ 20000 := by
  have ls := sum_st sm.long
  have h1 := sm.fl
  have h2 := sm.few
  have h : ∀ ys : List Str, (Txt.join " " ys).length ≤ (ys.map (·.length)).sum + ys.length := by
    intro ys
    rw [TL.join_eq, TL.len_tl]
    show (TL.tl (Str.join " " ys)).length ≤ _
    rw [TL.tl_join, sp_tl]
    induction ys with
    | nil => exact Nat.zero_le _
    | cons y r ih =>
      cases r with
      | nil =>
        show (TL.tl y).length ≤ _
        simp only [List.map_cons, List.map_nil, List.sum_cons, List.sum_nil, List.length_cons, List.length_nil]
        rw [TL.len_tl]
        exact Nat.le_add_right _ _
      | cons y2 r2 =>
        have e : TL.joinL [32] (List.map TL.tl (y :: y2 :: r2)) = TL.tl y ++ ([32] ++ TL.joinL [32] (List.map TL.tl (y2 :: r2))) := rfl
        have e4 : ((y :: y2 :: r2).map (·.length)).sum = y.length + ((y2 :: r2).map (·.length)).sum := by rw [List.map_cons, List.sum_cons]
        have e5 : (y :: y2 :: r2).length = (y2 :: r2).length + 1 := rfl
        rw [e, e4, e5, List.length_append, List.length_append]
        have e2 : y.length = (TL.tl y).length := TL.len_tl y
        have e3 : ([32] : List Nat).length = 1 := rfl
        omega
  refine Nat.le_trans (h _) ?_
  unfold ruWs
  have l4 : ("flag" : Str).length = 4 := by decide +kernel
  have l3 : ("put" : Str).length = 3 := by decide +kernel
  split
  · simp only [List.map_cons, List.map_nil, List.sum_cons, List.sum_nil, l4, W_len, List.length_cons, List.length_nil]
    omega
  · simp only [List.map_cons, List.sum_cons, l4, l3, W_len, List.length_cons, List.length_map]
    omega
section
variable {P : Program} {w : World} {K : PySem.W.Frag} {mg : Str → Option Value} {base : Heap}
theorem sc_stuff_in : FnScope ["word", "pattern", "sign", "bit"] ["word"] (fnScope s_stuff_in) := fnScope_by (by decide +kernel)
theorem cal_stuff_in {f : Addr} {fd : FuncData} (F : Def K mg "stuff_in" s_stuff_in f fd) (b : Binds K fd ["word"] []) (T : Tx mg) (c_is_stuff : Cal P w K mg base 3 "is_stuff" spIsStuff []) : Cal P w K mg base 4 "stuff_in" spStuffIn [] := by
  refine cal0 F b .nil sc_stuff_in (fun vs H Q E h => ?_) (fun cdv A outer s H vs Q E hr h => ?_)
  · obtain ⟨_, rfl, _⟩ := h; rfl
  · obtain ⟨s, rfl, hp, hl, k⟩ := h
    refine ⟨_, (pss_cons (ps_asg (pe_partition (pv 0) pe_str) (pg_tup rfl (pgs_cons (pg_name (i := 1) sc_stuff_in.nd rfl (.inl rfl)) (pgs_cons (pg_name (i := 2) sc_stuff_in.nd rfl (.inl rfl)) (pgs_cons (pg_name (i := 3) sc_stuff_in.nd rfl (.inl rfl)) pgs_nil)))))
    (pss_one (ps_ret (pe_ifExp (PW.pt (pw_and (pt_cmpR op_eq (pv 2) pe_str (nomark _)) (pw_and1 (pt_val (pe_c c_is_stuff hr (by decide) rfl (pa_cons (pe_tup (pa_cons (pv 1) (pa_cons (pv 3) pa_nil))) pa_nil)))))) (pe_tup (pa_cons (pv 1) (pa_cons (pv 3) pa_nil))) pe_non)))), ?_⟩
    have l11 := stT_len hl
    refine ⟨_, rfl, ⟨_, rfl⟩, _, _, rfl, rfl, by decide +kernel, Nat.le_trans l11 (by decide), fun t nt => ?_⟩
    have s1 : Same H _ := same_upd (o := .tup [.str (Txt.partition (stT s) ":").1, .str (Txt.partition (stT s) ":").2.1, .str (Txt.partition (stT s) ":").2.2]) nt
    refine ⟨t, _, rfl, SqT.of upd_same, rfl, _, _, rfl, _, _, rfl, _, _, rfl, rfl, ?_⟩
    generalize upd H t _ = H1 at s1
    rw [stT_part]
    refine ⟨_, rfl, rfl, _, rfl, iteDT rfl ?_⟩
    refine ⟨_, rfl, _, rfl, by show 2 ≤ sizeLine; decide, fun t2 n2 => ?_⟩
    refine ⟨t2, s.1, s.2, rfl, upd_same, hp, by omega, fun H2 s2 => ⟨_, rfl, iteT ?_⟩⟩
    refine ⟨_, rfl, _, rfl, by show 2 ≤ sizeLine; decide, fun t3 n3 => ?_⟩
    have s3 := (s1.trans (same_upd n2)).trans s2
    exact k t3 _ (s3.free n3) (s3.trans (same_upd n3)) upd_same
theorem sc_Rule_read : FnScope ["cls", "text", "words", "stuffs", "word"] ["cls", "text"] (fnScope s_Rule_read) := fnScope_by (by decide +kernel)
theorem ok_Rule_read {f C : Addr} {fd : FuncData} (F : C8.Fun K "read" "Rule.read" s_Rule_read f fd) (T : Tx mg) (RT : RuT K C) (c_is_word : Cal P w K mg base 1 "is_word" (spIsWord K) []) (c_stuff_in : Cal P w K mg base 4 "stuff_in" spStuffIn [])
    (m_Rule2 : Mak P w K mg base 5 "Rule" C (spRuInit K C) []) : FnOk P w K mg base CX0 7 f fd ["cls", "text"] (spRuRead C) := by
  refine fn0 F sc_Rule_read (fun vs H Q E h => ?_) (fun cdv A outer s H vs Q E hr h => ?_)
  · obtain ⟨_, _, rfl, _⟩ := h; rfl
  · obtain ⟨fl, ss, rfl, ok, hO, h2, h3, k⟩ := h
    refine ⟨_, (pss_cons (ps_set (i := 2) sc_Rule_read.nd rfl (.inl rfl) (pe_ifExp (pt_val (pe_callB call_isi (by rfl) T.b_isinstance (by decide +kernel) (pa_cons (pv 1) (pa_cons (pe_bltn (v := .ty "str") (u := .type "str") (by rfl) T.b_str (by decide +kernel) rfl) pa_nil)))) (pe_split (pv 1) pe_str) (pe_lst pa_nil)))
    (pss_cons (ps_if (PW.pt (pw_or (pt_cmpR op_lt (pe_callB call_len_seq (by rfl) T.b_len (by decide +kernel) (pa_cons (pv 2) pa_nil)) pe_int (nomark _)) (pw_or (pt_cmpR op_ne (pe_ix ix_list (pv 2) pe_int (fun _ _ => rfl)) pe_str (nomark _)) (pw_or (pt_not (pt_val (pe_c c_is_word hr (by decide) rfl (pa_cons (pe_ix ix_list (pv 2) pe_int (fun _ _ => rfl)) pa_nil)))) (pw_or1 (pt_cmpR op_eq (pe_ix ix_list (pv 2) pe_int (fun _ _ => rfl)) pe_str (nomark _))))))) (pss_one ps_never) pss_nil)
    (pss_cut (ps_if (PW.pt (pw_and (pt_cmpR op_gt (pe_callB call_len_seq (by rfl) T.b_len (by decide +kernel) (pa_cons (pv 2) pa_nil)) pe_int (nomark _)) (pw_and1 (PW.pt (pw_or (pt_cmpR op_ne (pe_ix ix_list (pv 2) pe_int (fun _ _ => rfl)) pe_str (nomark _)) (pw_or1 (pt_cmpR op_eq (pe_callB call_len_seq (by rfl) T.b_len (by decide +kernel) (pa_cons (pv 2) pa_nil)) pe_int (nomark _)))))))) (pss_one ps_never) pss_nil)
    (pss_cons (ps_setLc (i := 3) (own := [("word", 4)]) (g := gName 4) (by rfl) sc_Rule_read.nd rfl rfl (sw_true rfl rfl rfl (by decide +kernel)) (pi_list (pe_slice sl_list (pv 2) (po_some pe_int) po_none)) (blkOk_by (own := [("word", 4)]) (N := ["cls", "text", "words", "stuffs", "word"]) (sc := fnScope s_Rule_read) (by decide +kernel)) (fun _ _ _ _ _ => (pg_name (i := 4) sc_Rule_read.nd rfl (.inl rfl))) (fun _ _ _ _ _ => pts_nil) (fun _ _ _ _ _ => (pe_c c_stuff_in hr (by decide) rfl (pa_cons (pv 4) pa_nil))))
    (pss_cons (ps_if (pt_cmpR (op_inD (u65 hr)) pe_non (pv 3) (by with_unfolding_all rfl)) (pss_one ps_never) pss_nil)
    (pss_one (ps_ret (pe_mkL 0 m_Rule2 hr (by decide) (pa_cons (pe_ix ix_list (pv 2) pe_int (fun _ _ => rfl)) (pa_cons (pv 3) pa_nil)))))))))), ?_⟩
    have sm : RuSm fl ss := ok.sm h3
    have lt := ruT_len sm
    refine ⟨_, rfl, _, _, _, _, true, rfl, .ty _, .base (.str _), kit_ty (by decide +kernel), _, rfl, ?_⟩
    refine ⟨_, rfl, ⟨_, rfl⟩, _, _, rfl, rfl, by decide +kernel, sl_len (by omega), fun q nq => ?_⟩
    rw [ruT_split]
    have hq0 : upd H q (.lst ((ruWs fl ss).map V.str)) q = some (.lst ((ruWs fl ss).map V.str)) := upd_same
    have s1 : Same H (upd H q (.lst ((ruWs fl ss).map V.str))) := same_upd nq
    generalize upd H q (.lst ((ruWs fl ss).map V.str)) = H1 at hq0 s1
    have hL : (ruWs fl ss).length = if ss = [] then 2 else ss.length + 3 := by
      unfold ruWs
      split <;> simp
    have hq : SqL K H1 q ((ruWs fl ss).map V.str) := SqL.of hq0
    have a0 : atI ((ruWs fl ss).map V.str) 0 = some (.str "flag") := atI_nat (j := 0) rfl
    have a1 : atI ((ruWs fl ss).map V.str) 1 = some (.str (W fl)) := atI_nat (j := 1) rfl
    have nf : fl ≠ [] := fun z => by rw [z] at h2; cases h2
    refine ⟨_, rfl, q, _, rfl, .inl hq, _, _, rfl, rfl, _, rfl, iteDF (by rw [List.length_map, hL]; split <;> omega) ?_⟩
    refine ⟨_, rfl, q, _, _, _, rfl, rfl, hq, a0, rfl, _, rfl, iteNS rfl ?_⟩
    refine ⟨_, rfl, q, _, _, _, rfl, rfl, hq, a1, _, rfl, .inl ⟨_, rfl, by rw [W_len]; omega, fun H2 s2 => ⟨_, rfl, iteBF (by rw [isW_W]; rfl) ?_⟩⟩⟩
    have hq2 : SqL K H2 q ((ruWs fl ss).map V.str) := SqL.of (s2 _ _ hq0)
    refine ⟨_, rfl, q, _, _, _, rfl, rfl, hq2, a1, rfl, _, rfl, iteDF (fun z => nf (by rw [W_nil] at z; exact W_inj (V.str.inj z))) ?_⟩
    -- the second test
    refine ⟨fun σ' H' => σ' = [some (.ref C), some (.str (ruT fl ss)), some (.ref q), none, none] ∧ H' = H2, ?_, ?_⟩
    · refine ⟨_, rfl, q, _, rfl, .inl hq2, _, _, rfl, rfl, _, rfl, ?_⟩
      by_cases c : ss = []
      · refine iteDF (by rw [List.length_map, hL, if_pos c]; omega) ?_
        exact ⟨rfl, rfl⟩
      · refine iteDT (by rw [List.length_map, hL, if_neg c]; omega) ?_
        have a2 : atI ((ruWs fl ss).map V.str) 2 = some (.str "put") := atI_nat (j := 2) (by unfold ruWs; rw [if_neg c]; rfl)
        have c1 : 0 < ss.length := List.length_pos_iff.mpr c
        refine ⟨_, rfl, q, _, _, _, rfl, rfl, hq2, a2, rfl, _, rfl, iteNS rfl ?_⟩
        refine ⟨_, rfl, q, _, rfl, .inl hq2, rfl, _, rfl, iteDF (by rw [List.length_map, hL, if_neg c]; intro z; have := V.int.inj z; omega) ?_⟩
        exact ⟨rfl, rfl⟩
    · rintro σ' H' ⟨rfl, rfl⟩
      have e3 : cutV ((ruWs fl ss).map V.str) (some 3) none = (ss.map stT).map V.str := by
        by_cases c : ss = []
        · unfold ruWs
          rw [if_pos c, c]
          rfl
        · have e := cut_from (xs := (ruWs fl ss).map V.str) (i := 2) (by rw [List.length_map, hL, if_neg c]; omega)
          have e' : (((2 : Nat) : Int) + 1) = 3 := rfl
          rw [e'] at e
          rw [e]
          unfold ruWs
          rw [if_neg c]
          rfl
      refine ⟨_, rfl, _, rfl, q, _, rfl, hq2, fun p np => ?_⟩
      rw [e3]
      have hp : upd H' p (.lst ((ss.map stT).map V.str)) p = some (.lst ((ss.map stT).map V.str)) := upd_same
      have s3 : Same H' (upd H' p (.lst ((ss.map stT).map V.str))) := same_upd np
      generalize upd H' p (.lst ((ss.map stT).map V.str)) = H3 at hp s3
      refine ⟨p, rfl, ⟨_, SqL.of hp⟩, fun D nD => ?_⟩
      refine lc_it (walk_list (xs := (ss.map stT).map V.str)) (fun i H4 => Same H3 H4 ∧ ∃ (qs : List Addr) (kc : Addr → Stf), H4 D = some (.lst (qs.map V.ref)) ∧ StV H4 kc qs ∧ qs.map kc = ss.take i) ⟨same_upd nD, [], fun _ => ([], false), upd_same, (fun _ h => nomatch h), rfl⟩ (fun i H4 _ h4 => SqL.of (h4.1 _ _ hp)) ?_ ?_
      · rintro i x H4 H4' hi ⟨s4, qs, kc, hD, hS, em⟩ ⟨rfl, hx⟩
        rw [List.getElem?_map, List.getElem?_map, Option.map_map] at hx
        obtain ⟨st, hst, rfl⟩ := Option.map_eq_some_iff.mp hx
        have hm := List.mem_of_getElem? hst
        refine ⟨rfl, _, rfl, st, rfl, ok.pos st hm, ok.l9 st hm, fun z H5 nz s5 hz => ?_⟩
        have lq : qs.length ≤ 1000 := by
          have := congrArg List.length em
          rw [List.length_map, List.length_take] at this
          have := ok.few
          omega
        have hD5 := s5 _ _ hD
        have zD : z ≠ D := (ne_of_none hD nz).symm
        have zq : ∀ y ∈ qs, y ≠ z := fun y hy => ne_of_none (hS y hy) nz
        refine ⟨_, hD5, by rw [List.length_map]; exact sl_lt (by omega), ?_, qs ++ [z], fun y => if y = z then st else kc y, ?_, ?_, ?_⟩
        · intro c o e
          rw [upd_ne (ne_of_none e nD)]
          exact s5 _ _ (s4 _ _ e)
        · rw [upd_same, List.map_append]; rfl
        · intro y hy
          have ny : y ≠ D := by
            rcases List.mem_append.mp hy with h1 | h1
            · exact ne_of (hS y h1) hD (by intro z; cases z)
            · rw [List.mem_singleton.mp h1]; exact zD
          rw [upd_ne ny]
          dsimp only
          rcases List.mem_append.mp hy with h1 | h1
          · rw [if_neg (zq y h1)]
            exact s5 _ _ (hS y h1)
          · rw [List.mem_singleton.mp h1, if_pos rfl]
            exact hz
        · rw [List.map_append, List.take_add_one, hst]
          congr 1
          · rw [← em]
            exact List.map_congr_left fun y hy => if_neg (zq y hy)
          · show [if z = z then st else kc z] = [st]
            rw [if_pos rfl]
      · rintro H4 ⟨s4, qs, kc, hD, hS, em⟩
        rw [List.length_map, List.length_map, List.take_length] at em
        refine ⟨_, rfl, _, _, .non, .lst (SqL.of hD) (dp_all hS), by decide +kernel, shaped_lst _, _, rfl, iteBF (no_none _) ?_⟩
        have s24 := s3.trans s4
        refine ⟨rfl, _, rfl, q, _, _, _, rfl, rfl, SqL.of (s24 _ _ (s2 _ _ hq0)), a1, _, rfl, ?_⟩
        refine mk_ru rfl (.inl (SqL.of hD)) hS (by rw [em]; exact ok) (by rw [em]; exact hO) h2 h3 fun x ss' H5 s5 pm srt hR => ?_
        rw [em] at pm
        exact k x ss' H5 (((s1.trans s2).trans s24).trans s5) pm srt hR
end
end U

set_option maxRecDepth 100000
set_option maxHeartbeats 4000000
set_option pp.maxSteps 400
namespace U
/-! two rules compared -/
/-- a place among all words, shorter ones first -/
def sl (m : List Bool) : Nat := num (true :: m)
theorem sl_snoc (m : List Bool) (b : Bool) : sl (m ++ [b]) = 2 * sl m + (if b then 1 else 0) := num_snoc (true :: m) b
theorem sl_nil : sl [] = 1 := rfl
theorem sl_pos : ∀ m : List Bool, 1 ≤ sl m := by
  intro m
  unfold sl
  rw [num_cons, if_pos rfl]
  have := Nat.one_le_two_pow (n := m.length)
  omega
def Al (s1 s2 : List Stf) (m : List Bool) : Prop := bodyF s1 m = bodyF s2 m
def PartR (s1 s2 : List Stf) : Option (List Bool) → Prop
  | none => ∀ m, Al s1 s2 m
  | some m => ¬ Al s1 s2 m ∧ ∀ m', sl m' < sl m → Al s1 s2 m'
theorem sl_inj {a b : List Bool} (h : sl a = sl b) : a = b := by
  unfold sl at h
  rw [num_cons, num_cons, if_pos rfl, if_pos rfl] at h
  have ha := num_lt a
  have hb := num_lt b
  have el : a.length = b.length := by
    rcases Nat.lt_trichotomy a.length b.length with c | c | c
    · have : 2 ^ (a.length + 1) ≤ 2 ^ b.length := Nat.pow_le_pow_right (by decide) c
      rw [Nat.pow_succ] at this
      omega
    · exact c
    · have : 2 ^ (b.length + 1) ≤ 2 ^ a.length := Nat.pow_le_pow_right (by decide) c
      rw [Nat.pow_succ] at this
      omega
  rw [el] at h
  exact num_inj el (by omega)
theorem PartR.det {s1 s2 : List Stf} : ∀ {o o' : Option (List Bool)}, PartR s1 s2 o → PartR s1 s2 o' → o = o'
  | none, none, _, _ => rfl
  | none, some m, h, h' => absurd (h m) h'.1
  | some m, none, h, h' => absurd (h' m) h.1
  | some m, some m', h, h' => by
    rcases Nat.lt_trichotomy (sl m) (sl m') with c | c | c
    · exact absurd (h'.2 m c) h.1
    · rw [sl_inj c]
    · exact absurd (h.2 m' c) h'.1
theorem PartR.symm {s1 s2 : List Stf} : ∀ {o : Option (List Bool)}, PartR s1 s2 o → PartR s2 s1 o
  | none, h => fun m => (h m).symm
  | some m, h => ⟨fun z => h.1 z.symm, fun m' hm => (h.2 m' hm).symm⟩
/-- both rules at one standing -/
theorem al_step {s1 s2 : List Stf} {L : Nat} (o1 : OkN 39 s1) (o2 : OkN 39 s2) (h1 : ∀ s ∈ s1, s.1.length ≤ L) (h2 : ∀ s ∈ s2, s.1.length ≤ L) {p u : List Bool} (ap : Al s1 s2 p) (au : Al s1 s2 u) (e : tl L (bodyF s1 p) = tl L (bodyF s1 u)) (b : Bool) :
    (Al s1 s2 (p ++ [b]) → Al s1 s2 (u ++ [b])) ∧ tl L (bodyF s1 (p ++ [b])) = tl L (bodyF s1 (u ++ [b])) := by
  obtain ⟨x1, i1, l1, e1⟩ := ins40 o1 p b
  obtain ⟨x2, i2, l2, e2⟩ := ins40 o2 p b
  obtain ⟨y1, j1, k1, f1⟩ := ins40 o1 u b
  obtain ⟨y2, j2, k2, f2⟩ := ins40 o2 u b
  unfold Al at ap au ⊢
  rw [← ap] at i2 e2
  rw [← au] at j2 f2
  have es := tl_snoc (b := b) e
  have z1 := (i1.tl h1 es).det j1
  have z2 := (i2.tl h2 es).det j2
  subst z1 z2
  refine ⟨fun h => ?_, ?_⟩
  · rw [e1, e2] at h
    rw [f1, f2, List.append_cancel_left h]
  · rw [e1, f1]
    exact tl_app es _
/-- both put in the same at once -/
theorem al_ins {s1 s2 : List Stf} {L : Nat} (o1 : OkN 39 s1) (o2 : OkN 39 s2) (h1 : ∀ s ∈ s1, s.1.length ≤ L) (h2 : ∀ s ∈ s2, s.1.length ≤ L) {p t : List Bool} (ap : Al s1 s2 p) (e : t = tl L (bodyF s1 p)) (b : Bool) :
    ∃ x1 x2, Ins s1 (t ++ [b]) x1 ∧ Ins s2 (t ++ [b]) x2 ∧ x1.length ≤ 39 ∧ x2.length ≤ 39 ∧ (Al s1 s2 (p ++ [b]) ↔ x1 = x2) ∧ tl L (t ++ [b] ++ x1) = tl L (bodyF s1 (p ++ [b])) := by
  obtain ⟨x1, i1, l1, e1⟩ := ins40 o1 p b
  obtain ⟨x2, i2, l2, e2⟩ := ins40 o2 p b
  unfold Al at ap ⊢
  rw [← ap] at i2 e2
  have es : tl L (bodyF s1 p ++ [b]) = tl L (t ++ [b]) := tl_snoc (by rw [e, tl_tl (Nat.le_refl _)])
  refine ⟨x1, x2, i1.tl h1 es, i2.tl h2 es, l1, l2, ?_, ?_⟩
  · rw [e1, e2]
    exact ⟨fun h => List.append_cancel_left h, fun h => by rw [h]⟩
  · rw [e1]
    exact (tl_app es _).symm
/-- the search: messages with their standings in order, the edges of the first n done, and the first one of the next if c -/
structure PtI (s1 s2 : List Stf) (L : Nat) (od : List (List Bool × List Bool)) (n : Nat) (c : Bool) : Prop where
  st : ∀ p ∈ od, Al s1 s2 p.1 ∧ p.2 = tl L (bodyF s1 p.1)
  nd : (od.map Prod.snd).Nodup
  srt : od.Pairwise fun p q => sl p.1 < sl q.1
  hd : ∃ p ∈ od, p.1 = []
  ltd : ∀ p ∈ od, p.1 = [] ∨ ∃ q b, Dn od n c q b ∧ p.1 = q.1 ++ [b]
  ed : ∀ q b, Dn od n c q b → Al s1 s2 (q.1 ++ [b]) ∧ ∃ p ∈ od, p.2 = tl L (bodyF s1 (q.1 ++ [b])) ∧ sl p.1 ≤ sl (q.1 ++ [b])
  len : ∀ (j : Nat) (p : List Bool × List Bool), od[j]? = some p → p.1.length ≤ j
theorem PtI.start {s1 s2 : List Stf} {L : Nat} : PtI s1 s2 L [([], [])] 0 false := by
  refine ⟨fun p hp => ?_, ?_, List.pairwise_singleton _ _, ⟨_, List.mem_singleton.mpr rfl, rfl⟩, fun p hp => .inl ?_, fun q b h => ?_, fun j p h => ?_⟩
  · rw [List.mem_singleton.mp hp]
    exact ⟨rfl, (tl_nil L).symm⟩
  · exact nodup1 _
  · rw [List.mem_singleton.mp hp]
  · rcases h with h | ⟨h, _⟩
    · rw [List.take_zero] at h; cases h
    · cases h
  · match j, h with
    | 0, h => rw [← Option.some.inj h]; exact Nat.le_refl _
theorem PtI.few {s1 s2 : List Stf} {L : Nat} {od : List (List Bool × List Bool)} {n : Nat} {c : Bool} (h : PtI s1 s2 L od n c) : od.length + 1 ≤ 2 ^ (L + 1) := by
  have := words_le h.nd (n := L) fun w hw => by
    obtain ⟨p, hp, rfl⟩ := List.mem_map.mp hw
    rw [(h.st p hp).2]
    exact tl_le _ _
  rw [List.length_map] at this
  exact this
theorem Dn.lt2 {s1 s2 : List Stf} {L : Nat} {od : List (List Bool × List Bool)} {n : Nat} {c : Bool} (h : PtI s1 s2 L od n c) {p : List Bool × List Bool} (hp : od[n]? = some p) {q : List Bool × List Bool} {b : Bool} (hd : Dn od n c q b) : sl (q.1 ++ [b]) < sl (p.1 ++ [c]) := by
  rw [sl_snoc, sl_snoc]
  rcases hd with h1 | ⟨rfl, h1, rfl⟩
  · have hi := (List.getElem?_eq_some_iff.mp hp).1
    have hs : od = od.take n ++ od.drop n := (List.take_append_drop n od).symm
    have hpd : p ∈ od.drop n := by
      rw [List.drop_eq_getElem_cons hi]
      rw [List.getElem?_eq_getElem hi] at hp
      rw [Option.some.inj hp]
      exact List.mem_cons_self
    have := h.srt
    rw [hs] at this
    have := (List.pairwise_append.mp this).2.2 q h1 p hpd
    split <;> split <;> omega
  · rw [hp] at h1
    rw [Option.some.inj h1]
    simp
/-- an edge is done or not before the one that stands next -/
theorem Dn.of_lt {s1 s2 : List Stf} {L : Nat} {od : List (List Bool × List Bool)} {n : Nat} {c : Bool} (h : PtI s1 s2 L od n c) {p : List Bool × List Bool} (hp : od[n]? = some p) {q : List Bool × List Bool} (hq : q ∈ od) {b : Bool} (hl : sl (q.1 ++ [b]) < sl (p.1 ++ [c])) : Dn od n c q b := by
  rw [sl_snoc, sl_snoc] at hl
  obtain ⟨j, hj⟩ := List.getElem?_of_mem hq
  rcases Nat.lt_trichotomy j n with z | z | z
  · exact .inl (List.mem_of_getElem? (i := j) (by rw [List.getElem?_take, if_pos z]; exact hj))
  · subst z
    rw [hp] at hj
    cases Option.some.inj hj
    refine .inr ?_
    cases b <;> cases c
    · simp at hl
    · exact ⟨rfl, hp, rfl⟩
    · simp at hl; omega
    · simp at hl
  · exfalso
    have hn := (List.getElem?_eq_some_iff.mp hp)
    have hj' := (List.getElem?_eq_some_iff.mp hj)
    obtain ⟨hn1, hn2⟩ := hn
    obtain ⟨hj1, hj2⟩ := hj'
    have := List.pairwise_iff_getElem.mp h.srt n j hn1 hj1 z
    rw [hn2, hj2] at this
    split at hl <;> split at hl <;> omega
theorem PtI.rep {s1 s2 : List Stf} {L : Nat} (o1 : OkN 39 s1) (o2 : OkN 39 s2) (h1 : ∀ s ∈ s1, s.1.length ≤ L) (h2 : ∀ s ∈ s2, s.1.length ≤ L) {od : List (List Bool × List Bool)} {n : Nat} {c : Bool} (h : PtI s1 s2 L od n c) (X : Nat)
    (hX : ∀ q ∈ od, ∀ b, sl (q.1 ++ [b]) < X → Dn od n c q b) : ∀ k (u : List Bool), u.length = k → sl u < X → Al s1 s2 u ∧ ∃ p ∈ od, p.2 = tl L (bodyF s1 u) ∧ sl p.1 ≤ sl u
  | 0, u, hu, _ => by
    have := List.length_eq_zero_iff.mp hu
    subst this
    obtain ⟨p, hp, e⟩ := h.hd
    refine ⟨rfl, p, hp, ?_, by rw [e]; exact Nat.le_refl _⟩
    rw [(h.st p hp).2, e]
  | k + 1, u, hu, hlt => by
    obtain ⟨v, b, rfl⟩ : ∃ v b, u = v ++ [b] := by
      rcases List.eq_nil_or_concat u with z | ⟨v, b, z⟩
      · rw [z] at hu; cases hu
      · exact ⟨v, b, by rw [z, List.concat_eq_append]⟩
    have hv : v.length = k := by rw [List.length_append] at hu; simpa using hu
    have hs := sl_snoc v b
    have hp1 := sl_pos v
    obtain ⟨av, p, hp, e, hle⟩ := rep o1 o2 h1 h2 h X hX k v hv (by split at hs <;> omega)
    have hps := sl_snoc p.1 b
    have hd := hX p hp b (by split at hs <;> simp_all <;> omega)
    obtain ⟨ap, e2⟩ := h.st p hp
    obtain ⟨a2, r, hr, e3, hle2⟩ := h.ed p b hd
    obtain ⟨z1, z2⟩ := al_step o1 o2 h1 h2 ap av (by rw [← e2]; exact e) b
    refine ⟨z1 a2, r, hr, by rw [e3, z2], ?_⟩
    split at hs <;> simp_all <;> omega
theorem PtI.fin {s1 s2 : List Stf} {L : Nat} (o1 : OkN 39 s1) (o2 : OkN 39 s2) (h1 : ∀ s ∈ s1, s.1.length ≤ L) (h2 : ∀ s ∈ s2, s.1.length ≤ L) {od : List (List Bool × List Bool)} {n : Nat} (h : PtI s1 s2 L od n false) (hn : od.length ≤ n) : PartR s1 s2 none := by
  intro m
  refine (h.rep o1 o2 h1 h2 (sl m + 1) (fun q hq b _ => .inl ?_) m.length m rfl (Nat.lt_succ_self _)).1
  rw [List.take_of_length_le hn]
  exact hq
theorem PtI.hit {s1 s2 : List Stf} {L : Nat} (o1 : OkN 39 s1) (o2 : OkN 39 s2) (h1 : ∀ s ∈ s1, s.1.length ≤ L) (h2 : ∀ s ∈ s2, s.1.length ≤ L) {od : List (List Bool × List Bool)} {n : Nat} {c : Bool} (h : PtI s1 s2 L od n c) {p : List Bool × List Bool} (hp : od[n]? = some p) (hb : ¬ Al s1 s2 (p.1 ++ [c])) : PartR s1 s2 (some (p.1 ++ [c])) :=
  ⟨hb, fun m hm => (h.rep o1 o2 h1 h2 (sl (p.1 ++ [c])) (fun q hq b hl => Dn.of_lt h hp hq hl) m.length m rfl hm).1⟩
theorem Dn.grow {ly : List (List Bool × List Bool)} {i : Nat} {c : Bool} {p : List Bool × List Bool} (hp : ly[i]? = some p) {q : List Bool × List Bool} {b : Bool} (hd : Dn ly i c q b) (z : List (List Bool × List Bool)) : Dn (ly ++ z) (if c then i + 1 else i) (!c) q b := by
  have hi := (List.getElem?_eq_some_iff.mp hp).1
  cases c with
  | false =>
    rcases hd with h | ⟨h, _⟩
    · refine .inl ?_
      rw [show (if false = true then i + 1 else i) = i from rfl, List.take_append_of_le_length (by omega)]
      exact h
    · cases h
  | true =>
    refine .inl ?_
    rw [show (if true = true then i + 1 else i) = i + 1 from rfl, List.take_append_of_le_length (by omega), List.take_add_one, hp]
    rcases hd with h | ⟨_, h1, _⟩
    · exact List.mem_append_left _ h
    · rw [hp] at h1
      exact List.mem_append_right _ (by simp [Option.some.inj h1])
theorem Dn.own {ly : List (List Bool × List Bool)} {i : Nat} {c : Bool} {p : List Bool × List Bool} (hp : ly[i]? = some p) (z : List (List Bool × List Bool)) : Dn (ly ++ z) (if c then i + 1 else i) (!c) p c := by
  have hi := (List.getElem?_eq_some_iff.mp hp).1
  cases c with
  | false => exact .inr ⟨rfl, by rw [show (if false = true then i + 1 else i) = i from rfl, List.getElem?_append_left hi]; exact hp, rfl⟩
  | true =>
    refine .inl ?_
    rw [show (if true = true then i + 1 else i) = i + 1 from rfl, List.take_append_of_le_length (by omega), List.take_add_one, hp]
    exact List.mem_append_right _ (by simp)
theorem Dn.back {ly : List (List Bool × List Bool)} {i : Nat} {c : Bool} {p : List Bool × List Bool} (hp : ly[i]? = some p) {z : List (List Bool × List Bool)} {q : List Bool × List Bool} {b : Bool} (h : Dn (ly ++ z) (if c then i + 1 else i) (!c) q b) : Dn ly i c q b ∨ (q = p ∧ b = c) := by
  have hi := (List.getElem?_eq_some_iff.mp hp).1
  refine Dn.step hp ?_
  cases c with
  | false =>
    rcases h with h | ⟨h1, h2, h3⟩
    · refine .inl ?_
      rw [show (if false = true then i + 1 else i) = i from rfl, List.take_append_of_le_length (by omega)] at h
      exact h
    · refine .inr ⟨h1, ?_, h3⟩
      rw [show (if false = true then i + 1 else i) = i from rfl, List.getElem?_append_left hi] at h2
      exact h2
  | true =>
    rcases h with h | ⟨h, _⟩
    · refine .inl ?_
      rw [show (if true = true then i + 1 else i) = i + 1 from rfl, List.take_append_of_le_length (by omega)] at h
      exact h
    · cases h
theorem PtI.old {s1 s2 : List Stf} {L : Nat} {od : List (List Bool × List Bool)} {n : Nat} {c : Bool} (h : PtI s1 s2 L od n c) {p : List Bool × List Bool} (hp : od[n]? = some p) (ha : Al s1 s2 (p.1 ++ [c])) (hk : tl L (bodyF s1 (p.1 ++ [c])) ∈ od.map Prod.snd) : PtI s1 s2 L od (if c then n + 1 else n) (!c) := by
  have up : ∀ {q b}, Dn od n c q b → Dn od (if c then n + 1 else n) (!c) q b := fun hd => by have := Dn.grow hp hd []; rw [List.append_nil] at this; exact this
  refine ⟨h.st, h.nd, h.srt, h.hd, fun r hr => ?_, fun q b hd => ?_, h.len⟩
  · rcases h.ltd r hr with e | ⟨q, b, h1, h2⟩
    · exact .inl e
    · exact .inr ⟨q, b, up h1, h2⟩
  · rcases Dn.step hp hd with h1 | ⟨rfl, rfl⟩
    · exact h.ed q b h1
    · refine ⟨ha, ?_⟩
      obtain ⟨r, hr, e⟩ := List.mem_map.mp hk
      refine ⟨r, hr, e, ?_⟩
      rcases h.ltd r hr with e2 | ⟨q2, b2, h1, h2⟩
      · rw [e2]; exact sl_pos _
      · rw [h2]; exact Nat.le_of_lt (Dn.lt2 h hp h1)
theorem PtI.new {s1 s2 : List Stf} {L : Nat} {od : List (List Bool × List Bool)} {n : Nat} {c : Bool} (h : PtI s1 s2 L od n c) {p : List Bool × List Bool} (hp : od[n]? = some p) (ha : Al s1 s2 (p.1 ++ [c])) (hk : tl L (bodyF s1 (p.1 ++ [c])) ∉ od.map Prod.snd) : PtI s1 s2 L (od ++ [(p.1 ++ [c], tl L (bodyF s1 (p.1 ++ [c])))]) (if c then n + 1 else n) (!c) := by
  have hi := (List.getElem?_eq_some_iff.mp hp).1
  refine ⟨fun r hr => ?_, ?_, ?_, ?_, fun r hr => ?_, fun q b hd => ?_, fun j r hr => ?_⟩
  · rcases List.mem_append.mp hr with z | z
    · exact h.st r z
    · rw [List.mem_singleton.mp z]
      exact ⟨ha, rfl⟩
  · rw [List.map_append, List.nodup_append]
    exact ⟨h.nd, nodup1 _, fun x hx y hy z => hk (by
      have e : y = tl L (bodyF s1 (p.1 ++ [c])) := List.mem_singleton.mp hy
      rw [← e, ← z]; exact hx)⟩
  · refine List.pairwise_append.mpr ⟨h.srt, List.pairwise_singleton _ _, fun x hx y hy => ?_⟩
    rw [List.mem_singleton.mp hy]
    show sl x.1 < sl (p.1 ++ [c])
    rcases h.ltd x hx with e | ⟨q, b, h1, h2⟩
    · rw [e, sl_nil, sl_snoc]
      have := sl_pos p.1
      omega
    · rw [h2]; exact Dn.lt2 h hp h1
  · obtain ⟨r, hr, e⟩ := h.hd
    exact ⟨r, List.mem_append_left _ hr, e⟩
  · rcases List.mem_append.mp hr with z | z
    · rcases h.ltd r z with e | ⟨q, b, h1, h2⟩
      · exact .inl e
      · exact .inr ⟨q, b, Dn.grow hp h1 _, h2⟩
    · rw [List.mem_singleton.mp z]
      exact .inr ⟨p, c, Dn.own hp _, rfl⟩
  · rcases Dn.back hp hd with h1 | ⟨rfl, rfl⟩
    · obtain ⟨a, r, hr, e⟩ := h.ed q b h1
      exact ⟨a, r, List.mem_append_left _ hr, e⟩
    · exact ⟨ha, _, List.mem_append_right _ (List.mem_singleton.mpr rfl), rfl, Nat.le_refl _⟩
  · rcases Nat.lt_or_ge j od.length with z | z
    · rw [List.getElem?_append_left z] at hr
      exact h.len j r hr
    · rw [List.getElem?_append_right z] at hr
      have ej : j - od.length = 0 := by
        have := (List.getElem?_eq_some_iff.mp hr).1
        simp at this
        exact this
      rw [ej] at hr
      rw [← Option.some.inj hr]
      have := h.len n p hp
      show (p.1 ++ [c]).length ≤ j
      rw [List.length_append]
      show _ + 1 ≤ j
      omega
end U

set_option maxRecDepth 100000
set_option maxHeartbeats 4000000
set_option pp.maxSteps 400
namespace U
open PySem PySem.Spec PyProof.Rows
open L2 hiding Fun CX0 E0 pass0 Fun.binds
open C8 Lx SX StX
abbrev Pm := List Bool × List Bool
/-- pairs (standing, message) in a list -/
def OdT (H : Hp) (kb : Addr → Pm) (ps : List Addr) : Prop := ∀ t ∈ ps, H t = some (.tup [.str (W (kb t).2), .str (W (kb t).1)])
theorem OdT.same {H H' : Hp} {kb : Addr → Pm} {ps : List Addr} (h : OdT H kb ps) (e : Same H H') : OdT H' kb ps := fun t ht => e _ _ (h t ht)
def OdAt (H : Hp) (q : Addr) (od : List Pm) : Prop := ∃ (ps : List Addr) (kb : Addr → Pm), H q = some (.lst (ps.map V.ref)) ∧ OdT H kb ps ∧ od = ps.map kb
theorem OdAt.same {H H' : Hp} {q : Addr} {od : List Pm} (h : OdAt H q od) (s : Same H H') : OdAt H' q od := by
  obtain ⟨ps, kb, h1, h2, h3⟩ := h
  exact ⟨ps, kb, s _ _ h1, h2.same s, h3⟩
theorem OdAt.dk {H : Hp} {q : Addr} {od : List Pm} {d : Addr} {kvs : List (Key × V)} {o : HO} (h : OdAt H q od) (hd : H d = some (.dK kvs)) : OdAt (upd H d o) q od := by
  obtain ⟨ps, kb, h1, h2, h3⟩ := h
  exact ⟨ps, kb, by rw [upd_ne (ne_of h1 hd (by intro z; cases z))]; exact h1, fun t ht => by rw [upd_ne (ne_of (h2 t ht) hd (by intro z; cases z))]; exact h2 t ht, h3⟩
theorem od_push {H : Hp} {q z : Addr} {od : List Pm} {p : Pm} {ps : List Addr} {kb : Addr → Pm} (hq : H q = some (.lst (ps.map V.ref))) (hT : OdT H kb ps) (hl : od = ps.map kb) (nz : H z = none) :
    OdAt (upd (upd H z (.tup [.str (W p.2), .str (W p.1)])) q (.lst (ps.map V.ref ++ [.ref z]))) q (od ++ [p]) := by
  have zq : ∀ y ∈ ps, y ≠ z := fun y hy => ne_of_none (hT y hy) nz
  have nqz : z ≠ q := (ne_of_none hq nz).symm
  refine ⟨ps ++ [z], fun y => if y = z then p else kb y, by rw [upd_same, List.map_append]; rfl, fun y hy => ?_, ?_⟩
  · have ny : y ≠ q := by
      rcases List.mem_append.mp hy with h1 | h1
      · exact ne_of (hT y h1) hq (by intro z; cases z)
      · rw [List.mem_singleton.mp h1]; exact nqz
    rw [upd_ne ny]
    dsimp only
    rcases List.mem_append.mp hy with h1 | h1
    · rw [if_neg (zq y h1), upd_ne (zq y h1)]
      exact hT y h1
    · rw [List.mem_singleton.mp h1, if_pos rfl, upd_same]
  · rw [hl, List.map_append]
    congr 1
    · exact List.map_congr_left fun y hy => (if_neg (zq y hy)).symm
    · show [p] = [if z = z then p else kb z]
      rw [if_pos rfl]
def spParting (C : Addr) : Sp := fun vs H Q _ => ∃ (a c : Addr) (f1 : List Bool) (s1 : List Stf) (f2 : List Bool) (s2 : List Stf), vs = [.ref a, .ref c] ∧ RuAt C H a f1 s1 ∧ RuAt C H c f2 s2 ∧ StOk s1 ∧ StOk s2 ∧ OkN 39 s1 ∧ OkN 39 s2 ∧
  ∀ o H', Same H H' → PartR s1 s2 o → (∀ m, o = some m → m.length ≤ 2 ^ (max (longM s1) (longM s2) + 1)) → Q (oW o) H'
def spAlike (C : Addr) : Sp := fun vs H Q _ => ∃ (a c : Addr) (f1 : List Bool) (s1 : List Stf) (f2 : List Bool) (s2 : List Stf), vs = [.ref a, .ref c] ∧ RuAt C H a f1 s1 ∧ RuAt C H c f2 s2 ∧ StOk s1 ∧ StOk s2 ∧ OkN 39 s1 ∧ OkN 39 s2 ∧
  ∀ o H', Same H H' → PartR s1 s2 o → Q (.bl o.isNone) H'
section
variable {P : Program} {w : World} {K : PySem.W.Frag} {mg : Str → Option Value} {base : Heap}
theorem sc_parting : FnScope ["p", "q", "most", "known", "order", "at", "ahead", "message", "bit", "line", "more", "later"] ["p", "q"] (fnScope s_parting) := fnScope_by (by decide +kernel)
theorem cal_parting {f C : Addr} {fd : FuncData} {tB : Tok} (F : Def K mg "parting" s_parting f fd) (b : Binds K fd ["p", "q"] []) (T : Tx mg) (g_BITS : mg "BITS" = some (.str "01" tB))
    (c_put_behind : Cal P w K mg base 3 "put_behind" (spPutB C) []) (c_tail : Cal P w K mg base 1 "tail" spTail []) (p_longest : Prp P w K mg base 1 C "longest" (spLongest C)) : Cal P w K mg base 4 "parting" (spParting C) [] := by
  refine cal0 F b .nil sc_parting (fun vs H Q E h => ?_) (fun cdv A outer s H vs Q E hr h => ?_)
  · obtain ⟨_, _, _, _, _, _, rfl, _⟩ := h; rfl
  · obtain ⟨a, c, f1, s1, f2, s2, rfl, hA, hC, ok1, ok2, o1, o2, k⟩ := h
    refine ⟨_, (pss_cons (ps_set (i := 2) sc_parting.nd rfl (.inl rfl) (pe_callB (call_max2 rfl) (by rfl) T.b_max (by decide +kernel) (pa_cons (pe_callTy call_int1 (by rfl) T.b_int (by decide +kernel) (pa_cons (pe_pr p_longest hr (by decide) (pv 0)) pa_nil)) (pa_cons (pe_callTy call_int1 (by rfl) T.b_int (by decide +kernel) (pa_cons (pe_pr p_longest hr (by decide) (pv 1)) pa_nil)) pa_nil))))
    (pss_cons (ps_par3 (i := 3) (j := 4) (l := 5) (by rfl) sc_parting.nd rfl rfl rfl (by decide) (by decide) (by decide) rfl rfl rfl (pa_cons (pe_disp (pps_cons pe_str pe_bl pps_nil) (by rfl) (by rfl) (fun z => by cases z) (by decide)) (pa_cons (pe_lst (pa_cons (pe_tup (pa_cons pe_str (pa_cons pe_str pa_nil))) pa_nil)) (pa_cons pe_int pa_nil))) (by rfl))
    (pss_cons (ps_while PassesOwn.never (pt_cmpR op_lt (pv 5) (pe_callB call_len_seq (by rfl) T.b_len (by decide +kernel) (pa_cons (pv 4) pa_nil)) (nomark _))
    (pss_cons (ps_asg (pe_ix ix_list (pv 4) (pv 5) (fun _ _ => rfl)) (pg_tup rfl (pgs_cons (pg_name (i := 6) sc_parting.nd rfl (.inl rfl)) (pgs_cons (pg_name (i := 7) sc_parting.nd rfl (.inl rfl)) pgs_nil))))
    (pss_cons (ps_for PassesOwn.never rfl (pi_str (pe_glob (v := .str "01") (by rfl) g_BITS ⟨_, rfl⟩)) (pg_name (i := 8) sc_parting.nd rfl (.inl rfl))
    (pss_cons (ps_set (i := 9) sc_parting.nd rfl (.inl rfl) (pe_op op_add_str (pv 6) (pv 8)))
    (pss_cons (ps_set (i := 10) sc_parting.nd rfl (.inl rfl) (pe_c c_put_behind hr (by decide) rfl (pa_cons (pv 0) (pa_cons (pv 9) pa_nil))))
    (pss_cons (ps_if (pt_cmpR op_ne (pv 10) (pe_c c_put_behind hr (by decide) rfl (pa_cons (pv 1) (pa_cons (pv 9) pa_nil))) (nomark _)) (pss_one (ps_ret (pe_op op_add_str (pv 7) (pv 8)))) pss_nil)
    (pss_cons (ps_set (i := 11) sc_parting.nd rfl (.inl rfl) (pe_c c_tail hr (by decide) rfl (pa_cons (pe_op op_add_str (pv 9) (pv 10)) (pa_cons (pv 2) pa_nil))))
    (pss_one (ps_if (pt_cmp (pc_dnotin (hu_of hr) (pv 11) (pv 3))) (pss_cons (ps_dput (hu_of hr) (pv 3) (pv 11) pe_bl rfl)
    (pss_one (ps_expr (pe_bm PySem.F.plainAttrs_list PySem.F.slot_list_append PySem.F.type_list_append mt_append (pv 4) (pa_cons (pe_tup (pa_cons (pv 11) (pa_cons (pe_op op_add_str (pv 7) (pv 8)) pa_nil))) pa_nil))))) pss_nil)))))))
    (pss_one (ps_aug (i := 5) sc_parting.nd rfl (.inl rfl) pe_int ip_add)))))
    (pss_one (ps_ret pe_non))))), ?_⟩
    obtain ⟨da, ta, _, _, ha, _⟩ := id hA
    refine ⟨_, rfl, a, da, _, rfl, ha, a, f1, s1, rfl, hA, ok1.few, fun s hs => Nat.le_trans (ok1.l9 s hs) (by decide), fun G1 g1 => .inl ⟨_, rfl, ?_⟩⟩
    obtain ⟨dc, tc, _, _, hc, _⟩ := hC.same g1
    refine ⟨_, rfl, c, dc, _, rfl, hc, c, f2, s2, rfl, hC.same g1, ok2.few, fun s hs => Nat.le_trans (ok2.l9 s hs) (by decide), fun G2 g2 => .inl ⟨_, rfl, _, _, rfl, ?_⟩⟩
    have eL : (if ((longM s2 : Nat) : Int) > ((longM s1 : Nat) : Int) then ((longM s2 : Nat) : Int) else ((longM s1 : Nat) : Int)) = ((max (longM s1) (longM s2) : Nat) : Int) := by split <;> omega
    rw [eL]
    have lg1 := ok1.long
    have lg2 := ok2.long
    have h1 : ∀ s ∈ s1, s.1.length ≤ max (longM s1) (longM s2) := fun s hs => by have := longM_le hs; omega
    have h2 : ∀ s ∈ s2, s.1.length ≤ max (longM s1) (longM s2) := fun s hs => by have := longM_le hs; omega
    have L9 : max (longM s1) (longM s2) ≤ 9 := by omega
    generalize max (longM s1) (longM s2) = L at h1 h2 L9 k
    have hpw : 2 ^ (L + 1) ≤ 1024 := Nat.le_trans (Nat.pow_le_pow_right (by decide) (show L + 1 ≤ 10 by omega)) (by decide)
    have g12 := g1.trans g2
    -- known, order
    refine fun d nd => ⟨upd_same, [(.inr "", .bl true)], rfl, by decide, ?_⟩
    refine ⟨by show 2 ≤ sizeLine; decide, fun t0 nt0 => ⟨by show 1 ≤ sizeLine; decide, fun q nq0 => ⟨_, _, _, rfl, ?_⟩⟩⟩
    have e1 : mergeK [] [((.inr "" : Key), V.bl true)] = kst [[]] := by unfold kst; rw [List.map_cons, List.map_nil, ← W_nil]; rfl
    rw [e1] at nt0 nq0 ⊢
    have ndH : H d = none := g12.free nd
    have sd : Same H (upd (upd G2 d (.dK [])) d (.dK (kst [[]]))) := same_mut' (g12.trans (same_upd nd)) ndH
    have hd0 : upd (upd G2 d (.dK [])) d (.dK (kst [[]])) d = some (.dK (kst [[]])) := upd_same
    generalize upd (upd G2 d (.dK [])) d (.dK (kst [[]])) = H1 at nt0 nq0 sd hd0
    have st1 := same_upd (o := .tup [.str "", .str ""]) nt0
    have sq1 := same_upd (o := .lst [.ref t0]) nq0
    have hod0 : OdAt (upd (upd H1 t0 (.tup [.str "", .str ""])) q (.lst [.ref t0])) q [([], [])] := ⟨[t0], fun _ => ([], []), upd_same, fun t ht => by rw [List.mem_singleton.mp ht]; show _ = some (HO.tup [V.str (W []), V.str (W [])]); rw [← W_nil]; exact sq1 _ _ upd_same, rfl⟩
    have sS := (sd.trans st1).trans sq1
    have hd1 := sq1 _ _ (st1 _ _ hd0)
    have nqH : H q = none := (sd.trans st1).free nq0
    generalize upd (upd H1 t0 (.tup [.str "", .str ""])) q (.lst [.ref t0]) = H2 at hod0 sS hd1
    refine ⟨fun m σ H3 => ∃ (n : Nat) (od : List Pm) (v6 v7 v8 v9 v10 v11 : Option V), σ = [some (.ref a), some (.ref c), some (.int (L : Nat)), some (.ref d), some (.ref q), some (.int (n : Nat)), v6, v7, v8, v9, v10, v11] ∧ Same H H3 ∧ H3 d = some (.dK (kst (od.map Prod.snd))) ∧ OdAt H3 q od ∧ PtI s1 s2 L od n false ∧ n ≤ od.length ∧ n + m = 1100,
      ⟨1100, 0, [([], [])], none, none, none, none, none, none, rfl, sS, hd1, hod0, .start, Nat.zero_le _, rfl⟩, ?_⟩
    rintro m σ H3 ⟨n, od, v6, v7, v8, v9, v10, v11, rfl, s3, hd3, hq3, hI, hn, hm⟩
    have few := hI.few
    obtain ⟨ps, kb, hql, hT, eod⟩ := id hq3
    have lps : ps.length = od.length := by rw [eod, List.length_map]
    refine ⟨_, rfl, _, rfl, q, _, rfl, .inl (SqL.of hql), _, _, rfl, rfl, _, rfl, ?_⟩
    rw [List.length_map]
    by_cases hlt : n < od.length
    · refine iteDT (by omega) ?_
      refine ⟨fun σ' H' => ∃ m', m' < m ∧ ∃ (n : Nat) (od : List Pm) (v6 v7 v8 v9 v10 v11 : Option V), σ' = [some (.ref a), some (.ref c), some (.int (L : Nat)), some (.ref d), some (.ref q), some (.int (n : Nat)), v6, v7, v8, v9, v10, v11] ∧ Same H H' ∧ H' d = some (.dK (kst (od.map Prod.snd))) ∧ OdAt H' q od ∧ PtI s1 s2 L od n false ∧ n ≤ od.length ∧ n + m' = 1100, fun _ _ h => h, ?_⟩
      have hnp : ps[n]? = some ps[n] := List.getElem?_eq_getElem (by omega)
      generalize hy : ps[n]'(by omega) = y at hnp
      have hym := List.mem_of_getElem? hnp
      have hpn : od[n]? = some (kb y) := by rw [eod, List.getElem?_map, hnp]; rfl
      refine ⟨_, rfl, _, rfl, q, _, _, _, rfl, rfl, SqL.of hql, atI_nat (by rw [List.getElem?_map, hnp]; rfl), ?_⟩
      refine ⟨y, _, rfl, SqT.of (hT y hym), rfl, _, _, rfl, _, _, rfl, rfl, ?_⟩
      obtain ⟨⟨msg, st⟩, hkb⟩ : ∃ z, kb y = z := ⟨_, rfl⟩
      rw [hkb] at hpn ⊢
      have hst := (hI.st _ (List.mem_of_getElem? hpn)).2
      have hal := (hI.st _ (List.mem_of_getElem? hpn)).1
      have lmsg := hI.len n _ hpn
      dsimp only at hst hal lmsg
      have lst : st.length ≤ 9 := by rw [hst]; exact Nat.le_trans (tl_le _ _) L9
      have e01 : ("01" : Str) = W [false, true] := by decide +kernel
      refine ⟨_, rfl, for_it walk_str (fun j σ H6 => ∃ (od : List Pm) (v8 v9 v10 v11 : Option V), σ = [some (.ref a), some (.ref c), some (.int (L : Nat)), some (.ref d), some (.ref q), some (.int (n : Nat)), some (.str (W st)), some (.str (W msg)), v8, v9, v10, v11] ∧ Same H H6 ∧ H6 d = some (.dK (kst (od.map Prod.snd))) ∧ OdAt H6 q od ∧ PtI s1 s2 L od (if j = 2 then n + 1 else n) (decide (j = 1)) ∧ (j = 2 ∨ od[n]? = some (msg, st)) ∧ n < od.length)
        ⟨od, _, _, _, _, rfl, s3, hd3, hq3, hI, .inr hpn, hlt⟩ (fun _ _ _ _ _ => trivial) ?_ ?_⟩
      · rintro j x σ H6 H6' hj ⟨od, v8, v9, v10, v11, rfl, s6, hd6, hq6, hI6, hp6o, hl6⟩ ⟨rfl, ch, hch, rfl⟩
        rw [e01] at hch
        obtain ⟨bb, hbb, rfl⟩ := W_get hch
        have hj2 : j < 2 := (List.getElem?_eq_some_iff.mp hbb).1
        have ebb : bb = decide (j = 1) := by
          match j, hj2, hbb with
          | 0, _, h => exact (Option.some.inj h).symm
          | 1, _, h => exact (Option.some.inj h).symm
        have hp6 := hp6o.resolve_left (by omega)
        rw [if_neg (by omega : ¬ j = 2), ← ebb] at hI6
        have enx : (if j + 1 = 2 then n + 1 else n) = (if bb = true then n + 1 else n) ∧ decide (j + 1 = 1) = !bb := by
          match j, hj2 with
          | 0, _ => rw [ebb]; exact ⟨rfl, rfl⟩
          | 1, _ => rw [ebb]; exact ⟨rfl, rfl⟩
        have few6 := hI6.few
        have lms : (W msg).length = msg.length := W_len _
        have lbb : (⟨#[bt bb]⟩ : Str).length = 1 := W_len [bb]
        have lmb : W msg ++ (⟨#[bt bb]⟩ : Str) = W (msg ++ [bb]) := W_cat msg [bb]
        have lsb : W st ++ (⟨#[bt bb]⟩ : Str) = W (st ++ [bb]) := W_cat st [bb]
        have lsl : (st ++ [bb]).length = st.length + 1 := by rw [List.length_append]; rfl
        obtain ⟨x1, x2, i1, i2, l1, l2, hiff, htl⟩ := al_ins o1 o2 h1 h2 hal hst bb
        refine ⟨_, rfl, _, rfl, _, _, rfl, rfl, by rw [W_len, lbb]; exact sl_len (by omega), ?_⟩
        rw [lsb]
        refine ⟨_, rfl, _, rfl, a, f1, s1, st ++ [bb], x1, rfl, hA.same s6, by omega, by omega, i1, fun H7 s7 => ?_⟩
        have s67 := s6.trans s7
        refine ⟨_, rfl, _, rfl, _, rfl, c, f2, s2, st ++ [bb], x2, rfl, hC.same s67, by omega, by omega, i2, fun H8 s8 => ?_⟩
        have s68 := s67.trans s8
        have s78 := s7.trans s8
        refine ⟨rfl, _, rfl, ?_⟩
        have exx : decide (V.str (W x1) = V.str (W x2)) = decide (x1 = x2) := by
          rw [decide_eq_decide]
          exact ⟨fun z => W_inj (V.str.inj z), fun z => by rw [z]⟩
        rw [exx]
        by_cases hx : x1 = x2
        · refine iteBF (by rw [decide_eq_true hx]; rfl) ?_
          have hal2 := hiff.mpr hx
          refine ⟨_, rfl, _, rfl, _, _, rfl, rfl, by rw [W_len, W_len]; exact sl_len (by omega), ?_⟩
          rw [W_cat]
          refine ⟨_, rfl, st ++ [bb] ++ x1, L, rfl, by rw [List.length_append]; omega, ?_⟩
          rw [htl]
          have ltl : (tl L (bodyF s1 (msg ++ [bb]))).length ≤ 9 := Nat.le_trans (tl_le _ _) L9
          have hd8 := s78 _ _ hd6
          have hq8 := hq6.same s78
          refine ⟨_, rfl, _, rfl, d, _, rfl, DGet.k (k := .inr (W (tl L (bodyF s1 (msg ++ [bb]))))) hd8, _, rfl, ?_⟩
          by_cases nin : tl L (bodyF s1 (msg ++ [bb])) ∈ od.map Prod.snd
          · refine iteBF (by rw [val_in nin]; rfl) ?_
            refine ⟨od, _, _, _, _, rfl, s68, hd8, hq8, ?_, ?_, hl6⟩
            · rw [enx.1, enx.2]; exact hI6.old hp6 hal2 nin
            · match j, hj2 with
              | 0, _ => exact .inr hp6
              | 1, _ => exact .inl rfl
          · refine iteBT (by rw [val_out nin]; rfl) ?_
            have hnew := hI6.new hp6 hal2 nin
            refine ⟨_, rfl, _, rfl, d, _, rfl, DPut.k (k := .inr (W (tl L (bodyF s1 (msg ++ [bb]))))) hd8 (by unfold kst; rw [List.length_map, List.length_map]; exact sl_lt (by omega)), ?_⟩
            rw [put_out nin]
            generalize hth : tl L (bodyF s1 (msg ++ [bb])) = th at nin hnew ltl
            have s10 : Same H (upd H8 d (.dK (kst (od.map Prod.snd ++ [th])))) := same_mut' s68 ndH
            have hd10 : upd H8 d (.dK (kst (od.map Prod.snd ++ [th]))) d = some (.dK (kst (od.map Prod.snd ++ [th]))) := upd_same
            have hq10 := hq8.dk (o := .dK (kst (od.map Prod.snd ++ [th]))) hd8
            generalize upd H8 d (.dK (kst (od.map Prod.snd ++ [th]))) = H10 at s10 hd10 hq10
            obtain ⟨rs, kc, hr10, hTr, eod6⟩ := hq10
            have lrs : rs.length = od.length := by rw [eod6, List.length_map]
            refine ⟨_, rfl, .inl ⟨rfl, _, SqL.of hr10⟩, ?_⟩
            refine ⟨_, rfl, _, rfl, _, rfl, _, _, rfl, rfl, by rw [lms, lbb]; exact sl_len (by omega), ?_⟩
            rw [lmb]
            refine ⟨by show 2 ≤ sizeLine; decide, fun tt ntt => ?_⟩
            have stt := same_upd (o := .tup [.str (W th), .str (W (msg ++ [bb]))]) ntt
            refine ⟨q, _, _, rfl, rfl, stt _ _ hr10, by rw [List.length_map]; exact sl_lt (by omega), ?_⟩
            have hpush := od_push (p := (msg ++ [bb], th)) hr10 hTr eod6 ntt
            refine ⟨od ++ [(msg ++ [bb], th)], _, _, _, _, rfl, same_mut' (s10.trans stt) nqH, ?_, hpush, ?_, ?_, by rw [List.length_append]; omega⟩
            · rw [upd_ne (ne_of hd10 hr10 (by intro z; cases z)), List.map_append]
              exact stt _ _ hd10
            · rw [enx.1, enx.2]; exact hnew
            · match j, hj2 with
              | 0, _ => exact .inr (by rw [List.getElem?_append_left hl6]; exact hp6)
              | 1, _ => exact .inl rfl
        · refine iteBT (by rw [decide_eq_false hx]; rfl) ?_
          refine ⟨_, rfl, _, rfl, _, _, rfl, rfl, by rw [lms, lbb]; exact sl_len (by omega), ?_⟩
          rw [lmb]
          refine k (some (msg ++ [bb])) H8 s68 (hI6.hit o1 o2 h1 h2 hp6 fun z => hx (hiff.mp z)) fun m' hm' => ?_
          rw [← Option.some.inj hm', List.length_append]
          show _ + 1 ≤ _
          omega
      · rintro σ H6 ⟨od, v8, v9, v10, v11, rfl, s6, hd6, hq6, hI6, _, hl6⟩
        rw [e01, W_size] at hI6
        refine ⟨_, rfl, _, _, rfl, rfl, m - 1, by omega, n + 1, od, _, _, _, _, _, _, rfl, s6, hd6, hq6, hI6, hl6, by omega⟩
    · refine iteDF (by omega) ?_
      exact k none H3 s3 (hI.fin o1 o2 h1 h2 (by omega)) (fun m hm => by cases hm)
end
end U

set_option maxRecDepth 100000
set_option maxHeartbeats 4000000
/-! sorted of texts, any length -/
namespace SrtS
open PySem PySem.Spec PyProof.Rows L2
def rSortedSA (K : PySem.W.Frag) : List V → Hp → VK → Prop := fun vs H Q => ∃ (a : Addr) (xs : List Str), vs = [V.ref a] ∧ SqL K H a (xs.map V.str) ∧ xs.length ≤ sizeLine ∧
  ∀ (ys : List Str) (p : Addr), ys.Perm xs → sortedS ys = true → H p = none → Q (.ref p) (upd H p (.lst (ys.map V.str)))
theorem cr_sortedSA {X : Cx} : CallR X (.builtin "sorted") (rSortedSA X.K) := by
  intro pins s σ H vs us Q I r h
  obtain ⟨a, xs, rfl, hs, h64, q⟩ := h
  obtain ⟨its, rv, hl, _⟩ := I.list hs
  rw [Vals.ref1 r]
  have hlen0 := rv.length
  rw [List.length_map] at hlen0
  refine PyProof.Rows.sorted_strsAny hl.isList rv.strs (by rw [← hlen0]; exact h64) fun out ys h1 h2 h3 => ?_
  obtain ⟨ep, he'⟩ := PyProof.Rows.sortedAll_at s.heap its out
  have hlen : (ys.map V.str).length ≤ sizeLine := by rw [List.length_map, h2.length_eq]; exact h64
  exact ⟨.ref _, upd H (s.heap.objs.size + 1) (.lst (ys.map V.str)), I.laid (t' := s.toks) (fun _ _ => PyProof.Rows.sortedAll_old) (Nat.le_succ _) ⟨hlen, out.toList, ep, vals_of_strs h1, he'⟩, rfl, q ys _ h2 h3 (I.hok.fresh (Nat.le_succ _))⟩
end SrtS

set_option maxRecDepth 100000
set_option maxHeartbeats 4000000
set_option pp.maxSteps 400
namespace U
open PySem PySem.Spec PyProof.Rows
open L2 hiding Fun CX0 E0 pass0 Fun.binds
open C8 Lx SX StX
def spLaw (K : PySem.W.Frag) : Sp := fun vs H Q _ => ∃ (a : Addr) (ns : List Int), vs = [.ref a] ∧ SqL K H a (ns.map V.int) ∧ ns.length ≤ 63 ∧ ∀ H', Q (.bl true) H'
theorem sOk_cat {a b : Str} (ha : PyData.strOk a = true) (hb : PyData.strOk b = true) : PyData.strOk (a ++ b) = true := by
  unfold PyData.strOk at *
  rw [← Array.all_toList] at *
  have : (a ++ b).cps.toList = a.cps.toList ++ b.cps.toList := TL.tl_append a b
  rw [this, List.all_append, ha, hb]
  rfl
theorem dok_txt {zs : List Str} (h : ∀ z ∈ zs, PyData.strOk z = true) : DOk 1 (.tuple (zs.map PyData.str)) := dok_tup (n := 0) fun d hd => by
  obtain ⟨z, hz, rfl⟩ := List.mem_map.mp hd
  exact ⟨h z hz, Nat.le_refl _⟩
theorem strOk_small {z : Str} (h : PyData.strOk z = true) : (z.cps.toList.all fun c => decide (c < 16 ^ 8)) = true := by
  unfold PyData.strOk at h
  rw [← Array.all_toList] at h
  rw [List.all_eq_true] at h ⊢
  intro c hc
  have := of_decide_eq_true (h c hc)
  exact decide_eq_true (Nat.lt_trans this (by decide))
theorem txs_all {n : Nat} : ∀ {zs : List Str}, (∀ z ∈ zs, PyData.strOk z = true ∧ z.length ≤ n) → PyData.showableAll (zs.map PyData.str) = true ∧ PyData.hasDictAll (zs.map PyData.str) = false ∧ PyData.leavesShortAll 8 (zs.map PyData.str) = true ∧ PyData.weightAll (zs.map PyData.str) ≤ zs.length * (n + 1) ∧ PyData.depthAll (zs.map PyData.str) = 0
  | [], _ => ⟨rfl, rfl, rfl, Nat.zero_le _, rfl⟩
  | z :: r, h => by
    obtain ⟨a1, a2⟩ := h z List.mem_cons_self
    obtain ⟨b1, b2, b3, b4, b5⟩ := txs_all fun u hu => h u (List.mem_cons_of_mem _ hu)
    refine ⟨?_, ?_, ?_, ?_, ?_⟩
    · show (true && PyData.showableAll (r.map PyData.str)) = true
      rw [b1]; rfl
    · show (false || PyData.hasDictAll (r.map PyData.str)) = false
      rw [b2]; rfl
    · show ((z.cps.toList.all fun c => decide (c < 16 ^ 8)) && PyData.leavesShortAll 8 (r.map PyData.str)) = true
      rw [b3, strOk_small a1]; rfl
    · show z.cps.size + 1 + PyData.weightAll (r.map PyData.str) ≤ (r.length + 1) * (n + 1)
      have : z.cps.size ≤ n := a2
      rw [Nat.add_mul, Nat.one_mul]
      omega
    · show max 0 (PyData.depthAll (r.map PyData.str)) = 0
      rw [b5]; rfl
theorem txs_show {zs : List Str} (hl : zs.length ≤ 1000) (h : ∀ z ∈ zs, PyData.strOk z = true ∧ z.length ≤ 1000) : (PyData.tuple (zs.map PyData.str)).showable = true ∧ (PyData.tuple (zs.map PyData.str)).hasDict = false ∧ (PyData.tuple (zs.map PyData.str)).depth ≤ 64 ∧ (PyData.tuple (zs.map PyData.str)).shown.length ≤ sizeLine := by
  obtain ⟨a1, a2, a3, a4, a5⟩ := txs_all h
  refine ⟨a1, a2, ?_, PyData.shown_fits (B := 8) (by decide) (by decide) a3 ?_⟩
  · show PyData.depthAll (zs.map PyData.str) + 1 ≤ 64
    omega
  · show PyData.weightAll (zs.map PyData.str) ≤ 2 ^ 20
    refine Nat.le_trans a4 (Nat.le_trans (Nat.mul_le_mul hl (Nat.le_refl _)) (by decide))
theorem ruT1 (f p : List Bool) (b : Bool) : (((((("flag " : Str) ++ W f) ++ " put ") ++ W p) ++ ":") ++ W [b]) = ruT f [(p, b)] := by
  refine TL.ext_tl ?_
  have h1 : TL.tl ("flag " : Str) = [102, 108, 97, 103, 32] := by decide +kernel
  have h2 : TL.tl (" put " : Str) = [32, 112, 117, 116, 32] := by decide +kernel
  have h3 : TL.tl ("flag" : Str) = [102, 108, 97, 103] := by decide +kernel
  have h4 : TL.tl ("put" : Str) = [112, 117, 116] := by decide +kernel
  rw [TL.tl_append, TL.tl_append, TL.tl_append, TL.tl_append, TL.tl_append, h1, h2]
  have e : TL.tl (ruT f [(p, b)]) = TL.joinL (TL.tl (" " : Str)) ((ruWs f [(p, b)]).map TL.tl) := by unfold ruT; rw [TL.join_eq]; exact TL.tl_join _ _
  have e2 : ruWs f [(p, b)] = [("flag" : Str), W f, ("put" : Str), stT (p, b)] := rfl
  have e3 : TL.tl (stT (p, b)) = TL.tl (W p) ++ TL.tl (":" : Str) ++ TL.tl (W [b]) := by unfold stT; rw [TL.tl_append, TL.tl_append]
  rw [e, e2, sp_tl]
  simp only [List.map_cons, List.map_nil, TL.joinL, h3, h4, e3, List.append_assoc, List.cons_append, List.nil_append]
theorem sOk_ruT (f p : List Bool) (b : Bool) : PyData.strOk (ruT f [(p, b)]) = true := by
  rw [← ruT1]
  exact sOk_cat (sOk_cat (sOk_cat (sOk_cat (sOk_cat (by decide +kernel) (strOk_W _)) (by decide +kernel)) (strOk_W _)) (by decide +kernel)) (strOk_W _)
theorem ruT_len1 {f p : List Bool} {b : Bool} (hf : f.length ≤ 9) (hp : p.length ≤ 9) : (ruT f [(p, b)]).length ≤ 100 := by
  rw [← ruT1, lenC, lenC, lenC, lenC, lenC, W_len, W_len, W_len, show ("flag " : Str).length = 5 by decide +kernel, show (" put " : Str).length = 5 by decide +kernel, show (":" : Str).length = 1 by decide +kernel]
  show _ + 1 ≤ 100
  omega
theorem PrsAt.up {b : Addr} {H H' : Hp} {l : Addr} {ps : List Pr2} (h : PrsAt H l ps) (hn : l ≠ b) (hb : Box H b) (u : Up b H H') : PrsAt H' l ps := by
  obtain ⟨qs, kb, h1, h2, h3⟩ := h
  exact ⟨qs, kb, h1.imp (fun e => u.1 _ _ e hn) (fun e => u.1 _ _ e hn), fun q hq => u.1 _ _ (h2 q hq) (hb.neT (h2 q hq)), h3⟩
theorem Stl.upB {b : Addr} {H H' : Hp} {l : Addr} {ss : List Stf} (h : Stl H l ss) (hn : l ≠ b) (hb : Box H b) (u : Up b H H') : Stl H' l ss := by
  obtain ⟨ps, kb, h1, h2, h3⟩ := h
  exact ⟨ps, kb, u.1 _ _ h1 hn, fun q hq => u.1 _ _ (h2 q hq) (hb.neT (h2 q hq)), h3⟩
theorem Stl.ne1 {b : Addr} {H : Hp} {l : Addr} {s : Stf} (h : Stl H l [s]) (hb : Box H b) : l ≠ b := by
  obtain ⟨ps, kb, h1, h2, h3⟩ := h
  obtain ⟨x, y, e⟩ := hb
  intro z
  rw [z, e] at h1
  have h1 := HO.lst.inj (Option.some.inj h1)
  cases ps with
  | nil => cases h1
  | cons q r => cases (List.cons.inj h1).1
theorem sgls_some {n : Nat} (h : 1 ≤ n) : ((([false], true) : Stf)) ∈ (sgls n).filter okB := by
  refine List.mem_filter.mpr ⟨?_, by decide⟩
  unfold sgls
  exact List.mem_flatMap.mpr ⟨0, List.mem_range.mpr h, by decide⟩
theorem f2_mem {α β : Type} {R : α → β → Prop} {l : List α} {m : List β} (h : F2 R l m) {a : α} (ha : a ∈ l) : ∃ b ∈ m, R a b := by
  obtain ⟨i, hi⟩ := List.getElem?_of_mem ha
  obtain ⟨b, hb, hr⟩ := f2_get h hi
  exact ⟨b, List.mem_of_getElem? hb, hr⟩
/-- the pairs so far -/
def PrX (H : Hp) (pl : Addr) (prs : List Pr2) : Prop := ∃ (qs : List Addr) (kb : Addr → Pr2), H pl = some (.lst (qs.map V.ref)) ∧ (∀ q ∈ qs, H q = some (.tup [.str (W (kb q).1), .str (W (kb q).2)])) ∧ prs = qs.map kb
theorem PrX.at {H : Hp} {pl : Addr} {prs : List Pr2} (h : PrX H pl prs) : PrsAt H pl prs := by
  obtain ⟨qs, kb, h1, h2, h3⟩ := h
  exact ⟨qs, kb, .inl h1, h2, h3⟩
theorem PrX.up {b : Addr} {H H' : Hp} {l : Addr} {ps : List Pr2} (h : PrX H l ps) (hn : l ≠ b) (hb : Box H b) (u : Up b H H') : PrX H' l ps := by
  obtain ⟨qs, kb, h1, h2, h3⟩ := h
  exact ⟨qs, kb, u.1 _ _ h1 hn, fun q hq => u.1 _ _ (h2 q hq) (hb.neT (h2 q hq)), h3⟩
theorem PrX.push {H : Hp} {pl z : Addr} {prs : List Pr2} {p : Pr2} (h : PrX H pl prs) (nz : H z = none) : ∃ xs : List V, upd H z (.tup [.str (W p.1), .str (W p.2)]) pl = some (.lst xs) ∧ xs.length = prs.length ∧ PrX (upd (upd H z (.tup [.str (W p.1), .str (W p.2)])) pl (.lst (xs ++ [.ref z]))) pl (prs ++ [p]) := by
  obtain ⟨qs, kb, h1, h2, h3⟩ := h
  have s := same_upd (o := .tup [.str (W p.1), .str (W p.2)]) nz
  have hp := s _ _ h1
  have hz : z ∉ qs := fun hm => by rw [h2 z hm] at nz; cases nz
  have ne : ∀ {b : Addr} {zs : List V}, upd H z (.tup [.str (W p.1), .str (W p.2)]) b = some (.tup zs) → upd (upd H z (.tup [.str (W p.1), .str (W p.2)])) pl (.lst (qs.map V.ref ++ [.ref z])) b = some (.tup zs) := fun e => by rw [upd_ne (ne_of e hp (by intro z; cases z))]; exact e
  refine ⟨qs.map V.ref, hp, by rw [h3, List.length_map, List.length_map], qs ++ [z], fun u => if u = z then p else kb u, by rw [upd_same, List.map_append]; rfl, fun u hu => ?_, ?_⟩
  · rcases List.mem_append.mp hu with m | m
    · have nu : u ≠ z := fun e => hz (e ▸ m)
      dsimp only
      rw [if_neg nu]
      exact ne (s _ _ (h2 u m))
    · have e := List.mem_singleton.mp m
      subst e
      dsimp only
      rw [if_pos rfl]
      exact ne upd_same
  · rw [h3, List.map_append]
    congr 1
    · refine List.map_congr_left fun u hu => ?_
      rw [if_neg (fun e : u = z => hz (e ▸ hu))]
    · show [p] = [if z = z then p else kb z]
      rw [if_pos rfl]
theorem take_filterQ {α : Type} {p : α → Bool} {l : List α} {i : Nat} {x : α} (h : l[i]? = some x) : (l.take (i + 1)).filter p = (l.take i).filter p ++ (if p x then [x] else []) := by
  rw [List.take_add_one, h, List.filter_append]
  congr 1
  show [x].filter p = _
  by_cases c : p x = true
  · rw [List.filter_cons_of_pos c, if_pos c]; rfl
  · rw [List.filter_cons_of_neg c, if_neg c]; rfl
theorem take_snocQ {α : Type} {ws : List α} {i : Nat} {u : α} (hu : ws[i]? = some u) : ws.take (i + 1) = ws.take i ++ [u] := by rw [List.take_add_one, hu]; rfl
theorem eqv_onesQ (ds : List PyData) : PyData.eqv (.list ds) (.list []) = ds.isEmpty := by
  cases ds with
  | nil => simp [PyData.eqv, PyData.eqvAll]
  | cons w r => simp [PyData.eqv, PyData.eqvAll]
theorem ones_dpQ {K : PySem.W.Frag} {H : Hp} : ∀ m : Nat, DpAll K H (List.replicate m (V.int 1)) (List.replicate m (PyData.int 1))
  | 0 => .nil
  | m + 1 => .cons (.int _) (ones_dpQ m)
theorem ones_dokQ (m : Nat) : DOk 1 (.list (List.replicate m (PyData.int 1))) := dok_list (n := 0) fun d hd => by
  rw [(List.mem_replicate.mp hd).2]
  exact ⟨rfl, Nat.le_refl _⟩
theorem StOk.oneQ {s : Stf} (h0 : s.1 ≠ []) (h : s.1.length ≤ 4) : StOk [s] := by
  refine ⟨by show 1 ≤ 1000; decide, fun u hu => by rw [List.mem_singleton.mp hu]; exact h0, ?_, List.pairwise_singleton _ _⟩
  show max s.1.length 0 ≤ 9
  omega
def prP (p : Pr2) : PyData := .tuple [.str (W p.1), .str (W p.2)]
theorem prs_dpQ {K : PySem.W.Frag} {H : Hp} {kb : Addr → Pr2} : ∀ {qs : List Addr}, (∀ q ∈ qs, H q = some (.tup [.str (W (kb q).1), .str (W (kb q).2)])) → DpAll K H (qs.map V.ref) ((qs.map kb).map prP)
  | [], _ => .nil
  | q :: r, h => .cons (.tup (SqT.of (h q List.mem_cons_self)) (.cons (.str _) (.cons (.str _) .nil))) (prs_dpQ fun t ht => h t (List.mem_cons_of_mem _ ht))
theorem prs_dokQ (ps : List Pr2) : DOk 2 (.list (ps.map prP)) := dok_list (n := 1) fun e he => by
  obtain ⟨p, _, rfl⟩ := List.mem_map.mp he
  exact dok_tup (n := 0) fun d hd => by
    simp only [List.mem_cons, List.not_mem_nil, or_false] at hd
    rcases hd with rfl | rfl <;> exact dok_str _
theorem refQ {n : Nat} {d : PyData} (h : DOk n d) : PyData.eqv d d = true := SeqAt.eqv_refl d h.1
theorem txs_dpQ {K : PySem.W.Frag} {H : Hp} : ∀ zs : List Str, DpAll K H (zs.map V.str) (zs.map PyData.str)
  | [] => .nil
  | z :: r => .cons (.str z) (txs_dpQ r)
theorem PrX.same {H H' : Hp} {l : Addr} {ps : List Pr2} (h : PrX H l ps) (s : Same H H') : PrX H' l ps := by
  obtain ⟨qs, kb, h1, h2, h3⟩ := h
  exact ⟨qs, kb, s _ _ h1, fun q hq => s _ _ (h2 q hq), h3⟩
theorem prs_cat {H H3 : Hp} {qs : List Addr} {kb : Addr → Pr2} {z lc : Addr} {p : Pr2} (h2 : ∀ q ∈ qs, H q = some (.tup [.str (W (kb q).1), .str (W (kb q).2)])) (nz : H z = none) (s : Same H H3) (hz : H3 z = some (.tup [.str (W p.1), .str (W p.2)])) (hl : H3 lc = some (.lst (qs.map V.ref ++ [V.ref z]))) : PrsAt H3 lc (qs.map kb ++ [p]) := by
  have zq : z ∉ qs := fun m => by rw [h2 z m] at nz; cases nz
  refine ⟨qs ++ [z], fun u => if u = z then p else kb u, .inl (by rw [hl, List.map_append]; rfl), fun u hu => ?_, ?_⟩
  · rcases List.mem_append.mp hu with m | m
    · have nu : u ≠ z := fun e => zq (e ▸ m)
      dsimp only
      rw [if_neg nu]
      exact s _ _ (h2 u m)
    · have e := List.mem_singleton.mp m
      subst e
      dsimp only
      rw [if_pos rfl]
      exact hz
  · rw [List.map_append]
    congr 1
    · refine List.map_congr_left fun u hu => ?_
      rw [if_neg (fun e : u = z => zq (e ▸ hu))]
    · show [p] = [if z = z then p else kb z]
      rw [if_pos rfl]
theorem inV_txt (z : Str) : ∀ ys : List Str, inV (.str z) (ys.map V.str) = decide (z ∈ ys)
  | [] => by simp [inV]
  | y :: r => by
    have ih := inV_txt z r
    unfold inV at ih ⊢
    rw [List.map_cons, List.any_cons, ih]
    have e : eqV (.str y) (.str z) = (y == z) := by simp [eqV]
    rw [e]
    by_cases c : y = z
    · subst c; simp
    · have c' : ¬ z = y := fun h => c h.symm
      simp [c, c']
theorem sl_txt {K : PySem.W.Frag} {H : Hp} {t : Addr} {ys : List Str} {lo hi : Option Int} {Q : VK} (h : H t = some (.tup (ys.map V.str))) (k : ∀ (p : Addr) (zs : List Str) (H' : Hp), Same H H' → H' p = some (.tup (zs.map V.str)) → (∀ z ∈ zs, z ∈ ys) → Q (.ref p) H') : rSlA K (.ref t) lo hi H Q := by
  refine ⟨t, _, rfl, SqT.of h, fun _ => k t ys H (Same.refl _) h (fun _ h => h), fun _ p np => ?_⟩
  unfold cutV
  rw [← List.map_drop, ← List.map_take]
  exact k p _ _ (same_upd np) upd_same fun z hz => List.mem_of_mem_drop (List.mem_of_mem_take hz)
theorem mem_cou {n : Nat} {ps : List Pr2} {s : Stf} : s ∈ couL n ps ↔ s ∈ (sgls n).filter okB ∧ ∀ p ∈ ps, bodyF [s] p.1 = p.2 := by
  unfold couL fitB
  rw [List.mem_filter, List.all_eq_true]
  simp only [decide_eq_true_eq]
theorem cou_nil (n : Nat) : couL n [] = (sgls n).filter okB := List.filter_eq_self.mpr fun s _ => rfl
theorem cou_sub {n : Nat} {ps : List Pr2} {p : Pr2} {s : Stf} (h : s ∈ couL n (ps ++ [p])) : s ∈ couL n ps := by
  obtain ⟨a, b⟩ := mem_cou.mp h
  exact mem_cou.mpr ⟨a, fun q hq => b q (List.mem_append_left _ hq)⟩
theorem dok_txl {zs : List Str} (h : ∀ z ∈ zs, PyData.strOk z = true) : DOk 1 (.list (zs.map PyData.str)) := dok_list (n := 0) fun d hd => by
  obtain ⟨z, hz, rfl⟩ := List.mem_map.mp hd
  exact ⟨h z hz, Nat.le_refl _⟩
section
variable {P : Program} {w : World} {K : PySem.W.Frag} {mg : Str → Option Value} {base : Heap}
theorem sc_law : FnScope ["_law_script", "_law_k", "_law_box", "_law_turn", "_law_flag", "_law_size", "_law_every", "_law_home", "_law_pairs", "_law_before", "_law_one", "_law_more", "_law_message", "_law_found", "_law_text", "_law_line", "_law_row", "_law_left"] ["_law_script"] (fnScope s_law) := fnScope_by (by decide +kernel)
theorem ok_law {f C : Addr} {fd : FuncData} (F : Def K mg "law" s_law f fd) (T : Tx mg) (RT : RuT K C) (c_l_seed : Cal P w K mg base 1 "_law_seed" (spSeed K) []) (c_l_choose : Cal P w K mg base 1 "_law_choose" spChoose []) (c_l_one_of : Cal P w K mg base 2 "_law_one_of" spOneOf []) (c_l_word : Cal P w K mg base 3 "_law_word" spWordN []) (c_l_singles : Cal P w K mg base 6 "_law_singles" spLSgl [])
    (m_Rule2 : Mak P w K mg base 5 "Rule" C (spRuInit K C) []) (cm_Rule_read : CMt P w K mg base 7 "Rule" C "read" (spRuRead C)) (c_Rule_str : Met P w K mg base 1 C "__str__" (spRuStr C) []) (c_body : Cal P w K mg base 4 "body" (spBody C) []) (c_parting : Cal P w K mg base 4 "parting" (spParting C) []) (c_could_be : Cal P w K mg base 10 "could_be" (spCould C) []) :
    FnOk P w K mg base CX0 11 f fd ["_law_script"] (spLaw K) := by
  refine fn0 F.fn sc_law (fun vs H Q E h => ?_) (fun cdv A outer s H vs Q E hr h => ?_)
  · obtain ⟨_, _, rfl, _⟩ := h; rfl
  · obtain ⟨a, ns, rfl, hS, hlen, k⟩ := h
    refine ⟨_, (pss_cons (ps_for PassesOwn.never rfl (pi_range1 (by rfl) T.b_range (pa_cons (pe_callB (call_max2 rfl) (by rfl) T.b_max (by decide +kernel) (pa_cons pe_int (pa_cons (pe_callB (call_min2 rfl) (by rfl) T.b_min (by decide +kernel) (pa_cons pe_int (pa_cons (pe_callB call_len_seq (by rfl) T.b_len (by decide +kernel) (pa_cons (pv 0) pa_nil)) pa_nil))) pa_nil))) pa_nil)) (pg_name (i := 1) sc_law.nd rfl (.inl rfl))
    (pss_cons (ps_set (i := 2) sc_law.nd rfl (.inl rfl) (pe_c c_l_seed hr (by decide) rfl (pa_cons (pv 0) (pa_cons (pv 1) pa_nil))))
    (pss_one (ps_for PassesOwn.never rfl (pi_range1 (by rfl) T.b_range (pa_cons pe_int pa_nil)) (pg_name (i := 3) sc_law.nd rfl (.inl rfl))
    (pss_cons (ps_par (i := 4) (j := 5) (by rfl) sc_law.nd rfl rfl (by decide) rfl rfl (pa_cons (pe_c c_l_word hr (by decide) rfl (pa_cons (pv 2) (pa_cons (pe_op op_add pe_int (pe_c c_l_choose hr (by decide) rfl (pa_cons (pv 2) (pa_cons pe_int pa_nil)))) pa_nil))) (pa_cons (pe_op op_add pe_int (pe_c c_l_choose hr (by decide) rfl (pa_cons (pv 2) (pa_cons pe_int pa_nil)))) pa_nil)) (by rfl))
    (pss_cons (ps_set (i := 6) sc_law.nd rfl (.inl rfl) (pe_c c_l_singles hr (by decide) rfl (pa_cons (pv 5) pa_nil)))
    (pss_cons (ps_par (i := 7) (j := 8) (by rfl) sc_law.nd rfl rfl (by decide) rfl rfl (pa_cons (pe_mk m_Rule2 hr (by decide) rfl (pa_cons (pv 4) (pa_cons (pe_c c_l_one_of hr (by decide) rfl (pa_cons (pv 2) (pa_cons (pv 6) pa_nil))) pa_nil))) (pa_cons (pe_lst pa_nil) pa_nil)) (by rfl))
    (pss_cons (ps_set (i := 9) sc_law.nd rfl (.inr rfl) (pe_c c_could_be hr (by decide) rfl (pa_cons (pv 4) (pa_cons (pv 5) (pa_cons (pe_lst pa_nil) pa_nil)))))
    (pss_cons (ps_if (PW.pt (pw_or (pt_cmpR op_ne (pe_callB call_len_seq (by rfl) T.b_len (by decide +kernel) (pa_cons (pv 9) pa_nil)) (pe_callB call_len_seq (by rfl) T.b_len (by decide +kernel) (pa_cons (pv 6) pa_nil)) (nomark _)) (pw_or1 (pt_cmpR (op_neD hr.units) (pe_callTy call_list_of (by rfl) T.b_list (by decide +kernel) (pa_cons (pv 9) pa_nil)) (pe_callB cr_sortedS (by rfl) T.b_sorted (by decide +kernel) (pa_cons (pe_lc (own := [("_law_one", 10)]) (g := gName 10) (by rfl) sc_law.nd (pi_tup (pv 9)) (blkOk_by (own := [("_law_one", 10)]) (N := ["_law_script", "_law_k", "_law_box", "_law_turn", "_law_flag", "_law_size", "_law_every", "_law_home", "_law_pairs", "_law_before", "_law_one", "_law_more", "_law_message", "_law_found", "_law_text", "_law_line", "_law_row", "_law_left"]) (sc := fnScope s_law) (by decide +kernel)) (fun _ _ _ _ _ => (pg_name (i := 10) sc_law.nd rfl (.inl rfl))) (fun _ _ _ _ _ => pts_nil) (fun _ _ _ _ _ => (pe_callTy SkE.call_str_str (by rfl) T.b_str (by decide +kernel) (pa_cons (pv 10) pa_nil)))) pa_nil)) (nomark _))))) (pss_one (ps_ret pe_bl)) pss_nil)
    (pss_cons (ps_for PassesOwn.never rfl (pi_range1 (by rfl) T.b_range (pa_cons pe_int pa_nil)) (pg_name (i := 11) sc_law.nd rfl (.inl rfl))
    (pss_cons (ps_set (i := 12) sc_law.nd rfl (.inl rfl) (pe_c c_l_word hr (by decide) rfl (pa_cons (pv 2) (pa_cons (pe_op op_add pe_int (pe_c c_l_choose hr (by decide) rfl (pa_cons (pv 2) (pa_cons pe_int pa_nil)))) pa_nil))))
    (pss_cons (ps_expr (pe_bm PySem.F.plainAttrs_list PySem.F.slot_list_append PySem.F.type_list_append mt_append (pv 8) (pa_cons (pe_tup (pa_cons (pv 12) (pa_cons (pe_c c_body hr (by decide) rfl (pa_cons (pv 7) (pa_cons (pv 12) pa_nil))) pa_nil))) pa_nil)))
    (pss_cons (ps_set (i := 13) sc_law.nd rfl (.inl rfl) (pe_c c_could_be hr (by decide) rfl (pa_cons (pv 4) (pa_cons (pv 5) (pa_cons (pv 8) pa_nil)))))
    (pss_cons (ps_if (PW.pt (pw_or (pt_cmpR op_notIn_seq (pe_callTy (call_str_own c_Rule_str hr (by decide)) (by rfl) T.b_str (by decide +kernel) (pa_cons (pv 7) pa_nil)) (pv 13) (by with_unfolding_all rfl)) (pw_or1 (pt_cmpR (op_neD hr.units) (pe_lc (own := [("_law_text", 14)]) (g := gName 14) (by rfl) sc_law.nd (pi_tup (pv 13)) (blkOk_by (own := [("_law_text", 14)]) (N := ["_law_script", "_law_k", "_law_box", "_law_turn", "_law_flag", "_law_size", "_law_every", "_law_home", "_law_pairs", "_law_before", "_law_one", "_law_more", "_law_message", "_law_found", "_law_text", "_law_line", "_law_row", "_law_left"]) (sc := fnScope s_law) (by decide +kernel)) (fun _ _ _ _ _ => (pg_name (i := 14) sc_law.nd rfl (.inl rfl))) (fun _ _ _ _ _ => (pts_one (pt_cmpR (show OpR _ (compareOp .NotIn) (rIn K true) from op_notIn_seq) (pv 14) (pv 9) (by with_unfolding_all rfl)))) (fun _ _ _ _ _ => (pv 14))) (pe_lst pa_nil) (nomark _))))) (pss_one (ps_ret pe_bl)) pss_nil)
    (pss_cons (ps_for PassesOwn.never rfl (pi_tup (pe_slice sl_tupA (pv 13) po_none (po_some pe_int))) (pg_name (i := 14) sc_law.nd rfl (.inr rfl))
    (pss_one (ps_if (pt_cmpR (op_neD hr.units) (pe_lc (own := [("_law_one", 10), ("_law_line", 15)]) (g := gTup K 2 (gCons (gName 10) (gCons (gName 15) gNil))) (by rfl) sc_law.nd (pi_list (pv 8)) (blkOk_by (own := [("_law_one", 10), ("_law_line", 15)]) (N := ["_law_script", "_law_k", "_law_box", "_law_turn", "_law_flag", "_law_size", "_law_every", "_law_home", "_law_pairs", "_law_before", "_law_one", "_law_more", "_law_message", "_law_found", "_law_text", "_law_line", "_law_row", "_law_left"]) (sc := fnScope s_law) (by decide +kernel)) (fun _ _ _ _ _ => (pg_tup rfl (pgs_cons (pg_name (i := 10) sc_law.nd rfl (.inl rfl)) (pgs_cons (pg_name (i := 15) sc_law.nd rfl (.inl rfl)) pgs_nil)))) (fun _ _ _ _ _ => (pts_one (pt_cmpR op_ne (pe_c c_body hr (by decide) rfl (pa_cons (pe_cm (pl := _) cm_Rule_read hr (by decide) rfl (pa_cons (pv 14) pa_nil)) (pa_cons (pv 10) pa_nil))) (pv 15) (nomark _)))) (fun _ _ _ _ _ => pe_int)) (pe_lst pa_nil) (nomark _)) (pss_one (ps_ret pe_bl)) pss_nil)))
    (pss_one (ps_set (i := 9) sc_law.nd rfl (.inr rfl) (pv 13)))))))))
    (pss_one (ps_for PassesOwn.never rfl (pi_tup (pe_slice sl_tupA (pv 9) po_none (po_some pe_int))) (pg_name (i := 14) sc_law.nd rfl (.inr rfl))
    (pss_cons (ps_set (i := 16) sc_law.nd rfl (.inl rfl) (pe_c c_parting hr (by decide) rfl (pa_cons (pv 7) (pa_cons (pe_cm (pl := _) cm_Rule_read hr (by decide) rfl (pa_cons (pv 14) pa_nil)) pa_nil))))
    (pss_one (ps_if (pt_cmpR op_notN (pv 16) pe_non (nomark _)) (pss_cons (ps_set (i := 17) sc_law.nd rfl (.inl rfl) (pe_c c_could_be hr (by decide) rfl (pa_cons (pv 4) (pa_cons (pv 5) (pa_cons (pe_op op_cat (pv 8) (pe_lst (pa_cons (pe_tup (pa_cons (pv 16) (pa_cons (pe_c c_body hr (by decide) rfl (pa_cons (pv 7) (pa_cons (pv 16) pa_nil))) pa_nil))) pa_nil))) pa_nil)))))
    (pss_one (ps_if (PW.pt (pw_or (pt_cmpR op_in_seq (pv 14) (pv 17) (by with_unfolding_all rfl)) (pw_or1 (pt_cmpR op_notIn_seq (pe_callTy (call_str_own c_Rule_str hr (by decide)) (by rfl) T.b_str (by decide +kernel) (pa_cons (pv 7) pa_nil)) (pv 17) (by with_unfolding_all rfl))))) (pss_one (ps_ret pe_bl)) pss_nil))) pss_nil)))))))))))))))
    (pss_one (ps_ret pe_bl))), ?_⟩
    refine ⟨_, rfl, a, _, rfl, .inl hS, _, _, rfl, _, _, rfl, _, rfl, by split <;> split <;> omega, by rw [List.length_map]; split <;> split <;> omega, ?_⟩
    refine for_it walk_range (fun i σ H2 => ∃ v1 v2 v3 v4 v5 v6 v7 v8 v9 v10 v11 v12 v13 v14 v15 v16 v17 : Option V, σ = [some (.ref a), v1, v2, v3, v4, v5, v6, v7, v8, v9, v10, v11, v12, v13, v14, v15, v16, v17] ∧ Same H H2) ⟨_, _, _, _, _, _, _, _, _, _, _, _, _, _, _, _, _, rfl, Same.refl _⟩ (fun _ _ _ _ _ => trivial) ?_ ?_
    · rintro i x σ H2' H2 hi ⟨v1, v2, v3, v4, v5, v6, v7, v8, v9, v10, v11, v12, v13, v14, v15, v16, v17, rfl, s2⟩ ⟨rfl, rfl⟩
      refine ⟨_, rfl, _, rfl, a, ns, i, (by show [V.ref a, V.int (0 + (i : Int))] = _; rw [Int.zero_add]), s2.seq hS, fun bx H1 nb s1 hb => ?_⟩
      refine ⟨_, rfl, by decide, by decide, for_it walk_range (fun j σ H3 => ∃ v1 v3 v4 v5 v6 v7 v8 v9 v10 v11 v12 v13 v14 v15 v16 v17 : Option V, σ = [some (.ref a), v1, some (.ref bx), v3, v4, v5, v6, v7, v8, v9, v10, v11, v12, v13, v14, v15, v16, v17] ∧ Up bx H1 H3) ⟨_, _, _, _, _, _, _, _, _, _, _, _, _, _, _, _, rfl, Up.refl hb⟩ (fun _ _ _ _ _ => trivial) ?_ ?_⟩
      · rintro j y σ H3' H3 hj ⟨v1, v3, v4, v5, v6, v7, v8, v9, v10, v11, v12, v13, v14, v15, v16, v17, rfl, u3⟩ ⟨rfl, rfl⟩
        refine ⟨_, rfl, _, rfl, bx, 4, rfl, u3.2, by decide, by decide, fun d H4 d0 d4 u4 => ?_⟩
        obtain ⟨e, rfl⟩ := Int.eq_ofNat_of_zero_le d0
        refine ⟨_, _, rfl, rfl, bx, 2 + e, by show [V.ref bx, V.int (2 + (e : Int))] = _; rw [show (2 : Int) + (e : Int) = ((2 + e : Nat) : Int) by omega], u4.2, by omega, fun fl H5 lfl u5 => ?_⟩
        refine ⟨_, rfl, bx, 3, rfl, u5.2, by decide, by decide, fun d2 H6 d20 d23 u6 => ?_⟩
        obtain ⟨e2, rfl⟩ := Int.eq_ofNat_of_zero_le d20
        refine ⟨_, _, rfl, rfl, _, _, rfl, ?_⟩
        have u36 := (u4.trans u5).trans u6
        refine ⟨_, rfl, 1 + e2, by show [V.int (1 + (e2 : Int))] = _; rw [show (1 : Int) + (e2 : Int) = ((1 + e2 : Nat) : Int) by omega], by omega, by omega, fun D as H7 s7 nD hD hAs => ?_⟩
        have u7 := u36.same s7
        have Db : D ≠ bx := u36.2.ne nD
        have las := f2_len hAs
        have lL : 1 ≤ ((sgls (1 + e2)).filter okB).length := List.length_pos_of_mem (sgls_some (by omega))
        have lL2 : ((sgls (1 + e2)).filter okB).length ≤ 28 := by
          refine Nat.le_trans (List.length_filter_le _ _) (sgls3c (by omega))
        refine ⟨_, rfl, _, rfl, _, rfl, bx, D, as.map V.ref, rfl, u7.2, hD, Db, by rw [List.length_map]; omega, by rw [List.length_map]; omega, fun v H8 hv u8 => ?_⟩
        obtain ⟨sa, hsa, rfl⟩ := List.mem_map.mp hv
        obtain ⟨st, hst, hSt⟩ := f2_mem hAs hsa
        obtain ⟨hst1, hst2⟩ := List.mem_filter.mp hst
        obtain ⟨hz1, hz2⟩ := sgls_size hst1
        have hO : OkN 39 [st] := (okN_one hst2).mono (by decide)
        have okst : StOk [st] := StOk.oneQ (List.length_pos_iff.mp (by omega)) (by omega)
        have hSt8 : Stl H8 sa [st] := hSt.upB (hSt.ne1 u7.2) u7.2 u8
        have hD8 := u8.1 _ _ hD Db
        have u38 := u7.trans u8
        clear hAs hSt hD u7 u8 u36 u4 u5 u6 s7 nD hv
        obtain ⟨qs0, kb0, g1, g2, g3⟩ := hSt8
        refine mk_ru (ps := qs0) (kb := kb0) rfl (.inl (SqL.of g1)) g2 (by rw [← g3]; exact okst) (by rw [← g3]; exact hO.ok) (by omega) (by omega) fun hm ss' H9 s9 pm srt hR => ?_
        have es : ss' = [st] := by rw [← g3] at pm; exact List.perm_singleton.mp pm
        subst es
        have u39 := u38.same s9
        have hD9 := s9 _ _ hD8
        refine ⟨by show 0 ≤ sizeLine; decide, fun pl npl => ⟨_, _, rfl, ?_⟩⟩
        have plb : pl ≠ bx := u39.2.ne npl
        have hX0 : PrX (upd H9 pl (.lst [])) pl [] := ⟨[], fun _ => ([], []), upd_same, (fun _ h => nomatch h), rfl⟩
        have uP := (Up.refl u39.2).mut npl plb (o := .lst [])
        generalize upd H9 pl (.lst []) = H10 at hX0 uP ⊢
        have e12 : (1 : Int) + (e2 : Int) = ((1 + e2 : Nat) : Int) := by omega
        refine ⟨_, rfl, _, rfl, by show 0 ≤ sizeLine; decide, fun e0 ne0 => ?_⟩
        have se0 := same_upd (o := .lst []) ne0
        refine ⟨fl, 1 + e2, e0, [], by show [V.str (W fl), V.int (1 + (e2 : Int)), V.ref e0] = _; rw [e12], by omega, by omega, by omega, ⟨[], fun _ => ([], []), .inl upd_same, (fun _ h => nomatch h), rfl⟩, by decide, (fun _ h => nomatch h), fun t0 ys0 H11 s11 nt0 ht0 pm0 srt0 => ?_⟩
        have u11 := (uP.same se0).same s11
        have hX11 := (hX0.same se0).same s11
        have hD11 := u11.1 _ _ hD9 Db
        have lys0 : ys0.length = ((sgls (1 + e2)).filter okB).length := by rw [pm0.length_eq, List.length_map, cou_nil]
        have hys0 : ∀ z ∈ ys0, PyData.strOk z = true := fun z hz => by
          obtain ⟨s, hs, rfl⟩ := List.mem_map.mp (pm0.mem_iff.mp hz)
          exact sOk_ruT fl s.1 s.2
        refine ⟨_, rfl, t0, _, rfl, .inr (SqT.of ht0), ?_⟩
        refine ⟨_, rfl, D, _, rfl, .inl (SqL.of hD11), rfl, _, rfl, iteNS (by rw [List.length_map, List.length_map, lys0, las]) ?_⟩
        refine ⟨_, rfl, t0, _, rfl, .inr (SqT.of ht0), fun l1 nl1 => ?_⟩
        have sl1 := same_upd (o := .lst (ys0.map V.str)) nl1
        have hl1 : upd H11 l1 (.lst (ys0.map V.str)) l1 = some (.lst (ys0.map V.str)) := upd_same
        generalize upd H11 l1 (.lst (ys0.map V.str)) = H12 at sl1 hl1 ⊢
        refine ⟨_, rfl, t0, rfl, ⟨_, SqT.of (sl1 _ _ ht0)⟩, fun D3 nD3 => ?_⟩
        refine lc_it (walk_tup (xs := ys0.map V.str)) (fun i7 He => Same H12 He ∧ He D3 = some (.lst ((ys0.take i7).map V.str))) ⟨same_upd nD3, upd_same⟩ (fun i7 He _ h => SqT.of (h.1 _ _ (sl1 _ _ ht0))) ?_ ?_
        · rintro i7 x7 He' He hi7 ⟨se, hD3⟩ ⟨rfl, hx7⟩
          rw [List.getElem?_map] at hx7
          obtain ⟨z7, hz7, rfl⟩ := Option.map_eq_some_iff.mp hx7
          refine ⟨rfl, _, rfl, _, rfl, _, hD3, by rw [List.length_map, List.length_take]; exact sl_lt (by omega), same_mut' se nD3, ?_⟩
          rw [upd_same, take_snocQ hz7, List.map_append]
          rfl
        rintro He ⟨se, hD3⟩
        rw [List.length_map, List.take_length] at hD3
        refine ⟨D3, _, rfl, SqL.of hD3, by omega, fun ys2 p5 pm2 srt2 np5 => ?_⟩
        have ey : ys2 = ys0 := sortedS_one pm2 srt2 srt0
        subst ey
        have sp5 := same_upd (o := .lst (ys2.map V.str)) np5
        have okl := dok_txl hys0
        have s1213 := se.trans sp5
        refine ⟨_, _, .lst (SqL.of (s1213 _ _ hl1)) (txs_dpQ ys2), .lst (SqL.of upd_same) (txs_dpQ ys2), okl.shaped (by decide), okl.shaped (by decide), ?_⟩
        rw [refQ okl]
        refine ⟨_, rfl, iteF ?_⟩
        have s13 := sl1.trans s1213
        have ht13 := s13 _ _ ht0
        have u13 := u11.same s13
        have hX13 := hX11.same s13
        generalize upd He p5 (.lst (ys2.map V.str)) = H13 at ht13 u13 hX13 ⊢
        have cm0 : ∀ z ∈ ys2, ∃ s ∈ couL (1 + e2) [], z = ruT fl [s] := fun z hz => by
          obtain ⟨s, hs, e⟩ := List.mem_map.mp (pm0.mem_iff.mp hz)
          exact ⟨s, hs, e.symm⟩
        clear s13 s1213 sp5 se sl1 hl1 okl hD3 ne0 se0 s11 hX11 u11 hD11 hX0 uP
        -- the loop
        refine ⟨_, rfl, by decide, by decide, ?_⟩
        have hR13 : RuAt C H9 hm fl [st] := hR
        have rf : (st.1.length ≤ 4) := by omega
        refine for_it (walk_range (lo := 0) (n := 3)) (fun i2 σ Ha => ∃ (v1 v3 v10 v11 v12 v13 v14 v15 v16 v17 : Option V) (tb : Addr) (prs : List Pr2) (ysb : List Str), σ = [some (.ref a), v1, some (.ref bx), v3, some (.str (W fl)), some (.int (1 + (e2 : Int))), some (.ref D), some (.ref hm), some (.ref pl), some (.ref tb), v10, v11, v12, v13, v14, v15, v16, v17] ∧ Up bx H9 Ha ∧ PrX Ha pl prs ∧ prs.length = i2 ∧ (∀ p ∈ prs, p.1.length ≤ 6 ∧ bodyF [st] p.1 = p.2) ∧ Ha tb = some (.tup (ysb.map V.str)) ∧ (∀ z, z ∈ ysb ↔ ∃ s ∈ couL (1 + e2) prs, ruT fl [s] = z))
          ⟨_, _, _, _, _, _, _, _, _, _, t0, [], ys2, rfl, u13, hX13, rfl, (fun _ h => nomatch h), ht13, fun z => by rw [pm0.mem_iff, List.mem_map]⟩ (fun _ _ _ _ _ => trivial) ?_ ?_
        · rintro i2 y2 σ Ha' Ha hi2 ⟨v1, v3, v10, v11, v12, v13, v14, v15, v16, v17, tb, prs, ysb, rfl, ua, hX, lprs, hprs, htb, hyb⟩ ⟨rfl, rfl⟩
          have li2 : i2 < 3 := hi2
          refine ⟨_, rfl, _, rfl, bx, 6, rfl, ua.2, by decide, by decide, fun d4 Hb d40 d49 ub => ?_⟩
          obtain ⟨e4, rfl⟩ := Int.eq_ofNat_of_zero_le d40
          refine ⟨_, _, rfl, rfl, bx, 1 + e4, by show [V.ref bx, V.int (1 + (e4 : Int))] = _; rw [show (1 : Int) + (e4 : Int) = ((1 + e4 : Nat) : Int) by omega], ub.2, by omega, fun msg Hc lmg uc => ?_⟩
          have uac := (ua.trans ub).trans uc
          have hRc := hR.up u39.2 uac
          have hXc := hX.up plb ua.2 (ub.trans uc)
          obtain ⟨qs, kb, hp1, _⟩ := id hXc
          refine ⟨_, rfl, .inl ⟨rfl, _, SqL.of hp1⟩, _, rfl, ?_⟩
          refine ⟨_, rfl, _, rfl, hm, fl, [st], msg, rfl, hRc, by omega, hO, fun ln Hd hB lln sd => ⟨by show 2 ≤ sizeLine; decide, fun z nz => ?_⟩⟩
          have eln : ln = bodyF [st] msg := hB.isF hO
          obtain ⟨xs, x1, x2, x3⟩ := (hXc.same sd).push (p := (msg, ln)) nz
          have htbz := (same_upd (o := .tup [.str (W msg), .str (W ln)]) nz) _ _ (sd _ _ ((ub.trans uc).1 _ _ htb (ua.2.neT htb)))
          have uz := (uac.same sd).same (same_upd (o := .tup [.str (W msg), .str (W ln)]) nz)
          refine ⟨pl, xs, _, rfl, rfl, x1, by rw [x2]; exact sl_lt (by omega), ?_⟩
          have htbp : upd (upd Hd z (.tup [.str (W msg), .str (W ln)])) pl (.lst (xs ++ [.ref z])) tb = some (.tup (ysb.map V.str)) := by rw [upd_ne (ne_of htbz x1 (by intro z; cases z))]; exact htbz
          have up := uz.mut npl plb (o := .lst (xs ++ [.ref z]))
          generalize upd (upd Hd z (.tup [.str (W msg), .str (W ln)])) pl (.lst (xs ++ [.ref z])) = He at x3 htbp up ⊢
          have hprs' : ∀ p ∈ prs ++ [(msg, ln)], p.1.length ≤ 6 ∧ bodyF [st] p.1 = p.2 := fun p hp => by
            rcases List.mem_append.mp hp with h | h
            · exact hprs p h
            · rw [List.mem_singleton.mp h]; exact ⟨by show msg.length ≤ 6; omega, eln.symm⟩
          clear uz htbz x1 hp1 hXc hRc uac
          refine ⟨_, rfl, _, rfl, _, rfl, fl, 1 + e2, pl, prs ++ [(msg, ln)], by show [V.str (W fl), V.int (1 + (e2 : Int)), V.ref pl] = _; rw [e12], by omega, by omega, by omega, x3.at, by rw [List.length_append]; show prs.length + 1 ≤ 1000; omega, (fun p hp => Nat.le_trans (hprs' p hp).1 (by decide)), fun tf ysf Hf sf ntf htf pmf srtf => ?_⟩
          have uf := up.same sf
          have hRf := hR.up u39.2 uf
          have hXf := x3.same sf
          have htbf := sf _ _ htbp
          have hyf : ∀ z, z ∈ ysf ↔ ∃ s ∈ couL (1 + e2) (prs ++ [(msg, ln)]), ruT fl [s] = z := fun z => by rw [pmf.mem_iff, List.mem_map]
          have hsub : ∀ z ∈ ysf, z ∈ ysb := fun z hz => by
            obtain ⟨s, hs, e⟩ := (hyf z).mp hz
            exact (hyb z).mpr ⟨s, cou_sub hs, e⟩
          have hst : st ∈ couL (1 + e2) (prs ++ [(msg, ln)]) := mem_cou.mpr ⟨hst, fun p hp => (hprs' p hp).2⟩
          obtain ⟨dx, tx, hmf⟩ := hRf.few
          refine ⟨_, rfl, hm, dx, _, rfl, hmf, hm, fl, [st], rfl, hRf, okst.sm (by omega), fun Hg sg => ?_⟩
          have htfg := sg _ _ htf
          refine ⟨_, rfl, _, rfl, tf, _, rfl, .inr (SqT.of htfg), rfl, by rw [List.all_map, List.all_eq_true]; intro x _; rfl, _, rfl, ?_⟩
          rw [inV_txt, decide_eq_true ((hyf _).mpr ⟨st, hst, rfl⟩)]
          refine iteF ?_
          refine ⟨_, rfl, tf, rfl, ⟨_, SqT.of htfg⟩, fun D4 nD4 => ?_⟩
          have htbg := sg _ _ htbf
          refine lc_it (walk_tup (xs := ysf.map V.str)) (fun i7 Hh => Same Hg Hh ∧ Hh D4 = some (.lst [])) ⟨same_upd nD4, upd_same⟩ (fun i7 Hh _ h => SqT.of (h.1 _ _ htfg)) ?_ ?_
          · rintro i7 x7 Hh' Hh hi7 ⟨sh, hD4⟩ ⟨rfl, hx7⟩
            rw [List.getElem?_map] at hx7
            obtain ⟨z7, hz7, rfl⟩ := Option.map_eq_some_iff.mp hx7
            refine ⟨rfl, _, rfl, _, rfl, tb, _, rfl, .inr (SqT.of (sh _ _ htbg)), rfl, by rw [List.all_map, List.all_eq_true]; intro x _; rfl, _, rfl, ?_⟩
            rw [inV_txt, decide_eq_true (hsub z7 (List.mem_of_getElem? hz7))]
            exact iteF ⟨sh, hD4⟩
          rintro Hh ⟨sh, hD4⟩
          refine ⟨by show 0 ≤ sizeLine; decide, fun e5 ne5 => ?_⟩
          have se5 := same_upd (o := .lst []) ne5
          refine ⟨.list [], .list [], .lst (SqL.of (se5 _ _ hD4)) .nil, .lst (SqL.of upd_same) .nil, rfl, rfl, ?_⟩
          rw [SeqAt.eqv_refl (.list []) rfl]
          refine ⟨_, rfl, iteF ?_⟩
          have sfi := (sg.trans sh).trans se5
          have ui := uf.same sfi
          have hXi := hXf.same sfi
          have htfi := sfi _ _ htf
          generalize upd Hh e5 (.lst []) = Hi at ui hXi htfi ⊢
          clear sfi se5 ne5 sh sg hD4 htbg htfg htbf hXf hRf uf sf nD4
          refine ⟨_, rfl, _, rfl, sl_txt htfi fun p zs Hj sj hp hz => ⟨p, rfl, ⟨_, SqT.of hp⟩, ?_⟩⟩
          have uj := ui.same sj
          have hXj := hXi.same sj
          have htfj := sj _ _ htfi
          refine for_it (walk_tup (xs := zs.map V.str)) (fun i7 σ Hk => ∃ (v1 v3 v10 v14 v15 v16 v17 : Option V), σ = [some (.ref a), v1, some (.ref bx), v3, some (.str (W fl)), some (.int (1 + (e2 : Int))), some (.ref D), some (.ref hm), some (.ref pl), some (.ref tb), v10, some (.int (0 + (i2 : Int))), some (.str (W msg)), some (.ref tf), v14, v15, v16, v17] ∧ Same Hj Hk)
            ⟨_, _, _, _, _, _, _, rfl, Same.refl _⟩ (fun i7 σ Hk _ h => by obtain ⟨_, _, _, _, _, _, _, _, h⟩ := h; exact SqT.of (h _ _ hp)) ?_ ?_
          · rintro i7 x σ Hk' Hk hi7 ⟨v1, v3, v10, v14, v15, v16, v17, rfl, sk⟩ ⟨rfl, hx⟩
            rw [List.getElem?_map] at hx
            obtain ⟨z7, hz7, rfl⟩ := Option.map_eq_some_iff.mp hx
            obtain ⟨s7, hs7, rfl⟩ := (hyf z7).mp (hz z7 (List.mem_of_getElem? hz7))
            obtain ⟨hc1, hc2⟩ := mem_cou.mp hs7
            obtain ⟨hd1, hd2⟩ := List.mem_filter.mp hc1
            obtain ⟨hl1, hl2⟩ := sgls_size hd1
            have ok7 : StOk [s7] := StOk.oneQ (List.length_pos_iff.mp (by omega)) (by omega)
            have o7 : OkN 39 [s7] := (okN_one hd2).mono (by decide)
            have hXk := hXj.same sk
            obtain ⟨qs, kb, hq1, hq2, hq3⟩ := id hXk
            refine ⟨_, rfl, pl, rfl, ⟨_, SqL.of hq1⟩, fun D5 nD5 => ?_⟩
            refine lc_it (walk_list (xs := qs.map V.ref)) (fun i8 Hl => Same Hk Hl ∧ Hl D5 = some (.lst [])) ⟨same_upd nD5, upd_same⟩ (fun i8 Hl _ h => SqL.of (h.1 _ _ hq1)) ?_ ?_
            · rintro i8 x8 Hl' Hl hi8 ⟨sl8, hD5⟩ ⟨rfl, hx8⟩
              rw [List.getElem?_map] at hx8
              obtain ⟨q8, hq8, rfl⟩ := Option.map_eq_some_iff.mp hx8
              have hqm := List.mem_of_getElem? hq8
              have hpm : kb q8 ∈ prs ++ [(msg, ln)] := by rw [hq3]; exact List.mem_map_of_mem hqm
              refine ⟨q8, _, rfl, SqT.of (sl8 _ _ (hq2 q8 hqm)), rfl, _, _, rfl, _, _, rfl, rfl, rfl, ?_⟩
              refine ⟨rfl, _, rfl, fl, [s7], rfl, ok7, o7.ok, by omega, by omega, fun g ssg Hm sm pmg srtg hG => ?_⟩
              have eg : ssg = [s7] := List.perm_singleton.mp pmg
              subst eg
              refine ⟨_, rfl, g, fl, [s7], (kb q8).1, rfl, hG, Nat.le_trans (hprs' _ hpm).1 (by decide), o7, fun l9 Hn hB9 _ sn => ?_⟩
              have el9 : l9 = (kb q8).2 := (hB9.isF o7).trans (hc2 _ hpm)
              subst el9
              refine ⟨_, rfl, rfl, _, rfl, ?_⟩
              exact iteNS rfl ⟨(sl8.trans sm).trans sn, (sm.trans sn) _ _ hD5⟩
            rintro Hl ⟨sl8, hD5⟩
            refine ⟨by show 0 ≤ sizeLine; decide, fun e6 ne6 => ?_⟩
            have se6 := same_upd (o := .lst []) ne6
            refine ⟨.list [], .list [], .lst (SqL.of (se6 _ _ hD5)) .nil, .lst (SqL.of upd_same) .nil, rfl, rfl, ?_⟩
            rw [SeqAt.eqv_refl (.list []) rfl]
            refine ⟨_, rfl, iteF ?_⟩
            exact ⟨_, _, _, _, _, _, _, rfl, (sk.trans sl8).trans se6⟩
          · rintro σ Hk ⟨v1, v3, v10, v14, v15, v16, v17, rfl, sk⟩
            exact ⟨_, rfl, _, _, _, _, _, _, _, _, _, _, tf, prs ++ [(msg, ln)], ysf, rfl, uj.same sk, hXj.same sk, by rw [List.length_append, lprs]; rfl, hprs', sk _ _ htfj, hyf⟩
        · rintro σ Ha ⟨v1, v3, v10, v11, v12, v13, v14, v15, v16, v17, tb, prs, ysb, rfl, ua, hX, lprs, hprs, htb, hyb⟩
          refine ⟨_, rfl, _, rfl, sl_txt htb fun p zs Hj sj hp hz => ⟨p, rfl, ⟨_, SqT.of hp⟩, ?_⟩⟩
          have uj := ua.same sj
          have hXj := hX.same sj
          refine for_it (walk_tup (xs := zs.map V.str)) (fun i7 σ Hk => ∃ (v1 v3 v10 v11 v12 v13 v14 v15 v16 v17 : Option V), σ = [some (.ref a), v1, some (.ref bx), v3, some (.str (W fl)), some (.int (1 + (e2 : Int))), some (.ref D), some (.ref hm), some (.ref pl), some (.ref tb), v10, v11, v12, v13, v14, v15, v16, v17] ∧ Same Hj Hk)
            ⟨_, _, _, _, _, _, _, _, _, _, rfl, Same.refl _⟩ (fun i7 σ Hk _ h => by obtain ⟨_, _, _, _, _, _, _, _, _, _, _, h⟩ := h; exact SqT.of (h _ _ hp)) ?_ ?_
          · rintro i7 x σ Hk' Hk hi7 ⟨v1, v3, v10, v11, v12, v13, v14, v15, v16, v17, rfl, sk⟩ ⟨rfl, hx⟩
            rw [List.getElem?_map] at hx
            obtain ⟨z7, hz7, rfl⟩ := Option.map_eq_some_iff.mp hx
            obtain ⟨s7, hs7, rfl⟩ := (hyb z7).mp (hz z7 (List.mem_of_getElem? hz7))
            obtain ⟨hc1, hc2⟩ := mem_cou.mp hs7
            obtain ⟨hd1, hd2⟩ := List.mem_filter.mp hc1
            obtain ⟨hl1, hl2⟩ := sgls_size hd1
            have ok7 : StOk [s7] := StOk.oneQ (List.length_pos_iff.mp (by omega)) (by omega)
            have o7 : OkN 39 [s7] := (okN_one hd2).mono (by decide)
            have uk := uj.same sk
            have hXk := hXj.same sk
            refine ⟨_, rfl, rfl, _, rfl, fl, [s7], rfl, ok7, o7.ok, by omega, by omega, fun g ssg Hm sm pmg srtg hG => ?_⟩
            have eg : ssg = [s7] := List.perm_singleton.mp pmg
            subst eg
            have um := uk.same sm
            have hRm := hR.up u39.2 um
            refine ⟨hm, g, fl, [st], fl, [s7], rfl, hRm, hG, okst, ok7, hO, o7, fun o Hn sn hP hl => ?_⟩
            have un := um.same sn
            have hRn := hR.up u39.2 un
            have hXn := (hXk.same sm).same sn
            have lm : max (longM [st]) (longM [s7]) ≤ 3 := by
              have a1 : longM [st] = max st.1.length 0 := rfl
              have a2 : longM [s7] = max s7.1.length 0 := rfl
              omega
            cases o with
            | none =>
              refine ⟨_, rfl, rfl, _, rfl, iteF ?_⟩
              exact ⟨_, _, _, _, _, _, _, _, _, _, rfl, (sk.trans sm).trans sn⟩
            | some rw7 =>
              have lrw : rw7.length ≤ 16 := Nat.le_trans (hl rw7 rfl) (Nat.pow_le_pow_right (by decide) (show max (longM [st]) (longM [s7]) + 1 ≤ 4 by omega))
              refine ⟨_, rfl, rfl, _, rfl, iteT ?_⟩
              obtain ⟨qs, kb, hq1, hq2, hq3⟩ := id hXn
              refine ⟨_, rfl, _, rfl, _, rfl, _, rfl, _, rfl, _, rfl, hm, fl, [st], rw7, rfl, hRn, by omega, hO, fun ln9 Ho hB9 _ so => ⟨by show 2 ≤ sizeLine; decide, fun tz ntz => ⟨by show 1 ≤ sizeLine; decide, fun lz nlz => ?_⟩⟩⟩
              have eln9 : ln9 = bodyF [st] rw7 := hB9.isF hO
              have stz := same_upd (o := .tup [oW (some rw7), .str (W ln9)]) ntz
              have slz := same_upd (o := .lst [.ref tz]) nlz
              have htz : upd (upd Ho tz (.tup [oW (some rw7), .str (W ln9)])) lz (.lst [.ref tz]) tz = some (.tup [.str (W rw7), .str (W ln9)]) := slz _ _ upd_same
              have hlz : upd (upd Ho tz (.tup [oW (some rw7), .str (W ln9)])) lz (.lst [.ref tz]) lz = some (.lst [.ref tz]) := upd_same
              have sop := stz.trans slz
              generalize upd (upd Ho tz (.tup [oW (some rw7), .str (W ln9)])) lz (.lst [.ref tz]) = Hp1 at htz hlz sop ⊢
              have hqo := (so.trans sop) _ _ hq1
              have lqs : qs.length = 3 := by
                have := congrArg List.length hq3
                rw [List.length_map, lprs] at this
                exact this.symm
              refine ⟨pl, lz, _, _, rfl, rfl, hqo, hlz, by rw [List.length_map, lqs]; show 4 ≤ sizeLine; decide, fun lc nlc => ?_⟩
              have slc := same_upd (o := .lst (qs.map V.ref ++ [V.ref tz])) nlc
              have hlc : upd Hp1 lc (.lst (qs.map V.ref ++ [V.ref tz])) lc = some (.lst (qs.map V.ref ++ [V.ref tz])) := upd_same
              have htz2 := slc _ _ htz
              have sopc := sop.trans slc
              generalize upd Hp1 lc (.lst (qs.map V.ref ++ [V.ref tz])) = Hp2 at hlc htz2 sopc ⊢
              have hPc : PrsAt Hp2 lc (prs ++ [(rw7, ln9)]) := by
                rw [hq3]
                exact prs_cat (fun q hq => so _ _ (hq2 q hq)) ntz sopc htz2 hlc
              refine ⟨fl, 1 + e2, lc, prs ++ [(rw7, ln9)], by show [V.str (W fl), V.int (1 + (e2 : Int)), V.ref lc] = _; rw [e12], by omega, by omega, by omega, hPc, by rw [List.length_append, lprs]; show 4 ≤ 1000; decide, (fun p hp => by
                rcases List.mem_append.mp hp with h | h
                · exact Nat.le_trans (hprs p h).1 (by decide)
                · rw [List.mem_singleton.mp h]; show rw7.length ≤ 1000; omega), fun tL ysL Hq sq ntL htL pmL srtL => ?_⟩
              have hyL : ∀ z, z ∈ ysL ↔ ∃ s ∈ couL (1 + e2) (prs ++ [(rw7, ln9)]), ruT fl [s] = z := fun z => by rw [pmL.mem_iff, List.mem_map]
              have hstL : ruT fl [st] ∈ ysL := (hyL _).mpr ⟨st, mem_cou.mpr ⟨hst, fun p hp => by
                rcases List.mem_append.mp hp with h | h
                · exact (hprs p h).2
                · rw [List.mem_singleton.mp h]; exact eln9.symm⟩, rfl⟩
              have hs7L : ruT fl [s7] ∉ ysL := fun hz9 => by
                obtain ⟨s, hs, e⟩ := (hyL _).mp hz9
                have es : s = s7 := (List.cons.inj (ruT_inj e).2).1
                subst es
                have := (mem_cou.mp hs).2 (rw7, ln9) (by simp)
                exact hP.1 (show bodyF [st] rw7 = bodyF [s] rw7 by rw [this]; exact eln9.symm)
              refine ⟨_, rfl, _, rfl, tL, _, rfl, .inr (SqT.of htL), rfl, by rw [List.all_map, List.all_eq_true]; intro x _; rfl, _, rfl, ?_⟩
              rw [inV_txt, decide_eq_false hs7L]
              refine iteF ?_
              have sl9 := (so.trans sopc).trans sq
              have hRq := hRn.same sl9
              obtain ⟨dx, tx, hmq⟩ := hRq.few
              refine ⟨_, rfl, hm, dx, _, rfl, hmq, hm, fl, [st], rfl, hRq, okst.sm (by omega), fun Hr sr => ?_⟩
              refine ⟨_, rfl, _, rfl, tL, _, rfl, .inr (SqT.of (sr _ _ htL)), rfl, by rw [List.all_map, List.all_eq_true]; intro x _; rfl, _, rfl, ?_⟩
              rw [inV_txt, decide_eq_true hstL]
              refine iteF ?_
              exact ⟨_, _, _, _, _, _, _, _, _, _, rfl, (((sk.trans sm).trans sn).trans sl9).trans sr⟩
          · rintro σ Hk ⟨v1, v3, v10, v11, v12, v13, v14, v15, v16, v17, rfl, sk⟩
            exact ⟨_, _, _, _, _, _, _, _, _, _, _, _, _, _, _, _, rfl, u3.trans ((u38.same s9).trans (uj.same sk))⟩
      · rintro σ H3 ⟨v1, v3, v4, v5, v6, v7, v8, v9, v10, v11, v12, v13, v14, v15, v16, v17, rfl, u3⟩
        exact ⟨_, _, _, _, _, _, _, _, _, _, _, _, _, _, _, _, _, rfl, fun c o e => u3.1 c o (s1 _ _ (s2 _ _ e)) (ne_of_none (s2 _ _ e) nb)⟩
    · rintro σ H2 ⟨v1, v2, v3, v4, v5, v6, v7, v8, v9, v10, v11, v12, v13, v14, v15, v16, v17, rfl, s2⟩
      exact k H2
end
end U

set_option maxRecDepth 100000
set_option maxHeartbeats 4000000
namespace U
open PySem PySem.Spec PyProof.Rows
open L2 hiding Fun CX0 E0 pass0 Fun.binds
open C8 Lx
theorem all_mk {l : PySem.W.OpenLaw} {w : World} {K : PySem.W.Frag} {h : Heap} {mg : Str → Option Value} {fa : Addr} (X : K.In h) (G : h.Ns mainGlobals mg) (hfa : mg "law" = some (.ref fa))
    {f_put_behind : Addr} {od_put_behind an_put_behind : Option Addr} {sl_put_behind : Array (Option Value)} {oc_put_behind kV_put_behind dc_put_behind pm_put_behind cd_put_behind ct_put_behind : Value}
    {f_body : Addr} {od_body an_body : Option Addr} {sl_body : Array (Option Value)} {oc_body kV_body dc_body pm_body cd_body ct_body : Value}
    {f_is_sequence : Addr} {od_is_sequence an_is_sequence : Option Addr} {sl_is_sequence : Array (Option Value)} {oc_is_sequence kV_is_sequence dc_is_sequence pm_is_sequence cd_is_sequence ct_is_sequence : Value}
    {f_is_word : Addr} {od_is_word an_is_word : Option Addr} {sl_is_word : Array (Option Value)} {oc_is_word kV_is_word dc_is_word pm_is_word cd_is_word ct_is_word : Value}
    {f_is_bit : Addr} {od_is_bit an_is_bit : Option Addr} {sl_is_bit : Array (Option Value)} {oc_is_bit kV_is_bit dc_is_bit pm_is_bit cd_is_bit ct_is_bit : Value}
    {f_all_words : Addr} {od_all_words an_all_words : Option Addr} {sl_all_words : Array (Option Value)} {oc_all_words kV_all_words dc_all_words pm_all_words cd_all_words ct_all_words : Value}
    {f_tail : Addr} {od_tail an_tail : Option Addr} {sl_tail : Array (Option Value)} {oc_tail kV_tail dc_tail pm_tail cd_tail ct_tail : Value}
    {f_is_stuff : Addr} {od_is_stuff an_is_stuff : Option Addr} {sl_is_stuff : Array (Option Value)} {oc_is_stuff kV_is_stuff dc_is_stuff pm_is_stuff cd_is_stuff ct_is_stuff : Value}
    {f_are_stuffs : Addr} {od_are_stuffs an_are_stuffs : Option Addr} {sl_are_stuffs : Array (Option Value)} {oc_are_stuffs kV_are_stuffs dc_are_stuffs pm_are_stuffs cd_are_stuffs ct_are_stuffs : Value}
    {f_stuff_in : Addr} {od_stuff_in an_stuff_in : Option Addr} {sl_stuff_in : Array (Option Value)} {oc_stuff_in kV_stuff_in dc_stuff_in pm_stuff_in cd_stuff_in ct_stuff_in : Value}
    {f_parting : Addr} {od_parting an_parting : Option Addr} {sl_parting : Array (Option Value)} {oc_parting kV_parting dc_parting pm_parting cd_parting ct_parting : Value}
    {f_rule_with : Addr} {od_rule_with an_rule_with : Option Addr} {sl_rule_with : Array (Option Value)} {oc_rule_with kV_rule_with dc_rule_with pm_rule_with cd_rule_with ct_rule_with : Value}
    {f_single_rules : Addr} {od_single_rules an_single_rules : Option Addr} {sl_single_rules : Array (Option Value)} {oc_single_rules kV_single_rules dc_single_rules pm_single_rules cd_single_rules ct_single_rules : Value}
    {f_could_be : Addr} {od_could_be an_could_be : Option Addr} {sl_could_be : Array (Option Value)} {oc_could_be kV_could_be dc_could_be pm_could_be cd_could_be ct_could_be : Value}
    {f_l_seed : Addr} {od_l_seed an_l_seed : Option Addr} {sl_l_seed : Array (Option Value)} {oc_l_seed kV_l_seed dc_l_seed pm_l_seed cd_l_seed ct_l_seed : Value}
    {f_l_choose : Addr} {od_l_choose an_l_choose : Option Addr} {sl_l_choose : Array (Option Value)} {oc_l_choose kV_l_choose dc_l_choose pm_l_choose cd_l_choose ct_l_choose : Value}
    {f_l_one_of : Addr} {od_l_one_of an_l_one_of : Option Addr} {sl_l_one_of : Array (Option Value)} {oc_l_one_of kV_l_one_of dc_l_one_of pm_l_one_of cd_l_one_of ct_l_one_of : Value}
    {f_l_word : Addr} {od_l_word an_l_word : Option Addr} {sl_l_word : Array (Option Value)} {oc_l_word kV_l_word dc_l_word pm_l_word cd_l_word ct_l_word : Value}
    {f_l_ends : Addr} {od_l_ends an_l_ends : Option Addr} {sl_l_ends : Array (Option Value)} {oc_l_ends kV_l_ends dc_l_ends pm_l_ends cd_l_ends ct_l_ends : Value}
    {f_l_due : Addr} {od_l_due an_l_due : Option Addr} {sl_l_due : Array (Option Value)} {oc_l_due kV_l_due dc_l_due pm_l_due cd_l_due ct_l_due : Value}
    {f_l_chain : Addr} {od_l_chain an_l_chain : Option Addr} {sl_l_chain : Array (Option Value)} {oc_l_chain kV_l_chain dc_l_chain pm_l_chain cd_l_chain ct_l_chain : Value}
    {f_l_tails : Addr} {od_l_tails an_l_tails : Option Addr} {sl_l_tails : Array (Option Value)} {oc_l_tails kV_l_tails dc_l_tails pm_l_tails cd_l_tails ct_l_tails : Value}
    {f_l_are_stuffs : Addr} {od_l_are_stuffs an_l_are_stuffs : Option Addr} {sl_l_are_stuffs : Array (Option Value)} {oc_l_are_stuffs kV_l_are_stuffs dc_l_are_stuffs pm_l_are_stuffs cd_l_are_stuffs ct_l_are_stuffs : Value}
    {f_l_words : Addr} {od_l_words an_l_words : Option Addr} {sl_l_words : Array (Option Value)} {oc_l_words kV_l_words dc_l_words pm_l_words cd_l_words ct_l_words : Value}
    {f_l_singles : Addr} {od_l_singles an_l_singles : Option Addr} {sl_l_singles : Array (Option Value)} {oc_l_singles kV_l_singles dc_l_singles pm_l_singles cd_l_singles ct_l_singles : Value}
    {f_law : Addr} {od_law an_law : Option Addr} {sl_law : Array (Option Value)} {oc_law kV_law dc_law pm_law cd_law ct_law : Value}
    {C_Rule : Addr}
    {f_Rule_put : Addr} {od_Rule_put an_Rule_put : Option Addr} {sl_Rule_put : Array (Option Value)} {oc_Rule_put kV_Rule_put dc_Rule_put pm_Rule_put cd_Rule_put ct_Rule_put : Value}
    {f_Rule_longest : Addr} {od_Rule_longest an_Rule_longest : Option Addr} {sl_Rule_longest : Array (Option Value)} {oc_Rule_longest kV_Rule_longest dc_Rule_longest pm_Rule_longest cd_Rule_longest ct_Rule_longest : Value}
    {p_Rule_longest : Addr} {pr_Rule_longest : List Value}
    {f_Rule_put_in : Addr} {od_Rule_put_in an_Rule_put_in : Option Addr} {sl_Rule_put_in : Array (Option Value)} {oc_Rule_put_in kV_Rule_put_in dc_Rule_put_in pm_Rule_put_in cd_Rule_put_in ct_Rule_put_in : Value}
    {f_Rule_is_endless : Addr} {od_Rule_is_endless an_Rule_is_endless : Option Addr} {sl_Rule_is_endless : Array (Option Value)} {oc_Rule_is_endless kV_Rule_is_endless dc_Rule_is_endless pm_Rule_is_endless cd_Rule_is_endless ct_Rule_is_endless : Value}
    {f_Rule_init : Addr} {od_Rule_init an_Rule_init : Option Addr} {sl_Rule_init : Array (Option Value)} {oc_Rule_init kV_Rule_init dc_Rule_init pm_Rule_init cd_Rule_init ct_Rule_init : Value}
    {dT_Rule_init : Addr} {dd_Rule_init : Option Addr} {dn_Rule_init : Nat} {ds_Rule_init : Array (Option Value)} {dE_R : Addr} {dde_R : Option Addr} {dne_R : Nat} {dse_R : Array (Option Value)}
    {f_Rule_read : Addr} {od_Rule_read an_Rule_read : Option Addr} {sl_Rule_read : Array (Option Value)} {oc_Rule_read kV_Rule_read dc_Rule_read pm_Rule_read cd_Rule_read ct_Rule_read : Value}
    {p_Rule_read : Addr} {pr_Rule_read : List Value}
    {f_Rule_str : Addr} {od_Rule_str an_Rule_str : Option Addr} {sl_Rule_str : Array (Option Value)} {oc_Rule_str kV_Rule_str dc_Rule_str pm_Rule_str cd_Rule_str ct_Rule_str : Value}
    {C_InvalidRule f_InvalidRule cc_InvalidRule cda_InvalidRule : Addr} {od_InvalidRule an_InvalidRule : Option Addr} {sl_InvalidRule : Array (Option Value)} {oc_InvalidRule kV_InvalidRule dc_InvalidRule pm_InvalidRule ct_InvalidRule : Value}
    {Enm_InvalidRule Eq_InvalidRule : Str} {EN_InvalidRule : Addr} {Ebs_InvalidRule Ebm_InvalidRule : List Value} {Esn_InvalidRule : List Str} {Esub_InvalidRule : List Value} {Eab_InvalidRule : Bool} {Ecol_InvalidRule : Option Bool} {Edd_InvalidRule : Option Addr} {E0_InvalidRule E1_InvalidRule E2_InvalidRule E3_InvalidRule E5_InvalidRule : Option Value} {cl_InvalidRule ccl_InvalidRule : Value} {cld_InvalidRule cdd_InvalidRule : Option Addr} {csl_InvalidRule ccs_InvalidRule : Array (Option Value)} {cvs_InvalidRule : Array Value} {file_InvalidRule : Str} {ctf_InvalidRule : Tok}
    {tB : Tok}
    (a_put_behind : PySem.W.nsIn K mainGlobals "put_behind" = some (some (.ref f_put_behind)))
    (l_put_behind : K.lookup f_put_behind = some ⟨oc_put_behind, od_put_behind, .func (PySem.W.fnOf "put_behind" "put_behind" (fnArgs s_put_behind) (fnBody s_put_behind) (fnScope s_put_behind) .none kV_put_behind dc_put_behind pm_put_behind an_put_behind cd_put_behind ct_put_behind), sl_put_behind⟩)
    (c_put_behind : PySem.W.codeIn K cd_put_behind "put_behind" = true)
    (k_put_behind : PySem.W.keepIn K (.ref f_put_behind) = true)
    (a_body : PySem.W.nsIn K mainGlobals "body" = some (some (.ref f_body)))
    (l_body : K.lookup f_body = some ⟨oc_body, od_body, .func (PySem.W.fnOf "body" "body" (fnArgs s_body) (fnBody s_body) (fnScope s_body) .none kV_body dc_body pm_body an_body cd_body ct_body), sl_body⟩)
    (c_body : PySem.W.codeIn K cd_body "body" = true)
    (k_body : PySem.W.keepIn K (.ref f_body) = true)
    (a_is_sequence : PySem.W.nsIn K mainGlobals "is_sequence" = some (some (.ref f_is_sequence)))
    (l_is_sequence : K.lookup f_is_sequence = some ⟨oc_is_sequence, od_is_sequence, .func (PySem.W.fnOf "is_sequence" "is_sequence" (fnArgs s_is_sequence) (fnBody s_is_sequence) (fnScope s_is_sequence) .none kV_is_sequence dc_is_sequence pm_is_sequence an_is_sequence cd_is_sequence ct_is_sequence), sl_is_sequence⟩)
    (c_is_sequence : PySem.W.codeIn K cd_is_sequence "is_sequence" = true)
    (k_is_sequence : PySem.W.keepIn K (.ref f_is_sequence) = true)
    (a_is_word : PySem.W.nsIn K mainGlobals "is_word" = some (some (.ref f_is_word)))
    (l_is_word : K.lookup f_is_word = some ⟨oc_is_word, od_is_word, .func (PySem.W.fnOf "is_word" "is_word" (fnArgs s_is_word) (fnBody s_is_word) (fnScope s_is_word) .none kV_is_word dc_is_word pm_is_word an_is_word cd_is_word ct_is_word), sl_is_word⟩)
    (c_is_word : PySem.W.codeIn K cd_is_word "is_word" = true)
    (k_is_word : PySem.W.keepIn K (.ref f_is_word) = true)
    (a_is_bit : PySem.W.nsIn K mainGlobals "is_bit" = some (some (.ref f_is_bit)))
    (l_is_bit : K.lookup f_is_bit = some ⟨oc_is_bit, od_is_bit, .func (PySem.W.fnOf "is_bit" "is_bit" (fnArgs s_is_bit) (fnBody s_is_bit) (fnScope s_is_bit) .none kV_is_bit dc_is_bit pm_is_bit an_is_bit cd_is_bit ct_is_bit), sl_is_bit⟩)
    (c_is_bit : PySem.W.codeIn K cd_is_bit "is_bit" = true)
    (k_is_bit : PySem.W.keepIn K (.ref f_is_bit) = true)
    (a_all_words : PySem.W.nsIn K mainGlobals "all_words" = some (some (.ref f_all_words)))
    (l_all_words : K.lookup f_all_words = some ⟨oc_all_words, od_all_words, .func (PySem.W.fnOf "all_words" "all_words" (fnArgs s_all_words) (fnBody s_all_words) (fnScope s_all_words) .none kV_all_words dc_all_words pm_all_words an_all_words cd_all_words ct_all_words), sl_all_words⟩)
    (c_all_words : PySem.W.codeIn K cd_all_words "all_words" = true)
    (k_all_words : PySem.W.keepIn K (.ref f_all_words) = true)
    (a_tail : PySem.W.nsIn K mainGlobals "tail" = some (some (.ref f_tail)))
    (l_tail : K.lookup f_tail = some ⟨oc_tail, od_tail, .func (PySem.W.fnOf "tail" "tail" (fnArgs s_tail) (fnBody s_tail) (fnScope s_tail) .none kV_tail dc_tail pm_tail an_tail cd_tail ct_tail), sl_tail⟩)
    (c_tail : PySem.W.codeIn K cd_tail "tail" = true)
    (k_tail : PySem.W.keepIn K (.ref f_tail) = true)
    (a_is_stuff : PySem.W.nsIn K mainGlobals "is_stuff" = some (some (.ref f_is_stuff)))
    (l_is_stuff : K.lookup f_is_stuff = some ⟨oc_is_stuff, od_is_stuff, .func (PySem.W.fnOf "is_stuff" "is_stuff" (fnArgs s_is_stuff) (fnBody s_is_stuff) (fnScope s_is_stuff) .none kV_is_stuff dc_is_stuff pm_is_stuff an_is_stuff cd_is_stuff ct_is_stuff), sl_is_stuff⟩)
    (c_is_stuff : PySem.W.codeIn K cd_is_stuff "is_stuff" = true)
    (k_is_stuff : PySem.W.keepIn K (.ref f_is_stuff) = true)
    (a_are_stuffs : PySem.W.nsIn K mainGlobals "are_stuffs" = some (some (.ref f_are_stuffs)))
    (l_are_stuffs : K.lookup f_are_stuffs = some ⟨oc_are_stuffs, od_are_stuffs, .func (PySem.W.fnOf "are_stuffs" "are_stuffs" (fnArgs s_are_stuffs) (fnBody s_are_stuffs) (fnScope s_are_stuffs) .none kV_are_stuffs dc_are_stuffs pm_are_stuffs an_are_stuffs cd_are_stuffs ct_are_stuffs), sl_are_stuffs⟩)
    (c_are_stuffs : PySem.W.codeIn K cd_are_stuffs "are_stuffs" = true)
    (k_are_stuffs : PySem.W.keepIn K (.ref f_are_stuffs) = true)
    (a_stuff_in : PySem.W.nsIn K mainGlobals "stuff_in" = some (some (.ref f_stuff_in)))
    (l_stuff_in : K.lookup f_stuff_in = some ⟨oc_stuff_in, od_stuff_in, .func (PySem.W.fnOf "stuff_in" "stuff_in" (fnArgs s_stuff_in) (fnBody s_stuff_in) (fnScope s_stuff_in) .none kV_stuff_in dc_stuff_in pm_stuff_in an_stuff_in cd_stuff_in ct_stuff_in), sl_stuff_in⟩)
    (c_stuff_in : PySem.W.codeIn K cd_stuff_in "stuff_in" = true)
    (k_stuff_in : PySem.W.keepIn K (.ref f_stuff_in) = true)
    (a_parting : PySem.W.nsIn K mainGlobals "parting" = some (some (.ref f_parting)))
    (l_parting : K.lookup f_parting = some ⟨oc_parting, od_parting, .func (PySem.W.fnOf "parting" "parting" (fnArgs s_parting) (fnBody s_parting) (fnScope s_parting) .none kV_parting dc_parting pm_parting an_parting cd_parting ct_parting), sl_parting⟩)
    (c_parting : PySem.W.codeIn K cd_parting "parting" = true)
    (k_parting : PySem.W.keepIn K (.ref f_parting) = true)
    (a_rule_with : PySem.W.nsIn K mainGlobals "rule_with" = some (some (.ref f_rule_with)))
    (l_rule_with : K.lookup f_rule_with = some ⟨oc_rule_with, od_rule_with, .func (PySem.W.fnOf "rule_with" "rule_with" (fnArgs s_rule_with) (fnBody s_rule_with) (fnScope s_rule_with) .none kV_rule_with dc_rule_with pm_rule_with an_rule_with cd_rule_with ct_rule_with), sl_rule_with⟩)
    (c_rule_with : PySem.W.codeIn K cd_rule_with "rule_with" = true)
    (k_rule_with : PySem.W.keepIn K (.ref f_rule_with) = true)
    (a_single_rules : PySem.W.nsIn K mainGlobals "single_rules" = some (some (.ref f_single_rules)))
    (l_single_rules : K.lookup f_single_rules = some ⟨oc_single_rules, od_single_rules, .func (PySem.W.fnOf "single_rules" "single_rules" (fnArgs s_single_rules) (fnBody s_single_rules) (fnScope s_single_rules) .none kV_single_rules dc_single_rules pm_single_rules an_single_rules cd_single_rules ct_single_rules), sl_single_rules⟩)
    (c_single_rules : PySem.W.codeIn K cd_single_rules "single_rules" = true)
    (k_single_rules : PySem.W.keepIn K (.ref f_single_rules) = true)
    (a_could_be : PySem.W.nsIn K mainGlobals "could_be" = some (some (.ref f_could_be)))
    (l_could_be : K.lookup f_could_be = some ⟨oc_could_be, od_could_be, .func (PySem.W.fnOf "could_be" "could_be" (fnArgs s_could_be) (fnBody s_could_be) (fnScope s_could_be) .none kV_could_be dc_could_be pm_could_be an_could_be cd_could_be ct_could_be), sl_could_be⟩)
    (c_could_be : PySem.W.codeIn K cd_could_be "could_be" = true)
    (k_could_be : PySem.W.keepIn K (.ref f_could_be) = true)
    (a_l_seed : PySem.W.nsIn K mainGlobals "_law_seed" = some (some (.ref f_l_seed)))
    (l_l_seed : K.lookup f_l_seed = some ⟨oc_l_seed, od_l_seed, .func (PySem.W.fnOf "_law_seed" "_law_seed" (fnArgs s_l_seed) (fnBody s_l_seed) (fnScope s_l_seed) .none kV_l_seed dc_l_seed pm_l_seed an_l_seed cd_l_seed ct_l_seed), sl_l_seed⟩)
    (c_l_seed : PySem.W.codeIn K cd_l_seed "_law_seed" = true)
    (k_l_seed : PySem.W.keepIn K (.ref f_l_seed) = true)
    (a_l_choose : PySem.W.nsIn K mainGlobals "_law_choose" = some (some (.ref f_l_choose)))
    (l_l_choose : K.lookup f_l_choose = some ⟨oc_l_choose, od_l_choose, .func (PySem.W.fnOf "_law_choose" "_law_choose" (fnArgs s_l_choose) (fnBody s_l_choose) (fnScope s_l_choose) .none kV_l_choose dc_l_choose pm_l_choose an_l_choose cd_l_choose ct_l_choose), sl_l_choose⟩)
    (c_l_choose : PySem.W.codeIn K cd_l_choose "_law_choose" = true)
    (k_l_choose : PySem.W.keepIn K (.ref f_l_choose) = true)
    (a_l_one_of : PySem.W.nsIn K mainGlobals "_law_one_of" = some (some (.ref f_l_one_of)))
    (l_l_one_of : K.lookup f_l_one_of = some ⟨oc_l_one_of, od_l_one_of, .func (PySem.W.fnOf "_law_one_of" "_law_one_of" (fnArgs s_l_one_of) (fnBody s_l_one_of) (fnScope s_l_one_of) .none kV_l_one_of dc_l_one_of pm_l_one_of an_l_one_of cd_l_one_of ct_l_one_of), sl_l_one_of⟩)
    (c_l_one_of : PySem.W.codeIn K cd_l_one_of "_law_one_of" = true)
    (k_l_one_of : PySem.W.keepIn K (.ref f_l_one_of) = true)
    (a_l_word : PySem.W.nsIn K mainGlobals "_law_word" = some (some (.ref f_l_word)))
    (l_l_word : K.lookup f_l_word = some ⟨oc_l_word, od_l_word, .func (PySem.W.fnOf "_law_word" "_law_word" (fnArgs s_l_word) (fnBody s_l_word) (fnScope s_l_word) .none kV_l_word dc_l_word pm_l_word an_l_word cd_l_word ct_l_word), sl_l_word⟩)
    (c_l_word : PySem.W.codeIn K cd_l_word "_law_word" = true)
    (k_l_word : PySem.W.keepIn K (.ref f_l_word) = true)
    (a_l_ends : PySem.W.nsIn K mainGlobals "_law_ends" = some (some (.ref f_l_ends)))
    (l_l_ends : K.lookup f_l_ends = some ⟨oc_l_ends, od_l_ends, .func (PySem.W.fnOf "_law_ends" "_law_ends" (fnArgs s_l_ends) (fnBody s_l_ends) (fnScope s_l_ends) .none kV_l_ends dc_l_ends pm_l_ends an_l_ends cd_l_ends ct_l_ends), sl_l_ends⟩)
    (c_l_ends : PySem.W.codeIn K cd_l_ends "_law_ends" = true)
    (k_l_ends : PySem.W.keepIn K (.ref f_l_ends) = true)
    (a_l_due : PySem.W.nsIn K mainGlobals "_law_due" = some (some (.ref f_l_due)))
    (l_l_due : K.lookup f_l_due = some ⟨oc_l_due, od_l_due, .func (PySem.W.fnOf "_law_due" "_law_due" (fnArgs s_l_due) (fnBody s_l_due) (fnScope s_l_due) .none kV_l_due dc_l_due pm_l_due an_l_due cd_l_due ct_l_due), sl_l_due⟩)
    (c_l_due : PySem.W.codeIn K cd_l_due "_law_due" = true)
    (k_l_due : PySem.W.keepIn K (.ref f_l_due) = true)
    (a_l_chain : PySem.W.nsIn K mainGlobals "_law_chain" = some (some (.ref f_l_chain)))
    (l_l_chain : K.lookup f_l_chain = some ⟨oc_l_chain, od_l_chain, .func (PySem.W.fnOf "_law_chain" "_law_chain" (fnArgs s_l_chain) (fnBody s_l_chain) (fnScope s_l_chain) .none kV_l_chain dc_l_chain pm_l_chain an_l_chain cd_l_chain ct_l_chain), sl_l_chain⟩)
    (c_l_chain : PySem.W.codeIn K cd_l_chain "_law_chain" = true)
    (k_l_chain : PySem.W.keepIn K (.ref f_l_chain) = true)
    (a_l_tails : PySem.W.nsIn K mainGlobals "_law_tails" = some (some (.ref f_l_tails)))
    (l_l_tails : K.lookup f_l_tails = some ⟨oc_l_tails, od_l_tails, .func (PySem.W.fnOf "_law_tails" "_law_tails" (fnArgs s_l_tails) (fnBody s_l_tails) (fnScope s_l_tails) .none kV_l_tails dc_l_tails pm_l_tails an_l_tails cd_l_tails ct_l_tails), sl_l_tails⟩)
    (c_l_tails : PySem.W.codeIn K cd_l_tails "_law_tails" = true)
    (k_l_tails : PySem.W.keepIn K (.ref f_l_tails) = true)
    (a_l_are_stuffs : PySem.W.nsIn K mainGlobals "_law_are_stuffs" = some (some (.ref f_l_are_stuffs)))
    (l_l_are_stuffs : K.lookup f_l_are_stuffs = some ⟨oc_l_are_stuffs, od_l_are_stuffs, .func (PySem.W.fnOf "_law_are_stuffs" "_law_are_stuffs" (fnArgs s_l_are_stuffs) (fnBody s_l_are_stuffs) (fnScope s_l_are_stuffs) .none kV_l_are_stuffs dc_l_are_stuffs pm_l_are_stuffs an_l_are_stuffs cd_l_are_stuffs ct_l_are_stuffs), sl_l_are_stuffs⟩)
    (c_l_are_stuffs : PySem.W.codeIn K cd_l_are_stuffs "_law_are_stuffs" = true)
    (k_l_are_stuffs : PySem.W.keepIn K (.ref f_l_are_stuffs) = true)
    (a_l_words : PySem.W.nsIn K mainGlobals "_law_words" = some (some (.ref f_l_words)))
    (l_l_words : K.lookup f_l_words = some ⟨oc_l_words, od_l_words, .func (PySem.W.fnOf "_law_words" "_law_words" (fnArgs s_l_words) (fnBody s_l_words) (fnScope s_l_words) .none kV_l_words dc_l_words pm_l_words an_l_words cd_l_words ct_l_words), sl_l_words⟩)
    (c_l_words : PySem.W.codeIn K cd_l_words "_law_words" = true)
    (k_l_words : PySem.W.keepIn K (.ref f_l_words) = true)
    (a_l_singles : PySem.W.nsIn K mainGlobals "_law_singles" = some (some (.ref f_l_singles)))
    (l_l_singles : K.lookup f_l_singles = some ⟨oc_l_singles, od_l_singles, .func (PySem.W.fnOf "_law_singles" "_law_singles" (fnArgs s_l_singles) (fnBody s_l_singles) (fnScope s_l_singles) .none kV_l_singles dc_l_singles pm_l_singles an_l_singles cd_l_singles ct_l_singles), sl_l_singles⟩)
    (c_l_singles : PySem.W.codeIn K cd_l_singles "_law_singles" = true)
    (k_l_singles : PySem.W.keepIn K (.ref f_l_singles) = true)
    (a_law : PySem.W.nsIn K mainGlobals "law" = some (some (.ref f_law)))
    (l_law : K.lookup f_law = some ⟨oc_law, od_law, .func (PySem.W.fnOf "law" "law" (fnArgs s_law) (fnBody s_law) (fnScope s_law) .none kV_law dc_law pm_law an_law cd_law ct_law), sl_law⟩)
    (c_law : PySem.W.codeIn K cd_law "law" = true)
    (k_law : PySem.W.keepIn K (.ref f_law) = true)
    (aC_Rule : PySem.W.nsIn K mainGlobals "Rule" = some (some (.ref C_Rule)))
    (pg_Rule : PySem.W.plainGet K C_Rule Str.empty = true)
    (hd_Rule : PySem.W.hasDictIn K C_Rule = true)
    (po_Rule : PySem.W.plainOver K C_Rule = true)
    (sa_Rule : PySem.W.findIn K (.ref C_Rule) "__setattr__" = some (some (.builtin "object.__setattr__")))
    (mk_Rule : PySem.W.makesIn K C_Rule = true)
    (kc_Rule : PySem.W.keepIn K (.ref C_Rule) = true)
    (n_Rule_flag : PySem.W.findIn K (.ref C_Rule) "flag" = some none)
    (n_Rule_stuffs : PySem.W.findIn K (.ref C_Rule) "stuffs" = some none)
    (a_Rule_put : PySem.W.findIn K (.ref C_Rule) "put" = some (some (.ref f_Rule_put)))
    (i_Rule_put : PySem.W.isFn K (.ref f_Rule_put) = true)
    (l_Rule_put : K.lookup f_Rule_put = some ⟨oc_Rule_put, od_Rule_put, .func (PySem.W.fnOf "put" "Rule.put" (fnArgs s_Rule_put) (fnBody s_Rule_put) (fnScope s_Rule_put) .none kV_Rule_put dc_Rule_put pm_Rule_put an_Rule_put cd_Rule_put ct_Rule_put), sl_Rule_put⟩)
    (c_Rule_put : PySem.W.codeIn K cd_Rule_put "Rule.put" = true)
    (k_Rule_put : PySem.W.keepIn K (.ref f_Rule_put) = true)
    (a_Rule_longest : PySem.W.findIn K (.ref C_Rule) "longest" = some (some (.ref p_Rule_longest)))
    (g_Rule_longest : PySem.W.specialIn K (.ref p_Rule_longest) "__get__" = some (some (.builtin "property.__get__")))
    (t_Rule_longest : PySem.W.takesIn K (.ref p_Rule_longest) = some true)
    (r_Rule_longest : PySem.W.recIn K p_Rule_longest "property" = some (.ref f_Rule_longest :: pr_Rule_longest))
    (l_Rule_longest : K.lookup f_Rule_longest = some ⟨oc_Rule_longest, od_Rule_longest, .func (PySem.W.fnOf "longest" "Rule.longest" (fnArgs s_Rule_longest) (fnBody s_Rule_longest) (fnScope s_Rule_longest) .none kV_Rule_longest dc_Rule_longest pm_Rule_longest an_Rule_longest cd_Rule_longest ct_Rule_longest), sl_Rule_longest⟩)
    (c_Rule_longest : PySem.W.codeIn K cd_Rule_longest "Rule.longest" = true)
    (a_Rule_put_in : PySem.W.findIn K (.ref C_Rule) "put_in" = some (some (.ref f_Rule_put_in)))
    (i_Rule_put_in : PySem.W.isFn K (.ref f_Rule_put_in) = true)
    (l_Rule_put_in : K.lookup f_Rule_put_in = some ⟨oc_Rule_put_in, od_Rule_put_in, .func (PySem.W.fnOf "put_in" "Rule.put_in" (fnArgs s_Rule_put_in) (fnBody s_Rule_put_in) (fnScope s_Rule_put_in) .none kV_Rule_put_in dc_Rule_put_in pm_Rule_put_in an_Rule_put_in cd_Rule_put_in ct_Rule_put_in), sl_Rule_put_in⟩)
    (c_Rule_put_in : PySem.W.codeIn K cd_Rule_put_in "Rule.put_in" = true)
    (k_Rule_put_in : PySem.W.keepIn K (.ref f_Rule_put_in) = true)
    (a_Rule_is_endless : PySem.W.findIn K (.ref C_Rule) "is_endless" = some (some (.ref f_Rule_is_endless)))
    (i_Rule_is_endless : PySem.W.isFn K (.ref f_Rule_is_endless) = true)
    (l_Rule_is_endless : K.lookup f_Rule_is_endless = some ⟨oc_Rule_is_endless, od_Rule_is_endless, .func (PySem.W.fnOf "is_endless" "Rule.is_endless" (fnArgs s_Rule_is_endless) (fnBody s_Rule_is_endless) (fnScope s_Rule_is_endless) .none kV_Rule_is_endless dc_Rule_is_endless pm_Rule_is_endless an_Rule_is_endless cd_Rule_is_endless ct_Rule_is_endless), sl_Rule_is_endless⟩)
    (c_Rule_is_endless : PySem.W.codeIn K cd_Rule_is_endless "Rule.is_endless" = true)
    (k_Rule_is_endless : PySem.W.keepIn K (.ref f_Rule_is_endless) = true)
    (a_Rule_init : PySem.W.findIn K (.ref C_Rule) "__init__" = some (some (.ref f_Rule_init)))
    (i_Rule_init : PySem.W.isFn K (.ref f_Rule_init) = true)
    (l_Rule_init : K.lookup f_Rule_init = some ⟨oc_Rule_init, od_Rule_init, .func (PySem.W.fnOf "__init__" "Rule.__init__" (fnArgs s_Rule_init) (fnBody s_Rule_init) (fnScope s_Rule_init) (.ref dT_Rule_init) kV_Rule_init dc_Rule_init pm_Rule_init an_Rule_init cd_Rule_init ct_Rule_init), sl_Rule_init⟩)
    (c_Rule_init : PySem.W.codeIn K cd_Rule_init "Rule.__init__" = true)
    (k_Rule_init : PySem.W.keepIn K (.ref f_Rule_init) = true)
    (dl_Rule_init : K.lookup dT_Rule_init = some ⟨.type "tuple", dd_Rule_init, .seq #[.ref dE_R] dn_Rule_init, ds_Rule_init⟩)
    (dlE_Rule : K.lookup dE_R = some ⟨.type "tuple", dde_R, .seq #[] dne_R, dse_R⟩)
    (a_Rule_read : PySem.W.findCls K (.ref C_Rule) (.type "type") "read" = some (.get (.builtin "classmethod.__get__") (.ref p_Rule_read) .none (.ref C_Rule)))
    (r_Rule_read : PySem.W.recIn K p_Rule_read "classmethod" = some (.ref f_Rule_read :: pr_Rule_read))
    (fi_Rule_read : PySem.W.fnIn K f_Rule_read = true)
    (l_Rule_read : K.lookup f_Rule_read = some ⟨oc_Rule_read, od_Rule_read, .func (PySem.W.fnOf "read" "Rule.read" (fnArgs s_Rule_read) (fnBody s_Rule_read) (fnScope s_Rule_read) .none kV_Rule_read dc_Rule_read pm_Rule_read an_Rule_read cd_Rule_read ct_Rule_read), sl_Rule_read⟩)
    (c_Rule_read : PySem.W.codeIn K cd_Rule_read "Rule.read" = true)
    (rd_Rule : PySem.W.readsIn K C_Rule (.type "type") = true)
    (ga_Rule : PySem.W.specialIn K (.ref C_Rule) "__getattribute__" = some (some (.builtin "type.__getattribute__")))
    (a_Rule_str : PySem.W.findIn K (.ref C_Rule) "__str__" = some (some (.ref f_Rule_str)))
    (i_Rule_str : PySem.W.isFn K (.ref f_Rule_str) = true)
    (l_Rule_str : K.lookup f_Rule_str = some ⟨oc_Rule_str, od_Rule_str, .func (PySem.W.fnOf "__str__" "Rule.__str__" (fnArgs s_Rule_str) (fnBody s_Rule_str) (fnScope s_Rule_str) .none kV_Rule_str dc_Rule_str pm_Rule_str an_Rule_str cd_Rule_str ct_Rule_str), sl_Rule_str⟩)
    (c_Rule_str : PySem.W.codeIn K cd_Rule_str "Rule.__str__" = true)
    (k_Rule_str : PySem.W.keepIn K (.ref f_Rule_str) = true)
    (aC_InvalidRule : PySem.W.nsIn K mainGlobals "InvalidRule" = some (some (.ref C_InvalidRule)))
    (elk_InvalidRule : K.lookup C_InvalidRule = some (excClassObj Enm_InvalidRule Eq_InvalidRule C_InvalidRule EN_InvalidRule Ebs_InvalidRule Ebm_InvalidRule true Esn_InvalidRule Esub_InvalidRule Eab_InvalidRule Ecol_InvalidRule Edd_InvalidRule E0_InvalidRule E1_InvalidRule E2_InvalidRule E3_InvalidRule E5_InvalidRule "ValueError.__new__"))
    (erf_InvalidRule : PySem.HandSPX.refsVE Ebm_InvalidRule = true)
    (sa_InvalidRule : PySem.W.findIn K (.ref C_InvalidRule) "__setattr__" = some (some (.builtin "object.__setattr__")))
    (exC_InvalidRule : PySem.W.subIn K (.ref C_InvalidRule) (.type "BaseException") = some true)
    (tyC_InvalidRule : PySem.W.typeIn K (.ref C_InvalidRule) = some (.type "type"))
    (kC_InvalidRule : PySem.W.keepIn K (.ref C_InvalidRule) = true)
    (no_InvalidRule : PySem.W.findIn K (.ref C_InvalidRule) "word" = some none)
    (a_InvalidRule : PySem.W.findIn K (.ref C_InvalidRule) "__init__" = some (some (.ref f_InvalidRule)))
    (t_InvalidRule : PySem.W.typeIn K (.ref f_InvalidRule) = some (.type "function"))
    (lk_InvalidRule : K.lookup f_InvalidRule = some ⟨oc_InvalidRule, od_InvalidRule, .func (PySem.W.fnX "__init__" "InvalidRule.__init__" (fnArgs s_InvalidRule_init) (fnBody s_InvalidRule_init) (fnScope s_InvalidRule_init) [("__class__", cc_InvalidRule)] .none kV_InvalidRule dc_InvalidRule pm_InvalidRule an_InvalidRule (.ref cda_InvalidRule) ct_InvalidRule), sl_InvalidRule⟩)
    (cd_InvalidRule : PySem.W.codeIn K (.ref cda_InvalidRule) "InvalidRule.__init__" = true)
    (cell_InvalidRule : K.lookup cc_InvalidRule = some ⟨cl_InvalidRule, cld_InvalidRule, .cell (some (.ref C_InvalidRule)), csl_InvalidRule⟩)
    (code_InvalidRule : K.lookup cda_InvalidRule = some ⟨ccl_InvalidRule, cdd_InvalidRule, .fields cvs_InvalidRule, ccs_InvalidRule⟩)
    (cfl_InvalidRule : cvs_InvalidRule[2]? = some (.str file_InvalidRule ctf_InvalidRule))
    (fl_InvalidRule : ((l.prog.main.file : Str) == file_InvalidRule) = true)
    (tp_InvalidRule : (l.prog.main.scope.names.lookup ("super" : Str)).isSome = false)
    (sub_InvalidRule : PySem.W.mroIn K C_InvalidRule (.ref C_InvalidRule) = some true)
    (sup_InvalidRule : PySem.W.nsIn K mainGlobals "super" = some none)
    (opq_InvalidRule : PySem.W.nsIn K cStatics "thirdparty.any" = some none)
    (ini_InvalidRule : PySem.W.ks_superIn K C_InvalidRule C_InvalidRule "__init__" = some (some (.builtin "ValueError.__init__")))
    (ve_InvalidRule : PySem.W.subIn K (.ref C_InvalidRule) (.type "ValueError") = some true)
    (ehd_InvalidRule : PySem.W.hasDictIn K C_InvalidRule = true)
    (esb_InvalidRule : PySem.W.subIn K (.ref C_InvalidRule) (.ref C_InvalidRule) = some true)
    (gBITS : PySem.W.nsIn K mainGlobals "BITS" = some (some (.str "01" tB)))
    (z_len : PySem.W.nsIn K mainGlobals "len" = some none)
    (z_abs : PySem.W.nsIn K mainGlobals "abs" = some none)
    (z_int : PySem.W.nsIn K mainGlobals "int" = some none)
    (z_range : PySem.W.nsIn K mainGlobals "range" = some none)
    (z_max : PySem.W.nsIn K mainGlobals "max" = some none)
    (z_min : PySem.W.nsIn K mainGlobals "min" = some none)
    (z_enumerate : PySem.W.nsIn K mainGlobals "enumerate" = some none)
    (z_zip : PySem.W.nsIn K mainGlobals "zip" = some none)
    (z_dict : PySem.W.nsIn K mainGlobals "dict" = some none)
    (z_list : PySem.W.nsIn K mainGlobals "list" = some none)
    (z_tuple : PySem.W.nsIn K mainGlobals "tuple" = some none)
    (z_isinstance : PySem.W.nsIn K mainGlobals "isinstance" = some none)
    (z_bool : PySem.W.nsIn K mainGlobals "bool" = some none)
    (z_str : PySem.W.nsIn K mainGlobals "str" = some none)
    (z_all : PySem.W.nsIn K mainGlobals "all" = some none)
    (z_any : PySem.W.nsIn K mainGlobals "any" = some none)
    (z_sum : PySem.W.nsIn K mainGlobals "sum" = some none)
    (z_sorted : PySem.W.nsIn K mainGlobals "sorted" = some none)
    (z_repr : PySem.W.nsIn K mainGlobals "repr" = some none) :
    ∃ fd : FuncData, (∀ (s : Shared) (v : Value), BindsTo s fd ⟨[v], []⟩ [("_law_script", v)]) ∧ ∀ base : Heap, K.In base → base.Ns mainGlobals mg → FnOk l.prog w K mg base CX0 11 fa fd ["_law_script"] (spLaw K) := by
  have e : f_law = fa := Value.ref.inj (Option.some.inj ((PySem.W.mg_of X G a_law).symm.trans hfa))
  subst e
  have T : Tx mg := ⟨PySem.W.mg_none_of X G z_len, PySem.W.mg_none_of X G z_abs, PySem.W.mg_none_of X G z_int, PySem.W.mg_none_of X G z_range, PySem.W.mg_none_of X G z_max, PySem.W.mg_none_of X G z_min, PySem.W.mg_none_of X G z_enumerate, PySem.W.mg_none_of X G z_zip, PySem.W.mg_none_of X G z_dict, PySem.W.mg_none_of X G z_list, PySem.W.mg_none_of X G z_tuple, PySem.W.mg_none_of X G z_isinstance, PySem.W.mg_none_of X G z_bool, PySem.W.mg_none_of X G z_str, PySem.W.mg_none_of X G z_all, PySem.W.mg_none_of X G z_any, PySem.W.mg_none_of X G z_sum, PySem.W.mg_none_of X G z_sorted, PySem.W.mg_none_of X G z_repr⟩
  have F_put_behind : Def K mg "put_behind" s_put_behind f_put_behind (PySem.W.fnOf "put_behind" "put_behind" (fnArgs s_put_behind) (fnBody s_put_behind) (fnScope s_put_behind) .none kV_put_behind dc_put_behind pm_put_behind an_put_behind cd_put_behind ct_put_behind) := ⟨⟨_, _, _, _, _, _, _, _, _, _, rfl, l_put_behind, c_put_behind⟩, PySem.W.mg_of X G a_put_behind, k_put_behind⟩
  have b_put_behind := C8.Fun.binds (ps := ["rule", "line"]) F_put_behind.fn rfl fun _ _ _ _ _ _ us hl => match us, hl with | [_, _], _ => rfl
  have F_body : Def K mg "body" s_body f_body (PySem.W.fnOf "body" "body" (fnArgs s_body) (fnBody s_body) (fnScope s_body) .none kV_body dc_body pm_body an_body cd_body ct_body) := ⟨⟨_, _, _, _, _, _, _, _, _, _, rfl, l_body, c_body⟩, PySem.W.mg_of X G a_body, k_body⟩
  have b_body := C8.Fun.binds (ps := ["rule", "message"]) F_body.fn rfl fun _ _ _ _ _ _ us hl => match us, hl with | [_, _], _ => rfl
  have F_is_sequence : Def K mg "is_sequence" s_is_sequence f_is_sequence (PySem.W.fnOf "is_sequence" "is_sequence" (fnArgs s_is_sequence) (fnBody s_is_sequence) (fnScope s_is_sequence) .none kV_is_sequence dc_is_sequence pm_is_sequence an_is_sequence cd_is_sequence ct_is_sequence) := ⟨⟨_, _, _, _, _, _, _, _, _, _, rfl, l_is_sequence, c_is_sequence⟩, PySem.W.mg_of X G a_is_sequence, k_is_sequence⟩
  have b_is_sequence := C8.Fun.binds (ps := ["value"]) F_is_sequence.fn rfl fun _ _ _ _ _ _ us hl => match us, hl with | [_], _ => rfl
  have F_is_word : Def K mg "is_word" s_is_word f_is_word (PySem.W.fnOf "is_word" "is_word" (fnArgs s_is_word) (fnBody s_is_word) (fnScope s_is_word) .none kV_is_word dc_is_word pm_is_word an_is_word cd_is_word ct_is_word) := ⟨⟨_, _, _, _, _, _, _, _, _, _, rfl, l_is_word, c_is_word⟩, PySem.W.mg_of X G a_is_word, k_is_word⟩
  have b_is_word := C8.Fun.binds (ps := ["value"]) F_is_word.fn rfl fun _ _ _ _ _ _ us hl => match us, hl with | [_], _ => rfl
  have F_is_bit : Def K mg "is_bit" s_is_bit f_is_bit (PySem.W.fnOf "is_bit" "is_bit" (fnArgs s_is_bit) (fnBody s_is_bit) (fnScope s_is_bit) .none kV_is_bit dc_is_bit pm_is_bit an_is_bit cd_is_bit ct_is_bit) := ⟨⟨_, _, _, _, _, _, _, _, _, _, rfl, l_is_bit, c_is_bit⟩, PySem.W.mg_of X G a_is_bit, k_is_bit⟩
  have b_is_bit := C8.Fun.binds (ps := ["value"]) F_is_bit.fn rfl fun _ _ _ _ _ _ us hl => match us, hl with | [_], _ => rfl
  have F_all_words : Def K mg "all_words" s_all_words f_all_words (PySem.W.fnOf "all_words" "all_words" (fnArgs s_all_words) (fnBody s_all_words) (fnScope s_all_words) .none kV_all_words dc_all_words pm_all_words an_all_words cd_all_words ct_all_words) := ⟨⟨_, _, _, _, _, _, _, _, _, _, rfl, l_all_words, c_all_words⟩, PySem.W.mg_of X G a_all_words, k_all_words⟩
  have b_all_words := C8.Fun.binds (ps := ["size"]) F_all_words.fn rfl fun _ _ _ _ _ _ us hl => match us, hl with | [_], _ => rfl
  have F_tail : Def K mg "tail" s_tail f_tail (PySem.W.fnOf "tail" "tail" (fnArgs s_tail) (fnBody s_tail) (fnScope s_tail) .none kV_tail dc_tail pm_tail an_tail cd_tail ct_tail) := ⟨⟨_, _, _, _, _, _, _, _, _, _, rfl, l_tail, c_tail⟩, PySem.W.mg_of X G a_tail, k_tail⟩
  have b_tail := C8.Fun.binds (ps := ["line", "size"]) F_tail.fn rfl fun _ _ _ _ _ _ us hl => match us, hl with | [_, _], _ => rfl
  have F_is_stuff : Def K mg "is_stuff" s_is_stuff f_is_stuff (PySem.W.fnOf "is_stuff" "is_stuff" (fnArgs s_is_stuff) (fnBody s_is_stuff) (fnScope s_is_stuff) .none kV_is_stuff dc_is_stuff pm_is_stuff an_is_stuff cd_is_stuff ct_is_stuff) := ⟨⟨_, _, _, _, _, _, _, _, _, _, rfl, l_is_stuff, c_is_stuff⟩, PySem.W.mg_of X G a_is_stuff, k_is_stuff⟩
  have b_is_stuff := C8.Fun.binds (ps := ["value"]) F_is_stuff.fn rfl fun _ _ _ _ _ _ us hl => match us, hl with | [_], _ => rfl
  have F_are_stuffs : Def K mg "are_stuffs" s_are_stuffs f_are_stuffs (PySem.W.fnOf "are_stuffs" "are_stuffs" (fnArgs s_are_stuffs) (fnBody s_are_stuffs) (fnScope s_are_stuffs) .none kV_are_stuffs dc_are_stuffs pm_are_stuffs an_are_stuffs cd_are_stuffs ct_are_stuffs) := ⟨⟨_, _, _, _, _, _, _, _, _, _, rfl, l_are_stuffs, c_are_stuffs⟩, PySem.W.mg_of X G a_are_stuffs, k_are_stuffs⟩
  have b_are_stuffs := C8.Fun.binds (ps := ["value"]) F_are_stuffs.fn rfl fun _ _ _ _ _ _ us hl => match us, hl with | [_], _ => rfl
  have F_stuff_in : Def K mg "stuff_in" s_stuff_in f_stuff_in (PySem.W.fnOf "stuff_in" "stuff_in" (fnArgs s_stuff_in) (fnBody s_stuff_in) (fnScope s_stuff_in) .none kV_stuff_in dc_stuff_in pm_stuff_in an_stuff_in cd_stuff_in ct_stuff_in) := ⟨⟨_, _, _, _, _, _, _, _, _, _, rfl, l_stuff_in, c_stuff_in⟩, PySem.W.mg_of X G a_stuff_in, k_stuff_in⟩
  have b_stuff_in := C8.Fun.binds (ps := ["word"]) F_stuff_in.fn rfl fun _ _ _ _ _ _ us hl => match us, hl with | [_], _ => rfl
  have F_parting : Def K mg "parting" s_parting f_parting (PySem.W.fnOf "parting" "parting" (fnArgs s_parting) (fnBody s_parting) (fnScope s_parting) .none kV_parting dc_parting pm_parting an_parting cd_parting ct_parting) := ⟨⟨_, _, _, _, _, _, _, _, _, _, rfl, l_parting, c_parting⟩, PySem.W.mg_of X G a_parting, k_parting⟩
  have b_parting := C8.Fun.binds (ps := ["p", "q"]) F_parting.fn rfl fun _ _ _ _ _ _ us hl => match us, hl with | [_, _], _ => rfl
  have F_rule_with : Def K mg "rule_with" s_rule_with f_rule_with (PySem.W.fnOf "rule_with" "rule_with" (fnArgs s_rule_with) (fnBody s_rule_with) (fnScope s_rule_with) .none kV_rule_with dc_rule_with pm_rule_with an_rule_with cd_rule_with ct_rule_with) := ⟨⟨_, _, _, _, _, _, _, _, _, _, rfl, l_rule_with, c_rule_with⟩, PySem.W.mg_of X G a_rule_with, k_rule_with⟩
  have b_rule_with := C8.Fun.binds (ps := ["flag", "pattern", "bit"]) F_rule_with.fn rfl fun _ _ _ _ _ _ us hl => match us, hl with | [_, _, _], _ => rfl
  have F_single_rules : Def K mg "single_rules" s_single_rules f_single_rules (PySem.W.fnOf "single_rules" "single_rules" (fnArgs s_single_rules) (fnBody s_single_rules) (fnScope s_single_rules) .none kV_single_rules dc_single_rules pm_single_rules an_single_rules cd_single_rules ct_single_rules) := ⟨⟨_, _, _, _, _, _, _, _, _, _, rfl, l_single_rules, c_single_rules⟩, PySem.W.mg_of X G a_single_rules, k_single_rules⟩
  have b_single_rules := C8.Fun.binds (ps := ["flag", "size"]) F_single_rules.fn rfl fun _ _ _ _ _ _ us hl => match us, hl with | [_, _], _ => rfl
  have F_could_be : Def K mg "could_be" s_could_be f_could_be (PySem.W.fnOf "could_be" "could_be" (fnArgs s_could_be) (fnBody s_could_be) (fnScope s_could_be) .none kV_could_be dc_could_be pm_could_be an_could_be cd_could_be ct_could_be) := ⟨⟨_, _, _, _, _, _, _, _, _, _, rfl, l_could_be, c_could_be⟩, PySem.W.mg_of X G a_could_be, k_could_be⟩
  have b_could_be := C8.Fun.binds (ps := ["flag", "size", "pairs"]) F_could_be.fn rfl fun _ _ _ _ _ _ us hl => match us, hl with | [_, _, _], _ => rfl
  have F_l_seed : Def K mg "_law_seed" s_l_seed f_l_seed (PySem.W.fnOf "_law_seed" "_law_seed" (fnArgs s_l_seed) (fnBody s_l_seed) (fnScope s_l_seed) .none kV_l_seed dc_l_seed pm_l_seed an_l_seed cd_l_seed ct_l_seed) := ⟨⟨_, _, _, _, _, _, _, _, _, _, rfl, l_l_seed, c_l_seed⟩, PySem.W.mg_of X G a_l_seed, k_l_seed⟩
  have b_l_seed := C8.Fun.binds (ps := ["_law_script", "_law_k"]) F_l_seed.fn rfl fun _ _ _ _ _ _ us hl => match us, hl with | [_, _], _ => rfl
  have F_l_choose : Def K mg "_law_choose" s_l_choose f_l_choose (PySem.W.fnOf "_law_choose" "_law_choose" (fnArgs s_l_choose) (fnBody s_l_choose) (fnScope s_l_choose) .none kV_l_choose dc_l_choose pm_l_choose an_l_choose cd_l_choose ct_l_choose) := ⟨⟨_, _, _, _, _, _, _, _, _, _, rfl, l_l_choose, c_l_choose⟩, PySem.W.mg_of X G a_l_choose, k_l_choose⟩
  have b_l_choose := C8.Fun.binds (ps := ["_law_box", "_law_many"]) F_l_choose.fn rfl fun _ _ _ _ _ _ us hl => match us, hl with | [_, _], _ => rfl
  have F_l_one_of : Def K mg "_law_one_of" s_l_one_of f_l_one_of (PySem.W.fnOf "_law_one_of" "_law_one_of" (fnArgs s_l_one_of) (fnBody s_l_one_of) (fnScope s_l_one_of) .none kV_l_one_of dc_l_one_of pm_l_one_of an_l_one_of cd_l_one_of ct_l_one_of) := ⟨⟨_, _, _, _, _, _, _, _, _, _, rfl, l_l_one_of, c_l_one_of⟩, PySem.W.mg_of X G a_l_one_of, k_l_one_of⟩
  have b_l_one_of := C8.Fun.binds (ps := ["_law_box", "_law_some"]) F_l_one_of.fn rfl fun _ _ _ _ _ _ us hl => match us, hl with | [_, _], _ => rfl
  have F_l_word : Def K mg "_law_word" s_l_word f_l_word (PySem.W.fnOf "_law_word" "_law_word" (fnArgs s_l_word) (fnBody s_l_word) (fnScope s_l_word) .none kV_l_word dc_l_word pm_l_word an_l_word cd_l_word ct_l_word) := ⟨⟨_, _, _, _, _, _, _, _, _, _, rfl, l_l_word, c_l_word⟩, PySem.W.mg_of X G a_l_word, k_l_word⟩
  have b_l_word := C8.Fun.binds (ps := ["_law_box", "_law_size"]) F_l_word.fn rfl fun _ _ _ _ _ _ us hl => match us, hl with | [_, _], _ => rfl
  have F_l_ends : Def K mg "_law_ends" s_l_ends f_l_ends (PySem.W.fnOf "_law_ends" "_law_ends" (fnArgs s_l_ends) (fnBody s_l_ends) (fnScope s_l_ends) .none kV_l_ends dc_l_ends pm_l_ends an_l_ends cd_l_ends ct_l_ends) := ⟨⟨_, _, _, _, _, _, _, _, _, _, rfl, l_l_ends, c_l_ends⟩, PySem.W.mg_of X G a_l_ends, k_l_ends⟩
  have b_l_ends := C8.Fun.binds (ps := ["_law_line", "_law_pattern"]) F_l_ends.fn rfl fun _ _ _ _ _ _ us hl => match us, hl with | [_, _], _ => rfl
  have F_l_due : Def K mg "_law_due" s_l_due f_l_due (PySem.W.fnOf "_law_due" "_law_due" (fnArgs s_l_due) (fnBody s_l_due) (fnScope s_l_due) .none kV_l_due dc_l_due pm_l_due an_l_due cd_l_due ct_l_due) := ⟨⟨_, _, _, _, _, _, _, _, _, _, rfl, l_l_due, c_l_due⟩, PySem.W.mg_of X G a_l_due, k_l_due⟩
  have b_l_due := C8.Fun.binds (ps := ["_law_stuffs", "_law_line"]) F_l_due.fn rfl fun _ _ _ _ _ _ us hl => match us, hl with | [_, _], _ => rfl
  have F_l_chain : Def K mg "_law_chain" s_l_chain f_l_chain (PySem.W.fnOf "_law_chain" "_law_chain" (fnArgs s_l_chain) (fnBody s_l_chain) (fnScope s_l_chain) .none kV_l_chain dc_l_chain pm_l_chain an_l_chain cd_l_chain ct_l_chain) := ⟨⟨_, _, _, _, _, _, _, _, _, _, rfl, l_l_chain, c_l_chain⟩, PySem.W.mg_of X G a_l_chain, k_l_chain⟩
  have b_l_chain := C8.Fun.binds (ps := ["_law_stuffs", "_law_line"]) F_l_chain.fn rfl fun _ _ _ _ _ _ us hl => match us, hl with | [_, _], _ => rfl
  have F_l_tails : Def K mg "_law_tails" s_l_tails f_l_tails (PySem.W.fnOf "_law_tails" "_law_tails" (fnArgs s_l_tails) (fnBody s_l_tails) (fnScope s_l_tails) .none kV_l_tails dc_l_tails pm_l_tails an_l_tails cd_l_tails ct_l_tails) := ⟨⟨_, _, _, _, _, _, _, _, _, _, rfl, l_l_tails, c_l_tails⟩, PySem.W.mg_of X G a_l_tails, k_l_tails⟩
  have b_l_tails := C8.Fun.binds (ps := ["_law_stuffs"]) F_l_tails.fn rfl fun _ _ _ _ _ _ us hl => match us, hl with | [_], _ => rfl
  have F_l_are_stuffs : Def K mg "_law_are_stuffs" s_l_are_stuffs f_l_are_stuffs (PySem.W.fnOf "_law_are_stuffs" "_law_are_stuffs" (fnArgs s_l_are_stuffs) (fnBody s_l_are_stuffs) (fnScope s_l_are_stuffs) .none kV_l_are_stuffs dc_l_are_stuffs pm_l_are_stuffs an_l_are_stuffs cd_l_are_stuffs ct_l_are_stuffs) := ⟨⟨_, _, _, _, _, _, _, _, _, _, rfl, l_l_are_stuffs, c_l_are_stuffs⟩, PySem.W.mg_of X G a_l_are_stuffs, k_l_are_stuffs⟩
  have b_l_are_stuffs := C8.Fun.binds (ps := ["_law_stuffs"]) F_l_are_stuffs.fn rfl fun _ _ _ _ _ _ us hl => match us, hl with | [_], _ => rfl
  have F_l_words : Def K mg "_law_words" s_l_words f_l_words (PySem.W.fnOf "_law_words" "_law_words" (fnArgs s_l_words) (fnBody s_l_words) (fnScope s_l_words) .none kV_l_words dc_l_words pm_l_words an_l_words cd_l_words ct_l_words) := ⟨⟨_, _, _, _, _, _, _, _, _, _, rfl, l_l_words, c_l_words⟩, PySem.W.mg_of X G a_l_words, k_l_words⟩
  have b_l_words := C8.Fun.binds (ps := ["_law_size"]) F_l_words.fn rfl fun _ _ _ _ _ _ us hl => match us, hl with | [_], _ => rfl
  have F_l_singles : Def K mg "_law_singles" s_l_singles f_l_singles (PySem.W.fnOf "_law_singles" "_law_singles" (fnArgs s_l_singles) (fnBody s_l_singles) (fnScope s_l_singles) .none kV_l_singles dc_l_singles pm_l_singles an_l_singles cd_l_singles ct_l_singles) := ⟨⟨_, _, _, _, _, _, _, _, _, _, rfl, l_l_singles, c_l_singles⟩, PySem.W.mg_of X G a_l_singles, k_l_singles⟩
  have b_l_singles := C8.Fun.binds (ps := ["_law_most"]) F_l_singles.fn rfl fun _ _ _ _ _ _ us hl => match us, hl with | [_], _ => rfl
  have F_law : Def K mg "law" s_law f_law (PySem.W.fnOf "law" "law" (fnArgs s_law) (fnBody s_law) (fnScope s_law) .none kV_law dc_law pm_law an_law cd_law ct_law) := ⟨⟨_, _, _, _, _, _, _, _, _, _, rfl, l_law, c_law⟩, PySem.W.mg_of X G a_law, k_law⟩
  have b_law := C8.Fun.binds (ps := ["_law_script"]) F_law.fn rfl fun _ _ _ _ _ _ us hl => match us, hl with | [_], _ => rfl
  have TX_InvalidRule : L2.OexC K C_InvalidRule := ⟨⟨_, _, _, _, _, _, _, _, _, _, _, _, _, _, _, elk_InvalidRule, erf_InvalidRule⟩, sa_InvalidRule, exC_InvalidRule, tyC_InvalidRule, kC_InvalidRule⟩
  have EF_InvalidRule : ExS.ExF l.prog K mg C_InvalidRule "word" f_InvalidRule cc_InvalidRule cda_InvalidRule file_InvalidRule := ⟨TX_InvalidRule, no_InvalidRule, ⟨_, _, _, cell_InvalidRule⟩, ⟨_, _, _, _, _, code_InvalidRule, cfl_InvalidRule⟩, fl_InvalidRule, tp_InvalidRule, sub_InvalidRule, PySem.W.mg_none_of X G sup_InvalidRule, opq_InvalidRule, ini_InvalidRule, ve_InvalidRule⟩
  have g_InvalidRule := PySem.W.mg_of X G aC_InvalidRule
  have ex_InvalidRule := PySem.W.exm_ref exC_InvalidRule ehd_InvalidRule tyC_InvalidRule esb_InvalidRule
  have CL_Rule : Cls K C_Rule := ⟨pg_Rule, hd_Rule, po_Rule, sa_Rule⟩
  have F_Rule_put : C8.Fun K "put" "Rule.put" s_Rule_put f_Rule_put (PySem.W.fnOf "put" "Rule.put" (fnArgs s_Rule_put) (fnBody s_Rule_put) (fnScope s_Rule_put) .none kV_Rule_put dc_Rule_put pm_Rule_put an_Rule_put cd_Rule_put ct_Rule_put) := ⟨_, _, _, _, _, _, _, _, _, _, rfl, l_Rule_put, c_Rule_put⟩
  have b_Rule_put := C8.Fun.binds (ps := ["self", "line"]) F_Rule_put rfl fun _ _ _ _ _ _ us hl => match us, hl with | [_, _], _ => rfl
  have F_Rule_longest : C8.Fun K "longest" "Rule.longest" s_Rule_longest f_Rule_longest (PySem.W.fnOf "longest" "Rule.longest" (fnArgs s_Rule_longest) (fnBody s_Rule_longest) (fnScope s_Rule_longest) .none kV_Rule_longest dc_Rule_longest pm_Rule_longest an_Rule_longest cd_Rule_longest ct_Rule_longest) := ⟨_, _, _, _, _, _, _, _, _, _, rfl, l_Rule_longest, c_Rule_longest⟩
  have b_Rule_longest := C8.Fun.binds (ps := ["self"]) F_Rule_longest rfl fun _ _ _ _ _ _ us hl => match us, hl with | [_], _ => rfl
  have F_Rule_put_in : C8.Fun K "put_in" "Rule.put_in" s_Rule_put_in f_Rule_put_in (PySem.W.fnOf "put_in" "Rule.put_in" (fnArgs s_Rule_put_in) (fnBody s_Rule_put_in) (fnScope s_Rule_put_in) .none kV_Rule_put_in dc_Rule_put_in pm_Rule_put_in an_Rule_put_in cd_Rule_put_in ct_Rule_put_in) := ⟨_, _, _, _, _, _, _, _, _, _, rfl, l_Rule_put_in, c_Rule_put_in⟩
  have b_Rule_put_in := C8.Fun.binds (ps := ["self", "line"]) F_Rule_put_in rfl fun _ _ _ _ _ _ us hl => match us, hl with | [_, _], _ => rfl
  have F_Rule_is_endless : C8.Fun K "is_endless" "Rule.is_endless" s_Rule_is_endless f_Rule_is_endless (PySem.W.fnOf "is_endless" "Rule.is_endless" (fnArgs s_Rule_is_endless) (fnBody s_Rule_is_endless) (fnScope s_Rule_is_endless) .none kV_Rule_is_endless dc_Rule_is_endless pm_Rule_is_endless an_Rule_is_endless cd_Rule_is_endless ct_Rule_is_endless) := ⟨_, _, _, _, _, _, _, _, _, _, rfl, l_Rule_is_endless, c_Rule_is_endless⟩
  have b_Rule_is_endless := C8.Fun.binds (ps := ["self"]) F_Rule_is_endless rfl fun _ _ _ _ _ _ us hl => match us, hl with | [_], _ => rfl
  have F_Rule_init : C8.Fun K "__init__" "Rule.__init__" s_Rule_init f_Rule_init (PySem.W.fnOf "__init__" "Rule.__init__" (fnArgs s_Rule_init) (fnBody s_Rule_init) (fnScope s_Rule_init) (.ref dT_Rule_init) kV_Rule_init dc_Rule_init pm_Rule_init an_Rule_init cd_Rule_init ct_Rule_init) := ⟨_, _, _, _, _, _, _, _, _, _, rfl, l_Rule_init, c_Rule_init⟩
  have FD_Rule_init : FunD K "__init__" "Rule.__init__" (fnArgs s_Rule_init) (fnBody s_Rule_init) (fnScope s_Rule_init) [.ref dE_R] [] f_Rule_init (PySem.W.fnOf "__init__" "Rule.__init__" (fnArgs s_Rule_init) (fnBody s_Rule_init) (fnScope s_Rule_init) (.ref dT_Rule_init) kV_Rule_init dc_Rule_init pm_Rule_init an_Rule_init cd_Rule_init ct_Rule_init) := ⟨⟨_, _, _, _, _, _, _, _, _, _, rfl, l_Rule_init, c_Rule_init, .inr ⟨List.cons_ne_nil _ _, _, _, _, _, rfl, dl_Rule_init, rfl, .cons rfl .nil⟩, .inl rfl⟩, k_Rule_init⟩
  obtain ⟨ds0_Rule_init, vd0_Rule_init, bd0_Rule_init⟩ := FD_Rule_init.binds1 (ps := ["self", "flag", "stuffs"]) 2 0 (List.cons_ne_nil _ _) rfl fun _ _ _ _ _ _ _ us its h1 h2 => match us, its, h1, h2 with | [_, _], [_], _, _ => ⟨_, rfl, rfl⟩
  obtain ⟨ds1_Rule_init, vd1_Rule_init, bd1_Rule_init⟩ := FD_Rule_init.binds1 (ps := ["self", "flag", "stuffs"]) 3 1 (List.cons_ne_nil _ _) rfl fun _ _ _ _ _ _ _ us its h1 h2 => match us, its, h1, h2 with | [_, _, _], [_], _, _ => ⟨_, rfl, rfl⟩
  have F_Rule_read : C8.Fun K "read" "Rule.read" s_Rule_read f_Rule_read (PySem.W.fnOf "read" "Rule.read" (fnArgs s_Rule_read) (fnBody s_Rule_read) (fnScope s_Rule_read) .none kV_Rule_read dc_Rule_read pm_Rule_read an_Rule_read cd_Rule_read ct_Rule_read) := ⟨_, _, _, _, _, _, _, _, _, _, rfl, l_Rule_read, c_Rule_read⟩
  have b_Rule_read := C8.Fun.binds (ps := ["cls", "text"]) F_Rule_read rfl fun _ _ _ _ _ _ us hl => match us, hl with | [_, _], _ => rfl
  have F_Rule_str : C8.Fun K "__str__" "Rule.__str__" s_Rule_str f_Rule_str (PySem.W.fnOf "__str__" "Rule.__str__" (fnArgs s_Rule_str) (fnBody s_Rule_str) (fnScope s_Rule_str) .none kV_Rule_str dc_Rule_str pm_Rule_str an_Rule_str cd_Rule_str ct_Rule_str) := ⟨_, _, _, _, _, _, _, _, _, _, rfl, l_Rule_str, c_Rule_str⟩
  have b_Rule_str := C8.Fun.binds (ps := ["self"]) F_Rule_str rfl fun _ _ _ _ _ _ us hl => match us, hl with | [_], _ => rfl
  refine ⟨PySem.W.fnOf "law" "law" (fnArgs s_law) (fnBody s_law) (fnScope s_law) .none kV_law dc_law pm_law an_law cd_law ct_law, fun s v => .of_eq rfl, fun base _ _ => ?_⟩
  have RT : RuT K C_Rule := ⟨CL_Rule, n_Rule_flag, n_Rule_stuffs⟩
  have c_l_seed := cal_l_seed (P := l.prog) (w := w) (base := base) F_l_seed b_l_seed T
  have c_l_choose := cal_l_choose (P := l.prog) (w := w) (base := base) F_l_choose b_l_choose T
  have c_l_one_of := cal_l_one_of (P := l.prog) (w := w) (base := base) F_l_one_of b_l_one_of T c_l_choose
  have c_l_word := cal_l_word (P := l.prog) (w := w) (base := base) F_l_word b_l_word T c_l_one_of
  have c_l_words := cal_l_words (P := l.prog) (w := w) (base := base) F_l_words b_l_words T
  have c_l_ends := cal_l_ends (P := l.prog) (w := w) (base := base) F_l_ends b_l_ends T
  have c_l_due := cal_l_due (P := l.prog) (w := w) (base := base) F_l_due b_l_due T c_l_ends
  have c_l_chain := cal_l_chain (P := l.prog) (w := w) (base := base) F_l_chain b_l_chain T c_l_due
  have c_l_tails := cal_l_tails (P := l.prog) (w := w) (base := base) F_l_tails b_l_tails T c_l_chain
  have c_l_are_stuffs := cal_l_are_stuffs (P := l.prog) (w := w) (base := base) F_l_are_stuffs b_l_are_stuffs T c_l_ends c_l_tails
  have c_l_singles := cal_l_singles (P := l.prog) (w := w) (base := base) F_l_singles b_l_singles T c_l_words c_l_are_stuffs
  have g_BITS := PySem.W.mg_of X G gBITS
  have c_is_word := cal_is_word (P := l.prog) (w := w) (base := base) F_is_word b_is_word T g_BITS
  have c_is_sequence := cal_is_sequence (P := l.prog) (w := w) (base := base) F_is_sequence b_is_sequence T
  have c_is_bit := cal_is_bit (P := l.prog) (w := w) (base := base) F_is_bit b_is_bit T c_is_word
  have c_is_stuff := cal_is_stuff (P := l.prog) (w := w) (base := base) F_is_stuff b_is_stuff T c_is_word c_is_bit
  have c_are_stuffs := cal_are_stuffs (P := l.prog) (w := w) (base := base) F_are_stuffs b_are_stuffs T c_is_sequence c_is_stuff
  have c_put := met_put (P := l.prog) (w := w) (base := base) F_Rule_put ⟨a_Rule_put, i_Rule_put, k_Rule_put⟩ b_Rule_put T RT
  have p_longest : Prp l.prog w K mg base 1 C_Rule "longest" (spLongest C_Rule) := ⟨_, _, _, _, CL_Rule, ⟨a_Rule_longest, g_Rule_longest, t_Rule_longest, ⟨_, r_Rule_longest⟩⟩, ok_longest F_Rule_longest T RT, b_Rule_longest⟩
  have c_tail := cal_tail (P := l.prog) (w := w) (base := base) F_tail b_tail T
  have c_put_in := met_put_in (P := l.prog) (w := w) (base := base) F_Rule_put_in ⟨a_Rule_put_in, i_Rule_put_in, k_Rule_put_in⟩ b_Rule_put_in T RT c_put p_longest c_tail
  have c_is_endless := met_is_endless (P := l.prog) (w := w) (base := base) F_Rule_is_endless ⟨a_Rule_is_endless, i_Rule_is_endless, k_Rule_is_endless⟩ b_Rule_is_endless T RT g_BITS c_put_in p_longest c_tail
  have M_Rule : Mk K C_Rule f_Rule_init := ⟨mk_Rule, a_Rule_init, i_Rule_init, kc_Rule⟩
  have i_ok_Rule := ok_Rule_init (P := l.prog) (w := w) (base := base) F_Rule_init T RT c_is_word c_are_stuffs c_is_endless
  have m_Rule2 : Mak l.prog w K mg base 5 "Rule" C_Rule (spRuInit K C_Rule) [] := ⟨_, _, _, _, M_Rule, i_ok_Rule, PySem.W.mg_of X G aC_Rule, bd1_Rule_init, vd1_Rule_init⟩
  have c_stuff_in := cal_stuff_in (P := l.prog) (w := w) (base := base) F_stuff_in b_stuff_in T c_is_stuff
  have cm_Rule_read : CMt l.prog w K mg base 7 "Rule" C_Rule "read" (spRuRead C_Rule) := ⟨_, _, _, _, _, PySem.W.mg_of X G aC_Rule, ⟨rd_Rule, ga_Rule⟩, ⟨a_Rule_read, ⟨_, r_Rule_read⟩, fi_Rule_read⟩, ok_Rule_read F_Rule_read T RT c_is_word c_stuff_in m_Rule2, b_Rule_read⟩
  have c_Rule_str := met_Rule_str (P := l.prog) (w := w) (base := base) F_Rule_str ⟨a_Rule_str, i_Rule_str, k_Rule_str⟩ b_Rule_str T RT
  have c_put_behind := cal_put_behind (P := l.prog) (w := w) (base := base) F_put_behind b_put_behind T c_put
  have c_body := cal_body (P := l.prog) (w := w) (base := base) F_body b_body T c_put_behind
  have c_parting := cal_parting (P := l.prog) (w := w) (base := base) F_parting b_parting T g_BITS c_put_behind c_tail p_longest
  have c_all_words := cal_all_words (P := l.prog) (w := w) (base := base) F_all_words b_all_words T g_BITS
  have x_InvalidRule : ExS.XMk l.prog w K mg base 1 "InvalidRule" C_InvalidRule "word" := ⟨f_InvalidRule, _, ["self", "word"], TX_InvalidRule, a_InvalidRule, t_InvalidRule, ExS.fn_exc (self := "self") (word := "word") (text := "wrong argument of a rule") (k := 0) EF_InvalidRule lk_InvalidRule cd_InvalidRule (NdefX.nscope_by (by decide +kernel)) (by decide +kernel) rfl rfl ⟨_, _, _, _, _, _, _, _, _, _, _, _, rfl, rfl⟩ (by decide) (by decide) (by decide) (by decide), .all (fun us hl => match us, hl with | [_, _], _ => rfl), g_InvalidRule⟩
  have c_put_inX := met_put_inX (P := l.prog) (w := w) (base := base) F_Rule_put_in ⟨a_Rule_put_in, i_Rule_put_in, k_Rule_put_in⟩ b_Rule_put_in T RT c_put p_longest c_tail
  have c_is_endlessX := met_is_endlessX (P := l.prog) (w := w) (base := base) F_Rule_is_endless ⟨a_Rule_is_endless, i_Rule_is_endless, k_Rule_is_endless⟩ b_Rule_is_endless T RT g_BITS c_put_inX p_longest c_tail
  have i_okX_Rule := ok_Rule_initX (P := l.prog) (w := w) (base := base) F_Rule_init T RT x_InvalidRule c_is_word c_are_stuffs c_is_endlessX
  have mX_Rule2 : ExS.MakX l.prog w K mg base 5 "Rule" C_Rule (spRuInitX K C_Rule C_InvalidRule) [] := ⟨_, _, _, _, M_Rule, i_okX_Rule, PySem.W.mg_of X G aC_Rule, bd1_Rule_init, vd1_Rule_init⟩
  have c_rule_with := cal_rule_with (P := l.prog) (w := w) (base := base) F_rule_with b_rule_with T g_InvalidRule ex_InvalidRule mX_Rule2
  have c_single_rules := cal_single_rules (P := l.prog) (w := w) (base := base) F_single_rules b_single_rules T g_BITS c_all_words c_rule_with
  have c_could_be := cal_could_be (P := l.prog) (w := w) (base := base) F_could_be b_could_be T RT c_single_rules c_body c_Rule_str
  exact ok_law F_law T RT c_l_seed c_l_choose c_l_one_of c_l_word c_l_singles m_Rule2 cm_Rule_read c_Rule_str c_body c_parting c_could_be
theorem walk {l : PySem.W.OpenLaw} {q : Program} {loose : List Str} {XP : (Str → Option Value) → Heap → Prop} {YP : World → Heap → Prop} {d : DefRec} {K : Params → PySem.W.Frag} (hn : l.most = some 63) (hdf : d.params.defaults = [])
    (hY : ∀ (w : World) (h : Heap), YP w h → (K w.params).In h)
    (F : ∀ (w : World) (mg : Str → Option Value) (fa : Addr) (h : Heap), (K w.params).In h → h.Ns mainGlobals mg → mg d.name = some (.ref fa) →
      ∃ fd : FuncData, (∀ (s : Shared) (u : Value), BindsTo s fd ⟨[u], []⟩ [("_law_script", u)]) ∧ ∀ base : Heap, (K w.params).In base → base.Ns mainGlobals mg → FnOk l.prog w (K w.params) mg base CX0 11 fa fd ["_law_script"] (spLaw (K w.params))) :
    PySem.W.WalkO q loose XP YP l.row.toRowW d [] (fun f vs => PySem.call f vs) :=
  L2.walk_of (n := 63) (k := 11) (x := "_law_script") (CX := fun _ => CX0) (sp := fun w => spLaw (K w.params)) hn (by decide) hdf ⟨rfl, by decide, by decide⟩ hY F (fun _ _ a ns hl _ hS => ⟨a, ns, rfl, hS, hl, fun _ => rfl⟩) fun _ _ _ _ _ z => z
end U

set_option pp.maxSteps 300
open PySem PySem.W PyProof.Rows
set_option maxRecDepth 100000 in
set_option maxHeartbeats 0 in
theorem PySem.Challenge.cw_unseenflips_k47_whole_rules_that_are_lef_holds : PySem.Challenge.rw_unseenflips_k47_whole_rules_that_are_lef.Holds := by
  w_on; o_law; k_head; (case hw => w_witness2)
  k_fill
  refine U.walk (l := PySem.Challenge.rw_unseenflips_k47_whole_rules_that_are_lef) rfl rfl (fun w h Y => PySem.W.kIn_of Y) ?F
  case F =>
    intro w mg fa h KX G hmg
    refine' U.all_mk KX G hmg ?a_put_behind ?l_put_behind ?c_put_behind ?k_put_behind ?a_body ?l_body ?c_body ?k_body ?a_is_sequence ?l_is_sequence ?c_is_sequence ?k_is_sequence ?a_is_word ?l_is_word ?c_is_word ?k_is_word ?a_is_bit ?l_is_bit ?c_is_bit ?k_is_bit ?a_all_words ?l_all_words ?c_all_words ?k_all_words ?a_tail ?l_tail ?c_tail ?k_tail ?a_is_stuff ?l_is_stuff ?c_is_stuff ?k_is_stuff ?a_are_stuffs ?l_are_stuffs ?c_are_stuffs ?k_are_stuffs ?a_stuff_in ?l_stuff_in ?c_stuff_in ?k_stuff_in ?a_parting ?l_parting ?c_parting ?k_parting ?a_rule_with ?l_rule_with ?c_rule_with ?k_rule_with ?a_single_rules ?l_single_rules ?c_single_rules ?k_single_rules ?a_could_be ?l_could_be ?c_could_be ?k_could_be ?a_l_seed ?l_l_seed ?c_l_seed ?k_l_seed ?a_l_choose ?l_l_choose ?c_l_choose ?k_l_choose ?a_l_one_of ?l_l_one_of ?c_l_one_of ?k_l_one_of ?a_l_word ?l_l_word ?c_l_word ?k_l_word ?a_l_ends ?l_l_ends ?c_l_ends ?k_l_ends ?a_l_due ?l_l_due ?c_l_due ?k_l_due ?a_l_chain ?l_l_chain ?c_l_chain ?k_l_chain ?a_l_tails ?l_l_tails ?c_l_tails ?k_l_tails ?a_l_are_stuffs ?l_l_are_stuffs ?c_l_are_stuffs ?k_l_are_stuffs ?a_l_words ?l_l_words ?c_l_words ?k_l_words ?a_l_singles ?l_l_singles ?c_l_singles ?k_l_singles ?a_law ?l_law ?c_law ?k_law ?aC_Rule ?pg_Rule ?hd_Rule ?po_Rule ?sa_Rule ?mk_Rule ?kc_Rule ?n_Rule_flag ?n_Rule_stuffs ?a_Rule_put ?i_Rule_put ?l_Rule_put ?c_Rule_put ?k_Rule_put ?a_Rule_longest ?g_Rule_longest ?t_Rule_longest ?r_Rule_longest ?l_Rule_longest ?c_Rule_longest ?a_Rule_put_in ?i_Rule_put_in ?l_Rule_put_in ?c_Rule_put_in ?k_Rule_put_in ?a_Rule_is_endless ?i_Rule_is_endless ?l_Rule_is_endless ?c_Rule_is_endless ?k_Rule_is_endless ?a_Rule_init ?i_Rule_init ?l_Rule_init ?c_Rule_init ?k_Rule_init ?dl_Rule_init ?dlE_Rule ?a_Rule_read ?r_Rule_read ?fi_Rule_read ?l_Rule_read ?c_Rule_read ?rd_Rule ?ga_Rule ?a_Rule_str ?i_Rule_str ?l_Rule_str ?c_Rule_str ?k_Rule_str ?aC_InvalidRule ?elk_InvalidRule ?erf_InvalidRule ?sa_InvalidRule ?exC_InvalidRule ?tyC_InvalidRule ?kC_InvalidRule ?no_InvalidRule ?a_InvalidRule ?t_InvalidRule ?lk_InvalidRule ?cd_InvalidRule ?cell_InvalidRule ?code_InvalidRule ?cfl_InvalidRule ?fl_InvalidRule ?tp_InvalidRule ?sub_InvalidRule ?sup_InvalidRule ?opq_InvalidRule ?ini_InvalidRule ?ve_InvalidRule ?ehd_InvalidRule ?esb_InvalidRule ?gBITS ?z_len ?z_abs ?z_int ?z_range ?z_max ?z_min ?z_enumerate ?z_zip ?z_dict ?z_list ?z_tuple ?z_isinstance ?z_bool ?z_str ?z_all ?z_any ?z_sum ?z_sorted ?z_repr
    (case a_put_behind => k_is)
    (case l_put_behind => k_is)
    (case c_put_behind => k_is)
    (case k_put_behind => k_is)
    (case a_body => k_is)
    (case l_body => k_is)
    (case c_body => k_is)
    (case k_body => k_is)
    (case a_is_sequence => k_is)
    (case l_is_sequence => k_is)
    (case c_is_sequence => k_is)
    (case k_is_sequence => k_is)
    (case a_is_word => k_is)
    (case l_is_word => k_is)
    (case c_is_word => k_is)
    (case k_is_word => k_is)
    (case a_is_bit => k_is)
    (case l_is_bit => k_is)
    (case c_is_bit => k_is)
    (case k_is_bit => k_is)
    (case a_all_words => k_is)
    (case l_all_words => k_is)
    (case c_all_words => k_is)
    (case k_all_words => k_is)
    (case a_tail => k_is)
    (case l_tail => k_is)
    (case c_tail => k_is)
    (case k_tail => k_is)
    (case a_is_stuff => k_is)
    (case l_is_stuff => k_is)
    (case c_is_stuff => k_is)
    (case k_is_stuff => k_is)
    (case a_are_stuffs => k_is)
    (case l_are_stuffs => k_is)
    (case c_are_stuffs => k_is)
    (case k_are_stuffs => k_is)
    (case a_stuff_in => k_is)
    (case l_stuff_in => k_is)
    (case c_stuff_in => k_is)
    (case k_stuff_in => k_is)
    (case a_parting => k_is)
    (case l_parting => k_is)
    (case c_parting => k_is)
    (case k_parting => k_is)
    (case a_rule_with => k_is)
    (case l_rule_with => k_is)
    (case c_rule_with => k_is)
    (case k_rule_with => k_is)
    (case a_single_rules => k_is)
    (case l_single_rules => k_is)
    (case c_single_rules => k_is)
    (case k_single_rules => k_is)
    (case a_could_be => k_is)
    (case l_could_be => k_is)
    (case c_could_be => k_is)
    (case k_could_be => k_is)
    (case a_l_seed => k_is)
    (case l_l_seed => k_is)
    (case c_l_seed => k_is)
    (case k_l_seed => k_is)
    (case a_l_choose => k_is)
    (case l_l_choose => k_is)
    (case c_l_choose => k_is)
    (case k_l_choose => k_is)
    (case a_l_one_of => k_is)
    (case l_l_one_of => k_is)
    (case c_l_one_of => k_is)
    (case k_l_one_of => k_is)
    (case a_l_word => k_is)
    (case l_l_word => k_is)
    (case c_l_word => k_is)
    (case k_l_word => k_is)
    (case a_l_ends => k_is)
    (case l_l_ends => k_is)
    (case c_l_ends => k_is)
    (case k_l_ends => k_is)
    (case a_l_due => k_is)
    (case l_l_due => k_is)
    (case c_l_due => k_is)
    (case k_l_due => k_is)
    (case a_l_chain => k_is)
    (case l_l_chain => k_is)
    (case c_l_chain => k_is)
    (case k_l_chain => k_is)
    (case a_l_tails => k_is)
    (case l_l_tails => k_is)
    (case c_l_tails => k_is)
    (case k_l_tails => k_is)
    (case a_l_are_stuffs => k_is)
    (case l_l_are_stuffs => k_is)
    (case c_l_are_stuffs => k_is)
    (case k_l_are_stuffs => k_is)
    (case a_l_words => k_is)
    (case l_l_words => k_is)
    (case c_l_words => k_is)
    (case k_l_words => k_is)
    (case a_l_singles => k_is)
    (case l_l_singles => k_is)
    (case c_l_singles => k_is)
    (case k_l_singles => k_is)
    (case a_law => k_is)
    (case l_law => k_is)
    (case c_law => k_is)
    (case k_law => k_is)
    (case aC_Rule => k_is)
    (case pg_Rule => k_is)
    (case hd_Rule => k_is)
    (case po_Rule => k_is)
    (case sa_Rule => k_is)
    (case mk_Rule => k_is)
    (case kc_Rule => k_is)
    (case n_Rule_flag => k_is)
    (case n_Rule_stuffs => k_is)
    (case a_Rule_put => k_is)
    (case i_Rule_put => k_is)
    (case l_Rule_put => k_is)
    (case c_Rule_put => k_is)
    (case k_Rule_put => k_is)
    (case a_Rule_longest => k_is)
    (case g_Rule_longest => k_is)
    (case t_Rule_longest => k_is)
    (case r_Rule_longest => k_is)
    (case l_Rule_longest => k_is)
    (case c_Rule_longest => k_is)
    (case a_Rule_put_in => k_is)
    (case i_Rule_put_in => k_is)
    (case l_Rule_put_in => k_is)
    (case c_Rule_put_in => k_is)
    (case k_Rule_put_in => k_is)
    (case a_Rule_is_endless => k_is)
    (case i_Rule_is_endless => k_is)
    (case l_Rule_is_endless => k_is)
    (case c_Rule_is_endless => k_is)
    (case k_Rule_is_endless => k_is)
    (case a_Rule_init => k_is)
    (case i_Rule_init => k_is)
    (case l_Rule_init => k_is)
    (case c_Rule_init => k_is)
    (case k_Rule_init => k_is)
    (case dl_Rule_init => k_is)
    (case dlE_Rule => k_is)
    (case a_Rule_read => k_is)
    (case r_Rule_read => k_is)
    (case fi_Rule_read => k_is)
    (case l_Rule_read => k_is)
    (case c_Rule_read => k_is)
    (case rd_Rule => k_is)
    (case ga_Rule => k_is)
    (case a_Rule_str => k_is)
    (case i_Rule_str => k_is)
    (case l_Rule_str => k_is)
    (case c_Rule_str => k_is)
    (case k_Rule_str => k_is)
    (case aC_InvalidRule => k_is)
    (case elk_InvalidRule => k_is)
    (case erf_InvalidRule => decide +kernel)
    (case sa_InvalidRule => k_is)
    (case exC_InvalidRule => k_is)
    (case tyC_InvalidRule => k_is)
    (case kC_InvalidRule => k_is)
    (case no_InvalidRule => k_is)
    (case a_InvalidRule => k_is)
    (case t_InvalidRule => k_is)
    (case lk_InvalidRule => k_is)
    (case cd_InvalidRule => k_is)
    (case cell_InvalidRule => k_is)
    (case code_InvalidRule => k_is)
    (case cfl_InvalidRule => exact rfl)
    (case fl_InvalidRule => decide +kernel)
    (case tp_InvalidRule => decide +kernel)
    (case sub_InvalidRule => k_is)
    (case sup_InvalidRule => k_is)
    (case opq_InvalidRule => k_is)
    (case ini_InvalidRule => kernel_rfl)
    (case ve_InvalidRule => k_is)
    (case ehd_InvalidRule => k_is)
    (case esb_InvalidRule => k_is)
    (case gBITS => k_is)
    (case z_len => k_is)
    (case z_abs => k_is)
    (case z_int => k_is)
    (case z_range => k_is)
    (case z_max => k_is)
    (case z_min => k_is)
    (case z_enumerate => k_is)
    (case z_zip => k_is)
    (case z_dict => k_is)
    (case z_list => k_is)
    (case z_tuple => k_is)
    (case z_isinstance => k_is)
    (case z_bool => k_is)
    (case z_str => k_is)
    (case z_all => k_is)
    (case z_any => k_is)
    (case z_sum => k_is)
    (case z_sorted => k_is)
    (case z_repr => k_is)
#print axioms PySem.Challenge.cw_unseenflips_k47_whole_rules_that_are_lef_holds
