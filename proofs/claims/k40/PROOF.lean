import PyProof.Rows.All
import Wide.All
import OpenK.AllK
import Wide.FinOn
import HandS.ForMost
import HandS.Codes
import HandS.FStr
import HandS.IsInst
import HandS.Star
import HandS.TupAny
import HandS.Style
import HandS.Walk
import KE.GoesEnum
import KE.GoesNew
import HandS.Property
import HandS.Defaults
import HandS.ClsMeth
import HandS.MakeKw
import KE.GoesZip
import HandS.SortOrd
import HandS.SortRule
import HandS.OwnEq
import HandS.CallLocal
import KE.KCallOwn
import HandS.Replace
import HandS.DictComp
import PyProof.Rows.SortShellAny
import HandS.RaiseMore
import HandS.List
import HandS.Dict
import KE.KDictPairs
import HandS.More
import PySem.Challenge.RW_unseenflips_k40_whole_rates_and_messages
set_option Elab.async false
set_option linter.all false
set_option maxRecDepth 100000
set_option maxHeartbeats 4000000
namespace Lx
open PySem PySem.Spec PyProof.Rows L2

/-! enumerate over a text -/
def ItES (x : Str) : It := ⟨fun i _ => i < x.cps.size, fun i H v H' => ∃ T c, v = .ref T ∧ H T = none ∧ H' = upd H T (.tup [.int (i : Nat), .str ⟨#[c]⟩]) ∧ x.cps[i]? = some c, fun i _ => x.cps.size ≤ i⟩
theorem turn_enumS {P : Program} {w : World} {K : PySem.W.Frag} {elts : List Expr} {kk : Nat} {tpos : Pos} (x : Str) (t : Tok) (e it : Addr) :
    Turn P w K (.Tuple elts kk tpos) (ItES x) [e, it] e (fun i h => (∃ old, IsEnum h e it ((i : Nat) : Int) old) ∧ h.IsStrIter it (strIterType x) x t i ∧ e ≠ it ∧ i ≤ x.cps.size) where
  mem := by simp
  obj := fun i h st b hb => by
    obtain ⟨⟨old, he⟩, ⟨o, ho, hc, hd⟩, _⟩ := st
    have e' : b = e ∨ b = it := by simpa using hb
    rcases e' with z | z
    · rw [z]; exact ⟨_, he, fun v q => nomatch q⟩
    · rw [z]; exact ⟨o, ho, fun v q => by rw [hd] at q; cases q⟩
  keep := fun i h h' st k => by
    obtain ⟨⟨old, he⟩, ⟨o, ho, r⟩, hne⟩ := st
    exact ⟨⟨old, k e (by simp) _ he⟩, ⟨o, k it (by simp) o ho, r⟩, hne⟩
  item := by
    intro X hP hw hK hc i pins s σ H E I hf st hg
    subst hP hw hK
    obtain ⟨⟨old, he⟩, hit, hne, _⟩ := st
    have hlt : i < x.cps.size := hg
    have hel : e < s.heap.objs.size := Heap.lt_size he
    have hil : it < s.heap.objs.size := by obtain ⟨_, q, _⟩ := hit; exact Heap.lt_size q
    have hh : X.A.in1.handled = none := I.ok.hd hc
    refine wpAny_pyNext_enum_itemC (Draws.text hh it x t) he hit hlt hne (by simpa using hne) fun v h' tk hP ho hit' hT hsz hk => ?_
    obtain ⟨c, u, hcx, rfl⟩ := hP
    refine ⟨_, rfl, wpAny_letOwnedTupleGo_enum (s := { s with heap := h', toks := tk + 1 }) ho fun h'' he' sb => ?_⟩
    have hT2 : h''.get? s.heap.objs.size = some { cls := .type "tuple", data := .seq #[.int i tk, .str ⟨#[c]⟩ u] } := (sb.2 _ (Nat.ne_of_gt hel)).trans hT
    have new : ObjOk X.prog X.w (upd H s.heap.objs.size (.tup [.int (i : Nat), .str ⟨#[c]⟩])) h'' s.heap.objs.size (.tup [.int (i : Nat), .str ⟨#[c]⟩]) :=
      ⟨by show 2 ≤ sizeLine; decide, [.int i tk, .str ⟨#[c]⟩ u], .cons ⟨_, rfl⟩ (.cons ⟨_, rfl⟩ .nil), ⟨_, hT2, rfl, _, rfl⟩⟩
    have I1 : Inv X pins σ (upd H s.heap.objs.size (.tup [.int (i : Nat), .str ⟨#[c]⟩])) { s with heap := h'', toks := tk + 1 } :=
      I.turnedNew (ch := [e, it]) (fun b ob hb q => (sb.2 b (fun z => hb (by simp [z]))).trans (hk b ob (fun z => hb (by simp [z])) (fun z => hb (by simp [z])) q)) hf (Nat.le_refl _) new
    refine ⟨.ref s.heap.objs.size, _, I1, rfl, ⟨_, c, rfl, I.hok.fresh (Nat.le_refl _), rfl, hcx⟩, ⟨⟨.str ⟨#[c]⟩ u, ?_⟩, ?_, hne, hlt⟩, fun b hb => ?_⟩
    · have e1 : ((i + 1 : Nat) : Int) = (i : Int) + 1 := by omega
      rw [e1]; exact he'
    · obtain ⟨o, ho', r⟩ := hit'
      exact ⟨o, (sb.2 it (Ne.symm hne)).trans ho', r⟩
    · have hb' : b < s.heap.objs.size := by
        have e' : b = e ∨ b = it := by simpa using hb
        rcases e' with z | z
        · rw [z]; exact hel
        · rw [z]; exact hil
      rw [upd_ne (Nat.ne_of_lt hb')]
      exact (hf b hb).1
  done := by
    intro X hP hw hK hc i pins s σ H E I hf st hg
    subst hP hw hK
    obtain ⟨⟨old, he⟩, hit, hne, hle⟩ := st
    have hge : x.cps.size ≤ i := hg
    have hi : i = x.cps.size := Nat.le_antisymm hle hge
    subst hi
    have hh : X.A.in1.handled = none := I.ok.hd hc
    obtain ⟨f0, f1, f2, f3, f4, f5⟩ := hf it (by simp)
    exact wpAny_pyNext_enum_endD (Draws.text hh it x t) he hit fun h' eb => ⟨rfl, I.turned (t' := s.toks) (fun b o hb q => eb b o hb q) f0 f1 f3 f4 f5⟩
  self := fun A i s Q E st h => let ⟨⟨_, he⟩, _⟩ := st; wpAny_pyIter_enum he h
def iEnumS (ta : TA) : TI := fun σ H R => ta σ H fun vs H1 => ∃ x, vs = [.str x] ∧ R (ItES x) H1
theorem pi_enumS {X : Cx} {e : Expr} {ta : TA} {p pos tpos : Pos} {elts : List Expr} {kk : Nat} (hg : Gl X "enumerate") (hm : X.mg "enumerate" = none) (ha : PA X [e] ta) (hs : starEach [e] X.env = [(false, eval e X.env)] := by rfl) :
    PI X (.Tuple elts kk tpos) (.Call (.Name "enumerate" p) [e] [] pos) (iEnumS ta) := by
  refine ⟨fun pins s σ H R I h => ?_⟩
  refine Call_ (ld_blt I hg hm boot_enumerate (PyProof.Rows.callWith_type1 (thn (ha.run pos pins s σ H _ I h) fun us s1 ⟨vs, H1, I1, r1, q1⟩ => ?_) hs rfl))
  obtain ⟨x, ex, q⟩ := q1
  subst ex
  cases r1 with
  | cons r rr =>
    cases rr
    obtain ⟨t, rfl⟩ := r
    refine call_enumerate_str fun h' he hit hsz hk => wpAny_pyIter_enum he ?_
    have I2 : Inv X pins σ H1 { s1 with heap := h' } := I1.kept (t' := s1.toks) hk
    refine ⟨s1.heap.objs.size + 1, [s1.heap.objs.size + 1, s1.heap.objs.size], _, _, H1, rfl, I2, turn_enumS x t (s1.heap.objs.size + 1) s1.heap.objs.size, ⟨⟨.none, he⟩, hit, Nat.succ_ne_self _, Nat.zero_le _⟩, fun b hb => ?_, q⟩
    have e' : b = s1.heap.objs.size + 1 ∨ b = s1.heap.objs.size := by simpa using hb
    have hle : s1.heap.objs.size ≤ b := by
      rcases e' with z | z
      · rw [z]; exact Nat.le_add_right _ _
      · rw [z]; exact Nat.le_refl _
    exact I1.fpOk hle (I1.hok.fresh hle)

/-! enumerate over a tuple -/
def ItET (K : PySem.W.Frag) (a : Addr) : It :=
  ⟨fun i H => ∃ (xs : List V) (x : V), SqT K H a xs ∧ xs[i]? = some x, fun i H v H' => ∃ T x, v = .ref T ∧ H T = none ∧ H' = upd H T (.tup [.int (i : Nat), x]) ∧ ∀ xs, SqT K H a xs → xs[i]? = some x, fun i H => ∃ xs : List V, SqT K H a xs ∧ xs.length ≤ i⟩
theorem meets_enumerate_newT (l : Addr) (items : Array Value) (n : Nat) (dct : Option Addr) (sl : Array (Option Value)) :
    Meets (Builtin.«enumerate.__new__» ⟨[.type "enumerate", .ref l], []⟩) (fun _ R s => s.heap.get? l = some { cls := .type "tuple", dict := dct, data := .seq items n, slots := sl } ∧
      R (.ok (.ret (.ref (s.heap.push { cls := .type "tuple_iterator", data := .fields #[.ref l, .int 0 0] }).objs.size)))
        { s with heap := (s.heap.push { cls := .type "tuple_iterator", data := .fields #[.ref l, .int 0 0] }).push { cls := .type "enumerate", data := .fields #[.none, .bool false, .ref s.heap.objs.size, rawInt 0, .none, .none] } }) :=
  .of_wp fun prog w A R s h => by
    obtain ⟨hp, g, d, tk, os⟩ := s; obtain ⟨hl, h⟩ := h
    have hsub := sub_enumerate
    have hL : Heap.IsTuple (Shared.heap ⟨hp, g, d, tk, os⟩) l items := ⟨_, hl, rfl, n, rfl⟩
    wp_walk using AutoSeq1.wpAny_loadPart' hl
    refine wpAny_stack_any fun st => wpAny_pure ?_
    split
    · rename_i c _ _ _ _ _
      cases (c == Value.type "enumerate")
      · wp_walk using AutoSeq1.wpAny_loadPart' hl, wpAny_pyIter_tuple hL
        exact ⟨_, rfl, h⟩
      · wp_walk using AutoSeq1.wpAny_loadPart' hl, wpAny_pyIter_tuple hL
        exact ⟨_, rfl, h⟩
    · wp_walk using AutoSeq1.wpAny_loadPart' hl, wpAny_pyIter_tuple hL
      exact ⟨_, rfl, h⟩
theorem call_enumerate_tup {prog : Program} {w : World} {A : Around} {E : Value → Shared → Prop} {s : Shared} {l : Addr} {items : Array Value} {Q : Value → Shared → Prop} (hL : s.heap.IsTuple l items)
    (h : ∀ h', IsEnum h' (s.heap.objs.size + 1) s.heap.objs.size 0 .none → h'.IsTupleIter s.heap.objs.size l 0 → h'.objs.size = s.heap.objs.size + 2 →
      (∀ b o, s.heap.get? b = some o → h'.get? b = some o) → Q (.ref (s.heap.objs.size + 1)) { s with heap := h' }) :
    wpAny (model prog w) A (call (.type "enumerate") [.ref l]) Q E s := by
  obtain ⟨⟨c, dct, dt, sl⟩, hl, hc, n, hd⟩ := hL
  replace hc : c = .type "tuple" := hc
  replace hd : dt = .seq items n := hd
  subst hc hd
  refine callType_new F.called_enumerate (by decide) (F.typeCall_enumerate_1 _) (F.newCall_enumerate_1 _) (fun obj => F.args_object_init_2 obj _) F.entry_enumerate_new
    (meets_enumerate_newT l items n dct sl) ⟨hl, ?_⟩
  have hz : (s.heap.push { cls := .type "tuple_iterator", data := .fields #[.ref l, .int 0 0] }).objs.size = s.heap.objs.size + 1 := Heap.size_push ..
  show _ ∧ _
  rw [hz]
  have he : IsEnum ((s.heap.push { cls := .type "tuple_iterator", data := .fields #[.ref l, .int 0 0] }).push
      { cls := .type "enumerate", data := .fields #[.none, .bool false, .ref s.heap.objs.size, rawInt 0, .none, .none] }) (s.heap.objs.size + 1) s.heap.objs.size 0 .none := by
    have := Heap.get?_push_size (s.heap.push { cls := .type "tuple_iterator", data := .fields #[.ref l, .int 0 0] })
      (o := { cls := .type "enumerate", data := .fields #[.none, .bool false, .ref s.heap.objs.size, rawInt 0, .none, .none] }) rfl
    rw [hz] at this; exact this
  refine ⟨⟨_, he, rfl⟩, h _ he ⟨_, Heap.get?_push_of_some _ (Heap.get?_push_size _ rfl), rfl, rfl⟩ (by rw [Heap.size_push, hz]) fun b o x => Heap.get?_push_of_some _ (Heap.get?_push_of_some _ x)⟩
theorem turn_enumT {P : Program} {w : World} {K : PySem.W.Frag} {elts : List Expr} {kk : Nat} {tpos : Pos} (a e it : Addr) :
    Turn P w K (.Tuple elts kk tpos) (ItET K a) [e, it] e (fun i h => (∃ old, IsEnum h e it ((i : Nat) : Int) old) ∧ h.IsTupleIter it a i ∧ e ≠ it ∧ a ≠ it ∧ a ≠ e) where
  mem := by simp
  obj := fun i h st b hb => by
    obtain ⟨⟨old, he⟩, ⟨o, ho, hc, hd⟩, _⟩ := st
    have e' : b = e ∨ b = it := by simpa using hb
    rcases e' with z | z
    · rw [z]; exact ⟨_, he, fun v q => nomatch q⟩
    · rw [z]; exact ⟨o, ho, fun v q => by rw [hd] at q; cases q⟩
  keep := fun i h h' st k => by
    obtain ⟨⟨old, he⟩, ⟨o, ho, r⟩, hne⟩ := st
    exact ⟨⟨old, k e (by simp) _ he⟩, ⟨o, k it (by simp) o ho, r⟩, hne⟩
  item := by
    intro X hP hw hK hc i pins s σ H E I hf st hg
    subst hP hw hK
    obtain ⟨⟨old, he⟩, hit, hne, hai, hae⟩ := st
    obtain ⟨xs, x, hq, hx⟩ := hg
    obtain ⟨its, rv, p, hz⟩ := I.tuple hq
    obtain ⟨u, hu, ru⟩ := rv.get hx
    have hel : e < s.heap.objs.size := Heap.lt_size he
    have hil : it < s.heap.objs.size := by obtain ⟨_, q, _⟩ := hit; exact Heap.lt_size q
    have hh : X.A.in1.handled = none := I.ok.hd hc
    have pT : s.heap.IsTuple a its.toArray := p
    have hlt : i < its.toArray.size := by
      have := (List.getElem?_eq_some_iff.mp hu).1
      simpa using this
    refine wpAny_pyNext_enum_itemC (Draws.tuple hh it a hai its.toArray) he ⟨hit, pT⟩ hlt hne (by simp [hne, Ne.symm hae]) fun v h' tk hP ho hit' hT hsz hk => ?_
    have ev : v = u := by
      have hP' : its.toArray[i]? = some v := hP
      rw [List.getElem?_toArray, hu] at hP'
      exact (Option.some.inj hP').symm
    subst ev
    refine ⟨_, rfl, wpAny_letOwnedTupleGo_enum (s := { s with heap := h', toks := tk + 1 }) ho fun h'' he' sb => ?_⟩
    have hT2 : h''.get? s.heap.objs.size = some { cls := .type "tuple", data := .seq #[.int i tk, v] } := (sb.2 _ (Nat.ne_of_gt hel)).trans hT
    have new : ObjOk X.prog X.w (upd H s.heap.objs.size (.tup [.int (i : Nat), x])) h'' s.heap.objs.size (.tup [.int (i : Nat), x]) :=
      ⟨by show 2 ≤ sizeLine; decide, [.int i tk, v], .cons ⟨_, rfl⟩ (.cons ru .nil), ⟨_, hT2, rfl, _, rfl⟩⟩
    have I1 : Inv X pins σ (upd H s.heap.objs.size (.tup [.int (i : Nat), x])) { s with heap := h'', toks := tk + 1 } :=
      I.turnedNew (ch := [e, it]) (fun b ob hb q => (sb.2 b (fun z => hb (by simp [z]))).trans (hk b ob (fun z => hb (by simp [z])) (fun z => hb (by simp [z])) q)) hf (Nat.le_refl _) new
    refine ⟨.ref s.heap.objs.size, _, I1, rfl, ⟨_, x, rfl, I.hok.fresh (Nat.le_refl _), rfl, fun ys hy => by rw [I.tuple_inj hy hq]; exact hx⟩, ⟨⟨v, ?_⟩, ?_, hne, hai, hae⟩, fun b hb => ?_⟩
    · have e1 : ((i + 1 : Nat) : Int) = (i : Int) + 1 := by omega
      rw [e1]; exact he'
    · obtain ⟨⟨o, ho', r⟩, _⟩ := hit'
      exact ⟨o, (sb.2 it (Ne.symm hne)).trans ho', r⟩
    · have hb' : b < s.heap.objs.size := by
        have e' : b = e ∨ b = it := by simpa using hb
        rcases e' with z | z
        · rw [z]; exact hel
        · rw [z]; exact hil
      rw [upd_ne (Nat.ne_of_lt hb')]
      exact (hf b hb).1
  done := by
    intro X hP hw hK hc i pins s σ H E I hf st hg
    subst hP hw hK
    obtain ⟨⟨old, he⟩, hit, hne, hai, hae⟩ := st
    obtain ⟨xs, hq, hx⟩ := hg
    obtain ⟨its, rv, p, hz⟩ := I.tuple hq
    have hl := rv.length
    have pT : s.heap.IsTuple a its.toArray := p
    have hh : X.A.in1.handled = none := I.ok.hd hc
    obtain ⟨f0, f1, f2, f3, f4, f5⟩ := hf it (by simp)
    have D : Draws X.prog X.w X.A.in1 it [it, a] i (fun _ _ => True) (fun j h => j = i ∧ h.IsTupleIter it a i ∧ h.IsTuple a its.toArray) :=
      { live := fun _ _ st => let ⟨o, ho, _⟩ := st.2.1; ⟨o, ho⟩
        frame := fun _ _ _ st hk => ⟨st.1, st.2.1.at fun o e => hk it (by simp) o e, st.2.2.at fun o e => hk a (by simp) o e⟩
        item := fun j s Q E hj st hQ => absurd st.1 (Nat.ne_of_lt hj)
        done := fun s Q E st hE => wpAny_nextOf_tuple_end hh st.2.1 st.2.2 (by simp; omega) hE }
    exact wpAny_pyNext_enum_endD D he ⟨rfl, hit, pT⟩ fun h' eb => ⟨rfl, I.turned (t' := s.toks) (fun b o hb q => eb b o hb q) f0 f1 f3 f4 f5⟩
  self := fun A i s Q E st h => let ⟨⟨_, he⟩, _⟩ := st; wpAny_pyIter_enum he h
def iEnumT (K : PySem.W.Frag) (ta : TA) : TI := fun σ H R => ta σ H fun vs H1 => ∃ a xs, vs = [.ref a] ∧ SqT K H1 a xs ∧ R (ItET K a) H1
theorem pi_enumT {X : Cx} {e : Expr} {ta : TA} {p pos tpos : Pos} {elts : List Expr} {kk : Nat} (hg : Gl X "enumerate") (hm : X.mg "enumerate" = none) (ha : PA X [e] ta) (hs : starEach [e] X.env = [(false, eval e X.env)] := by rfl) :
    PI X (.Tuple elts kk tpos) (.Call (.Name "enumerate" p) [e] [] pos) (iEnumT X.K ta) := by
  refine ⟨fun pins s σ H R I h => ?_⟩
  refine Call_ (ld_blt I hg hm boot_enumerate (PyProof.Rows.callWith_type1 (thn (ha.run pos pins s σ H _ I h) fun us s1 ⟨vs, H1, I1, r1, q1⟩ => ?_) hs rfl))
  obtain ⟨a, xs, ex, hq, q⟩ := q1
  subst ex
  cases r1 with
  | cons r rr =>
    cases rr
    cases r
    obtain ⟨its, rv, p', hz⟩ := I1.tuple hq
    have pT : s1.heap.IsTuple a its.toArray := p'
    have hlt : a < s1.heap.objs.size := by obtain ⟨o, ho, _⟩ := pT; exact Heap.lt_size ho
    refine call_enumerate_tup pT fun h' he hit hsz hk => wpAny_pyIter_enum he ?_
    have I2 : Inv X pins σ H1 { s1 with heap := h' } := I1.kept (t' := s1.toks) hk
    refine ⟨s1.heap.objs.size + 1, [s1.heap.objs.size + 1, s1.heap.objs.size], _, _, H1, rfl, I2, turn_enumT a (s1.heap.objs.size + 1) s1.heap.objs.size, ⟨⟨.none, he⟩, hit, Nat.succ_ne_self _, Nat.ne_of_lt hlt, Nat.ne_of_lt (Nat.lt_succ_of_lt hlt)⟩, fun b hb => ?_, q⟩
    have e' : b = s1.heap.objs.size + 1 ∨ b = s1.heap.objs.size := by simpa using hb
    have hle : s1.heap.objs.size ≤ b := by
      rcases e' with z | z
      · rw [z]; exact Nat.le_add_right _ _
      · rw [z]; exact Nat.le_refl _
    exact I1.fpOk hle (I1.hok.fresh hle)
/-- a list or a tuple, enumerated -/
def iEnumQ (K : PySem.W.Frag) (ta : TA) : TI := fun σ H R => iEnum K ta σ H R ∨ iEnumT K ta σ H R
theorem pi_enumQ {X : Cx} {e : Expr} {ta : TA} {p pos tpos : Pos} {elts : List Expr} {kk : Nat} (hg : Gl X "enumerate") (hm : X.mg "enumerate" = none) (ha : PA X [e] ta) (hs : starEach [e] X.env = [(false, eval e X.env)] := by rfl) :
    PI X (.Tuple elts kk tpos) (.Call (.Name "enumerate" p) [e] [] pos) (iEnumQ X.K ta) := by
  refine ⟨fun pins s σ H R I h => ?_⟩
  rcases h with h | h
  · exact (pi_enum hg hm ha hs).run pins s σ H R I h
  · exact (pi_enumT hg hm ha hs).run pins s σ H R I h
theorem walk_enumT {K : PySem.W.Frag} {a : Addr} {xs : List V} : Walk (ItET K a) xs.length (fun H => SqT K H a xs) (YPair (fun i => some (.int (i : Nat))) (fun i => xs[i]?)) := by
  refine ⟨fun i _ hi q => ⟨xs, xs[i], q, by simp [hi]⟩, fun _ q => ⟨xs, q, Nat.le_refl _⟩, fun i H v H' _ q y => ?_⟩
  obtain ⟨T, x, h1, h2, h3, h4⟩ := y
  exact ⟨T, .int (i : Nat), x, h1, h2, h3, rfl, h4 xs q⟩
theorem walk_enumS {x : Str} : Walk (ItES x) x.cps.size (fun _ => True) (fun i H v H' => ∃ T c, v = .ref T ∧ H T = none ∧ H' = upd H T (.tup [.int (i : Nat), .str ⟨#[c]⟩]) ∧ x.cps[i]? = some c) :=
  ⟨fun _ _ hi _ => hi, fun _ _ => Nat.le_refl _, fun _ _ _ _ _ _ y => y⟩
end Lx

set_option maxRecDepth 100000
set_option maxHeartbeats 4000000
namespace Lx
open PySem PySem.Spec PyProof.Rows L2
/-- n turns, each a new tuple whose items are as f says -/
def ItTup (n : Nat) (f : Nat → List V → Prop) : It :=
  ⟨fun i _ => i < n, fun i H v H' => ∃ T xs, v = .ref T ∧ H T = none ∧ H' = upd H T (.tup xs) ∧ f i xs, fun i _ => n ≤ i⟩
theorem turn_tuples {P : Program} {w : World} {K : PySem.W.Frag} {elts : List Expr} {kk : Nat} {tpos : Pos} {it : Addr} {fp wr : List Addr} {n : Nat} {Pt : Nat → Array Value → Prop} {St : Nat → Heap → Prop} {Mid : Nat → Addr → Heap → Prop} {f : Nat → List V → Prop}
    (Wk : ∀ A : Around, A.in1.handled = none → WalksT P w A it fp wr n Pt St Mid) (hrel : ∀ i vals, Pt i vals → ∃ xs, Vals xs vals.toList ∧ f i xs ∧ xs.length ≤ 8)
    (hobj : ∀ i h, St i h → ∀ b ∈ fp, ∃ o, h.get? b = some o ∧ ∀ v, o.data ≠ .cell v) (hmem : it ∈ fp)
    (hself : ∀ (A : Around) (i : Nat) (s : Shared) (Q : Value → Shared → Prop) (E : Value → Shared → Prop), St i s.heap → Q (.ref it) s → wpAny (model P w) A (pyIter (.ref it)) Q E s) :
    Turn P w K (.Tuple elts kk tpos) (ItTup n f) fp it (fun i h => St i h ∧ i ≤ n) where
  mem := hmem
  obj := fun i h st => hobj i h st.1
  keep := fun i h h' st k => ⟨(Wk {} rfl).frame i h h' st.1 k, st.2⟩
  item := by
    intro X hP hw hK hc i pins s σ H E I hf st hg
    subst hP hw hK
    have hh : X.A.in1.handled = none := I.ok.hd hc
    have hlt : i < n := hg
    refine (GoesN.ofWalksT (elts := elts) (k := kk) (pos := tpos) (Wk X.A hh)).goes i s _ _ hlt st.1 fun v h' tk hY st' hk htk => ?_
    obtain ⟨T, vals, rfl, hnew, hPt, hT⟩ := hY
    obtain ⟨xs, rv, hfx, hl⟩ := hrel i vals hPt
    have new : ObjOk X.prog X.w (upd H T (.tup xs)) h' T (.tup xs) := ⟨Nat.le_trans hl (by decide), vals.toList, rv, by rw [Array.toArray_toList]; exact hT⟩
    have I1 : Inv X pins σ (upd H T (.tup xs)) { s with heap := h', toks := tk } :=
      I.turnedNew (ch := fp) (fun b ob hb q => hk b ob (fun z => hb ((Wk X.A hh).sub b z)) q) hf hnew new
    refine ⟨.ref T, _, I1, rfl, ⟨T, xs, rfl, I.hok.fresh hnew, rfl, hfx⟩, ⟨st', hlt⟩, fun b hb => ?_⟩
    have hb' : b < s.heap.objs.size := by obtain ⟨o, ho, _⟩ := hobj i _ st.1 b hb; exact Heap.lt_size ho
    rw [upd_ne (Nat.ne_of_lt (Nat.lt_of_lt_of_le hb' hnew))]
    exact (hf b hb).1
  done := by
    intro X hP hw hK hc i pins s σ H E I hf st hg
    subst hP hw hK
    have hh : X.A.in1.handled = none := I.ok.hd hc
    have hge : n ≤ i := hg
    have hi : i = n := Nat.le_antisymm st.2 hge
    subst hi
    refine (Wk X.A hh).done s _ _ st.1 fun h' tk hk => ⟨rfl, ?_⟩
    exact I.turnedL (ch := fp) (fun c o hb q => hk c o (fun z => hb ((Wk X.A hh).sub c z)) q) hf
  self := fun A i s Q E st h => hself A i s Q E st.1 h
theorem walk_tuples {n : Nat} {f : Nat → List V → Prop} : Walk (ItTup n f) n (fun _ => True) (fun i H v H' => ∃ T xs, v = .ref T ∧ H T = none ∧ H' = upd H T (.tup xs) ∧ f i xs) :=
  ⟨fun _ _ hi _ => hi, fun _ _ => Nat.le_refl _, fun _ _ _ _ _ _ y => y⟩
/-! zip of two texts -/
def zipF (x y : Str) : Nat → List V → Prop := fun i xs => ∃ c d, x.cps[i]? = some c ∧ y.cps[i]? = some d ∧ xs = [.str ⟨#[c]⟩, .str ⟨#[d]⟩]
def iZipS (ta : TA) : TI := fun σ H R => ta σ H fun vs H1 => ∃ x y, vs = [.str x, .str y] ∧ R (ItTup (min x.cps.size y.cps.size) (zipF x y)) H1
theorem pi_zipS {X : Cx} {e e2 : Expr} {ta : TA} {p pos tpos : Pos} {elts : List Expr} {kk : Nat} (hg : Gl X "zip") (hm : X.mg "zip" = none) (ha : PA X [e, e2] ta)
    (hs : starEach [e, e2] X.env = (false, eval e X.env) :: starEach [e2] X.env := by rfl) (hpl : (backTo pos (starEach [e2] X.env)).any (·.1) = false := by rfl) :
    PI X (.Tuple elts kk tpos) (.Call (.Name "zip" p) [e, e2] [] pos) (iZipS ta) := by
  refine ⟨fun pins s σ H R I h => ?_⟩
  refine Call_ (ld_blt I hg hm PyProof.Rows.boot_zip (PyProof.Rows.callWith_type1 (thn (ha.run pos pins s σ H _ I h) fun us s1 ⟨vs, H1, I1, r1, q1⟩ => ?_) hs hpl))
  obtain ⟨x, y, ex, q⟩ := q1
  subst ex
  cases r1 with
  | cons r rr =>
    cases rr with
    | cons r' rr =>
      cases rr
      obtain ⟨t, rfl⟩ := r
      obtain ⟨t', rfl⟩ := r'
      refine zip_begins2 (begins_text x t) (begins_text y t') trivial trivial fun h' hz hTI hTO h1 h2 hsz hk => wpAny_pyIter_zip hz ?_
      have I2 : Inv X pins σ H1 { s1 with heap := h' } := I1.kept (t' := s1.toks) hk
      have sep := zip_sep2 (N := s1.heap.objs.size) (fp1 := []) (fp2 := []) (fun b hb => nomatch hb) (fun b hb => nomatch hb)
      have tn := turn_tuples (P := X.prog) (w := X.w) (K := X.K) (elts := elts) (kk := kk) (tpos := tpos) (f := zipF x y)
        (fun A hh => WalksT.zipD2 sep (Draws.text (prog := X.prog) (w := X.w) hh s1.heap.objs.size x t) (Draws.text (prog := X.prog) (w := X.w) hh (s1.heap.objs.size + 1) y t'))
        (fun i vals hv => by
          obtain ⟨x1, x2, ⟨c, u, hc, rfl⟩, ⟨d, u', hd, rfl⟩, rfl⟩ := hv
          exact ⟨[.str ⟨#[c]⟩, .str ⟨#[d]⟩], .cons ⟨_, rfl⟩ (.cons ⟨_, rfl⟩ .nil), ⟨c, d, hc, hd, rfl⟩, by show 2 ≤ 8; decide⟩)
        (fun i h st b hb => by
          obtain ⟨z1, z2, ⟨a1, a2, z3⟩, ⟨o1, e1, _, d1⟩, ⟨o2, e2, _, d2⟩⟩ := st
          have e' : b = s1.heap.objs.size + 4 ∨ b = s1.heap.objs.size + 2 ∨ b = s1.heap.objs.size + 3 ∨ b = s1.heap.objs.size ∨ b = s1.heap.objs.size + 1 := by simpa using hb
          rcases e' with q | q | q | q | q
          · rw [q]; exact ⟨_, z1, fun v q => nomatch q⟩
          · rw [q]; exact ⟨_, z2, fun v q => nomatch q⟩
          · rw [q]; exact ⟨_, z3, fun v q => nomatch q⟩
          · rw [q]; exact ⟨o1, e1, fun v q => by rw [d1] at q; cases q⟩
          · rw [q]; exact ⟨o2, e2, fun v q => by rw [d2] at q; cases q⟩)
        (by simp) (fun A i s Q E st h => wpAny_pyIter_zip st.1 h)
      refine ⟨s1.heap.objs.size + 4, _, _, _, H1, rfl, I2, tn, ⟨⟨hz, hTI, ⟨_, _, hTO⟩, ⟨_, h1, rfl, rfl⟩, ⟨_, h2, rfl, rfl⟩⟩, Nat.zero_le _⟩, fun c hcm => ?_, q⟩
      have e' : c = s1.heap.objs.size + 4 ∨ c = s1.heap.objs.size + 2 ∨ c = s1.heap.objs.size + 3 ∨ c = s1.heap.objs.size ∨ c = s1.heap.objs.size + 1 := by simpa using hcm
      have hle : s1.heap.objs.size ≤ c := by
        rcases e' with z | z | z | z | z
        · rw [z]; exact Nat.le_add_right _ _
        · rw [z]; exact Nat.le_add_right _ _
        · rw [z]; exact Nat.le_add_right _ _
        · rw [z]; exact Nat.le_refl _
        · rw [z]; exact Nat.le_add_right _ _
      exact I1.fpOk hle (I1.hok.fresh hle)
/-! text * int -/
section
variable {X : Cx}
theorem op_rep_str : OpR X (binaryOp .Mult) (fun x y H Q => ∃ (z : Str) (n : Int), x = .str z ∧ y = .int n ∧ n < 2 ^ 20 ∧ -(2 ^ 20) < n ∧ z.length * n.toNat ≤ 100000 ∧ Q (.str (Txt.mul z n)) H) := by
  intro pins s σ H x y u v Q I rx ry h
  obtain ⟨z, n, rfl, rfl, h1, h2, h3, q⟩ := h
  obtain ⟨t, rfl⟩ := rx
  obtain ⟨t', rfl⟩ := ry
  refine SB.mul ⟨?_, fun a b => ?_, fun a b => ?_⟩ fun t' k => ⟨.str (Txt.mul z n), H, I.tok _, ⟨_, rfl⟩, q⟩
  · rw [decide_eq_false (by omega), decide_eq_false (by omega)]; rfl
  · have e1 : ((z.length : Int)) ≤ 100000 := by
      have : z.length * 1 ≤ z.length * n.toNat := Nat.mul_le_mul_left _ (by omega)
      omega
    have e2 : (100000 : Int) ≤ (2 ^ 63 - 1) / n := by
      refine (Int.le_ediv_iff_mul_le (by omega)).mpr ?_
      omega
    omega
  · show decide (z.length * n.toNat > sizeLine) = false
    exact decide_eq_false (Nat.not_lt.mpr (Nat.le_trans h3 (by decide)))
end
/-! a class made without arguments; a def called without; a property -/
open C8 in
theorem pe_mk0 {X : Cx} {k j : Nat} {C : Addr} {x : Str} {sp : Sp} {dvs : List V} {p pos : Pos} (c : Mak X.prog X.w X.K X.mg X.base k x C sp dvs) (hr : Room j X.A) (hk : k + 1 ≤ j) (hg : Gl X x) (hdb : (x == ("__debug__" : Str)) = false := by decide) :
    PE X (.Call (.Name x p) [] [] pos) (tMake C sp dvs C8.E0 tNil) := by
  obtain ⟨f, fd, ps, ds, M, F, hm, b, d⟩ := c.ex
  exact pe_make0 M F (hr.mono hk) hg hm b d C8.pass0 hdb
open C8 in
theorem pe_c0 {X : Cx} {k j : Nat} {x : Str} {sp : Sp} {dvs : List V} {p pos : Pos} (c : Cal X.prog X.w X.K X.mg X.base k x sp dvs) (hr : Room j X.A) (hk : k ≤ j) (hg : Gl X x) (hdb : (x == ("__debug__" : Str)) = false := by decide) :
    PE X (.Call (.Name x p) [] [] pos) (tCall sp dvs C8.E0 tNil) := by
  obtain ⟨f, fd, ps, ds, F, hm, kp, b, d⟩ := c.ex
  exact pe_call0 F (hr.mono hk) hg hm kp b d C8.pass0 hdb
/-- a property of the class at C -/
structure Prp (P : Program) (w : World) (K : PySem.W.Frag) (mg : Str → Option Value) (base : Heap) (k : Nat) (C : Addr) (m : Str) (sp : Sp) : Prop where
  ex : ∃ (p f : Addr) (fd : FuncData) (ps : List Str), Cls K C ∧ PropOf K C m p f ∧ FnOk P w K mg base C8.CX0 k f fd ps sp ∧ Binds K fd ps []
theorem pe_pr {X : Cx} {k j : Nat} {C : Addr} {m : Str} {sp : Sp} {e : Expr} {ta : TE} {pos : Pos} (c : Prp X.prog X.w X.K X.mg X.base k C m sp) (hr : Room j X.A) (hk : k + 1 ≤ j) (he : PE X e ta) (hab : attributeBase e m X.env (eval e X.env) = eval e X.env := by rfl) :
    PE X (.Attribute e m pos) (tProp C sp [] C8.E0 ta) := by
  obtain ⟨p, f, fd, ps, hc, hp, F, b⟩ := c.ex
  exact pe_prop he hc hp F (hr.mono hk) b .nil C8.pass0 hab
end Lx

set_option maxRecDepth 100000
set_option maxHeartbeats 4000000
/-! sorted of pairs of texts -/
namespace SrT
open PySem PyProof.Rows SrtO
def IsTT (h : Heap) (v : Value) (x y : Str) : Prop := ∃ a o t u n, v = .ref a ∧ h.get? a = some o ∧ o.cls = .type "tuple" ∧ o.data = .seq #[.str x t, .str y u] n
theorem IsTT.keeps {h h' : Heap} {v : Value} {x y : Str} (p : IsTT h v x y) (k : ∀ b o, h.get? b = some o → o.cls = .type "tuple" → h'.get? b = some o) : IsTT h' v x y := by
  obtain ⟨a, o, t, u, n, e, ho, hc, hd⟩ := p
  exact ⟨a, o, t, u, n, e, k _ _ ho hc, hc, hd⟩
def lexT (p q : Str × Str) : Bool := if p.1 = q.1 then decide (p.2.cps.toList < q.2.cps.toList) else decide (p.1.cps.toList < q.1.cps.toList)
theorem str_of {a b : Str} (h : a.cps.toList = b.cps.toList) : a = b := TL.ext_tl h
theorem tri {a b : Str} (h1 : ¬ a.cps.toList < b.cps.toList) (h2 : ¬ b.cps.toList < a.cps.toList) : a = b :=
  str_of (List.le_antisymm (List.not_lt.mp h2) (List.not_lt.mp h1))
theorem lexT_no {p q : Str × Str} : lexT p q = false ↔ q.1.cps.toList < p.1.cps.toList ∨ (p.1 = q.1 ∧ ¬ p.2.cps.toList < q.2.cps.toList) := by
  unfold lexT
  by_cases e : p.1 = q.1
  · rw [if_pos e, decide_eq_false_iff_not]
    constructor
    · intro h; exact .inr ⟨e, h⟩
    · rintro (h | h)
      · rw [e] at h; exact absurd h (List.lt_irrefl _)
      · exact h.2
  · rw [if_neg e, decide_eq_false_iff_not]
    constructor
    · intro h
      by_cases c : q.1.cps.toList < p.1.cps.toList
      · exact .inl c
      · exact absurd (tri h c) e
    · rintro (h | h)
      · exact List.lt_asymm h
      · exact absurd h.1 e
theorem lexT_yes {p q : Str × Str} : lexT p q = true ↔ p.1.cps.toList < q.1.cps.toList ∨ (p.1 = q.1 ∧ p.2.cps.toList < q.2.cps.toList) := by
  unfold lexT
  by_cases e : p.1 = q.1
  · rw [if_pos e, decide_eq_true_eq]
    constructor
    · intro h; exact .inr ⟨e, h⟩
    · rintro (h | h)
      · rw [e] at h; exact absurd h (List.lt_irrefl _)
      · exact h.2
  · rw [if_neg e, decide_eq_true_eq]
    constructor
    · intro h; exact .inl h
    · rintro (h | h)
      · exact h
      · exact absurd h.1 e
theorem swo_T {α : Type} (k : α → Str × Str) : Swo fun v u => lexT (k v) (k u) := by
  refine ⟨fun x y h => ?_, fun x y z h1 h2 => ?_⟩
  · rcases lexT_yes.mp h with a | ⟨a, b⟩
    · exact lexT_no.mpr (.inl a)
    · exact lexT_no.mpr (.inr ⟨a.symm, List.lt_asymm b⟩)
  · refine lexT_no.mpr ?_
    rcases lexT_no.mp h1 with a | ⟨a, b⟩ <;> rcases lexT_no.mp h2 with c | ⟨c, d⟩
    · exact .inl (List.lt_trans a c)
    · rw [← c] at a; exact .inl a
    · rw [a] at c; exact .inl c
    · refine .inr ⟨c.trans a, fun hz => ?_⟩
      by_cases e : (k y).2.cps.toList < (k x).2.cps.toList
      · exact b e
      · by_cases g : (k z).2 = (k y).2
        · rw [g] at hz; exact b hz
        · by_cases i : (k y).2.cps.toList < (k z).2.cps.toList
          · exact b (List.lt_trans i hz)
          · exact g (tri d i)
section
variable {prog : Program} {w : World} {A : Around} {E : Value → Shared → Prop} {s : Shared}
theorem tt_cmp {vs : List Value} {k : Value → Str × Str} (hp : ∀ v ∈ vs, IsTT s.heap v (k v).1 (k v).2) : Cmp prog w A s (tuples' true) (fun p => p.1 ∈ vs) (lt2 fun v u => lexT (k v) (k u)) := by
  intro p q hm hm'
  have h1 := hp _ hm
  have h2 := hp _ hm'
  show wpAny (model prog w) A (keyLt' (tuples' true) p.1 q.1) (fun r s' => s' = s ∧ r = lexT (k p.1) (k q.1)) (fun _ _ => False) s
  unfold lexT
  generalize (k p.1).1 = x at h1 ⊢
  generalize (k p.1).2 = y at h1 ⊢
  generalize (k q.1).1 = x' at h2 ⊢
  generalize (k q.1).2 = y' at h2 ⊢
  obtain ⟨a, o, t, u, n, e, ho, hc, hd⟩ := h1
  obtain ⟨a', o', t', u', n', e', ho', hc', hd'⟩ := h2
  rw [e, e']
  refine PySem.W.kat_lt ho hd ho' hd' ?_
  show PySem.W.KatLex prog w A true (decide (2 < 2)) _ [(.str x t, .str x' t'), (.str y u, .str y' u')] 0 s
  refine PySem.W.kat_cons (SeqAt.EqAt.str_str x t x' t' prog w _ _ ?_)
  refine PySem.W.kat_go (fun e1 => ?_) (fun e1 => ?_)
  · have ex : x = x' := by simpa using e1
    refine PySem.W.kat_yes (PySem.W.kat_cons (SeqAt.EqAt.str_str y u y' u' prog w _ _ ?_))
    refine PySem.W.kat_go (fun e2 => ?_) (fun e2 => ?_)
    · have ey : y = y' := by simpa using e2
      have e3 : (if x = x' then decide (y.cps.toList < y'.cps.toList) else decide (x.cps.toList < x'.cps.toList)) = false := by
        rw [if_pos ex, ey]
        exact decide_eq_false (List.lt_irrefl _)
      exact PySem.W.kat_yes (PySem.W.kat_nil ⟨rfl, e3.symm⟩)
    · have e3 : (if x = x' then decide (y.cps.toList < y'.cps.toList) else decide (x.cps.toList < x'.cps.toList)) = decide (y.cps.toList < y'.cps.toList) := if_pos ex
      refine PySem.W.kat_no (PySem.W.kat_one _ _ (PyProof.Rows.lt_str ?_))
      exact (show s = s ∧ decide (y.cps.toList < y'.cps.toList) = (if x = x' then decide (y.cps.toList < y'.cps.toList) else decide (x.cps.toList < x'.cps.toList)) from ⟨rfl, e3.symm⟩)
  · have ex : ¬ x = x' := by simpa using e1
    have e3 : (if x = x' then decide (y.cps.toList < y'.cps.toList) else decide (x.cps.toList < x'.cps.toList)) = decide (x.cps.toList < x'.cps.toList) := if_neg ex
    exact PySem.W.kat_no (oneLt_str ⟨rfl, e3.symm⟩)
theorem firsts_T {h : Heap} : ∀ {vs : List Value}, (∀ v ∈ vs, ∃ x y, IsTT h v x y) → ∃ fs : List Value, PySem.W.KatTups h vs fs ∧ fs.length = vs.length ∧ ∀ f ∈ fs, ∃ x t, f = Value.str x t
  | [], _ => ⟨[], PySem.W.KatTups.nil, rfl, fun _ hm => by simp at hm⟩
  | v :: vs, hp => by
    obtain ⟨fs, h1, h2, h3⟩ := firsts_T (vs := vs) fun v' hm => hp v' (List.mem_cons_of_mem _ hm)
    obtain ⟨x, y, a, o, t, u, n, e, ho, hc, hd⟩ := hp v (List.mem_cons_self ..)
    subst e
    refine ⟨.str x t :: fs, PySem.W.KatTups.cons ho hc hd rfl h1, by rw [List.length_cons, List.length_cons, h2], fun f hm => ?_⟩
    rcases List.mem_cons.mp hm with rfl | hm
    · exact ⟨x, t, rfl⟩
    · exact h3 f hm
theorem tt_sortable {a : Addr} {vs : List Value} {k : Value → Str × Str} (h0 : 0 < vs.length) (hp : ∀ v ∈ vs, IsTT s.heap v (k v).1 (k v).2) (ha : ∀ o, s.heap.get? a = some o → o.cls ≠ .type "tuple") : SortableO prog w A s a vs fun v u => lexT (k v) (k u) := by
  intro h' keep
  have hp' : ∀ v ∈ vs, IsTT h' v (k v).1 (k v).2 := fun v hm => (hp v hm).keeps fun b o e c => keep b o (fun z => by subst z; exact ha o e c) e
  obtain ⟨fs, h1, h2, h3⟩ := firsts_T fun v hm => ⟨_, _, hp' v hm⟩
  refine ⟨tuples' true, fun Q E hq => ?_, tt_cmp hp'⟩
  refine PySem.W.kat_kind (T := .type "str") h1 (by omega) (fun f hm => ?_) (by rfl) ?_
  · obtain ⟨x, t, rfl⟩ := h3 f hm
    exact PySem.W.Looks.now
  · have e : (Value.type "str" != Value.type "tuple") = true := by first | decide +kernel | rfl | decide
    rw [e]
    exact hq
theorem collect_tup {l : Addr} {vs : List Value} {Q : List Value → Shared → Prop} (hl : s.heap.IsTuple l vs.toArray)
    (h : Q vs { s with heap := (s.heap.push (seqObj "list" #[] 0)).update s.heap.objs.size (Obj.mapSeq (· ++ vs.toArray)) }) (hsz : vs.length ≤ sizeLine) :
    wpAny (model prog w) A (collect (.ref l)) Q E s := by
  obtain ⟨o, ho, hc, n, hd⟩ := id hl
  unfold collect
  refine wpAny_bind (wpAny_runValue (codeAny_builtin entry_proto_collect' ?_))
  show wpAny _ _ (do again (.builtin "list.__iadd__" ⟨[← newList [], .ref l], []⟩)) _ _ s
  refine wpAny_bind (wpAny_newList (wpAny_pure ⟨Code.quiet_builtin _ (by decide +kernel), codeAny_builtin entry_list_iadd' ?_⟩))
  show wpAny _ _ (Builtin.List.listExtendWith (.ref s.heap.objs.size) (.ref l) (.ref s.heap.objs.size)) _ _ { s with heap := s.heap.push (seqObj "list" #[] 0) }
  unfold Builtin.List.listExtendWith
  have ho' : (s.heap.push (seqObj "list" #[] 0)).get? l = some o := Heap.get?_push_of_some _ ho
  refine wpAny_bind (wpAny_typeOf (T := "tuple") ⟨o, ho', hc⟩ ?_)
  have ht : (Value.type "tuple" == Value.type "tuple") = true := by rfl
  rw [if_pos (by rw [ht]; simp)]
  refine wpAny_bind (listItems_at ho' hd ?_)
  refine wpAny_bind (listItems_at (xs := #[]) (n := 0) (Heap.get?_push_size _ rfl) rfl ?_)
  rw [if_neg (by simp)]
  refine wpAny_bind (listUpdate_at (xs := #[]) (n := 0) (Heap.get?_push_size _ rfl) rfl ?_ (Nat.zero_le _) (by show (#[] ++ vs.toArray).size ≤ sizeLine + 1; simp only [Array.size_append, List.size_toArray, List.length_nil]; omega))
  refine wpAny_pure ?_
  show wpAny (model prog w) A (do
      let o ← load s.heap.objs.size
      match o.data with
      | .seq xs _ => pure xs.toList
      | _ => unsupported "internal:collect") Q E { s with heap := (s.heap.push (seqObj "list" #[] 0)).update s.heap.objs.size (Obj.mapSeq (· ++ vs.toArray)) }
  refine wpAny_bind (wpAny_load (get?_update_seq (Heap.get?_push_size _ rfl) _) ?_)
  show wpAny _ _ (pure ((#[] : Array Value) ++ vs.toArray).toList) Q E _
  rw [show ((#[] : Array Value) ++ vs.toArray).toList = vs by simp]
  exact wpAny_pure h
/-- sorted(x) of what is collected -/
theorem sorted_col {x : Value} {vs : List Value} {ltv : Value → Value → Bool} {Q : Value → Shared → Prop} (O : Swo ltv)
    (hcol : ∀ (A : Around) (E : Value → Shared → Prop) (Q : List Value → Shared → Prop), Q vs { s with heap := (s.heap.push (seqObj "list" #[] 0)).update s.heap.objs.size (Obj.mapSeq (· ++ vs.toArray)) } → wpAny (model prog w) A (collect x) Q E s) (hz : vs.length ≤ sizeLine)
    (hS : 2 ≤ vs.length → ∀ (h₁ : Heap) (a : Addr), h₁.get? a = some (seqObj "list" vs.toArray 0) → (∀ b o, s.heap.get? b = some o → b ≠ a ∧ h₁.get? b = some o) → SortableO prog w A.in1.in1 { s with heap := h₁ } a vs ltv)
    (h : ∀ out : List Value, Srtd ltv out → Stb ltv out vs → Q (.ref (s.heap.objs.size + 1)) { s with heap := sortedAll s.heap vs out.toArray }) :
    wpAny (model prog w) A (call (.builtin "sorted") [x]) Q E s := by
  refine Calls.call_function_entry kind_sorted plain_sorted entry_sorted (args_sorted1 _) ?_
  unfold Builtin.«sorted»
  refine wpAny_bind (m := checkCount "sorted" 1 1 _) (wpAny_pure ?_)
  refine wpAny_bind (hcol _ _ _ ?_)
  refine wpAny_bind (wpAny_newList ?_ hz)
  have hsz : ((s.heap.push (seqObj "list" #[] 0)).update s.heap.objs.size (Obj.mapSeq (· ++ vs.toArray))).objs.size = s.heap.objs.size + 1 := by
    rw [Heap.size_update, size_push']
  have hoL : (((s.heap.push (seqObj "list" #[] 0)).update s.heap.objs.size (Obj.mapSeq (· ++ vs.toArray))).push (seqObj "list" vs.toArray 0)).get? (s.heap.objs.size + 1) = some (seqObj "list" vs.toArray 0) := by
    rw [← hsz]; exact Heap.get?_push_size _ rfl
  have keep : ∀ b o, s.heap.get? b = some o → b ≠ s.heap.objs.size + 1 ∧ (((s.heap.push (seqObj "list" #[] 0)).update s.heap.objs.size (Obj.mapSeq (· ++ vs.toArray))).push (seqObj "list" vs.toArray 0)).get? b = some o := fun b o q => by
    have hlt : b < s.heap.objs.size := Heap.lt_size q
    refine ⟨Nat.ne_of_lt (Nat.lt_succ_of_lt hlt), Heap.get?_push_of_some _ ?_⟩
    rw [Heap.get?_update_ne _ _ _ _ (Nat.ne_of_lt hlt)]
    exact Heap.get?_push_of_some _ q
  show wpAny _ _ _ _ _ { s with heap := ((s.heap.push (seqObj "list" #[] 0)).update s.heap.objs.size (Obj.mapSeq (· ++ vs.toArray))).push (seqObj "list" vs.toArray 0) }
  rw [hsz]
  refine wpAny_bind (wpAny_holding (wpAny_call_entry slot_list_sort ⟨_, hoL, rfl⟩ entry_list_sort (list_sort_ord O hoL hz (fun h2 => hS h2 _ _ hoL keep) fun out hs hb => ⟨_, rfl, ?_⟩) (args_list_sort _)))
  exact wpAny_pure ⟨_, rfl, h out hs hb⟩
end
end SrT
namespace Lx
open PySem PySem.Spec PyProof.Rows L2
/-- sorted(xs), xs a list or a tuple of pairs of texts -/
def rSortedT (K : PySem.W.Frag) : List V → Hp → VK → Prop := fun vs H Q => ∃ (a : Addr) (ps : List Addr) (k : Addr → Str × Str), vs = [V.ref a] ∧ (SqL K H a (ps.map V.ref) ∨ SqT K H a (ps.map V.ref)) ∧ (∀ t ∈ ps, H t = some (.tup [.str (k t).1, .str (k t).2])) ∧
  ∀ (qs : List Addr) p, SrtO.Srtd (fun x y => SrT.lexT (k x) (k y)) qs → qs.Perm ps → H p = none → Q (.ref p) (upd H p (.lst (qs.map V.ref)))
section
variable {X : Cx}
theorem cr_sortedT : CallR X (.builtin "sorted") (rSortedT X.K) := by
  intro pins s σ H vs us Q I r h
  obtain ⟨a, ps, k, rfl, hs, hx, q⟩ := h
  obtain ⟨u, rfl, ru⟩ := vals1 r
  obtain rfl : u = Value.ref a := ru
  have com : ∀ its : List Value, Vals (ps.map V.ref) its → its.length ≤ sizeLine → (∀ (A : Around) (E : Value → Shared → Prop) (Q : List Value → Shared → Prop), Q its { s with heap := (s.heap.push (seqObj "list" #[] 0)).update s.heap.objs.size (Obj.mapSeq (· ++ its.toArray)) } → wpAny (model X.prog X.w) A (collect (.ref a)) Q E s) →
      wpAny (model X.prog X.w) X.A (call (.builtin "sorted") [Value.ref a]) (EP X pins σ Q) X.xe s := by
    intro its rv hz hcol
    have ei : its = ps.map Value.ref := by
      clear hcol hz hx q hs
      induction ps generalizing its with
      | nil => cases rv; rfl
      | cons x l ih =>
        cases rv with
        | cons h1 h2 =>
          rw [List.map_cons, ← ih _ h2]
          congr 1
    subst ei
    have hp : ∀ v ∈ ps.map Value.ref, SrT.IsTT s.heap v (match v with | .ref t => k t | _ => ("", "")).1 (match v with | .ref t => k t | _ => ("", "")).2 := by
      intro v hv
      obtain ⟨t, ht, rfl⟩ := List.mem_map.mp hv
      obtain ⟨_, its2, r2, o, ho, hc, n, hd⟩ := I.hok _ _ (hx t ht)
      obtain ⟨u1, u2, rfl, ri, rj⟩ := vals2 r2
      obtain ⟨t1, rfl⟩ := ri
      obtain ⟨t2, rfl⟩ := rj
      exact ⟨t, o, t1, t2, n, rfl, ho, hc, hd⟩
    refine SrT.sorted_col (SrT.swo_T fun v : Value => match v with | .ref t => k t | _ => ("", "")) hcol hz (fun h2 h₁ b hb kk => ?_) fun out h1 h2 => ?_
    · refine SrT.tt_sortable (s := { s with heap := h₁ }) (by omega) (fun v hm => (hp v hm).keeps fun b o e _ => (kk b o e).2) fun o e => ?_
      have e' : some o = some (seqObj "list" (ps.map Value.ref).toArray 0) := e.symm.trans hb
      cases e'
      intro c
      exact absurd (Value.type.inj c) (by decide)
    · obtain ⟨qs, rfl⟩ : ∃ qs : List Addr, out = qs.map Value.ref := by
        have hm : ∀ v ∈ out, ∃ t, v = Value.ref t := fun v hv => by
          obtain ⟨t, _, e⟩ := List.mem_map.mp (h2.perm.mem_iff.mp hv)
          exact ⟨t, e.symm⟩
        clear h1 h2
        induction out with
        | nil => exact ⟨[], rfl⟩
        | cons v r ih =>
          obtain ⟨t, rfl⟩ := hm v List.mem_cons_self
          obtain ⟨qs, rfl⟩ := ih fun v hv => hm v (List.mem_cons_of_mem _ hv)
          exact ⟨t :: qs, rfl⟩
      have perm : qs.Perm ps := by
        have h3 := h2.perm.map (fun v : Value => match v with | .ref t => t | _ => 0)
        rw [List.map_map, List.map_map] at h3
        have ef : ((fun v : Value => match v with | .ref t => t | _ => 0) ∘ Value.ref) = id := by funext t; rfl
        rw [ef, List.map_id, List.map_id] at h3
        exact h3
      have srt : SrtO.Srtd (fun x y => SrT.lexT (k x) (k y)) qs := List.pairwise_map.mp h1
      obtain ⟨n, hn⟩ := PyProof.Rows.sortedAll_at s.heap (ps.map Value.ref) (qs.map Value.ref).toArray
      have hd : s.heap.objs.size ≤ s.heap.objs.size + 1 := Nat.le_succ _
      have rq : Vals (qs.map V.ref) (qs.map Value.ref) := by
        clear h1 h2 perm srt hn
        induction qs with
        | nil => exact .nil
        | cons x l ih => exact .cons rfl ih
      refine ⟨.ref (s.heap.objs.size + 1), upd H (s.heap.objs.size + 1) (.lst (qs.map V.ref)), I.laid (t' := s.toks) (fun b o e => PyProof.Rows.sortedAll_old e) hd ⟨?_, _, n, rq, hn⟩, rfl, q qs _ srt perm (I.hok.fresh hd)⟩
      rw [List.length_map, perm.length_eq, ← List.length_map (f := Value.ref)]
      exact hz
  rcases hs with hs | hs
  · obtain ⟨its, rv, hl, hz⟩ := I.list hs
    exact com its rv (by rw [← rv.length]; exact hz) fun A E Q h => collect_list hl.isList h (by rw [← rv.length]; exact hz)
  · obtain ⟨its, rv, hl, hz⟩ := I.tuple hs
    exact com its rv (by rw [← rv.length]; exact hz) fun A E Q h => SrT.collect_tup (show s.heap.IsTuple a its.toArray from hl) h (by rw [← rv.length]; exact hz)
/-- a list or a tuple, walked -/
def iSeq (K : PySem.W.Frag) (tl : TE) : TI := fun σ H R => iList K tl σ H R ∨ iTup K tl σ H R
theorem pi_seq {tg l : Expr} {tl : TE} (hl : PE X l tl) : PI X tg l (iSeq X.K tl) := by
  refine ⟨fun pins s σ H R I h => ?_⟩
  rcases h with h | h
  · exact (pi_list hl).run pins s σ H R I h
  · exact (pi_tup hl).run pins s σ H R I h
theorem ty_list {K : PySem.W.Frag} {H : Hp} {a : Addr} {xs : List V} (h : SqL K H a xs) : TyX K H (.ref a) (.type "list") := by
  rcases h with (h | ⟨o, h⟩) | ⟨o, its, n, hk, hc, _⟩
  · exact .base (.lst h)
  · exact .base (.frz h)
  · exact .kList hk hc
theorem ty_tup {K : PySem.W.Frag} {H : Hp} {a : Addr} {xs : List V} (h : SqT K H a xs) : TyX K H (.ref a) (.type "tuple") := by
  rcases h with (h | ⟨o, h⟩) | ⟨o, its, n, hk, hc, _⟩
  · exact .base (.tup h)
  · exact .fTuple h
  · exact .kTuple hk hc
theorem same_tup {K : PySem.W.Frag} {H H' : Hp} {a : Addr} {xs : List V} (e : Same H H') (h : SqT K H a xs) : SqT K H' a xs := by
  rcases h with (h | ⟨o, h⟩) | h
  · exact .inl (.inl (e _ _ h))
  · exact .inl (.inr ⟨o, e _ _ h⟩)
  · exact .inr h
/-- a list or a tuple -/
def Sq (K : PySem.W.Frag) (H : Hp) (a : Addr) (xs : List V) : Prop := SqL K H a xs ∨ SqT K H a xs
theorem Sq.same {K : PySem.W.Frag} {H H' : Hp} {a : Addr} {xs : List V} (h : Sq K H a xs) (e : Same H H') : Sq K H' a xs := h.elim (fun h => .inl (e.seq h)) (fun h => .inr (same_tup e h))
end
end Lx

set_option maxRecDepth 100000
set_option maxHeartbeats 4000000
namespace Lx
open PySem PySem.Spec PyProof.Rows L2
section
variable {X : Cx} {k j : Nat} {C : Addr} {sp : Sp}
/-- a def run from a deeper place of the same frame -/
theorem run_sub {CX : CXT} {f : Addr} {fd : FuncData} {ps : List Str} {A : Around} {pins : List (Addr × Obj)} {σ : L2.St} {H : Hp} {s : Shared} {Q : VK} {E : XK} {us : List Value} {vs : List V} (F : FnOk X.prog X.w X.K X.mg X.base CX k f fd ps sp) (sb : Sub X k A) (hb : Binds X.K fd ps [])
    (hx : Passes CX X E) (I : Inv X pins σ H s) (r : Vals vs us) (h : sp vs H Q E) : wpAny (model X.prog X.w) A (call (.ref f) us) (EP X pins σ Q) X.xe s := by
  have e0 : Env0 X.prog X.w X.K X.mg X.base A X.stack s H := by
    have e := I.env0
    exact ⟨by rw [sb.fr]; exact e.frames, e.mod, e.bs, e.bsz, e.funs, e.frf, e.hok, e.bare⟩
  have hl : (us ++ []).length = ps.length := by rw [List.append_nil, ← r.length]; exact F.len _ _ _ _ h
  refine wpAny_call (codeAny_mono (F.run A X.stack s H ⟨us, []⟩ us vs Q E sb.room e0 (by have := hb s us I.kIn hl; simpa using this) r h) fun r s' hq => ?_)
  cases r with
  | error e => exact hx pins σ H s e s' I hq
  | ok fl =>
    cases fl with
    | ret w => exact I.after hq
    | next => exact False.elim hq
    | brk => exact False.elim hq
    | cont => exact False.elim hq
theorem vals_nil {ds : List Value} (h : Vals [] ds) : ds = [] := by cases h; rfl
theorem sub_in2 {A : Around} (hr : Room j A) (hk : k + 2 ≤ j) (hf : A.frames = X.A.frames) : Sub X k A.in1.in1 := by
  have s : Sub X (k + 2) A := ⟨hr.mono hk, hf⟩
  exact s.in1.in1
/-- str(o) by the text's own __str__ -/
def rStrO (C : Addr) (sp : Sp) : List V → Hp → VK → Prop := fun xs H Q => ∃ a dx fs, xs = [.ref a] ∧ H a = some (.ins C dx fs) ∧ sp [.ref a] H (fun v H' => ∃ z, v = .str z ∧ Q (.str z) H') C8.E0
theorem call_str_own (c : C8.Met X.prog X.w X.K X.mg X.base k C "__str__" sp []) (hr : Room j X.A) (hk : k + 2 ≤ j) : CallR X (.type "str") (rStrO C sp) := by
  intro pins s σ H xs us Q I rv h
  obtain ⟨a, dx, fs, rfl, ha, hsp⟩ := h
  obtain ⟨f, fd, ps, ds, _, me, F, b, d⟩ := c.ex
  obtain rfl := vals_nil d
  cases rv with
  | cons r rr =>
    cases rr
    cases r
    obtain ⟨mA, J, _⟩ := ins_get I.hok ha
    obtain ⟨od, J, _⟩ := J.look
    have sb : Sub X k X.A.in1.in1 := sub_in2 hr hk rfl
    refine PySem.W.kso_call sb.room.units0 I.kIn J me.at_ me.fn (wpAny_mono (run_sub (vs := [.ref a]) F sb b C8.pass0 I (.cons rfl .nil) hsp) (fun u s' q => ?_) fun _ _ x => x)
    obtain ⟨v, H', I', ru, z, ez, q⟩ := q
    subst ez
    obtain ⟨t, rfl⟩ := ru
    exact ⟨.str z, H', I', ⟨t, rfl⟩, q⟩
/-- len(o) by the text's own __len__ -/
def rLenO (C : Addr) (sp : Sp) : List V → Hp → VK → Prop := fun xs H Q => ∃ a dx fs, xs = [.ref a] ∧ H a = some (.ins C dx fs) ∧ sp [.ref a] H (fun v H' => ∃ n : Int, v = .int n ∧ 0 ≤ n ∧ n < 2 ^ 63 ∧ Q (.int n) H') C8.E0
theorem call_len_own (c : C8.Met X.prog X.w X.K X.mg X.base k C "__len__" sp []) (hr : Room j X.A) (hk : k + 2 ≤ j) : CallR X (.builtin "len") (rLenO C sp) := by
  intro pins s σ H xs us Q I rv h
  obtain ⟨a, dx, fs, rfl, ha, hsp⟩ := h
  obtain ⟨f, fd, ps, ds, _, me, F, b, d⟩ := c.ex
  obtain rfl := vals_nil d
  cases rv with
  | cons r rr =>
    cases rr
    cases r
    obtain ⟨mA, J, _⟩ := ins_get I.hok ha
    obtain ⟨od, J, _⟩ := J.look
    have sb : Sub X k X.A.in1 := (show Sub X (k + 1) X.A from ⟨hr.mono (by omega), rfl⟩).in1
    obtain ⟨m, hF⟩ := I.fr
    refine PySem.W.len_K hF I.ok.mod.kin J me.at_ me.fn (wpAny_mono (run_sub (vs := [.ref a]) F sb b C8.pass0 I (.cons rfl .nil) hsp) (fun u s' q => ?_) fun _ _ x => x)
    obtain ⟨v, H', I', ru, z, ez, h0, h1, q⟩ := q
    subst ez
    obtain ⟨t, rfl⟩ := ru
    exact ⟨⟨h0, h1⟩, .int z, H', I'.tok _, ⟨_, rfl⟩, q⟩
/-- o == p, both of the class at C, by the text's own __eq__ -/
def rEqO (C : Addr) (sp : Sp) : R2 := fun x y H Q => ∃ a b dx dy fs gs, x = .ref a ∧ y = .ref b ∧ H a = some (.ins C dx fs) ∧ H b = some (.ins C dy gs) ∧ sp [.ref a, .ref b] H (fun v H' => ∃ t : Bool, v = .bl t ∧ Q (.bl t) H') C8.E0
theorem op_eqOwn (c : C8.Met X.prog X.w X.K X.mg X.base k C "__eq__" sp []) (hr : Room j X.A) (hk : k ≤ j) : OpR X (compareOp .Eq) (rEqO C sp) := by
  intro pins s σ H x y v u Q I rx ry h
  obtain ⟨a, b, dx, dy, fs, gs, rfl, rfl, ha, hb, hsp⟩ := h
  obtain ⟨f, fd, ps, ds, _, me, F, bn, d⟩ := c.ex
  obtain rfl := vals_nil d
  cases rx
  cases ry
  obtain ⟨mA, J, _⟩ := ins_get I.hok ha
  obtain ⟨mB, J', _⟩ := ins_get I.hok hb
  obtain ⟨od, J, _⟩ := J.look
  obtain ⟨od', J', _⟩ := J'.look
  obtain ⟨m, hF⟩ := I.fr
  have sb : Sub X k X.A := ⟨hr.mono hk, rfl⟩
  show wpAny (model X.prog X.w) X.A (richCompare .Eq (.ref a) (.ref b)) (EP X pins σ Q) X.xe s
  refine PySem.W.cmp_K (op := .Eq) (tb := .ref C) sb.room.units0 hF I.ok.mod.kin J J'.type (by simp [PySem.W.notFirst]) me.at_ me.fn ?_
  refine wpAny_mono (run_sub (vs := [.ref a, .ref b]) F sb bn C8.pass0 I (.cons rfl (.cons rfl .nil)) hsp) (fun u s' q => ?_) fun _ _ x => x
  obtain ⟨v, H', I', ru, t, ez, q⟩ := q
  subst ez
  cases (show u = Value.bool t from ru)
  exact ⟨.bl t, H', I', rfl, q⟩
end
/-- what of the text != wants -/
structure NeT (K : PySem.W.Frag) (C : Addr) : Prop where
  mro : PySem.W.mroIn K C (.type "object") = some true
  ne : PySem.W.findIn K (.ref C) "__ne__" = some (some (.builtin "object.__ne__"))
section
open PySem.W
variable {M : Model} {prog : Program} {w : World} {A : Around} {E : Value → Shared → Prop} {s : Shared} {K : PySem.W.Frag} {x C f : Addr} {ox : Obj} {od : Option Obj} {b tb : Value}
theorem ifBound_bltn {name : Str} {id : String} {args : List Value} {Q : Option Value → Shared → Prop} (X : K.In s.heap) (I : PySem.W.InstAt s.heap x ox C od) (hs : PySem.W.findIn K (.ref C) name = some (some (.builtin id)))
    (hb : ∀ self, bindSpecial (.builtin id) self = pure (.builtin id, [self])) (h : wpAny M A (call (.builtin id) (.ref x :: args)) (fun v => Q (some v)) E s) : wpAny M A (callSpecialIfBound? (.ref x) name args) Q E s := by
  simp only [callSpecialIfBound?, bindSpecialIfBound?]
  refine wpAny_holding (wpAny_bind (wpAny_bind (wpAny_bind (I.type.here ((PySem.W.looks_findIn X hs).here ?_)))))
  refine wpAny_bind (wpAny_askSetting (wpAny_ite ?_))
  have fin : wpAny M A (call (.builtin id) ([.ref x] ++ args) >>= fun v => pure (some v)) Q E s := wpAny_bind (wpAny_mono h (fun v s' h' => wpAny_pure h') fun _ _ h' => h')
  split
  · exact wpAny_bind (wpAny_of_eq (hb _) (wpAny_pure (by exact fin)))
  · exact wpAny_tryCatch (wpAny_bind (wpAny_of_eq (hb _) (wpAny_pure (by exact fin))))
theorem ne_tree {Q : Fin → Shared → Prop} (hu : A.units < cLine) (X : K.In s.heap) (I : PySem.W.InstAt s.heap x ox C od) (he : PySem.W.findIn K (.ref C) "__eq__" = some (some (.ref f))) (hf : PySem.W.isFn K (.ref f) = true)
    (h : wpAny M A (call (.ref f) [.ref x, b]) (fun v s' => ∃ t : Bool, v = .bool t ∧ Q (.done (.ret (.bool (!t)))) s') E s) : wpAny M A (Builtin.«object.__ne__» ⟨[.ref x, b], []⟩) Q E s := by
  unfold Builtin.«object.__ne__»
  refine wpAny_bind (m := slotArgs "__ne__" 1 _) (wpAny_pure ?_)
  refine wpAny_bind (m := cRoomFor _ _) (wpAny_cRoomFor hu ?_)
  refine wpAny_bind (m := callSpecialIfBound? (.ref x) (Str.ofString "__eq__") _) (ifBound_K X I he hf (wpAny_mono h (fun r s' hr => ?_) fun _ _ y => y))
  obtain ⟨t, rfl, q⟩ := hr
  exact wpAny_bind (wpAny_truthy_bool (wpAny_pure q))
theorem cmp_neK {Q : Value → Shared → Prop} (hu : A.units < cLine) (hu1 : A.in1.units < cLine) (X : K.In s.heap) (I : PySem.W.InstAt s.heap x ox C od) (hb : Looks (model prog w) s.heap (typeOf b) tb) (hn : PySem.W.notFirst K C tb = true) (N : NeT K C)
    (he : PySem.W.findIn K (.ref C) "__eq__" = some (some (.ref f))) (hf : PySem.W.isFn K (.ref f) = true)
    (h : wpAny (model prog w) A.in1 (call (.ref f) [.ref x, b]) (fun v s' => ∃ t : Bool, v = .bool t ∧ Q (.bool (!t)) s') E s) : wpAny (model prog w) A (richCompare .NotEq (.ref x) b) Q E s := by
  have one : wpAny (model prog w) A (tryCompare (.ref x) (cmpInfo .NotEq).2.1 b) (fun r s' => ∃ v, r = some v ∧ Q v s') E s := by
    unfold tryCompare
    refine wpAny_bind (ifBound_bltn X I N.ne F.cmp_object.ne.bind ?_)
    refine wpAny_call (codeAny_call_builtin F.cmp_object.ne.plain F.cmpEntry_ne (PySem.W.check_slot F.cmpKind_ne F.cmpSplit_ne (I.type.andThen (PySem.W.looks_mroIn X N.mro)) (F.cmpArgs_ne _ _) (ne_tree hu1 X I he hf (wpAny_mono h (fun v s' hv => ?_) fun _ _ e => e))))
    obtain ⟨t, rfl, q⟩ := hv
    exact ⟨t, rfl, wpAny_pure ⟨_, rfl, q⟩⟩
  unfold richCompare
  simp only [oneThing_ref]
  refine wpAny_holding (wpAny_bind (wpAny_cRoomFor hu ?_))
  refine wpAny_bind (I.type.here (wpAny_bind (hb.here ?_)))
  split
  · rename_i q
    have e : subIn K tb (.ref C) = some false := by
      rcases Bool.or_eq_true_iff.mp hn with e | e
      · rw [beq_iff_eq.mp e] at q; simp at q
      · exact beq_iff_eq.mp e
    refine wpAny_bind ((looks_subIn X e).here ?_)
    simp only [Bool.false_eq_true, if_false]
    refine wpAny_bind (wpAny_mono one (fun r s' z => ?_) fun _ _ e => e)
    obtain ⟨v, rfl, hq⟩ := z
    exact wpAny_pure hq
  · refine wpAny_bind (wpAny_pure ?_)
    simp only [Bool.false_eq_true, if_false]
    refine wpAny_bind (wpAny_mono one (fun r s' z => ?_) fun _ _ e => e)
    obtain ⟨v, rfl, hq⟩ := z
    exact wpAny_pure hq
end
section
variable {X : Cx} {k j i : Nat} {C : Addr} {sp : Sp} {x y : Str} {dvs : List V} {p pos : Pos} {e : Expr} {es : List Expr} {t : TA}
/-- o != p -/
def rNeO (C : Addr) (sp : Sp) : R2 := fun x y H Q => ∃ a b dx dy fs gs, x = .ref a ∧ y = .ref b ∧ H a = some (.ins C dx fs) ∧ H b = some (.ins C dy gs) ∧ sp [.ref a, .ref b] H (fun v H' => ∃ t : Bool, v = .bl t ∧ Q (.bl (!t)) H') C8.E0
theorem op_neOwn (c : C8.Met X.prog X.w X.K X.mg X.base k C "__eq__" sp []) (N : NeT X.K C) (hr : Room j X.A) (hk : k + 1 ≤ j) : OpR X (compareOp .NotEq) (rNeO C sp) := by
  intro pins s σ H x y v u Q I rx ry h
  obtain ⟨a, b, dx, dy, fs, gs, rfl, rfl, ha, hb, hsp⟩ := h
  obtain ⟨f, fd, ps, ds, _, me, F, bn, d⟩ := c.ex
  obtain rfl := vals_nil d
  cases rx
  cases ry
  obtain ⟨mA, J, _⟩ := ins_get I.hok ha
  obtain ⟨mB, J', _⟩ := ins_get I.hok hb
  obtain ⟨od, J, _⟩ := J.look
  obtain ⟨od', J', _⟩ := J'.look
  have sb1 : Sub X (k + 1) X.A := ⟨hr.mono hk, rfl⟩
  have sb := sb1.in1
  show wpAny (model X.prog X.w) X.A (richCompare .NotEq (.ref a) (.ref b)) (EP X pins σ Q) X.xe s
  refine cmp_neK (tb := .ref C) sb1.room.units0 sb.room.units0 I.kIn J J'.type (by simp [PySem.W.notFirst]) N me.at_ me.fn ?_
  refine wpAny_mono (run_sub (vs := [.ref a, .ref b]) F sb bn C8.pass0 I (.cons rfl (.cons rfl .nil)) hsp) (fun u s' q => ?_) fun _ _ x => x
  obtain ⟨v, H', I', ru, t, ez, q⟩ := q
  subst ez
  cases (show u = Value.bool t from ru)
  exact ⟨t, rfl, .bl (!t), H', I', rfl, q⟩
/-- the class in the i-th slot is made -/
def tMakeL (i : Nat) (C : Addr) (sp : Sp) (dvs : List V) (t : TA) : TE := fun σ H Q => σ[i]? = some (some (.ref C)) ∧ tMake C sp dvs C8.E0 t σ H Q
theorem pe_mkL (i : Nat) (c : C8.Mak X.prog X.w X.K X.mg X.base k y C sp dvs) (hr : Room j X.A) (hk : k + 1 ≤ j) (ha : PA X (e :: es) t) (hN : X.N[i]? = some x := by rfl) (hv : Vis X.env.scope x := by first | exact Or.inl rfl | exact Or.inr (Or.inl rfl) | exact Or.inr (Or.inr rfl))
    (hdb : (x == ("__debug__" : Str)) = false := by decide) (hcd : (x == ("__classdict__" : Str)) = false := by decide)
    (he : starEach (e :: es) X.env = (false, eval e X.env) :: starEach es X.env := by rfl) (hpl : (backTo pos (starEach es X.env)).any (·.1) = false := by rfl) : PE X (.Call (.Name x p) (e :: es) [] pos) (tMakeL i C sp dvs t) := by
  obtain ⟨f, fd, ps, ds, M, F, hm, b, d⟩ := c.ex
  refine ⟨fun pins s σ H Q I h => ?_⟩
  obtain ⟨hs, ht⟩ := h
  refine wpAny_Call_Name_kw (thn ((pe_var (pos := p) hN hv hdb hcd).run pins s σ H (fun v H1 => v = .ref C ∧ H1 = H) I ⟨.ref C, hs, rfl, rfl⟩) fun u s1 ⟨v, H1, I1, r1, q1⟩ => ?_)
  obtain ⟨rfl, rfl⟩ := q1
  cases r1
  refine PySem.W.callWith_K (h₀ := X.base) I.ok.mod.kin M.kp (thn (ha.run pos pins s1 σ _ _ I1 ht) fun us s2 ⟨vs, H2, I2, r, q⟩ => ⟨I2.kIn, ?_⟩) he hpl
  exact run_make M F (hr.mono hk) b d C8.pass0 I2 r q
theorem pe_mkL0 (i : Nat) (c : C8.Mak X.prog X.w X.K X.mg X.base k y C sp dvs) (hr : Room j X.A) (hk : k + 1 ≤ j) (hN : X.N[i]? = some x := by rfl) (hv : Vis X.env.scope x := by first | exact Or.inl rfl | exact Or.inr (Or.inl rfl) | exact Or.inr (Or.inr rfl))
    (hdb : (x == ("__debug__" : Str)) = false := by decide) (hcd : (x == ("__classdict__" : Str)) = false := by decide) : PE X (.Call (.Name x p) [] [] pos) (tMakeL i C sp dvs tNil) := by
  obtain ⟨f, fd, ps, ds, M, F, hm, b, d⟩ := c.ex
  refine ⟨fun pins s σ H Q I h => ?_⟩
  obtain ⟨hs, ht⟩ := h
  refine wpAny_Call_Name_kw (thn ((pe_var (pos := p) hN hv hdb hcd).run pins s σ H (fun v H1 => v = .ref C ∧ H1 = H) I ⟨.ref C, hs, rfl, rfl⟩) fun u s1 ⟨v, H1, I1, r1, q1⟩ => ?_)
  obtain ⟨rfl, rfl⟩ := q1
  cases r1
  exact PySem.W.callWith_K0 I1.kIn M.kp (run_make (us := []) M F (hr.mono hk) b d C8.pass0 I1 .nil ht)
/-- a classmethod of the class at C, C the module's name x -/
structure CMt (P : Program) (w : World) (K : PySem.W.Frag) (mg : Str → Option Value) (base : Heap) (k : Nat) (x : Str) (C : Addr) (m : Str) (sp : Sp) : Prop where
  ex : ∃ (mc : Value) (p g : Addr) (fd : FuncData) (ps : List Str), mg x = some (.ref C) ∧ ClX.CRead K C mc ∧ ClX.CMet K C mc m p g ∧ FnOk P w K mg base C8.CX0 k g fd ps sp ∧ Binds K fd ps []
theorem pe_cm {m : Str} {apos : Pos} {pl : Sem Bool} (c : CMt X.prog X.w X.K X.mg X.base k x C m sp) (hr : Room j X.A) (hk : k ≤ j) (hg : Gl X x) (ha : PA X (e :: es) t) (hdb : (x == ("__debug__" : Str)) = false := by decide)
    (hst : starEach (e :: es) X.env = (false, eval e X.env) :: starEach es X.env := by rfl) (hpl : (backTo pos (starEach es X.env)).any (·.1) = false := by rfl)
    (ht : eval (.Call (.Attribute (.Name x p) m apos) (e :: es) [] pos) X.env = (do
      let ov ← eval (.Name x p) X.env
      standAt apos.atName
      let (f, first) ← holding [ov] (getMethod ov m pl)
      callWith pos f first (backTo pos (starEach (e :: es) X.env)) (backToKw pos (keywordEach [] X.env))) := by rfl) :
    PE X (.Call (.Attribute (.Name x p) m apos) (e :: es) [] pos) (ClX.tCMeth C sp C8.E0 (tC (.ref C)) t) := by
  obtain ⟨mc, q, g, fd, ps, hm, r, cm, F, b⟩ := c.ex
  exact ClX.pe_cmeth (pe_glob (v := .ref C) hg hm rfl hdb) r cm (F.raw b .nil |>.imp fun vs H Q E h => by rw [List.append_nil]; exact h) (hr.mono hk) C8.pass0 ha hst hpl ht
end
/-- what isinstance wants of a class -/
structure IsT (K : PySem.W.Frag) (C : Addr) : Prop where
  cl : Cls K C
  ha : PySem.W.findIn K (.ref C) "__class__" = some (some (.builtin "object.__class__"))
  hn : PySem.W.specialIn K (.builtin "object.__class__") "__get__" = some (some (.builtin "getset_descriptor.__get__"))
  ht : PySem.W.takesIn K (.builtin "object.__class__") = some true
  hm : PySem.W.mroIn K C (.type "object") = some true
theorem IsT.ty {K : PySem.W.Frag} {C a dx : Addr} {H : Hp} {fs : List (Str × V)} (I : IsT K C) (e : H a = some (.ins C dx fs)) : TyX K H (.ref a) (.ref C) := .base (.ins e I.cl I.ha I.hn I.ht I.hm)
theorem IsT.one {K : PySem.W.Frag} {C : Addr} (_ : IsT K C) : PySem.W.kitOne K (.ref C) (.ref C) = some true := by
  unfold PySem.W.kitOne
  rw [if_pos (beq_self_eq_true _)]
/-- an f-string inside a comprehension: its reading by a name -/
def tJn (ts : List TE) : TE := fun σ H Q => tJs ts Str.empty σ H fun out H1 => Q (.str out) H1
theorem pe_jn {X : Cx} {v1 v2 : Expr} {rest : List Expr} {ts : List TE} {pos : Pos} (h : PJ X (v1 :: v2 :: rest) ts) : PE X (.JoinedStr (v1 :: v2 :: rest) pos) (tJn ts) := pe_joined h
end Lx

set_option maxRecDepth 100000
set_option maxHeartbeats 4000000
namespace U
open PySem PySem.Spec PyProof.Rows
open L2 hiding Fun CX0 E0 pass0 Fun.binds
open C8 Lx SX
/-! words of bits as texts -/
def bt (b : Bool) : Nat := if b then 49 else 48
def W (l : List Bool) : Str := S (l.map bt)
theorem bt_inj : ∀ {a b : Bool}, bt a = bt b → a = b := by decide
theorem map_bt_inj : ∀ {a b : List Bool}, a.map bt = b.map bt → a = b
  | [], [], _ => rfl
  | [], _ :: _, h => by simp at h
  | _ :: _, [], h => by simp at h
  | x :: l, y :: m, h => by
    rw [List.map_cons, List.map_cons] at h
    injection h with h1 h2
    rw [bt_inj h1, map_bt_inj h2]
theorem W_inj {a b : List Bool} (h : W a = W b) : a = b := map_bt_inj (S_inj h)
theorem W_eq {a b : List Bool} : (W a = W b) ↔ a = b := ⟨W_inj, fun h => by rw [h]⟩
theorem W_len (a : List Bool) : (W a).length = a.length := by unfold W; rw [S_len, List.length_map]
theorem W_size (a : List Bool) : (W a).cps.size = a.length := by unfold W; simp
theorem W_cat (a b : List Bool) : W a ++ W b = W (a ++ b) := by unfold W; rw [S_cat, List.map_append]
theorem W_nil : ("" : Str) = W [] := by decide +kernel
theorem W_0 : ("0" : Str) = W [false] := by decide +kernel
theorem W_1 : ("1" : Str) = W [true] := by decide +kernel
theorem W_get {a : List Bool} {i : Nat} {c : Nat} (h : (W a).cps[i]? = some c) : ∃ b, a[i]? = some b ∧ c = bt b := by
  unfold W S at h
  rw [List.getElem?_toArray, List.getElem?_map] at h
  cases e : a[i]? with
  | none => rw [e] at h; cases h
  | some b => rw [e] at h; exact ⟨b, rfl, (Option.some.inj h).symm⟩
theorem W_bit (b : Bool) : (⟨#[bt b]⟩ : Str) = W [b] := rfl
theorem W_tl (a : List Bool) : (W a).cps.toList = a.map bt := rfl
theorem joinL_nil : ∀ ys : List (List Nat), TL.joinL [] ys = ys.flatten
  | [] => rfl
  | [p] => by simp [TL.joinL]
  | p :: q :: r => by
    show p ++ ([] ++ TL.joinL [] (q :: r)) = _
    rw [List.nil_append, joinL_nil (q :: r)]
    rfl
theorem join_W (ls : List (List Bool)) : Txt.join "" (ls.map W) = W ls.flatten := by
  have e : (ls.map W) = (ls.map (·.map bt)).map S := by rw [List.map_map]; rfl
  have e2 : ("" : Str) = S [] := by decide +kernel
  rw [e, e2, join_S, joinL_nil]
  unfold W
  rw [List.map_flatten]
theorem join_bits (l : List Bool) : Txt.join "" (l.map fun b => W [b]) = W l := by
  have e : (l.map fun b => W [b]) = (l.map fun b => [b]).map W := by rw [List.map_map]; rfl
  rw [e, join_W]
  congr 1
  induction l with
  | nil => rfl
  | cons b r ih => simp [ih]
theorem sum_lens : ∀ ls : List (List Bool), ((ls.map W).map (·.length)).sum = (ls.map (·.length)).sum
  | [] => rfl
  | l :: r => by
    rw [List.map_cons, List.map_cons, List.map_cons, List.sum_cons, List.sum_cons, W_len, sum_lens r]
theorem sl_len {n : Nat} (h : n ≤ 100000) : n ≤ sizeLine := Nat.le_trans h (by decide)
theorem sl_lt {n : Nat} (h : n < 100000) : n < sizeLine := Nat.lt_of_lt_of_le h (by decide)
def bitsV (l : List Bool) : List V := (l.map fun b => W [b]).map V.str
theorem lens_bits (l : List Bool) : ((l.map fun b => W [b]).map (·.length)).sum = l.length := by
  induction l with
  | nil => rfl
  | cons b r ih => rw [List.map_cons, List.map_cons, List.sum_cons, ih, W_len, List.length_cons]; simp only [List.length_cons, List.length_nil]; omega
theorem bitsV_len (l : List Bool) : (bitsV l).length = l.length := by unfold bitsV; rw [List.length_map, List.length_map]
theorem bitsV_snoc (l : List Bool) (b : Bool) : bitsV l ++ [V.str (W [b])] = bitsV (l ++ [b]) := by unfold bitsV; simp
theorem mem2 {v : V} (h : v ∈ ([.str "0", .str "1"] : List V)) : ∃ b : Bool, v = .str (W [b]) := by
  rcases List.mem_cons.mp h with rfl | h
  · exact ⟨false, by rw [W_0]⟩
  · rcases List.mem_cons.mp h with rfl | h
    · exact ⟨true, by rw [W_1]⟩
    · cases h
theorem empty_len : ("" : Str).length = 0 := by decide +kernel
/-! tests whose answer is known -/
theorem q_dec {c : Prop} [Decidable c] {Q : VK} {H : Hp} (hc : c) (h : Q (.bl true) H) : Q (.bl (decide c)) H := by rw [decide_eq_true hc]; exact h
theorem q_ndec {c : Prop} [Decidable c] {Q : VK} {H : Hp} (hc : ¬ c) (h : Q (.bl false) H) : Q (.bl (decide c)) H := by rw [decide_eq_false hc]; exact h
theorem iteDT {c A B : Prop} [Decidable c] (hc : c) (h : A) : if decide c = true then A else B := by rw [decide_eq_true hc]; exact iteT h
theorem iteDF {c A B : Prop} [Decidable c] (hc : ¬ c) (h : B) : if decide c = true then A else B := by rw [decide_eq_false hc]; exact iteF h
theorem iteNT {c A B : Prop} [Decidable c] (hc : ¬ c) (h : A) : if (!decide c) = true then A else B := by rw [decide_eq_false hc]; exact iteT h
theorem iteBT {b : Bool} {A B : Prop} (hc : b = true) (h : A) : if b = true then A else B := by rw [hc]; exact iteT h
theorem iteBF {b : Bool} {A B : Prop} (hc : b = false) (h : B) : if b = true then A else B := by rw [hc]; exact iteF h
def oW : Option (List Bool) → V
  | none => .non
  | some x => .str (W x)
/-! slices -/
theorem W_drop {a : List Bool} {i : Int} (h : 0 ≤ i) : Txt.slice (W a) (some i) none = W (a.drop i.toNat) := by
  unfold W; rw [slice_from h, List.map_drop]
theorem W_take {a : List Bool} {i : Int} (h : 0 ≤ i) : Txt.slice (W a) none (some i) = W (a.take i.toNat) := by
  unfold W; rw [slice_to h, List.map_take]
theorem repl_succ (l : List Bool) (n : Nat) : (List.replicate (n + 1) l).flatten = l ++ (List.replicate n l).flatten := by rw [List.replicate_succ]; rfl
theorem foldl_app : ∀ (n : Nat) (a b : Array Nat), ((List.replicate n a).foldl (· ++ ·) b).toList = b.toList ++ (List.replicate n a.toList).flatten
  | 0, a, b => by simp
  | n + 1, a, b => by
    rw [List.replicate_succ, List.foldl_cons, foldl_app n a (b ++ a), List.replicate_succ, List.flatten_cons, Array.toList_append, List.append_assoc]
theorem mul_W {l : List Bool} {n : Nat} (h : 1 ≤ n) : Txt.mul (W l) (n : Int) = W (List.replicate n l).flatten := by
  refine TL.ext_tl ?_
  unfold Txt.mul
  rw [if_neg (by omega)]
  by_cases c : (((n : Int) == 1) || (W l).length == 0) = true
  · rw [if_pos c]
    simp only [Bool.or_eq_true, beq_iff_eq] at c
    rcases c with c | c
    · have : n = 1 := by omega
      subst this
      simp
    · rw [W_len] at c
      have : l = [] := List.length_eq_zero_iff.mp c
      subst this
      rw [show (List.replicate n ([] : List Bool)).flatten = [] by simp]
  · rw [if_neg c]
    show ((List.replicate (n : Int).toNat (W l).cps).foldl (· ++ ·) #[]).toList = _
    rw [foldl_app, Int.toNat_natCast]
    show [] ++ (List.replicate n (l.map bt)).flatten = ((List.replicate n l).flatten).map bt
    rw [List.map_flatten, List.map_replicate, List.nil_append]
end U

set_option maxRecDepth 100000
set_option maxHeartbeats 4000000
/-! rules, in plain Lean -/
namespace U
abbrev Stf := List Bool × Bool
def putM (ss : List Stf) (l : List Bool) : Option Bool := (ss.find? fun s => s.1.isSuffixOf l).map (·.2)
/-- the bits that are put in behind l -/
inductive Ins (ss : List Stf) : List Bool → List Bool → Prop
  | stop {l : List Bool} : putM ss l = none → Ins ss l []
  | more {l x : List Bool} {b : Bool} : putM ss l = some b → Ins ss (l ++ [b]) x → Ins ss l (b :: x)
inductive Reach (ss : List Stf) : List Bool → Prop
  | nil : Reach ss []
  | next {l x : List Bool} {b : Bool} : Reach ss l → Ins ss (l ++ [b]) x → Reach ss (l ++ [b] ++ x)
def OkR (ss : List Stf) : Prop := ∀ l, Reach ss l → ∀ b, ∃ x, Ins ss (l ++ [b]) x
/-- each message ends, within n bits that are put in at a time -/
def OkN (n : Nat) (ss : List Stf) : Prop := ∀ l, Reach ss l → ∀ b, ∃ x, Ins ss (l ++ [b]) x ∧ x.length ≤ n
abbrev OkS (ss : List Stf) : Prop := OkN 19 ss
theorem OkN.ok {n : Nat} {ss : List Stf} (h : OkN n ss) : OkR ss := fun l r b => by
  obtain ⟨x, hx, _⟩ := h l r b
  exact ⟨x, hx⟩
theorem OkN.mono {n m : Nat} {ss : List Stf} (h : OkN n ss) (hn : n ≤ m) : OkN m ss := fun l r b => by
  obtain ⟨x, hx, h1⟩ := h l r b
  exact ⟨x, hx, Nat.le_trans h1 hn⟩
def tl (n : Nat) (l : List Bool) : List Bool := l.drop (l.length - n)
theorem tl_len (n : Nat) (l : List Bool) : (tl n l).length = min n l.length := by unfold tl; rw [List.length_drop]; omega
theorem tl_le (n : Nat) (l : List Bool) : (tl n l).length ≤ n := by rw [tl_len]; omega
theorem tl_id {n : Nat} {l : List Bool} (h : l.length ≤ n) : tl n l = l := by
  unfold tl
  rw [show l.length - n = 0 by omega, List.drop_zero]
theorem tl_tl {a b : Nat} (h : a ≤ b) (l : List Bool) : tl a (tl b l) = tl a l := by
  unfold tl
  rw [List.drop_drop, List.length_drop]
  congr 1
  omega
theorem tl_of {a b : Nat} (h : a ≤ b) {l m : List Bool} (e : tl b l = tl b m) : tl a l = tl a m := by rw [← tl_tl h l, e, tl_tl h m]
theorem tl_snoc0 (n : Nat) (l : List Bool) (b : Bool) : tl (n + 1) (l ++ [b]) = tl n l ++ [b] := by
  unfold tl
  rw [List.length_append, List.length_cons, List.length_nil, List.drop_append]
  have e : l.length + (0 + 1) - (n + 1) = l.length - n := by omega
  rw [e, show l.length - n - l.length = 0 by omega]
  rfl
theorem tl_zero (l : List Bool) : tl 0 l = [] := by unfold tl; rw [List.drop_eq_nil_iff]; omega
theorem tl_snoc {n : Nat} {l m : List Bool} {b : Bool} (e : tl n l = tl n m) : tl n (l ++ [b]) = tl n (m ++ [b]) := by
  cases n with
  | zero => rw [tl_zero, tl_zero]
  | succ n => rw [tl_snoc0, tl_snoc0, tl_of (Nat.le_succ n) e]
theorem tl_app {n : Nat} {l m : List Bool} (e : tl n l = tl n m) : ∀ x : List Bool, tl n (l ++ x) = tl n (m ++ x)
  | [] => by rw [List.append_nil, List.append_nil]; exact e
  | b :: x => by
    have := tl_app (tl_snoc (b := b) e) x
    rw [List.append_assoc, List.append_assoc] at this
    exact this
theorem suf_iff {p l : List Bool} : p.isSuffixOf l = true ↔ p = tl p.length l := by
  rw [List.isSuffixOf_iff_suffix, List.suffix_iff_eq_drop]
  rfl
theorem suf_tl {L : Nat} {p l m : List Bool} (h : p.length ≤ L) (e : tl L l = tl L m) : p.isSuffixOf l = p.isSuffixOf m := by
  rw [Bool.eq_iff_iff, suf_iff, suf_iff, tl_of h e]
theorem put_tl {L : Nat} {l m : List Bool} (e : tl L l = tl L m) : ∀ {ss : List Stf}, (∀ s ∈ ss, s.1.length ≤ L) → putM ss l = putM ss m
  | [], _ => rfl
  | s :: r, h => by
    have ih := put_tl e (ss := r) fun s hs => h s (List.mem_cons_of_mem _ hs)
    have es := suf_tl (h s List.mem_cons_self) e
    unfold putM at ih ⊢
    rw [List.find?_cons, List.find?_cons, es]
    cases s.1.isSuffixOf m with
    | true => rfl
    | false => exact ih
theorem Ins.tl {ss : List Stf} {L : Nat} (hL : ∀ s ∈ ss, s.1.length ≤ L) {l x : List Bool} (h : Ins ss l x) : ∀ {m}, tl L l = tl L m → Ins ss m x := by
  induction h with
  | stop h => intro m e; exact .stop (by rw [← put_tl e hL]; exact h)
  | more h _ ih => intro m e; exact .more (by rw [← put_tl e hL]; exact h) (ih (tl_snoc e))
theorem Ins.det {ss : List Stf} {l x : List Bool} (h : Ins ss l x) : ∀ {y}, Ins ss l y → x = y := by
  induction h with
  | stop h =>
    intro y hy
    cases hy with
    | stop _ => rfl
    | more h2 _ => rw [h] at h2; cases h2
  | more h _ ih =>
    intro y hy
    cases hy with
    | stop h2 => rw [h] at h2; cases h2
    | more h2 hx =>
      rw [h] at h2
      cases h2
      rw [ih hx]
theorem Ins.end {ss : List Stf} {l x : List Bool} (h : Ins ss l x) : putM ss (l ++ x) = none := by
  induction h with
  | stop h => rw [List.append_nil]; exact h
  | more _ _ ih => rw [List.append_assoc] at ih; exact ih
theorem Ins.drop {ss : List Stf} {l x : List Bool} (h : Ins ss l x) : ∀ {i}, i ≤ x.length → Ins ss (l ++ x.take i) (x.drop i) := by
  induction h with
  | stop h => intro i hi; rw [List.take_nil, List.drop_nil, List.append_nil]; exact .stop h
  | more h hx ih =>
    intro i hi
    cases i with
    | zero => rw [List.take_zero, List.append_nil, List.drop_zero]; exact .more h hx
    | succ i =>
      have := ih (i := i) (by rw [List.length_cons] at hi; omega)
      rw [List.append_assoc] at this
      exact this
theorem Ins.at {ss : List Stf} {l x : List Bool} (h : Ins ss l x) {i : Nat} {b : Bool} (hb : x[i]? = some b) : putM ss (l ++ x.take i) = some b := by
  have hi := (List.getElem?_eq_some_iff.mp hb).1
  have h2 := h.drop (Nat.le_of_lt hi)
  rw [List.drop_eq_getElem_cons hi] at h2
  cases h2 with
  | more h3 _ => rw [h3, ← hb, List.getElem?_eq_getElem hi]
theorem Ins.apart {ss : List Stf} {L : Nat} (hL : ∀ s ∈ ss, s.1.length ≤ L) {l x : List Bool} (h : Ins ss l x) {i j : Nat} (hi : i ≤ x.length) (hj : j ≤ x.length) (e : U.tl L (l ++ x.take i) = U.tl L (l ++ x.take j)) : i = j := by
  have := congrArg List.length (((h.drop hi).tl hL e).det (h.drop hj))
  rw [List.length_drop, List.length_drop] at this
  omega
/-! how many words there are -/
def allW : Nat → List (List Bool)
  | 0 => [[]]
  | n + 1 => [] :: ((allW n).map (false :: ·) ++ (allW n).map (true :: ·))
theorem allW_len : ∀ n, (allW n).length + 1 = 2 ^ (n + 1)
  | 0 => rfl
  | n + 1 => by
    have := allW_len n
    show ([] :: ((allW n).map (false :: ·) ++ (allW n).map (true :: ·))).length + 1 = _
    rw [List.length_cons, List.length_append, List.length_map, List.length_map, Nat.pow_succ]
    omega
theorem mem_allW : ∀ {n : Nat} {w : List Bool}, w.length ≤ n → w ∈ allW n
  | 0, [], _ => List.mem_cons_self
  | 0, _ :: _, h => by rw [List.length_cons] at h; omega
  | n + 1, [], _ => List.mem_cons_self
  | n + 1, b :: w, h => by
    have := mem_allW (n := n) (w := w) (by rw [List.length_cons] at h; omega)
    refine List.mem_cons_of_mem _ (List.mem_append.mpr ?_)
    cases b with
    | false => exact .inl (List.mem_map_of_mem this)
    | true => exact .inr (List.mem_map_of_mem this)
theorem nodup_le {α : Type} [DecidableEq α] : ∀ {l m : List α}, l.Nodup → (∀ x ∈ l, x ∈ m) → l.length ≤ m.length
  | [], _, _, _ => Nat.zero_le _
  | x :: r, m, hn, hs => by
    have hx := hs x List.mem_cons_self
    have hn' := List.nodup_cons.mp hn
    have h2 := nodup_le (l := r) (m := m.erase x) hn'.2 fun y hy => by
      have hne : y ≠ x := fun e => hn'.1 (e ▸ hy)
      exact (List.mem_erase_of_ne hne).mpr (hs y (List.mem_cons_of_mem _ hy))
    rw [List.length_erase_of_mem hx] at h2
    have := List.length_pos_of_mem hx
    rw [List.length_cons]
    omega
theorem words_le {ws : List (List Bool)} {n : Nat} (hn : ws.Nodup) (hl : ∀ w ∈ ws, w.length ≤ n) : ws.length + 1 ≤ 2 ^ (n + 1) := by
  have := nodup_le hn fun w hw => mem_allW (hl w hw)
  have := allW_len n
  omega
theorem Ins.len {ss : List Stf} {L : Nat} (hL : ∀ s ∈ ss, s.1.length ≤ L) {l x : List Bool} (h : Ins ss l x) : x.length + 1 ≤ 2 ^ (L + 1) := by
  have := words_le (ws := (List.range x.length).map fun i => U.tl L (l ++ x.take i)) (n := L) (by
    rw [List.nodup_iff_pairwise_ne, List.pairwise_map]
    refine List.Pairwise.imp_of_mem ?_ List.nodup_range
    intro a b ha hb hne e
    have ha' := List.mem_range.mp ha
    have hb' := List.mem_range.mp hb
    exact hne (h.apart hL (Nat.le_of_lt ha') (Nat.le_of_lt hb') e)) (fun w hw => by
      obtain ⟨i, _, rfl⟩ := List.mem_map.mp hw
      exact tl_le _ _)
  rw [List.length_map, List.length_range] at this
  exact this
/-! the order of the stuffs does not matter -/
def SufFree (ss : List Stf) : Prop := ss.Pairwise fun a b => ¬ a.1 <:+ b.1 ∧ ¬ b.1 <:+ a.1
theorem SufFree.ne {ss : List Stf} (h : SufFree ss) {a b : Stf} (ha : a ∈ ss) (hb : b ∈ ss) (n : a ≠ b) : ¬ a.1 <:+ b.1 := by
  unfold SufFree at h
  induction ss with
  | nil => cases ha
  | cons s r ih =>
    obtain ⟨h1, h2⟩ := List.pairwise_cons.mp h
    rcases List.mem_cons.mp ha with ea | ha'
    · rcases List.mem_cons.mp hb with eb | hb'
      · exact absurd (ea.trans eb.symm) n
      · rw [ea]; exact (h1 _ hb').1
    · rcases List.mem_cons.mp hb with eb | hb'
      · rw [eb]; exact (h1 _ ha').2
      · exact ih h2 ha' hb'
theorem put_iff {ss : List Stf} (h : SufFree ss) {l : List Bool} {b : Bool} : putM ss l = some b ↔ ∃ p, (p, b) ∈ ss ∧ p <:+ l := by
  unfold putM
  constructor
  · intro e
    obtain ⟨s, hs, rfl⟩ := Option.map_eq_some_iff.mp e
    exact ⟨s.1, List.mem_of_find?_eq_some hs, List.isSuffixOf_iff_suffix.mp (List.find?_some (p := fun s : Stf => s.1.isSuffixOf l) hs)⟩
  · rintro ⟨p, hm, hp⟩
    cases e : ss.find? fun s => s.1.isSuffixOf l with
    | none =>
      have := List.find?_eq_none.mp e _ hm
      exact absurd (List.isSuffixOf_iff_suffix.mpr hp) this
    | some s =>
      have hs := List.mem_of_find?_eq_some e
      have hq : s.1 <:+ l := List.isSuffixOf_iff_suffix.mp (List.find?_some (p := fun s : Stf => s.1.isSuffixOf l) e)
      by_cases n : s = (p, b)
      · rw [n]; rfl
      · rcases List.suffix_or_suffix_of_suffix hq hp with z | z
        · exact absurd z (h.ne hs hm n)
        · exact absurd z (h.ne hm hs (Ne.symm n))
theorem SufFree.perm {ss ts : List Stf} (h : SufFree ss) (p : ss.Perm ts) : SufFree ts := by
  unfold SufFree at h ⊢
  exact (List.Perm.pairwise_iff (fun ⟨a, b⟩ => ⟨b, a⟩) p).mp h
theorem put_perm {ss ts : List Stf} (h : SufFree ss) (p : ss.Perm ts) (l : List Bool) : putM ss l = putM ts l := by
  refine Option.ext fun b => ?_
  rw [put_iff h, put_iff (h.perm p)]
  constructor
  · rintro ⟨q, hm, hq⟩; exact ⟨q, p.mem_iff.mp hm, hq⟩
  · rintro ⟨q, hm, hq⟩; exact ⟨q, p.mem_iff.mpr hm, hq⟩
theorem Ins.congr {ss ts : List Stf} (h : ∀ l, putM ss l = putM ts l) {l x : List Bool} (i : Ins ss l x) : Ins ts l x := by
  induction i with
  | stop e => exact .stop (by rw [← h]; exact e)
  | more e _ ih => exact .more (by rw [← h]; exact e) ih
theorem Reach.congr {ss ts : List Stf} (h : ∀ l, putM ss l = putM ts l) {l : List Bool} (r : Reach ss l) : Reach ts l := by
  induction r with
  | nil => exact .nil
  | next _ i ih => exact .next ih (i.congr h)
theorem OkR.congr {ss ts : List Stf} (h : ∀ l, putM ss l = putM ts l) (o : OkR ss) : OkR ts := fun l r b => by
  obtain ⟨x, hx⟩ := o l (r.congr fun l => (h l).symm) b
  exact ⟨x, hx.congr h⟩
/-! so many puts, one behind another -/
def stP (ss : List Stf) (l : List Bool) : List Bool := match putM ss l with
  | none => l
  | some b => l ++ [b]
def itP (ss : List Stf) : Nat → List Bool → List Bool
  | 0, l => l
  | n + 1, l => itP ss n (stP ss l)
theorem itP_succ (ss : List Stf) : ∀ (n : Nat) (l : List Bool), itP ss (n + 1) l = stP ss (itP ss n l)
  | 0, _ => rfl
  | n + 1, l => itP_succ ss n (stP ss l)
theorem itP_stop {ss : List Stf} {l : List Bool} (h : putM ss l = none) : ∀ n, itP ss n l = l
  | 0 => rfl
  | n + 1 => by
    show itP ss n (stP ss l) = l
    have e : stP ss l = l := by unfold stP; rw [h]
    rw [e, itP_stop h n]
theorem itP_add (ss : List Stf) : ∀ (i j : Nat) (l : List Bool), itP ss (i + j) l = itP ss j (itP ss i l)
  | 0, j, l => by rw [Nat.zero_add]; rfl
  | i + 1, j, l => by rw [show i + 1 + j = (i + j) + 1 by omega]; exact itP_add ss i j (stP ss l)
theorem itP_rest {ss : List Stf} {i n : Nat} {l : List Bool} (h : putM ss (itP ss i l) = none) (hi : i ≤ n) : itP ss n l = itP ss i l := by
  rw [show n = i + (n - i) by omega, itP_add, itP_stop h]
theorem itP_or (ss : List Stf) : ∀ (n : Nat) (l : List Bool), (itP ss n l).length = l.length + n ∨ ∃ x, Ins ss l x ∧ itP ss n l = l ++ x
  | 0, l => .inl rfl
  | n + 1, l => by
    cases e : putM ss l with
    | none => exact .inr ⟨[], .stop e, by rw [itP_stop e, List.append_nil]⟩
    | some b =>
      have es : stP ss l = l ++ [b] := by unfold stP; rw [e]
      show (itP ss n (stP ss l)).length = _ ∨ ∃ x, Ins ss l x ∧ itP ss n (stP ss l) = l ++ x
      rw [es]
      rcases itP_or ss n (l ++ [b]) with h | ⟨x, h1, h2⟩
      · left; rw [h, List.length_append, List.length_cons, List.length_nil]; omega
      · exact .inr ⟨b :: x, .more e h1, by rw [h2, List.append_assoc]; rfl⟩
theorem itP_le (ss : List Stf) : ∀ (n : Nat) (l : List Bool), l.length ≤ (itP ss n l).length ∧ (itP ss n l).length ≤ l.length + n
  | 0, l => ⟨Nat.le_refl _, Nat.le_refl _⟩
  | n + 1, l => by
    have h := itP_le ss n (stP ss l)
    have e : l.length ≤ (stP ss l).length ∧ (stP ss l).length ≤ l.length + 1 := by
      unfold stP
      cases putM ss l with
      | none => exact ⟨Nat.le_refl _, Nat.le_succ _⟩
      | some b => show l.length ≤ (l ++ [b]).length ∧ (l ++ [b]).length ≤ _; rw [List.length_append, List.length_cons, List.length_nil]; omega
    show l.length ≤ (itP ss n (stP ss l)).length ∧ (itP ss n (stP ss l)).length ≤ _
    omega
/-- a closed set of standings, of 5 bits at most, shows that no message is without end -/
theorem okS_of {ss : List Stf} (kn : List (List Bool)) (hL : ∀ s ∈ ss, s.1.length ≤ 5) (h0 : [] ∈ kn) (hc : ∀ w ∈ kn, ∀ b, (itP ss 24 (w ++ [b])).length ≤ w.length + 20 ∧ tl 5 (itP ss 24 (w ++ [b])) ∈ kn) : OkS ss := by
  have hx : ∀ w ∈ kn, ∀ b, ∃ x, Ins ss (w ++ [b]) x ∧ tl 5 (w ++ [b] ++ x) ∈ kn ∧ x.length ≤ 19 := fun w hw b => by
    obtain ⟨h1, h2⟩ := hc w hw b
    rcases itP_or ss 24 (w ++ [b]) with h | ⟨x, hi, e⟩
    · rw [h, List.length_append, List.length_cons, List.length_nil] at h1; omega
    · rw [e] at h2 h1; exact ⟨x, hi, h2, by rw [List.length_append, List.length_append, List.length_cons, List.length_nil] at h1; omega⟩
  have hr : ∀ l, Reach ss l → ∃ w ∈ kn, tl 5 w = tl 5 l := fun l r => by
    induction r with
    | nil => exact ⟨[], h0, rfl⟩
    | @next l x b r i ih =>
      obtain ⟨w, hw, e⟩ := ih
      obtain ⟨y, hy, hm, _⟩ := hx w hw b
      have e2 := tl_snoc (b := b) e
      have ey := (hy.tl hL e2).det i
      subst ey
      exact ⟨_, hm, by rw [tl_tl (Nat.le_refl 5)]; exact tl_app e2 y⟩
  intro l r b
  obtain ⟨w, hw, e⟩ := hr l r
  obtain ⟨y, hy, _, h19⟩ := hx w hw b
  exact ⟨y, hy.tl hL (tl_snoc e), h19⟩
theorem okS_dec {ss : List Stf} (hL : (ss.all fun s => decide (s.1.length ≤ 5)) = true) (h : ((allW 5).all fun w => [false, true].all fun b => decide ((itP ss 24 (w ++ [b])).length ≤ w.length + 20)) = true) : OkS ss := by
  refine okS_of (allW 5) (fun s hs => of_decide_eq_true (List.all_eq_true.mp hL s hs)) (mem_allW (by decide)) fun w hw b => ⟨?_, mem_allW (tl_le _ _)⟩
  have := List.all_eq_true.mp (List.all_eq_true.mp h w hw) b (by cases b <;> decide)
  exact of_decide_eq_true this
theorem okS_11 : OkS [([true, true], false)] := okS_dec (by decide +kernel) (by decide +kernel)
theorem okS_001 : OkS [([false, false, true], true)] := okS_dec (by decide +kernel) (by decide +kernel)
theorem okS_1 : OkS [([true], false)] := okS_dec (by decide +kernel) (by decide +kernel)
theorem okS_00 : OkS [([false, false], true)] := okS_dec (by decide +kernel) (by decide +kernel)
theorem okS_nil : OkS [] := okS_dec (by decide +kernel) (by decide +kernel)
theorem okR_nil : OkR [] := okS_nil.ok
theorem OkN.congr {n : Nat} {ss ts : List Stf} (h : ∀ l, putM ss l = putM ts l) (o : OkN n ss) : OkN n ts := fun l r b => by
  obtain ⟨x, hx, hl⟩ := o l (r.congr fun l => (h l).symm) b
  exact ⟨x, hx.congr h, hl⟩
/-- the line for a message -/
inductive Body (ss : List Stf) : List Bool → List Bool → Prop
  | nil : Body ss [] []
  | snoc {m l x : List Bool} {b : Bool} : Body ss m l → Ins ss (l ++ [b]) x → Body ss (m ++ [b]) (l ++ [b] ++ x)
theorem Body.reach {ss : List Stf} {m l : List Bool} (h : Body ss m l) : Reach ss l := by
  induction h with
  | nil => exact .nil
  | snoc _ i ih => exact .next ih i
theorem Body.congr {ss ts : List Stf} (h : ∀ l, putM ss l = putM ts l) {m l : List Bool} (b : Body ss m l) : Body ts m l := by
  induction b with
  | nil => exact .nil
  | snoc _ i ih => exact .snoc ih (i.congr h)
theorem body_steps {N : Nat} {ss : List Stf} (o : OkN N ss) (m : List Bool) : ∃ f : Nat → List Bool, f 0 = [] ∧ (∀ i b, m[i]? = some b → ∃ x, Ins ss (f i ++ [b]) x ∧ x.length ≤ N ∧ f (i + 1) = f i ++ [b] ++ x) ∧ (∀ i, i ≤ m.length → Body ss (m.take i) (f i) ∧ (f i).length ≤ (N + 1) * i) := by
  have step : ∀ (n : Nat) (hn : n ≤ m.length), ∃ f : Nat → List Bool, f 0 = [] ∧ (∀ i b, i < n → m[i]? = some b → ∃ x, Ins ss (f i ++ [b]) x ∧ x.length ≤ N ∧ f (i + 1) = f i ++ [b] ++ x) ∧ (∀ i, i ≤ n → Body ss (m.take i) (f i) ∧ (f i).length ≤ (N + 1) * i) := by
    intro n
    induction n with
    | zero => exact fun _ => ⟨fun _ => [], rfl, fun i b h => absurd h (Nat.not_lt_zero _), fun i h => by rw [Nat.le_zero.mp h, List.take_zero]; exact ⟨.nil, Nat.le_refl _⟩⟩
    | succ n ih =>
      intro hn
      obtain ⟨f, h0, h1, h2⟩ := ih (by omega)
      have hb : m[n]? = some m[n] := List.getElem?_eq_getElem (by omega)
      obtain ⟨hB, hl⟩ := h2 n (Nat.le_refl _)
      obtain ⟨x, hx, hx19⟩ := o (f n) hB.reach m[n]
      refine ⟨fun i => if i = n + 1 then f n ++ [m[n]] ++ x else f i, ?_, fun i b hi hb' => ?_, fun i hi => ?_⟩
      · show (if 0 = n + 1 then _ else f 0) = []
        rw [if_neg (by omega), h0]
      · show ∃ y, Ins ss ((if i = n + 1 then _ else f i) ++ [b]) y ∧ _ ∧ (if i + 1 = n + 1 then f n ++ [m[n]] ++ x else f (i + 1)) = (if i = n + 1 then f n ++ [m[n]] ++ x else f i) ++ [b] ++ y
        rw [if_neg (show ¬ i = n + 1 by omega)]
        by_cases e : i = n
        · subst e
          rw [hb] at hb'
          cases hb'
          rw [if_pos rfl]
          exact ⟨x, hx, hx19, rfl⟩
        · rw [if_neg (by omega)]
          exact h1 i b (by omega) hb'
      · show Body ss (m.take i) (if i = n + 1 then _ else f i) ∧ (if i = n + 1 then f n ++ [m[n]] ++ x else f i).length ≤ (N + 1) * i
        by_cases e : i = n + 1
        · subst e
          rw [if_pos rfl, List.take_add_one, hb]
          refine ⟨.snoc hB hx, ?_⟩
          rw [List.length_append, List.length_append, List.length_cons, List.length_nil, Nat.mul_add]
          omega
        · rw [if_neg e]
          exact h2 i (by omega)
  obtain ⟨f, h0, h1, h2⟩ := step m.length (Nat.le_refl _)
  exact ⟨f, h0, fun i b hb => h1 i b (List.getElem?_eq_some_iff.mp hb).1 hb, h2⟩
theorem Ins.itP {ss : List Stf} {l x : List Bool} (h : Ins ss l x) : ∀ n, itP ss n l = l ++ x.take n := by
  induction h with
  | stop h => intro n; rw [itP_stop h, List.take_nil, List.append_nil]
  | @more l x b h _ ih =>
    intro n
    cases n with
    | zero => rw [List.take_zero, List.append_nil]; rfl
    | succ n =>
      have es : stP ss l = l ++ [b] := by unfold stP; rw [h]
      show U.itP ss n (stP ss l) = _
      rw [es, ih n, List.append_assoc]
      rfl
theorem ins_of_itP {ss : List Stf} {l y : List Bool} {j : Nat} (h : itP ss j l = l ++ y) (hn : putM ss (l ++ y) = none) (hj : y.length = j) : Ins ss l y := by
  rcases itP_or ss (j + 1) l with c | ⟨x, hx, e⟩
  · rw [itP_succ, h] at c
    unfold stP at c
    rw [hn] at c
    have c' : (l ++ y).length = l.length + (j + 1) := c
    rw [List.length_append] at c'
    omega
  · rw [itP_succ, h] at e
    unfold stP at e
    rw [hn] at e
    have e' : l ++ y = l ++ x := e
    rw [List.append_cancel_left e']
    exact hx
/-- the line for a message, as a function -/
def bodyF (ss : List Stf) (m : List Bool) : List Bool := m.foldl (fun l b => itP ss 40 (l ++ [b])) []
theorem Body.isF {ss : List Stf} (o : OkN 39 ss) {m l : List Bool} (h : Body ss m l) : l = bodyF ss m := by
  induction h with
  | nil => rfl
  | @snoc m l x b hb hi ih =>
    obtain ⟨y, hy, h39⟩ := o l hb.reach b
    have e := hi.det hy
    subst e
    unfold bodyF
    rw [List.foldl_append]
    show _ = itP ss 40 (bodyF ss m ++ [b])
    rw [← ih, hi.itP, List.take_of_length_le (by omega)]
theorem body_ex {ss : List Stf} (o : OkN 39 ss) (m : List Bool) : Body ss m (bodyF ss m) := by
  obtain ⟨f, _, _, h⟩ := body_steps o m
  have := (h m.length (Nat.le_refl _)).1
  rw [List.take_length] at this
  rw [← this.isF o]
  exact this
end U

set_option maxRecDepth 100000
set_option maxHeartbeats 4000000
namespace U
open PySem PySem.Spec PyProof.Rows L2
def top (i : Nat) : Stmt := PySem.Challenge.pw_unseenflips_k40_whole_rates_and_messages.main.body.getD i (.Pass ⟨0, 0, 0, 0⟩)
abbrev s_is_sequence : Stmt := top 2
abbrev s_is_word : Stmt := top 3
abbrev s_is_bit : Stmt := top 4
abbrev s_other : Stmt := top 5
abbrev s_swapped_word : Stmt := top 6
abbrev s_tail : Stmt := top 7
abbrev s_common : Stmt := top 8
abbrev s_lowest : Stmt := top 9
abbrev s_move : Stmt := top 11
abbrev s_moves_of : Stmt := top 12
abbrev s_best_left : Stmt := top 13
abbrev s_most_put : Stmt := top 14
abbrev s_dearest : Stmt := top 15
abbrev s_all_put : Stmt := top 16
abbrev s_walks : Stmt := top 17
abbrev s_least_of : Stmt := top 18
abbrev s_rate : Stmt := top 19
abbrev s_is_at_most : Stmt := top 20
abbrev s_rate_paper : Stmt := top 21
abbrev s_InvalidRule_init : Stmt := inClass (top 24) 0
abbrev s_InvalidText_init : Stmt := inClass (top 25) 0
abbrev s_is_stuff : Stmt := top 27
abbrev s_are_stuffs : Stmt := top 28
abbrev s_stuff_in : Stmt := top 29
abbrev s_Rule_init : Stmt := inClass (top 30) 0
abbrev s_Rule_read : Stmt := inClass (top 30) 1
abbrev s_Rule_longest : Stmt := inClass (top 30) 2
abbrev s_Rule_swapped : Stmt := inClass (top 30) 3
abbrev s_Rule_put : Stmt := inClass (top 30) 4
abbrev s_Rule_put_in : Stmt := inClass (top 30) 5
abbrev s_Rule_is_endless : Stmt := inClass (top 30) 6
abbrev s_Rule_len : Stmt := inClass (top 30) 7
abbrev s_Rule_iter : Stmt := inClass (top 30) 8
abbrev s_Rule_eq : Stmt := inClass (top 30) 9
abbrev s_Rule_str : Stmt := inClass (top 30) 10
abbrev s_l_seed : Stmt := top 32
abbrev s_l_choose : Stmt := top 33
abbrev s_l_one_of : Stmt := top 34
abbrev s_l_word : Stmt := top 35
abbrev s_l_put : Stmt := top 36
abbrev s_l_is_rule : Stmt := top 37
abbrev s_l_rule : Stmt := top 38
abbrev s_l_made : Stmt := top 39
abbrev s_l_body : Stmt := top 40
abbrev s_law : Stmt := top 41
structure Tx (mg : Str → Option Value) : Prop where
  b_len : mg "len" = none
  b_abs : mg "abs" = none
  b_int : mg "int" = none
  b_range : mg "range" = none
  b_max : mg "max" = none
  b_min : mg "min" = none
  b_enumerate : mg "enumerate" = none
  b_zip : mg "zip" = none
  b_dict : mg "dict" = none
  b_list : mg "list" = none
  b_tuple : mg "tuple" = none
  b_isinstance : mg "isinstance" = none
  b_bool : mg "bool" = none
  b_str : mg "str" = none
  b_all : mg "all" = none
  b_any : mg "any" = none
  b_sum : mg "sum" = none
  b_sorted : mg "sorted" = none
  b_repr : mg "repr" = none
end U

set_option maxRecDepth 100000
set_option maxHeartbeats 4000000
namespace U
open PySem PySem.Spec PyProof.Rows
open L2 hiding Fun CX0 E0 pass0 Fun.binds
open C8 Lx
local macro_rules | `(tactic| walk_at "g") => `(tactic| repeat (first | (refine ⟨_, rfl, ?_⟩) | (refine ⟨_, _, rfl, rfl, ?_⟩) | (refine ⟨rfl, ?_⟩) | (refine .inl ⟨_, rfl, ?_⟩)))
/-- the box: a list of two ints -/
def Box (H : Hp) (b : Addr) : Prop := ∃ x y : Int, H b = some (.lst [.int x, .int y])
/-- all but the box at b stands as it stood; the box is a box -/
def Up (b : Addr) (H H' : Hp) : Prop := (∀ c o, H c = some o → c ≠ b → H' c = some o) ∧ Box H' b
theorem Box.same {b : Addr} {H H' : Hp} (h : Box H b) (y : Same H H') : Box H' b := by obtain ⟨i, j, e⟩ := h; exact ⟨i, j, y _ _ e⟩
theorem Up.refl {b : Addr} {H : Hp} (h : Box H b) : Up b H H := ⟨fun _ _ e _ => e, h⟩
theorem Up.trans {b : Addr} {H H1 H2 : Hp} (x : Up b H H1) (y : Up b H1 H2) : Up b H H2 := ⟨fun c o e n => y.1 c o (x.1 c o e n) n, y.2⟩
theorem Up.same {b : Addr} {H H1 H2 : Hp} (x : Up b H H1) (y : Same H1 H2) : Up b H H2 := ⟨fun c o e n => y c o (x.1 c o e n), x.2.same y⟩
theorem Up.of_same {b : Addr} {H H2 : Hp} (h : Box H b) (y : Same H H2) : Up b H H2 := (Up.refl h).same y
theorem same_upd {H : Hp} {p : Addr} {o : HO} (h : H p = none) : Same H (upd H p o) := fun b x e => by
  rw [upd_ne (ne_of_none e h)]
  exact e
theorem same_mut' {H H1 : Hp} {p : Addr} {o : HO} (s : Same H H1) (n : H p = none) : Same H (upd H1 p o) := fun c u e => by
  rw [upd_ne (ne_of_none e n)]
  exact s _ _ e
theorem Box.ne {H : Hp} {b p : Addr} (h : Box H b) (n : H p = none) : p ≠ b := by
  obtain ⟨i, j, e⟩ := h
  intro z
  rw [z, e] at n
  cases n
/-- a thing that is no list of two ints is not the box -/
theorem Box.neT {H : Hp} {b p : Addr} {xs : List V} (h : Box H b) (n : H p = some (.tup xs)) : p ≠ b := by
  obtain ⟨i, j, e⟩ := h
  intro z
  rw [z, e] at n
  cases n
/-- an object that H doesn't know, changed -/
theorem Up.mut {b : Addr} {H H1 : Hp} {p : Addr} {o : HO} (x : Up b H H1) (h : H p = none) (n : p ≠ b) : Up b H (upd H1 p o) :=
  ⟨fun c u e nc => by rw [upd_ne (ne_of_none e h)]; exact x.1 c u e nc, by obtain ⟨i, j, e⟩ := x.2; exact ⟨i, j, by rw [upd_ne (Ne.symm n)]; exact e⟩⟩
theorem Up.free {b : Addr} {H H1 : Hp} {p : Addr} (x : Up b H H1) (h : H1 p = none) : H p = none := by
  cases e : H p with
  | none => rfl
  | some o =>
    by_cases n : p = b
    · obtain ⟨i, j, e2⟩ := x.2
      rw [n, e2] at h
      cases h
    · rw [x.1 p o e n] at h
      cases h
/-- what is no list stands as it stood -/
def NL (H H' : Hp) : Prop := ∀ c o, H c = some o → (∀ xs, o ≠ .lst xs) → H' c = some o
theorem NL.refl (H : Hp) : NL H H := fun _ _ e _ => e
theorem NL.trans {H H1 H2 : Hp} (a : NL H H1) (b : NL H1 H2) : NL H H2 := fun c o e n => b c o (a c o e n) n
theorem NL.of {H H' : Hp} (s : Same H H') : NL H H' := fun c o e _ => s c o e
theorem Up.nl {b : Addr} {H H' : Hp} (hb : Box H b) (u : Up b H H') : NL H H' := fun c o e n => u.1 c o e fun z => by
  obtain ⟨i, j, hb⟩ := hb
  rw [z, hb] at e
  exact n _ (Option.some.inj e).symm
theorem nl_upd {H : Hp} {q : Addr} {xs : List V} {o : HO} (h : H q = some (.lst xs)) : NL H (upd H q o) := fun c u e n => by
  have nq : c ≠ q := fun z => by
    rw [z, h] at e
    exact n _ (Option.some.inj e).symm
  rw [upd_ne nq]
  exact e
theorem NL.tup {H H' : Hp} {a : Addr} {xs : List V} (n : NL H H') (h : H a = some (.tup xs)) : H' a = some (.tup xs) := n _ _ h fun _ z => by cases z
theorem NL.ins {H H' : Hp} {a C dx : Addr} {fs : List (Str × V)} (n : NL H H') (h : H a = some (.ins C dx fs)) : H' a = some (.ins C dx fs) := n _ _ h fun _ z => by cases z
def spSeed (K : PySem.W.Frag) : Sp := fun vs H Q _ => ∃ (a : Addr) (ns : List Int) (k : Nat), vs = [.ref a, .int k] ∧ SqL K H a (ns.map V.int) ∧
  ∀ p H', H p = none → Same H H' → Box H' p → Q (.ref p) H'
def spChoose : Sp := fun vs H Q _ => ∃ (b : Addr) (m : Int), vs = [.ref b, .int m] ∧ Box H b ∧ 0 < m ∧ m < 1073741824 ∧
  ∀ (d : Int) H', 0 ≤ d → d < m → Up b H H' → Q (.int d) H'
def spOneOf : Sp := fun vs H Q _ => ∃ (b l : Addr) (xs : List V), vs = [.ref b, .ref l] ∧ Box H b ∧ H l = some (.lst xs) ∧ l ≠ b ∧ 0 < xs.length ∧ xs.length < 1000 ∧
  ∀ (v : V) H', v ∈ xs → Up b H H' → Q v H'
theorem cell_at {ns : List Int} {k : Int} (h0 : 0 ≤ k) (h1 : k < ns.length) : ∃ z, atI (ns.map V.int) k = some (V.int z) := by
  obtain ⟨j, rfl⟩ := Int.eq_ofNat_of_zero_le h0
  have h2 : j < ns.length := by omega
  exact ⟨ns[j], atI_nat (by simp [h2])⟩
section
variable {P : Program} {w : World} {K : PySem.W.Frag} {mg : Str → Option Value} {base : Heap}
theorem sc_l_choose : FnScope ["_law_box", "_law_many", "_law_digit", "_law_raw"] ["_law_box", "_law_many"] (fnScope s_l_choose) := fnScope_by (by decide +kernel)
theorem cal_l_choose {f : Addr} {fd : FuncData} (F : Def K mg "_law_choose" s_l_choose f fd) (b : Binds K fd ["_law_box", "_law_many"] []) (T : Tx mg) : Cal P w K mg base 1 "_law_choose" spChoose [] := by
  refine cal0 F b .nil sc_l_choose (fun vs H Q E h => ?_) (fun cdv A outer s H vs Q E hr h => ?_)
  · obtain ⟨_, _, rfl, _⟩ := h; rfl
  · obtain ⟨bx, m, rfl, ⟨x, y, hb⟩, m0, m1, k⟩ := h
    refine ⟨_, (pss_cons (ps_if (pt_cmpR op_gt (pe_ix ix_list (pv 0) pe_int (fun _ _ => rfl)) pe_int (nomark _)) (pss_cons (ps_set (i := 2) sc_l_choose.nd rfl (.inl rfl) (pe_op op_mod (pe_callTy call_int1 (by rfl) T.b_int (by decide +kernel) (pa_cons (pe_ix ix_list (pv 0) pe_int (fun _ _ => rfl)) pa_nil)) (pv 1)))
    (pss_cons (ps_asg (pe_op op_fdiv (pe_ix ix_list (pv 0) pe_int (fun _ _ => rfl)) (pv 1)) (pg_sub (pv 0) pe_int set_list))
    (pss_one (ps_ret (pv 2))))) pss_nil)
    (pss_cons (ps_set (i := 3) sc_l_choose.nd rfl (.inl rfl) (pe_op op_mod (pe_callTy call_int1 (by rfl) T.b_int (by decide +kernel) (pa_cons (pe_op op_add (pe_op op_mul (pe_ix ix_list (pv 0) pe_int (fun _ _ => rfl)) pe_int) pe_int) pa_nil)) pe_int))
    (pss_cons (ps_asg (pe_op op_add (pe_op op_mod (pe_callTy call_int1 (by rfl) T.b_int (by decide +kernel) (pa_cons (pe_op op_add (pe_op op_mul (pv 3) pe_int) pe_int) pa_nil)) pe_int) pe_int) (pg_sub (pv 0) pe_int set_list))
    (pss_one (ps_ret (pe_op op_mod (pe_callTy call_int1 (by rfl) T.b_int (by decide +kernel) (pa_cons (pe_op op_fdiv (pe_op op_add (pe_op op_mul (pv 3) pe_int) (pe_ix ix_list (pv 0) pe_int (fun _ _ => rfl))) pe_int) pa_nil)) (pv 1))))))), ?_⟩
    have up : ∀ x' y' : Int, Up bx H (upd H bx (.lst [.int x', .int y'])) := fun x' y' => ⟨fun c o e n => by rw [upd_ne n]; exact e, _, _, upd_same⟩
    refine ⟨_, rfl, bx, _, _, _, rfl, rfl, SqL.of hb, atI_nat (j := 0) rfl, _, _, rfl, rfl, _, rfl, ?_⟩
    refine ite2 (fun h1 => ?_) (fun h1 => ?_)
    · refine ⟨_, rfl, bx, _, _, _, rfl, rfl, SqL.of hb, atI_nat (j := 0) rfl, .inl ⟨_, rfl, _, rfl, _, _, rfl, rfl, m0, ?_⟩⟩
      refine ⟨_, rfl, bx, _, _, _, rfl, rfl, SqL.of hb, atI_nat (j := 0) rfl, _, rfl, _, _, rfl, rfl, ⟨m0, m1⟩, _, rfl, bx, _, _, 0, rfl, rfl, hb, rfl, ?_⟩
      exact ⟨_, rfl, k _ _ (Int.emod_nonneg _ (by omega)) (Int.emod_lt_of_pos _ m0) (up _ _)⟩
    · refine ⟨_, rfl, bx, _, _, _, rfl, rfl, SqL.of hb, atI_nat (j := 1) rfl, _, _, rfl, rfl, .inr ⟨by decide, by decide⟩, _, _, rfl, rfl, .inl ⟨_, rfl, _, _, rfl, rfl, (by show (0 : Int) < 2147483563; decide), ?_⟩⟩
      refine ⟨_, rfl, _, _, rfl, rfl, .inr ⟨by decide, by decide⟩, _, _, rfl, rfl, .inl ⟨_, rfl, _, _, rfl, rfl, (by show (0 : Int) < 2147483629; decide), _, _, rfl, rfl, _, rfl, bx, _, _, 1, rfl, rfl, hb, rfl, ?_⟩⟩
      refine ⟨_, rfl, _, _, rfl, rfl, .inr ⟨by decide, by decide⟩, _, rfl, bx, _, _, _, rfl, rfl, SqL.of upd_same, atI_nat (j := 1) rfl, _, _, rfl, rfl, _, _, rfl, rfl, ⟨by decide, by decide⟩, .inl ⟨_, rfl, _, rfl, _, _, rfl, rfl, m0, ?_⟩⟩
      exact k _ _ (Int.emod_nonneg _ (by omega)) (Int.emod_lt_of_pos _ m0) (up _ _)
theorem sc_l_seed : FnScope ["_law_script", "_law_k", "_law_cell"] ["_law_script", "_law_k"] (fnScope s_l_seed) := fnScope_by (by decide +kernel)
theorem cal_l_seed {f : Addr} {fd : FuncData} (F : Def K mg "_law_seed" s_l_seed f fd) (b : Binds K fd ["_law_script", "_law_k"] []) (T : Tx mg) : Cal P w K mg base 1 "_law_seed" (spSeed K) [] := by
  refine cal0 F b .nil sc_l_seed (fun vs H Q E h => ?_) (fun cdv A outer s H vs Q E hr h => ?_)
  · obtain ⟨_, _, _, rfl, _⟩ := h; rfl
  · obtain ⟨a, ns, n, rfl, hS, k⟩ := h
    refine ⟨_, (pss_cons (ps_set (i := 2) sc_l_seed.nd rfl (.inl rfl) (pe_op op_add (pe_op op_mul pe_int (pv 1)) pe_int))
    (pss_cons (ps_if (pt_cmpR op_lt (pv 1) (pe_callB call_len_seq (by rfl) T.b_len (by decide +kernel) (pa_cons (pv 0) pa_nil)) (nomark _)) (pss_one (ps_set (i := 2) sc_l_seed.nd rfl (.inl rfl) (pe_callB call_abs (by rfl) T.b_abs (by decide +kernel) (pa_cons (pe_ix ix_list (pv 0) (pv 1) (fun _ _ => rfl)) pa_nil)))) (pss_one (ps_if (pt_cmpR op_gt (pe_callB call_len_seq (by rfl) T.b_len (by decide +kernel) (pa_cons (pv 0) pa_nil)) pe_int (nomark _)) (pss_one (ps_set (i := 2) sc_l_seed.nd rfl (.inl rfl) (pe_op op_add (pv 2) (pe_op op_mul (pe_op op_mod (pe_callTy call_int1 (by rfl) T.b_int (by decide +kernel) (pa_cons (pe_callB call_abs (by rfl) T.b_abs (by decide +kernel) (pa_cons (pe_ix ix_list (pv 0) (pe_op op_mod (pe_callTy call_int1 (by rfl) T.b_int (by decide +kernel) (pa_cons (pv 1) pa_nil)) (pe_callB call_len_seq (by rfl) T.b_len (by decide +kernel) (pa_cons (pv 0) pa_nil))) (fun _ _ => rfl)) pa_nil)) pa_nil)) pe_int) pe_int)))) pss_nil)))
    (pss_one (ps_ret (pe_lst (pa_cons (pe_ifExp (pt_cmpR op_ge (pv 2) (pe_op op_pow pe_int pe_int) (nomark _)) (pv 2) pe_int) (pa_cons (pe_op op_add (pe_op op_mod (pe_callTy call_int1 (by rfl) T.b_int (by decide +kernel) (pa_cons (pe_op op_add (pe_op op_mul (pe_op op_mod (pe_callTy call_int1 (by rfl) T.b_int (by decide +kernel) (pa_cons (pv 2) pa_nil)) pe_int) pe_int) (pe_op op_mul pe_int (pv 1))) pa_nil)) pe_int) pe_int) pa_nil))))))), ?_⟩
    have fin : ∀ z : Int, tRet (tLst (tCons (tIf (tTest (tOp (rI0 fun i j => V.bl (decide (j ≤ i))) (tVar 2) (tOp (rI CPow fun i j => V.int (i ^ j.toNat)) (tC (V.int 10)) (tC (V.int 18))))) (tVar 2) (tC (V.int 0))) (tCons (tOp (rI0 fun i j => V.int (i + j)) (tOp (rI (fun _ j => 0 < j) fun i j => V.int (i % j)) (tCB (fun xs H Q => (∃ i, xs = [V.int i] ∧ Q (V.int i) H) ∨ ∃ k, xs = [V.bl k] ∧ Q (V.int (if k = true then 1 else 0)) H) (tCons (tOp (rI0 fun i j => V.int (i + j)) (tOp (rI CMul fun i j => V.int (i * j)) (tOp (rI (fun _ j => 0 < j) fun i j => V.int (i % j)) (tCB (fun xs H Q => (∃ i, xs = [V.int i] ∧ Q (V.int i) H) ∨ ∃ k, xs = [V.bl k] ∧ Q (V.int (if k = true then 1 else 0)) H) (tCons (tVar 2) tNil)) (tC (V.int 2147483629))) (tC (V.int 48271))) (tOp (rI CMul fun i j => V.int (i * j)) (tC (V.int 39019)) (tVar 1))) tNil)) (tC (V.int 2147483629))) (tC (V.int 1))) tNil))) { nx := fun _ H' => Q .non H', rt := Q } [some (.ref a), some (.int n), some (.int z)] H := by
      intro z
      refine ⟨_, rfl, _, _, rfl, rfl, ⟨by decide, by decide, by decide⟩, _, _, rfl, rfl, _, rfl, ?_⟩
      refine ite2 (fun h1 => ?_) (fun h1 => ?_)
      all_goals
        first
          | refine ⟨_, rfl, _, rfl, .inl ⟨_, rfl, _, _, rfl, rfl, (by show (0 : Int) < 2147483629; decide), _, _, rfl, rfl, .inr ⟨by decide, by decide⟩, _, rfl, _, _, rfl, rfl, .inl ⟨by decide, by decide⟩, _, _, rfl, rfl, .inl ⟨_, rfl, _, _, rfl, rfl, (by show (0 : Int) < 2147483629; decide), _, _, rfl, rfl, ?_⟩⟩⟩
          | refine ⟨_, rfl, .inl ⟨_, rfl, _, _, rfl, rfl, (by show (0 : Int) < 2147483629; decide), _, _, rfl, rfl, .inr ⟨by decide, by decide⟩, _, rfl, _, _, rfl, rfl, .inl ⟨by decide, by decide⟩, _, _, rfl, rfl, .inl ⟨_, rfl, _, _, rfl, rfl, (by show (0 : Int) < 2147483629; decide), _, _, rfl, rfl, ?_⟩⟩⟩
        exact ⟨by show 2 ≤ sizeLine; decide, fun p hp => k p _ hp (same_upd hp) ⟨_, _, upd_same⟩⟩
    refine ⟨_, rfl, _, _, rfl, rfl, .inl ⟨by decide, by decide⟩, _, _, rfl, rfl, ?_⟩
    refine ⟨_, rfl, _, rfl, a, _, rfl, .inl hS, _, _, rfl, rfl, _, rfl, ?_⟩
    refine ite2 (fun h1 => ?_) (fun h1 => ?_)
    · have h2 : (n : Int) < ((ns.map V.int).length : Int) := of_decide_eq_true h1
      rw [List.length_map] at h2
      obtain ⟨z, hz⟩ := cell_at (ns := ns) (by omega : (0 : Int) ≤ n) h2
      refine ⟨_, rfl, _, rfl, a, _, _, _, rfl, rfl, hS, hz, _, rfl, ?_⟩
      exact fin _
    · refine ⟨_, rfl, a, _, rfl, .inl hS, _, _, rfl, rfl, _, rfl, ?_⟩
      refine ite2 (fun h3 => ?_) (fun h3 => ?_)
      · have h4 : (0 : Int) < ((ns.map V.int).length : Int) := of_decide_eq_true h3
        have h5 := h4
        rw [List.length_map] at h5
        obtain ⟨z, hz⟩ := cell_at (ns := ns) (k := (n : Int) % ((ns.map V.int).length : Int)) (Int.emod_nonneg _ (by omega)) (by have := Int.emod_lt_of_pos (n : Int) h4; rw [List.length_map] at this ⊢; exact this)
        refine ⟨_, rfl, _, rfl, _, rfl, .inl ⟨_, rfl, _, rfl, a, _, rfl, .inl hS, _, _, rfl, rfl, h4, a, _, _, _, rfl, rfl, hS, hz, _, rfl, .inl ⟨_, rfl, _, _, rfl, rfl, (by show (0 : Int) < 2147483629; decide), _, _, rfl, rfl, .inr ⟨by decide, by decide⟩, _, _, rfl, rfl, ?_⟩⟩⟩
        exact fin _
      · exact fin _
theorem sc_l_one_of : FnScope ["_law_box", "_law_some"] ["_law_box", "_law_some"] (fnScope s_l_one_of) := fnScope_by (by decide +kernel)
theorem cal_l_one_of {f : Addr} {fd : FuncData} (F : Def K mg "_law_one_of" s_l_one_of f fd) (b : Binds K fd ["_law_box", "_law_some"] []) (T : Tx mg) (c_l_choose : Cal P w K mg base 1 "_law_choose" spChoose []) : Cal P w K mg base 2 "_law_one_of" spOneOf [] := by
  refine cal0 F b .nil sc_l_one_of (fun vs H Q E h => ?_) (fun cdv A outer s H vs Q E hr h => ?_)
  · obtain ⟨_, _, _, rfl, _⟩ := h; rfl
  · obtain ⟨bx, l, xs, rfl, hb, hl, nl, x0, x1, k⟩ := h
    refine ⟨_, (pss_one (ps_ret (pe_ix ix_list (pv 1) (pe_c c_l_choose hr (by decide) rfl (pa_cons (pv 0) (pa_cons (pe_callB call_len_seq (by rfl) T.b_len (by decide +kernel) (pa_cons (pv 1) pa_nil)) pa_nil))) (fun _ _ => rfl)))), ?_⟩
    refine ⟨_, rfl, _, rfl, _, rfl, l, _, rfl, .inl (SqL.of hl), bx, _, rfl, hb, by omega, by omega, fun d H' d0 d1 u => ?_⟩
    obtain ⟨j, rfl⟩ := Int.eq_ofNat_of_zero_le d0
    have hj : j < xs.length := by omega
    have g : xs[j]? = some xs[j] := by simp [hj]
    exact ⟨l, xs, _, xs[j], rfl, rfl, SqL.of (u.1 l _ hl nl), atI_nat g, k _ _ (List.getElem_mem hj) u⟩
end
end U

set_option maxRecDepth 100000
set_option maxHeartbeats 4000000
namespace U
open PySem PySem.Spec PyProof.Rows
open L2 hiding Fun CX0 E0 pass0 Fun.binds
open C8 Lx SX
/-! words told -/
def isW (z : Str) : Bool := z.cps.toList.all fun c => decide (c ∈ ("01" : Str).cps.toList)
theorem isW_W (l : List Bool) : isW (W l) = true := by
  unfold isW
  rw [W_tl, List.all_map, List.all_eq_true]
  intro b _
  cases b <;> decide +kernel
/-- is_word of any value: a text, or a thing whose type is not str -/
def spIsWord (K : PySem.W.Frag) : Sp := fun vs H Q _ => ∃ x, vs = [x] ∧ ((∃ z : Str, x = .str z ∧ z.length ≤ 100000 ∧ ∀ H', Same H H' → Q (.bl (isW z)) H') ∨
  (∃ t, TyX K H x t ∧ PySem.W.kitOne K t (.type "str") = some false ∧ Q (.bl false) H))
theorem spIsWord.word {K : PySem.W.Frag} {H : Hp} {Q : VK} {E : XK} {l : List Bool} (hl : l.length ≤ 100000) (k : ∀ H', Same H H' → Q (.bl true) H') : spIsWord K [.str (W l)] H Q E :=
  ⟨_, rfl, .inl ⟨_, rfl, by rw [W_len]; exact hl, fun H' s => by rw [isW_W]; exact k H' s⟩⟩
section
variable {P : Program} {w : World} {K : PySem.W.Frag} {mg : Str → Option Value} {base : Heap}
theorem sc_is_word : FnScope ["value", "sign"] ["value"] (fnScope s_is_word) := fnScope_by (by decide +kernel)
theorem cal_is_word {f : Addr} {fd : FuncData} {tB : Tok} (F : Def K mg "is_word" s_is_word f fd) (b : Binds K fd ["value"] []) (T : Tx mg) (g_BITS : mg "BITS" = some (.str "01" tB)) : Cal P w K mg base 1 "is_word" (spIsWord K) [] := by
  refine cal0 F b .nil sc_is_word (fun vs H Q E h => ?_) (fun cdv A outer s H vs Q E hr h => ?_)
  · obtain ⟨_, rfl, _⟩ := h; rfl
  · obtain ⟨_, rfl, h⟩ := h
    refine ⟨_, (pss_one (ps_ret (pe_and (pe_callB call_isi (by rfl) T.b_isinstance (by decide +kernel) (pa_cons (pv 0) (pa_cons (pe_bltn (v := .ty "str") (u := .type "str") (by rfl) T.b_str (by decide +kernel) rfl) pa_nil))) (pe_one (pe_callB (cr_all rfl) (by rfl) T.b_all (by decide +kernel) (pa_cons (pe_lc (own := [("sign", 1)]) (g := gName 1) (by rfl) sc_is_word.nd (pi_str (pv 0)) (blkOk_by (own := [("sign", 1)]) (N := ["value", "sign"]) (sc := fnScope s_is_word) (by decide +kernel)) (fun _ _ _ _ _ => (pg_name (i := 1) sc_is_word.nd rfl (.inl rfl))) (fun _ _ _ _ _ => pts_nil) (fun _ _ _ _ _ => (pe_cmpR op_in_sign (pv 1) (pe_glob (v := .str "01") (by rfl) g_BITS ⟨_, rfl⟩) (by with_unfolding_all rfl)))) pa_nil)))))), ?_⟩
    rcases h with ⟨z, rfl, hz, k⟩ | ⟨t, ht, hk, k⟩
    · refine ⟨_, rfl, _, _, _, _, true, rfl, .ty _, .base (.str z), kit_ty (by decide +kernel), _, rfl, ?_⟩
      refine ⟨_, rfl, z, rfl, fun D nD => ?_⟩
      refine lc_it walk_str (fun i H2 => Same H H2 ∧ H2 D = some (.lst (((z.cps.toList.take i).map fun c => decide (c ∈ ("01" : Str).cps.toList)).map V.bl))) ⟨same_upd nD, upd_same⟩ (fun _ _ _ _ => trivial) ?_ ?_
      · rintro i x H2 H3 hi ⟨s2, hD⟩ ⟨rfl, c, hc, rfl⟩
        refine ⟨rfl, ?_⟩
        refine ⟨_, rfl, c, _, rfl, rfl, _, hD, ?_, ?_, ?_⟩
        · rw [List.length_map, List.length_map, List.length_take]
          have e : z.length = z.cps.toList.length := TL.len_tl z
          exact sl_lt (by have : z.cps.size = z.cps.toList.length := by simp
                          omega)
        · intro c' o e
          rw [upd_ne (ne_of_none e nD)]
          exact s2 _ _ e
        · have hc' : z.cps.toList[i]? = some c := by rw [Array.getElem?_toList]; exact hc
          rw [upd_same, List.take_add_one, hc']
          simp
      · rintro H2 ⟨s2, hD⟩
        have e : z.cps.toList.take z.cps.size = z.cps.toList := List.take_of_length_le (by simp)
        rw [e] at hD
        refine ⟨D, _, rfl, SqL.of hD, ?_⟩
        have e2 : (List.map (fun c => decide (c ∈ ("01" : Str).cps.toList)) z.cps.toList).all id = isW z := by
          unfold isW
          rw [List.all_map]
          rfl
        rw [e2]
        exact k H2 s2
    · exact ⟨_, rfl, _, _, _, _, false, rfl, .ty _, ht, hk, _, rfl, k⟩
end
end U

set_option maxRecDepth 100000
set_option maxHeartbeats 4000000
namespace Lx
open PySem PySem.Spec PyProof.Rows L2
theorem Sq.of_same {K : PySem.W.Frag} {H H' : Hp} {a : Addr} {xs : List V} (h : Sq K H a xs) (e : Same H H') : Sq K H' a xs := h.same e
/-- a list or a tuple, walked: what holds behind -/
theorem iSeq_var {K : PySem.W.Frag} {i : Nat} {σ : L2.St} {H : Hp} {R : It → Hp → Prop} {a : Addr} {xs : List V} (hv : σ[i]? = some (some (.ref a))) (hS : Sq K H a xs)
    (h : ∀ (J : It) (G : Hp → Prop), (∀ H', Same H H' → G H') → Walk J xs.length G (YAt xs) → R J H) : iSeq K (tVar i) σ H R := by
  rcases hS with hS | hS
  · exact .inl ⟨_, hv, a, rfl, ⟨xs, hS⟩, h _ _ (fun H' s => s.seq hS) walk_list⟩
  · exact .inr ⟨_, hv, a, rfl, ⟨xs, hS⟩, h _ _ (fun H' s => same_tup s hS) walk_tup⟩
theorem iEnumQ_var {K : PySem.W.Frag} {i : Nat} {σ : L2.St} {H : Hp} {R : It → Hp → Prop} {a : Addr} {xs : List V} (hv : σ[i]? = some (some (.ref a))) (hS : Sq K H a xs)
    (h : ∀ (J : It) (G : Hp → Prop), (∀ H', Same H H' → G H') → Walk J xs.length G (YPair (fun i => some (.int (i : Nat))) (fun i => xs[i]?)) → R J H) : iEnumQ K (tCons (tVar i) tNil) σ H R := by
  rcases hS with hS | hS
  · exact .inl ⟨_, hv, a, xs, rfl, hS, h _ _ (fun H' s => s.seq hS) walk_enum⟩
  · exact .inr ⟨_, hv, a, xs, rfl, hS, h _ _ (fun H' s => same_tup s hS) walk_enumT⟩
theorem cut_whole {xs : List V} {lo hi : Option Int} (h1 : HT.sIx xs.length 0 lo = 0) (h2 : HT.sIx xs.length xs.length hi = xs.length) : cutV xs lo hi = xs := by
  unfold cutV
  rw [h1, h2, List.drop_zero, Nat.sub_zero, List.take_length]
theorem slQ_of {K : PySem.W.Frag} {H : Hp} {Q : VK} {a : Addr} {xs : List V} {lo hi : Option Int} (hS : Sq K H a xs) (h : ∀ p H', Same H H' → Sq K H' p (cutV xs lo hi) → Q (.ref p) H') : rSlL K (.ref a) lo hi H Q ∨ rSlA K (.ref a) lo hi H Q := by
  rcases hS with hS | hS
  · exact .inl ⟨a, xs, rfl, hS, fun p hp => h p _ (fun b x e => by rw [upd_ne (ne_of_none e hp)]; exact e) (.inl (SqL.of upd_same))⟩
  · refine .inr ⟨a, xs, rfl, hS, fun c => h a H (Same.refl H) ?_, fun _ p hp => h p _ (fun b x e => by rw [upd_ne (ne_of_none e hp)]; exact e) (.inr (SqT.of upd_same))⟩
    rw [cut_whole c.1 c.2]
    exact .inr hS
theorem Sq.star {K : PySem.W.Frag} {H : Hp} {a : Addr} {xs : List V} (h : Sq K H a xs) : SqT K H a xs ∨ SqL K H a xs := h.elim .inr .inl
end Lx
namespace U
open PySem PySem.Spec PyProof.Rows
open L2 hiding Fun CX0 E0 pass0 Fun.binds
open C8 Lx SX StX
/-! texts -/
theorem W_ends (l p : List Bool) : Txt.endswith (W l) (W p) = p.isSuffixOf l := by
  unfold Txt.endswith
  rw [PySem.StrLaws.subAt_eq, W_len, W_len, W_tl, W_tl, ← List.map_drop, ← List.map_take, Bool.eq_iff_iff, List.isSuffixOf_iff_suffix, Bool.and_eq_true, decide_eq_true_eq, beq_iff_eq]
  constructor
  · rintro ⟨h1, h2⟩
    have h3 := map_bt_inj h2
    rw [List.take_of_length_le (by rw [List.length_drop]; omega)] at h3
    rw [← h3]
    exact List.drop_suffix _ _
  · intro h
    have hl := h.length_le
    refine ⟨by omega, ?_⟩
    rw [List.take_of_length_le (by rw [List.length_drop]; omega), ← List.suffix_iff_eq_drop.mp h]
theorem W_tail (l : List Bool) (n : Nat) : Txt.slice (W l) (some (if (((W l).length : Nat) : Int) - (n : Int) > 0 then (((W l).length : Nat) : Int) - (n : Int) else 0)) none = W (tl n l) := by
  rw [W_drop (by split <;> omega)]
  congr 1
  unfold tl
  rw [W_len]
  congr 1
  split <;> omega
/-! stuffs -/
def StV (H : Hp) (kb : Addr → Stf) (ps : List Addr) : Prop := ∀ t ∈ ps, H t = some (.tup [.str (W (kb t).1), .str (W [(kb t).2])])
theorem StV.same {H H' : Hp} {kb : Addr → Stf} {ps : List Addr} (h : StV H kb ps) (e : Same H H') : StV H' kb ps := fun t ht => e _ _ (h t ht)
theorem StV.nl {H H' : Hp} {kb : Addr → Stf} {ps : List Addr} (h : StV H kb ps) (e : NL H H') : StV H' kb ps := fun t ht => e.tup (h t ht)
theorem StV.perm {H : Hp} {kb : Addr → Stf} {ps qs : List Addr} (h : StV H kb ps) (p : qs.Perm ps) : StV H kb qs := fun t ht => h t (p.mem_iff.mp ht)
def ruF (f : List Bool) (t : Addr) : List (Str × V) := putF "stuffs" (.ref t) (putF "flag" (.str (W f)) [])
theorem fs_ne : ¬ (("flag" : Str) = "stuffs") := by decide +kernel
theorem ruF_flag (f : List Bool) (t : Addr) : (ruF f t).lookup ("flag" : Str) = some (.str (W f)) := by
  unfold ruF
  rw [lookup_putF, if_neg fs_ne, lookup_putF, if_pos rfl]
theorem ruF_stuffs (f : List Bool) (t : Addr) : (ruF f t).lookup ("stuffs" : Str) = some (.ref t) := by
  unfold ruF
  rw [lookup_putF, if_pos rfl]
theorem ruF_no (f : List Bool) (t : Addr) {m : Str} (h1 : ¬ m = "stuffs") (h2 : ¬ m = "flag") : (ruF f t).lookup m = none := by
  unfold ruF
  rw [lookup_putF, if_neg h1, lookup_putF, if_neg h2]
  all_goals rfl
def RuAt (C : Addr) (H : Hp) (a : Addr) (f : List Bool) (ss : List Stf) : Prop :=
  ∃ dx t ps kb, H a = some (.ins C dx (ruF f t)) ∧ H t = some (.tup (ps.map V.ref)) ∧ StV H kb ps ∧ ss = ps.map kb
theorem RuAt.same {C : Addr} {H H' : Hp} {a : Addr} {f : List Bool} {ss : List Stf} (h : RuAt C H a f ss) (e : Same H H') : RuAt C H' a f ss := by
  obtain ⟨dx, t, ps, kb, h1, h2, h3, h4⟩ := h
  exact ⟨dx, t, ps, kb, e _ _ h1, e _ _ h2, h3.same e, h4⟩
theorem RuAt.nl {C : Addr} {H H' : Hp} {a : Addr} {f : List Bool} {ss : List Stf} (h : RuAt C H a f ss) (e : NL H H') : RuAt C H' a f ss := by
  obtain ⟨dx, t, ps, kb, h1, h2, h3, h4⟩ := h
  exact ⟨dx, t, ps, kb, e.ins h1, e.tup h2, h3.nl e, h4⟩
def longM (ss : List Stf) : Nat := ss.foldr (fun s m => max s.1.length m) 0
theorem longM_le : ∀ {ss : List Stf} {s : Stf}, s ∈ ss → s.1.length ≤ longM ss
  | x :: r, s, h => by
    show s.1.length ≤ max x.1.length (longM r)
    rcases List.mem_cons.mp h with e | h
    · rw [e]; omega
    · have := longM_le h; omega
theorem longM_max : ∀ {ss : List Stf} {n : Nat}, (∀ s ∈ ss, s.1.length ≤ n) → longM ss ≤ n
  | [], _, _ => Nat.zero_le _
  | x :: r, n, h => by
    have := longM_max (ss := r) fun s hs => h s (List.mem_cons_of_mem _ hs)
    have := h x List.mem_cons_self
    show max x.1.length (longM r) ≤ n
    omega
theorem longM_perm {ss ts : List Stf} (p : ss.Perm ts) : longM ss = longM ts :=
  Nat.le_antisymm (longM_max fun s hs => longM_le (p.mem_iff.mp hs)) (longM_max fun s hs => longM_le (p.mem_iff.mpr hs))
theorem longM_is {ss : List Stf} {m : Int} (hm : m ∈ (0 : Int) :: ss.map fun s => (s.1.length : Int)) (hx : ∀ y ∈ (0 : Int) :: ss.map fun s => (s.1.length : Int), y ≤ m) : m = (longM ss : Nat) := by
  have h0 := hx 0 List.mem_cons_self
  have h1 : longM ss ≤ m.toNat := longM_max fun s hs => by
    have := hx _ (List.mem_cons_of_mem _ (List.mem_map_of_mem (f := fun s : Stf => (s.1.length : Int)) hs))
    omega
  rcases List.mem_cons.mp hm with e | h
  · omega
  · obtain ⟨s, hs, rfl⟩ := List.mem_map.mp h
    have := longM_le hs
    omega
def oB : Option Bool → V
  | none => .non
  | some b => .str (W [b])
theorem oB_non (o : Option Bool) : decide (oB o = .non) = o.isNone := by
  cases o with
  | none => exact decide_eq_true rfl
  | some b => exact decide_eq_false (fun z => by cases z)
/-- the class as the top leaves it -/
structure RuT (K : PySem.W.Frag) (C : Addr) : Prop where
  cl : Cls K C
  nF : NoAttr K C "flag"
  nS : NoAttr K C "stuffs"
def spIsSeq (K : PySem.W.Frag) : Sp := fun vs H Q _ => ∃ a xs, vs = [.ref a] ∧ Sq K H a xs ∧ ∀ H', Same H H' → Q (.bl true) H'
def spIsBit : Sp := fun vs H Q _ => ∃ b, vs = [.str (W [b])] ∧ ∀ H', Same H H' → Q (.bl true) H'
def spIsStuff : Sp := fun vs H Q _ => ∃ (t : Addr) (p : List Bool) (b : Bool), vs = [.ref t] ∧ H t = some (.tup [.str (W p), .str (W [b])]) ∧ p ≠ [] ∧ p.length ≤ 1000 ∧ ∀ H', Same H H' → Q (.bl true) H'
def spTail : Sp := fun vs H Q _ => ∃ (l : List Bool) (n : Nat), vs = [.str (W l), .int n] ∧ l.length ≤ 100000 ∧ Q (.str (W (tl n l))) H
def spLongest (C : Addr) : Sp := fun vs H Q _ => ∃ (a : Addr) (f : List Bool) (ss : List Stf), vs = [.ref a] ∧ RuAt C H a f ss ∧ ss.length ≤ 1000 ∧ (∀ s ∈ ss, s.1.length ≤ 1000) ∧ ∀ H', Same H H' → Q (.int (longM ss : Nat)) H'
def spPut (C : Addr) : Sp := fun vs H Q _ => ∃ (a : Addr) (f : List Bool) (ss : List Stf) (l : List Bool), vs = [.ref a, .str (W l)] ∧ RuAt C H a f ss ∧ ∀ H', Same H H' → Q (oB (putM ss l)) H'
section
variable {P : Program} {w : World} {K : PySem.W.Frag} {mg : Str → Option Value} {base : Heap}
theorem sc_is_sequence : FnScope ["value"] ["value"] (fnScope s_is_sequence) := fnScope_by (by decide +kernel)
theorem cal_is_sequence {f : Addr} {fd : FuncData} (F : Def K mg "is_sequence" s_is_sequence f fd) (b : Binds K fd ["value"] []) (T : Tx mg) : Cal P w K mg base 1 "is_sequence" (spIsSeq K) [] := by
  refine cal0 F b .nil sc_is_sequence (fun vs H Q E h => ?_) (fun cdv A outer s H vs Q E hr h => ?_)
  · obtain ⟨_, _, rfl, _⟩ := h; rfl
  · obtain ⟨a, xs, rfl, hS, k⟩ := h
    refine ⟨_, (pss_one (ps_ret (pe_callB call_isiT (by rfl) T.b_isinstance (by decide +kernel) (pa_cons (pv 0) (pa_cons (pe_tup (pa_cons (pe_bltn (v := .ty "list") (u := .type "list") (by rfl) T.b_list (by decide +kernel) rfl) (pa_cons (pe_bltn (v := .ty "tuple") (u := .type "tuple") (by rfl) T.b_tuple (by decide +kernel) rfl) pa_nil))) pa_nil))))), ?_⟩
    refine ⟨_, rfl, by show 2 ≤ sizeLine; decide, fun tp htp => ?_⟩
    have hS' := hS.same (same_upd (o := .tup [.ty "list", .ty "tuple"]) htp)
    rcases hS' with hS' | hS'
    · exact ⟨_, tp, _, _, _, true, rfl, upd_same, .cons (.ty _) (.cons (.ty _) .nil), ty_list hS', by first | exact kit_any (by decide +kernel) | rfl | decide +kernel, k _ (same_upd htp)⟩
    · exact ⟨_, tp, _, _, _, true, rfl, upd_same, .cons (.ty _) (.cons (.ty _) .nil), ty_tup hS', by first | exact kit_any (by decide +kernel) | rfl | decide +kernel, k _ (same_upd htp)⟩
theorem sc_is_bit : FnScope ["value"] ["value"] (fnScope s_is_bit) := fnScope_by (by decide +kernel)
theorem cal_is_bit {f : Addr} {fd : FuncData} (F : Def K mg "is_bit" s_is_bit f fd) (b : Binds K fd ["value"] []) (T : Tx mg) (c_is_word : Cal P w K mg base 1 "is_word" (spIsWord K) []) : Cal P w K mg base 2 "is_bit" spIsBit [] := by
  refine cal0 F b .nil sc_is_bit (fun vs H Q E h => ?_) (fun cdv A outer s H vs Q E hr h => ?_)
  · obtain ⟨_, rfl, _⟩ := h; rfl
  · obtain ⟨x, rfl, k⟩ := h
    refine ⟨_, (pss_one (ps_ret (pe_and (pe_c c_is_word hr (by decide) rfl (pa_cons (pv 0) pa_nil)) (pe_one (pe_cmpR op_eq (pe_callB call_len_str (by rfl) T.b_len (by decide +kernel) (pa_cons (pv 0) pa_nil)) pe_int (nomark _)))))), ?_⟩
    have l1 : (W [x]).length = 1 := W_len _
    refine ⟨_, rfl, _, rfl, .inl ⟨_, rfl, by rw [l1]; decide, fun H1 s1 => ⟨_, rfl, iteBT (isW_W _) ?_⟩⟩⟩
    refine ⟨_, rfl, _, rfl, by rw [l1]; decide, ?_⟩
    rw [l1]
    exact ⟨rfl, q_dec (Q := Q) rfl (k H1 s1)⟩
theorem sc_is_stuff : FnScope ["value"] ["value"] (fnScope s_is_stuff) := fnScope_by (by decide +kernel)
theorem cal_is_stuff {f : Addr} {fd : FuncData} (F : Def K mg "is_stuff" s_is_stuff f fd) (b : Binds K fd ["value"] []) (T : Tx mg) (c_is_word : Cal P w K mg base 1 "is_word" (spIsWord K) []) (c_is_bit : Cal P w K mg base 2 "is_bit" spIsBit []) : Cal P w K mg base 3 "is_stuff" spIsStuff [] := by
  refine cal0 F b .nil sc_is_stuff (fun vs H Q E h => ?_) (fun cdv A outer s H vs Q E hr h => ?_)
  · obtain ⟨_, _, _, rfl, _⟩ := h; rfl
  · obtain ⟨t, p, x, rfl, ht, hp, hl, k⟩ := h
    refine ⟨_, (pss_cons (ps_if (PW.pt (pw_or (pt_not (pt_val (pe_callB call_isi (by rfl) T.b_isinstance (by decide +kernel) (pa_cons (pv 0) (pa_cons (pe_bltn (v := .ty "tuple") (u := .type "tuple") (by rfl) T.b_tuple (by decide +kernel) rfl) pa_nil))))) (pw_or1 (pt_cmpR op_ne (pe_callB call_len_seq (by rfl) T.b_len (by decide +kernel) (pa_cons (pv 0) pa_nil)) pe_int (nomark _))))) (pss_one (ps_ret pe_bl)) pss_nil)
    (pss_one (ps_ret (pe_and (pe_c c_is_word hr (by decide) rfl (pa_cons (pe_ix ix_tup (pv 0) pe_int (fun _ _ => rfl)) pa_nil)) (pe_and (pe_cmpR op_gt (pe_callB call_len_str (by rfl) T.b_len (by decide +kernel) (pa_cons (pe_ix ix_tup (pv 0) pe_int (fun _ _ => rfl)) pa_nil)) pe_int (nomark _)) (pe_one (pe_c c_is_bit hr (by decide) rfl (pa_cons (pe_ix ix_tup (pv 0) pe_int (fun _ _ => rfl)) pa_nil)))))))), ?_⟩
    have lp : (W p).length ≤ sizeLine := by rw [W_len]; exact sl_len (by omega)
    refine ⟨_, rfl, _, _, _, _, true, rfl, .ty _, .base (.tup ht), kit_ty (by decide +kernel), _, rfl, ?_⟩
    refine ⟨_, rfl, t, _, rfl, .inr (SqT.of ht), rfl, _, rfl, iteNS rfl ?_⟩
    refine ⟨_, rfl, t, _, 0, _, rfl, rfl, SqT.of ht, rfl, _, rfl, .inl ⟨_, rfl, by rw [W_len]; omega, fun H1 s1 => ⟨_, rfl, iteBT (isW_W _) ?_⟩⟩⟩
    have ht1 := s1 _ _ ht
    refine ⟨_, rfl, t, _, 0, _, rfl, rfl, SqT.of ht1, rfl, _, rfl, lp, ?_⟩
    refine ⟨_, _, rfl, rfl, _, rfl, iteDT ?_ ?_⟩
    · rw [W_len]
      have : p.length ≠ 0 := fun z => hp (List.length_eq_zero_iff.mp z)
      omega
    · refine ⟨_, rfl, t, _, 1, _, rfl, rfl, SqT.of ht1, rfl, x, rfl, fun H2 s2 => k H2 (s1.trans s2)⟩
theorem sc_tail : FnScope ["line", "size"] ["line", "size"] (fnScope s_tail) := fnScope_by (by decide +kernel)
theorem cal_tail {f : Addr} {fd : FuncData} (F : Def K mg "tail" s_tail f fd) (b : Binds K fd ["line", "size"] []) (T : Tx mg) : Cal P w K mg base 1 "tail" spTail [] := by
  refine cal0 F b .nil sc_tail (fun vs H Q E h => ?_) (fun cdv A outer s H vs Q E hr h => ?_)
  · obtain ⟨_, _, rfl, _⟩ := h; rfl
  · obtain ⟨l, n, rfl, hl, k⟩ := h
    refine ⟨_, (pss_one (ps_ret (pe_slice sl_txt (pv 0) (po_some (pe_callB (call_max2 rfl) (by rfl) T.b_max (by decide +kernel) (pa_cons pe_int (pa_cons (pe_op op_sub (pe_callB call_len_str (by rfl) T.b_len (by decide +kernel) (pa_cons (pv 0) pa_nil)) (pv 1)) pa_nil)))) po_none))), ?_⟩
    have lw : (W l).length ≤ sizeLine := by rw [W_len]; exact sl_len (by omega)
    refine ⟨_, rfl, _, rfl, _, rfl, lw, _, rfl, _, _, rfl, rfl, _, _, rfl, _, rfl, _, rfl, lw, ?_⟩
    rw [W_tail]
    exact k
theorem sc_Rule_longest : FnScope ["self", "pattern", "bit"] ["self"] (fnScope s_Rule_longest) := fnScope_by (by decide +kernel)
theorem ok_longest {f C : Addr} {fd : FuncData} (F : C8.Fun K "longest" "Rule.longest" s_Rule_longest f fd) (T : Tx mg) (RT : RuT K C) : FnOk P w K mg base CX0 1 f fd ["self"] (spLongest C) := by
  refine fn0 F sc_Rule_longest (fun vs H Q E h => ?_) (fun cdv A outer s H vs Q E hr h => ?_)
  · obtain ⟨_, _, _, rfl, _⟩ := h; rfl
  · obtain ⟨a, fl, ss, rfl, ⟨dx, t, ps, kb, ha, ht, hs, rfl⟩, hn, hl, k⟩ := h
    refine ⟨_, (pss_one (ps_ret (pe_callB (cr_max rfl) (by rfl) T.b_max (by decide +kernel) (pa_cons (pe_lst (pa_cons pe_int (pa_star (pe_lc (own := [("pattern", 1), ("bit", 2)]) (g := gTup K 2 (gCons (gName 1) (gCons (gName 2) gNil))) (by rfl) sc_Rule_longest.nd (pi_tup (pe_fld (pv 0) rfl)) (blkOk_by (own := [("pattern", 1), ("bit", 2)]) (N := ["self", "pattern", "bit"]) (sc := fnScope s_Rule_longest) (by decide +kernel)) (fun _ _ _ _ _ => (pg_tup rfl (pgs_cons (pg_name (i := 1) sc_Rule_longest.nd rfl (.inl rfl)) (pgs_cons (pg_name (i := 2) sc_Rule_longest.nd rfl (.inl rfl)) pgs_nil)))) (fun _ _ _ _ _ => pts_nil) (fun _ _ _ _ _ => (pe_callB call_len_str (by rfl) T.b_len (by decide +kernel) (pa_cons (pv 1) pa_nil)))) pa_nil))) pa_nil)))), ?_⟩
    refine ⟨_, rfl, a, C, dx, _, _, rfl, ha, RT.cl, RT.nS, ruF_stuffs _ _, t, rfl, ⟨_, SqT.of ht⟩, fun D nD => ?_⟩
    refine lc_it (walk_tup (xs := ps.map V.ref)) (fun i H2 => Same H H2 ∧ H2 D = some (.lst ((((ps.take i).map kb).map fun s => (s.1.length : Int)).map V.int))) ⟨same_upd nD, upd_same⟩ (fun i H2 _ h2 => SqT.of (h2.1 _ _ ht)) ?_ ?_
    · rintro i x H2 H3 hi ⟨s2, hD⟩ ⟨rfl, hx⟩
      rw [List.getElem?_map] at hx
      obtain ⟨q, hq, rfl⟩ := Option.map_eq_some_iff.mp hx
      have hqm : q ∈ ps := List.mem_of_getElem? hq
      have lq : (kb q).1.length ≤ 1000 := hl _ (List.mem_map_of_mem hqm)
      refine ⟨q, _, rfl, SqT.of (s2 _ _ (hs q hqm)), rfl, ?_⟩
      refine ⟨_, _, rfl, _, _, rfl, rfl, rfl, ?_⟩
      refine ⟨_, rfl, _, rfl, by rw [W_len]; exact sl_len (by omega), _, hD, ?_, ?_, ?_⟩
      · rw [List.length_map] at hi
        rw [List.length_map, List.length_map, List.length_map, List.length_take]
        rw [List.length_map] at hn
        exact sl_lt (by omega)
      · intro c' o e
        rw [upd_ne (ne_of_none e nD)]
        exact s2 _ _ e
      · rw [upd_same, List.take_add_one, hq, W_len]
        simp
    · rintro H2 ⟨s2, hD⟩
      rw [List.length_map, List.take_length] at hD
      refine ⟨D, _, rfl, .inr (SqL.of hD), ?_⟩
      have hn' : ps.length ≤ 1000 := by rw [List.length_map] at hn; exact hn
      refine ⟨?_, fun p hp => ?_⟩
      · simp only [List.length_cons, List.length_append, List.length_map, List.length_nil]
        exact sl_len (by omega)
      · refine ⟨p, (0 : Int) :: (ps.map kb).map fun s => (s.1.length : Int), rfl, ?_, by rw [List.length_cons]; omega, fun m hm hx => ?_⟩
        · refine SqL.of (upd_same.trans ?_)
          simp
        · rw [longM_is hm hx]
          exact k _ (s2.trans (same_upd hp))
theorem sc_Rule_put : FnScope ["self", "line", "pattern", "bit"] ["self", "line"] (fnScope s_Rule_put) := fnScope_by (by decide +kernel)
theorem met_put {f C : Addr} {fd : FuncData} (F : C8.Fun K "put" "Rule.put" s_Rule_put f fd) (me : Meth K C "put" f) (b : Binds K fd ["self", "line"] []) (T : Tx mg) (RT : RuT K C) : Met P w K mg base 1 C "put" (spPut C) [] := by
  refine met0 RT.cl me F b sc_Rule_put (fun vs H Q E h => ?_) (fun cdv A outer s H vs Q E hr h => ?_)
  · obtain ⟨_, _, _, _, rfl, _⟩ := h; rfl
  · obtain ⟨a, fl, ss, l, rfl, ⟨dx, t, ps, kb, ha, ht, hs, rfl⟩, k⟩ := h
    refine ⟨_, (pss_cons (ps_for PassesOwn.never rfl (pi_tup (pe_fld (pv 0) rfl)) (pg_tup rfl (pgs_cons (pg_name (i := 2) sc_Rule_put.nd rfl (.inl rfl)) (pgs_cons (pg_name (i := 3) sc_Rule_put.nd rfl (.inl rfl)) pgs_nil)))
    (pss_one (ps_if (pt_val (pe_m1 PySem.F.slot_str_endswith PySem.F.type_str_endswith mt_endswith (pv 1) (pv 2))) (pss_one (ps_ret (pv 3))) pss_nil)))
    (pss_one (ps_ret pe_non))), ?_⟩
    refine ⟨_, rfl, a, C, dx, _, _, rfl, ha, RT.cl, RT.nS, ruF_stuffs _ _, t, rfl, ⟨_, SqT.of ht⟩, ?_⟩
    refine for_it (walk_tup (xs := ps.map V.ref)) (fun i σ H2 => ∃ v2 v3 : Option V, σ = [some (.ref a), some (.str (W l)), v2, v3] ∧ H2 = H ∧ ∀ j q, j < i → ps[j]? = some q → (kb q).1.isSuffixOf l = false) ⟨none, none, rfl, rfl, fun j q hj => absurd hj (Nat.not_lt_zero _)⟩ (fun i σ H2 _ h2 => by obtain ⟨_, _, _, rfl, _⟩ := h2; exact SqT.of ht) ?_ ?_
    · rintro i x σ H2 H3 hi ⟨v2, v3, rfl, rfl, hno⟩ ⟨rfl, hx⟩
      rw [List.getElem?_map] at hx
      obtain ⟨q, hq, rfl⟩ := Option.map_eq_some_iff.mp hx
      have hqm : q ∈ ps := List.mem_of_getElem? hq
      refine ⟨q, _, rfl, SqT.of (hs q hqm), rfl, ?_⟩
      refine ⟨_, _, rfl, _, _, rfl, rfl, ?_⟩
      refine ⟨_, rfl, ⟨_, rfl⟩, _, rfl, _, _, rfl, rfl, _, rfl, ?_⟩
      rw [W_ends]
      cases e : (kb q).1.isSuffixOf l with
      | true =>
        refine ⟨_, rfl, ?_⟩
        have ep : putM (ps.map kb) l = some (kb q).2 := by
          have hf : (ps.map kb).find? (fun s => s.1.isSuffixOf l) = some (kb q) := by
            rw [List.find?_eq_some_iff_getElem]
            have hi' := (List.getElem?_eq_some_iff.mp hq)
            obtain ⟨hi1, hi2⟩ := hi'
            refine ⟨e, i, by rw [List.length_map]; exact hi1, by rw [List.getElem_map, hi2], fun j hj => ?_⟩
            rw [List.getElem_map]
            have := hno j ps[j] hj (List.getElem?_eq_getElem _)
            rw [this]
            rfl
          unfold putM
          rw [hf]
          rfl
        have := k _ (Same.refl _)
        rw [ep] at this
        exact this
      | false =>
        refine ⟨_, _, rfl, rfl, fun j q' hj hq' => ?_⟩
        by_cases ej : j = i
        · subst ej
          rw [hq] at hq'
          cases hq'
          exact e
        · exact hno j q' (by omega) hq'
    · rintro σ H2 ⟨v2, v3, rfl, rfl, hno⟩
      have ep : putM (ps.map kb) l = none := by
        have hf : (ps.map kb).find? (fun s => s.1.isSuffixOf l) = none := by
          rw [List.find?_eq_none]
          intro s hs'
          obtain ⟨q, hq, rfl⟩ := List.mem_map.mp hs'
          obtain ⟨j, hj⟩ := List.getElem?_of_mem hq
          have := hno j q (by rw [List.length_map]; exact (List.getElem?_eq_some_iff.mp hj).1) hj
          rw [this]
          decide
        unfold putM
        rw [hf]
        rfl
      have := k _ (Same.refl _)
      rw [ep] at this
      exact this
end
end U

set_option maxRecDepth 100000
set_option maxHeartbeats 4000000
namespace U
open PySem PySem.Spec PyProof.Rows
open L2 hiding Fun CX0 E0 pass0 Fun.binds
open C8 Lx SX StX
theorem sf_at {ps : List Addr} {kb : Addr → Stf} {i : Nat} {q : Addr} (h : SufFree (ps.map kb)) (hq : ps[i]? = some q) : ∀ q' ∈ ps.take i ++ ps.drop (i + 1), ¬ (kb q').1 <:+ (kb q).1 := by
  obtain ⟨hi, rfl⟩ := List.getElem?_eq_some_iff.mp hq
  have e : ps = ps.take i ++ ps[i] :: ps.drop (i + 1) := by rw [← List.drop_eq_getElem_cons hi, List.take_append_drop]
  unfold SufFree at h
  rw [List.pairwise_map] at h
  generalize ps.take i = A at e ⊢
  generalize ps.drop (i + 1) = B at e ⊢
  generalize ps[i] = q at e ⊢
  rw [e, List.pairwise_append, List.pairwise_cons] at h
  obtain ⟨_, ⟨h2, _⟩, h3⟩ := h
  intro q' hq'
  rcases List.mem_append.mp hq' with m | m
  · exact (h3 q' m q List.mem_cons_self).1
  · exact (h2 q' m).2
theorem cut_to {xs : List V} {i : Nat} (h : i < xs.length) : cutV xs none (some (i : Int)) = xs.take i := by
  unfold cutV
  rw [HT.sIx_none, HT.sIx_nat, List.drop_zero, Nat.sub_zero, Nat.min_eq_left (Nat.le_of_lt h)]
theorem cut_from {xs : List V} {i : Nat} (h : i < xs.length) : cutV xs (some ((i : Int) + 1)) none = xs.drop (i + 1) := by
  unfold cutV
  rw [HT.sIx_none, show ((i : Int) + 1) = ((i + 1 : Nat) : Int) by omega, HT.sIx_nat, Nat.min_eq_left (by omega), List.take_of_length_le (by rw [List.length_drop]; omega)]
/-- stuffs that make a rule -/
structure StOk (ss : List Stf) : Prop where
  few : ss.length ≤ 1000
  pos : ∀ s ∈ ss, s.1 ≠ []
  long : longM ss ≤ 9
  free : SufFree ss
theorem StOk.l9 {ss : List Stf} (h : StOk ss) : ∀ s ∈ ss, s.1.length ≤ 9 := fun s hs => Nat.le_trans (longM_le hs) h.long
theorem StOk.perm {ss ts : List Stf} (h : StOk ss) (p : ss.Perm ts) : StOk ts := ⟨by rw [← p.length_eq]; exact h.few, fun s hs => h.pos s (p.mem_iff.mpr hs), by rw [← longM_perm p]; exact h.long, h.free.perm p⟩
def spAre (K : PySem.W.Frag) : Sp := fun vs H Q _ => ∃ (a : Addr) (ps : List Addr) (kb : Addr → Stf), vs = [.ref a] ∧ Sq K H a (ps.map V.ref) ∧ StV H kb ps ∧ StOk (ps.map kb) ∧ ∀ H', Same H H' → Q (.bl true) H'
def spPutIn (C : Addr) : Sp := fun vs H Q _ => ∃ (a : Addr) (f : List Bool) (ss : List Stf) (l x : List Bool), vs = [.ref a, .str (W l)] ∧ RuAt C H a f ss ∧ ss.length ≤ 1000 ∧ longM ss ≤ 9 ∧ l.length ≤ 50000 ∧ Ins ss l x ∧ ∀ H', Same H H' → Q (.str (W x)) H'
def spEndless (C : Addr) : Sp := fun vs H Q _ => ∃ (a : Addr) (f : List Bool) (ss : List Stf), vs = [.ref a] ∧ RuAt C H a f ss ∧ ss.length ≤ 1000 ∧ longM ss ≤ 9 ∧ OkR ss ∧ ∀ H', Same H H' → Q (.bl false) H'
def kst (ws : List (List Bool)) : List (Key × V) := ws.map fun w => (Sum.inr (W w), V.bl true)
theorem val_in {ws : List (List Bool)} {w : List Bool} (h : w ∈ ws) : valV (kst ws) (Sum.inr (W w)) = some (.bl true) := by
  unfold valV kst
  induction ws with
  | nil => cases h
  | cons x r ih =>
    rw [List.map_cons, List.find?_cons]
    by_cases e : x = w
    · rw [e, decide_eq_true rfl]; rfl
    · rw [decide_eq_false (fun z => e (W_inj (Sum.inr.inj z)))]
      rcases List.mem_cons.mp h with z | h
      · exact absurd z.symm e
      · exact ih h
theorem val_out {ws : List (List Bool)} {w : List Bool} (h : ¬ w ∈ ws) : valV (kst ws) (Sum.inr (W w)) = none := by
  unfold valV kst
  have : (ws.map fun w => ((Sum.inr (W w) : Key), V.bl true)).find? (fun kv => decide (kv.1 = Sum.inr (W w))) = none := by
    rw [List.find?_eq_none]
    intro kv hk
    obtain ⟨x, hx, rfl⟩ := List.mem_map.mp hk
    rw [decide_eq_true_eq]
    intro z
    exact h (W_inj (Sum.inr.inj z) ▸ hx)
  rw [this]
  rfl
theorem put_out {ws : List (List Bool)} {w : List Bool} (h : ¬ w ∈ ws) : putK (kst ws) (Sum.inr (W w)) (.bl true) = kst (ws ++ [w]) := by
  have e : ((kst ws).any fun kv => decide (kv.1 = Sum.inr (W w))) = false := by
    rw [List.any_eq_false]
    intro kv hk
    unfold kst at hk
    obtain ⟨x, hx, rfl⟩ := List.mem_map.mp hk
    rw [decide_eq_true_eq]
    intro z
    exact h (W_inj (Sum.inr.inj z) ▸ hx)
  unfold putK
  rw [e]
  unfold kst
  rw [List.map_append]
  rfl
section
variable {P : Program} {w : World} {K : PySem.W.Frag} {mg : Str → Option Value} {base : Heap}
theorem sc_are_stuffs : FnScope ["value", "one", "at", "stuff", "rest", "pattern", "bit"] ["value"] (fnScope s_are_stuffs) := fnScope_by (by decide +kernel)
theorem cal_are_stuffs {f : Addr} {fd : FuncData} (F : Def K mg "are_stuffs" s_are_stuffs f fd) (b : Binds K fd ["value"] []) (T : Tx mg) (c_is_sequence : Cal P w K mg base 1 "is_sequence" (spIsSeq K) []) (c_is_stuff : Cal P w K mg base 3 "is_stuff" spIsStuff []) : Cal P w K mg base 4 "are_stuffs" (spAre K) [] := by
  refine cal0 F b .nil sc_are_stuffs (fun vs H Q E h => ?_) (fun cdv A outer s H vs Q E hr h => ?_)
  · obtain ⟨_, _, _, rfl, _⟩ := h; rfl
  · obtain ⟨a, ps, kb, rfl, hS, hs, ok, k⟩ := h
    refine ⟨_, (pss_cons (ps_if (PW.pt (pw_or (pt_not (pt_val (pe_c c_is_sequence hr (by decide) rfl (pa_cons (pv 0) pa_nil)))) (pw_or1 (pt_not (pt_val (pe_callB (cr_all rfl) (by rfl) T.b_all (by decide +kernel) (pa_cons (pe_lc (own := [("one", 1)]) (g := gName 1) (by rfl) sc_are_stuffs.nd (pi_seq (pv 0)) (blkOk_by (own := [("one", 1)]) (N := ["value", "one", "at", "stuff", "rest", "pattern", "bit"]) (sc := fnScope s_are_stuffs) (by decide +kernel)) (fun _ _ _ _ _ => (pg_name (i := 1) sc_are_stuffs.nd rfl (.inl rfl))) (fun _ _ _ _ _ => pts_nil) (fun _ _ _ _ _ => (pe_c c_is_stuff hr (by decide) rfl (pa_cons (pv 1) pa_nil)))) pa_nil))))))) (pss_one (ps_ret pe_bl)) pss_nil)
    (pss_cons (ps_for PassesOwn.never rfl (pi_enumQ (by rfl) T.b_enumerate (pa_cons (pv 0) pa_nil)) (pg_tup rfl (pgs_cons (pg_name (i := 2) sc_are_stuffs.nd rfl (.inl rfl)) (pgs_cons (pg_name (i := 3) sc_are_stuffs.nd rfl (.inr rfl)) pgs_nil)))
    (pss_cons (ps_set (i := 4) sc_are_stuffs.nd rfl (.inl rfl) (pe_lst (pa_star (pe_slice (SlR.or sl_list sl_tupA) (pv 0) po_none (po_some (pv 2))) (pa_star (pe_slice (SlR.or sl_list sl_tupA) (pv 0) (po_some (pe_op op_add (pv 2) pe_int)) po_none) pa_nil))))
    (pss_one (ps_if (pt_val (pe_callB (cr_any rfl) (by rfl) T.b_any (by decide +kernel) (pa_cons (pe_lc (own := [("pattern", 5), ("bit", 6)]) (g := gTup K 2 (gCons (gName 5) (gCons (gName 6) gNil))) (by rfl) sc_are_stuffs.nd (pi_list (pv 4)) (blkOk_by (own := [("pattern", 5), ("bit", 6)]) (N := ["value", "one", "at", "stuff", "rest", "pattern", "bit"]) (sc := fnScope s_are_stuffs) (by decide +kernel)) (fun _ _ _ _ _ => (pg_tup rfl (pgs_cons (pg_name (i := 5) sc_are_stuffs.nd rfl (.inl rfl)) (pgs_cons (pg_name (i := 6) sc_are_stuffs.nd rfl (.inl rfl)) pgs_nil)))) (fun _ _ _ _ _ => pts_nil) (fun _ _ _ _ _ => (pe_m1 PySem.F.slot_str_endswith PySem.F.type_str_endswith mt_endswith (pe_ix (show IxR _ (rIxT K) from ix_tup) (pv 3) pe_int (fun _ _ => rfl)) (pv 5)))) pa_nil))) (pss_one (ps_ret pe_bl)) pss_nil))))
    (pss_one (ps_ret pe_bl)))), ?_⟩
    have hn : ps.length ≤ 1000 := by have := ok.few; rw [List.length_map] at this; exact this
    refine ⟨_, rfl, a, _, rfl, hS, fun H1 s1 => ⟨_, rfl, ?_⟩⟩
    have hS1 := hS.same s1
    refine iSeq_var rfl hS1 fun J G hG wk D nD => ?_
    refine lc_it wk (fun i H2 => Same H1 H2 ∧ H2 D = some (.lst ((List.replicate i true).map V.bl))) ⟨same_upd nD, upd_same⟩ (fun i H2 _ h2 => hG _ h2.1) ?_ ?_
    · rintro i x H2 H3 hi ⟨s2, hD⟩ ⟨rfl, hx⟩
      rw [List.getElem?_map] at hx
      obtain ⟨q, hq, rfl⟩ := Option.map_eq_some_iff.mp hx
      have hqm : q ∈ ps := List.mem_of_getElem? hq
      have mk : kb q ∈ ps.map kb := List.mem_map_of_mem hqm
      rw [List.length_map] at hi
      refine ⟨rfl, ?_⟩
      refine ⟨_, rfl, q, (kb q).1, (kb q).2, rfl, (s1.trans s2) _ _ (hs q hqm), ok.pos _ mk, Nat.le_trans (ok.l9 _ mk) (by decide), fun H4 s4 => ⟨_, s4 _ _ hD, ?_, ?_, ?_⟩⟩
      · rw [List.length_map, List.length_replicate]; exact sl_lt (by omega)
      · intro c' o e
        rw [upd_ne (ne_of_none e nD)]
        exact (s2.trans s4) _ _ e
      · rw [upd_same, List.replicate_succ', List.map_append]; rfl
    · rintro H2 ⟨s2, hD⟩
      refine ⟨D, _, rfl, SqL.of hD, _, rfl, ?_⟩
      have et : (List.replicate (ps.map V.ref).length true).all id = true := by simp
      rw [et]
      have hS2 := hS1.same s2
      have s02 := s1.trans s2
      refine iEnumQ_var rfl hS2 fun J G hG wk => ?_
      refine for_it wk (fun i σ H3 => ∃ v1 v2 v3 v4 v5 v6 : Option V, σ = [some (.ref a), v1, v2, v3, v4, v5, v6] ∧ Same H2 H3) ⟨none, none, none, none, none, none, rfl, Same.refl _⟩ (fun i σ H3 _ h3 => by obtain ⟨_, _, _, _, _, _, _, s3⟩ := h3; exact hG _ s3) ?_ ?_
      · rintro i x σ H3 H4 hi ⟨v1, v2, v3, v4, v5, v6, rfl, s3⟩ ⟨T', y1, y2, rfl, nT, rfl, h1, h2⟩
        cases h1
        replace h2 : (ps.map V.ref)[i]? = some y2 := h2
        rw [List.getElem?_map] at h2
        obtain ⟨q, hq, rfl⟩ := Option.map_eq_some_iff.mp h2
        have hqm : q ∈ ps := List.mem_of_getElem? hq
        refine ⟨T', _, rfl, SqT.of upd_same, rfl, _, _, rfl, _, _, rfl, rfl, ?_⟩
        have s4 : Same H2 (upd H3 T' (.tup [.int (i : Nat), .ref q])) := s3.trans (same_upd nT)
        generalize upd H3 T' (.tup [.int (i : Nat), .ref q]) = H4 at s4
        have hS4 := hS2.same s4
        refine ⟨_, rfl, _, rfl, _, rfl, slQ_of hS4 fun p1 H5 s5 h5 => ⟨p1, _, rfl, h5.star, ?_⟩⟩
        refine ⟨_, rfl, _, rfl, _, _, rfl, rfl, _, rfl, slQ_of (hS4.same s5) fun p2 H6 s6 h6 => ⟨p2, _, rfl, h6.star, ?_⟩⟩
        have el : cutV (ps.map V.ref) none (some ((i : Nat) : Int)) ++ (cutV (ps.map V.ref) (some (((i : Nat) : Int) + 1)) none ++ []) = (ps.take i ++ ps.drop (i + 1)).map V.ref := by
          rw [cut_to hi, cut_from hi, List.append_nil, List.map_append, List.map_take, List.map_drop]
        refine ⟨?_, fun R nR => ?_⟩
        · show (cutV (ps.map V.ref) none (some ((i : Nat) : Int)) ++ (cutV (ps.map V.ref) (some (((i : Nat) : Int) + 1)) none ++ [])).length ≤ sizeLine
          rw [el, List.length_map, List.length_append, List.length_take, List.length_drop]
          exact sl_len (by omega)
        · have hR : upd H6 R (.lst (cutV (ps.map V.ref) none (some ((i : Nat) : Int)) ++ (cutV (ps.map V.ref) (some (((i : Nat) : Int) + 1)) none ++ []))) R = some (.lst ((ps.take i ++ ps.drop (i + 1)).map V.ref)) := by rw [upd_same, el]
          have s7 : Same H2 (upd H6 R (.lst (cutV (ps.map V.ref) none (some ((i : Nat) : Int)) ++ (cutV (ps.map V.ref) (some (((i : Nat) : Int) + 1)) none ++ [])))) := ((s4.trans s5).trans s6).trans (same_upd nR)
          show gName 4 _ _ (upd H6 R (.lst (cutV (ps.map V.ref) none (some ((i : Nat) : Int)) ++ (cutV (ps.map V.ref) (some (((i : Nat) : Int) + 1)) none ++ [])))) _
          generalize upd H6 R (.lst (cutV (ps.map V.ref) none (some ((i : Nat) : Int)) ++ (cutV (ps.map V.ref) (some (((i : Nat) : Int) + 1)) none ++ []))) = H7 at hR s7 ⊢
          refine ⟨_, rfl, R, rfl, ⟨_, SqL.of hR⟩, fun D2 nD2 => ?_⟩
          have ne := sf_at ok.free hq
          have hlen : (ps.take i ++ ps.drop (i + 1)).length ≤ 1000 := by
            rw [List.length_append, List.length_take, List.length_drop]; omega
          have hsub : ∀ q' ∈ ps.take i ++ ps.drop (i + 1), q' ∈ ps := fun q' hq' => by
            rcases List.mem_append.mp hq' with m | m
            · exact List.mem_of_mem_take m
            · exact List.mem_of_mem_drop m
          generalize ps.take i ++ ps.drop (i + 1) = rs at hR ne hlen hsub
          refine lc_it (walk_list (xs := rs.map V.ref)) (fun j H8 => Same H7 H8 ∧ H8 D2 = some (.lst ((List.replicate j false).map V.bl))) ⟨same_upd nD2, upd_same⟩ (fun j H8 _ h8 => h8.1.seq (SqL.of hR)) ?_ ?_
          · rintro j x H8 H9 hj ⟨s8, hD2⟩ ⟨rfl, hx⟩
            rw [List.getElem?_map] at hx
            obtain ⟨q', hq', rfl⟩ := Option.map_eq_some_iff.mp hx
            have hm' : q' ∈ rs := List.mem_of_getElem? hq'
            rw [List.length_map] at hj
            have s28 := s02.trans (s7.trans s8)
            refine ⟨q', _, rfl, SqT.of (s28 _ _ (hs q' (hsub _ hm'))), rfl, _, _, rfl, _, _, rfl, rfl, rfl, ?_⟩
            refine ⟨_, rfl, q, _, 0, _, rfl, rfl, SqT.of (s28 _ _ (hs q hqm)), rfl, ⟨_, rfl⟩, _, rfl, _, _, rfl, rfl, _, hD2, ?_, ?_, ?_⟩
            · rw [List.length_map, List.length_replicate]; exact sl_lt (by omega)
            · intro c' o e
              rw [upd_ne (ne_of_none e nD2)]
              exact s8 _ _ e
            · have ef : Txt.endswith (W (kb q).1) (W (kb q').1) = false := by
                rw [W_ends]
                cases e : (kb q').1.isSuffixOf (kb q).1 with
                | false => rfl
                | true => exact absurd (List.isSuffixOf_iff_suffix.mp e) (ne q' hm')
              rw [upd_same, ef, List.replicate_succ', List.map_append]
              rfl
          · rintro H8 ⟨s8, hD2⟩
            refine ⟨D2, _, rfl, SqL.of hD2, _, rfl, ?_⟩
            have et : (List.replicate (rs.map V.ref).length false).any id = false := by simp
            rw [et]
            exact ⟨_, _, _, _, _, _, rfl, s7.trans s8⟩
      · rintro σ H3 ⟨v1, v2, v3, v4, v5, v6, rfl, s3⟩
        exact k H3 (s02.trans s3)
end
end U

set_option maxRecDepth 100000
set_option maxHeartbeats 4000000
namespace U
open PySem PySem.Spec PyProof.Rows
open L2 hiding Fun CX0 E0 pass0 Fun.binds
open C8 Lx SX StX
theorem p10 {n : Nat} (h : n ≤ 9) : 2 ^ (n + 1) ≤ 1024 := Nat.le_trans (Nat.pow_le_pow_right (by decide) (show n + 1 ≤ 10 by omega)) (by decide)
section
variable {P : Program} {w : World} {K : PySem.W.Frag} {mg : Str → Option Value} {base : Heap}
theorem sc_Rule_put_in : FnScope ["self", "line", "found", "known", "bit", "standing"] ["self", "line"] (fnScope s_Rule_put_in) := fnScope_by (by decide +kernel)
theorem met_put_in {f C : Addr} {fd : FuncData} (F : C8.Fun K "put_in" "Rule.put_in" s_Rule_put_in f fd) (me : Meth K C "put_in" f) (b : Binds K fd ["self", "line"] []) (T : Tx mg) (RT : RuT K C)
    (c_put : Met P w K mg base 1 C "put" (spPut C) []) (p_longest : Prp P w K mg base 1 C "longest" (spLongest C)) (c_tail : Cal P w K mg base 1 "tail" spTail []) : Met P w K mg base 3 C "put_in" (spPutIn C) [] := by
  refine met0 RT.cl me F b sc_Rule_put_in (fun vs H Q E h => ?_) (fun cdv A outer s H vs Q E hr h => ?_)
  · obtain ⟨_, _, _, _, _, rfl, _⟩ := h; rfl
  · obtain ⟨a, fl, ss, l, x, rfl, hR, hn, h9, hl, hI, k⟩ := h
    refine ⟨_, (pss_cons (ps_par (i := 2) (j := 3) (by rfl) sc_Rule_put_in.nd rfl rfl (by decide) rfl rfl (pa_cons pe_str (pa_cons pe_dnewK pa_nil)) (by rfl))
    (pss_cons (ps_set (i := 4) sc_Rule_put_in.nd rfl (.inl rfl) (pe_mt (pl := _) c_put hr (by decide) (pv 0) (pa_cons (pv 1) pa_nil)))
    (pss_cons (ps_while PassesOwn.never (pt_cmpR op_notN (pv 4) pe_non (nomark _))
    (pss_cons (ps_set (i := 5) sc_Rule_put_in.nd rfl (.inl rfl) (pe_c c_tail hr (by decide) rfl (pa_cons (pe_op op_add_str (pv 1) (pv 2)) (pa_cons (pe_pr p_longest hr (by decide) (pv 0)) pa_nil))))
    (pss_cons (ps_if (pt_cmp (pc_din (hu_of hr) (pv 5) (pv 3))) (pss_one (ps_ret pe_non)) pss_nil)
    (pss_cons (ps_dput (hu_of hr) (pv 3) (pv 5) pe_bl rfl)
    (pss_cons (ps_aug (i := 2) sc_Rule_put_in.nd rfl (.inl rfl) (pv 4) iop_add_str)
    (pss_one (ps_set (i := 4) sc_Rule_put_in.nd rfl (.inl rfl) (pe_mt (pl := _) c_put hr (by decide) (pv 0) (pa_cons (pe_op op_add_str (pv 1) (pv 2)) pa_nil)))))))))
    (pss_one (ps_ret (pv 2)))))), ?_⟩
    have hL : ∀ s ∈ ss, s.1.length ≤ longM ss := fun s hs => longM_le hs
    have hx : x.length ≤ 1024 := by have := hI.len hL; have := p10 h9; omega
    have hat : ∀ {H2 : Hp}, Same H H2 → ∃ dx t, H2 a = some (.ins C dx (ruF fl t)) := fun s2 => by
      obtain ⟨dx, t, _, _, ha, _⟩ := hR.same s2
      exact ⟨dx, t, ha⟩
    refine fun D nD => ⟨_, _, rfl, ?_⟩
    have s1 : Same H (upd H D (.dK [])) := same_upd nD
    have hD1 : upd H D (.dK []) D = some (.dK []) := upd_same
    generalize upd H D (.dK []) = H1 at s1 hD1
    obtain ⟨dx, t, ha⟩ := hat s1
    refine ⟨_, rfl, a, dx, _, rfl, ha, ruF_no _ _ (by decide +kernel) (by decide +kernel), _, rfl, a, fl, ss, l, rfl, hR.same s1, fun H2 s2 => ?_⟩
    refine ⟨fun m σ H3 => ∃ (j : Nat) (v5 : Option V), j + m = x.length ∧ σ = [some (.ref a), some (.str (W l)), some (.str (W (x.take j))), some (.ref D), some (oB (putM ss (l ++ x.take j))), v5] ∧ Same H H3 ∧ H3 D = some (.dK (kst ((List.range j).map fun i => tl (longM ss) (l ++ x.take i)))),
      ⟨x.length, 0, none, by omega, by rw [List.take_zero, List.append_nil, ← W_nil]; rfl, s1.trans s2, s2 _ _ hD1⟩, ?_⟩
    rintro m σ H3 ⟨j, v5, hj, rfl, s3, hD3⟩
    refine ⟨_, rfl, rfl, _, rfl, ?_⟩
    rw [oB_non]
    by_cases hlt : j < x.length
    · have hb : x[j]? = some x[j] := List.getElem?_eq_getElem hlt
      have hput := hI.at hb
      rw [hput]
      have lx : (x.take j).length ≤ 1024 := by rw [List.length_take]; omega
      have e1 : (W l).length = l.length := W_len l
      have e2 : (W (x.take j)).length = (x.take j).length := W_len _
      refine ⟨fun σ' H' => ∃ m', m' < m ∧ ∃ (j : Nat) (v5 : Option V), j + m' = x.length ∧ σ' = [some (.ref a), some (.str (W l)), some (.str (W (x.take j))), some (.ref D), some (oB (putM ss (l ++ x.take j))), v5] ∧ Same H H' ∧ H' D = some (.dK (kst ((List.range j).map fun i => tl (longM ss) (l ++ x.take i)))), fun _ _ h => h, ?_⟩
      obtain ⟨dx3, t3, ha3⟩ := hat s3
      refine ⟨_, rfl, _, rfl, _, _, rfl, rfl, by rw [e1, e2]; exact sl_len (by omega), _, rfl, a, dx3, _, rfl, ha3, a, fl, ss, rfl, hR.same s3, hn, fun s hs => Nat.le_trans (longM_le hs) (by omega), fun H4 s4 => ?_⟩
      refine ⟨l ++ x.take j, longM ss, by rw [← W_cat]; rfl, by rw [List.length_append]; omega, ?_⟩
      have hD4 := s4 _ _ hD3
      have nin : ¬ tl (longM ss) (l ++ x.take j) ∈ (List.range j).map fun i => tl (longM ss) (l ++ x.take i) := fun hm => by
        obtain ⟨i, hi, e⟩ := List.mem_map.mp hm
        have hi' := List.mem_range.mp hi
        have := hI.apart hL (Nat.le_of_lt (Nat.lt_trans hi' hlt)) (Nat.le_of_lt hlt) e
        omega
      refine ⟨_, rfl, _, rfl, D, _, rfl, DGet.k (k := .inr (W (tl (longM ss) (l ++ x.take j)))) hD4, _, rfl, iteBF (by rw [val_out nin]; rfl) ?_⟩
      refine ⟨_, rfl, _, rfl, D, _, rfl, DPut.k (k := .inr (W (tl (longM ss) (l ++ x.take j)))) hD4 (by unfold kst; rw [List.length_map, List.length_map, List.length_range]; exact sl_lt (by omega)), ?_⟩
      rw [put_out nin]
      have et : x.take (j + 1) = x.take j ++ [x[j]] := by rw [List.take_add_one, hb]; rfl
      have ek : ((List.range j).map fun i => tl (longM ss) (l ++ x.take i)) ++ [tl (longM ss) (l ++ x.take j)] = (List.range (j + 1)).map fun i => tl (longM ss) (l ++ x.take i) := by
        rw [List.range_succ, List.map_append]; rfl
      rw [ek]
      have s5 : Same H (upd H4 D (.dK (kst ((List.range (j + 1)).map fun i => tl (longM ss) (l ++ x.take i))))) := fun c o e => by
        rw [upd_ne (ne_of_none e nD)]
        exact (s3.trans s4) _ _ e
      have hD5 : upd H4 D (.dK (kst ((List.range (j + 1)).map fun i => tl (longM ss) (l ++ x.take i)))) D = some (.dK (kst ((List.range (j + 1)).map fun i => tl (longM ss) (l ++ x.take i)))) := upd_same
      generalize upd H4 D (.dK (kst ((List.range (j + 1)).map fun i => tl (longM ss) (l ++ x.take i)))) = H5 at s5 hD5
      have e3 : (W [x[j]]).length = 1 := W_len _
      refine ⟨_, rfl, _, rfl, _, _, rfl, rfl, by rw [e2, e3]; exact sl_len (by omega), ?_⟩
      rw [W_cat, ← et]
      have e4 : (W (x.take (j + 1))).length = (x.take (j + 1)).length := W_len _
      obtain ⟨dx5, t5, ha5⟩ := hat s5
      refine ⟨_, rfl, a, dx5, _, rfl, ha5, ruF_no _ _ (by decide +kernel) (by decide +kernel), _, rfl, _, rfl, _, _, rfl, rfl, by rw [e1, e4, et, List.length_append]; exact sl_len (by simp only [List.length_cons, List.length_nil]; omega), ?_⟩
      refine ⟨a, fl, ss, l ++ x.take (j + 1), by rw [← W_cat]; rfl, hR.same s5, fun H6 s6 => ?_⟩
      exact ⟨m - 1, by omega, j + 1, _, by omega, rfl, s5.trans s6, s6 _ _ hD5⟩
    · have hj' : j = x.length := by omega
      subst hj'
      rw [List.take_length, hI.end]
      exact ⟨_, rfl, k H3 s3⟩
end
end U

set_option maxRecDepth 100000
set_option maxHeartbeats 4000000
namespace U
open PySem PySem.Spec PyProof.Rows
open L2 hiding Fun CX0 E0 pass0 Fun.binds
open C8 Lx SX StX
/-- the standings that wait, and are known -/
structure Bfs (ss : List Stf) (H H2 : Hp) (q d : Addr) (ws : List (List Bool)) : Prop where
  same : Same H H2
  wait : H2 q = some (.lst (ws.map fun w => V.str (W w)))
  known : H2 d = some (.dK (kst ws))
  nodup : ws.Nodup
  short : ∀ w ∈ ws, w.length ≤ longM ss
  reach : ∀ w ∈ ws, ∃ l, Reach ss l ∧ tl (longM ss) l = w
theorem Bfs.on {ss : List Stf} {H H2 H3 : Hp} {q d : Addr} {ws : List (List Bool)} (b : Bfs ss H H2 q d ws) (s : Same H2 H3) : Bfs ss H H3 q d ws :=
  ⟨b.same.trans s, s _ _ b.wait, s _ _ b.known, b.nodup, b.short, b.reach⟩
theorem Bfs.few {ss : List Stf} {H H2 : Hp} {q d : Addr} {ws : List (List Bool)} (b : Bfs ss H H2 q d ws) : ws.length + 1 ≤ 2 ^ (longM ss + 1) := words_le b.nodup b.short
def key (s : Stf) : Str × Str := (W s.1, W [s.2])
def SortedS (ss : List Stf) : Prop := SrtO.Srtd (fun x y => SrT.lexT (key x) (key y)) ss
def spRuInit (K : PySem.W.Frag) (C : Addr) : Sp := fun vs H Q _ => ∃ (a dx s : Addr) (f : List Bool) (ps : List Addr) (kb : Addr → Stf), vs = [.ref a, .str (W f), .ref s] ∧ H a = some (.ins C dx []) ∧ Sq K H s (ps.map V.ref) ∧ StV H kb ps ∧ StOk (ps.map kb) ∧ OkR (ps.map kb) ∧ 2 ≤ f.length ∧ f.length ≤ 1000 ∧
  ∀ H' ss, (∀ b o, H b = some o → b ≠ a → H' b = some o) → ss.Perm (ps.map kb) → SortedS ss → RuAt C H' a f ss → Q .non H'
theorem pwS {qs : List Addr} {kb : Addr → Stf} (h : SrtO.Srtd (fun x y => SrT.lexT (key (kb x)) (key (kb y))) qs) : SortedS (qs.map kb) := List.pairwise_map.mpr h
section
variable {P : Program} {w : World} {K : PySem.W.Frag} {mg : Str → Option Value} {base : Heap}
theorem sc_Rule_is_endless : FnScope ["self", "waiting", "known", "at", "bit", "line", "more", "standing"] ["self"] (fnScope s_Rule_is_endless) := fnScope_by (by decide +kernel)
theorem met_is_endless {f C : Addr} {fd : FuncData} {tB : Tok} (F : C8.Fun K "is_endless" "Rule.is_endless" s_Rule_is_endless f fd) (me : Meth K C "is_endless" f) (b : Binds K fd ["self"] []) (T : Tx mg) (RT : RuT K C) (g_BITS : mg "BITS" = some (.str "01" tB))
    (c_put_in : Met P w K mg base 3 C "put_in" (spPutIn C) []) (p_longest : Prp P w K mg base 1 C "longest" (spLongest C)) (c_tail : Cal P w K mg base 1 "tail" spTail []) : Met P w K mg base 4 C "is_endless" (spEndless C) [] := by
  refine met0 RT.cl me F b sc_Rule_is_endless (fun vs H Q E h => ?_) (fun cdv A outer s H vs Q E hr h => ?_)
  · obtain ⟨_, _, _, rfl, _⟩ := h; rfl
  · obtain ⟨a, fl, ss, rfl, hR, hn, h9, hO, k⟩ := h
    refine ⟨_, (pss_cons (ps_par3 (i := 1) (j := 2) (l := 3) (by rfl) sc_Rule_is_endless.nd rfl rfl rfl (by decide) (by decide) (by decide) rfl rfl rfl (pa_cons (pe_lst (pa_cons pe_str pa_nil)) (pa_cons (pe_disp (pps_cons pe_str pe_bl pps_nil) (by rfl) (by rfl) (fun z => by cases z) (by decide)) (pa_cons pe_int pa_nil))) (by rfl))
    (pss_cons (ps_while PassesOwn.never (pt_cmpR op_lt (pv 3) (pe_callB call_len_seq (by rfl) T.b_len (by decide +kernel) (pa_cons (pv 1) pa_nil)) (nomark _))
    (pss_cons (ps_for PassesOwn.never rfl (pi_str (pe_glob (v := .str "01") (by rfl) g_BITS ⟨_, rfl⟩)) (pg_name (i := 4) sc_Rule_is_endless.nd rfl (.inl rfl))
    (pss_cons (ps_set (i := 5) sc_Rule_is_endless.nd rfl (.inl rfl) (pe_op op_add_str (pe_ix ix_list (pv 1) (pv 3) (fun _ _ => rfl)) (pv 4)))
    (pss_cons (ps_set (i := 6) sc_Rule_is_endless.nd rfl (.inl rfl) (pe_mt (pl := _) c_put_in hr (by decide) (pv 0) (pa_cons (pv 5) pa_nil)))
    (pss_cons (ps_if (pt_cmpR op_isN (pv 6) pe_non (nomark _)) (pss_one (ps_ret pe_bl)) pss_nil)
    (pss_cons (ps_set (i := 7) sc_Rule_is_endless.nd rfl (.inl rfl) (pe_c c_tail hr (by decide) rfl (pa_cons (pe_op op_add_str (pv 5) (pv 6)) (pa_cons (pe_pr p_longest hr (by decide) (pv 0)) pa_nil))))
    (pss_one (ps_if (pt_cmp (pc_dnotin (hu_of hr) (pv 7) (pv 2))) (pss_cons (ps_dput (hu_of hr) (pv 2) (pv 7) pe_bl rfl)
    (pss_one (ps_expr (pe_bm PySem.F.plainAttrs_list PySem.F.slot_list_append PySem.F.type_list_append mt_append (pv 1) (pa_cons (pv 7) pa_nil))))) pss_nil)))))))
    (pss_one (ps_aug (i := 3) sc_Rule_is_endless.nd rfl (.inl rfl) pe_int ip_add))))
    (pss_one (ps_ret pe_bl)))), ?_⟩
    have hL : ∀ s ∈ ss, s.1.length ≤ longM ss := fun s hs => longM_le hs
    have hpw := p10 h9
    have hat : ∀ {H2 : Hp}, Same H H2 → ∃ dx t, H2 a = some (.ins C dx (ruF fl t)) := fun s2 => by
      obtain ⟨dx, t, _, _, ha, _⟩ := hR.same s2
      exact ⟨dx, t, ha⟩
    refine ⟨by show 1 ≤ sizeLine; decide, fun q nq d nd => ⟨upd_same, [(.inr "", .bl true)], rfl, by decide, _, _, _, rfl, ?_⟩⟩
    have nqd : q ≠ d := fun z => by rw [← z, upd_same] at nd; cases nd
    have b0 : Bfs ss H (upd (upd (upd H q (.lst [.str ""])) d (.dK [])) d (.dK (mergeK [] [(.inr "", .bl true)]))) q d [[]] := by
      refine ⟨fun c o e => ?_, ?_, ?_, ?_, ?_, ?_⟩
      · have n1 := ne_of_none e nq
        have n2 : c ≠ d := fun z => by rw [z] at e n1; rw [upd_ne n1, e] at nd; cases nd
        rw [upd_ne n2, upd_ne n2, upd_ne n1]
        exact e
      · rw [upd_ne nqd, upd_ne nqd, upd_same, W_nil]; rfl
      · rw [upd_same, W_nil]; rfl
      · simp
      · intro w hw; rw [List.mem_singleton.mp hw]; exact Nat.zero_le _
      · intro w hw; rw [List.mem_singleton.mp hw]; exact ⟨[], .nil, by unfold tl; rw [List.drop_nil]⟩
    have nq0 : H q = none := nq
    have nd0 : H d = none := by
      cases e : H d with
      | none => rfl
      | some o => rw [upd_ne (Ne.symm nqd), e] at nd; cases nd
    generalize upd (upd (upd H q (.lst [.str ""])) d (.dK [])) d (.dK (mergeK [] [(.inr "", .bl true)])) = H1 at b0
    refine ⟨fun m σ H2 => ∃ (n : Nat) (ws : List (List Bool)) (v4 v5 v6 v7 : Option V), σ = [some (.ref a), some (.ref q), some (.ref d), some (.int n), v4, v5, v6, v7] ∧ Bfs ss H H2 q d ws ∧ n ≤ ws.length ∧ m + n = 2 ^ (longM ss + 1),
      ⟨2 ^ (longM ss + 1), 0, [[]], none, none, none, none, rfl, b0, Nat.zero_le _, by omega⟩, ?_⟩
    rintro m σ H2 ⟨n, ws, v4, v5, v6, v7, rfl, B2, hn2, hm⟩
    have few2 := B2.few
    refine ⟨_, rfl, _, rfl, q, _, rfl, .inl (SqL.of B2.wait), _, _, rfl, rfl, _, rfl, ?_⟩
    rw [List.length_map]
    by_cases hlt : n < ws.length
    · refine iteDT (by omega) ?_
      refine ⟨fun σ' H' => ∃ m', m' < m ∧ ∃ (n : Nat) (ws : List (List Bool)) (v4 v5 v6 v7 : Option V), σ' = [some (.ref a), some (.ref q), some (.ref d), some (.int n), v4, v5, v6, v7] ∧ Bfs ss H H' q d ws ∧ n ≤ ws.length ∧ m' + n = 2 ^ (longM ss + 1), fun _ _ h => h, ?_⟩
      refine ⟨_, rfl, for_it walk_str (fun i σ H3 => ∃ (ws : List (List Bool)) (v4 v5 v6 v7 : Option V), σ = [some (.ref a), some (.ref q), some (.ref d), some (.int n), v4, v5, v6, v7] ∧ Bfs ss H H3 q d ws ∧ n < ws.length) ⟨ws, _, _, _, _, rfl, B2, hlt⟩ (fun _ _ _ _ _ => trivial) ?_ ?_⟩
      · rintro i x σ H3 H3' hi ⟨ws, v4, v5, v6, v7, rfl, B3, hlt3⟩ ⟨rfl, c, hc, rfl⟩
        have e01 : ("01" : Str) = W [false, true] := by decide +kernel
        rw [e01] at hc
        obtain ⟨bb, _, rfl⟩ := W_get hc
        have hw : (ws.map fun w => V.str (W w))[n]? = some (.str (W ws[n])) := by rw [List.getElem?_map, List.getElem?_eq_getElem hlt3]; rfl
        have hmem : ws[n] ∈ ws := List.getElem_mem hlt3
        generalize ws[n] = w0 at hw hmem
        have hs0 := B3.short _ hmem
        have few3 := B3.few
        obtain ⟨l0, hr0, rfl⟩ := B3.reach _ hmem
        obtain ⟨y, hy⟩ := hO l0 hr0 bb
        have ht0 : tl (longM ss) l0 = tl (longM ss) (tl (longM ss) l0) := (tl_tl (Nat.le_refl _) _).symm
        have hy' := hy.tl hL (tl_snoc (b := bb) ht0)
        have hyl := hy.len hL
        have hnx : tl (longM ss) (l0 ++ [bb] ++ y) = tl (longM ss) (tl (longM ss) l0 ++ [bb] ++ y) := tl_app (tl_snoc (b := bb) ht0) y
        have hrn : Reach ss (l0 ++ [bb] ++ y) := .next hr0 hy
        generalize tl (longM ss) l0 = w0 at *
        have ew : W w0 ++ (⟨#[bt bb]⟩ : Str) = W (w0 ++ [bb]) := W_cat w0 [bb]
        have el : (W w0).length + (⟨#[bt bb]⟩ : Str).length ≤ sizeLine := by
          have e1 : (W w0).length = w0.length := W_len _
          have e2 : (⟨#[bt bb]⟩ : Str).length = 1 := W_len [bb]
          rw [e1, e2]; exact sl_len (by omega)
        refine ⟨_, rfl, _, rfl, q, _, _, _, rfl, rfl, SqL.of B3.wait, atI_nat hw, _, rfl, _, _, rfl, rfl, el, ?_⟩
        rw [ew]
        obtain ⟨dx3, t3, ha3⟩ := hat B3.same
        have hl1 : (w0 ++ [bb]).length ≤ 10 := by rw [List.length_append, List.length_cons, List.length_nil]; omega
        refine ⟨_, rfl, a, dx3, _, rfl, ha3, ruF_no _ _ (by decide +kernel) (by decide +kernel), _, rfl, a, fl, ss, w0 ++ [bb], y, rfl, hR.same B3.same, hn, h9, by omega, hy', fun H4 s4 => ?_⟩
        have B4 := B3.on s4
        refine ⟨_, rfl, rfl, _, rfl, iteDF (fun z => by cases z) ?_⟩
        obtain ⟨dx4, t4, ha4⟩ := hat B4.same
        have e3 : (W (w0 ++ [bb])).length = (w0 ++ [bb]).length := W_len _
        have e4 : (W y).length = y.length := W_len _
        refine ⟨_, rfl, _, rfl, _, _, rfl, rfl, by rw [e3, e4]; exact sl_len (by omega), _, rfl, a, dx4, _, rfl, ha4, a, fl, ss, rfl, hR.same B4.same, hn, fun s hs => Nat.le_trans (longM_le hs) (by omega), fun H5 s5 => ?_⟩
        have B5 := B4.on s5
        refine ⟨w0 ++ [bb] ++ y, longM ss, by rw [← W_cat (w0 ++ [bb]) y]; rfl, by rw [List.length_append]; omega, ?_⟩
        refine ⟨_, rfl, _, rfl, d, _, rfl, DGet.k (k := .inr (W (tl (longM ss) (w0 ++ [bb] ++ y)))) B5.known, _, rfl, ?_⟩
        by_cases hin : tl (longM ss) (w0 ++ [bb] ++ y) ∈ ws
        · refine iteBF (by rw [val_in hin]; rfl) ?_
          exact ⟨ws, _, _, _, _, rfl, B5, hlt3⟩
        · refine iteBT (by rw [val_out hin]; rfl) ?_
          refine ⟨_, rfl, _, rfl, d, _, rfl, DPut.k (k := .inr (W (tl (longM ss) (w0 ++ [bb] ++ y)))) B5.known (by unfold kst; rw [List.length_map]; exact sl_lt (by omega)), ?_⟩
          rw [put_out hin]
          have hW6 : upd H5 d (.dK (kst (ws ++ [tl (longM ss) (w0 ++ [bb] ++ y)]))) q = some (.lst (ws.map fun w => V.str (W w))) := by rw [upd_ne nqd]; exact B5.wait
          refine ⟨_, rfl, .inl ⟨rfl, _, SqL.of hW6⟩, _, rfl, q, _, _, rfl, rfl, hW6, by rw [List.length_map]; exact sl_lt (by omega), ?_⟩
          refine ⟨ws ++ [tl (longM ss) (w0 ++ [bb] ++ y)], _, _, _, _, rfl, ⟨fun c o e => ?_, ?_, ?_, ?_, ?_, ?_⟩, ?_⟩
          · rw [upd_ne (ne_of_none e nq0), upd_ne (ne_of_none e nd0)]
            exact B5.same _ _ e
          · rw [upd_same, List.map_append]; rfl
          · rw [upd_ne (Ne.symm nqd), upd_same]
          · rw [List.nodup_append]
            refine ⟨B5.nodup, by simp, fun u hu v hv e => ?_⟩
            rw [List.mem_singleton.mp hv] at e
            exact hin (e ▸ hu)
          · intro u hu
            rcases List.mem_append.mp hu with m | m
            · exact B5.short _ m
            · rw [List.mem_singleton.mp m]; exact tl_le _ _
          · intro u hu
            rcases List.mem_append.mp hu with m | m
            · exact B5.reach _ m
            · rw [List.mem_singleton.mp m]; exact ⟨_, hrn, hnx⟩
          · rw [List.length_append]; omega
      · rintro σ H3 ⟨ws, v4, v5, v6, v7, rfl, B3, hlt3⟩
        refine ⟨_, rfl, _, _, rfl, rfl, ?_⟩
        refine ⟨m - 1, by omega, n + 1, ws, _, _, _, _, rfl, B3, hlt3, by omega⟩
    · refine iteDF (by omega) ?_
      exact k H2 B2.same
theorem sc_Rule_init : FnScope ["self", "flag", "stuffs"] ["self", "flag", "stuffs"] (fnScope s_Rule_init) := fnScope_by (by decide +kernel)
theorem ok_Rule_init {f C : Addr} {fd : FuncData} (F : C8.Fun K "__init__" "Rule.__init__" s_Rule_init f fd) (T : Tx mg) (RT : RuT K C) (c_is_word : Cal P w K mg base 1 "is_word" (spIsWord K) []) (c_are_stuffs : Cal P w K mg base 4 "are_stuffs" (spAre K) []) (c_is_endless : Met P w K mg base 4 C "is_endless" (spEndless C) []) :
    FnOk P w K mg base CX0 5 f fd ["self", "flag", "stuffs"] (spRuInit K C) := by
  refine fn0 F sc_Rule_init (fun vs H Q E h => ?_) (fun cdv A outer s H vs Q E hr h => ?_)
  · obtain ⟨_, _, _, _, _, _, rfl, _⟩ := h; rfl
  · obtain ⟨a, dx, sq, fl, ps, kb, rfl, ha, hS, hs, ok, hO, h2, hl, k⟩ := h
    refine ⟨_, (pss_cons (ps_if (PW.pt (pw_or (pt_not (pt_val (pe_c c_is_word hr (by decide) rfl (pa_cons (pv 1) pa_nil)))) (pw_or1 (pt_cmpR op_lt (pe_callB call_len_str (by rfl) T.b_len (by decide +kernel) (pa_cons (pv 1) pa_nil)) pe_int (nomark _))))) (pss_one ps_never) pss_nil)
    (pss_cons (ps_if (pt_not (pt_val (pe_c c_are_stuffs hr (by decide) rfl (pa_cons (pv 2) pa_nil)))) (pss_one ps_never) pss_nil)
    (pss_cons (ps_fld (pv 0) (pv 1) rfl)
    (pss_cons (ps_fld (pv 0) (pe_callTy call_tuple_of (by rfl) T.b_tuple (by decide +kernel) (pa_cons (pe_callB cr_sortedT (by rfl) T.b_sorted (by decide +kernel) (pa_cons (pv 2) pa_nil)) pa_nil)) rfl)
    (pss_one (ps_if (pt_val (pe_mt0 (pl := _) c_is_endless hr (by decide) (pv 0))) (pss_one ps_never) pss_nil)))))), ?_⟩
    have lf : (W fl).length = fl.length := W_len fl
    refine ⟨_, rfl, _, rfl, .inl ⟨_, rfl, by rw [lf]; omega, fun H1 s1 => ⟨_, rfl, iteBF (by rw [isW_W]; rfl) ?_⟩⟩⟩
    refine ⟨_, rfl, _, rfl, by rw [lf]; exact sl_len (by omega), _, _, rfl, rfl, _, rfl, iteDF (by rw [lf]; omega) ?_⟩
    refine ⟨_, rfl, sq, ps, kb, rfl, hS.same s1, hs.same s1, ok, fun H2 s2 => ⟨_, rfl, ?_⟩⟩
    have s02 := s1.trans s2
    have ha2 := s02 _ _ ha
    refine ⟨_, rfl, _, rfl, a, C, dx, _, rfl, ha2, RT.cl, RT.nF, by decide, ?_⟩
    have keep3 : ∀ c o, H c = some o → c ≠ a → upd H2 a (.ins C dx (putF "flag" (.str (W fl)) [])) c = some o := fun c o e n => by rw [upd_ne n]; exact s02 _ _ e
    have ha3 : upd H2 a (.ins C dx (putF "flag" (.str (W fl)) [])) a = some (.ins C dx (putF "flag" (.str (W fl)) [])) := upd_same
    have hs3 : StV (upd H2 a (.ins C dx (putF "flag" (.str (W fl)) []))) kb ps := fun t ht => keep3 _ _ (hs t ht) (ne_of (hs t ht) ha (by intro z; cases z))
    have hS3 : SqL K (upd H2 a (.ins C dx (putF "flag" (.str (W fl)) []))) sq (ps.map V.ref) ∨ SqT K (upd H2 a (.ins C dx (putF "flag" (.str (W fl)) []))) sq (ps.map V.ref) := by
      rcases hS with ((h | ⟨o, h⟩) | h) | ((h | ⟨o, h⟩) | h)
      · exact .inl (.inl (.inl (keep3 _ _ h (ne_of h ha (by intro z; cases z)))))
      · exact .inl (.inl (.inr ⟨o, keep3 _ _ h (ne_of h ha (by intro z; cases z))⟩))
      · exact .inl (.inr h)
      · exact .inr (.inl (.inl (keep3 _ _ h (ne_of h ha (by intro z; cases z)))))
      · exact .inr (.inl (.inr ⟨o, keep3 _ _ h (ne_of h ha (by intro z; cases z))⟩))
      · exact .inr (.inr h)
    generalize upd H2 a (.ins C dx (putF "flag" (.str (W fl)) [])) = H3 at keep3 ha3 hs3 hS3
    refine ⟨_, rfl, sq, ps, fun t => key (kb t), rfl, hS3, fun t ht => hs3 t ht, fun qs p1 srt prm n1 => ?_⟩
    refine ⟨p1, _, rfl, .inl ⟨SqL.of upd_same, fun p2 n2 => ?_⟩⟩
    have s5 : Same H3 (upd (upd H3 p1 (.lst (qs.map V.ref))) p2 (.tup (qs.map V.ref))) := (same_upd n1).trans (same_upd n2)
    have hT5 : upd (upd H3 p1 (.lst (qs.map V.ref))) p2 (.tup (qs.map V.ref)) p2 = some (.tup (qs.map V.ref)) := upd_same
    generalize upd (upd H3 p1 (.lst (qs.map V.ref))) p2 (.tup (qs.map V.ref)) = H5 at s5 hT5
    have ha5 := s5 _ _ ha3
    refine ⟨_, rfl, a, C, dx, _, rfl, ha5, RT.cl, RT.nS, by show 1 < 1000; decide, ?_⟩
    have na2 : p2 ≠ a := ne_of hT5 ha5 (by intro z; cases z)
    have keep6 : ∀ c o, H3 c = some o → c ≠ a → upd H5 a (.ins C dx (putF "stuffs" (.ref p2) (putF "flag" (.str (W fl)) []))) c = some o := fun c o e n => by rw [upd_ne n]; exact s5 _ _ e
    have ha6 : upd H5 a (.ins C dx (putF "stuffs" (.ref p2) (putF "flag" (.str (W fl)) []))) a = some (.ins C dx (ruF fl p2)) := upd_same
    have hT6 : upd H5 a (.ins C dx (putF "stuffs" (.ref p2) (putF "flag" (.str (W fl)) []))) p2 = some (.tup (qs.map V.ref)) := by rw [upd_ne na2]; exact hT5
    generalize upd H5 a (.ins C dx (putF "stuffs" (.ref p2) (putF "flag" (.str (W fl)) []))) = H6 at keep6 ha6 hT6
    have hs6 : StV H6 kb qs := StV.perm (fun t ht => keep6 _ _ (hs3 t ht) (ne_of (hs3 t ht) ha3 (by intro z; cases z))) prm
    have pm : (qs.map kb).Perm (ps.map kb) := prm.map kb
    have hR6 : RuAt C H6 a fl (qs.map kb) := ⟨dx, p2, qs, kb, ha6, hT6, hs6, rfl⟩
    have ok6 := ok.perm pm.symm
    refine ⟨_, rfl, a, dx, _, rfl, ha6, ruF_no _ _ (by decide +kernel) (by decide +kernel), a, fl, qs.map kb, rfl, hR6, ok6.few, ok6.long, hO.congr fun l => put_perm ok.free pm.symm l, fun H7 s7 => ⟨_, rfl, ?_⟩⟩
    exact k H7 (qs.map kb) (fun c o e n => s7 _ _ (keep6 _ _ (keep3 _ _ e n) n)) pm (pwS srt) (hR6.same s7)
end
end U

set_option maxRecDepth 100000
set_option maxHeartbeats 4000000
namespace U
open PySem PySem.Spec PyProof.Rows
open L2 hiding Fun CX0 E0 pass0 Fun.binds
open C8 Lx SX
/-- where f begins in l first -/
def posM (l f : List Bool) : Option Nat := (List.range (l.length + 1)).find? fun i => f.isPrefixOf (l.drop i)
theorem posM_some {l f : List Bool} {i : Nat} : posM l f = some i ↔ (i ≤ l.length ∧ f <+: l.drop i ∧ ∀ k, k < i → ¬ f <+: l.drop k) := by
  unfold posM
  rw [List.find?_range_eq_some, List.isPrefixOf_iff_prefix]
  constructor
  · rintro ⟨h1, h2, h3⟩
    refine ⟨by have := List.mem_range.mp h2; omega, h1, fun k hk z => ?_⟩
    have := h3 k hk
    rw [List.isPrefixOf_iff_prefix.mpr z] at this
    cases this
  · rintro ⟨h1, h2, h3⟩
    refine ⟨h2, List.mem_range.mpr (by omega), fun k hk => ?_⟩
    cases e : f.isPrefixOf (l.drop k) with
    | false => rfl
    | true => exact absurd (List.isPrefixOf_iff_prefix.mp e) (h3 k hk)
theorem posM_none {l f : List Bool} : posM l f = none ↔ ∀ i, i ≤ l.length → ¬ f <+: l.drop i := by
  unfold posM
  rw [List.find?_eq_none]
  constructor
  · intro h i hi z
    exact h i (List.mem_range.mpr (by omega)) (List.isPrefixOf_iff_prefix.mpr z)
  · intro h i hi z
    exact h i (by have := List.mem_range.mp hi; omega) (List.isPrefixOf_iff_prefix.mp z)
theorem at_W {l f : List Bool} {i : Nat} : StrLaws.At (W l) (W f) (W l).length i ↔ (i ≤ l.length ∧ f <+: l.drop i) := by
  unfold StrLaws.At
  rw [StrLaws.subAt_eq, W_len, W_len, W_tl, W_tl, ← List.map_drop, ← List.map_take, beq_iff_eq]
  constructor
  · rintro ⟨h1, h2⟩
    refine ⟨by omega, List.prefix_iff_eq_take.mpr (map_bt_inj h2).symm⟩
  · rintro ⟨h1, h2⟩
    have hl := h2.length_le
    rw [List.length_drop] at hl
    exact ⟨by omega, by rw [← List.prefix_iff_eq_take.mp h2]⟩
theorem occ_none {l f : List Bool} (h : posM l f = none) : Builtin.Str.occurrences (W l) (W f) 0 (W l).length 1 = [] := by
  rcases StrLaws.occ_head (W l) (W f) 1 (Nat.le_refl _) with ⟨h1, _⟩ | ⟨i, r, _, h2, _⟩
  · exact h1
  · obtain ⟨h3, h4⟩ := at_W.mp h2
    exact absurd h4 (posM_none.mp h i h3)
theorem occ_some {l f : List Bool} {i : Nat} (h : posM l f = some i) : ∃ r, Builtin.Str.occurrences (W l) (W f) 0 (W l).length 1 = i :: r := by
  obtain ⟨p1, p2, p3⟩ := posM_some.mp h
  rcases StrLaws.occ_head (W l) (W f) 1 (Nat.le_refl _) with ⟨_, h2⟩ | ⟨j, r, h1, h2, h3⟩
  · exact absurd (at_W.mpr ⟨p1, p2⟩) (h2 i)
  · obtain ⟨q1, q2⟩ := at_W.mp h2
    have e : j = i := by
      rcases Nat.lt_trichotomy i j with c | c | c
      · exact absurd (at_W.mpr ⟨p1, p2⟩) (h3 i c)
      · exact c.symm
      · exact absurd q2 (p3 j c)
    subst e
    exact ⟨r, h1⟩
theorem find_W {l f : List Bool} {i : Nat} (h : posM l f = some i) : Txt.find (W l) (W f) = (i : Int) := by
  obtain ⟨r, e⟩ := occ_some h
  unfold Txt.find
  rw [e]
theorem posM_end (l f : List Bool) : ∃ i, posM (l ++ f) f = some i ∧ i ≤ l.length := by
  cases e : posM (l ++ f) f with
  | none =>
    refine absurd ?_ (posM_none.mp e l.length (by rw [List.length_append]; omega))
    rw [List.drop_left]
    exact List.prefix_refl _
  | some i =>
    refine ⟨i, rfl, ?_⟩
    obtain ⟨_, _, h3⟩ := posM_some.mp e
    rcases Nat.lt_or_ge l.length i with c | c
    · refine absurd ?_ (h3 _ c)
      rw [List.drop_left]
      exact List.prefix_refl _
    · exact c
end U

set_option maxRecDepth 100000
namespace U
theorem nodup1 {α : Type} (a : α) : [a].Nodup := by simp
theorem tl_nil (w : Nat) : tl w [] = [] := by unfold tl; simp
/-! flags in lines -/
/-- a flag ahead of the one at the end -/
def SpL (f l : List Bool) : Prop := ∃ i, i < l.length ∧ f <+: (l ++ f).drop i
theorem posM_sp {f l : List Bool} : posM (l ++ f) f = some l.length ↔ ¬ SpL f l := by
  constructor
  · intro h ⟨i, hi, hp⟩
    exact (posM_some.mp h).2.2 i hi hp
  · intro h
    refine posM_some.mpr ⟨by rw [List.length_append]; omega, by rw [List.drop_left]; exact List.prefix_refl _, fun k hk hp => h ⟨k, hk, hp⟩⟩
theorem pre_cut {f a r : List Bool} {i : Nat} (h : f <+: (a ++ r).drop i) (hi : i + f.length ≤ a.length) : f <+: a.drop i := by
  rw [List.prefix_iff_eq_take] at h ⊢
  rw [List.drop_append_of_le_length (by omega), List.take_append_of_le_length (by rw [List.length_drop]; omega)] at h
  exact h
theorem pre_ext {f a r : List Bool} {i : Nat} (h : f <+: a.drop i) (hi : i ≤ a.length) : f <+: (a ++ r).drop i := by
  rw [List.drop_append_of_le_length hi]
  exact h.trans (List.prefix_append _ _)
theorem drop_add' (u v : List Bool) (j : Nat) : (u ++ v).drop (u.length + j) = v.drop j := by
  rw [← List.drop_drop, List.drop_left]
/-- f stands in l -/
def infx (f l : List Bool) : Bool := (posM l f).isSome
theorem infx_iff {f l : List Bool} : infx f l = true ↔ ∃ i, i ≤ l.length ∧ f <+: l.drop i := by
  unfold infx
  cases e : posM l f with
  | none =>
    constructor
    · intro h; cases h
    · rintro ⟨i, hi, hp⟩
      exact absurd hp (posM_none.mp e i hi)
  | some i =>
    obtain ⟨h1, h2, _⟩ := posM_some.mp e
    exact ⟨fun _ => ⟨i, h1, h2⟩, fun _ => rfl⟩
theorem infx_false {f l : List Bool} : infx f l = false ↔ ∀ i, i ≤ l.length → ¬ f <+: l.drop i := by
  rw [← Bool.not_eq_true, infx_iff]
  constructor
  · intro h i hi hp; exact h ⟨i, hi, hp⟩
  · rintro h ⟨i, hi, hp⟩; exact h i hi hp
def bordM (f l : List Bool) : Bool := decide (posM (l ++ f) f = some l.length)
theorem bordM_iff {f l : List Bool} : bordM f l = true ↔ ¬ SpL f l := by
  unfold bordM
  rw [decide_eq_true_iff]
  exact posM_sp
theorem tl_split (n : Nat) (l : List Bool) : l = l.take (l.length - n) ++ tl n l := by unfold tl; rw [List.take_append_drop]
theorem SpL.infx {f l : List Bool} (hf : f ≠ []) (h : U.infx f l = true) : SpL f l := by
  obtain ⟨i, hi, hp⟩ := infx_iff.mp h
  have := hp.length_le
  rw [List.length_drop] at this
  have h0 : 0 < f.length := List.length_pos_iff.mpr hf
  exact ⟨i, by omega, pre_ext hp hi⟩
theorem sp_front {f u v : List Bool} (h : SpL f v) : SpL f (u ++ v) := by
  obtain ⟨i, hi, hp⟩ := h
  refine ⟨u.length + i, by rw [List.length_append]; omega, ?_⟩
  rw [List.append_assoc, drop_add']
  exact hp
/-- the test of one step -/
theorem sp_step {f l st y : List Bool} {w : Nat} (hf : f ≠ []) (hw : f.length ≤ w + 1) (hst : st = tl w l) (hl : ¬ SpL f l) : SpL f (l ++ y) ↔ (infx f (st ++ y) = true ∨ SpL f (tl w (st ++ y))) := by
  have h0 : 0 < f.length := List.length_pos_iff.mpr hf
  have el := tl_split w l
  rw [← hst] at el
  generalize hu : l.take (l.length - w) = u at el
  have lu : u.length = l.length - w := by rw [← hu, List.length_take]; omega
  have ly : l ++ y = u ++ (st ++ y) := by rw [← List.append_assoc, ← el]
  have lst : st.length = min w l.length := by rw [hst, tl_len]
  constructor
  · rintro ⟨i, hi, hp⟩
    by_cases c : i + f.length ≤ (l ++ y).length
    · left
      have h1 := pre_cut hp c
      by_cases c2 : i + f.length ≤ l.length
      · exfalso
        have h2 := pre_cut h1 c2
        exact hl ⟨i, by omega, pre_ext h2 (by omega)⟩
      · have hiu : u.length ≤ i := by omega
        refine infx_iff.mpr ⟨i - u.length, by rw [List.length_append] at hi ⊢; omega, ?_⟩
        rw [ly, show i = u.length + (i - u.length) by omega, drop_add'] at h1
        exact h1
    · right
      -- the line's last bits
      have e2 := tl_split w (st ++ y)
      generalize hv : (st ++ y).take ((st ++ y).length - w) = v at e2
      have lv : v.length = (st ++ y).length - w := by rw [← hv, List.length_take]; omega
      have e3 : l ++ y = (u ++ v) ++ tl w (st ++ y) := by rw [List.append_assoc, ← e2]; exact ly
      have l3 : (l ++ y).length = u.length + v.length + (tl w (st ++ y)).length := by rw [e3, List.length_append, List.length_append]
      have l4 : (tl w (st ++ y)).length = min w (st ++ y).length := tl_len _ _
      have l5 : (st ++ y).length = st.length + y.length := List.length_append
      have l6 : (l ++ y).length = l.length + y.length := List.length_append
      refine ⟨i - (u ++ v).length, ?_, ?_⟩
      · rw [List.length_append]; omega
      · have hge : (u ++ v).length ≤ i := by rw [List.length_append]; omega
        rw [e3, List.append_assoc, show i = (u ++ v).length + (i - (u ++ v).length) by omega, drop_add'] at hp
        exact hp
  · rintro (h | h)
    · rw [ly]
      exact sp_front (SpL.infx hf h)
    · have e2 := tl_split w (st ++ y)
      rw [ly, e2, ← List.append_assoc]
      exact sp_front h
/-! the walk over standings -/
def wid (ss : List Stf) (f : List Bool) : Nat := max (ss.foldr (fun s m => max s.1.length m) 0) f.length - 1
def edge (ss : List Stf) (f : List Bool) (w : Nat) (st : List Bool) (b : Bool) : Option (List Bool) :=
  if infx f (itP ss 40 (st ++ [b])) || !bordM f (tl w (itP ss 40 (st ++ [b]))) then none else some (tl w (itP ss 40 (st ++ [b])))
theorem bodyF_snoc (ss : List Stf) (m : List Bool) (b : Bool) : bodyF ss (m ++ [b]) = itP ss 40 (bodyF ss m ++ [b]) := by unfold bodyF; rw [List.foldl_append]; rfl
theorem ins40 {ss : List Stf} (o : OkN 39 ss) (m : List Bool) (b : Bool) : ∃ x, Ins ss (bodyF ss m ++ [b]) x ∧ x.length ≤ 39 ∧ bodyF ss (m ++ [b]) = bodyF ss m ++ [b] ++ x := by
  obtain ⟨x, hx, hl⟩ := o _ (body_ex o m).reach b
  refine ⟨x, hx, hl, ?_⟩
  rw [bodyF_snoc, hx.itP, List.take_of_length_le (by omega)]
/-- the standing of a message -/
def stand (ss : List Stf) (w : Nat) (m : List Bool) : List Bool := tl w (bodyF ss m)
theorem edge_at {ss : List Stf} {f : List Bool} {w : Nat} (o : OkN 39 ss) (hf : f ≠ []) (hw : f.length ≤ w + 1) (hL : ∀ s ∈ ss, s.1.length ≤ w + 1) {m : List Bool} (hm : ¬ SpL f (bodyF ss m)) (b : Bool) :
    (∃ x, Ins ss (stand ss w m ++ [b]) x ∧ x.length ≤ 39 ∧ itP ss 40 (stand ss w m ++ [b]) = stand ss w m ++ [b] ++ x) ∧
    (SpL f (bodyF ss (m ++ [b])) → edge ss f w (stand ss w m) b = none) ∧ (¬ SpL f (bodyF ss (m ++ [b])) → edge ss f w (stand ss w m) b = some (stand ss w (m ++ [b]))) := by
  obtain ⟨x, hx, hl, eb⟩ := ins40 o m b
  have et : tl (w + 1) (bodyF ss m ++ [b]) = tl (w + 1) (stand ss w m ++ [b]) := by
    rw [tl_snoc0, tl_snoc0]
    unfold stand
    rw [tl_tl (Nat.le_refl w)]
  have hx2 : Ins ss (stand ss w m ++ [b]) x := hx.tl hL et
  have e40 : itP ss 40 (stand ss w m ++ [b]) = stand ss w m ++ [b] ++ x := by rw [hx2.itP, List.take_of_length_le (by omega)]
  have key := sp_step (y := [b] ++ x) hf hw (show stand ss w m = tl w (bodyF ss m) from rfl) hm
  rw [← List.append_assoc, ← List.append_assoc] at key
  have etl : tl w (stand ss w m ++ [b] ++ x) = stand ss w (m ++ [b]) := by
    unfold stand
    rw [eb, List.append_assoc, List.append_assoc]
    exact tl_app (tl_tl (Nat.le_refl w) _) _
  refine ⟨⟨x, hx2, hl, e40⟩, fun h => ?_, fun h => ?_⟩
  · rw [eb] at h
    unfold edge
    rw [e40]
    rcases key.mp h with h1 | h1
    · rw [h1]; rfl
    · have : bordM f (tl w (stand ss w m ++ [b] ++ x)) = false := by
        rw [← Bool.not_eq_true, bordM_iff]
        exact fun z => z h1
      rw [this, Bool.not_false, Bool.or_true]
      rfl
  · rw [eb] at h
    unfold edge
    rw [e40]
    have h1 : infx f (stand ss w m ++ [b] ++ x) = false := by
      rw [← Bool.not_eq_true]
      exact fun z => h (key.mpr (.inl z))
    have h2 : bordM f (tl w (stand ss w m ++ [b] ++ x)) = true := bordM_iff.mpr fun z => h (key.mpr (.inr z))
    rw [h1, h2, etl]
    rfl
/-- a word as a number -/
def num (m : List Bool) : Nat := m.foldl (fun n b => 2 * n + (if b then 1 else 0)) 0
theorem num_snoc (m : List Bool) (b : Bool) : num (m ++ [b]) = 2 * num m + (if b then 1 else 0) := by unfold num; rw [List.foldl_append]; rfl
/-- how things stand ahead of a layer -/
structure WkL (ss : List Stf) (f : List Bool) (w n : Nat) (kn : List (List Bool)) (ly : List (List Bool × List Bool)) : Prop where
  a : ∀ m, m.length ≤ n → ¬ SpL f (bodyF ss m)
  nd : kn.Nodup
  sh : ∀ t ∈ kn, t.length ≤ w
  g : ∀ t ∈ kn, ∃ m, m.length ≤ n ∧ t = stand ss w m
  nil : [] ∈ kn
  l1 : ∀ p ∈ ly, p.1.length = n ∧ p.2 = stand ss w p.1 ∧ p.2 ∈ kn
  srt : ly.Pairwise fun p q => num p.1 < num q.1
  d : ∀ t ∈ kn, (∃ p ∈ ly, p.2 = t) ∨ ∀ b, ∃ u ∈ kn, edge ss f w t b = some u
  e : ∀ m, m.length = n → (∀ b, ∃ u ∈ kn, edge ss f w (stand ss w m) b = some u) ∨ ∃ p ∈ ly, p.2 = stand ss w m ∧ num p.1 ≤ num m
def Dn (ly : List (List Bool × List Bool)) (i : Nat) (c : Bool) (p : List Bool × List Bool) (b : Bool) : Prop := p ∈ ly.take i ∨ (c = true ∧ ly[i]? = some p ∧ b = false)
/-- within a layer: the edges of the first i are done, and the first one of the next if c -/
structure WkE (ss : List Stf) (f : List Bool) (w n : Nat) (k0 : List (List Bool)) (ly : List (List Bool × List Bool)) (i : Nat) (c : Bool) (kn : List (List Bool)) (lt : List (List Bool × List Bool)) : Prop where
  nd : kn.Nodup
  sh : ∀ t ∈ kn, t.length ≤ w
  g : ∀ t ∈ kn, ∃ m, m.length ≤ n + 1 ∧ t = stand ss w m
  sub : ∀ t ∈ k0, t ∈ kn
  app : kn.length = k0.length + lt.length
  l1 : ∀ p ∈ lt, p.1.length = n + 1 ∧ p.2 = stand ss w p.1 ∧ p.2 ∈ kn
  srt : lt.Pairwise fun p q => num p.1 < num q.1
  ltd : ∀ p ∈ lt, ∃ q b, Dn ly i c q b ∧ p.1 = q.1 ++ [b]
  new : ∀ t ∈ kn, t ∈ k0 ∨ ∃ p ∈ lt, p.2 = t
  ed : ∀ q b, Dn ly i c q b → ∃ u ∈ kn, edge ss f w q.2 b = some u ∧ (u ∈ k0 ∨ ∃ p ∈ lt, p.2 = u ∧ num p.1 ≤ num (q.1 ++ [b]))
theorem WkE.start {ss : List Stf} {f : List Bool} {w n : Nat} {kn : List (List Bool)} {ly : List (List Bool × List Bool)} (h : WkL ss f w n kn ly) : WkE ss f w n kn ly 0 false kn [] :=
  ⟨h.nd, h.sh, fun t ht => by obtain ⟨m, h1, h2⟩ := h.g t ht; exact ⟨m, by omega, h2⟩, fun _ h => h, rfl, (fun _ h => nomatch h), .nil, (fun _ h => nomatch h), fun t ht => .inl ht, fun q b hd => by
    rcases hd with h | ⟨h, _⟩
    · rw [List.take_zero] at h; cases h
    · cases h⟩
theorem Dn.lt {ss : List Stf} {f : List Bool} {w n : Nat} {k0 : List (List Bool)} {ly : List (List Bool × List Bool)} (h : WkL ss f w n k0 ly) {i : Nat} {c : Bool} {p : List Bool × List Bool} (hp : ly[i]? = some p) {q : List Bool × List Bool} {b : Bool} (hd : Dn ly i c q b) : num (q.1 ++ [b]) < num (p.1 ++ [c]) := by
  rw [num_snoc, num_snoc]
  rcases hd with h1 | ⟨rfl, h1, rfl⟩
  · have hi := (List.getElem?_eq_some_iff.mp hp).1
    have hs : ly = ly.take i ++ ly.drop i := (List.take_append_drop i ly).symm
    have hpd : p ∈ ly.drop i := by
      rw [List.drop_eq_getElem_cons hi]
      rw [List.getElem?_eq_getElem hi] at hp
      rw [Option.some.inj hp]
      exact List.mem_cons_self
    have := h.srt
    rw [hs] at this
    have := (List.pairwise_append.mp this).2.2 q h1 p hpd
    split <;> split <;> omega
  · rw [hp] at h1
    rw [Option.some.inj h1]
    simp
/-- the edges that are done grow by one -/
theorem Dn.step {ly : List (List Bool × List Bool)} {i : Nat} {c : Bool} {p : List Bool × List Bool} (hp : ly[i]? = some p) {q : List Bool × List Bool} {b : Bool} : Dn ly (if c then i + 1 else i) (!c) q b → Dn ly i c q b ∨ (q = p ∧ b = c) := by
  cases c with
  | false =>
    rintro (h | ⟨_, h1, h2⟩)
    · exact .inl (.inl h)
    · rw [show (if false = true then i + 1 else i) = i from rfl, hp] at h1
      exact .inr ⟨(Option.some.inj h1).symm, h2⟩
  | true =>
    rintro (h | ⟨h, _⟩)
    · rw [show (if true = true then i + 1 else i) = i + 1 from rfl, List.take_add_one, hp] at h
      rcases List.mem_append.mp h with h | h
      · exact .inl (.inl h)
      · have e : q = p := by simpa using h
        cases b with
        | false => exact .inl (.inr ⟨rfl, by rw [e]; exact hp, rfl⟩)
        | true => exact .inr ⟨e, rfl⟩
    · cases h
theorem WkE.next {ss : List Stf} {f : List Bool} {w n : Nat} (o : OkN 39 ss) (hf : f ≠ []) (hw : f.length ≤ w + 1) (hL : ∀ s ∈ ss, s.1.length ≤ w + 1) {k0 kn : List (List Bool)} {ly lt : List (List Bool × List Bool)} (h : WkL ss f w n k0 ly) {i : Nat} {c : Bool} (E : WkE ss f w n k0 ly i c kn lt) {p : List Bool × List Bool} (hp : ly[i]? = some p)
    {u : List Bool} (hu : edge ss f w p.2 c = some u) :
    (u ∈ kn → WkE ss f w n k0 ly (if c then i + 1 else i) (!c) kn lt) ∧ (u ∉ kn → WkE ss f w n k0 ly (if c then i + 1 else i) (!c) (kn ++ [u]) (lt ++ [(p.1 ++ [c], u)])) := by
  have hpm := List.mem_of_getElem? hp
  obtain ⟨p1, p2, p3⟩ := h.l1 p hpm
  have hm : ¬ SpL f (bodyF ss p.1) := h.a p.1 (by omega)
  obtain ⟨_, e1, e2⟩ := edge_at o hf hw hL hm c
  rw [← p2] at e1 e2
  have us : u = stand ss w (p.1 ++ [c]) := by
    by_cases z : SpL f (bodyF ss (p.1 ++ [c]))
    · rw [e1 z] at hu; cases hu
    · rw [e2 z] at hu; exact (Option.some.inj hu).symm
  have hdn : ∀ {q b}, Dn ly i c q b → Dn ly (if c then i + 1 else i) (!c) q b := by
    intro q b hd
    cases c with
    | false =>
      rcases hd with h | ⟨h, _⟩
      · exact .inl h
      · cases h
    | true =>
      refine .inl ?_
      rw [show (if true = true then i + 1 else i) = i + 1 from rfl, List.take_add_one, hp]
      rcases hd with h | ⟨_, h1, _⟩
      · exact List.mem_append_left _ h
      · rw [hp] at h1
        exact List.mem_append_right _ (by simp [Option.some.inj h1])
  have hpn : Dn ly (if c then i + 1 else i) (!c) p c := by
    cases c with
    | false => exact .inr ⟨rfl, hp, rfl⟩
    | true =>
      refine .inl ?_
      rw [show (if true = true then i + 1 else i) = i + 1 from rfl, List.take_add_one, hp]
      exact List.mem_append_right _ (by simp)
  constructor
  · intro hk
    refine ⟨E.nd, E.sh, E.g, E.sub, E.app, E.l1, E.srt, fun q hq => ?_, E.new, fun q b hd => ?_⟩
    · obtain ⟨q2, b, h1, h2⟩ := E.ltd q hq
      exact ⟨q2, b, hdn h1, h2⟩
    · rcases Dn.step hp hd with h1 | ⟨rfl, rfl⟩
      · exact E.ed q b h1
      · refine ⟨u, hk, hu, ?_⟩
        rcases E.new u hk with h1 | ⟨r, h1, h2⟩
        · exact .inl h1
        · refine .inr ⟨r, h1, h2, ?_⟩
          obtain ⟨q2, b2, h3, h4⟩ := E.ltd r h1
          rw [h4]
          exact Nat.le_of_lt (Dn.lt h hp h3)
  · intro hk
    refine ⟨?_, ?_, ?_, fun t ht => List.mem_append_left _ (E.sub t ht), by rw [List.length_append, List.length_append, E.app]; show _ + 1 = _ + (_ + 1); omega, ?_, ?_, ?_, ?_, ?_⟩
    · rw [List.nodup_append]
      exact ⟨E.nd, nodup1 _, fun x hx y hy z => hk (by rw [← List.mem_singleton.mp hy, ← z]; exact hx)⟩
    · intro t ht
      rcases List.mem_append.mp ht with h1 | h1
      · exact E.sh t h1
      · rw [List.mem_singleton.mp h1, us]
        exact tl_le _ _
    · intro t ht
      rcases List.mem_append.mp ht with h1 | h1
      · exact E.g t h1
      · exact ⟨p.1 ++ [c], by rw [List.length_append, p1]; exact Nat.le_refl _, by rw [List.mem_singleton.mp h1]; exact us⟩
    · intro q hq
      rcases List.mem_append.mp hq with h1 | h1
      · obtain ⟨a1, a2, a3⟩ := E.l1 q h1
        exact ⟨a1, a2, List.mem_append_left _ a3⟩
      · rw [List.mem_singleton.mp h1]
        exact ⟨by rw [List.length_append, p1]; rfl, us, List.mem_append_right _ (List.mem_singleton.mpr rfl)⟩
    · rw [List.pairwise_append]
      refine ⟨E.srt, List.pairwise_singleton _ _, fun q hq r hr => ?_⟩
      rw [List.mem_singleton.mp hr]
      obtain ⟨q2, b2, h3, h4⟩ := E.ltd q hq
      rw [h4]
      exact Dn.lt h hp h3
    · intro q hq
      rcases List.mem_append.mp hq with h1 | h1
      · obtain ⟨q2, b, h1, h2⟩ := E.ltd q h1
        exact ⟨q2, b, hdn h1, h2⟩
      · rw [List.mem_singleton.mp h1]
        exact ⟨p, c, hpn, rfl⟩
    · intro t ht
      rcases List.mem_append.mp ht with h1 | h1
      · rcases E.new t h1 with h2 | ⟨r, h2, h3⟩
        · exact .inl h2
        · exact .inr ⟨r, List.mem_append_left _ h2, h3⟩
      · exact .inr ⟨_, List.mem_append_right _ (List.mem_singleton.mpr rfl), (List.mem_singleton.mp h1).symm⟩
    · intro q b hd
      rcases Dn.step hp hd with h1 | ⟨rfl, rfl⟩
      · obtain ⟨v, h2, h3, h4⟩ := E.ed q b h1
        refine ⟨v, List.mem_append_left _ h2, h3, ?_⟩
        rcases h4 with h4 | ⟨r, h5, h6⟩
        · exact .inl h4
        · exact .inr ⟨r, List.mem_append_left _ h5, h6⟩
      · exact ⟨u, List.mem_append_right _ (List.mem_singleton.mpr rfl), hu, .inr ⟨_, List.mem_append_right _ (List.mem_singleton.mpr rfl), rfl, Nat.le_refl _⟩⟩
/-- the end of a layer -/
theorem WkE.done {ss : List Stf} {f : List Bool} {w n : Nat} (o : OkN 39 ss) (hf : f ≠ []) (hw : f.length ≤ w + 1) (hL : ∀ s ∈ ss, s.1.length ≤ w + 1) {k0 kn : List (List Bool)} {ly lt : List (List Bool × List Bool)} (h : WkL ss f w n k0 ly) (E : WkE ss f w n k0 ly ly.length false kn lt) : WkL ss f w (n + 1) kn lt := by
  have dn : ∀ {q b}, q ∈ ly → Dn ly ly.length false q b := fun hq => .inl (by rw [List.take_length]; exact hq)
  -- each message that is one bit longer
  have step : ∀ m b, m.length = n → ∃ u ∈ kn, edge ss f w (stand ss w m) b = some u ∧ (u ∈ k0 ∨ ∃ p ∈ lt, p.2 = u ∧ num p.1 ≤ num (m ++ [b])) := by
    intro m b hm
    rcases h.e m hm with h1 | ⟨p, h1, h2, h3⟩
    · obtain ⟨u, h4, h5⟩ := h1 b
      exact ⟨u, E.sub u h4, h5, .inl h4⟩
    · obtain ⟨u, h4, h5, h6⟩ := E.ed p b (dn h1)
      rw [h2] at h5
      refine ⟨u, h4, h5, ?_⟩
      rcases h6 with h6 | ⟨r, h7, h8, h9⟩
      · exact .inl h6
      · refine .inr ⟨r, h7, h8, Nat.le_trans h9 ?_⟩
        rw [num_snoc, num_snoc]
        omega
  have old : ∀ t ∈ k0, ∀ b, ∃ u ∈ kn, edge ss f w t b = some u := by
    intro t ht b
    rcases h.d t ht with ⟨p, h1, rfl⟩ | h1
    · obtain ⟨u, h4, h5, _⟩ := E.ed p b (dn h1)
      exact ⟨u, h4, h5⟩
    · obtain ⟨u, h4, h5⟩ := h1 b
      exact ⟨u, E.sub u h4, h5⟩
  have cut : ∀ m : List Bool, m.length = n + 1 → ∃ m' b, m = m' ++ [b] ∧ m'.length = n := by
    intro m hm
    rcases List.eq_nil_or_concat m with z | ⟨m', b, z⟩
    · rw [z] at hm; cases hm
    · rw [List.concat_eq_append] at z
      exact ⟨m', b, z, by rw [z, List.length_append] at hm; simpa using hm⟩
  have unsp : ∀ m b, m.length = n → ¬ SpL f (bodyF ss (m ++ [b])) ∧ edge ss f w (stand ss w m) b = some (stand ss w (m ++ [b])) := by
    intro m b hm
    obtain ⟨u, _, h2, _⟩ := step m b hm
    obtain ⟨_, e1, e2⟩ := edge_at o hf hw hL (h.a m (by omega)) b
    have hn : ¬ SpL f (bodyF ss (m ++ [b])) := fun z => by rw [e1 z] at h2; cases h2
    exact ⟨hn, e2 hn⟩
  refine ⟨fun m hm => ?_, E.nd, E.sh, E.g, E.sub _ h.nil, E.l1, E.srt, fun t ht => ?_, fun m hm => ?_⟩
  · rcases Nat.lt_or_ge m.length (n + 1) with c | c
    · exact h.a m (by omega)
    · obtain ⟨m', b, rfl, h1⟩ := cut m (by omega)
      exact (unsp m' b h1).1
  · rcases E.new t ht with h1 | h1
    · exact .inr (old t h1)
    · exact .inl h1
  · obtain ⟨m', b, rfl, h1⟩ := cut m hm
    obtain ⟨u, h2, h3, h4⟩ := step m' b h1
    rw [(unsp m' b h1).2] at h3
    have eu := Option.some.inj h3
    rw [eu]
    rcases h4 with h4 | h4
    · exact .inl (old u h4)
    · exact .inr h4
/-- m is the first spoiled message -/
def FirstSp (ss : List Stf) (f m : List Bool) : Prop := SpL f (bodyF ss m) ∧ ∀ m', (m'.length < m.length ∨ (m'.length = m.length ∧ num m' < num m)) → ¬ SpL f (bodyF ss m')
theorem WkE.bad {ss : List Stf} {f : List Bool} {w n : Nat} (o : OkN 39 ss) (hf : f ≠ []) (hw : f.length ≤ w + 1) (hL : ∀ s ∈ ss, s.1.length ≤ w + 1) {k0 kn : List (List Bool)} {ly lt : List (List Bool × List Bool)} (h : WkL ss f w n k0 ly) {i : Nat} {c : Bool} (E : WkE ss f w n k0 ly i c kn lt) {p : List Bool × List Bool} (hp : ly[i]? = some p)
    (hu : edge ss f w p.2 c = none) : FirstSp ss f (p.1 ++ [c]) := by
  have hpm := List.mem_of_getElem? hp
  obtain ⟨p1, p2, p3⟩ := h.l1 p hpm
  obtain ⟨_, e1, e2⟩ := edge_at o hf hw hL (h.a p.1 (by omega)) c
  rw [← p2] at e2
  refine ⟨?_, fun m' hm' => ?_⟩
  · by_cases z : SpL f (bodyF ss (p.1 ++ [c]))
    · exact z
    · rw [e2 z] at hu; cases hu
  · rw [List.length_append, p1] at hm'
    simp only [List.length_cons, List.length_nil] at hm'
    rcases hm' with h1 | ⟨h1, h2⟩
    · exact h.a m' (by omega)
    · have : ∃ v b, m' = v ++ [b] ∧ v.length = n := by
        rcases List.eq_nil_or_concat m' with z | ⟨v, b, z⟩
        · rw [z] at h1; simp at h1
        · rw [List.concat_eq_append] at z
          exact ⟨v, b, z, by rw [z, List.length_append] at h1; simpa using h1⟩
      obtain ⟨v, b, rfl, hv⟩ := this
      obtain ⟨_, f1, f2⟩ := edge_at o hf hw hL (h.a v (by omega)) b
      intro z
      have hz := f1 z
      rcases h.e v hv with h3 | ⟨q, h3, h4, h5⟩
      · obtain ⟨u, _, h6⟩ := h3 b
        rw [hz] at h6; cases h6
      · have hd : Dn ly i c q b := by
          obtain ⟨j, hj⟩ := List.getElem?_of_mem h3
          rcases Nat.lt_trichotomy j i with c1 | c1 | c1
          · exact .inl (List.mem_of_getElem? (i := j) (by rw [List.getElem?_take, if_pos c1]; exact hj))
          · subst c1
            rw [hp] at hj
            have eq := Option.some.inj hj
            subst eq
            rw [num_snoc, num_snoc] at h2
            cases c with
            | false =>
              exfalso
              simp only [Bool.false_eq_true, if_false] at h2
              split at h2 <;> omega
            | true =>
              cases b with
              | false => exact .inr ⟨rfl, hp, rfl⟩
              | true =>
                exfalso
                simp only [if_true] at h2
                omega
          · exfalso
            have hjl := (List.getElem?_eq_some_iff.mp hj).1
            have := List.pairwise_iff_getElem.mp h.srt i j (by omega) hjl c1
            rw [List.getElem?_eq_getElem (by omega)] at hp
            rw [List.getElem?_eq_getElem hjl] at hj
            rw [Option.some.inj hp, Option.some.inj hj] at this
            rw [num_snoc, num_snoc] at h2
            split at h2 <;> split at h2 <;> omega
        obtain ⟨u, _, h6, _⟩ := E.ed q b hd
        rw [h4, hz] at h6
        cases h6
/-- the standings of a clean rule -/
structure Paper (ss : List Stf) (f : List Bool) (w : Nat) (kn : List (List Bool)) : Prop where
  nd : kn.Nodup
  sh : ∀ t ∈ kn, t.length ≤ w
  nil : [] ∈ kn
  cl : ∀ t ∈ kn, ∀ b, ∃ u ∈ kn, edge ss f w t b = some u
  g : ∀ t ∈ kn, ∃ m, t = stand ss w m
theorem WkL.clean {ss : List Stf} {f : List Bool} {w n : Nat} (o : OkN 39 ss) (hf : f ≠ []) (hw : f.length ≤ w + 1) (hL : ∀ s ∈ ss, s.1.length ≤ w + 1) {kn : List (List Bool)} (h : WkL ss f w n kn []) : Paper ss f w kn ∧ ∀ m, ¬ SpL f (bodyF ss m) := by
  have cl : ∀ t ∈ kn, ∀ b, ∃ u ∈ kn, edge ss f w t b = some u := fun t ht => by
    rcases h.d t ht with ⟨p, h1, _⟩ | h1
    · cases h1
    · exact h1
  refine ⟨⟨h.nd, h.sh, h.nil, cl, fun t ht => by obtain ⟨m, _, e⟩ := h.g t ht; exact ⟨m, e⟩⟩, ?_⟩
  have all : ∀ k m, m.length = k → ¬ SpL f (bodyF ss m) ∧ stand ss w m ∈ kn := by
    intro k
    induction k with
    | zero =>
      intro m hm
      have : m = [] := List.length_eq_zero_iff.mp hm
      subst this
      exact ⟨h.a [] (Nat.zero_le _), by show tl w [] ∈ kn; rw [tl_nil]; exact h.nil⟩
    | succ k ih =>
      intro m hm
      rcases List.eq_nil_or_concat m with z | ⟨v, b, z⟩
      · rw [z] at hm; cases hm
      · rw [List.concat_eq_append] at z
        subst z
        obtain ⟨h1, h2⟩ := ih v (by rw [List.length_append] at hm; simpa using hm)
        obtain ⟨u, h3, h4⟩ := cl _ h2 b
        obtain ⟨_, e1, e2⟩ := edge_at o hf hw hL h1 b
        have hn : ¬ SpL f (bodyF ss (v ++ [b])) := fun z => by rw [e1 z] at h4; cases h4
        rw [e2 hn] at h4
        exact ⟨hn, by rw [Option.some.inj h4]; exact h3⟩
  exact fun m => (all m.length m rfl).1
theorem WkL.begin {ss : List Stf} {f : List Bool} {w : Nat} : WkL ss f w 0 [[]] [([], [])] := by
  have st0 : stand ss w [] = [] := tl_nil w
  have z0 : ∀ m : List Bool, m.length ≤ 0 → m = [] := fun m h => List.length_eq_zero_iff.mp (by omega)
  refine ⟨fun m hm => ?_, nodup1 _, fun t ht => by rw [List.mem_singleton.mp ht]; exact Nat.zero_le _, fun t ht => ⟨[], Nat.le_refl _, by rw [List.mem_singleton.mp ht, st0]⟩, List.mem_singleton.mpr rfl, fun p hp => by rw [List.mem_singleton.mp hp]; exact ⟨rfl, st0.symm, List.mem_singleton.mpr rfl⟩, List.pairwise_singleton _ _, fun t ht => .inl ⟨_, List.mem_singleton.mpr rfl, (List.mem_singleton.mp ht).symm⟩, fun m hm => .inr ⟨_, List.mem_singleton.mpr rfl, ?_, ?_⟩⟩
  · rw [z0 m hm]
    rintro ⟨i, hi, _⟩
    exact absurd hi (Nat.not_lt_zero _)
  · rw [z0 m (by omega)]; exact st0.symm
  · rw [z0 m (by omega)]; exact Nat.le_refl _
end U

set_option maxRecDepth 100000
set_option maxHeartbeats 4000000
namespace U
open PySem PySem.Spec PyProof.Rows
open L2 hiding Fun CX0 E0 pass0 Fun.binds
open C8 Lx SX
/-- _law_word(box, few, many) -/
def spWordF : Sp := fun vs H Q _ => ∃ (b : Addr) (few many : Nat), vs = [.ref b, .int few, .int many] ∧ Box H b ∧ few ≤ many ∧ many < 1000 ∧
  ∀ (l : List Bool) H', few ≤ l.length → l.length ≤ many → Up b H H' → Q (.str (W l)) H'
section
variable {P : Program} {w : World} {K : PySem.W.Frag} {mg : Str → Option Value} {base : Heap}
theorem sc_l_word : FnScope ["_law_box", "_law_few", "_law_many", "_law_turn"] ["_law_box", "_law_few", "_law_many"] (fnScope s_l_word) := fnScope_by (by decide +kernel)
theorem cal_l_word {f : Addr} {fd : FuncData} (F : Def K mg "_law_word" s_l_word f fd) (b : Binds K fd ["_law_box", "_law_few", "_law_many"] []) (T : Tx mg)
    (c_l_choose : Cal P w K mg base 1 "_law_choose" spChoose []) (c_l_one_of : Cal P w K mg base 2 "_law_one_of" spOneOf []) : Cal P w K mg base 3 "_law_word" spWordF [] := by
  refine cal0 F b .nil sc_l_word (fun vs H Q E h => ?_) (fun cdv A outer s H vs Q E hr h => ?_)
  · obtain ⟨_, _, _, rfl, _⟩ := h; rfl
  · obtain ⟨bx, few, many, rfl, hb, h1, h2, k⟩ := h
    refine ⟨_, (pss_one (ps_ret (pe_join pe_str (pe_lc (own := [("_law_turn", 3)]) (g := gName 3) (by rfl) sc_l_word.nd (pi_range1 (by rfl) T.b_range (pa_cons (pe_op op_add (pv 1) (pe_c c_l_choose hr (by decide) rfl (pa_cons (pv 0) (pa_cons (pe_op op_add (pe_op op_sub (pv 2) (pv 1)) pe_int) pa_nil)))) pa_nil)) (blkOk_by (own := [("_law_turn", 3)]) (N := ["_law_box", "_law_few", "_law_many", "_law_turn"]) (sc := fnScope s_l_word) (by decide +kernel)) (fun _ _ _ _ _ => (pg_name (i := 3) sc_l_word.nd rfl (.inl rfl))) (fun _ _ _ _ _ => pts_nil) (fun _ _ _ _ _ => (pe_c c_l_one_of hr (by decide) rfl (pa_cons (pv 0) (pa_cons (pe_lst (pa_cons pe_str (pa_cons pe_str pa_nil))) pa_nil)))))))), ?_⟩
    refine ⟨⟨_, rfl⟩, ?_⟩
    refine ⟨_, rfl, _, rfl, _, rfl, _, rfl, _, _, rfl, rfl, _, _, rfl, rfl, bx, _, rfl, hb, (by omega), (by omega), fun d H1 d0 d1 u1 => ?_⟩
    refine ⟨_, _, rfl, rfl, _, rfl, by omega, by omega, fun D nD => ?_⟩
    have nb : D ≠ bx := u1.2.ne nD
    refine lc_it (walk_range (lo := 0) (n := ((few : Int) + d).toNat)) (fun i H2 => ∃ l : List Bool, l.length = i ∧ Up bx H H2 ∧ H2 D = some (.lst (bitsV l)))
      ⟨[], rfl, u1.mut (u1.free nD) nb, upd_same⟩ (fun _ _ _ _ => trivial) ?_ ?_
    · rintro i x H2 H3 hi ⟨l, rfl, u2, hD⟩ ⟨rfl, rfl⟩
      refine ⟨rfl, ?_⟩
      refine ⟨_, rfl, by show 2 ≤ sizeLine; decide, fun p hp => ?_⟩
      have np : p ≠ bx := u2.2.ne hp
      refine ⟨bx, p, _, rfl, u2.2.same (same_upd hp), upd_same, np, by decide, by decide, fun v H4 hv u4 => ?_⟩
      obtain ⟨b, rfl⟩ := mem2 hv
      have hD4 : H4 D = some (.lst (bitsV l)) := u4.1 _ _ (same_upd hp _ _ hD) nb
      refine ⟨_, hD4, ?_, l ++ [b], by simp, ?_, ?_⟩
      · unfold bitsV; rw [List.length_map, List.length_map]; exact sl_lt (by omega)
      · exact ((u2.same (same_upd hp)).trans u4).mut (u1.free nD) nb
      · rw [upd_same]; unfold bitsV; simp
    · rintro H2 ⟨l, hl, u2, hD⟩
      refine ⟨_, D, l.map fun b => W [b], rfl, rfl, .inl (SqL.of hD), ?_, ?_⟩
      · rw [lens_bits]
        have e0 : ("" : Str).length = 0 := by decide +kernel
        rw [e0]; omega
      · show Q (.str (Txt.join "" (l.map fun b => W [b]))) H2
        rw [join_bits]
        exact k l H2 (by omega) (by omega) u2
end
end U


set_option maxRecDepth 100000
set_option maxHeartbeats 4000000
namespace U
open PySem PySem.Spec PyProof.Rows
open L2 hiding Fun CX0 E0 pass0 Fun.binds
open C8 Lx SX StX
/-- a rule as the law tells it -/
def Told (H : Hp) (t : Addr) (f : List Bool) (ss : List Stf) : Prop := ∃ l ps kb, H t = some (.tup [.str (W f), .ref l]) ∧ H l = some (.lst (ps.map V.ref)) ∧ StV H kb ps ∧ ss = ps.map kb
theorem Told.same {H H' : Hp} {t : Addr} {f : List Bool} {ss : List Stf} (h : Told H t f ss) (e : Same H H') : Told H' t f ss := by
  obtain ⟨l, ps, kb, h1, h2, h3, h4⟩ := h
  exact ⟨l, ps, kb, e _ _ h1, e _ _ h2, h3.same e, h4⟩
theorem refs_ne {ps : List Addr} {i j : Int} : ps.map V.ref ≠ [.int i, .int j] := fun z => by
  cases ps with
  | nil => cases z
  | cons p r => cases (List.cons.inj z).1
theorem Box.neL {H : Hp} {b l : Addr} {ps : List Addr} (hb : Box H b) (h : H l = some (.lst (ps.map V.ref))) : l ≠ b := fun z => by
  obtain ⟨i, j, hb⟩ := hb
  rw [z, hb] at h
  exact refs_ne (HO.lst.inj (Option.some.inj h)).symm
theorem Told.up {b : Addr} {H H' : Hp} {t : Addr} {f : List Bool} {ss : List Stf} (hb : Box H b) (h : Told H t f ss) (e : Up b H H') : Told H' t f ss := by
  obtain ⟨l, ps, kb, h1, h2, h3, h4⟩ := h
  exact ⟨l, ps, kb, e.1 _ _ h1 (hb.neT h1), e.1 _ _ h2 (hb.neL h2), fun t ht => e.1 _ _ (h3 t ht) (hb.neT (h3 t ht)), h4⟩
theorem RuAt.up {C b : Addr} {H H' : Hp} {a : Addr} {f : List Bool} {ss : List Stf} (hb : Box H b) (h : RuAt C H a f ss) (e : Up b H H') : RuAt C H' a f ss := h.nl (e.nl hb)
def putL (ss : List Stf) (l : List Bool) : List Bool := match putM ss l with
  | none => []
  | some b => [b]
theorem putL_len (ss : List Stf) (l : List Bool) : (putL ss l).length ≤ 1 := by unfold putL; cases putM ss l <;> simp
theorem stP_eq (ss : List Stf) (l : List Bool) : stP ss l = l ++ putL ss l := by
  unfold stP putL
  cases putM ss l with
  | none => rw [List.append_nil]
  | some b => rfl
theorem putL_head {ss : List Stf} {l : List Bool} : putM ss l = ((ss.filter fun s => s.1.isSuffixOf l).map (·.2)).head? := by
  unfold putM
  rw [List.head?_map, List.head?_filter]
def dS (x : List Bool) : PyData := .str (W x)
theorem dp_strs {K : PySem.W.Frag} {H : Hp} : ∀ xs : List (List Bool), DpAll K H (xs.map fun x => V.str (W x)) (xs.map dS)
  | [] => .nil
  | x :: r => .cons (.str _) (dp_strs r)
theorem strOk_W (x : List Bool) : PyData.strOk (W x) = true := by
  unfold PyData.strOk
  simp only [W, S, List.all_toArray, List.all_map, List.all_eq_true]
  intro b _
  cases b <;> decide +kernel
/-- data that can be compared -/
def DOk (n : Nat) (d : PyData) : Prop := PyData.canLay0 d = true ∧ PyData.depth d ≤ n
theorem dok_str (x : List Bool) : DOk 0 (.str (W x)) := ⟨strOk_W x, Nat.le_refl _⟩
theorem dok_all {n : Nat} : ∀ {ds : List PyData}, (∀ d ∈ ds, DOk n d) → PyData.canLayAll0 ds = true ∧ PyData.depthAll ds ≤ n
  | [], _ => ⟨rfl, Nat.zero_le _⟩
  | d :: r, h => by
    have h1 := h d List.mem_cons_self
    have h2 := dok_all (ds := r) fun d hd => h d (List.mem_cons_of_mem _ hd)
    refine ⟨?_, ?_⟩
    · show (PyData.canLay0 d && PyData.canLayAll0 r) = true
      rw [h1.1, h2.1]; rfl
    · show max (PyData.depth d) (PyData.depthAll r) ≤ n
      have := h1.2; have := h2.2; omega
theorem dok_list {n : Nat} {ds : List PyData} (h : ∀ d ∈ ds, DOk n d) : DOk (n + 1) (.list ds) := ⟨(dok_all h).1, Nat.succ_le_succ (dok_all h).2⟩
theorem dok_tup {n : Nat} {ds : List PyData} (h : ∀ d ∈ ds, DOk n d) : DOk (n + 1) (.tuple ds) := ⟨(dok_all h).1, Nat.succ_le_succ (dok_all h).2⟩
theorem DOk.shaped {n : Nat} {d : PyData} (h : DOk n d) (hn : n ≤ 64) : SeqAt.shaped d = true := by
  unfold SeqAt.shaped
  rw [h.1, decide_eq_true (Nat.le_trans h.2 hn)]
  rfl
theorem shaped_strs (xs : List (List Bool)) : SeqAt.shaped (.list (xs.map dS)) = true := (dok_list (n := 0) fun d hd => by
  obtain ⟨x, _, rfl⟩ := List.mem_map.mp hd
  exact dok_str x).shaped (by decide)
theorem shaped_nil : SeqAt.shaped (.list []) = true := by decide +kernel
theorem eqv_nil (ds : List PyData) : PyData.eqv (.list ds) (.list []) = ds.isEmpty := by cases ds <;> rfl
end U

set_option maxRecDepth 100000
set_option maxHeartbeats 4000000
namespace U
open PySem PySem.Spec PyProof.Rows
open L2 hiding Fun CX0 E0 pass0 Fun.binds
open C8 Lx SX StX
def spLPut : Sp := fun vs H Q _ => ∃ (t : Addr) (f l : List Bool) (ss : List Stf), vs = [.ref t, .str (W l)] ∧ Told H t f ss ∧ l.length ≤ 50000 ∧ ss.length ≤ 1000 ∧ (∀ s ∈ ss, s.1.length ≤ 1000) ∧ ∀ H', Same H H' → Q (.str (W (putL ss l))) H'
def spIsRule : Sp := fun vs H Q _ => ∃ (t : Addr) (f : List Bool) (ss : List Stf), vs = [.ref t] ∧ Told H t f ss ∧ ss.length ≤ 1000 ∧ (∀ s ∈ ss, s.1.length ≤ 5) ∧ ∀ r H', Same H H' → (r = true → SufFree ss ∧ OkS ss) → Q (.bl r) H'
/-- closed so far -/
def Cls1 (ss : List Stf) (kn : List (List Bool)) (w : List Bool) (b : Bool) : Prop := (itP ss 24 (w ++ [b])).length ≤ w.length + 20 ∧ tl 5 (itP ss 24 (w ++ [b])) ∈ kn
theorem Cls1.more {ss : List Stf} {kn : List (List Bool)} {w u : List Bool} {b : Bool} (h : Cls1 ss kn w b) : Cls1 ss (kn ++ [u]) w b := ⟨h.1, List.mem_append_left _ h.2⟩
structure Dfs (ss : List Stf) (H H2 : Hp) (q d : Addr) (kn wt : List (List Bool)) : Prop where
  same : Same H H2
  wait : H2 q = some (.lst (wt.map fun w => V.str (W w)))
  known : H2 d = some (.dK (kst kn))
  nodup : kn.Nodup
  short : ∀ w ∈ kn, w.length ≤ 5
  sub : ∀ w ∈ wt, w ∈ kn
  nil : [] ∈ kn
  le : wt.length ≤ kn.length
theorem Dfs.on {ss : List Stf} {H H2 H3 : Hp} {q d : Addr} {kn wt : List (List Bool)} (b : Dfs ss H H2 q d kn wt) (s : Same H2 H3) : Dfs ss H H3 q d kn wt :=
  ⟨b.same.trans s, s _ _ b.wait, s _ _ b.known, b.nodup, b.short, b.sub, b.nil, b.le⟩
theorem Dfs.few {ss : List Stf} {H H2 : Hp} {q d : Addr} {kn wt : List (List Bool)} (b : Dfs ss H H2 q d kn wt) : kn.length ≤ 63 := by
  have := words_le b.nodup b.short
  have e : (2 : Nat) ^ (5 + 1) = 64 := by decide
  omega
theorem sufFree_of {ss : List Stf} (h : ∀ (i j : Nat) (a b : Stf), i ≠ j → ss[i]? = some a → ss[j]? = some b → b.1.isSuffixOf a.1 = false) : SufFree ss := by
  unfold SufFree
  rw [List.pairwise_iff_getElem]
  intro i j hi hj hij
  have e1 := h i j _ _ (by omega) (List.getElem?_eq_getElem hi) (List.getElem?_eq_getElem hj)
  have e2 := h j i _ _ (by omega) (List.getElem?_eq_getElem hj) (List.getElem?_eq_getElem hi)
  refine ⟨fun z => ?_, fun z => ?_⟩
  · rw [List.isSuffixOf_iff_suffix.mpr z] at e2; cases e2
  · rw [List.isSuffixOf_iff_suffix.mpr z] at e1; cases e1
section
variable {P : Program} {w : World} {K : PySem.W.Frag} {mg : Str → Option Value} {base : Heap}
theorem sc_l_put : FnScope ["_law_rule_here", "_law_line", "_law_some", "_law_pattern", "_law_bit"] ["_law_rule_here", "_law_line"] (fnScope s_l_put) := fnScope_by (by decide +kernel)
theorem cal_l_put {f : Addr} {fd : FuncData} (F : Def K mg "_law_put" s_l_put f fd) (b : Binds K fd ["_law_rule_here", "_law_line"] []) (T : Tx mg) : Cal P w K mg base 1 "_law_put" spLPut [] := by
  refine cal0 F b .nil sc_l_put (fun vs H Q E h => ?_) (fun cdv A outer s H vs Q E hr h => ?_)
  · obtain ⟨_, _, _, _, rfl, _⟩ := h; rfl
  · obtain ⟨t, fl, l, ss, rfl, ⟨r, ps, kb, ht, hl, hs, rfl⟩, h1, h2, h3, k⟩ := h
    refine ⟨_, (pss_cons (ps_setLc (i := 2) (own := [("_law_pattern", 3), ("_law_bit", 4)]) (g := gTup K 2 (gCons (gName 3) (gCons (gName 4) gNil))) (by rfl) sc_l_put.nd rfl rfl (sw_true rfl rfl rfl (by decide +kernel)) (pi_list (pe_ix ix_tup (pv 0) pe_int (fun _ _ => rfl))) (blkOk_by (own := [("_law_pattern", 3), ("_law_bit", 4)]) (N := ["_law_rule_here", "_law_line", "_law_some", "_law_pattern", "_law_bit"]) (sc := fnScope s_l_put) (by decide +kernel)) (fun _ _ _ _ _ => (pg_tup rfl (pgs_cons (pg_name (i := 3) sc_l_put.nd rfl (.inl rfl)) (pgs_cons (pg_name (i := 4) sc_l_put.nd rfl (.inl rfl)) pgs_nil)))) (fun _ _ _ _ _ => (pts_one (pt_cmpR op_eq (pe_slice sl_txt (pv 1) (po_some (pe_callB (call_max2 rfl) (by rfl) T.b_max (by decide +kernel) (pa_cons pe_int (pa_cons (pe_op op_sub (pe_callB call_len_str (by rfl) T.b_len (by decide +kernel) (pa_cons (pv 1) pa_nil)) (pe_callB call_len_str (by rfl) T.b_len (by decide +kernel) (pa_cons (pv 3) pa_nil))) pa_nil)))) po_none) (pv 3) (nomark _)))) (fun _ _ _ _ _ => (pv 4)))
    (pss_one (ps_ret (pe_ifExp (pt_cmpR (op_neD hr.units) (pv 2) (pe_lst pa_nil) (nomark _)) (pe_ix ix_list (pv 2) pe_int (fun _ _ => rfl)) pe_str)))), ?_⟩
    have lw : (W l).length ≤ sizeLine := by rw [W_len]; exact sl_len (by omega)
    refine ⟨_, rfl, t, _, 1, _, rfl, rfl, SqT.of ht, rfl, r, rfl, ⟨_, SqL.of hl⟩, fun D nD => ?_⟩
    refine lc_it (walk_list (xs := ps.map V.ref)) (fun i H2 => Same H H2 ∧ H2 D = some (.lst (((((ps.take i).map kb).filter fun s => s.1.isSuffixOf l).map fun s => [s.2]).map fun x => V.str (W x)))) ⟨same_upd nD, upd_same⟩ (fun i H2 _ h2 => h2.1.seq (SqL.of hl)) ?_ ?_
    · rintro i x H2 H3 hi ⟨s2, hD⟩ ⟨rfl, hx⟩
      rw [List.getElem?_map] at hx
      obtain ⟨q, hq, rfl⟩ := Option.map_eq_some_iff.mp hx
      have hqm : q ∈ ps := List.mem_of_getElem? hq
      have lq : (W (kb q).1).length ≤ sizeLine := by rw [W_len]; exact sl_len (Nat.le_trans (h3 _ (List.mem_map_of_mem hqm)) (by decide))
      refine ⟨q, _, rfl, SqT.of (s2 _ _ (hs q hqm)), rfl, _, _, rfl, _, _, rfl, rfl, rfl, ?_⟩
      refine ⟨_, rfl, _, rfl, _, rfl, lw, _, rfl, _, rfl, lq, _, _, rfl, rfl, _, _, rfl, _, rfl, _, rfl, lw, _, rfl, rfl, _, rfl, ?_⟩
      rw [W_tail, W_len (kb q).1]
      have et : (ps.take (i + 1)).map kb = (ps.take i).map kb ++ [kb q] := by rw [List.take_add_one, hq, List.map_append]; rfl
      by_cases c : (kb q).1.isSuffixOf l = true
      · refine iteDT (by rw [← suf_iff.mp c]) ?_
        refine ⟨_, rfl, _, hD, ?_, ?_, ?_⟩
        · rw [List.length_map, List.length_map]
          refine sl_lt (Nat.lt_of_le_of_lt (List.length_filter_le _ _) ?_)
          rw [List.length_map, List.length_take]
          rw [List.length_map] at h2
          omega
        · intro c' o e
          rw [upd_ne (ne_of_none e nD)]
          exact s2 _ _ e
        · rw [upd_same, et, List.filter_append, List.map_append, List.map_append, List.filter_cons_of_pos (p := fun s : Stf => s.1.isSuffixOf l) c]
          rfl
      · refine iteDF (fun z => c (suf_iff.mpr (W_inj (V.str.inj z)).symm)) ?_
        refine ⟨s2, ?_⟩
        rw [hD, et, List.filter_append, List.filter_cons_of_neg (p := fun s : Stf => s.1.isSuffixOf l) c, List.filter_nil, List.append_nil]
    · rintro H2 ⟨s2, hD⟩
      rw [List.length_map, List.take_length] at hD
      refine ⟨_, rfl, Nat.zero_le _, fun p hp => ?_⟩
      have hp2 := putL_head (ss := ps.map kb) (l := l)
      have hD2 : upd H2 p (.lst []) D = some (.lst ((((ps.map kb).filter fun s => s.1.isSuffixOf l).map fun s => [s.2]).map fun x => V.str (W x))) := same_upd hp _ _ hD
      have s3 := s2.trans (same_upd (o := .lst []) hp)
      refine ⟨.list ((((ps.map kb).filter fun s => s.1.isSuffixOf l).map fun s => [s.2]).map dS), .list [], .lst (SqL.of hD2) (dp_strs _), .lst (SqL.of upd_same) .nil, shaped_strs _, shaped_nil, _, rfl, ?_⟩
      rw [eqv_nil]
      have k3 := k _ s3
      unfold putL at k3
      rw [hp2] at k3
      generalize (ps.map kb).filter (fun s => s.1.isSuffixOf l) = fs at hD2 k3
      cases fs with
      | nil =>
        show Q (.str "") _
        rw [W_nil]
        exact k3
      | cons x r =>
        exact ⟨_, rfl, D, _, 0, .str (W [x.2]), rfl, rfl, SqL.of hD2, atI_nat (j := 0) rfl, k3⟩
end
end U

set_option maxRecDepth 100000
set_option maxHeartbeats 4000000
namespace U
open PySem PySem.Spec PyProof.Rows
open L2 hiding Fun CX0 E0 pass0 Fun.binds
open C8 Lx SX StX
theorem W_tail5 (l : List Bool) : Txt.slice (W l) (some (if (((W l).length : Nat) : Int) - 5 > 0 then (((W l).length : Nat) : Int) - 5 else 0)) none = W (tl 5 l) := W_tail l 5
theorem pop_end {wt : List (List Bool)} {w : List Bool} : ((wt ++ [w]).map fun w => V.str (W w))[((wt ++ [w]).map fun w => V.str (W w)).length - 1]? = some (.str (W w)) := by
  rw [List.length_map, List.length_append, List.getElem?_map, List.length_cons, List.length_nil, List.getElem?_append_right (by omega), show wt.length + (0 + 1) - 1 - wt.length = 0 by omega]
  rfl
theorem pop_rest {wt : List (List Bool)} {w : List Bool} : ((wt ++ [w]).map fun w => V.str (W w)).dropLast = wt.map fun w => V.str (W w) := by
  rw [List.map_append]
  exact List.dropLast_concat
section
variable {P : Program} {w : World} {K : PySem.W.Frag} {mg : Str → Option Value} {base : Heap}
theorem sc_l_is_rule : FnScope ["_law_rule_here", "_law_names", "_law_pattern", "_law_bit", "_law_at", "_law_one", "_law_spot", "_law_other_one", "_law_known", "_law_waiting", "_law_behind", "_law_line", "_law_turn", "_law_due", "_law_there"] ["_law_rule_here"] (fnScope s_l_is_rule) := fnScope_by (by decide +kernel)
theorem cal_l_is_rule {f : Addr} {fd : FuncData} (F : Def K mg "_law_is_rule" s_l_is_rule f fd) (b : Binds K fd ["_law_rule_here"] []) (T : Tx mg) (c_l_put : Cal P w K mg base 1 "_law_put" spLPut []) : Cal P w K mg base 2 "_law_is_rule" spIsRule [] := by
  refine cal0 F b .nil sc_l_is_rule (fun vs H Q E h => ?_) (fun cdv A outer s H vs Q E hr h => ?_)
  · obtain ⟨_, _, _, rfl, _⟩ := h; rfl
  · obtain ⟨t, fl, ss, rfl, htold, h2, h3, k⟩ := h
    refine ⟨_, (pss_cons (ps_setLc (i := 1) (own := [("_law_pattern", 2), ("_law_bit", 3)]) (g := gTup K 2 (gCons (gName 2) (gCons (gName 3) gNil))) (by rfl) sc_l_is_rule.nd rfl rfl (sw_true rfl rfl rfl (by decide +kernel)) (pi_list (pe_ix ix_tup (pv 0) pe_int (fun _ _ => rfl))) (blkOk_by (own := [("_law_pattern", 2), ("_law_bit", 3)]) (N := ["_law_rule_here", "_law_names", "_law_pattern", "_law_bit", "_law_at", "_law_one", "_law_spot", "_law_other_one", "_law_known", "_law_waiting", "_law_behind", "_law_line", "_law_turn", "_law_due", "_law_there"]) (sc := fnScope s_l_is_rule) (by decide +kernel)) (fun _ _ _ _ _ => (pg_tup rfl (pgs_cons (pg_name (i := 2) sc_l_is_rule.nd rfl (.inl rfl)) (pgs_cons (pg_name (i := 3) sc_l_is_rule.nd rfl (.inl rfl)) pgs_nil)))) (fun _ _ _ _ _ => pts_nil) (fun _ _ _ _ _ => (pv 2)))
    (pss_cons (ps_for PassesOwn.never rfl (pi_enum (by rfl) T.b_enumerate (pa_cons (pv 1) pa_nil)) (pg_tup rfl (pgs_cons (pg_name (i := 4) sc_l_is_rule.nd rfl (.inl rfl)) (pgs_cons (pg_name (i := 5) sc_l_is_rule.nd rfl (.inl rfl)) pgs_nil)))
    (pss_one (ps_for PassesOwn.never rfl (pi_enum (by rfl) T.b_enumerate (pa_cons (pv 1) pa_nil)) (pg_tup rfl (pgs_cons (pg_name (i := 6) sc_l_is_rule.nd rfl (.inl rfl)) (pgs_cons (pg_name (i := 7) sc_l_is_rule.nd rfl (.inl rfl)) pgs_nil)))
    (pss_one (ps_if (PW.pt (pw_and (pt_cmpR op_ne (pv 4) (pv 6) (nomark _)) (pw_and1 (pt_val (pe_m1 PySem.F.slot_str_endswith PySem.F.type_str_endswith mt_endswith (pv 5) (pv 7)))))) (pss_one (ps_ret pe_bl)) pss_nil)))))
    (pss_cons (ps_par (i := 8) (j := 9) (by rfl) sc_l_is_rule.nd rfl rfl (by decide) rfl rfl (pa_cons (pe_disp (pps_cons pe_str pe_bl pps_nil) (by rfl) (by rfl) (fun z => by cases z) (by decide)) (pa_cons (pe_lst (pa_cons pe_str pa_nil)) pa_nil)) (by rfl))
    (pss_cons (ps_while PassesOwn.never (pt_cmpR (op_neD hr.units) (pv 9) (pe_lst pa_nil) (nomark _))
    (pss_cons (ps_set (i := 10) sc_l_is_rule.nd rfl (.inl rfl) (pe_bm0 PySem.F.plainAttrs_list PySem.F.slot_list_pop PySem.F.type_list_pop mt_pop (pv 9)))
    (pss_one (ps_for PassesOwn.never rfl (pi_str pe_str) (pg_name (i := 3) sc_l_is_rule.nd rfl (.inl rfl))
    (pss_cons (ps_set (i := 11) sc_l_is_rule.nd rfl (.inl rfl) (pe_op op_add_str (pv 10) (pv 3)))
    (pss_cut (ps_for PassesOwn.never rfl (pi_range1 (by rfl) T.b_range (pa_cons pe_int pa_nil)) (pg_name (i := 12) sc_l_is_rule.nd rfl (.inl rfl))
    (pss_cons (ps_set (i := 13) sc_l_is_rule.nd rfl (.inl rfl) (pe_c c_l_put hr (by decide) rfl (pa_cons (pv 0) (pa_cons (pv 11) pa_nil))))
    (pss_cons (ps_if (pt_cmpR op_eq (pv 13) pe_str (nomark _)) (pss_one ps_break) pss_nil)
    (pss_one (ps_set (i := 11) sc_l_is_rule.nd rfl (.inl rfl) (pe_op op_add_str (pv 11) (pv 13)))))))
    (pss_cons (ps_if (pt_cmpR op_gt (pe_callB call_len_str (by rfl) T.b_len (by decide +kernel) (pa_cons (pv 11) pa_nil)) (pe_op op_add (pe_callB call_len_str (by rfl) T.b_len (by decide +kernel) (pa_cons (pv 10) pa_nil)) pe_int) (nomark _)) (pss_one (ps_ret pe_bl)) pss_nil)
    (pss_cons (ps_set (i := 14) sc_l_is_rule.nd rfl (.inl rfl) (pe_slice sl_txt (pv 11) (po_some (pe_callB (call_max2 rfl) (by rfl) T.b_max (by decide +kernel) (pa_cons pe_int (pa_cons (pe_op op_sub (pe_callB call_len_str (by rfl) T.b_len (by decide +kernel) (pa_cons (pv 11) pa_nil)) pe_int) pa_nil)))) po_none))
    (pss_one (ps_if (pt_cmp (pc_dnotin (hu_of hr) (pv 14) (pv 8))) (pss_cons (ps_dput (hu_of hr) (pv 8) (pv 14) pe_bl rfl)
    (pss_one (ps_expr (pe_bm PySem.F.plainAttrs_list PySem.F.slot_list_append PySem.F.type_list_append mt_append (pv 9) (pa_cons (pv 14) pa_nil))))) pss_nil))))))))))
    (pss_one (ps_ret pe_bl)))))), ?_⟩
    obtain ⟨r, ps, kb, ht, hl, hs, hss⟩ := id htold
    have lss : ss.length = ps.length := by rw [hss, List.length_map]
    refine ⟨_, rfl, t, _, 1, _, rfl, rfl, SqT.of ht, rfl, r, rfl, ⟨_, SqL.of hl⟩, fun D nD => ?_⟩
    refine lc_it (walk_list (xs := ps.map V.ref)) (fun i H2 => Same H H2 ∧ H2 D = some (.lst ((ss.take i).map fun s => V.str (W s.1)))) ⟨same_upd nD, upd_same⟩ (fun i H2 _ h2 => h2.1.seq (SqL.of hl)) ?_ ?_
    · rintro i x H2 H3 hi ⟨s2, hD⟩ ⟨rfl, hx⟩
      rw [List.getElem?_map] at hx
      obtain ⟨q, hq, rfl⟩ := Option.map_eq_some_iff.mp hx
      have hqm : q ∈ ps := List.mem_of_getElem? hq
      have hsi : ss[i]? = some (kb q) := by rw [hss, List.getElem?_map, hq]; rfl
      rw [List.length_map] at hi
      refine ⟨q, _, rfl, SqT.of (s2 _ _ (hs q hqm)), rfl, _, _, rfl, _, _, rfl, rfl, rfl, ?_⟩
      refine ⟨_, rfl, _, hD, ?_, ?_, ?_⟩
      · rw [List.length_map, List.length_take]; exact sl_lt (by omega)
      · intro c' o e
        rw [upd_ne (ne_of_none e nD)]
        exact s2 _ _ e
      · rw [upd_same, List.take_add_one, hsi, List.map_append]; rfl
    · rintro H2 ⟨s2, hD⟩
      rw [List.length_map, ← lss, List.take_length] at hD
      have at' : ∀ {i : Nat} {y : V}, (ss.map fun s => V.str (W s.1))[i]? = some y → ∃ a, ss[i]? = some a ∧ y = .str (W a.1) := fun {i y} h => by
        rw [List.getElem?_map] at h
        obtain ⟨a, ha, e⟩ := Option.map_eq_some_iff.mp h
        exact ⟨a, ha, e.symm⟩
      refine ⟨_, rfl, D, _, rfl, SqL.of hD, ?_⟩
      refine for_it walk_enum (fun i σ H3 => ∃ v2 v3 v4 v5 v6 v7 v8 v9 v10 v11 v12 v13 v14 : Option V, σ = [some (.ref t), some (.ref D), v2, v3, v4, v5, v6, v7, v8, v9, v10, v11, v12, v13, v14] ∧ Same H H3 ∧ H3 D = some (.lst (ss.map fun s => V.str (W s.1))) ∧ ∀ (i' j : Nat) (a b : Stf), i' < i → i' ≠ j → ss[i']? = some a → ss[j]? = some b → b.1.isSuffixOf a.1 = false)
        ⟨none, none, none, none, none, none, none, none, none, none, none, none, none, rfl, s2, hD, fun i' j a b h => absurd h (Nat.not_lt_zero _)⟩ (fun i σ H3 _ h3 => by obtain ⟨_, _, _, _, _, _, _, _, _, _, _, _, _, _, _, h, _⟩ := h3; exact SqL.of h) ?_ ?_
      · rintro i x σ H3 H3' hi ⟨v2, v3, v4, v5, v6, v7, v8, v9, v10, v11, v12, v13, v14, rfl, s3, hD3, hno⟩ ⟨T', y1, y2, rfl, nT, rfl, e1, e2⟩
        cases e1
        obtain ⟨a, ha, rfl⟩ := at' e2
        refine ⟨T', _, rfl, SqT.of upd_same, rfl, _, _, rfl, _, _, rfl, rfl, ?_⟩
        have s4 : Same H (upd H3 T' (.tup [.int (i : Nat), .str (W a.1)])) := s3.trans (same_upd nT)
        have hD4 : upd H3 T' (.tup [.int (i : Nat), .str (W a.1)]) D = some (.lst (ss.map fun s => V.str (W s.1))) := same_upd nT _ _ hD3
        generalize upd H3 T' (.tup [.int (i : Nat), .str (W a.1)]) = H4 at s4 hD4
        refine ⟨_, rfl, D, _, rfl, SqL.of hD4, ?_⟩
        refine for_it walk_enum (fun j σ H5 => ∃ v2 v3 v6 v7 v8 v9 v10 v11 v12 v13 v14 : Option V, σ = [some (.ref t), some (.ref D), v2, v3, some (.int (i : Nat)), some (.str (W a.1)), v6, v7, v8, v9, v10, v11, v12, v13, v14] ∧ Same H H5 ∧ H5 D = some (.lst (ss.map fun s => V.str (W s.1))) ∧ ∀ (j' : Nat) (b : Stf), j' < j → i ≠ j' → ss[j']? = some b → b.1.isSuffixOf a.1 = false)
          ⟨_, _, _, _, _, _, _, _, _, _, _, rfl, s4, hD4, fun j' b h => absurd h (Nat.not_lt_zero _)⟩ (fun i σ H3 _ h3 => by obtain ⟨_, _, _, _, _, _, _, _, _, _, _, _, _, h, _⟩ := h3; exact SqL.of h) ?_ ?_
        · rintro j x σ H5 H5' hj ⟨v2, v3, v6, v7, v8, v9, v10, v11, v12, v13, v14, rfl, s5, hD5, hno5⟩ ⟨T2, y1, y2, rfl, nT2, rfl, e1, e2⟩
          cases e1
          obtain ⟨b', hb', rfl⟩ := at' e2
          refine ⟨T2, _, rfl, SqT.of upd_same, rfl, _, _, rfl, _, _, rfl, rfl, ?_⟩
          have s6 : Same H (upd H5 T2 (.tup [.int (j : Nat), .str (W b'.1)])) := s5.trans (same_upd nT2)
          have hD6 : upd H5 T2 (.tup [.int (j : Nat), .str (W b'.1)]) D = some (.lst (ss.map fun s => V.str (W s.1))) := same_upd nT2 _ _ hD5
          generalize upd H5 T2 (.tup [.int (j : Nat), .str (W b'.1)]) = H6 at s6 hD6
          refine ⟨_, rfl, _, rfl, rfl, _, rfl, ?_⟩
          by_cases ij : i = j
          · refine iteNS (by rw [ij]) ?_
            refine ⟨_, _, _, _, _, _, _, _, _, _, _, rfl, s6, hD6, fun j' b hj' nij hb => ?_⟩
            exact hno5 j' b (by omega) nij hb
          · refine iteNT (fun z => ij (by have := V.int.inj z; omega)) ?_
            refine ⟨_, rfl, ⟨_, rfl⟩, _, rfl, _, _, rfl, rfl, _, rfl, ?_⟩
            rw [W_ends]
            cases ce : b'.1.isSuffixOf a.1 with
            | true => exact k false _ s6 (fun z => by cases z)
            | false =>
              refine ⟨_, _, _, _, _, _, _, _, _, _, _, rfl, s6, hD6, fun j' b hj' nij hb => ?_⟩
              by_cases ej : j' = j
              · subst ej
                rw [hb'] at hb
                cases hb
                exact ce
              · exact hno5 j' b (by omega) nij hb
        · rintro σ H5 ⟨v2, v3, v6, v7, v8, v9, v10, v11, v12, v13, v14, rfl, s5, hD5, hno5⟩
          refine ⟨_, _, _, _, _, _, _, _, _, _, _, _, _, rfl, s5, hD5, fun i' j a' b' hi' nij ha' hb' => ?_⟩
          by_cases ei : i' = i
          · subst ei
            rw [ha] at ha'
            cases ha'
            exact hno5 j b' (by rw [List.length_map]; exact (List.getElem?_eq_some_iff.mp hb').1) nij hb'
          · exact hno i' j a' b' (by omega) nij ha' hb'
      · rintro σ H3 ⟨v2, v3, v4, v5, v6, v7, v8, v9, v10, v11, v12, v13, v14, rfl, s3, hD3, hno⟩
        have hfree : SufFree ss := sufFree_of fun i j a b nij ha hb => hno i j a b (by rw [List.length_map]; exact (List.getElem?_eq_some_iff.mp ha).1) nij ha hb
        clear hno hD3 hD s2
        refine fun d nd => ⟨upd_same, [(.inr "", .bl true)], rfl, by decide, by show 1 ≤ sizeLine; decide, fun q nq => ⟨_, _, rfl, ?_⟩⟩
        have nqd : q ≠ d := fun z => by rw [z, upd_same] at nq; cases nq
        have nd0 : H d = none := s3.free nd
        have nq0 : H q = none := by
          cases e : H q with
          | none => rfl
          | some o => rw [upd_ne nqd, upd_ne nqd, s3 _ _ e] at nq; cases nq
        have b0 : Dfs ss H (upd (upd (upd H3 d (.dK [])) d (.dK (mergeK [] [(.inr "", .bl true)]))) q (.lst [.str ""])) q d [[]] [[]] := by
          refine ⟨fun c o e => ?_, ?_, ?_, by simp, ?_, fun w hw => hw, List.mem_cons_self, Nat.le_refl _⟩
          · have n1 := ne_of_none e nd0
            have n2 := ne_of_none e nq0
            rw [upd_ne n2, upd_ne n1, upd_ne n1]
            exact s3 _ _ e
          · rw [upd_same, W_nil]; rfl
          · rw [upd_ne (Ne.symm nqd), upd_same, W_nil]; rfl
          · intro w hw; rw [List.mem_singleton.mp hw]; exact Nat.zero_le _
        generalize upd (upd (upd H3 d (.dK [])) d (.dK (mergeK [] [(.inr "", .bl true)]))) q (.lst [.str ""]) = H4 at b0
        refine ⟨fun m σ H5 => ∃ (kn wt : List (List Bool)) (v2 v3 v4 v5 v6 v7 v10 v11 v12 v13 v14 : Option V), σ = [some (.ref t), some (.ref D), v2, v3, v4, v5, v6, v7, some (.ref d), some (.ref q), v10, v11, v12, v13, v14] ∧ Dfs ss H H5 q d kn wt ∧ (∀ w ∈ kn, w ∈ wt ∨ ∀ b, Cls1 ss kn w b) ∧ m = wt.length + 2 * (64 - kn.length),
          ⟨_, [[]], [[]], _, _, _, _, _, _, _, _, _, _, _, rfl, b0, fun w hw => .inl hw, rfl⟩, ?_⟩
        rintro m σ H5 ⟨kn, wt, v2, v3, v4, v5, v6, v7, v10, v11, v12, v13, v14, rfl, B5, hcl, rfl⟩
        refine ⟨_, rfl, Nat.zero_le _, fun p hp => ?_⟩
        have B6 := B5.on (same_upd (o := .lst []) hp)
        refine ⟨.list (wt.map dS), .list [], .lst (SqL.of B6.wait) (dp_strs _), .lst (SqL.of upd_same) .nil, shaped_strs _, shaped_nil, _, rfl, ?_⟩
        generalize upd H5 p (.lst []) = H6 at B6
        rw [eqv_nil]
        rcases List.eq_nil_or_concat wt with rfl | ⟨wt', w0, rfl⟩
        · refine k true H6 B6.same fun _ => ⟨hfree, okS_of kn h3 B6.nil fun w hw b => ?_⟩
          rcases hcl w hw with z | z
          · cases z
          · exact z b
        · rw [List.concat_eq_append] at *
          refine iteBT (by simp) ?_
          refine ⟨fun σ' H' => ∃ m', m' < (wt' ++ [w0]).length + 2 * (64 - kn.length) ∧ ∃ (kn wt : List (List Bool)) (v2 v3 v4 v5 v6 v7 v10 v11 v12 v13 v14 : Option V), σ' = [some (.ref t), some (.ref D), v2, v3, v4, v5, v6, v7, some (.ref d), some (.ref q), v10, v11, v12, v13, v14] ∧ Dfs ss H H' q d kn wt ∧ (∀ w ∈ kn, w ∈ wt ∨ ∀ b, Cls1 ss kn w b) ∧ m' = wt.length + 2 * (64 - kn.length), fun _ _ h => h, ?_⟩
          refine ⟨_, rfl, .inl ⟨rfl, _, SqL.of B6.wait⟩, q, _, .str (W w0), rfl, rfl, B6.wait, pop_end, ?_⟩
          rw [pop_rest]
          have w0k : w0 ∈ kn := B6.sub _ (List.mem_append_right _ List.mem_cons_self)
          have l0 : w0.length ≤ 5 := B6.short _ w0k
          have B7 : Dfs ss H (upd H6 q (.lst (wt'.map fun w => V.str (W w)))) q d kn wt' := by
            refine ⟨fun c o e => ?_, upd_same, ?_, B6.nodup, B6.short, fun w hw => B6.sub w (List.mem_append_left _ hw), B6.nil, by have := B6.le; rw [List.length_append] at this; omega⟩
            · rw [upd_ne (ne_of_none e nq0)]; exact B6.same _ _ e
            · rw [upd_ne (Ne.symm nqd)]; exact B6.known
          generalize upd H6 q (.lst (wt'.map fun w => V.str (W w))) = H7 at B7
          have hm0 : wt'.length + 2 * (64 - kn.length) < (wt' ++ [w0]).length + 2 * (64 - kn.length) := by rw [List.length_append, List.length_cons, List.length_nil]; omega
          have hcl7 : ∀ u ∈ kn, u ∈ wt' ∨ u = w0 ∨ ∀ b, Cls1 ss kn u b := fun u hu => by
            rcases hcl u hu with z | z
            · rcases List.mem_append.mp z with z | z
              · exact .inl z
              · exact .inr (.inl (List.mem_singleton.mp z))
            · exact .inr (.inr z)
          generalize (wt' ++ [w0]).length + 2 * (64 - kn.length) = m at hm0 ⊢
          refine ⟨_, rfl, for_it walk_str (fun i σ H8 => ∃ (kn wt : List (List Bool)) (v2 v3 v4 v5 v6 v7 v11 v12 v13 v14 : Option V), σ = [some (.ref t), some (.ref D), v2, v3, v4, v5, v6, v7, some (.ref d), some (.ref q), some (.str (W w0)), v11, v12, v13, v14] ∧ Dfs ss H H8 q d kn wt ∧ w0 ∈ kn ∧ (∀ u ∈ kn, u ∈ wt ∨ u = w0 ∨ ∀ b, Cls1 ss kn u b) ∧ (∀ (j : Nat) (b : Bool), j < i → [false, true][j]? = some b → Cls1 ss kn w0 b) ∧ wt.length + 2 * (64 - kn.length) < m)
            ⟨kn, wt', _, _, _, _, _, _, _, _, _, _, rfl, B7, w0k, hcl7, fun j b h => absurd h (Nat.not_lt_zero _), hm0⟩ (fun _ _ _ _ _ => trivial) ?_ ?_⟩
          · clear hcl7 B7 B6 B5 hm0 w0k hcl
            rintro i x σ H8 H8' hi ⟨kn, wt, v2, v3, v4, v5, v6, v7, v11, v12, v13, v14, rfl, B8, w0k, hcl8, hbits, hm8⟩ ⟨rfl, c, hc, rfl⟩
            have e01 : ("01" : Str) = W [false, true] := by decide +kernel
            rw [e01] at hc
            obtain ⟨bb, hbb, rfl⟩ := W_get hc
            have ew : W w0 ++ (⟨#[bt bb]⟩ : Str) = W (w0 ++ [bb]) := W_cat w0 [bb]
            have el : (W w0).length + (⟨#[bt bb]⟩ : Str).length ≤ sizeLine := by
              have e1 : (W w0).length = w0.length := W_len _
              have e2 : (⟨#[bt bb]⟩ : Str).length = 1 := W_len [bb]
              rw [e1, e2]; exact sl_len (by omega)
            refine ⟨_, rfl, _, rfl, _, _, rfl, rfl, el, ?_⟩
            rw [ew]
            have hll : (w0 ++ [bb]).length ≤ 6 := by rw [List.length_append, List.length_cons, List.length_nil]; omega
            refine ⟨fun σ' H9 => ∃ (v12 v13 v14 : Option V), σ' = [some (.ref t), some (.ref D), v2, some (.str ⟨#[bt bb]⟩), v4, v5, v6, v7, some (.ref d), some (.ref q), some (.str (W w0)), some (.str (W (itP ss 24 (w0 ++ [bb])))), v12, v13, v14] ∧ Same H8' H9, ?_, ?_⟩
            · refine ⟨_, rfl, by decide, by decide, for_it walk_range (fun i σ H9 => ∃ (v12 v13 v14 : Option V), σ = [some (.ref t), some (.ref D), v2, some (.str ⟨#[bt bb]⟩), v4, v5, v6, v7, some (.ref d), some (.ref q), some (.str (W w0)), some (.str (W (itP ss i (w0 ++ [bb])))), v12, v13, v14] ∧ Same H8' H9) ⟨_, _, _, rfl, Same.refl _⟩ (fun _ _ _ _ _ => trivial) ?_ ?_⟩
              · rintro i9 x σ H9 H9' hi9 ⟨v12, v13, v14, rfl, s9⟩ ⟨rfl, rfl⟩
                have hi24 : i9 < 24 := hi9
                have hle := itP_le ss i9 (w0 ++ [bb])
                have e1 : (W (itP ss i9 (w0 ++ [bb]))).length = (itP ss i9 (w0 ++ [bb])).length := W_len _
                refine ⟨_, rfl, _, rfl, t, fl, _, ss, rfl, (htold.same B8.same).same s9, by omega, h2, fun s hs => Nat.le_trans (h3 s hs) (by decide), fun H10 s10 => ?_⟩
                refine ⟨_, rfl, rfl, _, rfl, ?_⟩
                have es := itP_succ ss i9 (w0 ++ [bb])
                rw [stP_eq] at es
                cases ep : putM ss (itP ss i9 (w0 ++ [bb])) with
                | none =>
                  have e0 : putL ss (itP ss i9 (w0 ++ [bb])) = [] := by unfold putL; rw [ep]
                  rw [e0]
                  refine iteDT (by rw [W_nil]) ?_
                  have e24 : itP ss 24 (w0 ++ [bb]) = itP ss i9 (w0 ++ [bb]) := itP_rest ep (by omega)
                  rw [← e24]
                  exact ⟨_, _, _, rfl, s9.trans s10⟩
                | some b =>
                  have e0 : putL ss (itP ss i9 (w0 ++ [bb])) = [b] := by unfold putL; rw [ep]
                  rw [e0] at es ⊢
                  refine iteDF (fun z => ?_) ?_
                  · have z' := V.str.inj z
                    rw [W_nil] at z'
                    cases (W_inj z')
                  · refine ⟨_, rfl, _, rfl, _, _, rfl, rfl, by rw [e1, W_len]; exact sl_len (by simp only [List.length_cons, List.length_nil]; omega), ?_⟩
                    rw [W_cat, ← es]
                    exact ⟨_, _, _, rfl, s9.trans s10⟩
              · rintro σ H9 ⟨v12, v13, v14, rfl, s9⟩
                exact ⟨_, _, _, rfl, s9⟩
            · rintro σ H9 ⟨v12, v13, v14, rfl, s9⟩
              have hle := itP_le ss 24 (w0 ++ [bb])
              have e24 : (24 : Int).toNat = 24 := rfl
              have B9 := B8.on s9
              have e1 : (W (itP ss 24 (w0 ++ [bb]))).length = (itP ss 24 (w0 ++ [bb])).length := W_len _
              have e2 : (W w0).length = w0.length := W_len _
              have l1 : (W (itP ss 24 (w0 ++ [bb]))).length ≤ sizeLine := by rw [e1]; exact sl_len (by omega)
              refine ⟨_, rfl, _, rfl, l1, _, rfl, _, rfl, by rw [e2]; exact sl_len (by omega), _, _, rfl, rfl, _, _, rfl, rfl, _, rfl, ?_⟩
              by_cases cl : w0.length + 20 < (itP ss 24 (w0 ++ [bb])).length
              · refine iteDT (by rw [e2]; show _ < (((W (itP ss 24 (w0 ++ [bb]))).length : Nat) : Int); rw [e1]; omega) ?_
                exact k false _ B9.same (fun z => by cases z)
              · refine iteDF (by rw [e2]; show ¬ _ < (((W (itP ss 24 (w0 ++ [bb]))).length : Nat) : Int); rw [e1]; omega) ?_
                refine ⟨_, rfl, _, rfl, _, rfl, l1, _, _, rfl, rfl, _, _, rfl, _, rfl, _, rfl, l1, ?_⟩
                show gName 14 (.str (Txt.slice (W (itP ss 24 (w0 ++ [bb]))) (some (if (((W (itP ss 24 (w0 ++ [bb]))).length : Nat) : Int) - 5 > 0 then (((W (itP ss 24 (w0 ++ [bb]))).length : Nat) : Int) - 5 else 0)) none)) _ _ _
                rw [W_tail5]
                refine ⟨_, rfl, _, rfl, d, _, rfl, DGet.k (k := .inr (W (tl 5 (itP ss 24 (w0 ++ [bb]))))) B9.known, _, rfl, ?_⟩
                have few9 := B9.few
                by_cases hin : tl 5 (itP ss 24 (w0 ++ [bb])) ∈ kn
                · refine iteBF (by rw [val_in hin]; rfl) ?_
                  refine ⟨kn, wt, _, _, _, _, _, _, _, _, _, _, rfl, B9, w0k, hcl8, fun j b hj hb => ?_, hm8⟩
                  by_cases ej : j = i
                  · subst ej
                    rw [hbb] at hb
                    cases hb
                    exact ⟨by omega, hin⟩
                  · exact hbits j b (by omega) hb
                · refine iteBT (by rw [val_out hin]; rfl) ?_
                  refine ⟨_, rfl, _, rfl, d, _, rfl, DPut.k (k := .inr (W (tl 5 (itP ss 24 (w0 ++ [bb]))))) B9.known (by unfold kst; rw [List.length_map]; exact sl_lt (by omega)), ?_⟩
                  rw [put_out hin]
                  have hW : upd H9 d (.dK (kst (kn ++ [tl 5 (itP ss 24 (w0 ++ [bb]))]))) q = some (.lst (wt.map fun w => V.str (W w))) := by rw [upd_ne nqd]; exact B9.wait
                  have wtl : wt.length < 1000 := by have := B9.le; omega
                  refine ⟨_, rfl, .inl ⟨rfl, _, SqL.of hW⟩, _, rfl, q, _, _, rfl, rfl, hW, by rw [List.length_map]; exact sl_lt (by omega), ?_⟩
                  refine ⟨kn ++ [tl 5 (itP ss 24 (w0 ++ [bb]))], wt ++ [tl 5 (itP ss 24 (w0 ++ [bb]))], _, _, _, _, _, _, _, _, _, _, rfl, ⟨fun c o e => ?_, ?_, ?_, ?_, ?_, ?_, List.mem_append_left _ B9.nil, by have := B9.le; rw [List.length_append, List.length_append]; exact Nat.add_le_add_right this _⟩, List.mem_append_left _ w0k, fun u hu => ?_, fun j b hj hb => ?_, ?_⟩
                  · rw [upd_ne (ne_of_none e nq0), upd_ne (ne_of_none e nd0)]
                    exact B9.same _ _ e
                  · rw [upd_same, List.map_append]; rfl
                  · rw [upd_ne (Ne.symm nqd), upd_same]
                  · rw [List.nodup_append]
                    refine ⟨B9.nodup, by simp, fun u hu v hv e => ?_⟩
                    rw [List.mem_singleton.mp hv] at e
                    exact hin (e ▸ hu)
                  · intro u hu
                    rcases List.mem_append.mp hu with z | z
                    · exact B9.short _ z
                    · rw [List.mem_singleton.mp z]; exact tl_le _ _
                  · intro u hu
                    rcases List.mem_append.mp hu with z | z
                    · exact List.mem_append_left _ (B9.sub _ z)
                    · exact List.mem_append_right _ z
                  · rcases List.mem_append.mp hu with z | z
                    · rcases hcl8 u z with z | z | z
                      · exact .inl (List.mem_append_left _ z)
                      · exact .inr (.inl z)
                      · exact .inr (.inr fun b => (z b).more)
                    · exact .inl (List.mem_append_right _ z)
                  · by_cases ej : j = i
                    · subst ej
                      rw [hbb] at hb
                      cases hb
                      exact ⟨by omega, List.mem_append_right _ List.mem_cons_self⟩
                    · exact (hbits j b (by omega) hb).more
                  · rw [List.length_append, List.length_append, List.length_cons, List.length_nil]; omega
          · rintro σ H8 ⟨kn, wt, v2, v3, v4, v5, v6, v7, v11, v12, v13, v14, rfl, B8, w0k, hcl8, hbits, hm8⟩
            refine ⟨_, hm8, kn, wt, _, _, _, _, _, _, _, _, _, _, _, rfl, B8, fun u hu => ?_, rfl⟩
            rcases hcl8 u hu with z | z | z
            · exact .inl z
            · rw [z]
              refine .inr fun b => ?_
              have e2 : ("01" : Str).cps.size = 2 := by decide +kernel
              cases b with
              | false => exact hbits 0 false (by rw [e2]; decide) rfl
              | true => exact hbits 1 true (by rw [e2]; decide) rfl
            · exact .inr z
end
end U

set_option maxRecDepth 100000
set_option maxHeartbeats 4000000
namespace U
open PySem PySem.Spec PyProof.Rows
open L2 hiding Fun CX0 E0 pass0 Fun.binds
open C8 Lx SX StX
def spRule : Sp := fun vs H Q _ => ∃ (b : Addr) (wd lo : Nat), vs = [.ref b, .int wd, .int lo] ∧ Box H b ∧ 2 ≤ wd ∧ wd ≤ 100 ∧ 1 ≤ lo ∧ lo ≤ 5 ∧
  ∀ (t : Addr) (f : List Bool) (ss : List Stf) H', Up b H H' → Told H' t f ss → 2 ≤ f.length → f.length ≤ max wd 3 → ss.length ≤ 2 → StOk ss → OkS ss → (∀ s ∈ ss, s.1.length ≤ lo) → Q (.ref t) H'
theorem told_const {H : Hp} {p1 p2 p3 : Addr} {z0 z1 z2 : Str} {f p : List Bool} {b : Bool} (e0 : z0 = W f) (e1 : z1 = W p) (e2 : z2 = W [b]) (n1 : H p1 = none) (n2 : upd H p1 (.tup [.str z1, .str z2]) p2 = none) (n3 : upd (upd H p1 (.tup [.str z1, .str z2])) p2 (.lst [.ref p1]) p3 = none) :
    Same H (upd (upd (upd H p1 (.tup [.str z1, .str z2])) p2 (.lst [.ref p1])) p3 (.tup [.str z0, .ref p2])) ∧ Told (upd (upd (upd H p1 (.tup [.str z1, .str z2])) p2 (.lst [.ref p1])) p3 (.tup [.str z0, .ref p2])) p3 f [(p, b)] := by
  refine ⟨((same_upd n1).trans (same_upd n2)).trans (same_upd n3), p2, [p1], fun _ => (p, b), ?_, ?_, ?_, rfl⟩
  · rw [upd_same, e0]
  · exact same_upd n3 _ _ upd_same
  · intro t ht
    rw [List.mem_singleton.mp ht, ← e1, ← e2]
    exact same_upd n3 _ _ (same_upd n2 _ _ upd_same)
/-- one of the rules that the law knows -/
def Good1 (m n : Nat) (H : Hp) (x : Addr) : Prop := ∃ f p b, Told H x f [(p, b)] ∧ 2 ≤ f.length ∧ f.length ≤ m ∧ p ≠ [] ∧ p.length ≤ n ∧ OkS [(p, b)]
theorem Good1.same {m n : Nat} {H H' : Hp} {x : Addr} (h : Good1 m n H x) (e : Same H H') : Good1 m n H' x := by
  obtain ⟨f, p, b, h1, h2⟩ := h
  exact ⟨f, p, b, h1.same e, h2⟩
theorem Good1.up {m n : Nat} {b : Addr} {H H' : Hp} {x : Addr} (hb : Box H b) (h : Good1 m n H x) (e : Up b H H') : Good1 m n H' x := by
  obtain ⟨f, p, b, h1, h2⟩ := h
  exact ⟨f, p, b, h1.up hb e, h2⟩
theorem told1 {H : Hp} {x : Addr} {f p : List Bool} {b : Bool} (h : Told H x f [(p, b)]) : ∃ l q, H x = some (.tup [.str (W f), .ref l]) ∧ H l = some (.lst [.ref q]) ∧ H q = some (.tup [.str (W p), .str (W [b])]) := by
  obtain ⟨l, ps, kb, h1, h2, h3, h4⟩ := h
  cases ps with
  | nil => cases h4
  | cons q r =>
    cases r with
    | cons _ _ => have := congrArg List.length h4; simp at this
    | nil =>
      have e : kb q = (p, b) := (List.cons.inj h4).1.symm
      have := h3 q List.mem_cons_self
      rw [e] at this
      exact ⟨l, q, h1, h2, this⟩
theorem told_dp {K : PySem.W.Frag} {m n : Nat} {H : Hp} {x : Addr} (h : Good1 m n H x) : ∃ d, Dp K H (.ref x) d ∧ DOk 3 d := by
  obtain ⟨f, p, b, h1, _⟩ := h
  obtain ⟨l, q, hx, hl, hq⟩ := told1 h1
  refine ⟨.tuple [.str (W f), .list [.tuple [.str (W p), .str (W [b])]]], .tup (SqT.of hx) (.cons (.str _) (.cons (.lst (SqL.of hl) (.cons (.tup (SqT.of hq) (.cons (.str _) (.cons (.str _) .nil))) .nil)) .nil)), ?_⟩
  have w0 : ∀ {n : Nat} (x : List Bool), DOk n (.str (W x)) := fun x => ⟨strOk_W x, Nat.zero_le _⟩
  refine dok_tup fun d hd => ?_
  rcases List.mem_cons.mp hd with rfl | hd
  · exact w0 _
  · rw [List.mem_singleton.mp hd]
    refine dok_list fun d hd => ?_
    rw [List.mem_singleton.mp hd]
    refine dok_tup fun d hd => ?_
    rcases List.mem_cons.mp hd with rfl | hd
    · exact w0 _
    · rw [List.mem_singleton.mp hd]; exact w0 _
theorem tolds_dp {K : PySem.W.Frag} {m n : Nat} {H : Hp} : ∀ {ts : List Addr}, (∀ x ∈ ts, Good1 m n H x) → ∃ ds, DpAll K H (ts.map V.ref) ds ∧ (∀ d ∈ ds, DOk 3 d) ∧ ds.isEmpty = ts.isEmpty
  | [], _ => ⟨[], .nil, (fun _ h => nomatch h), rfl⟩
  | x :: r, h => by
    obtain ⟨d, h1, h2⟩ := told_dp (K := K) (h x List.mem_cons_self)
    obtain ⟨ds, h3, h4, _⟩ := tolds_dp (K := K) (ts := r) fun y hy => h y (List.mem_cons_of_mem _ hy)
    refine ⟨d :: ds, .cons h1 h3, fun e he => ?_, rfl⟩
    rcases List.mem_cons.mp he with rfl | he
    · exact h2
    · exact h4 e he
theorem stOk1 {p : List Bool} {b : Bool} (h0 : p ≠ []) (h : p.length ≤ 5) : StOk [(p, b)] := by
  refine ⟨by show 1 ≤ 1000; decide, fun s hs => ?_, ?_, List.pairwise_singleton _ _⟩
  · rw [List.mem_singleton.mp hs]; exact h0
  · refine longM_max fun s hs => ?_
    rw [List.mem_singleton.mp hs]
    show p.length ≤ 9
    omega
theorem mem5 {v : V} (h : v ∈ ([.int 0, .int 1, .int 1, .int 1, .int 2] : List V)) : ∃ n : Nat, v = .int n ∧ n ≤ 2 := by
  rcases List.mem_cons.mp h with rfl | h
  · exact ⟨0, rfl, by decide⟩
  · rcases List.mem_cons.mp h with rfl | h
    · exact ⟨1, rfl, by decide⟩
    · rcases List.mem_cons.mp h with rfl | h
      · exact ⟨1, rfl, by decide⟩
      · rcases List.mem_cons.mp h with rfl | h
        · exact ⟨1, rfl, by decide⟩
        · exact ⟨2, List.mem_singleton.mp h, by decide⟩
section
variable {P : Program} {w : World} {K : PySem.W.Frag} {mg : Str → Option Value} {base : Heap}
theorem sc_l_rule : FnScope ["_law_box", "_law_widest", "_law_longest_one", "_law_some", "_law_one", "_law_turn", "_law_stuffs", "_law_more", "_law_told"] ["_law_box", "_law_widest", "_law_longest_one"] (fnScope s_l_rule) := fnScope_by (by decide +kernel)
theorem cal_l_rule {f : Addr} {fd : FuncData} (F : Def K mg "_law_rule" s_l_rule f fd) (b : Binds K fd ["_law_box", "_law_widest", "_law_longest_one"] []) (T : Tx mg) (c_l_choose : Cal P w K mg base 1 "_law_choose" spChoose []) (c_l_one_of : Cal P w K mg base 2 "_law_one_of" spOneOf []) (c_l_word : Cal P w K mg base 3 "_law_word" spWordF [])
    (c_l_is_rule : Cal P w K mg base 2 "_law_is_rule" spIsRule []) : Cal P w K mg base 4 "_law_rule" spRule [] := by
  refine cal0 F b .nil sc_l_rule (fun vs H Q E h => ?_) (fun cdv A outer s H vs Q E hr h => ?_)
  · obtain ⟨_, _, _, rfl, _⟩ := h; rfl
  · obtain ⟨bx, wd, lo, rfl, hb, w2, w100, l1, l5, k⟩ := h
    refine ⟨_, (pss_cons (ps_set (i := 3) sc_l_rule.nd rfl (.inl rfl) (pe_lst (pa_cons (pe_tup (pa_cons pe_str (pa_cons (pe_lst (pa_cons (pe_tup (pa_cons pe_str (pa_cons pe_str pa_nil))) pa_nil)) pa_nil))) (pa_cons (pe_tup (pa_cons pe_str (pa_cons (pe_lst (pa_cons (pe_tup (pa_cons pe_str (pa_cons pe_str pa_nil))) pa_nil)) pa_nil))) (pa_cons (pe_tup (pa_cons pe_str (pa_cons (pe_lst (pa_cons (pe_tup (pa_cons pe_str (pa_cons pe_str pa_nil))) pa_nil)) pa_nil))) (pa_cons (pe_tup (pa_cons pe_str (pa_cons (pe_lst (pa_cons (pe_tup (pa_cons pe_str (pa_cons pe_str pa_nil))) pa_nil)) pa_nil))) pa_nil))))))
    (pss_cons (ps_setLc (i := 3) (own := [("_law_one", 4)]) (g := gName 4) (by rfl) sc_l_rule.nd rfl rfl (sw_true rfl rfl rfl (by decide +kernel)) (pi_list (pv 3)) (blkOk_by (own := [("_law_one", 4)]) (N := ["_law_box", "_law_widest", "_law_longest_one", "_law_some", "_law_one", "_law_turn", "_law_stuffs", "_law_more", "_law_told"]) (sc := fnScope s_l_rule) (by decide +kernel)) (fun _ _ _ _ _ => (pg_name (i := 4) sc_l_rule.nd rfl (.inl rfl))) (fun _ _ _ _ _ => (pts_one (PW.pt (pw_and (pt_cmpR op_le (pe_callB call_len_str (by rfl) T.b_len (by decide +kernel) (pa_cons (pe_ix (show IxR _ (rIxT K) from ix_tup) (pv 4) pe_int (fun _ _ => rfl)) pa_nil)) (pv 1) (nomark _)) (pw_and1 (pt_cmpR op_le (pe_callB call_len_str (by rfl) T.b_len (by decide +kernel) (pa_cons (pe_ix (show IxR _ (rIxT K) from ix_tup) (pe_ix (show IxR _ (rIxL K) from ix_list) (pe_ix (show IxR _ (rIxT K) from ix_tup) (pv 4) pe_int (fun _ _ => rfl)) pe_int (fun _ _ => rfl)) pe_int (fun _ _ => rfl)) pa_nil)) (pv 2) (nomark _))))))) (fun _ _ _ _ _ => (pv 4)))
    (pss_cut (ps_if (PW.pt (pw_and (pt_cmpR (op_neD hr.units) (pv 3) (pe_lst pa_nil) (nomark _)) (pw_and1 (pt_cmpR op_eq (pe_c c_l_choose hr (by decide) rfl (pa_cons (pv 0) (pa_cons pe_int pa_nil))) pe_int (nomark _))))) (pss_one (ps_ret (pe_c c_l_one_of hr (by decide) rfl (pa_cons (pv 0) (pa_cons (pv 3) pa_nil))))) pss_nil)
    (pss_cons (ps_for PassesOwn.never rfl (pi_range1 (by rfl) T.b_range (pa_cons pe_int pa_nil)) (pg_name (i := 5) sc_l_rule.nd rfl (.inl rfl))
    (pss_cons (ps_set (i := 6) sc_l_rule.nd rfl (.inl rfl) (pe_lst pa_nil))
    (pss_cons (ps_for PassesOwn.never rfl (pi_range1 (by rfl) T.b_range (pa_cons (pe_c c_l_one_of hr (by decide) rfl (pa_cons (pv 0) (pa_cons (pe_lst (pa_cons pe_int (pa_cons pe_int (pa_cons pe_int (pa_cons pe_int (pa_cons pe_int pa_nil)))))) pa_nil))) pa_nil)) (pg_name (i := 7) sc_l_rule.nd rfl (.inl rfl))
    (pss_one (ps_expr (pe_bm PySem.F.plainAttrs_list PySem.F.slot_list_append PySem.F.type_list_append mt_append (pv 6) (pa_cons (pe_tup (pa_cons (pe_c c_l_word hr (by decide) rfl (pa_cons (pv 0) (pa_cons pe_int (pa_cons (pv 2) pa_nil)))) (pa_cons (pe_c c_l_one_of hr (by decide) rfl (pa_cons (pv 0) (pa_cons (pe_lst (pa_cons pe_str (pa_cons pe_str pa_nil))) pa_nil))) pa_nil))) pa_nil)))))
    (pss_cons (ps_set (i := 8) sc_l_rule.nd rfl (.inl rfl) (pe_tup (pa_cons (pe_c c_l_word hr (by decide) rfl (pa_cons (pv 0) (pa_cons pe_int (pa_cons (pv 1) pa_nil)))) (pa_cons (pv 6) pa_nil))))
    (pss_one (ps_if (pt_val (pe_c c_l_is_rule hr (by decide) rfl (pa_cons (pv 8) pa_nil))) (pss_one (ps_ret (pv 8))) pss_nil))))))
    (pss_one (ps_ret (pe_tup (pa_cons pe_str (pa_cons (pe_lst pa_nil) pa_nil))))))))), ?_⟩
    have i1 : 1 ≤ sizeLine := by decide
    have i2 : 2 ≤ sizeLine := by decide
    refine ⟨i2, fun a1 na1 => ⟨i1, fun a2 na2 => ⟨i2, fun a3 na3 => ?_⟩⟩⟩
    obtain ⟨sa, ta⟩ := told_const (z0 := "01110") (z1 := "11") (z2 := "0") (f := [false, true, true, true, false]) (p := [true, true]) (b := false) (by decide +kernel) (by decide +kernel) (by decide +kernel) na1 na2 na3
    generalize upd (upd (upd H a1 (.tup [.str "11", .str "0"])) a2 (.lst [.ref a1])) a3 (.tup [.str "01110", .ref a2]) = Ha at sa ta
    refine ⟨i2, fun b1 nb1 => ⟨i1, fun b2 nb2 => ⟨i2, fun b3 nb3 => ?_⟩⟩⟩
    obtain ⟨sb, tb⟩ := told_const (z0 := "0010") (z1 := "001") (z2 := "1") (f := [false, false, true, false]) (p := [false, false, true]) (b := true) (by decide +kernel) (by decide +kernel) (by decide +kernel) nb1 nb2 nb3
    generalize upd (upd (upd Ha b1 (.tup [.str "001", .str "1"])) b2 (.lst [.ref b1])) b3 (.tup [.str "0010", .ref b2]) = Hb at sb tb
    refine ⟨i2, fun c1 nc1 => ⟨i1, fun c2 nc2 => ⟨i2, fun c3 nc3 => ?_⟩⟩⟩
    obtain ⟨sc, tc⟩ := told_const (z0 := "11") (z1 := "1") (z2 := "0") (f := [true, true]) (p := [true]) (b := false) (by decide +kernel) (by decide +kernel) (by decide +kernel) nc1 nc2 nc3
    generalize upd (upd (upd Hb c1 (.tup [.str "1", .str "0"])) c2 (.lst [.ref c1])) c3 (.tup [.str "11", .ref c2]) = Hc at sc tc
    refine ⟨i2, fun d1 nd1 => ⟨i1, fun d2 nd2 => ⟨i2, fun d3 nd3 => ?_⟩⟩⟩
    obtain ⟨sd, td⟩ := told_const (z0 := "10001") (z1 := "00") (z2 := "1") (f := [true, false, false, false, true]) (p := [false, false]) (b := true) (by decide +kernel) (by decide +kernel) (by decide +kernel) nd1 nd2 nd3
    generalize upd (upd (upd Hc d1 (.tup [.str "00", .str "1"])) d2 (.lst [.ref d1])) d3 (.tup [.str "10001", .ref d2]) = Hd at sd td
    refine ⟨by show 4 ≤ sizeLine; decide, fun L nL => ?_⟩
    have sL : Same H (upd Hd L (.lst [.ref a3, .ref b3, .ref c3, .ref d3])) := ((((sa.trans sb).trans sc).trans sd)).trans (same_upd nL)
    have hL : upd Hd L (.lst [.ref a3, .ref b3, .ref c3, .ref d3]) L = some (.lst ([a3, b3, c3, d3].map V.ref)) := upd_same
    have hG : ∀ x ∈ [a3, b3, c3, d3], Good1 5 3 (upd Hd L (.lst [.ref a3, .ref b3, .ref c3, .ref d3])) x := fun x hx => by
      have g : Good1 5 3 Hd x := by
        rcases List.mem_cons.mp hx with rfl | hx
        · exact ⟨_, _, _, ((ta.same sb).same sc).same sd, by decide, by decide, by decide, by decide, okS_11⟩
        · rcases List.mem_cons.mp hx with rfl | hx
          · exact ⟨_, _, _, (tb.same sc).same sd, by decide, by decide, by decide, by decide, okS_001⟩
          · rcases List.mem_cons.mp hx with rfl | hx
            · exact ⟨_, _, _, tc.same sd, by decide, by decide, by decide, by decide, okS_1⟩
            · rw [List.mem_singleton.mp hx]
              exact ⟨_, _, _, td, by decide, by decide, by decide, by decide, okS_00⟩
      exact g.same (same_upd nL)
    generalize upd Hd L (.lst [.ref a3, .ref b3, .ref c3, .ref d3]) = H5 at sL hL hG
    clear td tc tb ta sd sc sb sa
    have las : [a3, b3, c3, d3].length ≤ 900 := by show 4 ≤ 900; decide
    generalize [a3, b3, c3, d3] = as at hL hG las
    refine ⟨_, rfl, L, rfl, ⟨_, SqL.of hL⟩, fun D nD => ?_⟩
    refine lc_it (walk_list (xs := as.map V.ref)) (fun i H2 => Same H5 H2 ∧ ∃ ts : List Addr, H2 D = some (.lst (ts.map V.ref)) ∧ ts.length ≤ i ∧ ∀ x ∈ ts, Good1 wd lo H5 x) ⟨same_upd nD, [], upd_same, Nat.zero_le _, fun _ h => nomatch h⟩ (fun i H2 _ h2 => h2.1.seq (SqL.of hL)) ?_ ?_
    · rintro i x H2 H3 hi ⟨s2, ts, hD, hts, hall⟩ ⟨rfl, hx⟩
      rw [List.getElem?_map] at hx
      obtain ⟨x, hq, rfl⟩ := Option.map_eq_some_iff.mp hx
      have g := hG x (List.mem_of_getElem? hq)
      obtain ⟨f0, p0, b0, tx, f2, f5, p1, p3, okr⟩ := id g
      obtain ⟨l, q, hx5, hl5, hq5⟩ := told1 tx
      rw [List.length_map] at hi
      have ef : (W f0).length = f0.length := W_len _
      have ep : (W p0).length = p0.length := W_len _
      refine ⟨rfl, ?_⟩
      refine ⟨_, rfl, x, _, 0, _, rfl, rfl, SqT.of (s2 _ _ hx5), rfl, _, rfl, by rw [ef]; exact sl_len (by omega), _, rfl, _, _, rfl, rfl, _, rfl, ?_⟩
      by_cases cf : f0.length ≤ wd
      · refine iteDT (by rw [ef]; omega) ?_
        refine ⟨_, rfl, x, _, 1, _, rfl, rfl, SqT.of (s2 _ _ hx5), rfl, l, _, 0, _, rfl, rfl, SqL.of (s2 _ _ hl5), rfl, q, _, 0, _, rfl, rfl, SqT.of (s2 _ _ hq5), rfl, _, rfl, by rw [ep]; exact sl_len (by omega), _, rfl, _, _, rfl, rfl, _, rfl, ?_⟩
        by_cases cp : p0.length ≤ lo
        · refine iteDT (by rw [ep]; omega) ?_
          refine ⟨_, rfl, _, hD, by rw [List.length_map]; exact sl_lt (by omega), ?_, ts ++ [x], ?_, by rw [List.length_append, List.length_cons, List.length_nil]; omega, fun y hy => ?_⟩
          · intro c' o e
            rw [upd_ne (ne_of_none e nD)]
            exact s2 _ _ e
          · rw [upd_same, List.map_append]; rfl
          · rcases List.mem_append.mp hy with m | m
            · exact hall y m
            · rw [List.mem_singleton.mp m]
              exact ⟨f0, p0, b0, tx, f2, cf, p1, cp, okr⟩
        · refine iteDF (by rw [ep]; omega) ?_
          exact ⟨s2, ts, hD, by omega, hall⟩
      · refine iteDF (by rw [ef]; omega) ?_
        exact ⟨s2, ts, hD, by omega, hall⟩
    · rintro H2 ⟨s2, ts, hD, hts, hall⟩
      rw [List.length_map] at hts
      have s02 : Same H H2 := sL.trans s2
      have hall2 : ∀ x ∈ ts, Good1 wd lo H2 x := fun x hx => (hall x hx).same s2
      clear hall hG hL
      have nDb : D ≠ bx := Box.ne (hb.same sL) nD
      have hD0 : H D = none := sL.free nD
      refine ⟨fun σ' H' => σ' = [some (.ref bx), some (.int wd), some (.int lo), some (.ref D), none, none, none, none, none] ∧ Up bx H H', ?_, ?_⟩
      · refine ⟨_, rfl, Nat.zero_le _, fun p hp => ?_⟩
        have s3 : Same H2 (upd H2 p (.lst [])) := same_upd hp
        obtain ⟨ds, hds, hok, hem⟩ := tolds_dp (K := K) fun x hx => (hall2 x hx).same s3
        refine ⟨.list ds, .list [], .lst (SqL.of (s3 _ _ hD)) hds, .lst (SqL.of upd_same) .nil, (dok_list hok).shaped (by decide), shaped_nil, _, rfl, ?_⟩
        rw [eqv_nil, hem]
        have s03 := s02.trans s3
        have hall3 : ∀ x ∈ ts, Good1 wd lo (upd H2 p (.lst [])) x := fun x hx => (hall2 x hx).same s3
        have hD3 := s3 _ _ hD
        generalize upd H2 p (.lst []) = H3 at s03 hall3 hD3
        cases hte : ts.isEmpty with
        | true => exact ⟨rfl, Up.of_same hb s03⟩
        | false =>
          have u3 := Up.of_same hb s03
          refine ⟨_, rfl, bx, 2, rfl, u3.2, by decide, by decide, fun d H4 d0 d1 u4 => ⟨rfl, _, rfl, ?_⟩⟩
          have u34 := u3.trans u4
          have hD4 := u4.1 _ _ hD3 nDb
          refine ite2 (fun _ => ?_) (fun _ => ⟨rfl, u34⟩)
          have hne : ts ≠ [] := fun z => by rw [z] at hte; cases hte
          refine ⟨_, rfl, _, rfl, bx, D, _, rfl, u34.2, hD4, nDb, ?_, ?_, fun v H5' hv u5 => ?_⟩
          · rw [List.length_map]; exact List.length_pos_iff.mpr hne
          · rw [List.length_map]; omega
          · obtain ⟨x, hx, rfl⟩ := List.mem_map.mp hv
            obtain ⟨f0, p0, b0, tx, h2, h5, hp0, hlo, okr⟩ := ((hall3 x hx).up u3.2 u4).up u34.2 u5
            refine k x f0 [(p0, b0)] H5' (u34.trans u5) tx h2 (by omega) (by show 1 ≤ 2; decide) (stOk1 hp0 (by omega)) okr fun s hs => ?_
            rw [List.mem_singleton.mp hs]
            exact hlo
      · clear hall2 hD hts s02 s2 hD0 nDb
        rintro σ' H3 ⟨rfl, u3⟩
        refine ⟨_, rfl, by decide, by decide, for_it walk_range (fun i σ H4 => ∃ v5 v6 v7 v8 : Option V, σ = [some (.ref bx), some (.int wd), some (.int lo), some (.ref D), none, v5, v6, v7, v8] ∧ Up bx H H4) ⟨_, _, _, _, rfl, u3⟩ (fun _ _ _ _ _ => trivial) ?_ ?_⟩
        · rintro i x σ H4 H4' hi ⟨v5, v6, v7, v8, rfl, u4⟩ ⟨rfl, rfl⟩
          refine ⟨Nat.zero_le _, fun S nS => ?_⟩
          have nSb : S ≠ bx := u4.2.ne nS
          have nS0 : H S = none := u4.free nS
          have u5 : Up bx H (upd H4' S (.lst [])) := u4.same (same_upd nS)
          have hS5 : upd H4' S (.lst []) S = some (.lst []) := upd_same
          generalize upd H4' S (.lst []) = H5' at u5 hS5
          refine ⟨_, rfl, by show 5 ≤ sizeLine; decide, fun l0 nl0 => ?_⟩
          have u6 := u5.same (same_upd (o := .lst [.int 0, .int 1, .int 1, .int 1, .int 2]) nl0)
          refine ⟨bx, l0, _, rfl, u6.2, upd_same, u5.2.ne nl0, by decide, by decide, fun v H7 hv u7 => ?_⟩
          obtain ⟨n, rfl, hn⟩ := mem5 hv
          have hS7 := u7.1 _ _ (same_upd nl0 _ _ hS5) nSb
          have u67 := u6.trans u7
          refine ⟨_, rfl, by omega, by omega, for_it walk_range (fun j σ H8 => ∃ (v7 : Option V) (ps : List Addr) (kb : Addr → Stf), σ = [some (.ref bx), some (.int wd), some (.int lo), some (.ref D), none, some (.int (0 + (i : Int))), some (.ref S), v7, v8] ∧ Up bx H H8 ∧ H8 S = some (.lst (ps.map V.ref)) ∧ StV H8 kb ps ∧ ps.length = j ∧ ∀ s ∈ ps.map kb, s.1 ≠ [] ∧ s.1.length ≤ lo) ⟨_, [], fun _ => ([], false), rfl, u67, hS7, (fun _ h => nomatch h), rfl, (fun _ h => nomatch h)⟩ (fun _ _ _ _ _ => trivial) ?_ ?_⟩
          · rintro j x σ H8 H8' hj ⟨v7, ps, kb, rfl, u8, hS8, hst, hps, hpat⟩ ⟨rfl, rfl⟩
            have hj2 : j < 2 := by
              have : j < ((n : Int)).toNat := hj
              omega
            refine ⟨_, rfl, .inl ⟨rfl, _, SqL.of hS8⟩, _, rfl, _, rfl, bx, 1, lo, rfl, u8.2, l1, by omega, fun pw H9 pw1 pwl u9 => ?_⟩
            have u89 := u8.trans u9
            refine ⟨_, rfl, i2, fun l1' nl1 => ?_⟩
            have u10 := u89.same (same_upd (o := .lst [.str "0", .str "1"]) nl1)
            refine ⟨bx, l1', _, rfl, u10.2, upd_same, u89.2.ne nl1, by decide, by decide, fun v H11 hv u11 => ?_⟩
            obtain ⟨bb, rfl⟩ := mem2 hv
            have u1011 := u10.trans u11
            refine ⟨i2, fun q nq => ?_⟩
            have hS11 : H11 S = some (.lst (ps.map V.ref)) := u11.1 _ _ (same_upd nl1 _ _ (u9.1 _ _ hS8 nSb)) nSb
            have hst11 : StV H11 kb ps := fun t ht => u11.1 _ _ (same_upd nl1 _ _ (u9.1 _ _ (hst t ht) (u8.2.neT (hst t ht)))) (u8.2.neT (hst t ht))
            have u12 := u1011.same (same_upd (o := .tup [.str (W pw), .str (W [bb])]) nq)
            have hS12 := same_upd (o := .tup [.str (W pw), .str (W [bb])]) nq _ _ hS11
            have hst12 : StV (upd H11 q (.tup [.str (W pw), .str (W [bb])])) (fun a => if a = q then (pw, bb) else kb a) (ps ++ [q]) := fun t ht => by
              rcases List.mem_append.mp ht with m | m
              · have nt : t ≠ q := ne_of_none (hst11 t m) nq
                rw [upd_ne nt]
                simp only [if_neg nt]
                exact hst11 t m
              · rw [List.mem_singleton.mp m, upd_same]
                simp only [if_pos]
            have hmk : (ps ++ [q]).map (fun a => if a = q then (pw, bb) else kb a) = ps.map kb ++ [(pw, bb)] := by
              rw [List.map_append]
              congr 1
              · refine List.map_congr_left fun t ht => if_neg (ne_of_none (hst11 t ht) nq)
              · show [if q = q then (pw, bb) else kb q] = _
                rw [if_pos rfl]
            generalize upd H11 q (.tup [.str (W pw), .str (W [bb])]) = H12 at u12 hS12 hst12
            refine ⟨S, _, _, rfl, rfl, hS12, by rw [List.length_map]; exact sl_lt (by omega), ?_⟩
            have uS : Up bx H (upd H12 S (.lst (ps.map V.ref ++ [.ref q]))) := u12.mut nS0 nSb
            refine ⟨_, ps ++ [q], fun a => if a = q then (pw, bb) else kb a, rfl, uS, by rw [upd_same, List.map_append]; rfl, fun t ht => ?_, by rw [List.length_append, List.length_cons, List.length_nil]; omega, ?_⟩
            · rw [upd_ne (ne_of (hst12 t ht) hS12 (by intro z; cases z))]
              exact hst12 t ht
            · rw [hmk]
              intro s hs
              rcases List.mem_append.mp hs with m | m
              · exact hpat s m
              · rw [List.mem_singleton.mp m]
                exact ⟨fun z => by rw [show pw = [] from z] at pw1; exact absurd pw1 (by decide), pwl⟩
          · rintro σ H8 ⟨v7, ps, kb, rfl, u8, hS8, hst, hps, hpat⟩
            refine ⟨_, rfl, _, rfl, bx, 2, wd, rfl, u8.2, w2, by omega, fun fw H9 fw2 fwl u9 => ⟨_, rfl, i2, fun t nt => ?_⟩⟩
            have u89 := u8.trans u9
            have hS9 := u9.1 _ _ hS8 nSb
            have hst9 : StV H9 kb ps := fun t ht => u9.1 _ _ (hst t ht) (u8.2.neT (hst t ht))
            have told : Told (upd H9 t (.tup [.str (W fw), .ref S])) t fw (ps.map kb) := ⟨S, ps, kb, upd_same, same_upd nt _ _ hS9, hst9.same (same_upd nt), rfl⟩
            have u10 := u89.same (same_upd (o := .tup [.str (W fw), .ref S]) nt)
            generalize upd H9 t (.tup [.str (W fw), .ref S]) = H10 at told u10
            have hn2 : ps.length ≤ 2 := by
              have : ps.length = ((n : Int)).toNat := hps
              omega
            refine ⟨_, rfl, t, fw, ps.map kb, rfl, told, by rw [List.length_map]; omega, fun s hs => Nat.le_trans (hpat s hs).2 l5, fun r H11 s11 hr11 => ⟨_, rfl, ?_⟩⟩
            cases r with
            | true =>
              obtain ⟨hfree, hokr⟩ := hr11 rfl
              refine ⟨_, rfl, ?_⟩
              refine k t fw (ps.map kb) H11 (u10.same s11) (told.same s11) fw2 (by omega) (by rw [List.length_map]; exact hn2) ⟨by rw [List.length_map]; omega, fun s hs => (hpat s hs).1, longM_max fun s hs => Nat.le_trans (hpat s hs).2 (by omega), hfree⟩ hokr fun s hs => (hpat s hs).2
            | false => exact ⟨_, _, _, _, rfl, u10.same s11⟩
        · rintro σ H4 ⟨v5, v6, v7, v8, rfl, u4⟩
          refine ⟨Nat.zero_le _, fun l nl => ⟨i2, fun t nt => ?_⟩⟩
          have st : Same H4 (upd (upd H4 l (.lst [])) t (.tup [.str "110", .ref l])) := (same_upd nl).trans (same_upd nt)
          refine k t [true, true, false] [] _ (u4.same st) ⟨l, [], fun _ => ([], false), ?_, same_upd nt _ _ upd_same, (fun _ h => nomatch h), rfl⟩ (by decide) (by show 3 ≤ max wd 3; omega) (Nat.zero_le _) ⟨Nat.zero_le _, (fun _ h => nomatch h), Nat.zero_le _, .nil⟩ okS_nil (fun _ h => nomatch h)
          rw [upd_same]
          have e : ("110" : Str) = W [true, true, false] := by decide +kernel
          rw [e]
end
end U

set_option maxRecDepth 100000
set_option maxHeartbeats 4000000
namespace U
open PySem PySem.Spec PyProof.Rows
open L2 hiding Fun CX0 E0 pass0 Fun.binds
open C8 Lx SX StX
def spMade (C : Addr) : Sp := fun vs H Q _ => ∃ (t : Addr) (f : List Bool) (ss : List Stf), vs = [.ref t] ∧ Told H t f ss ∧ StOk ss ∧ OkR ss ∧ 2 ≤ f.length ∧ f.length ≤ 1000 ∧
  ∀ a ss' H', Same H H' → ss'.Perm ss → SortedS ss' → RuAt C H' a f ss' → Q (.ref a) H'
theorem scal_oB (a b : Option Bool) : scal (oB a) (oB b) = true := by cases a <;> cases b <;> rfl
theorem scal_oB2 (a : Option Bool) (b : Bool) : scal (oB a) (.str (W [b])) = true := by cases a <;> rfl
def spLaw (K : PySem.W.Frag) : Sp := fun vs H Q _ => ∃ (a : Addr) (ns : List Int), vs = [.ref a] ∧ SqL K H a (ns.map V.int) ∧ ns.length ≤ 63 ∧ ∀ H', Q (.bl true) H'
/-- at most one pattern ends a line -/
theorem one_ends {ss : List Stf} (h : SufFree ss) (l : List Bool) : (ss.filter fun s => s.1.isSuffixOf l).length ≤ 1 := by
  have hp : (ss.filter fun s => s.1.isSuffixOf l).Pairwise fun a b => ¬ a.1 <:+ b.1 ∧ ¬ b.1 <:+ a.1 := List.Pairwise.filter _ h
  have hm : ∀ s ∈ ss.filter fun s => s.1.isSuffixOf l, s.1 <:+ l := fun s hs => List.isSuffixOf_iff_suffix.mp (List.mem_filter.mp hs).2
  generalize ss.filter (fun s => s.1.isSuffixOf l) = fs at hp hm
  match fs, hp, hm with
  | [], _, _ => exact Nat.zero_le _
  | [_], _, _ => exact Nat.le_refl _
  | a :: b :: r, hp, hm =>
    have h1 := (List.pairwise_cons.mp hp).1 b List.mem_cons_self
    rcases List.suffix_or_suffix_of_suffix (hm a List.mem_cons_self) (hm b (List.mem_cons_of_mem _ List.mem_cons_self)) with z | z
    · exact absurd z h1.1
    · exact absurd z h1.2
theorem put_app {ss : List Stf} (h : SufFree ss) {p : List Bool} {b : Bool} (hm : (p, b) ∈ ss) (x : List Bool) : putM ss (x ++ p) = some b := (put_iff h).mpr ⟨p, hm, List.suffix_append _ _⟩
theorem put_tail {ss : List Stf} (h : SufFree ss) {p : List Bool} {b : Bool} (hm : (p, b) ∈ ss) (hp : p ≠ []) : putM ss p.tail = none := by
  cases e : putM ss p.tail with
  | none => rfl
  | some c =>
    obtain ⟨q, hq, hs⟩ := (put_iff h).mp e
    have hl := hs.length_le
    have hpl : 0 < p.length := List.length_pos_iff.mpr hp
    rw [List.length_tail] at hl
    have ne : (q, c) ≠ (p, b) := fun z => by
      have : q = p := congrArg Prod.fst z
      rw [this] at hl
      omega
    exact absurd (hs.trans (List.tail_suffix p)) (h.ne hq hm ne)
def reprO : Option Bool → Str
  | none => "None"
  | some b => reprText (W [b])
theorem reprO_len (b : Bool) : (reprText (W [b])).length ≤ sizeLine := by
  have e : (reprText (W [b])).length ≤ 10 := by cases b <;> decide +kernel
  exact Nat.le_trans e (by decide)
theorem call_repr_oB {X : Cx} : CallR X (.builtin "repr") (fun xs H Q => ∃ o, xs = [oB o] ∧ Q (.str (reprO o)) H) := by
  intro pins s σ H xs us Q I r h
  obtain ⟨o, rfl, q⟩ := h
  obtain ⟨u, rfl, ru⟩ := vals1 r
  cases o with
  | none =>
    obtain rfl : u = Value.none := ru
    exact PySem.P.repr_of_none ⟨.str _, H, I.tok _, ⟨_, rfl⟩, q⟩
  | some b =>
    obtain ⟨t, rfl⟩ := ru
    exact PySem.P.repr_of_str ⟨.str _, H, I.tok _, ⟨_, rfl⟩, q⟩ (reprO_len b)
section
variable {P : Program} {w : World} {K : PySem.W.Frag} {mg : Str → Option Value} {base : Heap}
theorem sc_l_made : FnScope ["_law_rule_here"] ["_law_rule_here"] (fnScope s_l_made) := fnScope_by (by decide +kernel)
theorem cal_l_made {f C : Addr} {fd : FuncData} (F : Def K mg "_law_made" s_l_made f fd) (b : Binds K fd ["_law_rule_here"] []) (T : Tx mg) (m_Rule2 : Mak P w K mg base 5 "Rule" C (spRuInit K C) []) : Cal P w K mg base 7 "_law_made" (spMade C) [] := by
  refine cal0 F b .nil sc_l_made (fun vs H Q E h => ?_) (fun cdv A outer s H vs Q E hr h => ?_)
  · obtain ⟨_, _, _, rfl, _⟩ := h; rfl
  · obtain ⟨t, fl, ss, rfl, ⟨l, ps, kb, ht, hl, hs, rfl⟩, ok, hO, h2, hlen, k⟩ := h
    refine ⟨_, (pss_one (ps_ret (pe_mk m_Rule2 hr (by decide) rfl (pa_cons (pe_ix ix_tup (pv 0) pe_int (fun _ _ => rfl)) (pa_cons (pe_ix ix_tup (pv 0) pe_int (fun _ _ => rfl)) pa_nil))))), ?_⟩
    refine ⟨_, rfl, t, _, 0, _, rfl, rfl, SqT.of ht, rfl, _, rfl, t, _, 1, _, rfl, rfl, SqT.of ht, rfl, fun x dx nx ndx nex => ?_⟩
    have sm : Same H (upd (upd H dx (.own x)) x (.ins C dx [])) := fun c o e => by
      rw [upd_ne (ne_of_none e nx), upd_ne (ne_of_none e ndx)]; exact e
    refine ⟨x, dx, l, fl, ps, kb, rfl, upd_same, .inl (SqL.of (sm _ _ hl)), hs.same sm, ok, hO, h2, hlen, fun H' ss' keep pm srt hR => ⟨rfl, ?_⟩⟩
    exact k x ss' H' (Same.made nx ndx keep) pm srt hR
end
end U

set_option maxRecDepth 100000
set_option maxHeartbeats 4000000
namespace U
open PySem PySem.Spec PyProof.Rows
open L2 hiding Fun CX0 E0 pass0 Fun.binds
open C8 Lx SX StX
def spLBody : Sp := fun vs H Q _ => ∃ (t : Addr) (f m : List Bool) (ss : List Stf), vs = [.ref t, .str (W m)] ∧ Told H t f ss ∧ m.length ≤ 1000 ∧ ss.length ≤ 1000 ∧ (∀ s ∈ ss, s.1.length ≤ 1000) ∧ OkS ss ∧ ∀ l H', Body ss m l → l.length ≤ 20 * m.length → Same H H' → Q (.str (W l)) H'
theorem putL_at {ss : List Stf} {l x : List Bool} (h : Ins ss l x) {j : Nat} (hj : j < x.length) : putL ss (l ++ x.take j) = [x[j]] := by
  unfold putL
  rw [h.at (List.getElem?_eq_getElem hj)]
theorem putL_stop {ss : List Stf} {l x : List Bool} (h : Ins ss l x) {j : Nat} (hj : x.length ≤ j) : putL ss (l ++ x.take j) = [] := by
  unfold putL
  rw [List.take_of_length_le hj, h.end]
section
variable {P : Program} {w : World} {K : PySem.W.Frag} {mg : Str → Option Value} {base : Heap}
theorem sc_l_body : FnScope ["_law_rule_here", "_law_message", "_law_line", "_law_bit", "_law_turn", "_law_due"] ["_law_rule_here", "_law_message"] (fnScope s_l_body) := fnScope_by (by decide +kernel)
theorem cal_l_body {f : Addr} {fd : FuncData} (F : Def K mg "_law_body" s_l_body f fd) (b : Binds K fd ["_law_rule_here", "_law_message"] []) (T : Tx mg) (c_l_put : Cal P w K mg base 1 "_law_put" spLPut []) : Cal P w K mg base 2 "_law_body" spLBody [] := by
  refine cal0 F b .nil sc_l_body (fun vs H Q E h => ?_) (fun cdv A outer s H vs Q E hr h => ?_)
  · obtain ⟨_, _, _, _, rfl, _⟩ := h; rfl
  · obtain ⟨t, fl, m, ss, rfl, told, hm, hn, hs, hO, k⟩ := h
    refine ⟨_, (pss_cons (ps_set (i := 2) sc_l_body.nd rfl (.inl rfl) pe_str)
    (pss_cons (ps_for PassesOwn.never rfl (pi_str (pv 1)) (pg_name (i := 3) sc_l_body.nd rfl (.inl rfl))
    (pss_cons (ps_set (i := 2) sc_l_body.nd rfl (.inl rfl) (pe_op op_add_str (pv 2) (pv 3)))
    (pss_one (ps_for PassesOwn.never rfl (pi_range1 (by rfl) T.b_range (pa_cons pe_int pa_nil)) (pg_name (i := 4) sc_l_body.nd rfl (.inl rfl))
    (pss_cons (ps_set (i := 5) sc_l_body.nd rfl (.inl rfl) (pe_c c_l_put hr (by decide) rfl (pa_cons (pv 0) (pa_cons (pv 2) pa_nil))))
    (pss_cons (ps_if (pt_cmpR op_eq (pv 5) pe_str (nomark _)) (pss_one ps_break) pss_nil)
    (pss_one (ps_set (i := 2) sc_l_body.nd rfl (.inl rfl) (pe_op op_add_str (pv 2) (pv 5))))))))))
    (pss_one (ps_ret (pv 2))))), ?_⟩
    obtain ⟨g, g0, g1, g2⟩ := body_steps hO m
    refine ⟨_, rfl, W m, rfl, for_it walk_str (fun i σ H2 => ∃ v3 v4 v5 : Option V, σ = [some (.ref t), some (.str (W m)), some (.str (W (g i))), v3, v4, v5] ∧ Same H H2) ⟨none, none, none, by rw [g0, ← W_nil]; rfl, Same.refl _⟩ (fun _ _ _ _ _ => trivial) ?_ ?_⟩
    · rintro i x σ H2 H3 hi ⟨v3, v4, v5, rfl, s2⟩ ⟨rfl, c, hc, rfl⟩
      obtain ⟨bb, hbb, rfl⟩ := W_get hc
      have hi' := (List.getElem?_eq_some_iff.mp hbb).1
      obtain ⟨x, hx, hx19, eg⟩ := g1 i bb hbb
      have hl := (g2 i (Nat.le_of_lt hi')).2
      have e1 : (W (g i)).length = (g i).length := W_len _
      have e2 : (⟨#[bt bb]⟩ : Str).length = 1 := W_len [bb]
      have ew : W (g i) ++ (⟨#[bt bb]⟩ : Str) = W (g i ++ [bb]) := W_cat (g i) [bb]
      refine ⟨_, rfl, _, rfl, _, _, rfl, rfl, by rw [e1, e2]; exact sl_len (by omega), ?_⟩
      rw [ew]
      have l3 : (g i ++ [bb]).length = (g i).length + 1 := by rw [List.length_append]; rfl
      have fin : ∀ (j : Nat) (v4 v5 : Option V) (H4 : Hp), x.length ≤ j → Same H3 H4 → ∃ v3 v4' v5' : Option V, [some (V.ref t), some (V.str (W m)), some (V.str (W (g i ++ [bb] ++ x.take j))), some (V.str ⟨#[bt bb]⟩), v4, v5] = [some (.ref t), some (.str (W m)), some (.str (W (g (i + 1)))), v3, v4', v5'] ∧ Same H H4 := fun j v4 v5 H4 hj s4 => by
        rw [List.take_of_length_le hj, ← eg]
        exact ⟨_, _, _, rfl, s2.trans s4⟩
      refine ⟨_, rfl, by decide, by decide, for_it walk_range (fun j σ H4 => ∃ v4 v5 : Option V, σ = [some (.ref t), some (.str (W m)), some (.str (W (g i ++ [bb] ++ x.take j))), some (.str ⟨#[bt bb]⟩), v4, v5] ∧ Same H3 H4) ⟨v4, v5, by rw [List.take_zero, List.append_nil]; rfl, Same.refl _⟩ (fun _ _ _ _ _ => trivial) ?_ ?_⟩
      · rintro j y σ H4 H4' hj ⟨v4, v5, rfl, s4⟩ ⟨rfl, rfl⟩
        have e3 : (W (g i ++ [bb] ++ x.take j)).length = (g i ++ [bb] ++ x.take j).length := W_len _
        have l4 : (g i ++ [bb] ++ x.take j).length ≤ (g i).length + 20 := by rw [List.length_append, l3, List.length_take]; omega
        refine ⟨_, rfl, _, rfl, t, fl, _, ss, rfl, told.same (s2.trans s4), by omega, hn, hs, fun H5 s5 => ?_⟩
        refine ⟨_, rfl, rfl, _, rfl, ?_⟩
        by_cases hlt : j < x.length
        · rw [putL_at hx hlt]
          refine iteDF (fun z => ?_) ?_
          · have z' := V.str.inj z
            rw [W_nil] at z'
            cases (W_inj z')
          · refine ⟨_, rfl, _, rfl, _, _, rfl, rfl, by rw [e3, W_len]; exact sl_len (by simp only [List.length_cons, List.length_nil]; omega), ?_⟩
            rw [W_cat]
            have et : g i ++ [bb] ++ x.take j ++ [x[j]] = g i ++ [bb] ++ x.take (j + 1) := by rw [List.take_add_one, List.getElem?_eq_getElem hlt, List.append_assoc]; rfl
            rw [et]
            exact ⟨_, _, rfl, s4.trans s5⟩
        · rw [putL_stop hx (by omega)]
          refine iteDT (by rw [W_nil]) ?_
          exact fin j _ _ H5 (by omega) (s4.trans s5)
      · rintro σ H4 ⟨v4, v5, rfl, s4⟩
        exact fin _ _ _ H4 (by show x.length ≤ 24; omega) s4
    · rintro σ H2 ⟨v3, v4, v5, rfl, s2⟩
      have g3 := g2 m.length (Nat.le_refl _)
      rw [List.take_length] at g3
      refine ⟨_, rfl, ?_⟩
      rw [W_size]
      exact k _ H2 g3.1 g3.2 s2
end
end U

set_option maxRecDepth 100000
set_option maxHeartbeats 4000000
namespace U
open PySem PySem.Spec PyProof.Rows
open L2 hiding Fun CX0 E0 pass0 Fun.binds
open C8 Lx SX StX
/-! texts of rules -/
def stT (s : Stf) : Str := W s.1 ++ ":" ++ W [s.2]
def ruWs (f : List Bool) (ss : List Stf) : List Str := "flag" :: W f :: (if ss = [] then [] else "put" :: ss.map stT)
def ruT (f : List Bool) (ss : List Stf) : Str := Txt.join " " (ruWs f ss)
theorem lenC (a b : Str) : (a ++ b).length = a.length + b.length := by
  rw [TL.len_tl, TL.len_tl a, TL.len_tl b]
  have := TL.tl_append a b
  show (TL.tl (a ++ b)).length = _
  rw [this, List.length_append]
theorem no_in (c : Nat) (h : ¬ c = 48 ∧ ¬ c = 49) (l : List Bool) : c ∉ TL.tl (W l) := by
  show c ∉ l.map bt
  intro z
  obtain ⟨b, _, e⟩ := List.mem_map.mp z
  cases b
  · exact h.1 e.symm
  · exact h.2 e.symm
theorem sp_tl : TL.tl (" " : Str) = 32 :: [] := by decide +kernel
theorem co_tl : TL.tl (":" : Str) = 58 :: [] := by decide +kernel
theorem sp_st (s : Stf) : (32 : Nat) ∉ TL.tl (stT s) := by
  unfold stT
  rw [TL.tl_append, TL.tl_append, co_tl]
  intro z
  rcases List.mem_append.mp z with z | z
  · rcases List.mem_append.mp z with z | z
    · exact no_in 32 (by decide) _ z
    · exact absurd (List.mem_singleton.mp z) (by decide)
  · exact no_in 32 (by decide) _ z
theorem sp_ws (f : List Bool) (ss : List Stf) : ∀ p ∈ ruWs f ss, (32 : Nat) ∉ TL.tl p := by
  intro p hp
  unfold ruWs at hp
  rcases List.mem_cons.mp hp with rfl | hp
  · decide +kernel
  · rcases List.mem_cons.mp hp with rfl | hp
    · exact no_in 32 (by decide) _
    · split at hp
      · cases hp
      · rcases List.mem_cons.mp hp with rfl | hp
        · decide +kernel
        · obtain ⟨s, _, rfl⟩ := List.mem_map.mp hp
          exact sp_st s
theorem ruT_split (f : List Bool) (ss : List Stf) : Txt.split (ruT f ss) " " = ruWs f ss :=
  TL.split_join sp_tl (by decide +kernel) (by unfold ruWs; exact List.cons_ne_nil _ _) (sp_ws f ss)
theorem stT_part (s : Stf) : Txt.partition (stT s) ":" = (W s.1, (":" : Str), W [s.2]) := TL.partition_app co_tl (no_in 58 (by decide) _)
theorem stT_inj {s t : Stf} (h : stT s = stT t) : s = t := by
  have e := congrArg (fun z => Txt.partition z ":") h
  simp only [stT_part] at e
  have e1 := W_inj (congrArg Prod.fst e)
  have e2 := W_inj (congrArg (fun z => z.2.2) e)
  exact Prod.ext e1 (List.cons.inj e2).1
theorem map_stT_inj : ∀ {ss ts : List Stf}, ss.map stT = ts.map stT → ss = ts
  | [], [], _ => rfl
  | [], _ :: _, h => by simp at h
  | _ :: _, [], h => by simp at h
  | a :: l, b :: m, h => by
    rw [List.map_cons, List.map_cons] at h
    injection h with h1 h2
    rw [stT_inj h1, map_stT_inj h2]
theorem ruT_inj {f f' : List Bool} {ss ss' : List Stf} (h : ruT f ss = ruT f' ss') : f = f' ∧ ss = ss' := by
  have e := congrArg (fun z => Txt.split z " ") h
  simp only [ruT_split] at e
  unfold ruWs at e
  injection e with _ e
  injection e with e1 e2
  refine ⟨W_inj e1, ?_⟩
  by_cases c : ss = []
  · by_cases c' : ss' = []
    · rw [c, c']
    · rw [if_pos c, if_neg c'] at e2; cases e2
  · by_cases c' : ss' = []
    · rw [if_neg c, if_pos c'] at e2; cases e2
    · rw [if_neg c, if_neg c'] at e2
      injection e2 with _ e2
      exact map_stT_inj e2
theorem ruT_eq {f f' : List Bool} {ss ss' : List Stf} : ruT f ss = ruT f' ss' ↔ (f = f' ∧ ss = ss') := ⟨ruT_inj, fun h => by rw [h.1, h.2]⟩
/-! a sorted row of stuffs is one -/
theorem key_inj {s t : Stf} (h : key s = key t) : s = t := by
  have e1 := W_inj (congrArg Prod.fst h)
  have e2 := W_inj (congrArg Prod.snd h)
  exact Prod.ext e1 (List.cons.inj e2).1
theorem lex_anti {s t : Stf} (h1 : SrT.lexT (key s) (key t) = false) (h2 : SrT.lexT (key t) (key s) = false) : s = t := by
  refine key_inj ?_
  rcases SrT.lexT_no.mp h1 with a | ⟨a, b⟩
  · rcases SrT.lexT_no.mp h2 with c | ⟨c, d⟩
    · exact absurd c (List.lt_asymm a)
    · rw [c] at a; exact absurd a (List.lt_irrefl _)
  · rcases SrT.lexT_no.mp h2 with c | ⟨c, d⟩
    · rw [a] at c; exact absurd c (List.lt_irrefl _)
    · refine Prod.ext a ?_
      exact TL.ext_tl (List.le_antisymm (List.not_lt.mp d) (List.not_lt.mp b))
theorem sorted_one : ∀ {ss ts : List Stf}, ss.Perm ts → SortedS ss → SortedS ts → ss = ts
  | [], ts, p, _, _ => (List.Perm.nil_eq p)
  | a :: l, [], p, _, _ => absurd (List.Perm.eq_nil p) (List.cons_ne_nil _ _)
  | a :: l, b :: m, p, h1, h2 => by
    obtain ⟨a1, a2⟩ := List.pairwise_cons.mp h1
    obtain ⟨b1, b2⟩ := List.pairwise_cons.mp h2
    have e : a = b := by
      rcases List.mem_cons.mp (p.mem_iff.mp (List.mem_cons_self (a := a) (l := l))) with z | z
      · exact z
      · rcases List.mem_cons.mp (p.mem_iff.mpr (List.mem_cons_self (a := b) (l := m))) with y | y
        · exact y.symm
        · exact lex_anti (b1 a z) (a1 b y)
    subst e
    rw [sorted_one (List.Perm.cons_inv p) a2 b2]
theorem RuAt.few {C : Addr} {H : Hp} {a : Addr} {f : List Bool} {ss : List Stf} (h : RuAt C H a f ss) : ∃ dx t, H a = some (.ins C dx (ruF f t)) := by
  obtain ⟨dx, t, _, _, h1, _⟩ := h
  exact ⟨dx, t, h1⟩
/-- a rule that is small enough for its text -/
structure RuSm (f : List Bool) (ss : List Stf) : Prop where
  fl : f.length ≤ 1000
  few : ss.length ≤ 1000
  long : ∀ s ∈ ss, s.1.length ≤ 9
theorem StOk.sm {f : List Bool} {ss : List Stf} (h : StOk ss) (hf : f.length ≤ 1000) : RuSm f ss := ⟨hf, h.few, h.l9⟩
def spRuStr (C : Addr) : Sp := fun vs H Q _ => ∃ (a : Addr) (f : List Bool) (ss : List Stf), vs = [.ref a] ∧ RuAt C H a f ss ∧ RuSm f ss ∧ ∀ H', Same H H' → Q (.str (ruT f ss)) H'
def spRuEq (C : Addr) : Sp := fun vs H Q _ => ∃ (a b : Addr) (f f' : List Bool) (ss ss' : List Stf), vs = [.ref a, .ref b] ∧ RuAt C H a f ss ∧ RuSm f ss ∧ RuAt C H b f' ss' ∧ RuSm f' ss' ∧ ∀ H', Same H H' → Q (.bl (decide (f = f' ∧ ss = ss'))) H'
def spRuLen (C : Addr) : Sp := fun vs H Q _ => ∃ (a : Addr) (f : List Bool) (ss : List Stf), vs = [.ref a] ∧ RuAt C H a f ss ∧ Q (.int (ss.length : Nat)) H
theorem stT_len {s : Stf} (h : s.1.length ≤ 9) : (stT s).length ≤ 11 := by
  unfold stT
  rw [lenC, lenC, W_len, W_len, show (":" : Str).length = 1 by decide +kernel]
  simp only [List.length_cons, List.length_nil]
  omega
theorem sum_st : ∀ {ss : List Stf}, (∀ s ∈ ss, s.1.length ≤ 9) → ((ss.map stT).map (·.length)).sum ≤ 11 * ss.length
  | [], _ => Nat.le_refl _
  | s :: r, h => by
    have h1 := stT_len (h s List.mem_cons_self)
    have h2 := sum_st fun t ht => h t (List.mem_cons_of_mem _ ht)
    rw [List.map_cons, List.map_cons, List.sum_cons, List.length_cons]
    omega
section
variable {P : Program} {w : World} {K : PySem.W.Frag} {mg : Str → Option Value} {base : Heap}
theorem sc_Rule_str : FnScope ["self", "told", "pattern", "bit"] ["self"] (fnScope s_Rule_str) := fnScope_by (by decide +kernel)
theorem met_Rule_str {f C : Addr} {fd : FuncData} (F : C8.Fun K "__str__" "Rule.__str__" s_Rule_str f fd) (me : Meth K C "__str__" f) (b : Binds K fd ["self"] []) (T : Tx mg) (RT : RuT K C) : Met P w K mg base 1 C "__str__" (spRuStr C) [] := by
  refine met0 RT.cl me F b sc_Rule_str (fun vs H Q E h => ?_) (fun cdv A outer s H vs Q E hr h => ?_)
  · obtain ⟨_, _, _, rfl, _⟩ := h; rfl
  · obtain ⟨a, fl, ss, rfl, hR, sm, k⟩ := h
    refine ⟨_, (pss_cons (ps_setLc (i := 1) (own := [("pattern", 2), ("bit", 3)]) (g := gTup K 2 (gCons (gName 2) (gCons (gName 3) gNil))) (by rfl) sc_Rule_str.nd rfl rfl (sw_true rfl rfl rfl (by decide +kernel)) (pi_tup (pe_fld (pv 0) rfl)) (blkOk_by (own := [("pattern", 2), ("bit", 3)]) (N := ["self", "told", "pattern", "bit"]) (sc := fnScope s_Rule_str) (by decide +kernel)) (fun _ _ _ _ _ => (pg_tup rfl (pgs_cons (pg_name (i := 2) sc_Rule_str.nd rfl (.inl rfl)) (pgs_cons (pg_name (i := 3) sc_Rule_str.nd rfl (.inl rfl)) pgs_nil)))) (fun _ _ _ _ _ => pts_nil) (fun _ _ _ _ _ => (pe_jn (.cons (pe_fmt (pv 2)) (.cons pe_str (.cons (pe_fmt (pv 3)) .nil))))))
    (pss_one (ps_ret (pe_join pe_str (pe_lst (pa_cons pe_str (pa_cons (pe_fld (pv 0) rfl) (pa_star (pe_ifExp (pt_cmpR op_gt (pe_callB call_len_seq (by rfl) T.b_len (by decide +kernel) (pa_cons (pv 1) pa_nil)) pe_int (nomark _)) (pe_lst (pa_cons pe_str (pa_star (pv 1) pa_nil))) (pe_lst pa_nil)) pa_nil)))))))), ?_⟩
    obtain ⟨dx, t, ps, kb, ha, ht, hv, rfl⟩ := id hR
    refine ⟨_, rfl, a, C, dx, _, _, rfl, ha, RT.cl, RT.nS, ruF_stuffs _ _, t, rfl, ⟨_, SqT.of ht⟩, fun D nD => ?_⟩
    refine lc_it (walk_tup (xs := ps.map V.ref)) (fun i H2 => Same H H2 ∧ H2 D = some (.lst ((((ps.map kb).take i).map stT).map V.str))) ⟨same_upd nD, upd_same⟩ (fun i H2 _ h2 => SqT.of (h2.1 _ _ ht)) ?_ ?_
    · rintro i x H2 H3 hi ⟨s2, hD⟩ ⟨rfl, hx⟩
      rw [List.getElem?_map] at hx
      obtain ⟨q, hq, rfl⟩ := Option.map_eq_some_iff.mp hx
      have hqm := List.mem_of_getElem? hq
      have hqv := s2 _ _ (hv q hqm)
      have l9 := sm.long (kb q) (List.mem_map.mpr ⟨q, hqm, rfl⟩)
      have e1 : Str.empty ++ W (kb q).1 = W (kb q).1 := by
        have e : Str.empty = W [] := by decide +kernel
        rw [e, W_cat]; rfl
      have l1 : (":" : Str).length = 1 := by decide +kernel
      refine ⟨q, _, rfl, SqT.of hqv, rfl, _, _, rfl, _, _, rfl, rfl, rfl, ?_⟩
      refine ⟨_, rfl, .inl ⟨_, rfl, by rw [W_len]; exact sl_len (by omega), _, rfl, by rw [e1, W_len]; exact sl_len (by omega), ?_⟩⟩
      refine ⟨_, rfl, by rw [e1, lenC, W_len, l1]; exact sl_len (by omega), ?_⟩
      refine ⟨_, rfl, .inl ⟨_, rfl, by rw [W_len]; exact sl_len (by show 1 ≤ 100000; decide), _, rfl, by rw [e1, lenC, lenC, W_len, W_len, l1]; exact sl_len (by simp only [List.length_cons, List.length_nil]; omega), ?_⟩⟩
      refine ⟨_, hD, ?_, ?_, ?_⟩
      · rw [List.length_map, List.length_map, List.length_take]
        have := sm.few
        exact sl_lt (by omega)
      · intro c o e
        rw [upd_ne (ne_of_none e nD)]
        exact s2 _ _ e
      · rw [upd_same, e1, List.take_add_one, List.getElem?_map, hq]
        simp [stT]
    · rintro H2 ⟨s2, hD⟩
      have el : ((ps.map kb).take (ps.map V.ref).length) = ps.map kb := List.take_of_length_le (by simp)
      rw [el] at hD
      have lk : (ps.map kb).length ≤ 1000 := sm.few
      have ls := sum_st sm.long
      refine ⟨⟨_, rfl⟩, ?_⟩
      refine ⟨_, rfl, a, C, dx, _, _, rfl, s2 _ _ ha, RT.cl, RT.nF, ruF_flag _ _, ?_⟩
      refine ⟨_, rfl, D, _, rfl, .inl (SqL.of hD), _, _, rfl, rfl, _, rfl, ?_⟩
      have l4 : ("flag" : Str).length = 4 := by decide +kernel
      have l3 : ("put" : Str).length = 3 := by decide +kernel
      have l1 : (" " : Str).length = 1 := by decide +kernel
      by_cases c : ps.map kb = []
      · refine iteDF (by rw [c]; decide) ?_
        refine ⟨Nat.zero_le _, fun p np => ?_⟩
        refine ⟨p, _, rfl, .inr (SqL.of upd_same), ?_⟩
        refine ⟨by show 2 ≤ sizeLine; decide, fun q nq => ?_⟩
        refine ⟨_, q, ["flag", W fl], rfl, rfl, .inl (SqL.of upd_same), ?_, ?_⟩
        · rw [l1]
          simp only [List.map_cons, List.map_nil, List.sum_cons, List.sum_nil, l4, W_len, List.length_cons, List.length_nil]
          have := sm.fl
          omega
        · have := k _ ((s2.trans (same_upd np)).trans (same_upd (o := .lst [.str "flag", .str (W fl)]) nq))
          unfold ruT ruWs at this
          rw [if_pos c] at this
          exact this
      · have c1 : 0 < (ps.map kb).length := List.length_pos_iff.mpr c
        refine iteDT (by rw [List.length_map, List.length_map]; omega) ?_
        refine ⟨_, rfl, D, _, rfl, .inr (SqL.of hD), by rw [List.length_cons, List.append_nil, List.length_map, List.length_map]; exact sl_len (by omega), fun p np => ?_⟩
        refine ⟨p, _, rfl, .inr (SqL.of upd_same), by rw [List.length_cons, List.length_cons, List.append_nil, List.length_cons, List.append_nil, List.length_map, List.length_map]; exact sl_len (by omega), fun q nq => ?_⟩
        refine ⟨_, q, "flag" :: W fl :: "put" :: (ps.map kb).map stT, rfl, rfl, .inl (SqL.of (by rw [upd_same]; simp)), ?_, ?_⟩
        · rw [l1]
          simp only [List.map_cons, List.sum_cons, l4, l3, W_len, List.length_cons, List.length_map] at ls lk ⊢
          have := sm.fl
          omega
        · have e := (s2.trans (same_upd np)).trans (same_upd (o := .lst ((V.str "flag" :: V.str (W fl) :: ((V.str "put" :: (((ps.map kb).map stT).map V.str ++ [])) ++ [])))) nq)
          have := k _ e
          unfold ruT ruWs at this
          rw [if_neg c] at this
          exact this
theorem sc_Rule_eq : FnScope ["self", "other"] ["self", "other"] (fnScope s_Rule_eq) := fnScope_by (by decide +kernel)
theorem met_Rule_eq {f C : Addr} {fd : FuncData} (F : C8.Fun K "__eq__" "Rule.__eq__" s_Rule_eq f fd) (me : Meth K C "__eq__" f) (b : Binds K fd ["self", "other"] []) (T : Tx mg) (RT : RuT K C) (g_Rule : mg "Rule" = some (.ref C)) (IS_Rule : IsT K C)
    (c_Rule_str : Met P w K mg base 1 C "__str__" (spRuStr C) []) : Met P w K mg base 4 C "__eq__" (spRuEq C) [] := by
  refine met0 RT.cl me F b sc_Rule_eq (fun vs H Q E h => ?_) (fun cdv A outer s H vs Q E hr h => ?_)
  · obtain ⟨_, _, _, _, _, _, rfl, _⟩ := h; rfl
  · obtain ⟨a, b, fl, fl', ss, ss', rfl, ra, h1, rb, h2, k⟩ := h
    refine ⟨_, (pss_one (ps_ret (pe_and (pe_callB call_isi (by rfl) T.b_isinstance (by decide +kernel) (pa_cons (pv 1) (pa_cons (pe_glob (v := .ref C) (by rfl) g_Rule rfl) pa_nil))) (pe_one (pe_cmpR op_eq (pe_callTy (call_str_own c_Rule_str hr (by decide)) (by rfl) T.b_str (by decide +kernel) (pa_cons (pv 0) pa_nil)) (pe_callTy (call_str_own c_Rule_str hr (by decide)) (by rfl) T.b_str (by decide +kernel) (pa_cons (pv 1) pa_nil)) (nomark _)))))), ?_⟩
    obtain ⟨dx, t, ha⟩ := ra.few
    obtain ⟨dy, t', hb⟩ := rb.few
    refine ⟨_, rfl, _, _, _, _, true, rfl, .own C, IS_Rule.ty hb, IS_Rule.one, _, rfl, ?_⟩
    refine ⟨_, rfl, a, dx, _, rfl, ha, a, fl, ss, rfl, ra, h1, fun H1 s1 => ⟨_, rfl, ?_⟩⟩
    refine ⟨_, rfl, b, dy, _, rfl, s1 _ _ hb, b, fl', ss', rfl, rb.same s1, h2, fun H2 s2 => ⟨_, rfl, rfl, ?_⟩⟩
    have e : decide (V.str (ruT fl ss) = V.str (ruT fl' ss')) = decide (fl = fl' ∧ ss = ss') := by
      rw [decide_eq_decide]
      exact ⟨fun z => ruT_inj (V.str.inj z), fun z => by rw [z.1, z.2]⟩
    rw [e]
    exact k H2 (s1.trans s2)
theorem sc_Rule_len : FnScope ["self"] ["self"] (fnScope s_Rule_len) := fnScope_by (by decide +kernel)
theorem met_Rule_len {f C : Addr} {fd : FuncData} (F : C8.Fun K "__len__" "Rule.__len__" s_Rule_len f fd) (me : Meth K C "__len__" f) (b : Binds K fd ["self"] []) (T : Tx mg) (RT : RuT K C) : Met P w K mg base 1 C "__len__" (spRuLen C) [] := by
  refine met0 RT.cl me F b sc_Rule_len (fun vs H Q E h => ?_) (fun cdv A outer s H vs Q E hr h => ?_)
  · obtain ⟨_, _, _, rfl, _⟩ := h; rfl
  · obtain ⟨a, fl, ss, rfl, hR, k⟩ := h
    refine ⟨_, (pss_one (ps_ret (pe_callB call_len_seq (by rfl) T.b_len (by decide +kernel) (pa_cons (pe_fld (pv 0) rfl) pa_nil)))), ?_⟩
    obtain ⟨dx, t, ps, kb, ha, ht, hv, rfl⟩ := id hR
    refine ⟨_, rfl, a, C, dx, _, _, rfl, ha, RT.cl, RT.nS, ruF_stuffs _ _, t, _, rfl, .inr (SqT.of ht), ?_⟩
    rw [List.length_map] at k ⊢
    exact k
end
end U

set_option maxRecDepth 100000
namespace U
/-! 0 and 1 exchanged -/
def sw (l : List Bool) : List Bool := l.map not
def swS (s : Stf) : Stf := (sw s.1, !s.2)
theorem sw_len (l : List Bool) : (sw l).length = l.length := List.length_map _
theorem sw_sw (l : List Bool) : sw (sw l) = l := by
  unfold sw
  rw [List.map_map]
  exact (List.map_congr_left fun b _ => Bool.not_not b).trans (List.map_id l)
theorem sw_app (a b : List Bool) : sw (a ++ b) = sw a ++ sw b := List.map_append
theorem sw_inj {a b : List Bool} (h : sw a = sw b) : a = b := by rw [← sw_sw a, h, sw_sw]
theorem swS_swS (s : Stf) : swS (swS s) = s := by
  unfold swS
  exact Prod.ext (sw_sw s.1) (Bool.not_not s.2)
theorem map_sw2 (ss : List Stf) : (ss.map swS).map swS = ss := by
  rw [List.map_map]
  exact (List.map_congr_left fun s _ => swS_swS s).trans (List.map_id ss)
theorem sw_suf {p l : List Bool} : sw p <:+ sw l ↔ p <:+ l := by
  constructor
  · rintro ⟨t, h⟩
    refine ⟨sw t, ?_⟩
    have := congrArg sw h
    rw [sw_app, sw_sw, sw_sw] at this
    exact this
  · rintro ⟨t, rfl⟩
    exact ⟨sw t, by rw [sw_app]⟩
theorem sw_isSuf (p l : List Bool) : (sw p).isSuffixOf (sw l) = p.isSuffixOf l := by
  rw [Bool.eq_iff_iff, List.isSuffixOf_iff_suffix, List.isSuffixOf_iff_suffix]
  exact sw_suf
theorem put_sw (l : List Bool) : ∀ ss : List Stf, putM (ss.map swS) (sw l) = (putM ss l).map not
  | [] => rfl
  | s :: r => by
    unfold putM
    rw [List.map_cons, List.find?_cons, List.find?_cons]
    show Option.map (fun x => x.2) (match (sw s.1).isSuffixOf (sw l) with | true => some (swS s) | false => _) = _
    rw [sw_isSuf]
    cases s.1.isSuffixOf l with
    | true => rfl
    | false => exact put_sw l r
theorem Ins.sw {ss : List Stf} {l x : List Bool} (h : Ins ss l x) : Ins (ss.map swS) (U.sw l) (U.sw x) := by
  induction h with
  | stop h => exact .stop (by rw [put_sw, h]; rfl)
  | more h _ ih =>
    refine .more (by rw [put_sw, h]; rfl) ?_
    rw [sw_app] at ih
    exact ih
theorem Reach.sw {ss : List Stf} {l : List Bool} (h : Reach ss l) : Reach (ss.map swS) (U.sw l) := by
  induction h with
  | nil => exact .nil
  | next _ i ih =>
    have := i.sw
    rw [sw_app] at this
    have r := Reach.next ih this
    rw [sw_app, sw_app]
    exact r
theorem OkN.sw {n : Nat} {ss : List Stf} (h : OkN n ss) : OkN n (ss.map swS) := fun l r b => by
  have r2 := r.sw
  rw [map_sw2] at r2
  obtain ⟨x, hx, hl⟩ := h _ r2 (!b)
  refine ⟨U.sw x, ?_, by rw [sw_len]; exact hl⟩
  have := hx.sw
  rw [sw_app, sw_sw] at this
  have e : U.sw [!b] = [b] := by cases b <;> rfl
  rw [e] at this
  exact this
theorem OkR.sw {ss : List Stf} (h : OkR ss) : OkR (ss.map swS) := fun l r b => by
  have r2 := r.sw
  rw [map_sw2] at r2
  obtain ⟨x, hx⟩ := h _ r2 (!b)
  refine ⟨U.sw x, ?_⟩
  have := hx.sw
  rw [sw_app, sw_sw] at this
  have e : U.sw [!b] = [b] := by cases b <;> rfl
  rw [e] at this
  exact this
theorem Body.sw {ss : List Stf} {m l : List Bool} (h : Body ss m l) : Body (ss.map swS) (U.sw m) (U.sw l) := by
  induction h with
  | nil => exact .nil
  | snoc _ i ih =>
    have := i.sw
    rw [sw_app] at this
    have r := Body.snoc ih this
    rw [sw_app, sw_app, sw_app]
    exact r
theorem SufFree.sw {ss : List Stf} (h : SufFree ss) : SufFree (ss.map swS) := by
  unfold SufFree at h ⊢
  rw [List.pairwise_map]
  refine h.imp fun {a b} hab => ?_
  exact ⟨fun z => hab.1 (sw_suf.mp z), fun z => hab.2 (sw_suf.mp z)⟩
end U

set_option maxRecDepth 100000
namespace U
theorem sw_pre {p l : List Bool} : sw p <+: sw l ↔ p <+: l := by
  constructor
  · rintro ⟨t, h⟩
    refine ⟨sw t, ?_⟩
    have := congrArg sw h
    rw [sw_app, sw_sw, sw_sw] at this
    exact this
  · rintro ⟨t, rfl⟩
    exact ⟨sw t, by rw [sw_app]⟩
theorem sw_drop (i : Nat) (l : List Bool) : (sw l).drop i = sw (l.drop i) := by unfold sw; rw [List.map_drop]
theorem sw_tl (n : Nat) (l : List Bool) : tl n (sw l) = sw (tl n l) := by unfold tl; rw [sw_len, sw_drop]
theorem SpL.sw {f l : List Bool} : SpL (U.sw f) (U.sw l) ↔ SpL f l := by
  unfold SpL
  simp only [sw_len, ← sw_app, sw_drop, sw_pre]
theorem infx_sw (f l : List Bool) : infx (sw f) (sw l) = infx f l := by
  rw [Bool.eq_iff_iff, infx_iff, infx_iff]
  simp only [sw_len, sw_drop, sw_pre]
theorem bordM_sw (f l : List Bool) : bordM (sw f) (sw l) = bordM f l := by
  rw [Bool.eq_iff_iff, bordM_iff, bordM_iff, SpL.sw]
theorem posM_sw (l f : List Bool) : posM (sw l) (sw f) = posM l f := by
  cases e : posM l f with
  | none =>
    rw [posM_none] at e ⊢
    simp only [sw_len, sw_drop, sw_pre]
    exact e
  | some i =>
    rw [posM_some] at e ⊢
    simp only [sw_len, sw_drop, sw_pre]
    exact e
theorem bodyF_sw {ss : List Stf} (o : OkN 39 ss) (m : List Bool) : bodyF (ss.map swS) (sw m) = sw (bodyF ss m) := ((body_ex o m).sw.isF o.sw).symm
theorem bodyF_congr {ss ts : List Stf} (o : OkN 39 ss) (h : ∀ l, putM ss l = putM ts l) (m : List Bool) : bodyF ss m = bodyF ts m := ((body_ex o m).congr h).isF (o.congr h)
end U

set_option maxRecDepth 100000
set_option maxHeartbeats 4000000
namespace U
open PySem PySem.Spec PyProof.Rows
open L2 hiding Fun CX0 E0 pass0 Fun.binds
open C8 Lx SX StX
theorem longM_sw : ∀ ss : List Stf, longM (ss.map swS) = longM ss
  | [] => rfl
  | s :: r => by
    show max (sw s.1).length (longM (r.map swS)) = max s.1.length (longM r)
    rw [sw_len, longM_sw r]
theorem StOk.sw {ss : List Stf} (h : StOk ss) : StOk (ss.map swS) := ⟨by rw [List.length_map]; exact h.few, fun s hs => by
    obtain ⟨t, ht, rfl⟩ := List.mem_map.mp hs
    intro z
    exact h.pos t ht (List.length_eq_zero_iff.mp (by rw [← sw_len]; exact List.length_eq_zero_iff.mpr z)), by rw [longM_sw]; exact h.long, h.free.sw⟩
def spOther : Sp := fun vs H Q _ => ∃ b : Bool, vs = [.str (W [b])] ∧ Q (.str (W [!b])) H
def spSwW : Sp := fun vs H Q _ => ∃ l : List Bool, vs = [.str (W l)] ∧ l.length ≤ 10000 ∧ ∀ H', Same H H' → Q (.str (W (sw l))) H'
def spSwapped (C : Addr) : Sp := fun vs H Q _ => ∃ (a : Addr) (f : List Bool) (ss : List Stf), vs = [.ref a] ∧ RuAt C H a f ss ∧ StOk ss ∧ OkR ss ∧ 2 ≤ f.length ∧ f.length ≤ 1000 ∧
  ∀ x ss' H', Same H H' → ss'.Perm (ss.map swS) → SortedS ss' → RuAt C H' x (sw f) ss' → Q (.ref x) H'
/-- a pair more in a list of stuffs -/
theorem st_push {H : Hp} {D z : Addr} {qs : List Addr} {kc : Addr → Stf} {zs : List V} {s : Stf} (hD : H D = some (.lst (qs.map V.ref))) (hS : StV H kc qs) (hz : H z = none) (ez : zs = [.str (W s.1), .str (W [s.2])]) :
    ∃ kc' : Addr → Stf, upd (upd H z (.tup zs)) D (.lst (qs.map V.ref ++ [.ref z])) D = some (.lst ((qs ++ [z]).map V.ref)) ∧ StV (upd (upd H z (.tup zs)) D (.lst (qs.map V.ref ++ [.ref z]))) kc' (qs ++ [z]) ∧ (qs ++ [z]).map kc' = qs.map kc ++ [s] := by
  subst ez
  have zq : ∀ y ∈ qs, y ≠ z := fun y hy => ne_of_none (hS y hy) hz
  have nDz : z ≠ D := (ne_of_none hD hz).symm
  refine ⟨fun y => if y = z then s else kc y, by rw [upd_same, List.map_append]; rfl, fun y hy => ?_, ?_⟩
  · have ny : y ≠ D := by
      rcases List.mem_append.mp hy with h1 | h1
      · exact ne_of (hS y h1) hD (by intro z; cases z)
      · rw [List.mem_singleton.mp h1]; exact nDz
    rw [upd_ne ny]
    dsimp only
    rcases List.mem_append.mp hy with h1 | h1
    · rw [if_neg (zq y h1), upd_ne (zq y h1)]
      exact hS y h1
    · rw [List.mem_singleton.mp h1, if_pos rfl]
      exact upd_same
  · rw [List.map_append]
    congr 1
    · exact List.map_congr_left fun y hy => if_neg (zq y hy)
    · show [if z = z then s else kc z] = [s]
      rw [if_pos rfl]
/-- a rule made of stuffs in a list or a tuple -/
theorem mk_ru {K : PySem.W.Frag} {C : Addr} {H : Hp} {l : Addr} {z : Str} {f : List Bool} {ps : List Addr} {kb : Addr → Stf} {R : Addr → Hp → Prop} {E : XK} (hz : z = W f) (hl : Sq K H l (ps.map V.ref)) (hs : StV H kb ps) (ok : StOk (ps.map kb)) (hO : OkR (ps.map kb)) (h2 : 2 ≤ f.length) (h3 : f.length ≤ 1000)
    (k : ∀ x ss' H', Same H H' → ss'.Perm (ps.map kb) → SortedS ss' → RuAt C H' x f ss' → R x H') :
    ∀ x dx, H x = none → H dx = none → dx ≠ x → spRuInit K C [.ref x, .str z, .ref l] (upd (upd H dx (.own x)) x (.ins C dx [])) (fun v H2 => v = .non ∧ R x H2) E := by
  subst hz
  intro x dx nx ndx nex
  have sm : Same H (upd (upd H dx (.own x)) x (.ins C dx [])) := fun c o e => by
    rw [upd_ne (ne_of_none e nx), upd_ne (ne_of_none e ndx)]; exact e
  exact ⟨x, dx, l, f, ps, kb, rfl, upd_same, hl.of_same sm, hs.same sm, ok, hO, h2, h3, fun H' ss' keep pm srt hR => ⟨rfl, k x ss' H' (Same.made nx ndx keep) pm srt hR⟩⟩
/-- a rule with one stuff, written -/
theorem mk_one {K : PySem.W.Frag} {C : Addr} {H : Hp} {p1 p2 : Addr} {z u v : Str} {f p : List Bool} {b : Bool} {R : Addr → Hp → Prop} {E : XK} (hz : z = W f) (hu : u = W p) (hv : v = W [b]) (n1 : H p1 = none) (n2 : upd H p1 (.tup [.str u, .str v]) p2 = none) (ok : StOk [(p, b)]) (hO : OkR [(p, b)]) (h2 : 2 ≤ f.length) (h3 : f.length ≤ 1000)
    (k : ∀ x H', Same H H' → RuAt C H' x f [(p, b)] → R x H') :
    ∀ x dx, upd (upd H p1 (.tup [.str u, .str v])) p2 (.lst [.ref p1]) x = none → upd (upd H p1 (.tup [.str u, .str v])) p2 (.lst [.ref p1]) dx = none → dx ≠ x →
      spRuInit K C [.ref x, .str z, .ref p2] (upd (upd (upd (upd H p1 (.tup [.str u, .str v])) p2 (.lst [.ref p1])) dx (.own x)) x (.ins C dx [])) (fun v H2 => v = .non ∧ R x H2) E := by
  subst hu hv
  refine mk_ru (ps := [p1]) (kb := fun _ => (p, b)) hz (.inl (SqL.of upd_same)) (fun t ht => ?_) ok hO h2 h3 fun x ss' H' s pm srt hR => ?_
  · rw [List.mem_singleton.mp ht, upd_ne (fun z => by rw [z, upd_same] at n2; cases n2)]
    exact upd_same
  · have es : ss' = [(p, b)] := List.perm_singleton.mp pm
    subst es
    exact k x H' (((same_upd n1).trans (same_upd n2)).trans s) hR
section
variable {P : Program} {w : World} {K : PySem.W.Frag} {mg : Str → Option Value} {base : Heap}
theorem sc_other : FnScope ["bit"] ["bit"] (fnScope s_other) := fnScope_by (by decide +kernel)
theorem cal_other {f : Addr} {fd : FuncData} (F : Def K mg "other" s_other f fd) (b : Binds K fd ["bit"] []) (T : Tx mg) : Cal P w K mg base 1 "other" spOther [] := by
  refine cal0 F b .nil sc_other (fun vs H Q E h => ?_) (fun cdv A outer s H vs Q E hr h => ?_)
  · obtain ⟨_, rfl, _⟩ := h; rfl
  · obtain ⟨b, rfl, k⟩ := h
    refine ⟨_, (pss_one (ps_ret (pe_ifExp (pt_cmpR op_eq (pv 0) pe_str (nomark _)) pe_str pe_str))), ?_⟩
    refine ⟨_, rfl, rfl, _, rfl, ?_⟩
    cases b with
    | false =>
      refine iteDT (show V.str (W [false]) = V.str "0" by decide +kernel) ?_
      show Q (.str "1") H
      rw [W_1]; exact k
    | true =>
      refine iteDF (show ¬ V.str (W [true]) = V.str "0" by decide +kernel) ?_
      show Q (.str "0") H
      rw [W_0]; exact k
theorem sc_swapped_word : FnScope ["word", "bit"] ["word"] (fnScope s_swapped_word) := fnScope_by (by decide +kernel)
theorem cal_swapped_word {f : Addr} {fd : FuncData} (F : Def K mg "swapped_word" s_swapped_word f fd) (b : Binds K fd ["word"] []) (T : Tx mg) (c_other : Cal P w K mg base 1 "other" spOther []) : Cal P w K mg base 2 "swapped_word" spSwW [] := by
  refine cal0 F b .nil sc_swapped_word (fun vs H Q E h => ?_) (fun cdv A outer s H vs Q E hr h => ?_)
  · obtain ⟨_, rfl, _⟩ := h; rfl
  · obtain ⟨l, rfl, hl, k⟩ := h
    refine ⟨_, (pss_one (ps_ret (pe_join pe_str (pe_lc (own := [("bit", 1)]) (g := gName 1) (by rfl) sc_swapped_word.nd (pi_str (pv 0)) (blkOk_by (own := [("bit", 1)]) (N := ["word", "bit"]) (sc := fnScope s_swapped_word) (by decide +kernel)) (fun _ _ _ _ _ => (pg_name (i := 1) sc_swapped_word.nd rfl (.inl rfl))) (fun _ _ _ _ _ => pts_nil) (fun _ _ _ _ _ => (pe_c c_other hr (by decide) rfl (pa_cons (pv 1) pa_nil))))))), ?_⟩
    refine ⟨⟨_, rfl⟩, _, rfl, _, rfl, fun D nD => ?_⟩
    refine lc_it walk_str (fun i H2 => Same H H2 ∧ H2 D = some (.lst (bitsV (sw (l.take i))))) ⟨same_upd nD, upd_same⟩ (fun _ _ _ _ => trivial) ?_ ?_
    · rintro i x H2 H3 hi ⟨s2, hD⟩ ⟨rfl, c, hc, rfl⟩
      obtain ⟨bb, hbb, rfl⟩ := W_get hc
      refine ⟨rfl, _, rfl, bb, rfl, _, hD, ?_, ?_, ?_⟩
      · rw [bitsV_len, sw_len, List.length_take]; exact sl_lt (by omega)
      · intro c' o e'
        rw [upd_ne (ne_of_none e' nD)]
        exact s2 _ _ e'
      · rw [upd_same, bitsV_snoc, List.take_add_one, hbb, sw_app]
        rfl
    · rintro H2 ⟨s2, hD⟩
      rw [W_size, List.take_length] at hD
      refine ⟨_, D, _, rfl, rfl, .inl (SqL.of hD), ?_, ?_⟩
      · rw [lens_bits, empty_len, sw_len]; omega
      · show Q (.str (Txt.join "" ((sw l).map fun b => W [b]))) H2
        rw [join_bits]
        exact k H2 s2
theorem sc_Rule_swapped : FnScope ["self", "stuffs", "pattern", "bit"] ["self"] (fnScope s_Rule_swapped) := fnScope_by (by decide +kernel)
theorem met_swapped {f C : Addr} {fd : FuncData} (F : C8.Fun K "swapped" "Rule.swapped" s_Rule_swapped f fd) (me : Meth K C "swapped" f) (b : Binds K fd ["self"] []) (T : Tx mg) (RT : RuT K C) (c_swapped_word : Cal P w K mg base 2 "swapped_word" spSwW [])
    (m_Rule2 : Mak P w K mg base 5 "Rule" C (spRuInit K C) []) : Met P w K mg base 7 C "swapped" (spSwapped C) [] := by
  refine met0 RT.cl me F b sc_Rule_swapped (fun vs H Q E h => ?_) (fun cdv A outer s H vs Q E hr h => ?_)
  · obtain ⟨_, _, _, rfl, _⟩ := h; rfl
  · obtain ⟨a, fl, ss, rfl, hR, ok, hO, f2, f1000, k⟩ := h
    refine ⟨_, (pss_cons (ps_setLc (i := 1) (own := [("pattern", 2), ("bit", 3)]) (g := gTup K 2 (gCons (gName 2) (gCons (gName 3) gNil))) (by rfl) sc_Rule_swapped.nd rfl rfl (sw_true rfl rfl rfl (by decide +kernel)) (pi_tup (pe_fld (pv 0) rfl)) (blkOk_by (own := [("pattern", 2), ("bit", 3)]) (N := ["self", "stuffs", "pattern", "bit"]) (sc := fnScope s_Rule_swapped) (by decide +kernel)) (fun _ _ _ _ _ => (pg_tup rfl (pgs_cons (pg_name (i := 2) sc_Rule_swapped.nd rfl (.inl rfl)) (pgs_cons (pg_name (i := 3) sc_Rule_swapped.nd rfl (.inl rfl)) pgs_nil)))) (fun _ _ _ _ _ => pts_nil) (fun _ _ _ _ _ => (pe_tup (pa_cons (pe_c c_swapped_word hr (by decide) rfl (pa_cons (pv 2) pa_nil)) (pa_cons (pe_c c_swapped_word hr (by decide) rfl (pa_cons (pv 3) pa_nil)) pa_nil)))))
    (pss_one (ps_ret (pe_mk m_Rule2 hr (by decide) rfl (pa_cons (pe_c c_swapped_word hr (by decide) rfl (pa_cons (pe_fld (pv 0) rfl) pa_nil)) (pa_cons (pv 1) pa_nil)))))), ?_⟩
    obtain ⟨dx, t, ps, kb, ha, ht, hv, rfl⟩ := id hR
    refine ⟨_, rfl, a, C, dx, _, _, rfl, ha, RT.cl, RT.nS, ruF_stuffs _ _, t, rfl, ⟨_, SqT.of ht⟩, fun D nD => ?_⟩
    refine lc_it (walk_tup (xs := ps.map V.ref)) (fun i H2 => Same H H2 ∧ ∃ (qs : List Addr) (kc : Addr → Stf), H2 D = some (.lst (qs.map V.ref)) ∧ StV H2 kc qs ∧ qs.map kc = ((ps.map kb).take i).map swS) ⟨same_upd nD, [], fun _ => ([], false), upd_same, (fun _ h => nomatch h), rfl⟩ (fun i H2 _ h2 => SqT.of (h2.1 _ _ ht)) ?_ ?_
    · rintro i x H2 H3 hi ⟨s2, qs, kc, hD, hS, em⟩ ⟨rfl, hx⟩
      rw [List.getElem?_map] at hx
      obtain ⟨q, hq, rfl⟩ := Option.map_eq_some_iff.mp hx
      have hqm := List.mem_of_getElem? hq
      have hqv := s2 _ _ (hv q hqm)
      have l9 := ok.l9 (kb q) (List.mem_map.mpr ⟨q, hqm, rfl⟩)
      refine ⟨q, _, rfl, SqT.of hqv, rfl, _, _, rfl, _, _, rfl, rfl, rfl, ?_⟩
      refine ⟨_, rfl, (kb q).1, rfl, by omega, fun H4 s4 => ?_⟩
      refine ⟨_, rfl, [(kb q).2], rfl, by show 1 ≤ 10000; decide, fun H5 s5 => ?_⟩
      refine ⟨by show 2 ≤ sizeLine; decide, fun z nz => ?_⟩
      have s25 := s4.trans s5
      have hD5 := s25 _ _ hD
      have s26 := s25.trans (same_upd (o := .tup [.str (W (sw (kb q).1)), .str (W (sw [(kb q).2]))]) nz)
      have hD6 := s26 _ _ hD
      have nDz : z ≠ D := ne_of_none hD5 nz |>.symm
      have zq : ∀ y ∈ qs, y ≠ z := fun y hy => ne_of_none (s25 _ _ (hS y hy)) nz
      have lq : qs.length = i := by
        have := congrArg List.length em
        rw [List.length_map, List.length_map, List.length_take, List.length_map] at this
        have hi' := (List.getElem?_eq_some_iff.mp hq).1
        omega
      have hi' := (List.getElem?_eq_some_iff.mp hq).1
      have few := ok.few
      rw [List.length_map] at few
      refine ⟨_, hD6, by rw [List.length_map]; exact sl_lt (by omega), ?_, qs ++ [z], fun y => if y = z then swS (kb q) else kc y, ?_, ?_, ?_⟩
      · intro c o e
        rw [upd_ne (ne_of_none e nD)]
        exact s26 _ _ (s2 _ _ e)
      · rw [upd_same, List.map_append]; rfl
      · intro y hy
        have ny : y ≠ D := by
          rcases List.mem_append.mp hy with h1 | h1
          · exact ne_of (hS y h1) hD (by intro z; cases z)
          · rw [List.mem_singleton.mp h1]; exact nDz
        rw [upd_ne ny]
        dsimp only
        rcases List.mem_append.mp hy with h1 | h1
        · rw [if_neg (zq y h1)]
          exact s26 _ _ (hS y h1)
        · rw [List.mem_singleton.mp h1, if_pos rfl]
          exact upd_same
      · rw [List.map_append, List.take_add_one, List.getElem?_map, hq, List.map_append]
        congr 1
        · rw [← em]
          exact List.map_congr_left fun y hy => if_neg (zq y hy)
        · show [if z = z then swS (kb q) else kc z] = [swS (kb q)]
          rw [if_pos rfl]
    · rintro H2 ⟨s2, qs, kc, hD, hS, em⟩
      have el : ((ps.map kb).take (ps.map V.ref).length) = ps.map kb := List.take_of_length_le (by simp)
      rw [el] at em
      refine ⟨_, rfl, a, C, dx, _, _, rfl, s2 _ _ ha, RT.cl, RT.nF, ruF_flag _ _, fl, rfl, by omega, fun H3 s3 => ?_⟩
      refine ⟨_, rfl, fun x dx' nx ndx nex => ?_⟩
      have sm : Same H3 (upd (upd H3 dx' (.own x)) x (.ins C dx' [])) := fun c o e => by
        rw [upd_ne (ne_of_none e nx), upd_ne (ne_of_none e ndx)]; exact e
      refine ⟨x, dx', D, sw fl, qs, kc, rfl, upd_same, .inl (SqL.of (sm _ _ (s3 _ _ hD))), (hS.same s3).same sm, by rw [em]; exact ok.sw, by rw [em]; exact hO.sw, by rw [sw_len]; exact f2, by rw [sw_len]; exact f1000, fun H' ss' keep pm srt hR' => ⟨rfl, ?_⟩⟩
      rw [em] at pm
      exact k x ss' H' ((s2.trans s3).trans (Same.made nx ndx keep)) pm srt hR'
end
end U

set_option maxRecDepth 100000
set_option maxHeartbeats 4000000
namespace U
open PySem PySem.Spec PyProof.Rows
open L2 hiding Fun CX0 E0 pass0 Fun.binds
open C8 Lx SX StX
/-! all words of a size, ascending -/
def wdsP : Nat → List (List Bool)
  | 0 => [[]]
  | n + 1 => (wdsP n).map (false :: ·) ++ (wdsP n).map (true :: ·)
theorem wdsP_len : ∀ n, (wdsP n).length = 2 ^ n
  | 0 => rfl
  | n + 1 => by
    show ((wdsP n).map (false :: ·) ++ (wdsP n).map (true :: ·)).length = _
    rw [List.length_append, List.length_map, List.length_map, wdsP_len n, Nat.pow_succ]
    omega
theorem wdsP_size : ∀ {n : Nat} {w : List Bool}, w ∈ wdsP n → w.length = n
  | 0, w, h => by rw [List.mem_singleton.mp h]; rfl
  | n + 1, w, h => by
    rcases List.mem_append.mp h with h1 | h1
    · obtain ⟨v, hv, rfl⟩ := List.mem_map.mp h1
      rw [List.length_cons, wdsP_size hv]
    · obtain ⟨v, hv, rfl⟩ := List.mem_map.mp h1
      rw [List.length_cons, wdsP_size hv]
theorem num_acc : ∀ (w : List Bool) (a : Nat), w.foldl (fun n b => 2 * n + (if b then 1 else 0)) a = a * 2 ^ w.length + num w
  | [], a => by show a = a * 1 + 0; omega
  | b :: r, a => by
    have h1 := num_acc r (2 * a + (if b then 1 else 0))
    have h2 := num_acc r (2 * 0 + (if b then 1 else 0))
    show r.foldl _ (2 * a + (if b then 1 else 0)) = a * 2 ^ (r.length + 1) + r.foldl _ (2 * 0 + (if b then 1 else 0))
    rw [h1, h2, Nat.pow_succ, Nat.add_mul, Nat.add_mul]
    have : 2 * a * 2 ^ r.length = a * (2 ^ r.length * 2) := by rw [Nat.mul_comm 2 a, Nat.mul_assoc, Nat.mul_comm 2]
    omega
theorem num_cons (b : Bool) (w : List Bool) : num (b :: w) = (if b then 2 ^ w.length else 0) + num w := by
  have := num_acc w (2 * 0 + (if b then 1 else 0))
  show w.foldl _ (2 * 0 + (if b then 1 else 0)) = _
  rw [this]
  cases b <;> simp
theorem num_lt : ∀ w : List Bool, num w < 2 ^ w.length
  | [] => by show 0 < 1; decide
  | b :: r => by
    have := num_lt r
    rw [num_cons, List.length_cons, Nat.pow_succ]
    split <;> omega
theorem wdsP_at : ∀ (m : List Bool), (wdsP m.length)[num m]? = some m
  | [] => rfl
  | b :: r => by
    have ih := wdsP_at r
    have hl := num_lt r
    have e : (wdsP r.length).length = 2 ^ r.length := wdsP_len _
    rw [num_cons]
    show ((wdsP r.length).map (false :: ·) ++ (wdsP r.length).map (true :: ·))[_]? = _
    cases b with
    | false =>
      rw [if_neg (by decide), Nat.zero_add, List.getElem?_append_left (by rw [List.length_map]; omega), List.getElem?_map, ih]
      rfl
    | true =>
      rw [if_pos rfl, List.getElem?_append_right (by rw [List.length_map]; omega), List.length_map, e, List.getElem?_map, show 2 ^ r.length + num r - 2 ^ r.length = num r by omega, ih]
      rfl
theorem num_inj : ∀ {a b : List Bool}, a.length = b.length → num a = num b → a = b := by
  intro a b hl hn
  have h1 := wdsP_at a
  have h2 := wdsP_at b
  rw [hl, hn, h2] at h1
  exact (Option.some.inj h1).symm
theorem wdsP_num {n i : Nat} {w : List Bool} (h : (wdsP n)[i]? = some w) : num w = i := by
  have hs := wdsP_size (List.mem_of_getElem? h)
  have hi := (List.getElem?_eq_some_iff.mp h).1
  rw [wdsP_len] at hi
  -- the words are told one by one
  have : ∀ n i w, (wdsP n)[i]? = some w → num w = i := by
    intro n
    induction n with
    | zero =>
      intro i w h
      have := (List.getElem?_eq_some_iff.mp h).1
      have hi : i = 0 := by simpa [wdsP] using this
      subst hi
      have : w = [] := by simpa [wdsP] using h.symm
      rw [this]; rfl
    | succ n ih =>
      intro i w h
      have e : (wdsP n).length = 2 ^ n := wdsP_len _
      have h' : ((wdsP n).map (false :: ·) ++ (wdsP n).map (true :: ·))[i]? = some w := h
      by_cases c : i < 2 ^ n
      · rw [List.getElem?_append_left (by rw [List.length_map]; omega), List.getElem?_map] at h'
        obtain ⟨v, hv, rfl⟩ := Option.map_eq_some_iff.mp h'
        rw [num_cons, if_neg (by decide), ih i v hv, Nat.zero_add]
      · rw [List.getElem?_append_right (by rw [List.length_map]; omega), List.length_map, e, List.getElem?_map] at h'
        obtain ⟨v, hv, rfl⟩ := Option.map_eq_some_iff.mp h'
        rw [num_cons, if_pos rfl, ih _ v hv, wdsP_size (List.mem_of_getElem? hv)]
        omega
  exact this n i w h
theorem first_of {n : Nat} {p : List Bool → Bool} {m : List Bool} {r : List (List Bool)} (h : (wdsP n).filter p = m :: r) : m.length = n ∧ p m = true ∧ ∀ m', m'.length = n → num m' < num m → p m' = false := by
  have h1 : (wdsP n).find? p = some m := by rw [← List.head?_filter, h]; rfl
  have hm := List.mem_of_find?_eq_some h1
  refine ⟨wdsP_size hm, List.find?_some h1, fun m' hl hn => ?_⟩
  obtain ⟨_, i, hi, e1, e2⟩ := List.find?_eq_some_iff_getElem.mp h1
  have ei : num m = i := wdsP_num (n := n) (by rw [List.getElem?_eq_getElem hi, e1])
  have h3 := wdsP_at m'
  rw [hl] at h3
  obtain ⟨h4, h5⟩ := List.getElem?_eq_some_iff.mp h3
  have := e2 (num m') (by omega)
  rw [h5] at this
  simpa using this
theorem none_of {n : Nat} {p : List Bool → Bool} (h : (wdsP n).filter p = []) : ∀ m', m'.length = n → p m' = false := fun m' hl => by
  have h3 := wdsP_at m'
  rw [hl] at h3
  have := List.filter_eq_nil_iff.mp h m' (List.mem_of_getElem? h3)
  simpa using this
/-! words in a list -/
def wdsV (ws : List (List Bool)) : List V := ws.map fun w => V.str (W w)
def wdsD (ws : List (List Bool)) : List PyData := ws.map fun w => PyData.str (W w)
theorem wdsV_len (ws : List (List Bool)) : (wdsV ws).length = ws.length := List.length_map _
theorem wdsV_app (a b : List (List Bool)) : wdsV (a ++ b) = wdsV a ++ wdsV b := List.map_append
theorem wdsV_get {ws : List (List Bool)} {i : Nat} {x : V} (h : (wdsV ws)[i]? = some x) : ∃ w, ws[i]? = some w ∧ x = .str (W w) := by
  unfold wdsV at h
  rw [List.getElem?_map] at h
  obtain ⟨w, hw, rfl⟩ := Option.map_eq_some_iff.mp h
  exact ⟨w, hw, rfl⟩
theorem dp_wds {K : PySem.W.Frag} {H : Hp} : ∀ ws : List (List Bool), DpAll K H (wdsV ws) (wdsD ws)
  | [] => .nil
  | w :: r => .cons (.str _) (dp_wds r)
theorem ok_W (l : List Bool) : PyData.strOk (W l) = true := by
  unfold PyData.strOk
  show ((l.map bt).toArray.all _) = true
  rw [List.all_toArray, List.all_map, List.all_eq_true]
  intro b _
  cases b <;> rfl
theorem lay_wds : ∀ ws : List (List Bool), PyData.canLayAll0 (wdsD ws) = true ∧ PyData.depthAll (wdsD ws) = 0
  | [] => by simp [wdsD, PyData.canLayAll0, PyData.depthAll]
  | w :: r => by
    obtain ⟨h1, h2⟩ := lay_wds r
    show PyData.canLayAll0 (PyData.str (W w) :: wdsD r) = true ∧ PyData.depthAll (PyData.str (W w) :: wdsD r) = 0
    rw [PyData.canLayAll0, PyData.depthAll, h1, h2, PyData.canLay0, PyData.depth, ok_W]
    exact ⟨rfl, rfl⟩
theorem shaped_wds (ws : List (List Bool)) : SeqAt.shaped (.list (wdsD ws)) = true := by
  unfold SeqAt.shaped
  rw [PyData.canLay0, (lay_wds ws).1, PyData.depth, (lay_wds ws).2]
  rfl
theorem eqv_wnil (ws : List (List Bool)) : PyData.eqv (.list (wdsD ws)) (.list []) = ws.isEmpty := by
  cases ws with
  | nil => simp [wdsD, PyData.eqv, PyData.eqvAll]
  | cons w r => simp [wdsD, PyData.eqv, PyData.eqvAll]
def spWordsP : Sp := fun vs H Q _ => ∃ n : Nat, vs = [.int n] ∧ n ≤ 12 ∧ ∀ l H', H l = none → Same H H' → H' l = some (.lst (wdsV (wdsP n))) → Q (.ref l) H'
section
variable {P : Program} {w : World} {K : PySem.W.Frag} {mg : Str → Option Value} {base : Heap}
end
end U

set_option maxRecDepth 100000
set_option maxHeartbeats 4000000
set_option pp.maxSteps 400
namespace U
open PySem PySem.Spec PyProof.Rows
open L2 hiding Fun CX0 E0 pass0 Fun.binds
open C8 Lx SX StX
/-! how many bits a rule puts in -/
/-- bits put in behind a standing and a bit -/
def cM (ss : List Stf) (t : List Bool) (b : Bool) : Nat := (itP ss 40 (t ++ [b])).length - (t.length + 1)
/-- the standing then -/
def nM (ss : List Stf) (t : List Bool) (b : Bool) : List Bool := tl (longM ss) (itP ss 40 (t ++ [b]))
def costM (ss : List Stf) : List Bool → List Bool → Nat
  | _, [] => 0
  | t, b :: m => cM ss t b + costM ss (nM ss t b) m
def bstM (ss : List Stf) : Nat → List Bool → Nat
  | 0, _ => 0
  | k + 1, t => max (cM ss t false + bstM ss k (nM ss t false)) (cM ss t true + bstM ss k (nM ss t true))
theorem cost_le {ss : List Stf} : ∀ {m t : List Bool}, costM ss t m ≤ bstM ss m.length t
  | [], _ => Nat.le_refl _
  | b :: m, t => by
    have := cost_le (ss := ss) (m := m) (t := nM ss t b)
    show cM ss t b + costM ss (nM ss t b) m ≤ max _ _
    cases b <;> omega
/-- the least dearest message -/
def dearM (ss : List Stf) : Nat → List Bool → List Bool
  | 0, _ => []
  | k + 1, t => if cM ss t false + bstM ss k (nM ss t false) = bstM ss (k + 1) t then false :: dearM ss k (nM ss t false) else true :: dearM ss k (nM ss t true)
theorem dear_len {ss : List Stf} : ∀ {k : Nat} {t : List Bool}, (dearM ss k t).length = k
  | 0, _ => rfl
  | k + 1, t => by
    unfold dearM
    split <;> rw [List.length_cons, dear_len]
theorem dear_cost {ss : List Stf} : ∀ {k : Nat} {t : List Bool}, costM ss t (dearM ss k t) = bstM ss k t
  | 0, _ => rfl
  | k + 1, t => by
    unfold dearM
    split
    · rename_i h
      rw [← h]
      show cM ss t false + costM ss (nM ss t false) (dearM ss k _) = _
      rw [dear_cost]
    · rename_i h
      show cM ss t true + costM ss (nM ss t true) (dearM ss k _) = _
      rw [dear_cost]
      have e : bstM ss (k + 1) t = max (cM ss t false + bstM ss k (nM ss t false)) (cM ss t true + bstM ss k (nM ss t true)) := rfl
      omega
theorem dear_least {ss : List Stf} : ∀ {m t : List Bool}, costM ss t m = bstM ss m.length t → num (dearM ss m.length t) ≤ num m
  | [], _, _ => Nat.le_refl _
  | b :: m, t, h => by
    have h' : cM ss t b + costM ss (nM ss t b) m = bstM ss (m.length + 1) t := h
    have e : bstM ss (m.length + 1) t = max (cM ss t false + bstM ss m.length (nM ss t false)) (cM ss t true + bstM ss m.length (nM ss t true)) := rfl
    have hc := cost_le (ss := ss) (m := m) (t := nM ss t b)
    show num (dearM ss (m.length + 1) t) ≤ _
    unfold dearM
    split
    · rename_i hf
      cases b with
      | false =>
        have := dear_least (ss := ss) (m := m) (t := nM ss t false) (by omega)
        rw [num_cons, num_cons, dear_len]
        omega
      | true =>
        rw [num_cons, num_cons]
        have := num_lt (dearM ss m.length (nM ss t false))
        rw [dear_len] at this
        simp
        omega
    · rename_i hf
      cases b with
      | false => exact absurd (by omega) hf
      | true =>
        have := dear_least (ss := ss) (m := m) (t := nM ss t true) (by omega)
        rw [num_cons, num_cons, dear_len]
        omega
/-- what is sent is longer by what the walk costs -/
theorem body_cost {ss : List Stf} (o : OkN 39 ss) : ∀ (m m0 : List Bool), (bodyF ss (m0 ++ m)).length = (bodyF ss m0).length + m.length + costM ss (tl (longM ss) (bodyF ss m0)) m
  | [], m0 => by rw [List.append_nil]; rfl
  | b :: m, m0 => by
    have ih := body_cost o m (m0 ++ [b])
    rw [List.append_assoc] at ih
    have hL : ∀ s ∈ ss, s.1.length ≤ longM ss := fun s hs => longM_le hs
    obtain ⟨x, hx, hl, eb⟩ := ins40 o m0 b
    have et : tl (longM ss) (bodyF ss m0 ++ [b]) = tl (longM ss) (tl (longM ss) (bodyF ss m0) ++ [b]) := tl_app (tl_tl (Nat.le_refl _) _).symm [b]
    have hx2 : Ins ss (tl (longM ss) (bodyF ss m0) ++ [b]) x := hx.tl hL et
    have e40 : itP ss 40 (tl (longM ss) (bodyF ss m0) ++ [b]) = tl (longM ss) (bodyF ss m0) ++ [b] ++ x := by rw [hx2.itP, List.take_of_length_le (by omega)]
    have ec : cM ss (tl (longM ss) (bodyF ss m0)) b = x.length := by
      unfold cM
      rw [e40, List.length_append, List.length_append]
      simp
    have en : nM ss (tl (longM ss) (bodyF ss m0)) b = tl (longM ss) (bodyF ss (m0 ++ [b])) := by
      unfold nM
      rw [e40, eb]
      exact (tl_app et x).symm
    show (bodyF ss (m0 ++ ([b] ++ m))).length = (bodyF ss m0).length + (m.length + 1) + (cM ss (tl (longM ss) (bodyF ss m0)) b + costM ss (nM ss (tl (longM ss) (bodyF ss m0)) b) m)
    rw [ih, ec, en, eb, List.length_append, List.length_append]
    simp
    omega
end U

set_option maxRecDepth 100000
set_option maxHeartbeats 4000000
set_option pp.maxSteps 400
namespace U
open PySem PySem.Spec PyProof.Rows
open L2 hiding Fun CX0 E0 pass0 Fun.binds
open C8 Lx SX StX
/-! dictionaries whose keys are words -/
def kvw (ws : List (List Bool)) (g : List Bool → V) : List (Key × V) := ws.map fun w => (Sum.inr (W w), g w)
def ug {α : Type} (g : List Bool → α) (w : List Bool) (v : α) : List Bool → α := fun u => if u = w then v else g u
theorem ug_same {α : Type} {g : List Bool → α} {w : List Bool} {v : α} : ug g w v w = v := if_pos rfl
theorem ug_ne {α : Type} {g : List Bool → α} {w u : List Bool} {v : α} (h : u ≠ w) : ug g w v u = g u := if_neg h
theorem key_iff {a b : List Bool} : ((Sum.inr (W a) : Key) = Sum.inr (W b)) ↔ a = b := ⟨fun h => W_inj (Sum.inr.inj h), fun h => by rw [h]⟩
theorem kvw_len (ws : List (List Bool)) (g : List Bool → V) : (kvw ws g).length = ws.length := List.length_map _
theorem kvw_congr {ws : List (List Bool)} {g h : List Bool → V} (e : ∀ w ∈ ws, g w = h w) : kvw ws g = kvw ws h := List.map_congr_left fun w hw => by rw [e w hw]
theorem kvw_val {g : List Bool → V} {w : List Bool} : ∀ {ws : List (List Bool)}, valV (kvw ws g) (Sum.inr (W w)) = if w ∈ ws then some (g w) else none
  | [] => rfl
  | u :: r => by
    show valV ((Sum.inr (W u), g u) :: kvw r g) (Sum.inr (W w)) = _
    by_cases c : u = w
    · subst c
      rw [valV_pos rfl, if_pos List.mem_cons_self]
    · have e : valV ((Sum.inr (W u), g u) :: kvw r g) (Sum.inr (W w)) = valV (kvw r g) (Sum.inr (W w)) := by
        unfold valV
        rw [List.find?_cons_of_neg (by rw [decide_eq_true_iff]; exact fun z => c (key_iff.mp z))]
      rw [e, kvw_val]
      by_cases d : w ∈ r
      · rw [if_pos d, if_pos (List.mem_cons_of_mem _ d)]
      · rw [if_neg d, if_neg (fun z => (List.mem_cons.mp z).elim (fun z => c z.symm) d)]
theorem kvw_any {ws : List (List Bool)} {g : List Bool → V} {w : List Bool} : ((kvw ws g).any fun kv => decide (kv.1 = Sum.inr (W w))) = true ↔ w ∈ ws := by
  unfold kvw
  rw [List.any_map, List.any_eq_true]
  constructor
  · rintro ⟨u, hu, e⟩
    rw [← key_iff.mp (of_decide_eq_true e)]
    exact hu
  · exact fun h => ⟨w, h, decide_eq_true rfl⟩
theorem kvw_put {ws : List (List Bool)} {g : List Bool → V} {w : List Bool} {v : V} (h : w ∈ ws) : putK (kvw ws g) (Sum.inr (W w)) v = kvw ws (ug g w v) := by
  unfold putK
  rw [if_pos (kvw_any.mpr h)]
  unfold kvw
  rw [List.map_map]
  refine List.map_congr_left fun u hu => ?_
  show (if (Sum.inr (W u) : Key) = Sum.inr (W w) then ((Sum.inr (W u) : Key), v) else (Sum.inr (W u), g u)) = _
  by_cases c : u = w
  · rw [if_pos (key_iff.mpr c), c, ug_same]
  · rw [if_neg (fun z => c (key_iff.mp z)), ug_ne c]
theorem kvw_new {ws : List (List Bool)} {g : List Bool → V} {w : List Bool} {v : V} (h : w ∉ ws) : putK (kvw ws g) (Sum.inr (W w)) v = kvw (ws ++ [w]) (ug g w v) := by
  unfold putK
  rw [if_neg (fun z => h (kvw_any.mp z))]
  unfold kvw
  rw [List.map_append]
  congr 1
  · exact List.map_congr_left fun u hu => by
      have c : u ≠ w := fun z => h (by rw [← z]; exact hu)
      rw [ug_ne c]
  · show _ = [(Sum.inr (W w), ug g w v w)]
    rw [ug_same]
end U

set_option maxRecDepth 100000
set_option maxHeartbeats 4000000
set_option pp.maxSteps 400
namespace U
open PySem PySem.Spec PyProof.Rows
open L2 hiding Fun CX0 E0 pass0 Fun.binds
open C8 Lx SX StX
section
variable {J : It} {n : Nat} {G : Hp → Prop} {Y : Nat → Hp → V → Hp → Prop}
/-- a dict comprehension over any walk -/
theorem dc_it (w : Walk J n G Y) {g : TG} {tt : TT} {tk tv : TE} {vs : List Nat} {σ : L2.St} {H1 : Hp} {D : Addr} {Qd : Hp → Prop} (Pv : Nat → Hp → Prop) (h0 : Pv 0 (upd H1 D (.dK []))) (hG : ∀ i H, i ≤ n → Pv i H → G H)
    (hs : ∀ i x H H', i < n → Pv i H → Y i H x H' → g x (wipe σ vs) H' fun σ2 H2 => wipe σ2 vs = wipe σ vs ∧ tt σ2 H2 fun b H3 =>
      if b = true then tk σ2 H3 fun y H4 => tv σ2 H4 fun z H5 => ∃ kvs k, y = kV k ∧ H5 D = some (.dK kvs) ∧ kvs.length < sizeLine ∧ Pv (i + 1) (upd H5 D (.dK (putK kvs k z))) else Pv (i + 1) H3) (hd : ∀ H, Pv n H → Qd H) :
    ∃ W : Nat → Nat → Hp → Prop, (∃ m, W 0 m (upd H1 D (.dK []))) ∧ ∀ i m H, W i m H →
      (J.stop i H ∧ Qd H) ∨ (J.go i H ∧ ∃ Nx : Hp → Prop, (∀ H', Nx H' → ∃ m', m' < m ∧ W (i + 1) m' H') ∧ ∀ x H', J.yld i H x H' → g x (wipe σ vs) H' fun σ2 H2 => wipe σ2 vs = wipe σ vs ∧ tt σ2 H2 fun b H3 =>
        if b = true then tk σ2 H3 fun y H4 => tv σ2 H4 fun z H5 => ∃ kvs k, y = kV k ∧ H5 D = some (.dK kvs) ∧ kvs.length < sizeLine ∧ Nx (upd H5 D (.dK (putK kvs k z))) else Nx H3) := by
  refine ⟨fun i m H => m = n - i ∧ i ≤ n ∧ Pv i H, ⟨n, by simp, Nat.zero_le _, h0⟩, ?_⟩
  rintro i m H ⟨rfl, hi, p⟩
  have q := hG i H hi p
  by_cases hlt : i < n
  · refine .inr ⟨w.goes i H hlt q, Pv (i + 1), fun H' p' => ⟨n - (i + 1), by omega, rfl, hlt, p'⟩, fun x H' y => hs i x H H' hlt p (w.yields i H x H' hlt q y)⟩
  · have e : i = n := by omega
    subst e
    exact .inl ⟨w.stops H q, hd H p⟩
end
theorem rd_same {H H' : Hp} {d : Addr} {o : HO} (h : Rd H d o) (s : Same H H') : Rd H' d o := by
  rcases h with h | ⟨od, h⟩
  · exact .inl (s _ _ h)
  · exact .inr ⟨od, s _ _ h⟩
/-- a locked dict, unlocked -/
theorem same_unlock {H H' : Hp} {d : Addr} {u o : HO} (h : Same (upd H d o) H') (hd : H d = some u) : Same H (upd H' d u) := fun c x e => by
  by_cases n : c = d
  · rw [n, upd_same, ← hd, ← n, e]
  · rw [upd_ne n]
    exact h _ _ (by rw [upd_ne n]; exact e)
theorem kvw_get {ws : List (List Bool)} {g : List Bool → V} {i : Nat} {k : Key} {v : V} (h : (kvw ws g)[i]? = some (k, v)) : ∃ w, ws[i]? = some w ∧ k = Sum.inr (W w) ∧ v = g w := by
  unfold kvw at h
  rw [List.getElem?_map] at h
  obtain ⟨w, hw, e⟩ := Option.map_eq_some_iff.mp h
  cases e
  exact ⟨w, hw, rfl, rfl⟩
theorem kvw_snoc {ws : List (List Bool)} {g : List Bool → V} {w : List Bool} {v : V} (h : w ∉ ws) (e : v = g w) : putK (kvw ws g) (Sum.inr (W w)) v = kvw (ws ++ [w]) g := by
  rw [kvw_new h]
  refine kvw_congr fun u hu => ?_
  by_cases c : u = w
  · rw [c, ug_same, e]
  · exact ug_ne c
theorem nodup_take {α : Type} {ws : List α} {i : Nat} {u : α} (h : ws.Nodup) (hu : ws[i]? = some u) : u ∉ ws.take i := fun z => by
  obtain ⟨j, hj⟩ := List.getElem?_of_mem z
  have hj2 := (List.getElem?_eq_some_iff.mp hj).1
  rw [List.length_take] at hj2
  rw [List.getElem?_take, if_pos (by omega)] at hj
  obtain ⟨a1, a2⟩ := List.getElem?_eq_some_iff.mp hu
  obtain ⟨b1, b2⟩ := List.getElem?_eq_some_iff.mp hj
  have := (List.nodup_iff_pairwise_ne.mp h)
  have hne := List.pairwise_iff_getElem.mp this j i b1 a1 (by omega)
  exact hne (by rw [b2, a2])
theorem take_snoc {α : Type} {ws : List α} {i : Nat} {u : α} (hu : ws[i]? = some u) : ws.take (i + 1) = ws.take i ++ [u] := by
  rw [List.take_add_one, hu]; rfl
end U

set_option maxRecDepth 100000
set_option maxHeartbeats 1000000
set_option pp.maxSteps 400
namespace U
open PySem PySem.Spec PyProof.Rows
open L2 hiding Fun CX0 E0 pass0 Fun.binds
open C8 Lx SX StX
/-! the sum over all messages -/
def allM (ss : List Stf) : Nat → List Bool → Nat
  | 0, _ => 0
  | k + 1, t => (2 ^ k * cM ss t false + allM ss k (nM ss t false)) + (2 ^ k * cM ss t true + allM ss k (nM ss t true))
theorem sum_add {α : Type} (f g : α → Nat) : ∀ l : List α, (l.map fun x => f x + g x).sum = (l.map f).sum + (l.map g).sum
  | [] => rfl
  | x :: r => by
    rw [List.map_cons, List.map_cons, List.map_cons, List.sum_cons, List.sum_cons, List.sum_cons, sum_add f g r]
    omega
theorem sum_const {α : Type} (c : Nat) : ∀ l : List α, (l.map fun _ => c).sum = l.length * c
  | [] => by simp
  | x :: r => by
    rw [List.map_cons, List.sum_cons, sum_const c r, List.length_cons, Nat.succ_mul]
    omega
theorem all_sum {ss : List Stf} : ∀ {n : Nat} {t : List Bool}, ((wdsP n).map (costM ss t)).sum = allM ss n t
  | 0, _ => rfl
  | n + 1, t => by
    have h : ∀ b, (((wdsP n).map (b :: ·)).map (costM ss t)).sum = 2 ^ n * cM ss t b + allM ss n (nM ss t b) := fun b => by
      rw [List.map_map]
      have e : (costM ss t ∘ (b :: ·)) = fun m => cM ss t b + costM ss (nM ss t b) m := rfl
      rw [e, sum_add, sum_const, wdsP_len, all_sum]
    show (((wdsP n).map (false :: ·) ++ (wdsP n).map (true :: ·)).map (costM ss t)).sum = _
    rw [List.map_append, List.sum_append, h, h]
    rfl
/-- what is still to come -/
def restS (ss : List Stf) (k : Nat) (ws : List (List Bool)) (c : List Bool → Nat) : Nat := (ws.map fun w => c w * allM ss k w).sum
/-- the count of a standing -/
def cntAt (ws : List (List Bool)) (c : List Bool → Nat) (w : List Bool) : Nat := if w ∈ ws then c w else 0
theorem rest_ug {ss : List Stf} {k : Nat} {w : List Bool} {v : Nat} {c : List Bool → Nat} : ∀ {ws : List (List Bool)}, ws.Nodup → w ∈ ws → restS ss k ws (ug c w v) + c w * allM ss k w = restS ss k ws c + v * allM ss k w
  | [], _, h => by cases h
  | u :: r, hn, h => by
    obtain ⟨h1, h2⟩ := List.nodup_cons.mp hn
    unfold restS
    rw [List.map_cons, List.map_cons, List.sum_cons, List.sum_cons]
    rcases List.mem_cons.mp h with e | hm
    · subst e
      have er : (r.map fun x => ug c w v x * allM ss k x) = r.map fun x => c x * allM ss k x := List.map_congr_left fun x hx => by rw [ug_ne (fun z : x = _ => h1 (by rw [← z]; exact hx))]
      rw [er, ug_same]
      omega
    · have := rest_ug (ss := ss) (k := k) (w := w) (v := v) (c := c) h2 hm
      unfold restS at this
      rw [ug_ne (fun z => h1 (by rw [z]; exact hm))]
      omega
theorem rest_new {ss : List Stf} {k : Nat} {w : List Bool} {v : Nat} {c : List Bool → Nat} {ws : List (List Bool)} (h : w ∉ ws) : restS ss k (ws ++ [w]) (ug c w v) = restS ss k ws c + v * allM ss k w := by
  unfold restS
  rw [List.map_append, List.sum_append]
  have er : (ws.map fun x => ug c w v x * allM ss k x) = ws.map fun x => c x * allM ss k x := List.map_congr_left fun x hx => by rw [ug_ne (fun z : x = _ => h (by rw [← z]; exact hx))]
  rw [er]
  show _ + ((ug c w v w * allM ss k w) + 0) = _
  rw [ug_same, Nat.add_zero]
/-- a standing's count grows -/
def addW (ws : List (List Bool)) (w : List Bool) : List (List Bool) := if w ∈ ws then ws else ws ++ [w]
theorem addW_mem {ws : List (List Bool)} {w u : List Bool} (h : u ∈ addW ws w) : u ∈ ws ∨ u = w := by
  unfold addW at h
  split at h
  · exact .inl h
  · rcases List.mem_append.mp h with h | h
    · exact .inl h
    · exact .inr (List.mem_singleton.mp h)
theorem addW_in {ws : List (List Bool)} {w : List Bool} : w ∈ addW ws w := by
  unfold addW
  split
  · assumption
  · exact List.mem_append_right _ (List.mem_singleton.mpr rfl)
theorem addW_old {ws : List (List Bool)} {w u : List Bool} (h : u ∈ ws) : u ∈ addW ws w := by
  unfold addW
  split
  · exact h
  · exact List.mem_append_left _ h
theorem addW_nd {ws : List (List Bool)} {w : List Bool} (h : ws.Nodup) : (addW ws w).Nodup := by
  unfold addW
  split
  · exact h
  · rename_i hm
    rw [List.nodup_append]
    exact ⟨h, List.nodup_cons.mpr ⟨List.not_mem_nil, List.nodup_nil⟩, fun a ha b hb z => hm (by rw [List.mem_singleton.mp hb] at z; rw [← z]; exact ha)⟩
theorem kvw_upd {ws : List (List Bool)} {g : List Bool → V} {w : List Bool} {v : V} : putK (kvw ws g) (Sum.inr (W w)) v = kvw (addW ws w) (ug g w v) := by
  unfold addW
  split
  · rename_i h; exact kvw_put h
  · rename_i h; exact kvw_new h
theorem rest_upd {ss : List Stf} {k : Nat} {w : List Bool} {v : Nat} {c : List Bool → Nat} {ws : List (List Bool)} (hn : ws.Nodup) : restS ss k (addW ws w) (ug c w (cntAt ws c w + v)) = restS ss k ws c + v * allM ss k w := by
  unfold addW cntAt
  by_cases h : w ∈ ws
  · rw [if_pos h, if_pos h]
    have := rest_ug (ss := ss) (k := k) (w := w) (v := c w + v) (c := c) hn h
    rw [Nat.add_mul] at this
    omega
  · rw [if_neg h, if_neg h, Nat.zero_add, rest_new h]
theorem rest_take {ss : List Stf} {k i : Nat} {w : List Bool} {c : List Bool → Nat} {ws : List (List Bool)} (h : ws[i]? = some w) : restS ss k (ws.take (i + 1)) c = restS ss k (ws.take i) c + c w * allM ss k w := by
  unfold restS
  rw [List.take_add_one, h, List.map_append, List.sum_append]
  simp
end U

set_option maxRecDepth 100000
set_option maxHeartbeats 4000000
set_option pp.maxSteps 400
namespace U
open PySem PySem.Spec PyProof.Rows
open L2 hiding Fun CX0 E0 pass0 Fun.binds
open C8 Lx SX StX
def spMove (C : Addr) : Sp := fun vs H Q _ => ∃ (a : Addr) (f : List Bool) (ss : List Stf) (t : List Bool) (b : Bool) (x : List Bool), vs = [.ref a, .str (W t), .str (W [b])] ∧ RuAt C H a f ss ∧ StOk ss ∧ t.length ≤ 1000 ∧ Ins ss (t ++ [b]) x ∧ x.length ≤ 39 ∧
  ∀ p H', H p = none → Same H H' → H' p = some (.tup [.int (cM ss t b : Nat), .str (W (nM ss t b))]) → Q (.ref p) H'
/-- what both bits lead to, for each standing of a dictionary -/
def MvE (H : Hp) (ss : List Stf) (w : List Bool) (l : Addr) : Prop := ∃ p0 p1 : Addr, H l = some (.lst [.ref p0, .ref p1]) ∧ H p0 = some (.tup [.int (cM ss w false : Nat), .str (W (nM ss w false))]) ∧ H p1 = some (.tup [.int (cM ss w true : Nat), .str (W (nM ss w true))])
def MvD (H : Hp) (ss : List Stf) (ws : List (List Bool)) (lo : List Bool → Addr) : Prop := ∀ w ∈ ws, MvE H ss w (lo w)
def kvr (ws : List (List Bool)) (lo : List Bool → Addr) : List (Key × V) := kvw ws fun w => .ref (lo w)
def MvAt (H : Hp) (d : Addr) (ss : List Stf) (ws : List (List Bool)) : Prop := ∃ lo : List Bool → Addr, H d = some (.dK (kvr ws lo)) ∧ MvD H ss ws lo
theorem MvE.same {H H' : Hp} {ss : List Stf} {w : List Bool} {l : Addr} (h : MvE H ss w l) (e : Same H H') : MvE H' ss w l := by
  obtain ⟨p0, p1, h1, h2, h3⟩ := h
  exact ⟨p0, p1, e _ _ h1, e _ _ h2, e _ _ h3⟩
/-- a dictionary changed -/
theorem MvE.dk {H : Hp} {ss : List Stf} {w : List Bool} {l d : Addr} {u o : HO} (h : MvE H ss w l) (hd : H d = some u) (n1 : ∀ xs, u ≠ .lst xs) (n2 : ∀ xs, u ≠ .tup xs) : MvE (upd H d o) ss w l := by
  obtain ⟨p0, p1, h1, h2, h3⟩ := h
  have a1 : l ≠ d := fun z => by rw [z, hd] at h1; exact n1 _ (Option.some.inj h1)
  have a2 : p0 ≠ d := fun z => by rw [z, hd] at h2; exact n2 _ (Option.some.inj h2)
  have a3 : p1 ≠ d := fun z => by rw [z, hd] at h3; exact n2 _ (Option.some.inj h3)
  exact ⟨p0, p1, by rw [upd_ne a1]; exact h1, by rw [upd_ne a2]; exact h2, by rw [upd_ne a3]; exact h3⟩
theorem MvD.same {H H' : Hp} {ss : List Stf} {ws : List (List Bool)} {lo : List Bool → Addr} (h : MvD H ss ws lo) (e : Same H H') : MvD H' ss ws lo := fun w hw => (h w hw).same e
theorem MvD.dk {H : Hp} {ss : List Stf} {ws : List (List Bool)} {lo : List Bool → Addr} {d : Addr} {u o : HO} (h : MvD H ss ws lo) (hd : H d = some u) (n1 : ∀ xs, u ≠ .lst xs) (n2 : ∀ xs, u ≠ .tup xs) : MvD (upd H d o) ss ws lo := fun w hw => (h w hw).dk hd n1 n2
theorem MvAt.same {H H' : Hp} {d : Addr} {ss : List Stf} {ws : List (List Bool)} (h : MvAt H d ss ws) (e : Same H H') : MvAt H' d ss ws := by
  obtain ⟨lo, h1, h2⟩ := h
  exact ⟨lo, e _ _ h1, h2.same e⟩
theorem kvr_val {lo : List Bool → Addr} {w : List Bool} {ws : List (List Bool)} (h : w ∈ ws) : valV (kvr ws lo) (Sum.inr (W w)) = some (.ref (lo w)) := by
  unfold kvr
  rw [kvw_val, if_pos h]
theorem kvr_new {ws : List (List Bool)} {lo : List Bool → Addr} {w : List Bool} {l : Addr} (h : w ∉ ws) : putK (kvr ws lo) (Sum.inr (W w)) (.ref l) = kvr (ws ++ [w]) (ug lo w l) := by
  unfold kvr
  rw [kvw_new h]
  congr 1
  funext u
  unfold ug
  split <;> rfl
theorem kvr_len (ws : List (List Bool)) (lo : List Bool → Addr) : (kvr ws lo).length = ws.length := kvw_len _ _
theorem MvD.add {H : Hp} {ss : List Stf} {ws : List (List Bool)} {lo : List Bool → Addr} {w : List Bool} {l : Addr} (h : MvD H ss ws lo) (n : w ∉ ws) (hl : MvE H ss w l) : MvD H ss (ws ++ [w]) (ug lo w l) := fun u hu => by
  by_cases c : u = w
  · rw [c, ug_same]; exact hl
  · rw [ug_ne c]
    rcases List.mem_append.mp hu with m | m
    · exact h u m
    · exact absurd (List.mem_singleton.mp m) c
structure Mvs (ss : List Stf) (ws : List (List Bool)) : Prop where
  nd : ws.Nodup
  nil : [] ∈ ws
  cl : ∀ w ∈ ws, ∀ b, nM ss w b ∈ ws
  g : ∀ w ∈ ws, ∃ m, w = tl (longM ss) (bodyF ss m)
def spMovesOf (C : Addr) : Sp := fun vs H Q _ => ∃ (a : Addr) (f : List Bool) (ss : List Stf), vs = [.ref a] ∧ RuAt C H a f ss ∧ StOk ss ∧ OkN 39 ss ∧
  ∀ d ws H', H d = none → Same H H' → MvAt H' d ss ws → Mvs ss ws → Q (.ref d) H'
/-- a standing that comes about: what is put in behind it and a bit -/
theorem stand_ins {ss : List Stf} (o : OkN 39 ss) (m : List Bool) (b : Bool) : ∃ x, Ins ss (tl (longM ss) (bodyF ss m) ++ [b]) x ∧ x.length ≤ 39 ∧ nM ss (tl (longM ss) (bodyF ss m)) b = tl (longM ss) (bodyF ss (m ++ [b])) := by
  have hL : ∀ s ∈ ss, s.1.length ≤ longM ss := fun s hs => longM_le hs
  obtain ⟨x, hx, hl, eb⟩ := ins40 o m b
  have et : tl (longM ss) (bodyF ss m ++ [b]) = tl (longM ss) (tl (longM ss) (bodyF ss m) ++ [b]) := tl_app (tl_tl (Nat.le_refl _) _).symm [b]
  have hx2 : Ins ss (tl (longM ss) (bodyF ss m) ++ [b]) x := hx.tl hL et
  refine ⟨x, hx2, hl, ?_⟩
  unfold nM
  rw [hx2.itP, List.take_of_length_le (by omega), eb]
  exact (tl_app et x).symm
/-- the search for the standings -/
structure MvI (ss : List Stf) (ws wt : List (List Bool)) (n : Nat) : Prop where
  nd : ws.Nodup
  hd : [] ∈ wt
  done : ∀ j u, j < n → wt[j]? = some u → u ∈ ws
  nx : ∀ w ∈ ws, ∀ b, nM ss w b ∈ wt
  g : ∀ u ∈ wt, ∃ m, u = tl (longM ss) (bodyF ss m)
  gs : ∀ u ∈ ws, u ∈ wt
  len : wt.length = 1 + 2 * ws.length
  le : n ≤ wt.length
theorem MvI.end {ss : List Stf} {ws wt : List (List Bool)} {n : Nat} (h : MvI ss ws wt n) (e : wt.length ≤ n) : Mvs ss ws := by
  have all : ∀ u ∈ wt, u ∈ ws := fun u hu => by
    obtain ⟨j, hj⟩ := List.getElem?_of_mem hu
    exact h.done j u (Nat.lt_of_lt_of_le (List.getElem?_eq_some_iff.mp hj).1 e) hj
  exact ⟨h.nd, all _ h.hd, fun w hw b => all _ (h.nx w hw b), fun w hw => h.g w (h.gs w hw)⟩
theorem MvI.few {ss : List Stf} {ws wt : List (List Bool)} {n : Nat} (h : MvI ss ws wt n) (hl : longM ss ≤ 9) : ws.length ≤ 1023 := by
  have := words_le h.nd (n := longM ss) fun w hw => by
    obtain ⟨m, rfl⟩ := h.g w (h.gs w hw)
    exact tl_le _ _
  have hp : 2 ^ (longM ss + 1) ≤ 1024 := Nat.le_trans (Nat.pow_le_pow_right (by decide) (show longM ss + 1 ≤ 10 by omega)) (by decide)
  omega
theorem MvI.skip {ss : List Stf} {ws wt : List (List Bool)} {n : Nat} (h : MvI ss ws wt n) {u : List Bool} (hu : wt[n]? = some u) (hm : u ∈ ws) : MvI ss ws wt (n + 1) := by
  refine ⟨h.nd, h.hd, fun j v hj hv => ?_, h.nx, h.g, h.gs, h.len, (List.getElem?_eq_some_iff.mp hu).1⟩
  rcases Nat.lt_or_ge j n with c | c
  · exact h.done j v c hv
  · have : j = n := by omega
    subst this
    rw [hu] at hv
    rw [← Option.some.inj hv]
    exact hm
theorem MvI.add {ss : List Stf} {ws wt : List (List Bool)} {n : Nat} (o : OkN 39 ss) (h : MvI ss ws wt n) {u : List Bool} (hu : wt[n]? = some u) (hm : u ∉ ws) : MvI ss (ws ++ [u]) (wt ++ [nM ss u false, nM ss u true]) (n + 1) := by
  have hn := (List.getElem?_eq_some_iff.mp hu).1
  have hut := List.mem_of_getElem? hu
  refine ⟨?_, List.mem_append_left _ h.hd, fun j v hj hv => ?_, fun w hw b => ?_, fun v hv => ?_, fun v hv => ?_, ?_, ?_⟩
  · rw [List.nodup_append]
    exact ⟨h.nd, List.nodup_cons.mpr ⟨List.not_mem_nil, List.nodup_nil⟩, fun a ha b hb z => hm (by rw [List.mem_singleton.mp hb] at z; rw [← z]; exact ha)⟩
  · rw [List.getElem?_append_left (by omega)] at hv
    rcases Nat.lt_or_ge j n with c | c
    · exact List.mem_append_left _ (h.done j v c hv)
    · have : j = n := by omega
      subst this
      rw [hu] at hv
      rw [← Option.some.inj hv]
      exact List.mem_append_right _ (List.mem_singleton.mpr rfl)
  · rcases List.mem_append.mp hw with c | c
    · exact List.mem_append_left _ (h.nx w c b)
    · rw [List.mem_singleton.mp c]
      refine List.mem_append_right _ ?_
      cases b <;> simp
  · rcases List.mem_append.mp hv with c | c
    · exact h.g v c
    · obtain ⟨m, rfl⟩ := h.g u hut
      obtain ⟨_, _, _, e0⟩ := stand_ins o m false
      obtain ⟨_, _, _, e1⟩ := stand_ins o m true
      rcases List.mem_cons.mp c with c | c
      · exact ⟨m ++ [false], by rw [c, e0]⟩
      · exact ⟨m ++ [true], by rw [List.mem_singleton.mp c, e1]⟩
  · rcases List.mem_append.mp hv with c | c
    · exact List.mem_append_left _ (h.gs v c)
    · rw [List.mem_singleton.mp c]
      exact List.mem_append_left _ hut
  · rw [List.length_append, List.length_append, h.len]
    show 1 + 2 * ws.length + 2 = 1 + 2 * (ws.length + 1)
    omega
  · rw [List.length_append]; omega
section
variable {P : Program} {w : World} {K : PySem.W.Frag} {mg : Str → Option Value} {base : Heap}
theorem sc_move : FnScope ["rule", "standing", "bit", "more"] ["rule", "standing", "bit"] (fnScope s_move) := fnScope_by (by decide +kernel)
theorem cal_move {f C : Addr} {fd : FuncData} (F : Def K mg "move" s_move f fd) (b : Binds K fd ["rule", "standing", "bit"] []) (T : Tx mg) (RT : RuT K C) (c_put_in : Met P w K mg base 3 C "put_in" (spPutIn C) []) (c_tail : Cal P w K mg base 1 "tail" spTail []) (p_longest : Prp P w K mg base 1 C "longest" (spLongest C)) : Cal P w K mg base 4 "move" (spMove C) [] := by
  refine cal0 F b .nil sc_move (fun vs H Q E h => ?_) (fun cdv A outer s H vs Q E hr h => ?_)
  · obtain ⟨_, _, _, _, _, _, rfl, _⟩ := h; rfl
  · obtain ⟨a, fl, ss, t, b, x, rfl, hR, ok, lt, hx, lx, k⟩ := h
    refine ⟨_, (pss_cons (ps_set (i := 3) sc_move.nd rfl (.inl rfl) (pe_mt (pl := _) c_put_in hr (by decide) (pv 0) (pa_cons (pe_op op_add_str (pv 1) (pv 2)) pa_nil)))
    (pss_cons (ps_if (pt_cmpR op_isN (pv 3) pe_non (nomark _)) (pss_one (ps_ret pe_non)) pss_nil)
    (pss_one (ps_ret (pe_tup (pa_cons (pe_callB call_len_str (by rfl) T.b_len (by decide +kernel) (pa_cons (pv 3) pa_nil)) (pa_cons (pe_c c_tail hr (by decide) rfl (pa_cons (pe_op op_add_str (pe_op op_add_str (pv 1) (pv 2)) (pv 3)) (pa_cons (pe_pr p_longest hr (by decide) (pv 0)) pa_nil))) pa_nil))))))), ?_⟩
    obtain ⟨da, ta, _, _, ha, _⟩ := id hR
    have lwt : (W t).length = t.length := W_len _
    have lwb : (W [b]).length = 1 := W_len _
    have lwx : (W x).length = x.length := W_len _
    have e1 : W t ++ W [b] = W (t ++ [b]) := W_cat _ _
    refine ⟨_, rfl, a, da, _, rfl, ha, ruF_no _ _ (by decide +kernel) (by decide +kernel), _, rfl, _, rfl, _, _, rfl, rfl, by rw [lwt, lwb]; exact sl_len (by omega), ?_⟩
    rw [e1]
    have lt1 : (t ++ [b]).length = t.length + 1 := by rw [List.length_append]; rfl
    refine ⟨a, fl, ss, t ++ [b], x, rfl, hR, ok.few, ok.long, by omega, hx, fun H1 s1 => ?_⟩
    refine ⟨_, rfl, rfl, _, rfl, iteF ?_⟩
    refine ⟨_, rfl, _, rfl, by rw [lwx]; exact sl_len (by omega), ?_⟩
    refine ⟨_, rfl, _, rfl, _, _, rfl, rfl, by rw [lwt, lwb]; exact sl_len (by omega), ?_⟩
    rw [e1]
    refine ⟨_, rfl, _, _, rfl, rfl, by rw [W_len, lwx]; exact sl_len (by omega), ?_⟩
    rw [W_cat]
    have hR1 := hR.same s1
    obtain ⟨d1, t1, _, _, ha1, _⟩ := id hR1
    refine ⟨_, rfl, a, d1, _, rfl, ha1, a, fl, ss, rfl, hR1, ok.few, fun s hs => Nat.le_trans (ok.l9 s hs) (by decide), fun H2 s2 => ?_⟩
    refine ⟨t ++ [b] ++ x, longM ss, rfl, by rw [List.length_append]; omega, by show 2 ≤ sizeLine; decide, fun p np => ?_⟩
    have e40 : itP ss 40 (t ++ [b]) = t ++ [b] ++ x := by rw [hx.itP, List.take_of_length_le (by omega)]
    refine k p _ ((s1.trans s2).free np) ((s1.trans s2).trans (same_upd np)) ?_
    rw [upd_same, W_len]
    unfold cM nM
    rw [e40, List.length_append, lt1]
    congr 4
    omega
end
end U

set_option maxRecDepth 100000
set_option maxHeartbeats 4000000
set_option pp.maxSteps 400
namespace U
open PySem PySem.Spec PyProof.Rows
open L2 hiding Fun CX0 E0 pass0 Fun.binds
open C8 Lx SX StX
theorem MvI.start {ss : List Stf} : MvI ss [] [[]] 0 := by
  refine ⟨List.nodup_nil, List.mem_singleton.mpr rfl, fun j u hj => absurd hj (Nat.not_lt_zero _), fun w hw => (by cases hw), fun u hu => ⟨[], ?_⟩, fun u hu => (by cases hu), rfl, Nat.zero_le _⟩
  rw [List.mem_singleton.mp hu]
  exact (tl_id (Nat.zero_le _)).symm
theorem same_lst {H H' : Hp} {q : Addr} {xs : List V} {o : HO} (h : Same H H') (hq : H q = none) : Same H (upd H' q o) := same_mut' h hq
section
variable {P : Program} {w : World} {K : PySem.W.Frag} {mg : Str → Option Value} {base : Heap}
theorem sc_moves_of : FnScope ["rule", "found", "waiting", "at", "here", "bit", "many", "there"] ["rule"] (fnScope s_moves_of) := fnScope_by (by decide +kernel)
theorem cal_moves_of {f C : Addr} {fd : FuncData} {tB : Tok} (F : Def K mg "moves_of" s_moves_of f fd) (b : Binds K fd ["rule"] []) (T : Tx mg) (g_BITS : mg "BITS" = some (.str "01" tB)) (c_move : Cal P w K mg base 4 "move" (spMove C) []) : Cal P w K mg base 5 "moves_of" (spMovesOf C) [] := by
  refine cal0 F b .nil sc_moves_of (fun vs H Q E h => ?_) (fun cdv A outer s H vs Q E hr h => ?_)
  · obtain ⟨_, _, _, rfl, _⟩ := h; rfl
  · obtain ⟨a, fl, ss, rfl, hR, ok, o, k⟩ := h
    refine ⟨_, (pss_cons (ps_par3 (i := 1) (j := 2) (l := 3) (by rfl) sc_moves_of.nd rfl rfl rfl (by decide) (by decide) (by decide) rfl rfl rfl (pa_cons pe_dnewK (pa_cons (pe_lst (pa_cons pe_str pa_nil)) (pa_cons pe_int pa_nil))) (by rfl))
    (pss_cons (ps_while PassesOwn.never (pt_cmpR op_lt (pv 3) (pe_callB call_len_seq (by rfl) T.b_len (by decide +kernel) (pa_cons (pv 2) pa_nil)) (nomark _))
    (pss_cons (ps_set (i := 4) sc_moves_of.nd rfl (.inr rfl) (pe_ix ix_list (pv 2) (pv 3) (fun _ _ => rfl)))
    (pss_cons (ps_aug (i := 3) sc_moves_of.nd rfl (.inl rfl) pe_int ip_add)
    (pss_one (ps_if (pt_cmp (pc_dnotin (hu_of hr) (pv 4) (pv 1))) (pss_cons (ps_dput (hu_of hr) (pv 1) (pv 4) (pe_lc (own := [("bit", 5)]) (g := gName 5) (by rfl) sc_moves_of.nd (pi_str (pe_glob (v := .str "01") (by rfl) g_BITS ⟨_, rfl⟩)) (blkOk_by (own := [("bit", 5)]) (N := ["rule", "found", "waiting", "at", "here", "bit", "many", "there"]) (sc := fnScope s_moves_of) (by decide +kernel)) (fun _ _ _ _ _ => (pg_name (i := 5) sc_moves_of.nd rfl (.inl rfl))) (fun _ _ _ _ _ => pts_nil) (fun _ _ _ _ _ => (pe_c c_move hr (by decide) rfl (pa_cons (pv 0) (pa_cons (pv 4) (pa_cons (pv 5) pa_nil)))))) rfl)
    (pss_one (ps_expr (pe_bm PySem.F.plainAttrs_list PySem.F.slot_list_extend PySem.F.type_list_extend mt_extend (pv 2) (pa_cons (pe_lc (own := [("many", 6), ("there", 7)]) (g := gTup K 2 (gCons (gName 6) (gCons (gName 7) gNil))) (by rfl) sc_moves_of.nd (pi_list (pe_dget (hu_of hr) (pv 1) (pv 4) (fun _ _ => rfl))) (blkOk_by (own := [("many", 6), ("there", 7)]) (N := ["rule", "found", "waiting", "at", "here", "bit", "many", "there"]) (sc := fnScope s_moves_of) (by decide +kernel)) (fun _ _ _ _ _ => (pg_tup rfl (pgs_cons (pg_name (i := 6) sc_moves_of.nd rfl (.inl rfl)) (pgs_cons (pg_name (i := 7) sc_moves_of.nd rfl (.inl rfl)) pgs_nil)))) (fun _ _ _ _ _ => pts_nil) (fun _ _ _ _ _ => (pv 7))) pa_nil))))) pss_nil)))))
    (pss_one (ps_ret (pv 1))))), ?_⟩
    have lg := ok.long
    refine fun d nd => ⟨by show 1 ≤ sizeLine; decide, fun q nq => ⟨_, _, _, rfl, ?_⟩⟩
    have sd := same_upd (o := .dK []) nd
    have hd0 : upd H d (.dK []) d = some (.dK (kvr [] fun _ => d)) := upd_same
    generalize upd H d (.dK []) = H0 at nq sd hd0 ⊢
    have sq := same_upd (o := .lst [.str ""]) nq
    have hq1 : upd H0 q (.lst [.str ""]) q = some (.lst (wdsV [[]])) := by rw [upd_same, W_nil]; rfl
    have hd1 := sq _ _ hd0
    have nqH : H q = none := sd.free nq
    have sS := sd.trans sq
    generalize upd H0 q (.lst [.str ""]) = H1 at hq1 hd1 sS ⊢
    refine ⟨fun m σ H3 => ∃ (n : Nat) (ws wt : List (List Bool)) (lo : List Bool → Addr) (v4 v5 v6 v7 : Option V), σ = [some (.ref a), some (.ref d), some (.ref q), some (.int (n : Nat)), v4, v5, v6, v7] ∧ Same H H3 ∧ H3 d = some (.dK (kvr ws lo)) ∧ MvD H3 ss ws lo ∧ H3 q = some (.lst (wdsV wt)) ∧ MvI ss ws wt n ∧ n + m = 3000,
      ⟨3000, 0, [], [[]], fun _ => d, none, none, none, none, rfl, sS, hd1, fun w hw => (by cases hw), hq1, .start, rfl⟩, ?_⟩
    rintro m σ H3 ⟨n, ws, wt, lo, v4, v5, v6, v7, rfl, s3, hd3, hM3, hq3, hI, hm⟩
    have few := hI.few lg
    have lwt := hI.len
    refine ⟨_, rfl, _, rfl, q, _, rfl, .inl (SqL.of hq3), _, _, rfl, rfl, _, rfl, ?_⟩
    rw [wdsV_len]
    by_cases hlt : n < wt.length
    · refine iteDT (by omega) ?_
      refine ⟨fun σ' H' => ∃ m', m' < m ∧ ∃ (n : Nat) (ws wt : List (List Bool)) (lo : List Bool → Addr) (v4 v5 v6 v7 : Option V), σ' = [some (.ref a), some (.ref d), some (.ref q), some (.int (n : Nat)), v4, v5, v6, v7] ∧ Same H H' ∧ H' d = some (.dK (kvr ws lo)) ∧ MvD H' ss ws lo ∧ H' q = some (.lst (wdsV wt)) ∧ MvI ss ws wt n ∧ n + m' = 3000, fun _ _ h => h, ?_⟩
      have hnw : wt[n]? = some wt[n] := List.getElem?_eq_getElem hlt
      generalize wt[n] = u at hnw
      have hum := List.mem_of_getElem? hnw
      refine ⟨_, rfl, _, rfl, q, _, _, _, rfl, rfl, SqL.of hq3, atI_nat (by unfold wdsV; rw [List.getElem?_map, hnw]; rfl), ?_⟩
      refine ⟨_, rfl, _, _, rfl, rfl, ?_⟩
      refine ⟨_, rfl, _, rfl, d, _, rfl, DGet.k (k := .inr (W u)) hd3, _, rfl, ?_⟩
      by_cases hin : u ∈ ws
      · refine iteBF (by rw [kvr_val hin]; rfl) ?_
        exact ⟨m - 1, by omega, n + 1, ws, wt, lo, _, _, _, _, rfl, s3, hd3, hM3, hq3, hI.skip hnw hin, by omega⟩
      · refine iteBT (by unfold kvr; rw [kvw_val, if_neg hin]; rfl) ?_
        have hge := hI.g u hum
        have lu : u.length ≤ 9 := by
          obtain ⟨mm, rfl⟩ := hge
          exact Nat.le_trans (tl_le _ _) lg
        refine ⟨_, rfl, fun D nD => ?_⟩
        refine lc_it walk_str (fun j H4 => ∃ ps : List Addr, Same H3 H4 ∧ H4 D = some (.lst (ps.map V.ref)) ∧ ps.length = j ∧ ∀ i p, ps[i]? = some p → H4 p = some (.tup [.int (cM ss u (decide (i = 1)) : Nat), .str (W (nM ss u (decide (i = 1))))]))
          ⟨[], same_upd nD, upd_same, rfl, fun i p h => by simp at h⟩ (fun _ _ _ _ => trivial) ?_ ?_
        · rintro j x H4 H4' hj ⟨ps, s4, hD, lps, hps⟩ ⟨rfl, ch, hch, rfl⟩
          rw [show ("01" : Str) = W [false, true] by decide +kernel] at hch
          obtain ⟨bb, hbb, rfl⟩ := W_get hch
          have hj2 : j < 2 := (List.getElem?_eq_some_iff.mp hbb).1
          have ebb : bb = decide (j = 1) := by
            match j, hj2, hbb with
            | 0, _, h => exact (Option.some.inj h).symm
            | 1, _, h => exact (Option.some.inj h).symm
          obtain ⟨x, hx, lx⟩ : ∃ x, Ins ss (u ++ [bb]) x ∧ x.length ≤ 39 := by
            obtain ⟨mm, rfl⟩ := hge
            obtain ⟨x, h1, h2, _⟩ := stand_ins o mm bb
            exact ⟨x, h1, h2⟩
          refine ⟨rfl, _, rfl, _, rfl, _, rfl, a, fl, ss, u, bb, x, rfl, hR.same (s3.trans s4), ok, by omega, hx, lx, fun p H5 np s5 hp => ?_⟩
          have hD5 := s5 _ _ hD
          have npD : p ≠ D := ne_of hp hD5 (by intro z; cases z)
          refine ⟨_, hD5, by rw [List.length_map]; exact sl_lt (by omega), ps ++ [p], same_mut' (s4.trans s5) nD, by rw [upd_same, List.map_append]; rfl, by rw [List.length_append, lps]; rfl, fun i p' hi => ?_⟩
          by_cases c : i < ps.length
          · rw [List.getElem?_append_left c] at hi
            have h1 := s5 _ _ (hps i p' hi)
            rw [upd_ne (ne_of h1 hD5 (by intro z; cases z))]
            exact h1
          · rw [List.getElem?_append_right (by omega)] at hi
            have l0 : i - ps.length = 0 := by
              have := (List.getElem?_eq_some_iff.mp hi).1
              simp only [List.length_cons, List.length_nil] at this
              omega
            rw [l0] at hi
            have ep : p = p' := Option.some.inj hi
            have ei : i = j := by omega
            rw [← ep, upd_ne npD, ei, ← ebb]
            exact hp
        · rintro H4 ⟨ps, s4, hD, lps, hps⟩
          have l2 : ps.length = 2 := by rw [lps, show ("01" : Str) = W [false, true] by decide +kernel, W_size]; rfl
          match ps, l2, hD, hps with
          | [p0, p1], _, hD, hps =>
            have hE : MvE H4 ss u D := ⟨p0, p1, hD, hps 0 p0 rfl, hps 1 p1 rfl⟩
            have s34 := s3.trans s4
            have hd4 := s4 _ _ hd3
            have hM4 := (hM3.same s4).add hin hE
            have hq4 := s4 _ _ hq3
            have ndH : H d = none := nd
            refine ⟨_, rfl, _, rfl, d, _, rfl, DPut.k (k := .inr (W u)) hd4 (by rw [kvr_len]; exact sl_lt (by omega)), ?_⟩
            rw [kvr_new hin]
            have s5 : Same H (upd H4 d (.dK (kvr (ws ++ [u]) (ug lo u D)))) := same_mut' s34 ndH
            have hd5 : upd H4 d (.dK (kvr (ws ++ [u]) (ug lo u D))) d = some (.dK (kvr (ws ++ [u]) (ug lo u D))) := upd_same
            have hM5 := hM4.dk (o := .dK (kvr (ws ++ [u]) (ug lo u D))) hd4 (fun _ z => by cases z) (fun _ z => by cases z)
            have hE5 := hE.dk (o := .dK (kvr (ws ++ [u]) (ug lo u D))) hd4 (fun _ z => by cases z) (fun _ z => by cases z)
            have hq5 : upd H4 d (.dK (kvr (ws ++ [u]) (ug lo u D))) q = some (.lst (wdsV wt)) := by rw [upd_ne (ne_of hq4 hd4 (by intro z; cases z))]; exact hq4
            generalize upd H4 d (.dK (kvr (ws ++ [u]) (ug lo u D))) = H5 at s5 hd5 hM5 hE5 hq5 ⊢
            clear hM4 hM3 hd4 hq4 hD hps hE
            obtain ⟨r0, r1, hD5, h0, h1⟩ := hE5
            refine ⟨_, rfl, .inl ⟨rfl, _, SqL.of hq5⟩, ?_⟩
            have hum2 : u ∈ ws ++ [u] := List.mem_append_right _ (List.mem_singleton.mpr rfl)
            refine ⟨_, rfl, _, rfl, d, _, rfl, by have := DGet.k (k := .inr (W u)) hd5; rw [kvr_val hum2, ug_same] at this; exact this, D, rfl, ⟨_, SqL.of hD5⟩, fun D2 nD2 => ?_⟩
            have nD2q : D2 ≠ q := (ne_of_none hq5 nD2).symm
            refine lc_it (walk_list (xs := [.ref r0, .ref r1])) (fun j H6 => Same H5 H6 ∧ H6 D2 = some (.lst (wdsV ([nM ss u false, nM ss u true].take j)))) ⟨same_upd nD2, upd_same⟩ (fun j H6 _ h6 => SqL.of (h6.1 _ _ hD5)) ?_ ?_
            · rintro j x H6 H6' hj ⟨s6, hD2⟩ ⟨rfl, hx⟩
              match j, hj, hx with
              | 0, _, hx =>
                cases hx
                exact ⟨r0, _, rfl, SqT.of (s6 _ _ h0), rfl, _, _, rfl, _, _, rfl, rfl, rfl, _, rfl, _, hD2, by show 0 < sizeLine; decide, same_mut' s6 nD2, upd_same⟩
              | 1, _, hx =>
                cases hx
                exact ⟨r1, _, rfl, SqT.of (s6 _ _ h1), rfl, _, _, rfl, _, _, rfl, rfl, rfl, _, rfl, _, hD2, by show 1 < sizeLine; decide, same_mut' s6 nD2, upd_same⟩
            · rintro H6 ⟨s6, hD2⟩
              have s56 := s5.trans s6
              refine ⟨q, D2, _, _, rfl, rfl, s6 _ _ hq5, hD2, by rw [wdsV_len, wdsV_len]; show wt.length + 2 ≤ sizeLine; exact sl_len (by omega), ?_⟩
              rw [← wdsV_app]
              have hq6 := s6 _ _ hq5
              refine ⟨m - 1, by omega, n + 1, ws ++ [u], wt ++ [nM ss u false, nM ss u true], ug lo u D, _, _, _, _, rfl, same_mut' s56 nqH, ?_, ?_, upd_same, hI.add o hnw hin, by omega⟩
              · rw [upd_ne (ne_of (s6 _ _ hd5) hq6 (by intro z; cases z))]
                exact s6 _ _ hd5
              · intro w hw
                obtain ⟨t0, t1, g0, g1, g2⟩ := (hM5 w hw).same s6
                by_cases clq : ug lo u D w = q
                · exfalso
                  rw [clq, hq6] at g0
                  have := HO.lst.inj (Option.some.inj g0)
                  unfold wdsV at this
                  cases wt with
                  | nil => cases this
                  | cons x r => rw [List.map_cons] at this; cases this
                · exact ⟨t0, t1, by rw [upd_ne clq]; exact g0, by rw [upd_ne (ne_of g1 hq6 (by intro z; cases z))]; exact g1, by rw [upd_ne (ne_of g2 hq6 (by intro z; cases z))]; exact g2⟩
    · refine iteDF (by omega) ?_
      exact ⟨_, rfl, k d ws H3 nd s3 ⟨lo, hd3, hM3⟩ (hI.end (by omega))⟩
end
end U

set_option maxRecDepth 100000
set_option maxHeartbeats 4000000
set_option pp.maxSteps 400
namespace U
open PySem PySem.Spec PyProof.Rows
open L2 hiding Fun CX0 E0 pass0 Fun.binds
open C8 Lx SX StX
/-- how many bits can be put in at most, for each standing -/
def blD (ss : List Stf) (ws : List (List Bool)) (i : Nat) : List (Key × V) := kvw ws fun w => .int (bstM ss i w : Nat)
def BlL (H : Hp) (ss : List Stf) (ws : List (List Bool)) (ds : List Addr) : Prop := ∀ i d, ds[i]? = some d → H d = some (.dK (blD ss ws i))
theorem BlL.same {H H' : Hp} {ss : List Stf} {ws : List (List Bool)} {ds : List Addr} (h : BlL H ss ws ds) (e : Same H H') : BlL H' ss ws ds := fun i d hd => e _ _ (h i d hd)
theorem bl_val {ss : List Stf} {ws : List (List Bool)} {i : Nat} {w : List Bool} (h : w ∈ ws) : valV (blD ss ws i) (Sum.inr (W w)) = some (.int (bstM ss i w : Nat)) := by
  unfold blD
  rw [kvw_val, if_pos h]
def spBestLeft : Sp := fun vs H Q _ => ∃ (d : Addr) (ss : List Stf) (ws : List (List Bool)) (n : Nat), vs = [.ref d, .int n] ∧ MvAt H d ss ws ∧ Mvs ss ws ∧ ws.length ≤ 1100 ∧ n ≤ 10000 ∧
  ∀ l ds H', H l = none → Same H H' → H' l = some (.lst (ds.map V.ref)) → ds.length = n + 1 → BlL H' ss ws ds → Q (.ref l) H'
section
variable {P : Program} {w : World} {K : PySem.W.Frag} {mg : Str → Option Value} {base : Heap}
theorem sc_best_left : FnScope ["moves", "size", "found", "here", "turn", "last", "many", "there"] ["moves", "size"] (fnScope s_best_left) := fnScope_by (by decide +kernel)
theorem cal_best_left {f : Addr} {fd : FuncData} (F : Def K mg "best_left" s_best_left f fd) (b : Binds K fd ["moves", "size"] []) (T : Tx mg) : Cal P w K mg base 1 "best_left" spBestLeft [] := by
  refine cal0 F b .nil sc_best_left (fun vs H Q E h => ?_) (fun cdv A outer s H vs Q E hr h => ?_)
  · obtain ⟨_, _, _, _, rfl, _⟩ := h; rfl
  · obtain ⟨d, ss, ws, n, rfl, ⟨lo, hd, hM⟩, hW, few, hn, k⟩ := h
    refine ⟨_, (pss_cons (ps_set (i := 2) sc_best_left.nd rfl (.inl rfl) (pe_lst (pa_cons (pe_lock (pe_dc (own := [("here", 3)]) (g := gName 3) (by rfl) sc_best_left.nd (pi_keys (pv 0)) (blkOk_by (own := [("here", 3)]) (N := ["moves", "size", "found", "here", "turn", "last", "many", "there"]) (sc := fnScope s_best_left) (by decide +kernel)) (fun _ _ _ _ _ => (pg_name (i := 3) sc_best_left.nd rfl (.inl rfl))) (fun _ _ _ _ _ => pts_nil) (fun _ _ _ _ _ => (pv 3)) (fun _ _ _ _ _ => pe_int))) pa_nil)))
    (pss_cons (ps_for PassesOwn.never rfl (pi_range1 (by rfl) T.b_range (pa_cons (pv 1) pa_nil)) (pg_name (i := 4) sc_best_left.nd rfl (.inl rfl))
    (pss_cons (ps_set (i := 5) sc_best_left.nd rfl (.inr rfl) (pe_ix ix_list (pv 2) (pe_un un_neg pe_int) (fun _ _ => rfl)))
    (pss_one (ps_expr (pe_bm PySem.F.plainAttrs_list PySem.F.slot_list_append PySem.F.type_list_append mt_append (pv 2) (pa_cons (pe_lock (pe_dc (own := [("here", 3)]) (g := gName 3) (by rfl) sc_best_left.nd (pi_keys (pv 0)) (blkOk_by (own := [("here", 3)]) (N := ["moves", "size", "found", "here", "turn", "last", "many", "there"]) (sc := fnScope s_best_left) (by decide +kernel)) (fun _ _ _ _ _ => (pg_name (i := 3) sc_best_left.nd rfl (.inl rfl))) (fun _ _ _ _ _ => pts_nil) (fun _ _ _ _ _ => (pv 3)) (fun _ _ _ _ _ => (pe_callB (show CallR _ (.builtin "max") (rMax K) from cr_max (by rfl)) (by rfl) T.b_max (by decide +kernel) (pa_cons (pe_lc (own := [("many", 6), ("there", 7)]) (g := gTup K 2 (gCons (gName 6) (gCons (gName 7) gNil))) (by rfl) sc_best_left.nd (show PI _ _ _ (iList K _) from pi_list (pe_dget (hu_of hr) (pv 0) (pv 3) (fun _ _ => rfl))) (by refine blkOk_by ?_; kernel_rfl) (fun _ _ _ _ _ => (pg_tup rfl (pgs_cons (pg_name (i := 6) sc_best_left.nd rfl (.inl rfl)) (pgs_cons (pg_name (i := 7) sc_best_left.nd rfl (.inl rfl)) pgs_nil)))) (fun _ _ _ _ _ => pts_nil) (fun _ _ _ _ _ => (pe_callTy call_int1 (by rfl) T.b_int (by decide +kernel) (pa_cons (pe_op op_add (pv 6) (pe_dget (hu_of hr) (pv 5) (pv 7) (fun _ _ => rfl))) pa_nil)))) pa_nil))))) pa_nil))))))
    (pss_one (ps_ret (pv 2))))), ?_⟩
    refine ⟨d, _, hd, trivial, fun od => ?_⟩
    have hdf : upd H d (.frz od (.dK (kvr ws lo))) d = some (.frz od (.dK (kvr ws lo))) := upd_same
    have un1 : ∀ {H'}, Same (upd H d (.frz od (.dK (kvr ws lo)))) H' → Same H (upd H' d (.dK (kvr ws lo))) := fun s => same_unlock s hd
    generalize upd H d (.frz od (.dK (kvr ws lo))) = H1 at hdf un1 ⊢
    refine ⟨_, rfl, d, od, rfl, .inl ⟨_, hdf, fun D nD => ?_⟩⟩
    have lkv : (kvr ws lo).length = ws.length := kvr_len _ _
    refine dc_it (walk_keys (kvs := kvr ws lo)) (fun i H3 => Same H1 H3 ∧ H3 D = some (.dK (blD ss (ws.take i) 0))) ⟨same_upd nD, upd_same⟩ (fun i H3 _ h3 => h3.1 _ _ hdf) ?_ ?_
    · rintro i x H3' H3 hi ⟨s3, hD⟩ ⟨rfl, kk, vv, hkv, rfl⟩
      obtain ⟨u, hu, rfl, rfl⟩ := kvw_get hkv
      refine ⟨rfl, _, rfl, _, .inr (W u), rfl, hD, by unfold blD; rw [kvw_len, List.length_take]; exact sl_lt (by omega), same_mut' s3 nD, ?_⟩
      rw [upd_same]
      unfold blD
      rw [kvw_snoc (g := fun w => V.int (bstM ss 0 w : Nat)) (v := V.int 0) (nodup_take hW.nd hu) rfl, take_snoc hu]
    · rintro H3 ⟨s3, hD⟩
      rw [lkv, List.take_length] at hD
      have nDd : D ≠ d := (ne_of_none hdf nD).symm
      have s4 := un1 s3
      have hd4 : upd H3 d (.dK (kvr ws lo)) d = some (.dK (kvr ws lo)) := upd_same
      have hD4 : upd H3 d (.dK (kvr ws lo)) D = some (.dK (blD ss ws 0)) := by rw [upd_ne nDd]; exact hD
      refine ⟨s3 _ _ hdf, by show 1 ≤ sizeLine; decide, fun l nl => ?_⟩
      generalize upd H3 d (.dK (kvr ws lo)) = H4 at s4 hd4 hD4 nl ⊢
      have sl := same_upd (o := .lst [.ref D]) nl
      have hl : upd H4 l (.lst [.ref D]) l = some (.lst ([D].map V.ref)) := upd_same
      have nlH : H l = none := s4.free nl
      have hD5 := sl _ _ hD4
      have s5 := s4.trans sl
      generalize upd H4 l (.lst [.ref D]) = H5 at hl hD5 s5 ⊢
      refine ⟨_, rfl, _, rfl, by omega, by omega, ?_⟩
      refine for_it (walk_range (lo := 0) (n := (n : Int).toNat)) (fun i σ H6 => ∃ (ds : List Addr) (v3 v4 v5 v6 v7 : Option V), σ = [some (.ref d), some (.int n), some (.ref l), v3, v4, v5, v6, v7] ∧ Same H H6 ∧ H6 l = some (.lst (ds.map V.ref)) ∧ ds.length = i + 1 ∧ BlL H6 ss ws ds)
        ⟨[D], _, _, _, _, _, rfl, s5, hl, rfl, fun i d' h => by
          match i, h with
          | 0, h => cases h; exact hD5
          | i + 1, h => simp at h⟩ (fun _ _ _ _ _ => trivial) ?_ ?_
      · rintro i x σ H6' H6 hi ⟨ds, v3, v4, v5, v6, v7, rfl, s6, hl6, lds, hB⟩ ⟨rfl, rfl⟩
        have hi' : i < n := by omega
        obtain ⟨ds', dl, rfl⟩ : ∃ ds' dl, ds = ds' ++ [dl] := by
          rcases List.eq_nil_or_concat ds with e0 | ⟨a1, a2, e0⟩
          · rw [e0] at lds; cases lds
          · exact ⟨a1, a2, by rw [e0, List.concat_eq_append]⟩
        have lds' : ds'.length = i := by rw [List.length_append] at lds; simpa using lds
        have hdl : H6 dl = some (.dK (blD ss ws i)) := hB i dl (by rw [List.getElem?_append_right (by omega), lds', Nat.sub_self]; rfl)
        refine ⟨_, rfl, _, rfl, l, _, _, _, rfl, rfl, SqL.of hl6, by rw [List.map_append]; exact atI_last _ _, ?_⟩
        refine ⟨_, rfl, .inl ⟨rfl, _, SqL.of hl6⟩, ?_⟩
        have hd6 := s6 _ _ hd
        have hM6 := hM.same s6
        refine ⟨d, _, hd6, trivial, fun od2 => ?_⟩
        have hdf2 : upd H6 d (.frz od2 (.dK (kvr ws lo))) d = some (.frz od2 (.dK (kvr ws lo))) := upd_same
        have un2 : ∀ {H'}, Same (upd H6 d (.frz od2 (.dK (kvr ws lo)))) H' → Same H6 (upd H' d (.dK (kvr ws lo))) := fun s => same_unlock s hd6
        have hM7 := hM6.dk (o := .frz od2 (.dK (kvr ws lo))) hd6 (fun _ z => by cases z) (fun _ z => by cases z)
        have hdl7 : Rd (upd H6 d (.frz od2 (.dK (kvr ws lo)))) dl (.dK (blD ss ws i)) := by
          by_cases c : dl = d
          · have e := hdl
            rw [c, hd6] at e
            exact .inr ⟨od2, by rw [c, upd_same, ← Option.some.inj e]⟩
          · exact .inl (by rw [upd_ne c]; exact hdl)
        generalize upd H6 d (.frz od2 (.dK (kvr ws lo))) = H7 at hdf2 un2 hM7 hdl7 ⊢
        refine ⟨_, rfl, d, od2, rfl, .inl ⟨_, hdf2, fun D nD => ?_⟩⟩
        refine dc_it (walk_keys (kvs := kvr ws lo)) (fun j H8 => Same H7 H8 ∧ H8 D = some (.dK (blD ss (ws.take j) (i + 1)))) ⟨same_upd nD, upd_same⟩ (fun i H3 _ h3 => h3.1 _ _ hdf2) ?_ ?_
        · rintro j x H8' H8 hj ⟨s8, hD8⟩ ⟨rfl, kk, vv, hkv, rfl⟩
          obtain ⟨u, hu, rfl, rfl⟩ := kvw_get hkv
          have hum := List.mem_of_getElem? hu
          obtain ⟨p0, p1, hlu, hp0, hp1⟩ := (hM7 u hum).same s8
          have hdf8 := s8 _ _ hdf2
          have hrd : DGet H8 d (.str (W u)) (some (.ref (lo u))) := .inl ⟨kvr ws lo, .inr (W u), .inr ⟨od2, hdf8⟩, rfl, (kvr_val hum).symm⟩
          refine ⟨rfl, _, rfl, ?_⟩
          refine ⟨_, rfl, _, rfl, d, _, rfl, hrd, lo u, rfl, ⟨_, SqL.of hlu⟩, fun D2 nD2 => ?_⟩
          have rdl : ∀ {H9}, Same H8 H9 → Rd H9 dl (.dK (blD ss ws i)) := fun s9 => rd_same hdl7 (s8.trans s9)
          have item : ∀ {H9 : Hp} {p : Addr} {bb : Bool} {zs : List V}, Same H8 H9 → H9 p = some (.tup [.int (cM ss u bb : Nat), .str (W (nM ss u bb))]) → DGet H9 dl (.str (W (nM ss u bb))) (some (.int (bstM ss i (nM ss u bb) : Nat))) := fun {H9 p bb zs} s9 hp => .inl ⟨_, .inr (W (nM ss u bb)), rdl s9, rfl, (bl_val (hW.cl u hum bb)).symm⟩
          refine lc_it (walk_list (xs := [.ref p0, .ref p1])) (fun j2 H9 => Same H8 H9 ∧ H9 D2 = some (.lst (([((cM ss u false : Nat) : Int) + (bstM ss i (nM ss u false) : Nat), (cM ss u true : Nat) + (bstM ss i (nM ss u true) : Nat)].take j2).map V.int))) ⟨same_upd nD2, upd_same⟩ (fun j2 H9 _ h9 => SqL.of (h9.1 _ _ hlu)) ?_ ?_
          · rintro j2 x H9' H9 hj2 ⟨s9, hD9⟩ ⟨rfl, hx⟩
            match j2, hj2, hx with
            | 0, _, hx =>
              cases hx
              exact ⟨p0, _, rfl, SqT.of (s9 _ _ hp0), rfl, _, _, rfl, _, _, rfl, rfl, rfl, _, rfl, _, rfl, _, rfl, dl, _, rfl, item (zs := []) s9 (s9 _ _ hp0), _, _, rfl, rfl, .inl ⟨_, rfl, _, hD9, by show 0 < sizeLine; decide, same_mut' s9 nD2, upd_same⟩⟩
            | 1, _, hx =>
              cases hx
              exact ⟨p1, _, rfl, SqT.of (s9 _ _ hp1), rfl, _, _, rfl, _, _, rfl, rfl, rfl, _, rfl, _, rfl, _, rfl, dl, _, rfl, item (zs := []) s9 (s9 _ _ hp1), _, _, rfl, rfl, .inl ⟨_, rfl, _, hD9, by show 1 < sizeLine; decide, same_mut' s9 nD2, upd_same⟩⟩
          · rintro H9 ⟨s9, hD9⟩
            refine ⟨D2, _, rfl, SqL.of hD9, by show 0 < 2; decide, fun m hm hmax => ?_⟩
            have em : m = ((bstM ss (i + 1) u : Nat) : Int) := by
              have e : bstM ss (i + 1) u = max (cM ss u false + bstM ss i (nM ss u false)) (cM ss u true + bstM ss i (nM ss u true)) := rfl
              have h1 := hmax _ (List.mem_cons_self)
              have h2 := hmax _ (List.mem_cons_of_mem _ List.mem_cons_self)
              rcases List.mem_cons.mp hm with hm | hm
              · omega
              · have hm := List.mem_singleton.mp hm
                omega
            have hD10 := s9 _ _ hD8
            refine ⟨_, .inr (W u), rfl, hD10, by unfold blD; rw [kvw_len, List.length_take]; exact sl_lt (by omega), same_mut' (s8.trans s9) nD, ?_⟩
            rw [upd_same]
            unfold blD
            rw [kvw_snoc (g := fun w => V.int (bstM ss (i + 1) w : Nat)) (nodup_take hW.nd hu) (by rw [em]), take_snoc hu]
        · rintro H8 ⟨s8, hD8⟩
          rw [lkv, List.take_length] at hD8
          have nDd : D ≠ d := (ne_of_none hdf2 nD).symm
          have s9 := un2 s8
          have hD9 : upd H8 d (.dK (kvr ws lo)) D = some (.dK (blD ss ws (i + 1))) := by rw [upd_ne nDd]; exact hD8
          refine ⟨s8 _ _ hdf2, ?_⟩
          generalize upd H8 d (.dK (kvr ws lo)) = H9 at s9 hD9 ⊢
          have hl9 := s9 _ _ hl6
          refine ⟨l, _, _, rfl, rfl, hl9, by rw [List.length_map]; exact sl_lt (by omega), ?_⟩
          refine ⟨ds' ++ [dl] ++ [D], _, _, _, _, _, rfl, same_mut' (s6.trans s9) nlH, by rw [upd_same, List.map_append (l₂ := [D])]; rfl, by rw [List.length_append, lds]; rfl, fun i2 d2 h2 => ?_⟩
          have key : H9 d2 = some (.dK (blD ss ws i2)) := by
            by_cases c : i2 < (ds' ++ [dl]).length
            · rw [List.getElem?_append_left c] at h2
              exact s9 _ _ (hB i2 d2 h2)
            · rw [List.getElem?_append_right (by omega)] at h2
              have l0 : i2 - (ds' ++ [dl]).length = 0 := by
                have := (List.getElem?_eq_some_iff.mp h2).1
                simp only [List.length_cons, List.length_nil] at this
                omega
              rw [l0] at h2
              have ed : D = d2 := Option.some.inj h2
              have ei : i2 = i + 1 := by omega
              rw [← ed, ei]
              exact hD9
          rw [upd_ne (ne_of key hl9 (by intro z; cases z))]
          exact key
      · rintro σ H6 ⟨ds, v3, v4, v5, v6, v7, rfl, s6, hl6, lds, hB⟩
        rw [Int.toNat_natCast] at lds
        exact ⟨_, rfl, k l ds H6 nlH s6 hl6 lds hB⟩
end
end U

set_option maxRecDepth 100000
set_option maxHeartbeats 4000000
set_option pp.maxSteps 400
namespace U
open PySem PySem.Spec PyProof.Rows
open L2 hiding Fun CX0 E0 pass0 Fun.binds
open C8 Lx SX StX
theorem Mvs.few {ss : List Stf} {ws : List (List Bool)} (h : Mvs ss ws) (hl : longM ss ≤ 9) : ws.length ≤ 1023 := by
  have := words_le h.nd (n := longM ss) fun w hw => by
    obtain ⟨m, rfl⟩ := h.g w hw
    exact tl_le _ _
  have hp : 2 ^ (longM ss + 1) ≤ 1024 := Nat.le_trans (Nat.pow_le_pow_right (by decide) (show longM ss + 1 ≤ 10 by omega)) (by decide)
  omega
theorem bl_get {H : Hp} {ss : List Stf} {ws : List (List Bool)} {ds : List Addr} {n i : Nat} (hB : BlL H ss ws ds) (hl : ds.length = n + 1) (hi : i ≤ n) : ∃ d, ds[i]? = some d ∧ (ds.map V.ref)[i]? = some (.ref d) ∧ H d = some (.dK (blD ss ws i)) := by
  have h : ds[i]? = some ds[i] := List.getElem?_eq_getElem (by omega)
  exact ⟨_, h, by rw [List.getElem?_map, h]; rfl, hB i _ h⟩
def spMostPut (C : Addr) : Sp := fun vs H Q _ => ∃ (a : Addr) (f : List Bool) (ss : List Stf) (n : Nat), vs = [.ref a, .int n] ∧ RuAt C H a f ss ∧ StOk ss ∧ OkN 39 ss ∧ n ≤ 10000 ∧ ∀ H', Same H H' → Q (.int (bstM ss n [] : Nat)) H'
def spDearest (C : Addr) : Sp := fun vs H Q _ => ∃ (a : Addr) (f : List Bool) (ss : List Stf) (n : Nat), vs = [.ref a, .int n] ∧ RuAt C H a f ss ∧ StOk ss ∧ OkN 39 ss ∧ n ≤ 10000 ∧ ∀ H', Same H H' → Q (.str (W (dearM ss n []))) H'
def spAllPut (C : Addr) : Sp := fun vs H Q _ => ∃ (a : Addr) (f : List Bool) (ss : List Stf) (n : Nat), vs = [.ref a, .int n] ∧ RuAt C H a f ss ∧ StOk ss ∧ OkN 39 ss ∧ n ≤ 10000 ∧ ∀ H', Same H H' → Q (.int (allM ss n [] : Nat)) H'
section
variable {P : Program} {w : World} {K : PySem.W.Frag} {mg : Str → Option Value} {base : Heap}
theorem sc_most_put : FnScope ["rule", "size"] ["rule", "size"] (fnScope s_most_put) := fnScope_by (by decide +kernel)
theorem cal_most_put {f C : Addr} {fd : FuncData} (F : Def K mg "most_put" s_most_put f fd) (b : Binds K fd ["rule", "size"] []) (T : Tx mg) (c_moves_of : Cal P w K mg base 5 "moves_of" (spMovesOf C) []) (c_best_left : Cal P w K mg base 1 "best_left" spBestLeft []) : Cal P w K mg base 6 "most_put" (spMostPut C) [] := by
  refine cal0 F b .nil sc_most_put (fun vs H Q E h => ?_) (fun cdv A outer s H vs Q E hr h => ?_)
  · obtain ⟨_, _, _, _, rfl, _⟩ := h; rfl
  · obtain ⟨a, fl, ss, n, rfl, hR, ok, o, hn, k⟩ := h
    refine ⟨_, (pss_one (ps_ret (pe_dget (hu_of hr) (pe_ix ix_list (pe_c c_best_left hr (by decide) rfl (pa_cons (pe_c c_moves_of hr (by decide) rfl (pa_cons (pv 0) pa_nil)) (pa_cons (pv 1) pa_nil))) (pv 1) (fun _ _ => rfl)) pe_str (fun _ _ => rfl)))), ?_⟩
    refine ⟨_, rfl, a, fl, ss, rfl, hR, ok, o, fun d ws H1 nd s1 hM hW => ?_⟩
    have few := hW.few ok.long
    refine ⟨_, rfl, d, ss, ws, n, rfl, hM, hW, by omega, hn, fun l ds H2 nl s2 hl lds hB => ?_⟩
    obtain ⟨dn, g1, g2, g3⟩ := bl_get hB lds (Nat.le_refl n)
    have e0 : valV (blD ss ws n) (Sum.inr "") = some (.int (bstM ss n [] : Nat)) := by rw [W_nil]; exact bl_val hW.nil
    exact ⟨_, rfl, l, _, _, _, rfl, rfl, SqL.of hl, atI_nat g2, dn, _, rfl, .inl ⟨_, .inr "", .inl g3, rfl, e0.symm⟩, k _ (s1.trans s2)⟩
theorem sc_dearest : FnScope ["rule", "size", "moves", "left", "here", "found", "rest", "many", "there"] ["rule", "size"] (fnScope s_dearest) := fnScope_by (by decide +kernel)
theorem cal_dearest {f C : Addr} {fd : FuncData} {tB : Tok} (F : Def K mg "dearest" s_dearest f fd) (b : Binds K fd ["rule", "size"] []) (T : Tx mg) (g_BITS : mg "BITS" = some (.str "01" tB)) (c_moves_of : Cal P w K mg base 5 "moves_of" (spMovesOf C) []) (c_best_left : Cal P w K mg base 1 "best_left" spBestLeft []) : Cal P w K mg base 6 "dearest" (spDearest C) [] := by
  refine cal0 F b .nil sc_dearest (fun vs H Q E h => ?_) (fun cdv A outer s H vs Q E hr h => ?_)
  · obtain ⟨_, _, _, _, rfl, _⟩ := h; rfl
  · obtain ⟨a, fl, ss, n, rfl, hR, ok, o, hn, k⟩ := h
    refine ⟨_, (pss_cons (ps_set (i := 2) sc_dearest.nd rfl (.inl rfl) (pe_c c_moves_of hr (by decide) rfl (pa_cons (pv 0) pa_nil)))
    (pss_cons (ps_par3 (i := 3) (j := 4) (l := 5) (by rfl) sc_dearest.nd rfl rfl rfl (by decide) (by decide) (by decide) rfl rfl rfl (pa_cons (pe_c c_best_left hr (by decide) rfl (pa_cons (pv 2) (pa_cons (pv 1) pa_nil))) (pa_cons pe_str (pa_cons (pe_lst pa_nil) pa_nil))) (by rfl))
    (pss_cons (ps_for PassesOwn.never rfl (pi_range3 (by rfl) T.b_range (pa_cons (pe_op op_sub (pv 1) pe_int) (pa_cons (pe_un un_neg pe_int) (pa_cons (pe_un un_neg pe_int) pa_nil)))) (pg_name (i := 6) sc_dearest.nd rfl (.inl rfl))
    (pss_cons (ps_asg (pe_ix ix_list (pe_dget (hu_of hr) (pv 2) (pv 4) (fun _ _ => rfl)) pe_int (fun _ _ => rfl)) (pg_tup rfl (pgs_cons (pg_name (i := 7) sc_dearest.nd rfl (.inl rfl)) (pgs_cons (pg_name (i := 8) sc_dearest.nd rfl (.inl rfl)) pgs_nil))))
    (pss_cons (ps_if (pt_cmpR op_eq (pe_op op_add (pv 7) (pe_dget (hu_of hr) (pe_ix ix_list (pv 3) (pv 6) (fun _ _ => rfl)) (pv 8) (fun _ _ => rfl))) (pe_dget (hu_of hr) (pe_ix ix_list (pv 3) (pe_op op_add (pv 6) pe_int) (fun _ _ => rfl)) (pv 4) (fun _ _ => rfl)) (nomark _)) (pss_one (ps_expr (pe_bm PySem.F.plainAttrs_list PySem.F.slot_list_append PySem.F.type_list_append mt_append (pv 5) (pa_cons (pe_ix ix_str (pe_glob (v := .str "01") (by rfl) g_BITS ⟨_, rfl⟩) pe_int (fun _ _ => rfl)) pa_nil)))) (pss_cons (ps_expr (pe_bm PySem.F.plainAttrs_list PySem.F.slot_list_append PySem.F.type_list_append mt_append (pv 5) (pa_cons (pe_ix ix_str (pe_glob (v := .str "01") (by rfl) g_BITS ⟨_, rfl⟩) pe_int (fun _ _ => rfl)) pa_nil)))
    (pss_one (ps_asg (pe_ix ix_list (pe_dget (hu_of hr) (pv 2) (pv 4) (fun _ _ => rfl)) pe_int (fun _ _ => rfl)) (pg_tup rfl (pgs_cons (pg_name (i := 7) sc_dearest.nd rfl (.inl rfl)) (pgs_cons (pg_name (i := 8) sc_dearest.nd rfl (.inl rfl)) pgs_nil)))))))
    (pss_one (ps_set (i := 4) sc_dearest.nd rfl (.inl rfl) (pv 8))))))
    (pss_one (ps_ret (pe_join pe_str (pv 5))))))), ?_⟩
    refine ⟨_, rfl, a, fl, ss, rfl, hR, ok, o, fun d ws H1 nd s1 hM hW => ?_⟩
    have few := hW.few ok.long
    refine ⟨_, rfl, _, rfl, d, ss, ws, n, rfl, hM, hW, by omega, hn, fun l ds H2 nl s2 hl lds hB => ?_⟩
    refine ⟨by show 0 ≤ sizeLine; decide, fun q nq => ⟨_, _, _, rfl, ?_⟩⟩
    have sq := same_upd (o := .lst []) nq
    have hq : upd H2 q (.lst []) q = some (.lst (([] : List Bool).map fun b => V.str (W [b]))) := upd_same
    generalize upd H2 q (.lst []) = H3 at sq hq ⊢
    obtain ⟨lo, hd2, hM2⟩ := hM.same s2
    have e0 : (.str "" : V) = .str (W []) := by rw [W_nil]
    refine ⟨_, rfl, _, _, rfl, rfl, _, rfl, _, rfl, _, _, _, _, rfl, RgC.neg (by omega) (by omega) (by decide) (by decide), ?_⟩
    refine for_it walk_rangeC (fun i σ H4 => ∃ (m t : List Bool) (v6 v7 v8 : Option V), σ = [some (.ref a), some (.int n), some (.ref d), some (.ref l), some (.str (W t)), some (.ref q), v6, v7, v8] ∧ Same H2 H4 ∧ H4 q = some (.lst (m.map fun b => V.str (W [b]))) ∧ m.length = i ∧ t ∈ ws ∧ dearM ss n [] = m ++ dearM ss (n - i) t)
      ⟨[], [], _, _, _, by rw [e0]; rfl, sq, hq, rfl, hW.nil, rfl⟩ (fun _ _ _ _ _ => trivial) ?_ ?_
    · rintro i x σ H4' H4 hi ⟨m, t, v6, v7, v8, rfl, s4, hq4, lm, ht, hdr⟩ ⟨rfl, hx⟩
      have hi' : i < n := by omega
      have er : ((n : Int) - 1 + ((i : Nat) : Int) * (-1)) = ((n - 1 - i : Nat) : Int) := by omega
      have hx : x = .int ((n : Int) - 1 + ((i : Nat) : Int) * (-1)) := hx
      rw [er] at hx
      subst hx
      obtain ⟨p0, p1, hlo, hp0, hp1⟩ := (hM2.same s4) t ht
      have hd4 := s4 _ _ hd2
      have hl4 := s4 _ _ hl
      have hB4 := hB.same s4
      have hdg : DGet H4 d (.str (W t)) (some (.ref (lo t))) := .inl ⟨kvr ws lo, .inr (W t), .inl hd4, rfl, (kvr_val ht).symm⟩
      obtain ⟨d1, _, g1, f1⟩ := bl_get hB4 lds (show n - 1 - i ≤ n by omega)
      obtain ⟨d2, _, g2, f2⟩ := bl_get hB4 lds (show n - 1 - i + 1 ≤ n by omega)
      have dg : ∀ {b}, DGet H4 d1 (.str (W (nM ss t b))) (some (.int (bstM ss (n - 1 - i) (nM ss t b) : Nat))) := fun {b} => .inl ⟨_, .inr (W (nM ss t b)), .inl f1, rfl, (bl_val (hW.cl t ht b)).symm⟩
      have dh : DGet H4 d2 (.str (W t)) (some (.int (bstM ss (n - 1 - i + 1) t : Nat))) := .inl ⟨_, .inr (W t), .inl f2, rfl, (bl_val ht).symm⟩
      refine ⟨_, rfl, _, rfl, d, _, rfl, hdg, lo t, _, _, _, rfl, rfl, SqL.of hlo, atI_nat (j := 0) rfl, ?_⟩
      refine ⟨p0, _, rfl, SqT.of hp0, rfl, _, _, rfl, _, _, rfl, rfl, ?_⟩
      refine ⟨_, rfl, _, rfl, _, rfl, l, _, _, _, rfl, rfl, SqL.of hl4, atI_nat g1, _, rfl, d1, _, rfl, dg, _, _, rfl, rfl, ?_⟩
      refine ⟨_, rfl, _, rfl, _, _, rfl, rfl, l, _, _, _, rfl, rfl, SqL.of hl4, atI_nat g2, _, rfl, d2, _, rfl, dh, rfl, _, rfl, ?_⟩
      have en : n - i = (n - 1 - i) + 1 := by omega
      rw [en] at hdr
      have edec : decide (V.int (((cM ss t false : Nat) : Int) + ((bstM ss (n - 1 - i) (nM ss t false) : Nat) : Int)) = V.int ((bstM ss (n - 1 - i + 1) t : Nat) : Int)) = decide (cM ss t false + bstM ss (n - 1 - i) (nM ss t false) = bstM ss (n - 1 - i + 1) t) := by
        rw [decide_eq_decide]
        exact ⟨fun z => by have := V.int.inj z; omega, fun z => by congr 1; omega⟩
      show if decide (V.int (((cM ss t false : Nat) : Int) + ((bstM ss (n - 1 - i) (nM ss t false) : Nat) : Int)) = V.int ((bstM ss (n - 1 - i + 1) t : Nat) : Int)) = true then _ else _
      rw [edec]
      have e48 : ("01" : Str).cps.toList = [48, 49] := by decide +kernel
      have step : ∀ (b : Bool) {H5 : Hp}, H5 = upd H4 q (.lst ((m.map fun b => V.str (W [b])) ++ [V.str (W [b])])) → dearM ss (n - 1 - i + 1) t = b :: dearM ss (n - 1 - i) (nM ss t b) →
          Same H2 H5 ∧ H5 q = some (.lst ((m ++ [b]).map fun b => V.str (W [b]))) ∧ (m ++ [b]).length = i + 1 ∧ nM ss t b ∈ ws ∧ dearM ss n [] = (m ++ [b]) ++ dearM ss (n - (i + 1)) (nM ss t b) := fun b H5 e5 he => by
        subst e5
        refine ⟨same_mut' s4 nq, by rw [upd_same, List.map_append]; rfl, by rw [List.length_append, lm]; rfl, hW.cl t ht b, ?_⟩
        rw [hdr, he, List.append_assoc, show n - (i + 1) = n - 1 - i by omega]
        rfl
      by_cases c : cM ss t false + bstM ss (n - 1 - i) (nM ss t false) = bstM ss (n - 1 - i + 1) t
      · refine iteDT c ?_
        obtain ⟨r1, r2, r3, r4, r5⟩ := step false rfl (if_pos c)
        exact ⟨_, rfl, .inl ⟨rfl, _, SqL.of hq4⟩, _, _, _, rfl, rfl, by decide +kernel, atI_nat (j := 0) (by rw [e48]; rfl), q, _, _, rfl, rfl, hq4, by rw [List.length_map]; exact sl_lt (by omega), _, rfl, m ++ [false], nM ss t false, _, _, _, rfl, r1, r2, r3, r4, r5⟩
      · refine iteDF c ?_
        obtain ⟨r1, r2, r3, r4, r5⟩ := step true rfl (if_neg c)
        refine ⟨_, rfl, .inl ⟨rfl, _, SqL.of hq4⟩, _, _, _, rfl, rfl, by decide +kernel, atI_nat (j := 1) (by rw [e48]; rfl), q, _, _, rfl, rfl, hq4, by rw [List.length_map]; exact sl_lt (by omega), ?_⟩
        have nq1 : ∀ {x o}, H4 x = some o → (∀ xs, o ≠ .lst xs) → upd H4 q (.lst ((m.map fun b => V.str (W [b])) ++ [V.str (W [true])])) x = some o := fun h1 h2 => by
          rw [upd_ne (fun z => by rw [z, hq4] at h1; exact h2 _ (Option.some.inj h1).symm)]
          exact h1
        have hd5 := nq1 hd4 (fun _ z => by cases z)
        have hlo5 : upd H4 q (.lst ((m.map fun b => V.str (W [b])) ++ [V.str (W [true])])) (lo t) = some (.lst [.ref p0, .ref p1]) := r1 _ _ (by obtain ⟨u0, u1, w1, w2, w3⟩ := hM2 t ht; have := s4 _ _ w1; rw [hlo] at this; rw [w1, ← this])
        have hp15 := nq1 hp1 (fun _ z => by cases z)
        refine ⟨_, rfl, _, rfl, d, _, rfl, .inl ⟨kvr ws lo, .inr (W t), .inl hd5, rfl, (kvr_val ht).symm⟩, lo t, _, _, _, rfl, rfl, SqL.of hlo5, atI_nat (j := 1) rfl, ?_⟩
        exact ⟨p1, _, rfl, SqT.of hp15, rfl, _, _, rfl, _, _, rfl, rfl, _, rfl, m ++ [true], nM ss t true, _, _, _, rfl, r1, r2, r3, r4, r5⟩
    · rintro σ H4 ⟨m, t, v6, v7, v8, rfl, s4, hq4, lm, ht, hdr⟩
      have en : ((n : Int) - 1 - -1).toNat = n := by omega
      rw [en] at lm hdr
      rw [Nat.sub_self] at hdr
      have em : dearM ss n [] = m := by rw [hdr]; exact List.append_nil m
      have lmb : (m.map fun b => W [b]).length = m.length := List.length_map _
      refine ⟨⟨_, rfl⟩, _, rfl, _, q, m.map fun b => W [b], rfl, rfl, .inl (SqL.of (by rw [List.map_map]; exact hq4)), ?_, ?_⟩
      · rw [lens_bits, empty_len]; have := dear_len (ss := ss) (k := n) (t := []); rw [em] at this; omega
      · rw [join_bits, ← em]
        exact k _ ((s1.trans s2).trans s4)
end
end U

set_option maxRecDepth 100000
set_option maxHeartbeats 4000000
set_option pp.maxSteps 400
namespace U
open PySem PySem.Spec PyProof.Rows
open L2 hiding Fun CX0 E0 pass0 Fun.binds
open C8 Lx SX StX
/-! numbers by standings -/
def kvi (ws : List (List Bool)) (c : List Bool → Nat) : List (Key × V) := kvw ws fun w => .int (c w : Nat)
theorem kvi_upd {ws : List (List Bool)} {c : List Bool → Nat} {w : List Bool} {v : Nat} : putK (kvi ws c) (Sum.inr (W w)) (.int (v : Nat)) = kvi (addW ws w) (ug c w v) := by
  unfold kvi
  rw [kvw_upd]
  congr 1
  funext u
  unfold ug
  split <;> rfl
theorem kvi_val {ws : List (List Bool)} {c : List Bool → Nat} {w : List Bool} : (valV (kvi ws c) (Sum.inr (W w))).getD (.int 0) = .int (cntAt ws c w : Nat) := by
  unfold kvi cntAt
  rw [kvw_val]
  split <;> rfl
theorem kvi_len (ws : List (List Bool)) (c : List Bool → Nat) : (kvi ws c).length = ws.length := kvw_len _ _
theorem rd_lock {H : Hp} {d cd : Addr} {u u2 : HO} {od : Obj} (h : H d = some u) (hc : H cd = some u2) : Rd (upd H cd (.frz od u2)) d u := by
  by_cases c : d = cd
  · rw [c, hc] at h
    exact .inr ⟨od, by rw [c, upd_same, Option.some.inj h]⟩
  · exact .inl (by rw [upd_ne c]; exact h)
theorem MvI.cM_le {ss : List Stf} (o : OkN 39 ss) {w : List Bool} (h : ∃ m, w = tl (longM ss) (bodyF ss m)) (b : Bool) : cM ss w b ≤ 39 := by
  obtain ⟨m, rfl⟩ := h
  obtain ⟨x, hx, hl, _⟩ := stand_ins o m b
  unfold cM
  rw [hx.itP, List.take_of_length_le (by omega), List.length_append, List.length_append]
  simp
  omega
theorem rest0 {ss : List Stf} {ks : List (List Bool)} {c : List Bool → Nat} : restS ss 0 ks c = 0 := by
  unfold restS
  induction ks with
  | nil => rfl
  | cons w r ih =>
    rw [List.map_cons, List.sum_cons, ih]
    show c w * 0 + 0 = 0
    omega
section
variable {P : Program} {w : World} {K : PySem.W.Frag} {mg : Str → Option Value} {base : Heap}
theorem sc_all_put : FnScope ["rule", "size", "moves", "counts", "found", "turn", "later", "here", "times", "many", "there"] ["rule", "size"] (fnScope s_all_put) := fnScope_by (by decide +kernel)
theorem cal_all_put {f C : Addr} {fd : FuncData} (F : Def K mg "all_put" s_all_put f fd) (b : Binds K fd ["rule", "size"] []) (T : Tx mg) (c_moves_of : Cal P w K mg base 5 "moves_of" (spMovesOf C) []) : Cal P w K mg base 6 "all_put" (spAllPut C) [] := by
  refine cal0 F b .nil sc_all_put (fun vs H Q E h => ?_) (fun cdv A outer s H vs Q E hr h => ?_)
  · obtain ⟨_, _, _, _, rfl, _⟩ := h; rfl
  · obtain ⟨a, fl, ss, n, rfl, hR, ok, o, hn, k⟩ := h
    refine ⟨_, (pss_cons (ps_par3 (i := 2) (j := 3) (l := 4) (by rfl) sc_all_put.nd rfl rfl rfl (by decide) (by decide) (by decide) rfl rfl rfl (pa_cons (pe_c c_moves_of hr (by decide) rfl (pa_cons (pv 0) pa_nil)) (pa_cons (pe_disp (pps_cons pe_str pe_int pps_nil) (by rfl) (by rfl) (fun z => by cases z) (by decide)) (pa_cons pe_int pa_nil))) (by rfl))
    (pss_cons (ps_for PassesOwn.never rfl (pi_range1 (by rfl) T.b_range (pa_cons (pv 1) pa_nil)) (pg_name (i := 5) sc_all_put.nd rfl (.inl rfl))
    (pss_cons (ps_par (i := 6) (j := 4) (by rfl) sc_all_put.nd rfl rfl (by decide) rfl rfl (pa_cons pe_dnewK (pa_cons (pe_op op_mul (pv 4) pe_int) pa_nil)) (by rfl))
    (pss_cons (ps_lock (ps_for PassesOwn.never rfl (pi_items (pv 3)) (pg_tup rfl (pgs_cons (pg_name (i := 7) sc_all_put.nd rfl (.inl rfl)) (pgs_cons (pg_name (i := 8) sc_all_put.nd rfl (.inl rfl)) pgs_nil)))
    (pss_one (ps_for PassesOwn.never rfl (pi_list (pe_dget (hu_of hr) (pv 2) (pv 7) (fun _ _ => rfl))) (pg_tup rfl (pgs_cons (pg_name (i := 9) sc_all_put.nd rfl (.inl rfl)) (pgs_cons (pg_name (i := 10) sc_all_put.nd rfl (.inl rfl)) pgs_nil)))
    (pss_cons (ps_dput (hu_of hr) (pv 6) (pv 10) (pe_op op_add (pe_dget2 (hu_of hr) (pv 6) (pv 10) pe_int ⟨rfl, rfl, rfl, rfl⟩) (pv 8)) rfl)
    (pss_one (ps_aug (i := 4) sc_all_put.nd rfl (.inl rfl) (pe_op op_mul (pv 8) (pv 9)) ip_add)))))))
    (pss_one (ps_set (i := 3) sc_all_put.nd rfl (.inl rfl) (pv 6))))))
    (pss_one (ps_ret (pv 4))))), ?_⟩
    refine ⟨_, rfl, a, fl, ss, rfl, hR, ok, o, fun d ws H1 nd s1 hM hW => ?_⟩
    have few := hW.few ok.long
    refine fun cd ncd => ⟨upd_same, [(.inr "", .int 1)], rfl, by decide, _, _, _, rfl, ?_⟩
    have e1 : mergeK [] [((.inr "" : Key), V.int 1)] = kvi [[]] (fun _ => 1) := by unfold kvi kvw; rw [List.map_cons, List.map_nil, ← W_nil]; rfl
    rw [e1]
    have s2 : Same H1 (upd (upd H1 cd (.dK [])) cd (.dK (kvi [[]] fun _ => 1))) := same_mut' (same_upd ncd) ncd
    have hcd : upd (upd H1 cd (.dK [])) cd (.dK (kvi [[]] fun _ => 1)) cd = some (.dK (kvi [[]] fun _ => 1)) := upd_same
    generalize upd (upd H1 cd (.dK [])) cd (.dK (kvi [[]] fun _ => 1)) = H2 at s2 hcd ⊢
    obtain ⟨lo, hd1, hM1⟩ := hM
    refine ⟨_, rfl, _, rfl, by omega, by omega, ?_⟩
    refine for_it (walk_range (lo := 0) (n := (n : Int).toNat)) (fun i σ H3 => ∃ (cd : Addr) (ks : List (List Bool)) (c : List Bool → Nat) (fnd : Nat) (v5 v6 v7 v8 v9 v10 : Option V), σ = [some (.ref a), some (.int n), some (.ref d), some (.ref cd), some (.int (fnd : Nat)), v5, v6, v7, v8, v9, v10] ∧ Same H1 H3 ∧ H3 cd = some (.dK (kvi ks c)) ∧ ks.Nodup ∧ (∀ w ∈ ks, w ∈ ws) ∧ ∀ k, restS ss k ks c + 2 ^ k * fnd = allM ss (i + k) [])
      ⟨cd, [[]], fun _ => 1, 0, _, _, _, _, _, _, rfl, s2, hcd, List.nodup_cons.mpr ⟨List.not_mem_nil, List.nodup_nil⟩, fun w hw => by rw [List.mem_singleton.mp hw]; exact hW.nil, fun k => by unfold restS; simp⟩ (fun _ _ _ _ _ => trivial) ?_ ?_
    · rintro i x σ H3' H3 hi ⟨cd, ks, c, fnd, v5, v6, v7, v8, v9, v10, rfl, s3, hcd, hnd, hsub, hsum⟩ ⟨rfl, rfl⟩
      have hks : ks.length ≤ 1023 := Nat.le_trans (nodup_le hnd hsub) few
      refine fun d2 nd2 => ⟨_, rfl, _, _, rfl, rfl, .inr ⟨by decide, by decide⟩, _, _, rfl, ?_⟩
      have n2c : d2 ≠ cd := (ne_of_none hcd nd2).symm
      have hcd4 : upd H3 d2 (.dK []) cd = some (.dK (kvi ks c)) := by rw [upd_ne n2c.symm]; exact hcd
      refine ⟨cd, _, hcd4, trivial, fun od => ?_⟩
      -- the heap of the turn, locked
      have hL2 : upd H3 cd (.frz od (.dK (kvi ks c))) d2 = none := by rw [upd_ne n2c]; exact nd2
      have hLc : upd H3 cd (.frz od (.dK (kvi ks c))) cd = some (.frz od (.dK (kvi ks c))) := upd_same
      have hLd : Rd (upd H3 cd (.frz od (.dK (kvi ks c)))) d (.dK (kvr ws lo)) := rd_lock (s3 _ _ hd1) hcd
      have hLM : MvD (upd H3 cd (.frz od (.dK (kvi ks c)))) ss ws lo := (hM1.same s3).dk hcd (fun _ z => by cases z) (fun _ z => by cases z)
      have hLu : ∀ {H'}, Same (upd H3 cd (.frz od (.dK (kvi ks c)))) H' → Same H3 (upd H' cd (.dK (kvi ks c))) := fun s => same_unlock s hcd
      have sL : Same (upd H3 cd (.frz od (.dK (kvi ks c)))) (upd (upd H3 d2 (.dK [])) cd (.frz od (.dK (kvi ks c)))) := fun x o e => by
        by_cases q : x = cd
        · rw [q, upd_same] at e ⊢; exact e
        · rw [upd_ne q] at e ⊢
          rw [upd_ne (ne_of_none e nd2)]; exact e
      have hd2 : upd (upd H3 d2 (.dK [])) cd (.frz od (.dK (kvi ks c))) d2 = some (.dK (kvi [] c)) := by rw [upd_ne n2c, upd_same]; rfl
      generalize upd (upd H3 d2 (.dK [])) cd (.frz od (.dK (kvi ks c))) = H4 at sL hd2 ⊢
      generalize upd H3 cd (.frz od (.dK (kvi ks c))) = HL at sL hL2 hLc hLd hLM hLu
      refine ⟨_, rfl, cd, od, kvi ks c, rfl, sL _ _ hLc, ?_⟩
      refine for_it (walk_items (kvs := kvi ks c)) (fun j σ H5 => ∃ (ks2 : List (List Bool)) (c2 : List Bool → Nat) (f2 : Nat) (v7 v8 v9 v10 : Option V), σ = [some (.ref a), some (.int n), some (.ref d), some (.ref cd), some (.int (f2 : Nat)), some (.int (0 + (i : Int))), some (.ref d2), v7, v8, v9, v10] ∧ Same HL H5 ∧ H5 d2 = some (.dK (kvi ks2 c2)) ∧ ks2.Nodup ∧ (∀ w ∈ ks2, w ∈ ws) ∧ ∀ k, restS ss k ks2 c2 + 2 ^ k * f2 = 2 ^ k * (fnd * 2) + restS ss (k + 1) (ks.take j) c)
        ⟨[], c, fnd * 2, _, _, _, _, rfl, sL, hd2, List.nodup_nil, fun w hw => (by cases hw), fun k => by unfold restS; simp⟩ (fun j σ H5 _ h5 => by obtain ⟨_, _, _, _, _, _, _, _, h5, _⟩ := h5; exact h5 _ _ hLc) ?_ ?_
      · rintro j x σ H5 H5' hj ⟨ks2, c2, f2, v7, v8, v9, v10, rfl, s5, hd5, hnd2, hsub2, hsum2⟩ ⟨T', y1, y2, rfl, nT, rfl, ek, ev⟩
        obtain ⟨u, hu⟩ : ∃ u, ks[j]? = some u := ⟨ks[j]'(by rw [kvi_len] at hj; exact hj), List.getElem?_eq_getElem _⟩
        have ekv : (kvi ks c)[j]? = some (Sum.inr (W u), .int (c u : Nat)) := by unfold kvi kvw; rw [List.getElem?_map, hu]; rfl
        have ek : (kvi ks c)[j]?.map (fun kv => kV kv.1) = some y1 := ek
        have ev : (kvi ks c)[j]?.map Prod.snd = some y2 := ev
        rw [ekv] at ek ev
        cases ek
        cases ev
        have hum := hsub u (List.mem_of_getElem? hu)
        have sT := same_upd (o := .tup [.str (W u), .int (c u : Nat)]) nT
        have eT : upd H5 T' (.tup [.str (W u), .int (c u : Nat)]) T' = some (.tup [.str (W u), .int (c u : Nat)]) := upd_same
        have s6 := s5.trans sT
        have hd6 := sT _ _ hd5
        refine ⟨T', _, rfl, SqT.of eT, rfl, _, _, rfl, _, _, rfl, rfl, ?_⟩
        show tFor _ _ _ _ _ (upd H5 T' (.tup [.str (W u), .int (c u : Nat)]))
        generalize upd H5 T' (.tup [.str (W u), .int (c u : Nat)]) = H6 at s6 hd6 ⊢
        obtain ⟨p0, p1, hlo, hp0, hp1⟩ := (hLM.same s6) u hum
        refine ⟨_, rfl, _, rfl, d, _, rfl, .inl ⟨kvr ws lo, .inr (W u), rd_same hLd s6, rfl, (kvr_val hum).symm⟩, lo u, rfl, ⟨_, SqL.of hlo⟩, ?_⟩
        refine for_it (walk_list (xs := [.ref p0, .ref p1])) (fun e σ H7 => ∃ (ks2 : List (List Bool)) (c2 : List Bool → Nat) (f2 : Nat) (v9 v10 : Option V), σ = [some (.ref a), some (.int n), some (.ref d), some (.ref cd), some (.int (f2 : Nat)), some (.int (0 + (i : Int))), some (.ref d2), some (.str (W u)), some (.int (c u : Nat)), v9, v10] ∧ Same HL H7 ∧ MvE H7 ss u (lo u) ∧ H7 d2 = some (.dK (kvi ks2 c2)) ∧ ks2.Nodup ∧ (∀ w ∈ ks2, w ∈ ws) ∧ ∀ k, restS ss k ks2 c2 + 2 ^ k * f2 = 2 ^ k * (fnd * 2) + restS ss (k + 1) (ks.take j) c + (([false, true].take e).map fun b => c u * (2 ^ k * cM ss u b + allM ss k (nM ss u b))).sum)
          ⟨ks2, c2, f2, _, _, rfl, s6, ⟨p0, p1, hlo, hp0, hp1⟩, hd6, hnd2, hsub2, hsum2⟩ (fun e σ H7 _ h7 => by obtain ⟨_, _, _, _, _, _, h7, _⟩ := h7; exact SqL.of (h7 _ _ ((by
            obtain ⟨q0, q1, w1, _, _⟩ := hLM u hum
            have := s6 _ _ w1
            rw [hlo] at this
            rw [w1, ← this] : HL (lo u) = some (.lst [.ref p0, .ref p1]))))) ?_ ?_
        · rintro e x σ H7' H7 he ⟨ks2, c2, f2, v9, v10, rfl, s7, hE7, hd7, hnd2, hsub2, hsum2⟩ ⟨rfl, hx⟩
          have hp : ∃ (b : Bool) (p : Addr), x = .ref p ∧ [false, true][e]? = some b ∧ H7 p = some (.tup [.int (cM ss u b : Nat), .str (W (nM ss u b))]) := by
            obtain ⟨q0, q1, w1, w2, w3⟩ := hLM u hum
            have hq := s6 _ _ w1
            rw [hlo] at hq
            have hq := HO.lst.inj (Option.some.inj hq)
            match e, he, hx with
            | 0, _, hx => cases hx; cases hq; exact ⟨false, p0, rfl, rfl, s7 _ _ w2⟩
            | 1, _, hx => cases hx; cases hq; exact ⟨true, p1, rfl, rfl, s7 _ _ w3⟩
          obtain ⟨b, p, rfl, hb, hp⟩ := hp
          have hcl := hW.cl u hum b
          have hc39 := MvI.cM_le o (hW.g u hum) b
          refine ⟨p, _, rfl, SqT.of hp, rfl, _, _, rfl, _, _, rfl, rfl, ?_⟩
          refine ⟨_, rfl, d2, rfl, .inl ⟨_, .inl hd7⟩, _, rfl, _, DGet.k (k := .inr (W (nM ss u b))) hd7, _, rfl, ((cntAt ks2 c2 (nM ss u b) : Nat) : Int), _, kvi_val, rfl, ?_⟩
          refine ⟨_, rfl, _, rfl, d2, _, rfl, DPut.k (k := .inr (W (nM ss u b))) hd7 (by rw [kvi_len]; exact sl_lt (by have := nodup_le hnd2 hsub2; omega)), ?_⟩
          have eput : putK (kvi ks2 c2) (Sum.inr (W (nM ss u b))) (.int (((cntAt ks2 c2 (nM ss u b) : Nat) : Int) + ((c u : Nat) : Int))) = kvi (addW ks2 (nM ss u b)) (ug c2 (nM ss u b) (cntAt ks2 c2 (nM ss u b) + c u)) := kvi_upd (v := cntAt ks2 c2 (nM ss u b) + c u)
          rw [eput]
          refine ⟨_, rfl, _, rfl, _, rfl, _, _, rfl, rfl, .inr ⟨by omega, by omega⟩, _, _, rfl, rfl, ?_⟩
          refine ⟨addW ks2 (nM ss u b), ug c2 (nM ss u b) (cntAt ks2 c2 (nM ss u b) + c u), f2 + c u * cM ss u b, _, _, rfl, same_mut' s7 hL2, hE7.dk hd7 (fun _ z => by cases z) (fun _ z => by cases z), upd_same, addW_nd hnd2, fun w hw => ?_, fun k => ?_⟩
          · rcases addW_mem hw with h | h
            · exact hsub2 w h
            · rw [h]; exact hcl
          · rw [rest_upd hnd2, take_snoc hb, List.map_append, List.sum_append]
            have := hsum2 k
            show _ = _ + (_ + (c u * (2 ^ k * cM ss u b + allM ss k (nM ss u b)) + 0))
            rw [Nat.mul_add, Nat.mul_add, Nat.mul_left_comm (2 ^ k) (c u)]
            omega
        · rintro σ H7 ⟨ks2, c2, f2, v9, v10, rfl, s7, hE7, hd7, hnd2, hsub2, hsum2⟩
          refine ⟨ks2, c2, f2, _, _, _, _, rfl, s7, hd7, hnd2, hsub2, fun k => ?_⟩
          rw [hsum2 k, rest_take hu, Nat.add_assoc]
          congr 2
          show c u * (2 ^ k * cM ss u false + allM ss k (nM ss u false)) + (c u * (2 ^ k * cM ss u true + allM ss k (nM ss u true)) + 0) = c u * ((2 ^ k * cM ss u false + allM ss k (nM ss u false)) + (2 ^ k * cM ss u true + allM ss k (nM ss u true)))
          rw [Nat.add_zero, ← Nat.mul_add]
      · rintro σ H5 ⟨ks2, c2, f2, v7, v8, v9, v10, rfl, s5, hd5, hnd2, hsub2, hsum2⟩
        rw [kvi_len, List.take_length] at hsum2
        refine ⟨s5 _ _ hLc, _, rfl, d2, ks2, c2, f2, _, _, _, _, _, _, rfl, s3.trans (hLu s5), by rw [upd_ne n2c]; exact hd5, hnd2, hsub2, fun k => ?_⟩
        rw [hsum2 k, show i + 1 + k = i + (k + 1) by omega, ← hsum (k + 1), Nat.pow_succ, Nat.add_comm, Nat.mul_comm fnd 2, Nat.mul_assoc]
    · rintro σ H3 ⟨cd, ks, c, fnd, v5, v6, v7, v8, v9, v10, rfl, s3, hcd, hnd, hsub, hsum⟩
      have := hsum 0
      rw [rest0, Int.toNat_natCast] at this
      have e : fnd = allM ss n [] := by rw [← show n + 0 = n from rfl, ← this]; omega
      exact ⟨_, rfl, by rw [e]; exact k _ (s1.trans s3)⟩
end
end U

set_option maxRecDepth 100000
set_option maxHeartbeats 1000000
set_option pp.maxSteps 400
namespace U
/-! rates: the greatest mean of a ring -/
def stF (ss : List Stf) (t m : List Bool) : List Bool := m.foldl (nM ss) t
theorem stF_app (ss : List Stf) (t a b : List Bool) : stF ss t (a ++ b) = stF ss (stF ss t a) b := List.foldl_append
theorem cost_app (ss : List Stf) : ∀ (t a b : List Bool), costM ss t (a ++ b) = costM ss t a + costM ss (stF ss t a) b
  | t, [], b => by show costM ss t b = 0 + costM ss t b; omega
  | t, x :: a, b => by
    show cM ss t x + costM ss (nM ss t x) (a ++ b) = cM ss t x + costM ss (nM ss t x) a + costM ss (stF ss (nM ss t x) a) b
    rw [cost_app ss (nM ss t x) a b]
    omega
theorem stF_in {ss : List Stf} {ws : List (List Bool)} (h : Mvs ss ws) : ∀ {m t : List Bool}, t ∈ ws → stF ss t m ∈ ws
  | [], _, ht => ht
  | b :: m, t, ht => stF_in h (m := m) (t := nM ss t b) (h.cl t ht b)
theorem stF_body {ss : List Stf} (o : OkN 39 ss) (m : List Bool) : stF ss [] m = tl (longM ss) (bodyF ss m) := by
  have key : ∀ k (m : List Bool), m.length = k → stF ss [] m = tl (longM ss) (bodyF ss m) := fun k => by
    induction k with
    | zero =>
      intro m hm
      rw [List.length_eq_zero_iff.mp hm]
      exact (tl_id (Nat.zero_le _)).symm
    | succ k ih =>
      intro m hm
      rcases List.eq_nil_or_concat m with z | ⟨v, b, z⟩
      · rw [z] at hm; cases hm
      · rw [List.concat_eq_append] at z
        subst z
        rw [stF_app, ih v (by rw [List.length_append] at hm; simpa using hm)]
        obtain ⟨_, _, _, e⟩ := stand_ins o v b
        exact e
  exact key _ m rfl
theorem reach_of {ss : List Stf} {ws : List (List Bool)} (o : OkN 39 ss) (h : Mvs ss ws) {w : List Bool} (hw : w ∈ ws) : ∃ m, stF ss [] m = w := by
  obtain ⟨m, e⟩ := h.g w hw
  exact ⟨m, by rw [stF_body o, e]⟩
/-- the cost of a walk above a rate -/
def exc (ss : List Stf) (p q : Int) (t m : List Bool) : Int := q * (costM ss t m : Nat) - p * (m.length : Nat)
theorem exc_app {ss : List Stf} {p q : Int} (t a b : List Bool) : exc ss p q t (a ++ b) = exc ss p q t a + exc ss p q (stF ss t a) b := by
  unfold exc
  rw [cost_app, List.length_append, Int.natCast_add, Int.natCast_add, Int.mul_add, Int.mul_add]
  omega
theorem exc_nil {ss : List Stf} {p q : Int} (t : List Bool) : exc ss p q t [] = 0 := by
  unfold exc
  show q * ((0 : Nat) : Int) - p * ((0 : Nat) : Int) = 0
  simp
/-- a walk as long as there are standings has a ring -/
theorem cut_of {ss : List Stf} {ws : List (List Bool)} (h : Mvs ss ws) {t m : List Bool} (ht : t ∈ ws) (hm : ws.length ≤ m.length) : ∃ a b c, m = a ++ b ++ c ∧ b ≠ [] ∧ (a ++ b).length ≤ ws.length ∧ stF ss t (a ++ b) = stF ss t a := by
  refine Classical.byContradiction fun hn => ?_
  have nd : ((List.range (ws.length + 1)).map fun i => stF ss t (m.take i)).Nodup := by
    rw [List.nodup_iff_pairwise_ne, List.pairwise_map]
    refine List.Pairwise.imp_of_mem ?_ List.pairwise_lt_range
    intro i j hi hj hij e
    have hj' := List.mem_range.mp hj
    refine hn ⟨m.take i, (m.take j).drop i, m.drop j, ?_, ?_, ?_, ?_⟩
    · have e1 : m.take i ++ (m.take j).drop i = m.take j := by
        have := List.take_append_drop i (m.take j)
        rw [List.take_take, Nat.min_eq_left (by omega)] at this
        exact this
      rw [e1, List.take_append_drop]
    · intro z
      have := congrArg List.length z
      rw [List.length_drop, List.length_take] at this
      simp at this
      omega
    · rw [List.length_append, List.length_drop, List.length_take, List.length_take]; omega
    · have e1 : m.take i ++ (m.take j).drop i = m.take j := by
        have := List.take_append_drop i (m.take j)
        rw [List.take_take, Nat.min_eq_left (by omega)] at this
        exact this
      rw [e1, e]
  have := nodup_le nd fun x hx => by
    obtain ⟨i, _, rfl⟩ := List.mem_map.mp hx
    exact stF_in h ht
  rw [List.length_map, List.length_range] at this
  omega
/-- no ring has a greater mean -/
def NoPos (ss : List Stf) (ws : List (List Bool)) (p q : Int) : Prop := ∀ w ∈ ws, ∀ m, m ≠ [] → stF ss w m = w → exc ss p q w m ≤ 0
theorem dom {ss : List Stf} {ws : List (List Bool)} (h : Mvs ss ws) {p q : Int} (np : NoPos ss ws p q) {t : List Bool} (ht : t ∈ ws) : ∀ (k : Nat) (m : List Bool), m.length ≤ k → ∃ m', m'.length < ws.length ∧ stF ss t m' = stF ss t m ∧ exc ss p q t m ≤ exc ss p q t m' := fun k => by
  induction k with
  | zero =>
    intro m hm
    have := List.length_pos_of_mem ht
    exact ⟨m, by omega, rfl, Int.le_refl _⟩
  | succ k ih =>
    intro m hm
    by_cases c : m.length < ws.length
    · exact ⟨m, c, rfl, Int.le_refl _⟩
    · obtain ⟨a, b, d, rfl, hb, hl, e⟩ := cut_of h ht (by omega : ws.length ≤ m.length)
      have hbl := List.length_pos_iff.mpr hb
      rw [List.length_append, List.length_append] at hm
      obtain ⟨m', h1, h2, h3⟩ := ih (a ++ d) (by rw [List.length_append]; omega)
      have e2 : stF ss t (a ++ b ++ d) = stF ss t (a ++ d) := by rw [stF_app, e, ← stF_app]
      refine ⟨m', h1, by rw [h2, e2], ?_⟩
      have hr := np _ (stF_in h (m := a) ht) b hb (by rw [← stF_app, e])
      have x1 := exc_app (ss := ss) (p := p) (q := q) t (a ++ b) d
      have x2 := exc_app (ss := ss) (p := p) (q := q) t a b
      have x3 := exc_app (ss := ss) (p := p) (q := q) t a d
      rw [e] at x1
      omega
theorem list_max {α : Type} (f : α → Int) : ∀ {l : List α}, l ≠ [] → ∃ x ∈ l, ∀ y ∈ l, f y ≤ f x
  | [], h => absurd rfl h
  | [x], _ => ⟨x, List.mem_cons_self, fun y hy => by rw [List.mem_singleton.mp hy]; exact Int.le_refl _⟩
  | x :: z :: r, _ => by
    obtain ⟨y, hy, h⟩ := list_max f (l := z :: r) (List.cons_ne_nil _ _)
    by_cases c : f y ≤ f x
    · exact ⟨x, List.mem_cons_self, fun u hu => by
        rcases List.mem_cons.mp hu with rfl | hu
        · exact Int.le_refl _
        · exact Int.le_trans (h u hu) c⟩
    · exact ⟨y, List.mem_cons_of_mem _ hy, fun u hu => by
        rcases List.mem_cons.mp hu with rfl | hu
        · omega
        · exact h u hu⟩
theorem frac_tr {a b c d e f : Nat} (hd : 0 < d) (h1 : a * d ≤ c * b) (h2 : c * f ≤ e * d) : a * f ≤ e * b := by
  refine Nat.le_of_mul_le_mul_right (c := d) ?_ hd
  calc a * f * d = a * d * f := Nat.mul_right_comm _ _ _
    _ ≤ c * b * f := Nat.mul_le_mul_right _ h1
    _ = c * f * b := Nat.mul_right_comm _ _ _
    _ ≤ e * d * b := Nat.mul_le_mul_right _ h2
    _ = e * b * d := Nat.mul_right_comm _ _ _
theorem frac_max {α : Type} (a b : α → Nat) : ∀ {l : List α}, l ≠ [] → (∀ x ∈ l, 0 < b x) → ∃ x ∈ l, ∀ y ∈ l, a y * b x ≤ a x * b y
  | [], h, _ => absurd rfl h
  | [x], _, _ => ⟨x, List.mem_cons_self, fun y hy => by rw [List.mem_singleton.mp hy]; exact Nat.le_refl _⟩
  | x :: z :: r, _, hb => by
    obtain ⟨y, hy, h⟩ := frac_max a b (l := z :: r) (List.cons_ne_nil _ _) fun u hu => hb u (List.mem_cons_of_mem _ hu)
    have by0 := hb y (List.mem_cons_of_mem _ hy)
    have bx0 := hb x List.mem_cons_self
    by_cases c : a y * b x ≤ a x * b y
    · exact ⟨x, List.mem_cons_self, fun u hu => by
        rcases List.mem_cons.mp hu with rfl | hu
        · exact Nat.le_refl _
        · exact frac_tr by0 (h u hu) c⟩
    · exact ⟨y, List.mem_cons_of_mem _ hy, fun u hu => by
        rcases List.mem_cons.mp hu with rfl | hu
        · omega
        · exact h u hu⟩
theorem exc_le {ss : List Stf} {P Q : Nat} {t m : List Bool} : exc ss P Q t m ≤ 0 ↔ costM ss t m * Q ≤ P * m.length := by
  unfold exc
  have e1 : (Q : Int) * (costM ss t m : Nat) = ((costM ss t m * Q : Nat) : Int) := by rw [Int.natCast_mul, Int.mul_comm]
  have e2 : (P : Int) * (m.length : Nat) = ((P * m.length : Nat) : Int) := by rw [Int.natCast_mul]
  rw [e1, e2]
  omega
/-- the greatest mean -/
theorem ring_max {ss : List Stf} {ws : List (List Bool)} (h : Mvs ss ws) : ∃ w0 ∈ ws, ∃ m0, m0 ≠ [] ∧ stF ss w0 m0 = w0 ∧ NoPos ss ws (costM ss w0 m0 : Nat) (m0.length : Nat) := by
  let L : List (List Bool × List Bool) := ((ws.map fun w => (allW ws.length).map fun m => (w, m)).flatten).filter fun x => decide (x.2 ≠ []) && decide (stF ss x.1 x.2 = x.1)
  have memL : ∀ w m, w ∈ ws → m.length ≤ ws.length → m ≠ [] → stF ss w m = w → (w, m) ∈ L := fun w m hw hm hn he => by
    refine List.mem_filter.mpr ⟨List.mem_flatten.mpr ⟨_, List.mem_map_of_mem hw, List.mem_map_of_mem (mem_allW hm)⟩, ?_⟩
    rw [Bool.and_eq_true, decide_eq_true_iff, decide_eq_true_iff]
    exact ⟨hn, he⟩
  have ofL : ∀ x ∈ L, x.1 ∈ ws ∧ x.2 ≠ [] ∧ stF ss x.1 x.2 = x.1 := fun x hx => by
    obtain ⟨h1, h2⟩ := List.mem_filter.mp hx
    rw [Bool.and_eq_true, decide_eq_true_iff, decide_eq_true_iff] at h2
    obtain ⟨l, hl, hxl⟩ := List.mem_flatten.mp h1
    obtain ⟨w, hw, rfl⟩ := List.mem_map.mp hl
    obtain ⟨m, _, rfl⟩ := List.mem_map.mp hxl
    exact ⟨hw, h2.1, h2.2⟩
  have neL : L ≠ [] := by
    obtain ⟨a, b, c, e, hb, hl, es⟩ := cut_of h (m := List.replicate ws.length false) h.nil (by rw [List.length_replicate]; exact Nat.le_refl _)
    rw [List.length_append] at hl
    exact List.ne_nil_of_mem (memL (stF ss [] a) b (stF_in h h.nil) (by omega) hb (by rw [← stF_app, es]))
  obtain ⟨⟨w0, m0⟩, hx, hmax⟩ := frac_max (fun x : List Bool × List Bool => costM ss x.1 x.2) (fun x => x.2.length) neL fun x hx => List.length_pos_iff.mpr (ofL x hx).2.1
  obtain ⟨hw0, hm0, hr0⟩ := ofL _ hx
  refine ⟨w0, hw0, m0, hm0, hr0, ?_⟩
  have all : ∀ (k : Nat) (w : List Bool), w ∈ ws → ∀ m, m.length ≤ k → m ≠ [] → stF ss w m = w → exc ss (costM ss w0 m0 : Nat) (m0.length : Nat) w m ≤ 0 := fun k => by
    induction k with
    | zero => intro w hw m hm hn; exact absurd (List.length_eq_zero_iff.mp (by omega)) hn
    | succ k ih =>
      intro w hw m hm hn he
      by_cases c : m.length ≤ ws.length
      · exact exc_le.mpr (hmax (w, m) (memL w m hw c hn he))
      · obtain ⟨a, b, d, rfl, hb, hl, es⟩ := cut_of h hw (by omega : ws.length ≤ m.length)
        have hbl := List.length_pos_iff.mpr hb
        rw [List.length_append, List.length_append] at hm c
        rw [List.length_append] at hl
        have e2 : stF ss w (a ++ b ++ d) = stF ss w (a ++ d) := by rw [stF_app, es, ← stF_app]
        have r1 := ih (stF ss w a) (stF_in h hw) b (by omega) hb (by rw [← stF_app, es])
        have r2 := ih w hw (a ++ d) (by rw [List.length_append]; omega) (fun z => by
          have := congrArg List.length z
          rw [List.length_append] at this
          simp only [List.length_nil] at this
          omega) (by rw [← e2, he])
        have x1 := exc_app (ss := ss) (p := (costM ss w0 m0 : Nat)) (q := (m0.length : Nat)) w (a ++ b) d
        have x2 := exc_app (ss := ss) (p := (costM ss w0 m0 : Nat)) (q := (m0.length : Nat)) w a b
        have x3 := exc_app (ss := ss) (p := (costM ss w0 m0 : Nat)) (q := (m0.length : Nat)) w a d
        rw [es] at x1
        omega
  exact fun w hw m hn he => all m.length w hw m (Nat.le_refl _) hn he
/-- a heaviest walk to a standing -/
theorem heaviest {ss : List Stf} {ws : List (List Bool)} (h : Mvs ss ws) {p q : Int} (np : NoPos ss ws p q) {t w : List Bool} (ht : t ∈ ws) (hw : ∃ m, stF ss t m = w) : ∃ M, stF ss t M = w ∧ ∀ m, stF ss t m = w → exc ss p q t m ≤ exc ss p q t M := by
  obtain ⟨m1, e1⟩ := hw
  obtain ⟨m2, l2, e2, _⟩ := dom h np ht m1.length m1 (Nat.le_refl _)
  have ne : ((allW ws.length).filter fun m => decide (stF ss t m = w)) ≠ [] := List.ne_nil_of_mem (List.mem_filter.mpr ⟨mem_allW (Nat.le_of_lt l2), decide_eq_true (by rw [e2, e1])⟩)
  obtain ⟨M, hM, hmax⟩ := list_max (exc ss p q t) ne
  refine ⟨M, of_decide_eq_true (List.mem_filter.mp hM).2, fun m hm => ?_⟩
  obtain ⟨m', l', e', x'⟩ := dom h np ht m.length m (Nat.le_refl _)
  exact Int.le_trans x' (hmax m' (List.mem_filter.mpr ⟨mem_allW (Nat.le_of_lt l'), decide_eq_true (by rw [e', hm])⟩))
/-- a ring walked again and again -/
def rep (m : List Bool) : Nat → List Bool
  | 0 => []
  | k + 1 => m ++ rep m k
theorem rep_len (m : List Bool) : ∀ k, (rep m k).length = k * m.length
  | 0 => by show 0 = 0 * _; rw [Nat.zero_mul]
  | k + 1 => by
    show (m ++ rep m k).length = _
    rw [List.length_append, rep_len m k, Nat.succ_mul, Nat.add_comm]
theorem rep_st {ss : List Stf} {w m : List Bool} (h : stF ss w m = w) : ∀ k, stF ss w (rep m k) = w
  | 0 => rfl
  | k + 1 => by
    show stF ss w (m ++ rep m k) = w
    rw [stF_app, h, rep_st h k]
theorem rep_exc {ss : List Stf} {p q : Int} {w m : List Bool} (h : stF ss w m = w) : ∀ k : Nat, exc ss p q w (rep m k) = k * exc ss p q w m
  | 0 => by show exc ss p q w [] = _; rw [exc_nil]; simp
  | k + 1 => by
    show exc ss p q w (m ++ rep m k) = _
    rw [exc_app, h, rep_exc h k, Int.natCast_add, Int.add_mul]
    show _ = _ + 1 * _
    omega
/-- Karp: some walk of as many bits as there are standings is heaviest -/
theorem karp_low {ss : List Stf} {ws : List (List Bool)} (o : OkN 39 ss) (h : Mvs ss ws) {w0 m0 : List Bool} (hw : w0 ∈ ws) (hm : m0 ≠ []) (hr : stF ss w0 m0 = w0) (np : NoPos ss ws (costM ss w0 m0 : Nat) (m0.length : Nat)) :
    ∃ x : List Bool, x.length = ws.length ∧ ∀ m, stF ss [] m = stF ss [] x → exc ss (costM ss w0 m0 : Nat) (m0.length : Nat) [] m ≤ exc ss (costM ss w0 m0 : Nat) (m0.length : Nat) [] x := by
  obtain ⟨M, hM, hmax⟩ := heaviest h np h.nil (reach_of o h hw)
  have e0 : exc ss (costM ss w0 m0 : Nat) (m0.length : Nat) w0 m0 = 0 := by
    unfold exc
    rw [Int.mul_comm]
    omega
  have l0 := List.length_pos_iff.mpr hm
  have lX : ws.length ≤ (M ++ rep m0 ws.length).length := by
    rw [List.length_append, rep_len]
    have : ws.length * 1 ≤ ws.length * m0.length := Nat.mul_le_mul_left _ l0
    omega
  have hX : stF ss [] (M ++ rep m0 ws.length) = w0 := by rw [stF_app, hM, rep_st hr]
  have eX : exc ss (costM ss w0 m0 : Nat) (m0.length : Nat) [] (M ++ rep m0 ws.length) = exc ss (costM ss w0 m0 : Nat) (m0.length : Nat) [] M := by
    rw [exc_app, hM, rep_exc hr, e0]
    simp
  generalize M ++ rep m0 ws.length = X at lX hX eX
  refine ⟨X.take ws.length, by rw [List.length_take]; omega, fun m e => ?_⟩
  have hd := List.take_append_drop ws.length X
  have h1 := hmax (m ++ X.drop ws.length) (by rw [stF_app, e, ← stF_app, hd, hX])
  rw [← eX, exc_app, e] at h1
  have h2 := exc_app (ss := ss) (p := (costM ss w0 m0 : Nat)) (q := (m0.length : Nat)) [] (X.take ws.length) (X.drop ws.length)
  rw [hd] at h2
  omega
end U

set_option maxRecDepth 100000
set_option maxHeartbeats 4000000
set_option pp.maxSteps 400
namespace U
open PySem PySem.Spec PyProof.Rows
open L2 hiding Fun CX0 E0 pass0 Fun.binds
open C8 Lx SX StX
/-! the most put in on walks of so many bits, by where they lead -/
structure Wk (ss : List Stf) (k : Nat) (ks : List (List Bool)) (c : List Bool → Nat) : Prop where
  nd : ks.Nodup
  wit : ∀ w ∈ ks, ∃ m, m.length = k ∧ stF ss [] m = w ∧ costM ss [] m = c w
  all : ∀ m, m.length = k → stF ss [] m ∈ ks ∧ costM ss [] m ≤ c (stF ss [] m)
theorem Wk.start {ss : List Stf} : Wk ss 0 [[]] (fun _ => 0) := by
  refine ⟨List.nodup_cons.mpr ⟨List.not_mem_nil, List.nodup_nil⟩, fun w hw => ⟨[], rfl, (List.mem_singleton.mp hw).symm, rfl⟩, fun m hm => ?_⟩
  rw [List.length_eq_zero_iff.mp hm]
  exact ⟨List.mem_singleton.mpr rfl, Nat.le_refl _⟩
structure Lt (ss : List Stf) (c : List Bool → Nat) (P : List Bool → Bool → Prop) (ks : List (List Bool)) (c2 : List Bool → Nat) : Prop where
  nd : ks.Nodup
  wit : ∀ w ∈ ks, ∃ u b, P u b ∧ nM ss u b = w ∧ c2 w = c u + cM ss u b
  all : ∀ u b, P u b → nM ss u b ∈ ks ∧ c u + cM ss u b ≤ c2 (nM ss u b)
theorem Lt.start {ss : List Stf} {c c2 : List Bool → Nat} : Lt ss c (fun _ _ => False) [] c2 := ⟨List.nodup_nil, fun w hw => (by cases hw), fun _ _ h => h.elim⟩
theorem Lt.congr {ss : List Stf} {c c2 : List Bool → Nat} {P P' : List Bool → Bool → Prop} {ks : List (List Bool)} (h : Lt ss c P ks c2) (e : ∀ u b, P u b ↔ P' u b) : Lt ss c P' ks c2 :=
  ⟨h.nd, fun w hw => by obtain ⟨u, b, h1, h2⟩ := h.wit w hw; exact ⟨u, b, (e u b).mp h1, h2⟩, fun u b hp => h.all u b ((e u b).mpr hp)⟩
theorem Lt.step {ss : List Stf} {c c2 : List Bool → Nat} {P : List Bool → Bool → Prop} {ks : List (List Bool)} (h : Lt ss c P ks c2) (u : List Bool) (b : Bool) :
    Lt ss c (fun x y => P x y ∨ (x = u ∧ y = b)) (addW ks (nM ss u b)) (ug c2 (nM ss u b) (max (cntAt ks c2 (nM ss u b)) (c u + cM ss u b))) := by
  refine ⟨addW_nd h.nd, fun w hw => ?_, fun x y hp => ?_⟩
  · by_cases e : w = nM ss u b
    · subst e
      rw [ug_same]
      by_cases hm : cntAt ks c2 (nM ss u b) ≤ c u + cM ss u b
      · exact ⟨u, b, .inr ⟨rfl, rfl⟩, rfl, by omega⟩
      · unfold cntAt at hm ⊢
        split at hm
        · rename_i hk
          obtain ⟨x, y, h1, h2, h3⟩ := h.wit _ hk
          exact ⟨x, y, .inl h1, h2, by rw [if_pos hk]; omega⟩
        · omega
    · rw [ug_ne e]
      rcases addW_mem hw with hw | hw
      · obtain ⟨x, y, h1, h2⟩ := h.wit w hw
        exact ⟨x, y, .inl h1, h2⟩
      · exact absurd hw e
  · rcases hp with hp | ⟨rfl, rfl⟩
    · obtain ⟨h1, h2⟩ := h.all x y hp
      refine ⟨addW_old h1, ?_⟩
      by_cases e : nM ss x y = nM ss u b
      · rw [e, ug_same]
        unfold cntAt
        rw [if_pos (by rw [← e]; exact h1), ← e]
        omega
      · rw [ug_ne e]; exact h2
    · exact ⟨addW_in, by rw [ug_same]; omega⟩
theorem Wk.next {ss : List Stf} {k : Nat} {ks ks2 : List (List Bool)} {c c2 : List Bool → Nat} (h : Wk ss k ks c) (l : Lt ss c (fun x _ => x ∈ ks) ks2 c2) : Wk ss (k + 1) ks2 c2 := by
  refine ⟨l.nd, fun w hw => ?_, fun m hm => ?_⟩
  · obtain ⟨u, b, hu, e, ec⟩ := l.wit w hw
    obtain ⟨m, h1, h2, h3⟩ := h.wit u hu
    refine ⟨m ++ [b], by rw [List.length_append, h1]; rfl, by rw [stF_app, h2]; exact e, ?_⟩
    rw [cost_app, h2, h3, ec]
    rfl
  · rcases List.eq_nil_or_concat m with z | ⟨v, b, z⟩
    · rw [z] at hm; cases hm
    · rw [List.concat_eq_append] at z
      subst z
      obtain ⟨h1, h2⟩ := h.all v (by rw [List.length_append] at hm; simpa using hm)
      obtain ⟨h3, h4⟩ := l.all _ b h1
      rw [stF_app, cost_app]
      refine ⟨h3, ?_⟩
      show costM ss [] v + (cM ss (stF ss [] v) b + 0) ≤ c2 (nM ss (stF ss [] v) b)
      omega
theorem Wk.sub {ss : List Stf} {ws : List (List Bool)} (hW : Mvs ss ws) {k : Nat} {ks : List (List Bool)} {c : List Bool → Nat} (h : Wk ss k ks c) : ∀ w ∈ ks, w ∈ ws := fun w hw => by
  obtain ⟨m, _, rfl, _⟩ := h.wit w hw
  exact stF_in hW hW.nil
def WkD (H : Hp) (ss : List Stf) (ds : List Addr) : Prop := ∀ i d, ds[i]? = some d → ∃ ks c, H d = some (.dK (kvi ks c)) ∧ Wk ss i ks c
theorem WkD.same {H H' : Hp} {ss : List Stf} {ds : List Addr} (h : WkD H ss ds) (e : Same H H') : WkD H' ss ds := fun i d hd => by
  obtain ⟨ks, c, h1, h2⟩ := h i d hd
  exact ⟨ks, c, e _ _ h1, h2⟩
def spWalks : Sp := fun vs H Q _ => ∃ (d : Addr) (ss : List Stf) (ws : List (List Bool)), vs = [.ref d] ∧ MvAt H d ss ws ∧ Mvs ss ws ∧ ws.length ≤ 1100 ∧
  ∀ l ds H', H l = none → Same H H' → H' l = some (.lst (ds.map V.ref)) → ds.length = ws.length + 1 → WkD H' ss ds → Q (.ref l) H'
/-- fractions in a list -/
def FrL (H : Hp) (l : Addr) (fs : List (Int × Int)) : Prop := ∃ ts : List Addr, H l = some (.lst (ts.map V.ref)) ∧ Paired (fun t x => H t = some (.tup [.int x.1, .int x.2])) ts fs
def spLeastOf : Sp := fun vs H Q _ => ∃ (l : Addr) (fs : List (Int × Int)), vs = [.ref l] ∧ FrL H l fs ∧ fs ≠ [] ∧ (∀ x ∈ fs, 0 < x.2 ∧ x.2 ≤ 100000) ∧
  ∀ t x H', Same H H' → H' t = some (.tup [.int x.1, .int x.2]) → x ∈ fs → (∀ y ∈ fs, x.1 * y.2 ≤ y.1 * x.2) → Q (.ref t) H'
theorem pair_get {α β : Type} {F : α → β → Prop} : ∀ {l : List α} {m : List β} {i : Nat} {a : α}, Paired F l m → l[i]? = some a → ∃ b, m[i]? = some b ∧ F a b
  | _, _, i, _, .nil, h => by simp at h
  | _, _, 0, _, .cons x _, h => by cases h; exact ⟨_, rfl, x⟩
  | _, _, i + 1, _, .cons _ t, h => by
    obtain ⟨b, h1, h2⟩ := pair_get (i := i) t h
    exact ⟨b, h1, h2⟩
theorem pair_len {α β : Type} {F : α → β → Prop} : ∀ {l : List α} {m : List β}, Paired F l m → l.length = m.length
  | _, _, .nil => rfl
  | _, _, .cons _ t => by rw [List.length_cons, List.length_cons, pair_len t]
theorem paired_snoc' {α β : Type} {F : α → β → Prop} : ∀ {l : List α} {m : List β} {a : α} {b : β}, Paired F l m → F a b → Paired F (l ++ [a]) (m ++ [b])
  | _, _, _, _, .nil, h => .cons h .nil
  | _, _, _, _, .cons x r, h => .cons x (paired_snoc' r h)
theorem fracI_tr {a b c d e f : Int} (hd : 0 < d) (hf : 0 < f) (hb : 0 < b) (h1 : a * d < c * b) (h2 : c * f ≤ e * d) : a * f ≤ e * b := by
  refine Int.le_of_mul_le_mul_right (a := d) ?_ hd
  calc a * f * d = a * d * f := Int.mul_right_comm _ _ _
    _ ≤ c * b * f := Int.mul_le_mul_of_nonneg_right (Int.le_of_lt h1) (Int.le_of_lt hf)
    _ = c * f * b := Int.mul_right_comm _ _ _
    _ ≤ e * d * b := Int.mul_le_mul_of_nonneg_right h2 (Int.le_of_lt hb)
    _ = e * b * d := Int.mul_right_comm _ _ _
section
variable {P : Program} {w : World} {K : PySem.W.Frag} {mg : Str → Option Value} {base : Heap}
theorem sc_walks : FnScope ["moves", "found", "turn", "later", "here", "whole", "many", "there"] ["moves"] (fnScope s_walks) := fnScope_by (by decide +kernel)
theorem cal_walks {f : Addr} {fd : FuncData} (F : Def K mg "walks" s_walks f fd) (b : Binds K fd ["moves"] []) (T : Tx mg) : Cal P w K mg base 1 "walks" spWalks [] := by
  refine cal0 F b .nil sc_walks (fun vs H Q E h => ?_) (fun cdv A outer s H vs Q E hr h => ?_)
  · obtain ⟨_, _, _, rfl, _⟩ := h; rfl
  · obtain ⟨d, ss, ws, rfl, ⟨lo, hd, hM⟩, hW, few, k⟩ := h
    refine ⟨_, (pss_cons (ps_set (i := 1) sc_walks.nd rfl (.inl rfl) (pe_lst (pa_cons (pe_disp (pps_cons pe_str pe_int pps_nil) (by rfl) (by rfl) (fun z => by cases z) (by decide)) pa_nil)))
    (pss_cons (ps_for PassesOwn.never rfl (pi_range1 (by rfl) T.b_range (pa_cons (pe_callB call_lenD (by rfl) T.b_len (by decide +kernel) (pa_cons (pv 0) pa_nil)) pa_nil)) (pg_name (i := 2) sc_walks.nd rfl (.inl rfl))
    (pss_cons (ps_set (i := 3) sc_walks.nd rfl (.inl rfl) pe_dnewK)
    (pss_cons (ps_lock (ps_for PassesOwn.never rfl (pi_items (pe_ix ix_list (pv 1) (pe_un un_neg pe_int) (fun _ _ => rfl))) (pg_tup rfl (pgs_cons (pg_name (i := 4) sc_walks.nd rfl (.inl rfl)) (pgs_cons (pg_name (i := 5) sc_walks.nd rfl (.inl rfl)) pgs_nil)))
    (pss_one (ps_for PassesOwn.never rfl (pi_list (pe_dget (hu_of hr) (pv 0) (pv 4) (fun _ _ => rfl))) (pg_tup rfl (pgs_cons (pg_name (i := 6) sc_walks.nd rfl (.inl rfl)) (pgs_cons (pg_name (i := 7) sc_walks.nd rfl (.inl rfl)) pgs_nil)))
    (pss_one (ps_dput (hu_of hr) (pv 3) (pv 7) (pe_callB (call_max2 rfl) (by rfl) T.b_max (by decide +kernel) (pa_cons (pe_callTy call_int1 (by rfl) T.b_int (by decide +kernel) (pa_cons (pe_dget2 (hu_of hr) (pv 3) (pv 7) pe_int ⟨rfl, rfl, rfl, rfl⟩) pa_nil)) (pa_cons (pe_callTy call_int1 (by rfl) T.b_int (by decide +kernel) (pa_cons (pe_op op_add (pv 5) (pv 6)) pa_nil)) pa_nil))) rfl))))))
    (pss_one (ps_expr (pe_bm PySem.F.plainAttrs_list PySem.F.slot_list_append PySem.F.type_list_append mt_append (pv 1) (pa_cons (pv 3) pa_nil)))))))
    (pss_one (ps_ret (pv 1))))), ?_⟩
    refine fun c0 nc0 => ⟨upd_same, [(.inr "", .int 0)], rfl, by decide, by show 1 ≤ sizeLine; decide, fun l nl => ?_⟩
    have e1 : mergeK [] [((.inr "" : Key), V.int 0)] = kvi [[]] (fun _ => 0) := by unfold kvi kvw; rw [List.map_cons, List.map_nil, ← W_nil]; rfl
    rw [e1] at nl ⊢
    have s1 : Same H (upd (upd H c0 (.dK [])) c0 (.dK (kvi [[]] fun _ => 0))) := same_mut' (same_upd nc0) nc0
    have hc0 : upd (upd H c0 (.dK [])) c0 (.dK (kvi [[]] fun _ => 0)) c0 = some (.dK (kvi [[]] fun _ => 0)) := upd_same
    generalize upd (upd H c0 (.dK [])) c0 (.dK (kvi [[]] fun _ => 0)) = H1 at s1 hc0 nl ⊢
    have sl := same_upd (o := .lst [.ref c0]) nl
    have hl : upd H1 l (.lst [.ref c0]) l = some (.lst ([c0].map V.ref)) := upd_same
    have nlH : H l = none := s1.free nl
    have hc1 := sl _ _ hc0
    have s2 := s1.trans sl
    generalize upd H1 l (.lst [.ref c0]) = H2 at hl hc1 s2 ⊢
    have lkr : (kvr ws lo).length = ws.length := kvr_len _ _
    refine ⟨_, rfl, d, _, rfl, s2 _ _ hd, _, rfl, by omega, by omega, ?_⟩
    refine for_it (walk_range (lo := 0) (n := (((kvr ws lo).length : Nat) : Int).toNat)) (fun i σ H3 => ∃ (ds : List Addr) (v2 v3 v4 v5 v6 v7 : Option V), σ = [some (.ref d), some (.ref l), v2, v3, v4, v5, v6, v7] ∧ Same H H3 ∧ H3 l = some (.lst (ds.map V.ref)) ∧ ds.length = i + 1 ∧ WkD H3 ss ds)
      ⟨[c0], _, _, _, _, _, _, rfl, s2, hl, rfl, fun i d' h => by
        match i, h with
        | 0, h => cases h; exact ⟨_, _, hc1, .start⟩
        | i + 1, h => simp at h⟩ (fun _ _ _ _ _ => trivial) ?_ ?_
    · rintro i x σ H3' H3 hi ⟨ds, v2, v3, v4, v5, v6, v7, rfl, s3, hl3, lds, hK⟩ ⟨rfl, rfl⟩
      have hi' : i < ws.length := by rw [lkr] at hi; omega
      obtain ⟨ds', cd, rfl⟩ : ∃ ds' dl, ds = ds' ++ [dl] := by
        rcases List.eq_nil_or_concat ds with e0 | ⟨a1, a2, e0⟩
        · rw [e0] at lds; cases lds
        · exact ⟨a1, a2, by rw [e0, List.concat_eq_append]⟩
      have lds' : ds'.length = i := by rw [List.length_append] at lds; simpa using lds
      obtain ⟨ks, c, hcd, hWk⟩ := hK i cd (by rw [List.getElem?_append_right (by omega), lds', Nat.sub_self]; rfl)
      have hsub := hWk.sub hW
      refine fun d2 nd2 => ?_
      have n2c : d2 ≠ cd := (ne_of_none hcd nd2).symm
      have hcd4 : upd H3 d2 (.dK []) cd = some (.dK (kvi ks c)) := by rw [upd_ne n2c.symm]; exact hcd
      refine ⟨cd, _, hcd4, trivial, fun od => ?_⟩
      have hL2 : upd H3 cd (.frz od (.dK (kvi ks c))) d2 = none := by rw [upd_ne n2c]; exact nd2
      have hLc : upd H3 cd (.frz od (.dK (kvi ks c))) cd = some (.frz od (.dK (kvi ks c))) := upd_same
      have hLd : Rd (upd H3 cd (.frz od (.dK (kvi ks c)))) d (.dK (kvr ws lo)) := rd_lock (s3 _ _ hd) hcd
      have hLM : MvD (upd H3 cd (.frz od (.dK (kvi ks c)))) ss ws lo := (hM.same s3).dk hcd (fun _ z => by cases z) (fun _ z => by cases z)
      have hLl : upd H3 cd (.frz od (.dK (kvi ks c))) l = some (.lst ((ds' ++ [cd]).map V.ref)) := by rw [upd_ne (ne_of hl3 hcd (by intro z; cases z))]; exact hl3
      have hLu : ∀ {H'}, Same (upd H3 cd (.frz od (.dK (kvi ks c)))) H' → Same H3 (upd H' cd (.dK (kvi ks c))) := fun s => same_unlock s hcd
      have sL : Same (upd H3 cd (.frz od (.dK (kvi ks c)))) (upd (upd H3 d2 (.dK [])) cd (.frz od (.dK (kvi ks c)))) := fun x o e => by
        by_cases q : x = cd
        · rw [q, upd_same] at e ⊢; exact e
        · rw [upd_ne q] at e ⊢
          rw [upd_ne (ne_of_none e nd2)]; exact e
      have hd2 : upd (upd H3 d2 (.dK [])) cd (.frz od (.dK (kvi ks c))) d2 = some (.dK (kvi [] c)) := by rw [upd_ne n2c, upd_same]; rfl
      generalize upd (upd H3 d2 (.dK [])) cd (.frz od (.dK (kvi ks c))) = H4 at sL hd2 ⊢
      generalize upd H3 cd (.frz od (.dK (kvi ks c))) = HL at sL hL2 hLc hLd hLM hLu hLl
      refine ⟨_, rfl, _, rfl, l, _, _, _, rfl, rfl, SqL.of (sL _ _ hLl), by rw [List.map_append]; exact atI_last _ _, cd, od, kvi ks c, rfl, sL _ _ hLc, ?_⟩
      refine for_it (walk_items (kvs := kvi ks c)) (fun j σ H5 => ∃ (ks2 : List (List Bool)) (c2 : List Bool → Nat) (v4 v5 v6 v7 : Option V), σ = [some (.ref d), some (.ref l), some (.int (0 + (i : Int))), some (.ref d2), v4, v5, v6, v7] ∧ Same HL H5 ∧ H5 d2 = some (.dK (kvi ks2 c2)) ∧ Lt ss c (fun x _ => x ∈ ks.take j) ks2 c2)
        ⟨[], c, _, _, _, _, rfl, sL, hd2, Lt.start.congr fun u b => ⟨fun z => z.elim, fun z => by cases z⟩⟩ (fun j σ H5 _ h5 => by obtain ⟨_, _, _, _, _, _, _, h5, _⟩ := h5; exact h5 _ _ hLc) ?_ ?_
      · rintro j x σ H5 H5' hj ⟨ks2, c2, v4, v5, v6, v7, rfl, s5, hd5, hLt⟩ ⟨T', y1, y2, rfl, nT, rfl, ek, ev⟩
        obtain ⟨u, hu⟩ : ∃ u, ks[j]? = some u := ⟨ks[j]'(by rw [kvi_len] at hj; exact hj), List.getElem?_eq_getElem _⟩
        have ekv : (kvi ks c)[j]? = some (Sum.inr (W u), .int (c u : Nat)) := by unfold kvi kvw; rw [List.getElem?_map, hu]; rfl
        have ek : (kvi ks c)[j]?.map (fun kv => kV kv.1) = some y1 := ek
        have ev : (kvi ks c)[j]?.map Prod.snd = some y2 := ev
        rw [ekv] at ek ev
        cases ek
        cases ev
        have hum := hsub u (List.mem_of_getElem? hu)
        have sT := same_upd (o := .tup [.str (W u), .int (c u : Nat)]) nT
        have eT : upd H5 T' (.tup [.str (W u), .int (c u : Nat)]) T' = some (.tup [.str (W u), .int (c u : Nat)]) := upd_same
        have s6 := s5.trans sT
        have hd6 := sT _ _ hd5
        refine ⟨T', _, rfl, SqT.of eT, rfl, _, _, rfl, _, _, rfl, rfl, ?_⟩
        show tFor _ _ _ _ _ (upd H5 T' (.tup [.str (W u), .int (c u : Nat)]))
        generalize upd H5 T' (.tup [.str (W u), .int (c u : Nat)]) = H6 at s6 hd6 ⊢
        obtain ⟨p0, p1, hlo, hp0, hp1⟩ := (hLM.same s6) u hum
        have hloL : HL (lo u) = some (.lst [.ref p0, .ref p1]) := by
          obtain ⟨q0, q1, w1, _, _⟩ := hLM u hum
          have := s6 _ _ w1
          rw [hlo] at this
          rw [w1, ← this]
        refine ⟨_, rfl, _, rfl, d, _, rfl, .inl ⟨kvr ws lo, .inr (W u), rd_same hLd s6, rfl, (kvr_val hum).symm⟩, lo u, rfl, ⟨_, SqL.of hlo⟩, ?_⟩
        refine for_it (walk_list (xs := [.ref p0, .ref p1])) (fun e σ H7 => ∃ (ks2 : List (List Bool)) (c2 : List Bool → Nat) (v6 v7 : Option V), σ = [some (.ref d), some (.ref l), some (.int (0 + (i : Int))), some (.ref d2), some (.str (W u)), some (.int (c u : Nat)), v6, v7] ∧ Same HL H7 ∧ H7 d2 = some (.dK (kvi ks2 c2)) ∧ Lt ss c (fun x y => x ∈ ks.take j ∨ (x = u ∧ y ∈ [false, true].take e)) ks2 c2)
          ⟨ks2, c2, _, _, rfl, s6, hd6, hLt.congr fun u b => ⟨.inl, fun z => z.elim id fun z => by cases z.2⟩⟩ (fun e σ H7 _ h7 => by obtain ⟨_, _, _, _, _, h7, _⟩ := h7; exact SqL.of (h7 _ _ hloL)) ?_ ?_
        · rintro e x σ H7' H7 he ⟨ks2, c2, v6, v7, rfl, s7, hd7, hLt7⟩ ⟨rfl, hx⟩
          have hp : ∃ (b : Bool) (p : Addr), x = .ref p ∧ [false, true][e]? = some b ∧ H7 p = some (.tup [.int (cM ss u b : Nat), .str (W (nM ss u b))]) := by
            obtain ⟨q0, q1, w1, w2, w3⟩ := hLM u hum
            rw [hloL] at w1
            have hq := HO.lst.inj (Option.some.inj w1)
            match e, he, hx with
            | 0, _, hx => cases hx; cases hq; exact ⟨false, p0, rfl, rfl, s7 _ _ w2⟩
            | 1, _, hx => cases hx; cases hq; exact ⟨true, p1, rfl, rfl, s7 _ _ w3⟩
          obtain ⟨b, p, rfl, hb, hp⟩ := hp
          refine ⟨p, _, rfl, SqT.of hp, rfl, _, _, rfl, _, _, rfl, rfl, ?_⟩
          refine ⟨_, rfl, d2, rfl, .inl ⟨_, .inl hd7⟩, _, rfl, _, DGet.k (k := .inr (W (nM ss u b))) hd7, .inl ⟨((cntAt ks2 c2 (nM ss u b) : Nat) : Int), congrArg (fun z => [z]) kvi_val, ?_⟩⟩
          refine ⟨_, rfl, _, rfl, _, _, rfl, rfl, .inl ⟨_, rfl, _, _, rfl, ?_⟩⟩
          have l2 : ks2.length ≤ 1100 := Nat.le_trans (nodup_le hLt7.nd fun z hz => by
            obtain ⟨u', b', h1, h2, _⟩ := hLt7.wit z hz
            rw [← h2]
            refine hW.cl _ ?_ _
            rcases h1 with h1 | ⟨rfl, _⟩
            · exact hsub _ (List.mem_of_mem_take h1)
            · exact hum) few
          refine ⟨_, rfl, _, rfl, d2, _, rfl, DPut.k (k := .inr (W (nM ss u b))) hd7 (by rw [kvi_len]; exact sl_lt (by omega)), ?_⟩
          have emax : (if ((c u : Nat) : Int) + ((cM ss u b : Nat) : Int) > ((cntAt ks2 c2 (nM ss u b) : Nat) : Int) then ((c u : Nat) : Int) + ((cM ss u b : Nat) : Int) else ((cntAt ks2 c2 (nM ss u b) : Nat) : Int)) = ((max (cntAt ks2 c2 (nM ss u b)) (c u + cM ss u b) : Nat) : Int) := by split <;> omega
          rw [emax, kvi_upd]
          refine ⟨addW ks2 (nM ss u b), _, _, _, rfl, same_mut' s7 hL2, upd_same, (hLt7.step u b).congr fun x y => ?_⟩
          rw [take_snoc hb, List.mem_append, List.mem_singleton]
          constructor
          · rintro ((h | ⟨h1, h2⟩) | ⟨h1, h2⟩)
            · exact .inl h
            · exact .inr ⟨h1, .inl h2⟩
            · exact .inr ⟨h1, .inr h2⟩
          · rintro (h | ⟨h1, h2 | h2⟩)
            · exact .inl (.inl h)
            · exact .inl (.inr ⟨h1, h2⟩)
            · exact .inr ⟨h1, h2⟩
        · rintro σ H7 ⟨ks2, c2, v6, v7, rfl, s7, hd7, hLt7⟩
          refine ⟨ks2, c2, _, _, _, _, rfl, s7, hd7, hLt7.congr fun x y => ?_⟩
          rw [take_snoc hu, List.mem_append, List.mem_singleton]
          exact ⟨fun z => z.elim .inl fun z => .inr z.1, fun z => z.elim .inl fun z => .inr ⟨z, by show y ∈ [false, true].take 2; cases y <;> decide⟩⟩
      · rintro σ H5 ⟨ks2, c2, v4, v5, v6, v7, rfl, s5, hd5, hLt⟩
        rw [kvi_len, List.take_length] at hLt
        have hWk2 := hWk.next hLt
        have s6 := hLu s5
        have hd6 : upd H5 cd (.dK (kvi ks c)) d2 = some (.dK (kvi ks2 c2)) := by rw [upd_ne n2c]; exact hd5
        have hl6 := s6 _ _ hl3
        refine ⟨s5 _ _ hLc, ?_⟩
        generalize upd H5 cd (.dK (kvi ks c)) = H6 at s6 hd6 hl6 ⊢
        refine ⟨_, rfl, .inl ⟨rfl, _, SqL.of hl6⟩, _, rfl, l, _, _, rfl, rfl, hl6, by rw [List.length_map]; exact sl_lt (by omega), ?_⟩
        refine ⟨ds' ++ [cd] ++ [d2], _, _, _, _, _, _, rfl, same_mut' (s3.trans s6) nlH, by rw [upd_same, List.map_append (l₂ := [d2])]; rfl, by rw [List.length_append, lds]; rfl, fun i2 dd h2 => ?_⟩
        have key : ∃ ks c, H6 dd = some (.dK (kvi ks c)) ∧ Wk ss i2 ks c := by
          by_cases q : i2 < (ds' ++ [cd]).length
          · rw [List.getElem?_append_left q] at h2
            exact (hK.same s6) i2 dd h2
          · rw [List.getElem?_append_right (by omega)] at h2
            have l0 : i2 - (ds' ++ [cd]).length = 0 := by
              have := (List.getElem?_eq_some_iff.mp h2).1
              simp only [List.length_cons, List.length_nil] at this
              omega
            rw [l0] at h2
            have ed : d2 = dd := Option.some.inj h2
            have ei : i2 = i + 1 := by omega
            rw [← ed, ei]
            exact ⟨ks2, c2, hd6, hWk2⟩
        obtain ⟨k1, c1, h1, h2'⟩ := key
        exact ⟨k1, c1, by rw [upd_ne (ne_of h1 hl6 (by intro z; cases z))]; exact h1, h2'⟩
    · rintro σ H3 ⟨ds, v2, v3, v4, v5, v6, v7, rfl, s3, hl3, lds, hK⟩
      rw [lkr, Int.toNat_natCast] at lds
      exact ⟨_, rfl, k l ds H3 nlH s3 hl3 lds hK⟩
theorem sc_least_of : FnScope ["values", "found", "p", "q"] ["values"] (fnScope s_least_of) := fnScope_by (by decide +kernel)
theorem cal_least_of {f : Addr} {fd : FuncData} (F : Def K mg "least_of" s_least_of f fd) (b : Binds K fd ["values"] []) (T : Tx mg) : Cal P w K mg base 1 "least_of" spLeastOf [] := by
  refine cal0 F b .nil sc_least_of (fun vs H Q E h => ?_) (fun cdv A outer s H vs Q E hr h => ?_)
  · obtain ⟨_, _, rfl, _⟩ := h; rfl
  · obtain ⟨l, fs, rfl, ⟨ts, hl, hP⟩, hne, hpos, k⟩ := h
    refine ⟨_, (pss_cons (ps_set (i := 1) sc_least_of.nd rfl (.inl rfl) (pe_ix ix_list (pv 0) pe_int (fun _ _ => rfl)))
    (pss_cons (ps_for PassesOwn.never rfl (pi_list (pv 0)) (pg_tup rfl (pgs_cons (pg_name (i := 2) sc_least_of.nd rfl (.inl rfl)) (pgs_cons (pg_name (i := 3) sc_least_of.nd rfl (.inl rfl)) pgs_nil)))
    (pss_one (ps_if (pt_cmpR op_lt (pe_op op_mul (pv 2) (pe_ix ix_tup (pv 1) pe_int (fun _ _ => rfl))) (pe_op op_mul (pe_ix ix_tup (pv 1) pe_int (fun _ _ => rfl)) (pv 3)) (nomark _)) (pss_one (ps_set (i := 1) sc_least_of.nd rfl (.inl rfl) (pe_tup (pa_cons (pv 2) (pa_cons (pv 3) pa_nil))))) pss_nil)))
    (pss_one (ps_ret (pv 1))))), ?_⟩
    have lts := pair_len hP
    have l0 := List.length_pos_iff.mpr hne
    have h0 : ts[0]? = some (ts[0]'(by omega)) := List.getElem?_eq_getElem (by omega)
    generalize ts[0]'(by omega) = t0 at h0
    obtain ⟨x0, g0, ht0⟩ := pair_get hP h0
    refine ⟨_, rfl, l, _, _, _, rfl, rfl, SqL.of hl, atI_nat (j := 0) (by rw [List.getElem?_map, h0]; rfl), ?_⟩
    refine ⟨_, rfl, l, rfl, ⟨_, SqL.of hl⟩, ?_⟩
    refine for_it (walk_list (xs := ts.map V.ref)) (fun i σ H2 => ∃ (t : Addr) (x : Int × Int) (v2 v3 : Option V), σ = [some (.ref l), some (.ref t), v2, v3] ∧ Same H H2 ∧ H2 t = some (.tup [.int x.1, .int x.2]) ∧ x ∈ fs ∧ ∀ j y, j < i → fs[j]? = some y → x.1 * y.2 ≤ y.1 * x.2)
      ⟨t0, x0, _, _, rfl, Same.refl _, ht0, List.mem_of_getElem? g0, fun j y hj => absurd hj (Nat.not_lt_zero _)⟩ (fun i σ H2 _ h2 => by obtain ⟨_, _, _, _, _, h2, _⟩ := h2; exact SqL.of (h2 _ _ hl)) ?_ ?_
    · rintro i z σ H2' H2 hi ⟨t, x, v2, v3, rfl, s2, ht, hx, hle⟩ ⟨rfl, hz⟩
      rw [List.getElem?_map] at hz
      obtain ⟨tz, hz', rfl⟩ := Option.map_eq_some_iff.mp hz
      obtain ⟨y, gy, hty⟩ := pair_get hP hz'
      have hty := s2 _ _ hty
      obtain ⟨px, bx⟩ := hpos x hx
      obtain ⟨py, by'⟩ := hpos y (List.mem_of_getElem? gy)
      refine ⟨tz, _, rfl, SqT.of hty, rfl, _, _, rfl, _, _, rfl, rfl, ?_⟩
      refine ⟨_, rfl, _, rfl, t, _, _, _, rfl, rfl, SqT.of ht, atI_nat (j := 1) rfl, _, _, rfl, rfl, .inr ⟨by omega, by omega⟩, ?_⟩
      refine ⟨_, rfl, t, _, _, _, rfl, rfl, SqT.of ht, atI_nat (j := 0) rfl, _, rfl, _, _, rfl, rfl, .inr ⟨by omega, by omega⟩, ?_⟩
      refine ⟨_, _, rfl, rfl, _, rfl, ?_⟩
      by_cases c : y.1 * x.2 < x.1 * y.2
      · refine iteDT c ?_
        refine ⟨_, rfl, _, rfl, by show 2 ≤ sizeLine; decide, fun tn ntn => ?_⟩
        refine ⟨tn, y, _, _, rfl, s2.trans (same_upd ntn), upd_same, List.mem_of_getElem? gy, fun j v hj hv => ?_⟩
        rcases Nat.lt_or_ge j i with q | q
        · exact fracI_tr px (hpos v (List.mem_of_getElem? hv)).1 py c (hle j v q hv)
        · have : j = i := by omega
          subst this
          rw [gy] at hv
          rw [← Option.some.inj hv]
          exact Int.le_refl _
      · refine iteDF c ?_
        refine ⟨t, x, _, _, rfl, s2, ht, hx, fun j v hj hv => ?_⟩
        rcases Nat.lt_or_ge j i with q | q
        · exact hle j v q hv
        · have : j = i := by omega
          subst this
          rw [gy] at hv
          rw [← Option.some.inj hv]
          omega
    · rintro σ H2 ⟨t, x, v2, v3, rfl, s2, ht, hx, hle⟩
      refine ⟨_, rfl, k t x H2 s2 ht hx fun y hy => ?_⟩
      obtain ⟨j, hj⟩ := List.getElem?_of_mem hy
      refine hle j y ?_ hj
      rw [List.length_map, lts]
      exact (List.getElem?_eq_some_iff.mp hj).1
end
end U

set_option maxRecDepth 100000
set_option maxHeartbeats 1000000
set_option pp.maxSteps 400
namespace U
/-! rates: what the walks tell -/
/-- the least mean behind a standing -/
def MinV (ss : List Stf) (n : Nat) (v : List Bool) (p q : Int) : Prop := ∃ x : List Bool, x.length = n ∧ stF ss [] x = v ∧ (∀ y, y.length = n → stF ss [] y = v → costM ss [] y ≤ costM ss [] x) ∧
  (∃ m : List Bool, m.length < n ∧ stF ss [] m = v ∧ q = (n : Int) - m.length ∧ p = (costM ss [] x : Int) - (costM ss [] m : Nat)) ∧
  ∀ m : List Bool, m.length < n → stF ss [] m = v → p * ((n : Int) - m.length) ≤ ((costM ss [] x : Int) - (costM ss [] m : Nat)) * q
theorem MinV.pos {ss : List Stf} {n : Nat} {v : List Bool} {p q : Int} (h : MinV ss n v p q) : 0 < q := by
  obtain ⟨_, _, _, _, ⟨m, h1, _, rfl, _⟩, _⟩ := h
  omega
/-- the rate: the greatest mean of a ring -/
structure RateR (ss : List Stf) (p q : Nat) : Prop where
  pos : 0 < q
  le : ∀ u m, m ≠ [] → stF ss (stF ss [] u) m = stF ss [] u → costM ss (stF ss [] u) m * q ≤ p * m.length
  eq : ∃ u m, m ≠ [] ∧ stF ss (stF ss [] u) m = stF ss [] u ∧ costM ss (stF ss [] u) m * q = p * m.length
theorem mulI_tr {a b c d e f : Int} (hd : 0 < d) (hf : 0 ≤ f) (hb : 0 ≤ b) (h1 : a * d ≤ c * b) (h2 : c * f ≤ e * d) : a * f ≤ e * b := by
  refine Int.le_of_mul_le_mul_right (a := d) ?_ hd
  calc a * f * d = a * d * f := Int.mul_right_comm _ _ _
    _ ≤ c * b * f := Int.mul_le_mul_of_nonneg_right h1 hf
    _ = c * f * b := Int.mul_right_comm _ _ _
    _ ≤ e * d * b := Int.mul_le_mul_of_nonneg_right h2 hb
    _ = e * b * d := Int.mul_right_comm _ _ _
theorem karp {ss : List Stf} {ws : List (List Bool)} (o : OkN 39 ss) (h : Mvs ss ws) {p q : Nat} (hq : 0 < q) (h1 : (p = 0 ∧ q = 1) ∨ ∃ v, MinV ss ws.length v p q)
    (h2 : ∀ x : List Bool, x.length = ws.length → ∃ p' q', MinV ss ws.length (stF ss [] x) p' q' ∧ p' * (q : Int) ≤ p * q') : RateR ss p q := by
  obtain ⟨w0, hw0, m0, hm0, hr0, np⟩ := ring_max h
  have l0 := List.length_pos_iff.mpr hm0
  obtain ⟨u0, hu0⟩ := reach_of o h hw0
  -- no less
  have lo : (costM ss w0 m0 : Int) * q ≤ p * (m0.length : Nat) := by
    obtain ⟨x, hx, hmax⟩ := karp_low o h hw0 hm0 hr0 np
    obtain ⟨p', q', hV, hpq⟩ := h2 x hx
    have pq' := hV.pos
    obtain ⟨y, hy1, hy2, hy3, ⟨m, k1, k2, k3, k4⟩, _⟩ := hV
    have e1 := hmax m k2
    have e2 := hmax y hy2
    have hxy := hy3 x hx rfl
    have e3 : (costM ss w0 m0 : Int) * q' ≤ p' * (m0.length : Nat) := by
      unfold exc at e1
      rw [hx] at e1
      rw [k3, k4, Int.mul_sub, Int.sub_mul]
      have hxy' : ((m0.length : Nat) : Int) * (costM ss [] x : Nat) ≤ ((m0.length : Nat) : Int) * (costM ss [] y : Nat) := Int.mul_le_mul_of_nonneg_left (by omega) (by omega)
      rw [Int.mul_comm ((costM ss [] y : Nat) : Int), Int.mul_comm ((costM ss [] m : Nat) : Int)]
      omega
    exact mulI_tr pq' (by omega) (by omega) e3 hpq
  -- no more
  have hi : (p : Int) * (m0.length : Nat) ≤ (costM ss w0 m0 : Nat) * q := by
    rcases h1 with ⟨rfl, rfl⟩ | ⟨v, hV⟩
    · have : (0 : Int) ≤ (costM ss w0 m0 : Nat) * ((1 : Nat) : Int) := by omega
      omega
    · obtain ⟨x, hx1, hx2, _, _, hmin⟩ := hV
      obtain ⟨a, b, c, rfl, hb, hl, es⟩ := cut_of h (m := x) h.nil (by omega)
      have hbl := List.length_pos_iff.mpr hb
      rw [List.length_append, List.length_append] at hx1
      have e2 : stF ss [] (a ++ b ++ c) = stF ss [] (a ++ c) := by rw [stF_app, es, ← stF_app]
      have k1 := hmin (a ++ c) (by rw [List.length_append]; omega) (by rw [← e2, hx2])
      have k2 := exc_le.mp (np (stF ss [] a) (stF_in h h.nil) b hb (by rw [← stF_app, es]))
      have c1 := cost_app ss [] (a ++ b) c
      have c2 := cost_app ss [] a b
      have c3 := cost_app ss [] a c
      rw [es] at c1
      have ec : (costM ss [] (a ++ b ++ c) : Int) - (costM ss [] (a ++ c) : Nat) = (costM ss (stF ss [] a) b : Nat) := by omega
      have el : (ws.length : Int) - (a ++ c).length = (b.length : Nat) := by rw [List.length_append]; omega
      rw [ec, el] at k1
      have k2' : (costM ss (stF ss [] a) b : Int) * (m0.length : Nat) ≤ (costM ss w0 m0 : Nat) * (b.length : Nat) := by
        rw [← Int.natCast_mul, ← Int.natCast_mul]
        omega
      exact mulI_tr (by omega) (by omega) (by omega) k1 k2'
  have heq : costM ss w0 m0 * q = p * m0.length := by
    have : ((costM ss w0 m0 * q : Nat) : Int) = ((p * m0.length : Nat) : Int) := by
      rw [Int.natCast_mul, Int.natCast_mul]
      omega
    omega
  refine ⟨hq, fun u m hm hr => ?_, ⟨u0, m0, hm0, by rw [hu0]; exact hr0, by rw [hu0]; exact heq⟩⟩
  have k2 := exc_le.mp (np (stF ss [] u) (stF_in h h.nil) m hm hr)
  have k3 : costM ss w0 m0 * q ≤ p * m0.length := by omega
  exact frac_tr l0 k2 k3
/-- only one value is the rate -/
theorem RateR.uniq {ss : List Stf} {p q p' q' : Nat} (h : RateR ss p q) (h' : RateR ss p' q') : p * q' = p' * q := by
  have one : ∀ {p q p' q' : Nat}, RateR ss p q → RateR ss p' q' → p * q' ≤ p' * q := fun {p q p' q'} h h' => by
    obtain ⟨u, m, hm, hr, e⟩ := h.eq
    have hl := List.length_pos_iff.mpr hm
    have h2 := h'.le u m hm hr
    refine Nat.le_of_mul_le_mul_right (c := m.length) ?_ hl
    calc p * q' * m.length = p * m.length * q' := Nat.mul_right_comm _ _ _
      _ = costM ss (stF ss [] u) m * q * q' := by rw [e]
      _ = costM ss (stF ss [] u) m * q' * q := Nat.mul_right_comm _ _ _
      _ ≤ p' * m.length * q := Nat.mul_le_mul_right _ h2
      _ = p' * q * m.length := Nat.mul_right_comm _ _ _
  exact Nat.le_antisymm (one h h') (one h' h)
theorem RateR.scale {ss : List Stf} {p q g : Nat} (h : RateR ss (p * g) (q * g)) : RateR ss p q := by
  have hg : 0 < g := Nat.pos_of_ne_zero fun z => by have := h.pos; rw [z, Nat.mul_zero] at this; exact absurd this (Nat.lt_irrefl _)
  refine ⟨Nat.pos_of_ne_zero fun z => by have := h.pos; rw [z, Nat.zero_mul] at this; exact absurd this (Nat.lt_irrefl _), fun u m hm hr => ?_, ?_⟩
  · have := h.le u m hm hr
    refine Nat.le_of_mul_le_mul_right (c := g) ?_ hg
    rw [Nat.mul_assoc, Nat.mul_right_comm]
    exact this
  · obtain ⟨u, m, hm, hr, e⟩ := h.eq
    refine ⟨u, m, hm, hr, Nat.eq_of_mul_eq_mul_right hg ?_⟩
    rw [Nat.mul_assoc, Nat.mul_right_comm]
    exact e
end U

set_option maxRecDepth 100000
set_option maxHeartbeats 4000000
set_option pp.maxSteps 400
namespace U
open PySem PySem.Spec PyProof.Rows
open L2 hiding Fun CX0 E0 pass0 Fun.binds
open C8 Lx SX StX
def spCommon : Sp := fun vs H Q _ => ∃ p q : Nat, vs = [.int p, .int q] ∧ ∀ H', Same H H' → Q (.int (Nat.gcd p q : Nat)) H'
def spLowest : Sp := fun vs H Q _ => ∃ (p : Int) (q : Nat), vs = [.int p, .int q] ∧ 0 < q ∧ q < 1000000000 ∧
  ∀ t H', H t = none → Same H H' → H' t = some (.tup [.int (p / (Nat.gcd p.natAbs q : Nat)), .int ((q : Int) / (Nat.gcd p.natAbs q : Nat))]) → Q (.ref t) H'
/-- the rate of a rule, in lowest terms -/
def RateL (ss : List Stf) (p q : Nat) : Prop := RateR ss p q ∧ Nat.gcd p q = 1
theorem RateL.uniq {ss : List Stf} {p q p' q' : Nat} (h : RateL ss p q) (h' : RateL ss p' q') : p = p' ∧ q = q' := by
  have e := h.1.uniq h'.1
  have d1 : q ∣ q' := by
    have : q ∣ p * q' := ⟨p', by rw [e, Nat.mul_comm]⟩
    exact Nat.Coprime.dvd_of_dvd_mul_left (by show Nat.gcd q p = 1; rw [Nat.gcd_comm]; exact h.2) this
  have d2 : q' ∣ q := by
    have : q' ∣ p' * q := ⟨p, by rw [← e, Nat.mul_comm]⟩
    exact Nat.Coprime.dvd_of_dvd_mul_left (by show Nat.gcd q' p' = 1; rw [Nat.gcd_comm]; exact h'.2) this
  have eq := Nat.dvd_antisymm d1 d2
  subst eq
  exact ⟨Nat.eq_of_mul_eq_mul_right h.1.pos e, rfl⟩
def spRate (C : Addr) : Sp := fun vs H Q _ => ∃ (a : Addr) (f : List Bool) (ss : List Stf), vs = [.ref a] ∧ RuAt C H a f ss ∧ StOk ss ∧ OkN 39 ss ∧
  ∀ t p q H', H t = none → Same H H' → H' t = some (.tup [.int (p : Nat), .int (q : Nat)]) → RateL ss p q → q ≤ 1023 → Q (.ref t) H'
/-- fractions so far -/
structure FrS (ss : List Stf) (n : Nat) (v : List Bool) (D : Nat) (i : Nat) (fs : List (Int × Int)) : Prop where
  wit : ∀ x ∈ fs, ∃ m : List Bool, m.length < i ∧ stF ss [] m = v ∧ x.2 = (n : Int) - m.length ∧ x.1 = (D : Int) - (costM ss [] m : Nat)
  all : ∀ m : List Bool, m.length < i → stF ss [] m = v → ∃ x ∈ fs, x.2 = (n : Int) - m.length ∧ x.1 ≤ (D : Int) - (costM ss [] m : Nat)
theorem FrS.start {ss : List Stf} {n : Nat} {v : List Bool} {D : Nat} : FrS ss n v D 0 [] := ⟨fun x hx => (by cases hx), fun m hm => absurd hm (Nat.not_lt_zero _)⟩
theorem FrS.skip {ss : List Stf} {n i : Nat} {v : List Bool} {D : Nat} {fs : List (Int × Int)} {ks : List (List Bool)} {c : List Bool → Nat} (h : FrS ss n v D i fs) (w : Wk ss i ks c) (hv : v ∉ ks) : FrS ss n v D (i + 1) fs := by
  refine ⟨fun x hx => ?_, fun m hm e => ?_⟩
  · obtain ⟨m, h1, h2⟩ := h.wit x hx
    exact ⟨m, by omega, h2⟩
  · by_cases q : m.length < i
    · exact h.all m q e
    · have := (w.all m (by omega)).1
      rw [e] at this
      exact absurd this hv
theorem FrS.add {ss : List Stf} {n i : Nat} {v : List Bool} {D : Nat} {fs : List (Int × Int)} {ks : List (List Bool)} {c : List Bool → Nat} (h : FrS ss n v D i fs) (w : Wk ss i ks c) (hv : v ∈ ks) : FrS ss n v D (i + 1) (fs ++ [((D : Int) - (c v : Nat), (n : Int) - i)]) := by
  refine ⟨fun x hx => ?_, fun m hm e => ?_⟩
  · rcases List.mem_append.mp hx with hx | hx
    · obtain ⟨m, h1, h2⟩ := h.wit x hx
      exact ⟨m, by omega, h2⟩
    · obtain ⟨m, h1, h2, h3⟩ := w.wit v hv
      rw [List.mem_singleton.mp hx]
      exact ⟨m, by omega, h2, by rw [h1], by rw [h3]⟩
  · by_cases q : m.length < i
    · obtain ⟨x, hx, h1⟩ := h.all m q e
      exact ⟨x, List.mem_append_left _ hx, h1⟩
    · have hm' : m.length = i := by omega
      have := (w.all m hm').2
      rw [e] at this
      exact ⟨_, List.mem_append_right _ (List.mem_singleton.mpr rfl), by rw [hm'], by show (D : Int) - (c v : Nat) ≤ _; omega⟩
/-- the greatest one so far -/
structure RtI (ss : List Stf) (n : Nat) (vs : List (List Bool)) (p q : Int) : Prop where
  pos : 0 < q
  nn : 0 ≤ p
  wit : (p = 0 ∧ q = 1) ∨ ∃ v, MinV ss n v p q
  all : ∀ v ∈ vs, ∃ p' q', MinV ss n v p' q' ∧ p' * q ≤ p * q'
theorem MinV.le {ss : List Stf} {n : Nat} {v : List Bool} {p q : Int} (h : MinV ss n v p q) : q ≤ n := by
  obtain ⟨_, _, _, _, ⟨m, h1, _, rfl, _⟩, _⟩ := h
  omega
section
variable {P : Program} {w : World} {K : PySem.W.Frag} {mg : Str → Option Value} {base : Heap}
theorem sc_common : FnScope ["p", "q"] ["p", "q"] (fnScope s_common) := fnScope_by (by decide +kernel)
theorem cal_common {f : Addr} {fd : FuncData} (F : Def K mg "common" s_common f fd) (b : Binds K fd ["p", "q"] []) (T : Tx mg) : Cal P w K mg base 1 "common" spCommon [] := by
  refine cal0 F b .nil sc_common (fun vs H Q E h => ?_) (fun cdv A outer s H vs Q E hr h => ?_)
  · obtain ⟨_, _, rfl, _⟩ := h; rfl
  · obtain ⟨p, q, rfl, k⟩ := h
    refine ⟨_, (pss_cons (ps_while PassesOwn.never (pt_cmpR op_gt (pv 1) pe_int (nomark _))
    (pss_one (ps_par (i := 0) (j := 1) (by rfl) sc_common.nd rfl rfl (by decide) rfl rfl (pa_cons (pv 1) (pa_cons (pe_op op_mod (pv 0) (pv 1)) pa_nil)) (by rfl))))
    (pss_one (ps_ret (pv 0)))), ?_⟩
    refine ⟨fun m σ H3 => ∃ p' q' : Nat, σ = [some (.int p'), some (.int q')] ∧ H3 = H ∧ Nat.gcd p' q' = Nat.gcd p q ∧ m = q', ⟨q, p, q, rfl, rfl, rfl, rfl⟩, ?_⟩
    rintro m σ H3 ⟨p', q', rfl, rfl, hg, rfl⟩
    refine ⟨_, rfl, _, _, rfl, rfl, _, rfl, ?_⟩
    by_cases c : 0 < m
    · refine iteDT (by show (0 : Int) < (m : Nat); omega) ?_
      refine ⟨fun σ' H' => ∃ m', m' < m ∧ ∃ p' q' : Nat, σ' = [some (.int p'), some (.int q')] ∧ H' = H3 ∧ Nat.gcd p' q' = Nat.gcd p q ∧ m' = q', fun _ _ h => h, ?_⟩
      refine ⟨_, rfl, _, rfl, _, rfl, _, _, rfl, rfl, by show (0 : Int) < (m : Nat); omega, _, _, rfl, ?_⟩
      refine ⟨p' % m, Nat.mod_lt _ c, m, p' % m, rfl, rfl, ?_, rfl⟩
      rw [← hg, Nat.gcd_comm p' m, Nat.gcd_rec m p', Nat.gcd_comm]
    · refine iteDF (by show ¬ (0 : Int) < (m : Nat); omega) ?_
      have hm : m = 0 := by omega
      subst hm
      rw [Nat.gcd_zero_right] at hg
      refine ⟨_, rfl, ?_⟩
      rw [hg]
      exact k _ (Same.refl _)
theorem sc_lowest : FnScope ["p", "q", "part"] ["p", "q"] (fnScope s_lowest) := fnScope_by (by decide +kernel)
theorem cal_lowest {f : Addr} {fd : FuncData} (F : Def K mg "lowest" s_lowest f fd) (b : Binds K fd ["p", "q"] []) (T : Tx mg) (c_common : Cal P w K mg base 1 "common" spCommon []) : Cal P w K mg base 2 "lowest" spLowest [] := by
  refine cal0 F b .nil sc_lowest (fun vs H Q E h => ?_) (fun cdv A outer s H vs Q E hr h => ?_)
  · obtain ⟨_, _, rfl, _⟩ := h; rfl
  · obtain ⟨p, q, rfl, q0, q9, k⟩ := h
    refine ⟨_, (pss_cons (ps_set (i := 2) sc_lowest.nd rfl (.inl rfl) (pe_c c_common hr (by decide) rfl (pa_cons (pe_callB call_abs (by rfl) T.b_abs (by decide +kernel) (pa_cons (pv 0) pa_nil)) (pa_cons (pv 1) pa_nil))))
    (pss_one (ps_ret (pe_tup (pa_cons (pe_op op_fdiv (pv 0) (pv 2)) (pa_cons (pe_op op_fdiv (pv 1) (pv 2)) pa_nil)))))), ?_⟩
    have eabs : (if p < 0 then -p else p) = ((p.natAbs : Nat) : Int) := by split <;> omega
    have g0 : 0 < Nat.gcd p.natAbs q := Nat.gcd_pos_of_pos_right _ q0
    have g1 : Nat.gcd p.natAbs q ≤ q := Nat.gcd_le_right _ q0
    refine ⟨_, rfl, _, rfl, _, rfl, p.natAbs, q, by rw [eabs]; rfl, fun H1 s1 => ?_⟩
    refine ⟨_, rfl, _, rfl, _, _, rfl, rfl, ⟨by show (0 : Int) < ((Nat.gcd p.natAbs q : Nat) : Int); omega, by show ((Nat.gcd p.natAbs q : Nat) : Int) < 1073741824; omega⟩, ?_⟩
    refine ⟨_, rfl, _, rfl, _, _, rfl, rfl, ⟨by show (0 : Int) < ((Nat.gcd p.natAbs q : Nat) : Int); omega, by show ((Nat.gcd p.natAbs q : Nat) : Int) < 1073741824; omega⟩, by show 2 ≤ sizeLine; decide, fun t nt => ?_⟩
    exact k t _ (s1.free nt) (s1.trans (same_upd nt)) upd_same
theorem sc_rate : FnScope ["rule", "moves", "told", "found", "size", "there", "whole", "means", "many", "p", "q"] ["rule"] (fnScope s_rate) := fnScope_by (by decide +kernel)
theorem cal_rate {f C : Addr} {fd : FuncData} (F : Def K mg "rate" s_rate f fd) (b : Binds K fd ["rule"] []) (T : Tx mg) (c_moves_of : Cal P w K mg base 5 "moves_of" (spMovesOf C) []) (c_walks : Cal P w K mg base 1 "walks" spWalks []) (c_least_of : Cal P w K mg base 1 "least_of" spLeastOf []) (c_lowest : Cal P w K mg base 2 "lowest" spLowest []) : Cal P w K mg base 6 "rate" (spRate C) [] := by
  refine cal0 F b .nil sc_rate (fun vs H Q E h => ?_) (fun cdv A outer s H vs Q E hr h => ?_)
  · obtain ⟨_, _, _, rfl, _⟩ := h; rfl
  · obtain ⟨a, fl, ss, rfl, hR, ok, o, k⟩ := h
    refine ⟨_, (pss_cons (ps_set (i := 1) sc_rate.nd rfl (.inl rfl) (pe_c c_moves_of hr (by decide) rfl (pa_cons (pv 0) pa_nil)))
    (pss_cons (ps_asg (pe_tup (pa_cons (pe_c c_walks hr (by decide) rfl (pa_cons (pv 1) pa_nil)) (pa_cons (pe_tup (pa_cons pe_int (pa_cons pe_int pa_nil))) pa_nil))) (pg_tup rfl (pgs_cons (pg_name (i := 2) sc_rate.nd rfl (.inr rfl)) (pgs_cons (pg_name (i := 3) sc_rate.nd rfl (.inl rfl)) pgs_nil))))
    (pss_cons (ps_set (i := 4) sc_rate.nd rfl (.inr rfl) (pe_callB call_lenD (by rfl) T.b_len (by decide +kernel) (pa_cons (pv 1) pa_nil)))
    (pss_cons (ps_lock (ps_for PassesOwn.never rfl (pi_items (pe_ix ix_list (pv 2) (pv 4) (fun _ _ => rfl))) (pg_tup rfl (pgs_cons (pg_name (i := 5) sc_rate.nd rfl (.inr rfl)) (pgs_cons (pg_name (i := 6) sc_rate.nd rfl (.inr rfl)) pgs_nil)))
    (pss_cons (ps_setLc (i := 7) (own := [("many", 8)]) (g := gName 8) (by rfl) sc_rate.nd rfl rfl (sw_true rfl rfl rfl (by decide +kernel)) (pi_range1 (by rfl) T.b_range (pa_cons (pv 4) pa_nil)) (blkOk_by (own := [("many", 8)]) (N := ["rule", "moves", "told", "found", "size", "there", "whole", "means", "many", "p", "q"]) (sc := fnScope s_rate) (by decide +kernel)) (fun _ _ _ _ _ => (pg_name (i := 8) sc_rate.nd rfl (.inl rfl))) (fun _ _ _ _ _ => (pts_one (pt_cmp (pc_din (hu_of hr) (pv 5) (pe_ix (show IxR _ (rIxL K) from ix_list) (pv 2) (pv 8) (fun _ _ => rfl)))))) (fun _ _ _ _ _ => (pe_tup (pa_cons (pe_op op_sub (pv 6) (pe_dget (hu_of hr) (pe_ix (show IxR _ (rIxL K) from ix_list) (pv 2) (pv 8) (fun _ _ => rfl)) (pv 5) (fun _ _ => rfl))) (pa_cons (pe_op op_sub (pv 4) (pv 8)) pa_nil)))))
    (pss_cons (ps_asg (pe_c c_least_of hr (by decide) rfl (pa_cons (pv 7) pa_nil)) (pg_tup rfl (pgs_cons (pg_name (i := 9) sc_rate.nd rfl (.inl rfl)) (pgs_cons (pg_name (i := 10) sc_rate.nd rfl (.inl rfl)) pgs_nil))))
    (pss_one (ps_if (pt_cmpR op_gt (pe_op op_mul (pv 9) (pe_ix ix_tup (pv 3) pe_int (fun _ _ => rfl))) (pe_op op_mul (pe_ix ix_tup (pv 3) pe_int (fun _ _ => rfl)) (pv 10)) (nomark _)) (pss_one (ps_set (i := 3) sc_rate.nd rfl (.inl rfl) (pe_tup (pa_cons (pv 9) (pa_cons (pv 10) pa_nil))))) pss_nil))))))
    (pss_one (ps_ret (pe_c c_lowest hr (by decide) rfl (pa_cons (pe_ix ix_tup (pv 3) pe_int (fun _ _ => rfl)) (pa_cons (pe_ix ix_tup (pv 3) pe_int (fun _ _ => rfl)) pa_nil))))))))), ?_⟩
    refine ⟨_, rfl, a, fl, ss, rfl, hR, ok, o, fun d ws H1 nd s1 hM hW => ?_⟩
    have few := hW.few ok.long
    have wpos : 0 < ws.length := List.length_pos_of_mem hW.nil
    refine ⟨_, rfl, d, ss, ws, rfl, hM, hW, by omega, fun l ds H2 nl s2 hl lds hK => ⟨by show 2 ≤ sizeLine; decide, fun t0 nt0 => ⟨by show 2 ≤ sizeLine; decide, fun t1 nt1 => ?_⟩⟩⟩
    have sA := same_upd (o := .tup [.int 0, .int 1]) nt0
    have hA : upd H2 t0 (.tup [.int 0, .int 1]) t0 = some (.tup [.int 0, .int 1]) := upd_same
    have sB := same_upd (o := .tup [.ref l, .ref t0]) nt1
    have hB : upd (upd H2 t0 (.tup [.int 0, .int 1])) t1 (.tup [.ref l, .ref t0]) t1 = some (.tup [.ref l, .ref t0]) := upd_same
    have hA2 := sB _ _ hA
    have s3 := (s2.trans sA).trans sB
    have hl3 := (sA.trans sB) _ _ hl
    have hK3 := hK.same (sA.trans sB)
    generalize upd (upd H2 t0 (.tup [.int 0, .int 1])) t1 (.tup [.ref l, .ref t0]) = H3 at hB hA2 s3 hl3 hK3
    refine ⟨t1, _, rfl, SqT.of hB, rfl, _, _, rfl, _, _, rfl, rfl, ?_⟩
    obtain ⟨lo, hd1, hM1⟩ := hM
    have hd3 := s3 _ _ hd1
    refine ⟨_, rfl, d, _, rfl, hd3, ?_⟩
    rw [kvr_len]
    -- the last of the dicts
    have hdn : ds[ws.length]? = some (ds[ws.length]'(by omega)) := List.getElem?_eq_getElem (by omega)
    generalize ds[ws.length]'(by omega) = dn at hdn
    obtain ⟨ks, c, hcd, hWk⟩ := hK3 _ _ hdn
    refine ⟨dn, _, hcd, trivial, fun od => ?_⟩
    have hLc : upd H3 dn (.frz od (.dK (kvi ks c))) dn = some (.frz od (.dK (kvi ks c))) := upd_same
    have hLl : upd H3 dn (.frz od (.dK (kvi ks c))) l = some (.lst (ds.map V.ref)) := by rw [upd_ne (ne_of hl3 hcd (by intro z; cases z))]; exact hl3
    have hLK : ∀ i d, ds[i]? = some d → ∃ ks2 c2, Rd (upd H3 dn (.frz od (.dK (kvi ks c)))) d (.dK (kvi ks2 c2)) ∧ Wk ss i ks2 c2 := fun i d' h' => by
      obtain ⟨ks2, c2, g1, g2⟩ := hK3 i d' h'
      exact ⟨ks2, c2, rd_lock g1 hcd, g2⟩
    have hL0 : upd H3 dn (.frz od (.dK (kvi ks c))) t0 = some (.tup [.int 0, .int 1]) := by rw [upd_ne (ne_of hA2 hcd (by intro z; cases z))]; exact hA2
    have hLu : ∀ {H'}, Same (upd H3 dn (.frz od (.dK (kvi ks c)))) H' → Same H3 (upd H' dn (.dK (kvi ks c))) := fun s => same_unlock s hcd
    generalize upd H3 dn (.frz od (.dK (kvi ks c))) = HL at hLc hLl hLK hLu hL0 ⊢
    refine ⟨_, rfl, _, rfl, l, _, _, _, rfl, rfl, SqL.of hLl, atI_nat (by rw [List.getElem?_map, hdn]; rfl), dn, od, kvi ks c, rfl, hLc, ?_⟩
    refine for_it (walk_items (kvs := kvi ks c)) (fun j σ H5 => ∃ (tf : Addr) (p q : Int) (v5 v6 v7 v8 v9 v10 : Option V), σ = [some (.ref a), some (.ref d), some (.ref l), some (.ref tf), some (.int (ws.length : Nat)), v5, v6, v7, v8, v9, v10] ∧ Same HL H5 ∧ H5 tf = some (.tup [.int p, .int q]) ∧ q ≤ 1023 ∧ RtI ss ws.length (ks.take j) p q)
      ⟨t0, 0, 1, _, _, _, _, _, _, rfl, Same.refl _, hL0, by decide, by decide, by decide, .inl ⟨rfl, rfl⟩, fun v hv => by cases hv⟩ (fun j σ H5 _ h5 => by obtain ⟨_, _, _, _, _, _, _, _, _, _, h5, _⟩ := h5; exact h5 _ _ hLc) ?_ ?_
    · rintro j x σ H5 H5' hj ⟨tf, p, q, v5, v6, v7, v8, v9, v10, rfl, s5, htf, hq3, hI⟩ ⟨T', y1, y2, rfl, nT, rfl, ek, ev⟩
      obtain ⟨u, hu⟩ : ∃ u, ks[j]? = some u := ⟨ks[j]'(by rw [kvi_len] at hj; exact hj), List.getElem?_eq_getElem _⟩
      have ekv : (kvi ks c)[j]? = some (Sum.inr (W u), .int (c u : Nat)) := by unfold kvi kvw; rw [List.getElem?_map, hu]; rfl
      have ek : (kvi ks c)[j]?.map (fun kv => kV kv.1) = some y1 := ek
      have ev : (kvi ks c)[j]?.map Prod.snd = some y2 := ev
      rw [ekv] at ek ev
      have hy1 : y1 = V.str (W u) := (Option.some.inj ek).symm
      have hy2 : y2 = V.int (c u : Nat) := (Option.some.inj ev).symm
      subst hy1 hy2
      have hum := List.mem_of_getElem? hu
      have sT := same_upd (o := .tup [.str (W u), .int (c u : Nat)]) nT
      have eT : upd H5 T' (.tup [.str (W u), .int (c u : Nat)]) T' = some (.tup [.str (W u), .int (c u : Nat)]) := upd_same
      have s6 := s5.trans sT
      have htf6 := sT _ _ htf
      refine ⟨T', _, rfl, SqT.of eT, rfl, _, _, rfl, _, _, rfl, rfl, ?_⟩
      generalize upd H5 T' (.tup [.str (W u), .int (c u : Nat)]) = H6 at s6 htf6 eT ⊢
      refine ⟨_, rfl, _, rfl, by omega, by omega, fun D nD => ?_⟩
      refine lc_it (walk_range (lo := 0) (n := ((ws.length : Nat) : Int).toNat)) (fun i H7 => ∃ (ts : List Addr) (fs : List (Int × Int)), Same H6 H7 ∧ H7 D = some (.lst (ts.map V.ref)) ∧ Paired (fun t x => H7 t = some (.tup [.int x.1, .int x.2])) ts fs ∧ ts.length ≤ i ∧ FrS ss ws.length u (c u) i fs)
        ⟨[], [], same_upd nD, upd_same, .nil, Nat.le_refl _, .start⟩ (fun _ _ _ _ => trivial) ?_ ?_
      · rintro i z H7' H7 hi ⟨ts, fs, s7, hD, hP, lts, hF⟩ ⟨rfl, rfl⟩
        have hi' : i < ws.length := by omega
        have s67 := s6.trans s7
        have hdi : ds[i]? = some (ds[i]'(by omega)) := List.getElem?_eq_getElem (by omega)
        generalize ds[i]'(by omega) = di at hdi
        obtain ⟨ki, ci, hrd, hWi⟩ := hLK _ _ hdi
        have hrd7 := rd_same hrd s67
        have e0i : (0 + (i : Int)) = ((i : Nat) : Int) := Int.zero_add _
        have hat : atI (ds.map V.ref) (0 + (i : Int)) = some (.ref di) := by rw [e0i]; exact atI_nat (by rw [List.getElem?_map, hdi]; rfl)
        have hl7 := s67 _ _ hLl
        refine ⟨rfl, _, rfl, _, rfl, _, rfl, l, _, _, _, rfl, rfl, SqL.of hl7, hat, di, _, rfl, .inl ⟨kvi ki ci, .inr (W u), hrd7, rfl, rfl⟩, _, rfl, ?_⟩
        have hval : valV (kvi ki ci) (Sum.inr (W u)) = if u ∈ ki then some (.int (ci u : Nat)) else none := by unfold kvi; exact kvw_val
        rw [hval]
        by_cases hin : u ∈ ki
        · rw [if_pos hin] at hval ⊢
          refine iteT ?_
          refine ⟨_, rfl, _, rfl, _, rfl, l, _, _, _, rfl, rfl, SqL.of hl7, hat, _, rfl, di, _, rfl, .inl ⟨kvi ki ci, .inr (W u), hrd7, rfl, hval.symm⟩, _, _, rfl, rfl, ?_⟩
          refine ⟨_, rfl, _, rfl, _, _, rfl, rfl, by show 2 ≤ sizeLine; decide, fun tn ntn => ?_⟩
          have sn := same_upd (o := .tup [.int (((c u : Nat) : Int) - ((ci u : Nat) : Int)), .int (((ws.length : Nat) : Int) - (0 + (i : Int)))]) ntn
          have hn : upd H7 tn (.tup [.int (((c u : Nat) : Int) - ((ci u : Nat) : Int)), .int (((ws.length : Nat) : Int) - (0 + (i : Int)))]) tn = some (.tup [.int (((c u : Nat) : Int) - ((ci u : Nat) : Int)), .int (((ws.length : Nat) : Int) - (0 + (i : Int)))]) := upd_same
          have hDn := sn _ _ hD
          generalize upd H7 tn (.tup [.int (((c u : Nat) : Int) - ((ci u : Nat) : Int)), .int (((ws.length : Nat) : Int) - (0 + (i : Int)))]) = H8 at sn hn hDn ⊢
          refine ⟨_, hDn, by rw [List.length_map]; exact sl_lt (by omega), ts ++ [tn], fs ++ [(((c u : Nat) : Int) - ((ci u : Nat) : Int), ((ws.length : Nat) : Int) - (i : Nat))], same_mut' (s7.trans sn) nD, by rw [upd_same, List.map_append]; rfl, ?_, by rw [List.length_append]; exact Nat.succ_le_succ lts, hF.add hWi hin⟩
          have keep : ∀ {x y}, H8 x = some (.tup y) → upd H8 D (.lst (ts.map V.ref ++ [.ref tn])) x = some (.tup y) := fun hx => by
            rw [upd_ne (ne_of hx hDn (by intro z; cases z))]; exact hx
          refine paired_snoc' (L2.Paired.mapP hP fun _ _ z => keep (sn _ _ z)) ?_
          rw [e0i] at hn
          exact keep hn
        · rw [if_neg hin]
          exact iteF ⟨ts, fs, s7, hD, hP, by omega, hF.skip hWi hin⟩
      · rintro H7 ⟨ts, fs, s7, hD, hP, lts, hF⟩
        rw [Int.toNat_natCast] at hF lts
        have s67 := s6.trans s7
        obtain ⟨xw, x1, x2, x3⟩ := hWk.wit u hum
        have hne : fs ≠ [] := by
          obtain ⟨aa, bb, cc, ex, hb, hll, es⟩ := cut_of hW (m := xw) hW.nil (by omega)
          have hbl := List.length_pos_iff.mpr hb
          have lx : aa.length + bb.length + cc.length = ws.length := by rw [← x1, ex, List.length_append, List.length_append]
          have e2 : stF ss [] (aa ++ cc) = u := by rw [stF_app, ← es, ← stF_app, ← ex, x2]
          obtain ⟨y, hy, _⟩ := hF.all (aa ++ cc) (by rw [List.length_append]; omega) e2
          exact List.ne_nil_of_mem hy
        have hpos : ∀ x ∈ fs, 0 < x.2 ∧ x.2 ≤ 100000 := fun x hx => by
          obtain ⟨m, m1, _, m2, _⟩ := hF.wit x hx
          omega
        refine ⟨_, rfl, D, fs, rfl, ⟨ts, hD, hP⟩, hne, hpos, fun t y H8 s8 ht hy hmin => ?_⟩
        refine ⟨t, _, rfl, SqT.of ht, rfl, _, _, rfl, _, _, rfl, rfl, ?_⟩
        have s68 := s67.trans s8
        have htf8 := (s7.trans s8) _ _ htf6
        have hV : MinV ss ws.length u y.1 y.2 := by
          refine ⟨xw, x1, x2, fun z z1 z2 => ?_, ?_, fun m m1 m2 => ?_⟩
          · have := (hWk.all z z1).2
            rw [z2] at this
            omega
          · obtain ⟨m, m1, m2, m3, m4⟩ := hF.wit y hy
            exact ⟨m, m1, m2, m3, by rw [m4, x3]⟩
          · obtain ⟨z, hz, z1, z2⟩ := hF.all m m1 m2
            have h1 := hmin z hz
            have py := (hpos y hy).1
            rw [← z1, x3]
            exact Int.le_trans h1 (Int.mul_le_mul_of_nonneg_right z2 (by omega))
        have py := (hpos y hy).1
        have ly := hV.le
        have pq := hI.pos
        refine ⟨_, rfl, _, rfl, tf, _, _, _, rfl, rfl, SqT.of htf8, atI_nat (j := 1) rfl, _, _, rfl, rfl, .inr ⟨by omega, by omega⟩, ?_⟩
        refine ⟨_, rfl, tf, _, _, _, rfl, rfl, SqT.of htf8, atI_nat (j := 0) rfl, _, rfl, _, _, rfl, rfl, .inr ⟨by omega, by omega⟩, ?_⟩
        refine ⟨_, _, rfl, rfl, _, rfl, ?_⟩
        by_cases cc : p * y.2 < y.1 * q
        · refine iteDT cc ?_
          refine ⟨_, rfl, _, rfl, by show 2 ≤ sizeLine; decide, fun tn ntn => ?_⟩
          refine ⟨tn, y.1, y.2, _, _, _, _, _, _, rfl, s68.trans (same_upd ntn), upd_same, by omega, py, ?_, .inr ⟨u, hV⟩, fun v hv => ?_⟩
          · have : 0 ≤ p * y.2 := Int.mul_nonneg hI.nn (by omega)
            rcases Int.lt_or_le y.1 0 with z | z
            · have := Int.mul_nonneg_of_nonpos_of_nonpos (a := y.1) (b := -q) (by omega) (by omega)
              rw [Int.mul_neg] at this
              omega
            · exact z
          · rw [take_snoc hu] at hv
            rcases List.mem_append.mp hv with hv | hv
            · obtain ⟨p', q', g1, g2⟩ := hI.all v hv
              exact ⟨p', q', g1, mulI_tr pq (by omega) (by have := g1.pos; omega) g2 (by omega)⟩
            · rw [List.mem_singleton.mp hv]
              exact ⟨y.1, y.2, hV, Int.le_refl _⟩
        · refine iteDF cc ?_
          refine ⟨tf, p, q, _, _, _, _, _, _, rfl, s68, htf8, hq3, pq, hI.nn, hI.wit, fun v hv => ?_⟩
          rw [take_snoc hu] at hv
          rcases List.mem_append.mp hv with hv | hv
          · exact hI.all v hv
          · rw [List.mem_singleton.mp hv]
            exact ⟨y.1, y.2, hV, by omega⟩
    · rintro σ H5 ⟨tf, p, q, v5, v6, v7, v8, v9, v10, rfl, s5, htf, hq3, hI⟩
      rw [kvi_len, List.take_length] at hI
      have s6 := hLu s5
      have ndn : tf ≠ dn := ne_of htf (s5 _ _ hLc) (by intro z; cases z)
      have htf6 : upd H5 dn (.dK (kvi ks c)) tf = some (.tup [.int p, .int q]) := by rw [upd_ne ndn]; exact htf
      refine ⟨s5 _ _ hLc, ?_⟩
      generalize upd H5 dn (.dK (kvi ks c)) = H6 at s6 htf6 ⊢
      have pq := hI.pos
      obtain ⟨pn, rfl⟩ := Int.eq_ofNat_of_zero_le hI.nn
      obtain ⟨qn, rfl⟩ := Int.eq_ofNat_of_zero_le (Int.le_of_lt pq)
      have hRR : RateR ss pn qn := by
        refine karp o hW (by omega) ?_ fun x hx => ?_
        · rcases hI.wit with ⟨w1, w2⟩ | w1
          · exact .inl ⟨by omega, by omega⟩
          · exact .inr w1
        · exact hI.all _ (hWk.all x hx).1
      refine ⟨_, rfl, tf, _, _, _, rfl, rfl, SqT.of htf6, atI_nat (j := 0) rfl, _, rfl, tf, _, _, _, rfl, rfl, SqT.of htf6, atI_nat (j := 1) rfl, pn, qn, rfl, by omega, by omega, fun t H7 nt s7 ht => ?_⟩
      have sAll := (s1.trans s3).trans s6
      rw [Int.natAbs_natCast] at ht
      have g0 : 0 < Nat.gcd pn qn := Nat.gcd_pos_of_pos_right _ (by omega)
      have eg1 : ((pn : Nat) : Int) / ((Nat.gcd pn qn : Nat) : Int) = ((pn / Nat.gcd pn qn : Nat) : Int) := by rw [Int.natCast_ediv]
      have eg2 : ((qn : Nat) : Int) / ((Nat.gcd pn qn : Nat) : Int) = ((qn / Nat.gcd pn qn : Nat) : Int) := by rw [Int.natCast_ediv]
      rw [eg1, eg2] at ht
      refine k t _ _ H7 (sAll.free nt) (sAll.trans s7) ht ⟨?_, Nat.gcd_div_gcd_div_gcd_of_pos_right (by omega)⟩ (Nat.le_trans (Nat.div_le_self _ _) (by omega))
      refine RateR.scale (g := Nat.gcd pn qn) ?_
      rw [Nat.div_mul_cancel (Nat.gcd_dvd_left _ _), Nat.div_mul_cancel (Nat.gcd_dvd_right _ _)]
      exact hRR
end
end U

set_option maxRecDepth 100000
set_option maxHeartbeats 1000000
set_option pp.maxSteps 400
namespace U
/-! a rule with a stuff puts something in -/
theorem ins_cost {ss : List Stf} (o : OkN 39 ss) (u : List Bool) (b : Bool) : ∃ x, Ins ss (bodyF ss u ++ [b]) x ∧ bodyF ss (u ++ [b]) = bodyF ss u ++ [b] ++ x ∧ cM ss (stF ss [] u) b = x.length := by
  have hL : ∀ s ∈ ss, s.1.length ≤ longM ss := fun s hs => longM_le hs
  obtain ⟨x, hx, hl, eb⟩ := ins40 o u b
  have et : tl (longM ss) (bodyF ss u ++ [b]) = tl (longM ss) (tl (longM ss) (bodyF ss u) ++ [b]) := tl_app (tl_tl (Nat.le_refl _) _).symm [b]
  have hx2 : Ins ss (tl (longM ss) (bodyF ss u) ++ [b]) x := hx.tl hL et
  refine ⟨x, hx, eb, ?_⟩
  rw [stF_body o]
  unfold cM
  rw [hx2.itP, List.take_of_length_le (by omega), List.length_append, List.length_append]
  simp
theorem put_end {ss : List Stf} (o : OkN 39 ss) {m : List Bool} (hm : m ≠ []) : putM ss (bodyF ss m) = none := by
  rcases List.eq_nil_or_concat m with z | ⟨v, b, z⟩
  · exact absurd z hm
  · rw [List.concat_eq_append] at z
    subst z
    obtain ⟨x, hx, eb, _⟩ := ins_cost o v b
    rw [eb]
    exact hx.end
theorem flat_of {ss : List Stf} (o : OkN 39 ss) : ∀ (m u : List Bool), costM ss (stF ss [] u) m = 0 → bodyF ss (u ++ m) = bodyF ss u ++ m
  | [], u, _ => by rw [List.append_nil, List.append_nil]
  | b :: m, u, h => by
    have h' : cM ss (stF ss [] u) b + costM ss (nM ss (stF ss [] u) b) m = 0 := h
    obtain ⟨x, hx, eb, ec⟩ := ins_cost o u b
    have hx0 : x = [] := List.length_eq_zero_iff.mp (by omega)
    subst hx0
    rw [List.append_nil] at eb
    have en : nM ss (stF ss [] u) b = stF ss [] (u ++ [b]) := by rw [stF_app]; rfl
    rw [en] at h'
    have ih := flat_of o m (u ++ [b]) (by omega)
    rw [eb, List.append_assoc, List.append_assoc] at ih
    exact ih
theorem cost_pat {ss : List Stf} (o : OkN 39 ss) {p : List Bool} {b : Bool} (hs : (p, b) ∈ ss) (hp : p ≠ []) (u : List Bool) : 0 < costM ss (stF ss [] u) p := by
  refine Nat.pos_of_ne_zero fun z => ?_
  have h1 := flat_of o p u z
  have h2 := put_end o (m := u ++ p) (by intro e; exact hp (List.append_eq_nil_iff.mp e).2)
  rw [h1] at h2
  unfold putM at h2
  rw [Option.map_eq_none_iff] at h2
  have := List.find?_eq_none.mp h2 (p, b) hs
  exact this (List.isSuffixOf_iff_suffix.mpr (List.suffix_append _ _))
theorem rep_add (m : List Bool) : ∀ i k, rep m i ++ rep m k = rep m (i + k)
  | 0, k => by rw [Nat.zero_add]; rfl
  | i + 1, k => by
    rw [Nat.succ_add]
    show (m ++ rep m i) ++ rep m k = m ++ rep m (i + k)
    rw [List.append_assoc, rep_add m i k]
theorem ring_pos {ss : List Stf} (o : OkN 39 ss) {p : List Bool} {b : Bool} (hs : (p, b) ∈ ss) (hp : p ≠ []) : ∃ u m, m ≠ [] ∧ stF ss (stF ss [] u) m = stF ss [] u ∧ 0 < costM ss (stF ss [] u) m := by
  refine Classical.byContradiction fun hn => ?_
  have nd : ((List.range ((allW (longM ss)).length + 1)).map fun i => stF ss [] (rep p i)).Nodup := by
    rw [List.nodup_iff_pairwise_ne, List.pairwise_map]
    refine List.Pairwise.imp_of_mem ?_ List.pairwise_lt_range
    intro i j hi hj hij e
    obtain ⟨k, rfl⟩ : ∃ k, j = i + (k + 1) := ⟨j - i - 1, by omega⟩
    rw [← rep_add, stF_app] at e
    refine hn ⟨rep p i, rep p (k + 1), ?_, e.symm, ?_⟩
    · intro z
      exact hp (List.append_eq_nil_iff.mp (show p ++ rep p k = [] from z)).1
    · show 0 < costM ss _ (p ++ rep p k)
      rw [cost_app]
      have := cost_pat o hs hp (rep p i)
      omega
  have := nodup_le nd fun x hx => by
    obtain ⟨i, _, rfl⟩ := List.mem_map.mp hx
    rw [stF_body o]
    exact mem_allW (tl_le _ _)
  rw [List.length_map, List.length_range] at this
  omega
theorem rate_pos {ss : List Stf} (o : OkN 39 ss) {p : List Bool} {b : Bool} (hs : (p, b) ∈ ss) (hp : p ≠ []) {r q : Nat} (h : RateR ss r q) : 0 < r := by
  obtain ⟨u, m, hm, hr, hc⟩ := ring_pos o hs hp
  have h1 := h.le u m hm hr
  refine Nat.pos_of_ne_zero fun z => ?_
  rw [z, Nat.zero_mul] at h1
  have := Nat.mul_pos hc h.pos
  omega
end U

set_option maxRecDepth 100000
set_option maxHeartbeats 1000000
set_option pp.maxSteps 400
namespace U
/-! with two stuffs at most three bits are put in at a time -/
theorem suf_rep {p m w : List Bool} (h1 : p <:+ m) (h2 : p <:+ m ++ w) : p <:+ m ++ w ++ w := by
  by_cases c : p.length ≤ w.length
  · have : p <:+ w := List.suffix_of_suffix_length_le h2 (List.suffix_append _ _) c
    exact this.trans (List.suffix_append _ _)
  · obtain ⟨p', rfl⟩ : w <:+ p := List.suffix_of_suffix_length_le (List.suffix_append _ _) h2 (by omega)
    have h3 : p' <:+ m := (List.suffix_append_self_iff.mp h2)
    have h4 : p' <:+ p' ++ w := List.suffix_of_suffix_length_le h3 h1 (by rw [List.length_append]; omega)
    exact List.suffix_append_self_iff.mpr (h4.trans h2)
/-- two stuffs by turns -/
theorem turns {ss : List Stf} (sf : SufFree ss) {l x : List Bool} (h : Ins ss l x) : ∀ {P Q : List Bool} {b c : Bool}, (P, b) ∈ ss → (Q, c) ∈ ss → P <:+ l → Q <:+ l ++ [b] → P <:+ l ++ [b, c] → Q <:+ l ++ [b] ++ [c, b] → False := by
  induction h with
  | stop h0 =>
    intro P Q b c hP hQ h1 h2 h3 h4
    have := (put_iff sf).mpr ⟨P, hP, h1⟩
    rw [h0] at this
    cases this
  | @more l x b' h0 _ ih =>
    intro P Q b c hP hQ h1 h2 h3 h4
    have := (put_iff sf).mpr ⟨P, hP, h1⟩
    rw [h0] at this
    cases this
    exact ih hQ hP h2 (by rw [List.append_assoc]; exact h3) h4 (by
      have := suf_rep h1 h3
      rw [List.append_assoc] at this
      rw [List.append_assoc, List.append_assoc]
      exact this)
theorem chain3 {ss : List Stf} (sf : SufFree ss) (h2 : ss.length ≤ 2) {l x : List Bool} (h : Ins ss l x) : x.length ≤ 3 := by
  refine Classical.byContradiction fun hn => ?_
  have key : ∀ i, (hi : i < x.length) → ∃ p, (p, x[i]) ∈ ss ∧ p <:+ l ++ x.take i := fun i hi => (put_iff sf).mp (h.at (List.getElem?_eq_getElem hi))
  match x, h, key, hn with
  | a :: b :: c :: d :: r, h, key, _ =>
    obtain ⟨p0, m0, s0⟩ := key 0 (by simp)
    obtain ⟨p1, m1, s1⟩ := key 1 (by simp)
    obtain ⟨p2, m2, s2⟩ := key 2 (by simp)
    obtain ⟨p3, m3, s3⟩ := key 3 (by simp)
    have m0 : (p0, a) ∈ ss := m0
    have m1 : (p1, b) ∈ ss := m1
    have m2 : (p2, c) ∈ ss := m2
    have m3 : (p3, d) ∈ ss := m3
    have t0 : p0 <:+ l ++ [] := s0
    have s1 : p1 <:+ l ++ [a] := s1
    have s2 : p2 <:+ l ++ [a, b] := s2
    have s3 : p3 <:+ l ++ [a, b, c] := s3
    rw [List.append_nil] at t0
    have same : ∀ {l : List Bool} {p : List Bool} {b : Bool} {y : List Bool}, Ins ss l y → (p, b) ∈ ss → p <:+ l → p <:+ l ++ [b] → False := fun {l p b y} hy hm g1 g2 => by
      have g3 := suf_rep g1 g2
      have g4 := suf_rep g2 g3
      rw [List.append_assoc] at g3
      exact turns sf hy hm hm g1 g2 g3 (by rw [List.append_assoc] at g4; exact g4)
    have two : ∀ {x y z : Stf}, x ∈ ss → y ∈ ss → z ∈ ss → x ≠ y → y ≠ z → x = z := fun {x y z} hx hy hz n1 n2 => by
      match ss, h2, hx, hy, hz with
      | [], _, hx, _, _ => cases hx
      | [s], _, hx, hy, _ => exact absurd ((List.mem_singleton.mp hx).trans (List.mem_singleton.mp hy).symm) n1
      | [s, t], _, hx, hy, hz =>
        simp only [List.mem_cons, List.not_mem_nil, or_false] at hx hy hz
        rcases hx with rfl | rfl <;> rcases hy with rfl | rfl <;> rcases hz with rfl | rfl <;> first | rfl | exact absurd rfl n1 | exact absurd rfl n2
    have i0 := h
    have i1 := h.drop (i := 1) (by simp)
    have i2 := h.drop (i := 2) (by simp)
    have i1 : Ins ss (l ++ [a]) (b :: c :: d :: r) := i1
    have i2 : Ins ss (l ++ [a, b]) (c :: d :: r) := i2
    by_cases c0 : (p0, a) = (p1, b)
    · cases c0
      exact same i0 m0 t0 s1
    by_cases c1 : (p1, b) = (p2, c)
    · cases c1
      exact same i1 m1 s1 (by rw [List.append_assoc]; exact s2)
    by_cases c2 : (p2, c) = (p3, d)
    · cases c2
      exact same i2 m2 s2 (by rw [List.append_assoc]; exact s3)
    have e1 := two m0 m1 m2 c0 c1
    have e2 := two m1 m2 m3 c1 c2
    cases e1
    cases e2
    exact turns sf h m0 m1 t0 s1 s2 (by rw [List.append_assoc]; exact s3)
  | [], _, _, hn => exact hn (by simp)
  | [_], _, _, hn => exact hn (by simp)
  | [_, _], _, _, hn => exact hn (by simp)
  | [_, _, _], _, _, hn => exact hn (by simp)
theorem cM_le3 {ss : List Stf} (o : OkN 39 ss) (sf : SufFree ss) (h2 : ss.length ≤ 2) (u : List Bool) (b : Bool) : cM ss (stF ss [] u) b ≤ 3 := by
  obtain ⟨x, hx, _, e⟩ := ins_cost o u b
  rw [e]
  exact chain3 sf h2 hx
theorem cost_le3 {ss : List Stf} (o : OkN 39 ss) (sf : SufFree ss) (h2 : ss.length ≤ 2) : ∀ (m u : List Bool), costM ss (stF ss [] u) m ≤ 3 * m.length
  | [], _ => Nat.zero_le _
  | b :: m, u => by
    have h1 := cM_le3 o sf h2 u b
    have h3 := cost_le3 o sf h2 m (u ++ [b])
    rw [stF_app] at h3
    show cM ss (stF ss [] u) b + costM ss (nM ss (stF ss [] u) b) m ≤ 3 * (m.length + 1)
    have h3 : costM ss (nM ss (stF ss [] u) b) m ≤ 3 * m.length := h3
    omega
theorem rate_le3 {ss : List Stf} (o : OkN 39 ss) (sf : SufFree ss) (h2 : ss.length ≤ 2) {p q : Nat} (h : RateR ss p q) : p ≤ 3 * q := by
  obtain ⟨u, m, hm, _, e⟩ := h.eq
  have h1 := cost_le3 o sf h2 m u
  have l0 : 0 < m.length := List.length_pos_iff.mpr hm
  refine Nat.le_of_mul_le_mul_right (c := m.length) ?_ l0
  rw [← e]
  calc costM ss (stF ss [] u) m * q ≤ 3 * m.length * q := Nat.mul_le_mul_right _ h1
    _ = 3 * q * m.length := Nat.mul_right_comm _ _ _
/-- a best ring that is reached soon -/
def Best (ss : List Stf) (p q : Nat) (u m : List Bool) : Prop := m ≠ [] ∧ stF ss (stF ss [] u) m = stF ss [] u ∧ costM ss (stF ss [] u) m * q = p * m.length
theorem soon {ss : List Stf} {ws : List (List Bool)} (hW : Mvs ss ws) {p q : Nat} (h : RateR ss p q) : ∃ u m, Best ss p q u m ∧ u.length + m.length ≤ ws.length := by
  have key : ∀ n (u m : List Bool), u.length + m.length ≤ n → Best ss p q u m → ∃ u m, Best ss p q u m ∧ u.length + m.length ≤ ws.length := fun n => by
    induction n with
    | zero =>
      intro u m hn hb
      have := List.length_pos_iff.mpr hb.1
      omega
    | succ n ih =>
      intro u m hn ⟨hm, hr, hc⟩
      by_cases c : u.length + m.length ≤ ws.length
      · exact ⟨u, m, ⟨hm, hr, hc⟩, c⟩
      · -- two standings are the same
        refine Classical.byContradiction fun hno => ?_
        have no : ∀ u' m', u'.length + m'.length ≤ n → ¬ Best ss p q u' m' := fun u' m' h1 h2 => hno (ih u' m' h1 h2)
        have nd : ((List.range (u.length + m.length)).map fun i => stF ss [] ((u ++ m).take i)).Nodup := by
          rw [List.nodup_iff_pairwise_ne, List.pairwise_map]
          refine List.Pairwise.imp_of_mem ?_ List.pairwise_lt_range
          intro i j hi hj hij e
          have hj' := List.mem_range.mp hj
          by_cases cj : j ≤ u.length
          · rw [List.take_append_of_le_length (by omega), List.take_append_of_le_length cj] at e
            have e2 : stF ss [] (u.take i ++ u.drop j) = stF ss [] u := by
              rw [stF_app, e, ← stF_app, List.take_append_drop]
            refine no (u.take i ++ u.drop j) m (by rw [List.length_append, List.length_take, List.length_drop]; omega) ⟨hm, ?_, ?_⟩
            · rw [e2]; exact hr
            · rw [e2]; exact hc
          · obtain ⟨j', rfl⟩ : ∃ j', j = u.length + j' := ⟨j - u.length, by omega⟩
            have ej : (u ++ m).take (u.length + j') = u ++ m.take j' := by rw [List.take_append, List.take_of_length_le (by omega)]; congr 2; omega
            rw [ej, stF_app] at e
            have hmj : m = m.take j' ++ m.drop j' := (List.take_append_drop _ _).symm
            have hcn : m.drop j' ≠ [] := fun z => by
              have := congrArg List.length z
              rw [List.length_drop] at this
              simp at this
              omega
            by_cases ci : i < u.length
            · rw [List.take_append_of_le_length (by omega)] at e
              have hr1 : stF ss (stF ss (stF ss [] u) (m.take j')) (m.drop j') = stF ss [] u := by rw [← stF_app, ← hmj]; exact hr
              refine no (u.take i) (m.drop j' ++ m.take j') (by rw [List.length_append, List.length_take, List.length_drop, List.length_take]; omega) ⟨fun z => hcn (List.append_eq_nil_iff.mp z).1, ?_, ?_⟩
              · rw [e, stF_app, hr1]
              · rw [e, cost_app, hr1]
                have h3 : costM ss (stF ss [] u) m = costM ss (stF ss [] u) (m.take j') + costM ss (stF ss (stF ss [] u) (m.take j')) (m.drop j') := by rw [← cost_app, ← hmj]
                rw [show (m.drop j' ++ m.take j').length = m.length by rw [List.length_append, List.length_drop, List.length_take]; omega, ← hc, h3, Nat.add_comm]
            · obtain ⟨i', rfl⟩ : ∃ i', i = u.length + i' := ⟨i - u.length, by omega⟩
              have ei : (u ++ m).take (u.length + i') = u ++ m.take i' := by rw [List.take_append, List.take_of_length_le (by omega)]; congr 2; omega
              rw [ei, stF_app] at e
              have e1 : m.take i' ++ (m.take j').drop i' = m.take j' := by
                have := List.take_append_drop i' (m.take j')
                rw [List.take_take, Nat.min_eq_left (by omega)] at this
                exact this
              generalize hA : m.take i' = A at e e1
              generalize hB : (m.take j').drop i' = B at e1
              generalize hC : m.drop j' = C at hmj hcn
              have lB : B.length = j' - i' := by rw [← hB, List.length_drop, List.length_take]; omega
              have lA : A.length = i' := by rw [← hA, List.length_take]; omega
              rw [← e1] at hmj e
              have lm := congrArg List.length hmj
              rw [List.length_append, List.length_append] at lm
              have lC : 0 < C.length := List.length_pos_iff.mpr hcn
              have hB0 : B ≠ [] := fun z => by rw [z] at lB; simp at lB; omega
              have hAB : stF ss (stF ss (stF ss [] u) A) B = stF ss (stF ss [] u) A := by rw [← stF_app]; exact e.symm
              have hAC : stF ss (stF ss (stF ss [] u) A) C = stF ss [] u := by
                have := hr
                rw [hmj, stF_app, ← e] at this
                exact this
              have r1 := h.le u (A ++ C) (fun z => hcn (List.append_eq_nil_iff.mp z).2) (by rw [stF_app]; exact hAC)
              have r2 := h.le (u ++ A) B hB0 (by rw [stF_app]; exact hAB)
              rw [stF_app] at r2
              have hcost : costM ss (stF ss [] u) m = costM ss (stF ss [] u) (A ++ C) + costM ss (stF ss (stF ss [] u) A) B := by
                rw [hmj, cost_app, cost_app, cost_app, ← e]
                omega
              have hlen : p * m.length = p * (A ++ C).length + p * B.length := by
                rw [← Nat.mul_add, List.length_append]
                congr 1
                omega
              rw [hcost, hlen, Nat.add_mul] at hc
              refine no (u ++ A) B (by rw [List.length_append]; omega) ⟨hB0, by rw [stF_app]; exact hAB, ?_⟩
              rw [stF_app]
              omega
        have := nodup_le nd fun x hx => by
          obtain ⟨i, _, rfl⟩ := List.mem_map.mp hx
          exact stF_in hW hW.nil
        rw [List.length_map, List.length_range] at this
        omega
  obtain ⟨u, m, hb⟩ := h.eq
  exact key _ u m (Nat.le_refl _) hb
theorem rep_cost {ss : List Stf} {w m : List Bool} (h : stF ss w m = w) : ∀ k : Nat, costM ss w (rep m k) = k * costM ss w m
  | 0 => by rw [Nat.zero_mul]; rfl
  | k + 1 => by
    show costM ss w (m ++ rep m k) = _
    rw [cost_app, h, rep_cost h k, Nat.succ_mul, Nat.add_comm]
theorem most_low {ss : List Stf} {ws : List (List Bool)} (o : OkN 39 ss) (sf : SufFree ss) (h2 : ss.length ≤ 2) (hW : Mvs ss ws) (hN : ws.length ≤ 31) {p q : Nat} (h : RateR ss p q) : p * 300 ≤ bstM ss 300 [] * q + 120 * q := by
  obtain ⟨u, m, ⟨hm, hr, hc⟩, hl⟩ := soon hW h
  have l0 : 0 < m.length := List.length_pos_iff.mpr hm
  have r3 := rate_le3 o sf h2 h
  have hdiv := Nat.div_add_mod (300 - u.length) m.length
  have hmod := Nat.mod_lt (300 - u.length) l0
  generalize (300 - u.length) / m.length = k at hdiv
  generalize (300 - u.length) % m.length = r at hdiv hmod
  have hb := cost_le (ss := ss) (m := u ++ rep m k ++ List.replicate r false) (t := [])
  have hlen : (u ++ rep m k ++ List.replicate r false).length = 300 := by
    rw [List.length_append, List.length_append, rep_len, List.length_replicate, Nat.mul_comm k]
    omega
  rw [hlen, cost_app, cost_app, rep_cost hr] at hb
  have h4 : k * costM ss (stF ss [] u) m * q = p * (m.length * k) := by
    rw [Nat.mul_assoc, hc, Nat.mul_comm k, Nat.mul_assoc]
  have h5 : k * costM ss (stF ss [] u) m * q ≤ bstM ss 300 [] * q := Nat.mul_le_mul_right _ (by omega)
  have h6 : 300 ≤ m.length * k + 30 := by omega
  calc p * 300 ≤ p * (m.length * k + 30) := Nat.mul_le_mul_left _ h6
    _ = p * (m.length * k) + p * 30 := Nat.mul_add _ _ _
    _ ≤ bstM ss 300 [] * q + 120 * q := by
      have : p * 30 ≤ 3 * q * 30 := Nat.mul_le_mul_right _ r3
      omega
end U

set_option maxRecDepth 100000
set_option maxHeartbeats 1000000
set_option pp.maxSteps 400
namespace U
/-! bits exchanged: rates, clean rules -/
theorem long_sw (ss : List Stf) : longM (ss.map swS) = longM ss := by
  induction ss with
  | nil => rfl
  | cons s r ih =>
    show max (sw s.1).length (longM (r.map swS)) = max s.1.length (longM r)
    rw [sw_len, ih]
theorem stF_sw {ss : List Stf} (o : OkN 39 ss) (u : List Bool) : stF (ss.map swS) [] (sw u) = sw (stF ss [] u) := by
  rw [stF_body o.sw, stF_body o, long_sw, bodyF_sw o, sw_tl]
theorem cost_len {ss : List Stf} (o : OkN 39 ss) (u m : List Bool) : (bodyF ss (u ++ m)).length = (bodyF ss u).length + m.length + costM ss (stF ss [] u) m := by
  rw [stF_body o]
  exact body_cost o m u
theorem cost_sw {ss : List Stf} (o : OkN 39 ss) (u m : List Bool) : costM (ss.map swS) (stF (ss.map swS) [] (sw u)) (sw m) = costM ss (stF ss [] u) m := by
  have h1 := cost_len o u m
  have h2 := cost_len o.sw (sw u) (sw m)
  rw [← sw_app, bodyF_sw o, bodyF_sw o, sw_len, sw_len, sw_len] at h2
  omega
theorem RateR.sw1 {ss : List Stf} (o : OkN 39 ss) {p q : Nat} (h : RateR ss p q) : RateR (ss.map swS) p q := by
  refine ⟨h.pos, fun u m hm hr => ?_, ?_⟩
  · have e1 : costM (ss.map swS) (stF (ss.map swS) [] u) m = costM ss (stF ss [] (sw u)) (sw m) := by
      have := cost_sw o (sw u) (sw m)
      rw [sw_sw, sw_sw] at this
      exact this
    have e2 : stF ss [] (sw u ++ sw m) = stF ss [] (sw u) := by
      have h1 := stF_sw o (sw u ++ sw m)
      have h2 := stF_sw o (sw u)
      rw [sw_app, sw_sw, sw_sw, stF_app, hr] at h1
      rw [sw_sw] at h2
      exact sw_inj (h1.symm.trans h2)
    rw [e1, ← sw_len m]
    exact h.le (sw u) (sw m) (fun z => hm (by have := congrArg sw z; rw [sw_sw] at this; exact this)) (by rw [← stF_app, e2])
  · obtain ⟨u, m, hm, hr, e⟩ := h.eq
    refine ⟨sw u, sw m, fun z => hm (by have := congrArg sw z; rw [sw_sw] at this; exact this), ?_, ?_⟩
    · rw [← stF_app, ← sw_app, stF_sw o, stF_sw o, stF_app, hr]
    · rw [cost_sw o, sw_len]; exact e
theorem itP_perm {ss ts : List Stf} (hp : ∀ l, putM ss l = putM ts l) : ∀ (n : Nat) (l : List Bool), itP ss n l = itP ts n l
  | 0, _ => rfl
  | n + 1, l => by
    show itP ss n (stP ss l) = itP ts n (stP ts l)
    have e : stP ss l = stP ts l := by unfold stP; rw [hp]
    rw [e, itP_perm hp n]
theorem nM_perm {ss ts : List Stf} (hp : ∀ l, putM ss l = putM ts l) (hl : longM ss = longM ts) : nM ss = nM ts := by
  funext t b
  unfold nM
  rw [hl, itP_perm hp]
theorem cM_perm {ss ts : List Stf} (hp : ∀ l, putM ss l = putM ts l) : cM ss = cM ts := by
  funext t b
  unfold cM
  rw [itP_perm hp]
theorem stF_perm {ss ts : List Stf} (hp : ∀ l, putM ss l = putM ts l) (hl : longM ss = longM ts) : stF ss = stF ts := by
  funext t m
  unfold stF
  rw [nM_perm hp hl]
theorem costM_perm {ss ts : List Stf} (hp : ∀ l, putM ss l = putM ts l) (hl : longM ss = longM ts) : ∀ (m t : List Bool), costM ss t m = costM ts t m
  | [], _ => rfl
  | b :: m, t => by
    show cM ss t b + costM ss (nM ss t b) m = cM ts t b + costM ts (nM ts t b) m
    rw [cM_perm hp, nM_perm hp hl, costM_perm hp hl m]
theorem RateR.perm {ss ts : List Stf} (hp : ∀ l, putM ss l = putM ts l) (hl : longM ss = longM ts) {p q : Nat} (h : RateR ss p q) : RateR ts p q := by
  have e1 := stF_perm hp hl
  refine ⟨h.pos, fun u m hm hr => ?_, ?_⟩
  · rw [← e1] at hr ⊢
    rw [← costM_perm hp hl]
    exact h.le u m hm hr
  · obtain ⟨u, m, hm, hr, e⟩ := h.eq
    exact ⟨u, m, hm, by rw [← e1]; exact hr, by rw [← e1, ← costM_perm hp hl]; exact e⟩
end U

set_option maxRecDepth 100000
set_option maxHeartbeats 4000000
/-! sorted of texts, any length -/
namespace SrtS
open PySem PySem.Spec PyProof.Rows L2
def rSortedSA (K : PySem.W.Frag) : List V → Hp → VK → Prop := fun vs H Q => ∃ (a : Addr) (xs : List Str), vs = [V.ref a] ∧ SqL K H a (xs.map V.str) ∧ xs.length ≤ sizeLine ∧
  ∀ (ys : List Str) (p : Addr), ys.Perm xs → sortedS ys = true → H p = none → Q (.ref p) (upd H p (.lst (ys.map V.str)))
theorem cr_sortedSA {X : Cx} : CallR X (.builtin "sorted") (rSortedSA X.K) := by
  intro pins s σ H vs us Q I r h
  obtain ⟨a, xs, rfl, hs, h64, q⟩ := h
  obtain ⟨its, rv, hl, _⟩ := I.list hs
  rw [Vals.ref1 r]
  have hlen0 := rv.length
  rw [List.length_map] at hlen0
  refine PyProof.Rows.sorted_strsAny hl.isList rv.strs (by rw [← hlen0]; exact h64) fun out ys h1 h2 h3 => ?_
  obtain ⟨ep, he'⟩ := PyProof.Rows.sortedAll_at s.heap its out
  have hlen : (ys.map V.str).length ≤ sizeLine := by rw [List.length_map, h2.length_eq]; exact h64
  exact ⟨.ref _, upd H (s.heap.objs.size + 1) (.lst (ys.map V.str)), I.laid (t' := s.toks) (fun _ _ => PyProof.Rows.sortedAll_old) (Nat.le_succ _) ⟨hlen, out.toList, ep, vals_of_strs h1, he'⟩, rfl, q ys _ h2 h3 (I.hok.fresh (Nat.le_succ _))⟩
end SrtS

set_option maxRecDepth 100000
set_option maxHeartbeats 400000
/-! a sorted row of texts is one -/
namespace U
open PySem PySem.Spec PyProof.Rows
theorem ltCps_iff : ∀ {a b : List Nat}, ltCps a b = true ↔ a < b
  | [], [] => by simp [ltCps]
  | [], _ :: _ => by simp [ltCps]
  | _ :: _, [] => by simp [ltCps]
  | a :: r, b :: t => by
    unfold ltCps
    rw [Bool.or_eq_true, Bool.and_eq_true, decide_eq_true_iff, beq_iff_eq, ltCps_iff (a := r) (b := t), List.cons_lt_cons_iff]
theorem rising_le : ∀ {l : List Str} {p : Str}, risingS p l = true → (p :: l).Pairwise fun a b => a.cps.toList ≤ b.cps.toList
  | [], p, _ => List.pairwise_singleton _ _
  | x :: r, p, h => by
    have h' : (!ltCps x.cps.toList p.cps.toList && risingS x r) = true := h
    rw [Bool.and_eq_true, Bool.not_eq_true'] at h'
    have ih := rising_le h'.2
    have hx : p.cps.toList ≤ x.cps.toList := List.not_lt.mp fun z => by rw [ltCps_iff.mpr z] at h'; cases h'.1
    refine List.pairwise_cons.mpr ⟨fun y hy => ?_, ih⟩
    rcases List.mem_cons.mp hy with rfl | hy
    · exact hx
    · exact List.le_trans hx ((List.pairwise_cons.mp ih).1 y hy)
theorem sorted_le : ∀ {l : List Str}, sortedS l = true → l.Pairwise fun a b => a.cps.toList ≤ b.cps.toList
  | [], _ => List.Pairwise.nil
  | _ :: _, h => rising_le h
theorem le_one : ∀ {ss ts : List Str}, ss.Perm ts → (ss.Pairwise fun a b => a.cps.toList ≤ b.cps.toList) → (ts.Pairwise fun a b => a.cps.toList ≤ b.cps.toList) → ss = ts
  | [], ts, p, _, _ => (List.Perm.nil_eq p)
  | a :: l, [], p, _, _ => absurd (List.Perm.eq_nil p) (List.cons_ne_nil _ _)
  | a :: l, b :: m, p, h1, h2 => by
    obtain ⟨a1, a2⟩ := List.pairwise_cons.mp h1
    obtain ⟨b1, b2⟩ := List.pairwise_cons.mp h2
    have e : a = b := by
      rcases List.mem_cons.mp (p.mem_iff.mp (List.mem_cons_self (a := a) (l := l))) with z | z
      · exact z
      · rcases List.mem_cons.mp (p.mem_iff.mpr (List.mem_cons_self (a := b) (l := m))) with y | y
        · exact y.symm
        · have e := List.le_antisymm (a1 b y) (b1 a z)
          cases a; cases b
          congr 1
          exact Array.ext' e
    subst e
    rw [le_one (List.Perm.cons_inv p) a2 b2]
theorem sortedS_one {ss ts : List Str} (p : ss.Perm ts) (h1 : sortedS ss = true) (h2 : sortedS ts = true) : ss = ts := le_one p (sorted_le h1) (sorted_le h2)
end U

set_option maxRecDepth 100000
set_option maxHeartbeats 1000000
set_option pp.maxSteps 400
namespace U
/-! papers: heights of standings -/
theorem exc_one {ss : List Stf} {p q : Int} (t : List Bool) (b : Bool) : exc ss p q t [b] = (cM ss t b : Nat) * q - p := by
  unfold exc
  have e : costM ss t [b] = cM ss t b := by show cM ss t b + 0 = _; omega
  rw [e, Int.mul_comm]
  show _ - p * ((1 : Nat) : Int) = _
  rw [Int.natCast_one, Int.mul_one]
theorem NoPos.of_rate {ss : List Stf} {ws : List (List Bool)} (o : OkN 39 ss) (h : Mvs ss ws) {r s : Nat} (hR : RateR ss r s) {p q : Int} (hq : 0 ≤ q) (hle : (r : Int) * q ≤ p * s) : NoPos ss ws p q := fun w hw m hm e => by
  obtain ⟨u, rfl⟩ := reach_of o h hw
  have h1 := hR.le u m hm e
  have sp := hR.pos
  have h2 : ((costM ss (stF ss [] u) m : Nat) : Int) * s ≤ (r : Int) * (m.length : Nat) := by
    rw [← Int.natCast_mul, ← Int.natCast_mul]; exact Int.ofNat_le.mpr h1
  unfold exc
  generalize ((costM ss (stF ss [] u) m : Nat) : Int) = c2 at h2 ⊢
  have hl : (0 : Int) ≤ (m.length : Nat) := Int.natCast_nonneg _
  have hs : (0 : Int) < (s : Nat) := by omega
  have key := mulI_tr (a := c2) (b := (m.length : Nat)) (c := r) (d := s) (e := p) (f := q) hs hq hl h2 hle
  rw [Int.mul_comm q c2]
  omega
/-- heights on the way -/
structure BfD (ss : List Stf) (ws : List (List Bool)) (p q : Int) (k : Nat) (Dn : List Bool → Bool → Prop) (h : List Bool → Int) : Prop where
  wit : ∀ v ∈ ws, ∃ u ∈ ws, ∃ m, stF ss u m = v ∧ h v = exc ss p q u m
  all : ∀ u ∈ ws, ∀ m : List Bool, m.length ≤ k → exc ss p q u m ≤ h (stF ss u m)
  nxt : ∀ u ∈ ws, ∀ (m : List Bool) (b : Bool), m.length ≤ k → Dn (stF ss u m) b → exc ss p q u (m ++ [b]) ≤ h (nM ss (stF ss u m) b)
theorem BfD.start {ss : List Stf} {ws : List (List Bool)} {p q : Int} : BfD ss ws p q 0 (fun _ _ => False) (fun _ => 0) := ⟨fun v hv => ⟨v, hv, [], rfl, (exc_nil v).symm⟩,
  fun u _ m hm => by
    rw [List.length_eq_zero_iff.mp (Nat.le_zero.mp hm), exc_nil]
    exact Int.le_refl _, fun _ _ _ _ _ h => h.elim⟩
theorem BfD.congr {ss : List Stf} {ws : List (List Bool)} {p q : Int} {k : Nat} {D E : List Bool → Bool → Prop} {h : List Bool → Int} (H : BfD ss ws p q k D h) (e : ∀ x ∈ ws, ∀ y, E x y → D x y) (hM : Mvs ss ws) : BfD ss ws p q k E h :=
  ⟨H.wit, H.all, fun u hu m b hm hd => H.nxt u hu m b hm (e _ (stF_in hM hu) _ hd)⟩
def rlx (ss : List Stf) (p q : Int) (w : List Bool) (b : Bool) (h : List Bool → Int) : List Bool → Int := ug h (nM ss w b) (max (h (nM ss w b)) (h w + (cM ss w b : Nat) * q - p))
theorem rlx_le {ss : List Stf} {p q : Int} {w : List Bool} {b : Bool} {h : List Bool → Int} (u : List Bool) : h u ≤ rlx ss p q w b h u := by
  unfold rlx
  by_cases c : u = nM ss w b
  · rw [c, ug_same]; omega
  · rw [ug_ne c]; exact Int.le_refl _
theorem stF_one {ss : List Stf} {u m : List Bool} {b : Bool} : stF ss u (m ++ [b]) = nM ss (stF ss u m) b := by rw [stF_app]; rfl
theorem exc_snoc {ss : List Stf} {p q : Int} {u m : List Bool} {b : Bool} : exc ss p q u (m ++ [b]) = exc ss p q u m + ((cM ss (stF ss u m) b : Nat) * q - p) := by rw [exc_app, exc_one]
theorem BfD.step {ss : List Stf} {ws : List (List Bool)} {p q : Int} {k : Nat} {D : List Bool → Bool → Prop} {h : List Bool → Int} (H : BfD ss ws p q k D h) (w : List Bool) (hw : w ∈ ws) (b : Bool) : BfD ss ws p q k (fun x y => D x y ∨ (x = w ∧ y = b)) (rlx ss p q w b h) := by
  refine ⟨fun v hv => ?_, fun u hu m hm => Int.le_trans (H.all u hu m hm) (rlx_le _), fun u hu m c hm hd => ?_⟩
  · by_cases c : v = nM ss w b
    · by_cases d : h (nM ss w b) ≤ h w + (cM ss w b : Nat) * q - p
      · obtain ⟨u, hu, m, e1, e2⟩ := H.wit w hw
        refine ⟨u, hu, m ++ [b], by rw [stF_one, e1, c], ?_⟩
        rw [exc_snoc, e1, c]
        unfold rlx
        rw [ug_same, ← e2]
        omega
      · obtain ⟨u, hu, m, e1, e2⟩ := H.wit v hv
        refine ⟨u, hu, m, e1, ?_⟩
        rw [← e2, c]
        unfold rlx
        rw [ug_same]
        omega
    · obtain ⟨u, hu, m, e1, e2⟩ := H.wit v hv
      refine ⟨u, hu, m, e1, ?_⟩
      rw [← e2]
      exact ug_ne c
  · rcases hd with hd | ⟨h1, rfl⟩
    · exact Int.le_trans (H.nxt u hu m c hm hd) (rlx_le _)
    · have := H.all u hu m hm
      rw [exc_snoc, h1]
      rw [h1] at this
      unfold rlx
      rw [ug_same]
      omega
theorem BfD.round {ss : List Stf} {ws : List (List Bool)} {p q : Int} {k : Nat} {D : List Bool → Bool → Prop} {h : List Bool → Int} (hM : Mvs ss ws) (H : BfD ss ws p q k D h) (hD : ∀ x ∈ ws, ∀ y, D x y) : BfD ss ws p q (k + 1) (fun _ _ => False) h := by
  refine ⟨H.wit, fun u hu m hm => ?_, fun _ _ _ _ _ z => z.elim⟩
  by_cases c : m.length ≤ k
  · exact H.all u hu m c
  · rcases List.eq_nil_or_concat m with z | ⟨v, b, z⟩
    · rw [z] at c; exact absurd (Nat.zero_le _) c
    · rw [List.concat_eq_append] at z
      subst z
      rw [List.length_append] at hm
      have hv : v.length ≤ k := by simpa using hm
      rw [stF_one]
      exact H.nxt u hu v b hv (hD _ (stF_in hM hu) _)
/-- a right paper -/
def RightH (ss : List Stf) (ws : List (List Bool)) (p q : Int) (h : List Bool → Int) : Prop := ∀ w ∈ ws, ∀ b, h w + (cM ss w b : Nat) * q - p ≤ h (nM ss w b)
theorem BfD.right {ss : List Stf} {ws : List (List Bool)} {p q : Int} {k : Nat} {D : List Bool → Bool → Prop} {h : List Bool → Int} (hM : Mvs ss ws) (np : NoPos ss ws p q) (H : BfD ss ws p q k D h) (hk : ws.length ≤ k + 1) : RightH ss ws p q h := fun w hw b => by
  obtain ⟨u, hu, m, e1, e2⟩ := H.wit w hw
  obtain ⟨m', h1, h2, h3⟩ := dom hM np hu (m.length + 1) (m ++ [b]) (by simp)
  have h4 := H.all u hu m' (by omega)
  rw [h2, stF_one, e1] at h4
  rw [exc_snoc, e1, ← e2] at h3
  omega
/-- fractions of heights, in lowest terms -/
def hP (h : List Bool → Int) (q : Nat) (w : List Bool) : Int := h w / (Nat.gcd (h w).natAbs q : Nat)
def hQ (h : List Bool → Int) (q : Nat) (w : List Bool) : Int := (q : Int) / (Nat.gcd (h w).natAbs q : Nat)
theorem hPQ {h : List Bool → Int} {q : Nat} (q0 : 0 < q) (w : List Bool) : ∃ g : Nat, 0 < g ∧ h w = hP h q w * g ∧ (q : Int) = hQ h q w * g ∧ 0 < hQ h q w ∧ Nat.gcd (hP h q w).natAbs (hQ h q w).natAbs = 1 ∧ hQ h q w ≤ q := by
  have g0 : 0 < Nat.gcd (h w).natAbs q := Nat.gcd_pos_of_pos_right _ q0
  have d1 : ((Nat.gcd (h w).natAbs q : Nat) : Int) ∣ h w := Int.natAbs_dvd_natAbs.mp (by rw [Int.natAbs_natCast]; exact Nat.gcd_dvd_left _ _)
  have d2 : ((Nat.gcd (h w).natAbs q : Nat) : Int) ∣ (q : Int) := Int.natCast_dvd_natCast.mpr (Nat.gcd_dvd_right _ _)
  have e1 : h w = hP h q w * (Nat.gcd (h w).natAbs q : Nat) := (Int.ediv_mul_cancel d1).symm
  have e2 : (q : Int) = hQ h q w * (Nat.gcd (h w).natAbs q : Nat) := (Int.ediv_mul_cancel d2).symm
  have e3 : hQ h q w = ((q / Nat.gcd (h w).natAbs q : Nat) : Int) := (Int.natCast_ediv _ _).symm
  have e4 : (hP h q w).natAbs = (h w).natAbs / Nat.gcd (h w).natAbs q := by
    unfold hP
    rw [Int.natAbs_ediv_of_dvd d1]
    rfl
  refine ⟨_, g0, e1, e2, ?_, ?_, ?_⟩
  · rw [e3]
    have := Nat.div_pos (Nat.gcd_le_right (h w).natAbs q0) g0
    omega
  · rw [e4, e3]
    exact Nat.gcd_div_gcd_div_gcd_of_pos_right q0
  · rw [e3]
    have := Nat.div_le_self q (Nat.gcd (h w).natAbs q)
    omega
/-- what is_kept looks at -/
theorem kept_iff {a b g1 g2 P1 Q1 P2 Q2 c p q q0 : Int} (h1 : 0 < g1) (h2 : 0 < g2) (e1 : a = P1 * g1) (e2 : q0 = Q1 * g1) (e3 : b = P2 * g2) (e4 : q0 = Q2 * g2) (hq0 : 0 < q0) :
    (P1 * q + (c * q - p) * Q1) * Q2 ≤ P2 * (Q1 * q) ↔ a * q + (c * q - p) * q0 ≤ b * q := by
  have hg : 0 < g1 * g2 := Int.mul_pos h1 h2
  generalize c * q - p = d
  have x1 : (P1 * q + d * Q1) * Q2 * (g1 * g2) = (a * q + d * q0) * q0 := by grind
  have x2 : P2 * (Q1 * q) * (g1 * g2) = b * q * q0 := by grind
  constructor
  · intro z
    have := Int.mul_le_mul_of_nonneg_right z (Int.le_of_lt hg)
    rw [x1, x2] at this
    exact Int.le_of_mul_le_mul_right this hq0
  · intro z
    have := Int.mul_le_mul_of_nonneg_right z (Int.le_of_lt hq0)
    rw [← x1, ← x2] at this
    exact Int.le_of_mul_le_mul_right this hg
end U

set_option maxRecDepth 100000
set_option maxHeartbeats 4000000
namespace U
open PySem PySem.Spec PyProof.Rows
open L2 hiding Fun CX0 E0 pass0 Fun.binds
open C8 Lx SX StX
/-! a tuple known to have no dict of its own: dict(t) of it -/
def PTup (a : Addr) (es : List Addr) (h : Heap) : Prop := ∃ n, h.get? a = some { cls := .type "tuple", data := .seq (es.map Value.ref).toArray n }
section
variable {X : Cx}
theorem call_tuple_ext : CallR X (.type "tuple") (fun xs H Q => ∃ p es, xs = [.ref p] ∧ SqL X.K H p (es.map V.ref) ∧ ∀ l, H l = none → Q (.ref l) (upd H l (.ext (PTup l es)))) := by
  intro pins s σ H xs us Q I r h
  obtain ⟨p, es, rfl, hq, q⟩ := h
  obtain ⟨u, rfl, rx⟩ := vals1 r
  cases rx
  obtain ⟨its, r', pl, hz⟩ := I.list hq
  have hlen := r'.length
  have ei := refs_at r'
  subst ei
  refine call_tuple_list pl.isList (fun h' kp => ?_) (by simp only [List.size_toArray] <;> omega)
  have I1 : Inv X pins σ H { s with heap := h' } := I.kept (t' := s.toks) kp
  have hg : (h'.push { cls := .type "tuple", data := .seq (es.map Value.ref).toArray }).get? h'.objs.size = some { cls := .type "tuple", data := .seq (es.map Value.ref).toArray } := Heap.get?_push_size _ rfl
  have I2 : Inv X pins σ (upd H h'.objs.size (.ext (PTup h'.objs.size es))) { s with heap := h'.push { cls := .type "tuple", data := .seq (es.map Value.ref).toArray } } :=
    I1.laid (t' := s.toks) (fun b o e => Heap.get?_push_of_some _ e) (Nat.le_refl _) (show ObjOk X.prog X.w _ _ _ (.ext (PTup h'.objs.size es)) from ⟨⟨_, hg⟩, ⟨_, hg⟩, fun h1 h2 ⟨n, e⟩ k => ⟨n, k _ e⟩⟩)
  exact ⟨.ref h'.objs.size, _, I2, rfl, q _ (I1.hok.fresh (Nat.le_refl _))⟩
theorem pairs_of2 {pins : List (Addr × Obj)} {σ : L2.St} {H : Hp} {s : Shared} (I : Inv X pins σ H s) : ∀ {ps : List Addr} {kvs : List (Key × V)}, Paired (fun p kv => SqT X.K H p [kV kv.1, kv.2]) ps kvs →
    ∃ (prs : List (Key × Value)) (pvs : List (Value × Value)), KV kvs prs ∧ prs.length = ps.length ∧ pvs.length = ps.length ∧ ∀ (j : Nat) (k v : Value), pvs[j]? = some (k, v) → ∃ (b : Addr) (key : Key), ps[j]? = some b ∧ IsTup s.heap b #[k, v] ∧ prs[j]? = some (key, v) ∧ keyIs key k = true
  | _, _, .nil => ⟨[], [], .nil, rfl, rfl, fun j k v e => by simp at e⟩
  | _, _, .cons (a := p) (b := kv) h t => by
    obtain ⟨prs, pvs, r, hl, hl2, hp⟩ := pairs_of2 I t
    obtain ⟨its, rv, ht, _⟩ := I.tuple h
    obtain ⟨u, y, ei, ru, ry⟩ := vals2 rv
    subst ei
    refine ⟨(kv.1, y) :: prs, (u, y) :: pvs, .cons ⟨rfl, ry⟩ r, by rw [List.length_cons, List.length_cons, hl], by rw [List.length_cons, List.length_cons, hl2], fun j k v e => ?_⟩
    cases j with
    | zero =>
      have e' : (u, y) = (k, v) := Option.some.inj e
      cases e'
      exact ⟨p, kv.1, rfl, ht, rfl, kV_is (P := X.prog) (w := X.w) ru⟩
    | succ j =>
      obtain ⟨b, key, e1, e2, e3, e4⟩ := hp j k v (by simpa using e)
      exact ⟨b, key, by simpa using e1, e2, by simpa using e3, e4⟩
/-- dict(t) of such a tuple of pairs -/
theorem call_dictX (hcalm : X.calm = true) : CallR X (.type "dict") (fun xs H Q => ∃ (a : Addr) (ps : List Addr) (kvs : List (Key × V)), xs = [.ref a] ∧ H a = some (.ext (PTup a ps)) ∧ ps.length ≤ sizeLine ∧ Paired (fun p kv => SqT X.K H p [kV kv.1, kv.2]) ps kvs ∧
    ∀ p, H p = none → Q (.ref p) (upd H p (.dK (mergeK [] kvs)))) := by
  intro pins s σ H xs us Q I r q
  obtain ⟨a, ps, kvs, ex, hq, hz, hp, q⟩ := q
  subst ex
  obtain ⟨u, eu, rx⟩ := vals1 r
  subst eu
  cases rx
  obtain ⟨n, hg⟩ := (I.hok _ _ hq).1
  obtain ⟨prs, pvs, rel, hl, hl2, hpr⟩ := pairs_of2 I hp
  have hit : PairItems s.heap (ps.map Value.ref).toArray (fun j => ps.getD j 0) pvs := ⟨by simp [hl2], fun j k v e => by
    obtain ⟨b, key, e1, e2, e3, e4⟩ := hpr j k v e
    have eb : ps.getD j 0 = b := by rw [List.getD_eq_getElem?_getD, e1]; rfl
    refine ⟨by simp [e1, eb], .inl ?_⟩
    show s.heap.IsTuple (ps.getD j 0) #[k, v]
    rw [eb]
    exact e2⟩
  refine PySem.call_dict_pairs (knd := mixKind X.prog X.w) (kvs := prs) (PairArg.tuple a (ps.map Value.ref).toArray (fun j => ps.getD j 0) pvs) (I.ok.hd hcalm) ⟨⟨_, n, hg, rfl, rfl, rfl⟩, hit⟩ ⟨by rw [hl, hl2], fun i key v e => ?_⟩ (by rw [hl2]; exact hz) fun h' tk hd' k => ?_
  · obtain ⟨b, kk, e1, e2, e3, e4⟩ := hpr i key v e
    exact ⟨kk, e3, e4⟩
  · have hm : (s.heap.objs.size == sysModules) = false := beq_eq_false_iff_ne.mpr (Nat.ne_of_gt I.big)
    have hlen : (mergeK [] kvs).length ≤ sizeLine := by
      refine Nat.le_trans (length_mergeK kvs []) ?_
      rw [List.length_nil, Nat.zero_add, rel.length, hl]
      exact hz
    exact ⟨.ref s.heap.objs.size, upd H s.heap.objs.size (.dK (mergeK [] kvs)), I.laid (t' := tk) (fun b o e => k b o (fun z => nomatch z) e) (Nat.le_refl _) (show ObjOk X.prog X.w _ _ _ (.dK (mergeK [] kvs)) from ⟨hlen, hm, merged [] prs, KV.merge rel .nil, hd'⟩), rfl, q _ (I.hok.fresh (Nat.le_refl _))⟩
end
end U

set_option maxRecDepth 100000
set_option maxHeartbeats 4000000
set_option pp.maxSteps 400
namespace U
open PySem PySem.Spec PyProof.Rows
open L2 hiding Fun CX0 E0 pass0 Fun.binds
open C8 Lx SX StX
def spAtMost : Sp := fun vs H Q _ => ∃ (a b : Addr) (p q r s : Int), vs = [.ref a, .ref b] ∧ H a = some (.tup [.int p, .int q]) ∧ H b = some (.tup [.int r, .int s]) ∧ 0 < q ∧ q ≤ 2000000000000000000 ∧ 0 < s ∧ s ≤ 2000000000000000000 ∧ Q (.bl (decide (p * s ≤ r * q))) H
/-- a paper: standings with values -/

def PapE (H : Hp) (t : Addr) (ws : List (List Bool)) (P Qf : List Bool → Int) : Prop := ∃ es : List Addr, H t = some (.ext (PTup t es)) ∧ es.length = ws.length ∧ ∀ (i : Nat) (e : Addr) (w : List Bool), es[i]? = some e → ws[i]? = some w → ∃ f, H e = some (.tup [.str (W w), .ref f]) ∧ H f = some (.tup [.int (P w), .int (Qf w)])
def PapAt (H : Hp) (t : Addr) (ws : List (List Bool)) (P Qf : List Bool → Int) : Prop := ∃ es : List Addr, H t = some (.tup (es.map V.ref)) ∧ es.length = ws.length ∧ ∀ (i : Nat) (e : Addr) (w : List Bool), es[i]? = some e → ws[i]? = some w → ∃ f, H e = some (.tup [.str (W w), .ref f]) ∧ H f = some (.tup [.int (P w), .int (Qf w)])
def spRatePaper (C : Addr) : Sp := fun vs H Q _ => ∃ (a tv : Addr) (f : List Bool) (ss : List Stf) (p : Int) (q : Nat), vs = [.ref a, .ref tv] ∧ RuAt C H a f ss ∧ StOk ss ∧ OkN 39 ss ∧ longM ss ≤ 5 ∧ H tv = some (.tup [.int p, .int q]) ∧ 0 < q ∧ q < 1000000000 ∧
  ∀ r s : Nat, RateL ss r s → s ≤ 1023 →
    ((¬ ((r : Int) * q ≤ p * s) → ∀ H', Same H H' → Q .non H') ∧
     ((r : Int) * q ≤ p * s → ∀ t ws h H', H t = none → Same H H' → Mvs ss ws → RightH ss ws p q h → PapE H' t ws (hP h q) (hQ h q) → Q (.ref t) H'))
def kvz (ws : List (List Bool)) (h : List Bool → Int) : List (Key × V) := kvw ws fun w => .int (h w)
theorem kvz_put {ws : List (List Bool)} {h : List Bool → Int} {w : List Bool} {v : Int} (hw : w ∈ ws) : putK (kvz ws h) (Sum.inr (W w)) (.int v) = kvz ws (ug h w v) := by
  unfold kvz
  rw [kvw_put hw]
  congr 1
  funext u
  unfold ug
  split <;> rfl
theorem kvz_val {ws : List (List Bool)} {h : List Bool → Int} {w : List Bool} (hw : w ∈ ws) : valV (kvz ws h) (Sum.inr (W w)) = some (.int (h w)) := by
  unfold kvz
  rw [kvw_val, if_pos hw]
theorem kvz_len (ws : List (List Bool)) (h : List Bool → Int) : (kvz ws h).length = ws.length := kvw_len _ _
theorem same_both {H H' : Hp} {d : Addr} {o : HO} (s : Same H H') : Same (upd H d o) (upd H' d o) := fun c x e => by
  by_cases q : c = d
  · rw [q, upd_same] at e ⊢; exact e
  · rw [upd_ne q] at e ⊢; exact s _ _ e
theorem perm_mapx {α β : Type} (g : α → β) {ys zs : List β} (p : ys.Perm zs) : ∀ l : List α, zs = l.map g → ∃ l' : List α, l'.Perm l ∧ ys = l'.map g := by
  induction p with
  | nil =>
    intro l e
    cases l with
    | nil => exact ⟨[], .nil, rfl⟩
    | cons a r => cases e
  | cons x _ ih =>
    intro l e
    cases l with
    | nil => cases e
    | cons a r =>
      rw [List.map_cons] at e
      obtain ⟨e1, e2⟩ := List.cons.inj e
      obtain ⟨l', h1, h2⟩ := ih r e2
      exact ⟨a :: l', h1.cons a, by rw [List.map_cons, ← e1, ← h2]⟩
  | swap x y t =>
    intro l e
    cases l with
    | nil => cases e
    | cons a r =>
      cases r with
      | nil => cases (List.cons.inj e).2
      | cons c r =>
        rw [List.map_cons, List.map_cons] at e
        obtain ⟨e1, e2⟩ := List.cons.inj e
        obtain ⟨e3, e4⟩ := List.cons.inj e2
        exact ⟨c :: a :: r, List.Perm.swap a c r, by rw [List.map_cons, List.map_cons, e1, e3, e4]⟩
  | trans _ _ ih1 ih2 =>
    intro l e
    obtain ⟨l2, h1, h2⟩ := ih2 l e
    obtain ⟨l1, h3, h4⟩ := ih1 l2 h2
    exact ⟨l1, h3.trans h1, h4⟩
section
variable {P : Program} {w : World} {K : PySem.W.Frag} {mg : Str → Option Value} {base : Heap}
theorem sc_is_at_most : FnScope ["one", "two"] ["one", "two"] (fnScope s_is_at_most) := fnScope_by (by decide +kernel)
theorem cal_is_at_most {f : Addr} {fd : FuncData} (F : Def K mg "is_at_most" s_is_at_most f fd) (b : Binds K fd ["one", "two"] []) (T : Tx mg) : Cal P w K mg base 1 "is_at_most" spAtMost [] := by
  refine cal0 F b .nil sc_is_at_most (fun vs H Q E h => ?_) (fun cdv A outer s H vs Q E hr h => ?_)
  · obtain ⟨_, _, _, _, _, _, rfl, _⟩ := h; rfl
  · obtain ⟨a, a2, p, q, r, s, rfl, h1, h2, q0, q9, s0, s9, k⟩ := h
    refine ⟨_, (pss_one (ps_ret (pe_cmpR op_le (pe_op op_mul (pe_ix ix_tup (pv 0) pe_int (fun _ _ => rfl)) (pe_ix ix_tup (pv 1) pe_int (fun _ _ => rfl))) (pe_op op_mul (pe_ix ix_tup (pv 1) pe_int (fun _ _ => rfl)) (pe_ix ix_tup (pv 0) pe_int (fun _ _ => rfl))) (nomark _)))), ?_⟩
    refine ⟨_, rfl, a, _, _, _, rfl, rfl, SqT.of h1, atI_nat (j := 0) rfl, _, rfl, a2, _, _, _, rfl, rfl, SqT.of h2, atI_nat (j := 1) rfl, _, _, rfl, rfl, .inr ⟨by omega, by omega⟩, ?_⟩
    refine ⟨_, rfl, a2, _, _, _, rfl, rfl, SqT.of h2, atI_nat (j := 0) rfl, _, rfl, a, _, _, _, rfl, rfl, SqT.of h1, atI_nat (j := 1) rfl, _, _, rfl, rfl, .inr ⟨by omega, by omega⟩, ?_⟩
    exact ⟨_, _, rfl, rfl, k⟩
theorem sc_rate_paper : FnScope ["rule", "value", "moves", "heights", "here", "turn", "many", "there"] ["rule", "value"] (fnScope s_rate_paper) := fnScope_by (by decide +kernel)
theorem cal_rate_paper {f C : Addr} {fd : FuncData} (F : Def K mg "rate_paper" s_rate_paper f fd) (b : Binds K fd ["rule", "value"] []) (T : Tx mg) (c_is_at_most : Cal P w K mg base 1 "is_at_most" spAtMost []) (c_rate : Cal P w K mg base 6 "rate" (spRate C) []) (c_moves_of : Cal P w K mg base 5 "moves_of" (spMovesOf C) []) (c_lowest : Cal P w K mg base 2 "lowest" spLowest []) : Cal P w K mg base 7 "rate_paper" (spRatePaper C) [] := by
  refine cal0 F b .nil sc_rate_paper (fun vs H Q E h => ?_) (fun cdv A outer s H vs Q E hr h => ?_)
  · obtain ⟨_, _, _, _, _, _, rfl, _⟩ := h; rfl
  · obtain ⟨a, tv, fl, ss, p, q, rfl, hR, ok, o, l5, htv, q0, q9, k⟩ := h
    refine ⟨_, (pss_cons (ps_if (pt_not (pt_val (pe_c c_is_at_most hr (by decide) rfl (pa_cons (pe_c c_rate hr (by decide) rfl (pa_cons (pv 0) pa_nil)) (pa_cons (pv 1) pa_nil))))) (pss_one (ps_ret pe_non)) pss_nil)
    (pss_cons (ps_set (i := 2) sc_rate_paper.nd rfl (.inl rfl) (pe_c c_moves_of hr (by decide) rfl (pa_cons (pv 0) pa_nil)))
    (pss_cons (ps_set (i := 3) sc_rate_paper.nd rfl (.inr rfl) (pe_lock (pe_dc (own := [("here", 4)]) (g := gName 4) (by rfl) sc_rate_paper.nd (pi_keys (pv 2)) (blkOk_by (own := [("here", 4)]) (N := ["rule", "value", "moves", "heights", "here", "turn", "many", "there"]) (sc := fnScope s_rate_paper) (by decide +kernel)) (fun _ _ _ _ _ => (pg_name (i := 4) sc_rate_paper.nd rfl (.inl rfl))) (fun _ _ _ _ _ => pts_nil) (fun _ _ _ _ _ => (pv 4)) (fun _ _ _ _ _ => pe_int))))
    (pss_cons (ps_for PassesOwn.never rfl (pi_range1 (by rfl) T.b_range (pa_cons (pe_callB call_lenD (by rfl) T.b_len (by decide +kernel) (pa_cons (pv 2) pa_nil)) pa_nil)) (pg_name (i := 5) sc_rate_paper.nd rfl (.inl rfl))
    (pss_one (ps_lock (ps_for PassesOwn.never rfl (pi_keys (pv 2)) (pg_name (i := 4) sc_rate_paper.nd rfl (.inl rfl))
    (pss_one (ps_for PassesOwn.never rfl (pi_list (pe_dget (hu_of hr) (pv 2) (pv 4) (fun _ _ => rfl))) (pg_tup rfl (pgs_cons (pg_name (i := 6) sc_rate_paper.nd rfl (.inl rfl)) (pgs_cons (pg_name (i := 7) sc_rate_paper.nd rfl (.inl rfl)) pgs_nil)))
    (pss_one (ps_dput (hu_of hr) (pv 3) (pv 7) (pe_callB (call_max2 rfl) (by rfl) T.b_max (by decide +kernel) (pa_cons (pe_callTy call_int1 (by rfl) T.b_int (by decide +kernel) (pa_cons (pe_dget (hu_of hr) (pv 3) (pv 7) (fun _ _ => rfl)) pa_nil)) (pa_cons (pe_callTy call_int1 (by rfl) T.b_int (by decide +kernel) (pa_cons (pe_op op_sub (pe_op op_add (pe_dget (hu_of hr) (pv 3) (pv 4) (fun _ _ => rfl)) (pe_op op_mul (pv 6) (pe_ix ix_tup (pv 1) pe_int (fun _ _ => rfl)))) (pe_ix ix_tup (pv 1) pe_int (fun _ _ => rfl))) pa_nil)) pa_nil))) rfl))))))))
    (pss_one (ps_ret (pe_callTy call_tuple_ext (by rfl) T.b_tuple (by decide +kernel) (pa_cons (pe_lc (own := [("here", 4)]) (g := gName 4) (by rfl) sc_rate_paper.nd (pi_list (pe_callB (call_sortedD rfl) (by rfl) T.b_sorted (by decide +kernel) (pa_cons (pv 3) pa_nil))) (blkOk_by (own := [("here", 4)]) (N := ["rule", "value", "moves", "heights", "here", "turn", "many", "there"]) (sc := fnScope s_rate_paper) (by decide +kernel)) (fun _ _ _ _ _ => (pg_name (i := 4) sc_rate_paper.nd rfl (.inl rfl))) (fun _ _ _ _ _ => pts_nil) (fun _ _ _ _ _ => (pe_tup (pa_cons (pv 4) (pa_cons (pe_c c_lowest hr (by decide) rfl (pa_cons (pe_dget (hu_of hr) (pv 3) (pv 4) (fun _ _ => rfl)) (pa_cons (pe_ix (show IxR _ (rIxT K) from ix_tup) (pv 1) pe_int (fun _ _ => rfl)) pa_nil))) pa_nil))))) pa_nil)))))))), ?_⟩
    refine ⟨_, rfl, a, fl, ss, rfl, hR, ok, o, fun t r s' H1 nt s1 ht hL hs => ?_⟩
    have sp := hL.1.pos
    refine ⟨_, rfl, t, tv, r, s', p, q, rfl, ht, s1 _ _ htv, by omega, by omega, by omega, by omega, ?_⟩
    by_cases c : (r : Int) * q ≤ p * s'
    rotate_left
    · refine ⟨_, rfl, iteBT (by rw [decide_eq_false c]; rfl) ?_⟩
      exact (k r s' hL hs).1 c H1 s1
    refine ⟨_, rfl, iteBF (by rw [decide_eq_true c]; rfl) ?_⟩
    refine ⟨_, rfl, a, fl, ss, rfl, hR.same s1, ok, o, fun d ws H2 nd s2 hM hW => ?_⟩
    obtain ⟨lo, hd, hD⟩ := hM
    refine ⟨d, _, hd, trivial, fun od => ?_⟩
    have s12 := s1.trans s2
    have hdf : upd H2 d (.frz od (.dK (kvr ws lo))) d = some (.frz od (.dK (kvr ws lo))) := upd_same
    have un1 : ∀ {H'}, Same (upd H2 d (.frz od (.dK (kvr ws lo)))) H' → Same H2 (upd H' d (.dK (kvr ws lo))) := fun s => same_unlock s hd
    have nn : ∀ x, upd H2 d (.frz od (.dK (kvr ws lo))) x = none → H2 x = none := fun x e => by
      by_cases z : x = d
      · rw [z, upd_same] at e; cases e
      · rw [upd_ne z] at e; exact e
    generalize upd H2 d (.frz od (.dK (kvr ws lo))) = H3 at hdf un1 nn ⊢
    refine ⟨_, rfl, d, od, rfl, .inl ⟨_, hdf, fun D nD => ?_⟩⟩
    have nD2 := nn D nD
    have lkv : (kvr ws lo).length = ws.length := kvr_len _ _
    have few := hW.few (by omega)
    refine dc_it (walk_keys (kvs := kvr ws lo)) (fun i H4 => Same H3 H4 ∧ H4 D = some (.dK (kvz (ws.take i) fun _ => 0))) ⟨same_upd nD, upd_same⟩ (fun i H4 _ h4 => h4.1 _ _ hdf) ?_ ?_
    · rintro i x H4' H4 hi ⟨s4, hDi⟩ ⟨rfl, kk, vv, hkv, rfl⟩
      obtain ⟨u, hu, rfl, rfl⟩ := kvw_get hkv
      refine ⟨rfl, _, rfl, _, .inr (W u), rfl, hDi, by rw [kvz_len, List.length_take]; exact sl_lt (by omega), same_mut' s4 nD, ?_⟩
      rw [upd_same]
      unfold kvz
      rw [kvw_snoc (g := fun _ => V.int 0) (v := V.int 0) (nodup_take hW.nd hu) rfl, take_snoc hu]
    rintro H4 ⟨s4, hD4⟩
    rw [lkv, List.take_length] at hD4
    refine ⟨s4 _ _ hdf, ?_⟩
    have s5 := un1 s4
    have nDd : D ≠ d := (ne_of_none hd nD2).symm
    have hD5 : upd H4 d (.dK (kvr ws lo)) D = some (.dK (kvz ws fun _ => 0)) := by rw [upd_ne nDd]; exact hD4
    generalize upd H4 d (.dK (kvr ws lo)) = H5 at s5 hD5 ⊢
    refine ⟨_, rfl, d, _, rfl, s5 _ _ hd, _, rfl, by omega, by omega, ?_⟩
    refine for_it (walk_range (lo := 0) (n := (((kvr ws lo).length : Nat) : Int).toNat)) (fun i σ H6 => ∃ (h : List Bool → Int) (v4 v5 v6 v7 : Option V), σ = [some (.ref a), some (.ref tv), some (.ref d), some (.ref D), v4, v5, v6, v7] ∧ Same H2 H6 ∧ H6 D = some (.dK (kvz ws h)) ∧ BfD ss ws p q i (fun _ _ => False) h)
      ⟨_, _, _, _, _, rfl, s5, hD5, .start⟩ (fun _ _ _ _ _ => trivial) ?_ ?_
    · rintro i x σ H6' H6 hi ⟨h, v4, v5, v6, v7, rfl, s6, hD6, hB⟩ ⟨rfl, rfl⟩
      have hd6 := s6 _ _ hd
      refine ⟨d, _, hd6, trivial, fun od => ?_⟩
      have hLd : upd H2 d (.frz od (.dK (kvr ws lo))) d = some (.frz od (.dK (kvr ws lo))) := upd_same
      have hLu : ∀ {H'}, Same (upd H2 d (.frz od (.dK (kvr ws lo)))) H' → Same H2 (upd H' d (.dK (kvr ws lo))) := fun s => same_unlock s hd
      have hLM : MvD (upd H2 d (.frz od (.dK (kvr ws lo)))) ss ws lo := hD.dk hd (fun _ z => by cases z) (fun _ z => by cases z)
      have hLD : upd H2 d (.frz od (.dK (kvr ws lo))) D = none := by rw [upd_ne nDd]; exact nD2
      have hLt : upd H2 d (.frz od (.dK (kvr ws lo))) tv = some (.tup [.int p, .int q]) := by rw [upd_ne (ne_of (s12 _ _ htv) hd (by intro z; cases z))]; exact s12 _ _ htv
      have sL : Same (upd H2 d (.frz od (.dK (kvr ws lo)))) (upd H6 d (.frz od (.dK (kvr ws lo)))) := same_both s6
      have hD7 : upd H6 d (.frz od (.dK (kvr ws lo))) D = some (.dK (kvz ws h)) := by rw [upd_ne nDd]; exact hD6
      generalize upd H6 d (.frz od (.dK (kvr ws lo))) = H7 at sL hD7 ⊢
      generalize upd H2 d (.frz od (.dK (kvr ws lo))) = HL at sL hLd hLu hLM hLD hLt
      refine ⟨_, rfl, d, od, rfl, .inl ⟨_, sL _ _ hLd, ?_⟩⟩
      refine for_it (walk_keys (kvs := kvr ws lo)) (fun j σ H8 => ∃ (h : List Bool → Int) (v4 v6 v7 : Option V), σ = [some (.ref a), some (.ref tv), some (.ref d), some (.ref D), v4, some (.int (0 + (i : Int))), v6, v7] ∧ Same HL H8 ∧ H8 D = some (.dK (kvz ws h)) ∧ BfD ss ws p q i (fun x _ => x ∈ ws.take j) h)
        ⟨h, _, _, _, rfl, sL, hD7, hB.congr (fun x _ y z => by cases z) hW⟩ (fun j σ H8 _ h8 => by obtain ⟨_, _, _, _, _, h8, _⟩ := h8; exact h8 _ _ hLd) ?_ ?_
      · rintro j x σ H8' H8 hj ⟨h, v4, v6, v7, rfl, s8, hD8, hB8⟩ ⟨rfl, kk, vv, hkv, rfl⟩
        obtain ⟨u, hu, rfl, rfl⟩ := kvw_get hkv
        have hum := List.mem_of_getElem? hu
        obtain ⟨p0, p1, hloL, hp0, hp1⟩ := hLM u hum
        refine ⟨_, rfl, _, rfl, d, _, rfl, .inl ⟨kvr ws lo, .inr (W u), .inr ⟨od, s8 _ _ hLd⟩, rfl, (kvr_val hum).symm⟩, lo u, rfl, ⟨_, SqL.of (s8 _ _ hloL)⟩, ?_⟩
        refine for_it (walk_list (xs := [.ref p0, .ref p1])) (fun e σ H9 => ∃ (h : List Bool → Int) (v6 v7 : Option V), σ = [some (.ref a), some (.ref tv), some (.ref d), some (.ref D), some (.str (W u)), some (.int (0 + (i : Int))), v6, v7] ∧ Same HL H9 ∧ H9 D = some (.dK (kvz ws h)) ∧ BfD ss ws p q i (fun x y => x ∈ ws.take j ∨ (x = u ∧ y ∈ [false, true].take e)) h)
          ⟨h, _, _, rfl, s8, hD8, hB8.congr (fun x _ y z => z.elim id fun z => by cases z.2) hW⟩ (fun e σ H9 _ h9 => by obtain ⟨_, _, _, _, h9, _⟩ := h9; exact SqL.of (h9 _ _ hloL)) ?_ ?_
        · rintro e x σ H9' H9 he ⟨h, v6, v7, rfl, s9, hD9, hB9⟩ ⟨rfl, hx⟩
          have hp : ∃ (b : Bool) (p : Addr), x = .ref p ∧ [false, true][e]? = some b ∧ H9 p = some (.tup [.int (cM ss u b : Nat), .str (W (nM ss u b))]) := by
            match e, he, hx with
            | 0, _, hx => cases hx; exact ⟨false, p0, rfl, rfl, s9 _ _ hp0⟩
            | 1, _, hx => cases hx; exact ⟨true, p1, rfl, rfl, s9 _ _ hp1⟩
          obtain ⟨b, pt, rfl, hb, hpt⟩ := hp
          have hvm := hW.cl u hum b
          have ht9 := s9 _ _ hLt
          refine ⟨pt, _, rfl, SqT.of hpt, rfl, _, _, rfl, _, _, rfl, rfl, ?_⟩
          have g1 : DGet H9 D (.str (W (nM ss u b))) (some (.int (h (nM ss u b)))) := .inl ⟨_, .inr (W (nM ss u b)), .inl hD9, rfl, (kvz_val hvm).symm⟩
          have g2 : DGet H9 D (.str (W u)) (some (.int (h u))) := .inl ⟨_, .inr (W u), .inl hD9, rfl, (kvz_val hum).symm⟩
          refine ⟨_, rfl, _, rfl, D, _, rfl, g1, .inl ⟨_, rfl, ?_⟩⟩
          refine ⟨_, rfl, _, rfl, D, _, rfl, g2, ?_⟩
          refine ⟨_, rfl, _, rfl, tv, _, _, _, rfl, rfl, SqT.of ht9, atI_nat (j := 1) rfl, _, _, rfl, rfl, .inr ⟨by omega, by omega⟩, ?_⟩
          refine ⟨_, _, rfl, rfl, _, rfl, tv, _, _, _, rfl, rfl, SqT.of ht9, atI_nat (j := 0) rfl, _, _, rfl, rfl, .inl ⟨_, rfl, ?_⟩⟩
          refine ⟨_, _, rfl, ?_⟩
          refine ⟨_, rfl, _, rfl, D, _, rfl, DPut.k (k := .inr (W (nM ss u b))) hD9 (by rw [kvz_len]; exact sl_lt (by omega)), ?_⟩
          have emax : (if h u + ((cM ss u b : Nat) : Int) * q - p > h (nM ss u b) then h u + ((cM ss u b : Nat) : Int) * q - p else h (nM ss u b)) = max (h (nM ss u b)) (h u + ((cM ss u b : Nat) : Int) * q - p) := by split <;> omega
          rw [emax, kvz_put hvm]
          refine ⟨_, _, _, rfl, same_mut' s9 hLD, upd_same, (hB9.step u hum b).congr (fun x _ y z => ?_) hW⟩
          rw [take_snoc hb, List.mem_append, List.mem_singleton] at z
          rcases z with h | ⟨h1, h2 | h2⟩
          · exact .inl (.inl h)
          · exact .inl (.inr ⟨h1, h2⟩)
          · exact .inr ⟨h1, h2⟩
        · rintro σ H9 ⟨h, v6, v7, rfl, s9, hD9, hB9⟩
          refine ⟨h, _, _, _, rfl, s9, hD9, hB9.congr (fun x _ y z => ?_) hW⟩
          rw [take_snoc hu, List.mem_append, List.mem_singleton] at z
          exact z.elim .inl fun z => .inr ⟨z, by show y ∈ [false, true].take 2; cases y <;> decide⟩
      · rintro σ H8 ⟨h, v4, v6, v7, rfl, s8, hD8, hB8⟩
        rw [lkv, List.take_length] at hB8
        refine ⟨s8 _ _ hLd, h, _, _, _, _, rfl, hLu s8, ?_, hB8.round hW fun x hx _ => hx⟩
        rw [upd_ne nDd]; exact hD8
    · rintro σ H6 ⟨h, v4, v5, v6, v7, rfl, s6, hD6, hB⟩
      rw [lkv, Int.toNat_natCast] at hB
      have hRt := hB.right hW (NoPos.of_rate o hW hL.1 (by omega) c) (by omega)
      have nlt : ws.length < 64 := by
        have := words_le hW.nd (n := 5) fun w hw => by
          obtain ⟨m, rfl⟩ := hW.g w hw
          exact Nat.le_trans (tl_le _ _) l5
        have e : 2 ^ (5 + 1) = 64 := rfl
        omega
      refine ⟨_, rfl, D, _, ws.map W, rfl, .inl hD6, ?_, by rw [List.length_map]; exact nlt, fun ys l pm srt nl => ?_⟩
      · unfold kvz kvw; rw [List.map_map, List.map_map]; rfl
      have pm2 : ∃ vs : List (List Bool), ys = vs.map W ∧ vs.Perm ws := by
        obtain ⟨vs, h1, h2⟩ := perm_mapx W pm ws rfl
        exact ⟨vs, h2, h1⟩
      obtain ⟨vs, rfl, pmv⟩ := pm2
      have hV : Mvs ss vs := ⟨pmv.nodup_iff.mpr hW.nd, pmv.mem_iff.mpr hW.nil, fun w hw b => pmv.mem_iff.mpr (hW.cl w (pmv.mem_iff.mp hw) b), fun w hw => hW.g w (pmv.mem_iff.mp hw)⟩
      have hRv : RightH ss vs p q h := fun w hw b => hRt w (pmv.mem_iff.mp hw) b
      have lv : vs.length < 64 := by rw [pmv.length_eq]; exact nlt
      have sl := same_upd (o := .lst ((vs.map W).map V.str)) nl
      have hl : upd H6 l (.lst ((vs.map W).map V.str)) l = some (.lst (wdsV vs)) := by rw [upd_same, List.map_map]; rfl
      have hD7 := sl _ _ hD6
      have s7 := s6.trans sl
      generalize upd H6 l (.lst ((vs.map W).map V.str)) = H7 at hl hD7 s7 ⊢
      refine ⟨l, rfl, ⟨_, SqL.of hl⟩, fun L nL => ?_⟩
      have ht7 := s7 _ _ (s12 _ _ htv)
      refine lc_it (walk_list (xs := wdsV vs)) (fun i H8 => ∃ es : List Addr, Same H7 H8 ∧ H8 L = some (.lst (es.map V.ref)) ∧ es.length = i ∧ ∀ (j : Nat) (e : Addr) (w : List Bool), es[j]? = some e → vs[j]? = some w → ∃ f, H8 e = some (.tup [.str (W w), .ref f]) ∧ H8 f = some (.tup [.int (hP h q w), .int (hQ h q w)]))
        ⟨[], same_upd nL, upd_same, rfl, fun j e w z => by simp at z⟩ (fun i H8 _ h8 => by obtain ⟨_, h8, _⟩ := h8; exact SqL.of (h8 _ _ hl)) ?_ ?_
      · rintro i x H8' H8 hi ⟨es, s8, hL8, les, hE⟩ ⟨rfl, hx⟩
        obtain ⟨u, hu, rfl⟩ := wdsV_get hx
        have hum := pmv.mem_iff.mp (List.mem_of_getElem? hu)
        have g2 : DGet H8 D (.str (W u)) (some (.int (h u))) := .inl ⟨_, .inr (W u), .inl (s8 _ _ hD7), rfl, (kvz_val hum).symm⟩
        refine ⟨rfl, _, rfl, ?_⟩
        refine ⟨_, rfl, _, rfl, D, _, rfl, g2, _, rfl, tv, _, _, _, rfl, rfl, SqT.of (s8 _ _ ht7), atI_nat (j := 1) rfl, h u, q, rfl, q0, q9, fun t2 H9 nt2 s9 ht2 => ⟨by show 2 ≤ sizeLine; decide, fun te nte => ?_⟩⟩
        have se := same_upd (o := .tup [.str (W u), .ref t2]) nte
        have hte : upd H9 te (.tup [.str (W u), .ref t2]) te = some (.tup [.str (W u), .ref t2]) := upd_same
        have ht2' := se _ _ ht2
        have s9' := s9.trans se
        generalize upd H9 te (.tup [.str (W u), .ref t2]) = H10 at hte ht2' s9' ⊢
        have hL10 := s9' _ _ hL8
        refine ⟨_, hL10, by rw [List.length_map]; exact sl_lt (by rw [wdsV_len] at hi; omega), es ++ [te], same_mut' (s8.trans s9') nL, by rw [upd_same, List.map_append]; rfl, by rw [List.length_append, les]; rfl, fun j e w h1 h2 => ?_⟩
        have key : ∃ f, H10 e = some (.tup [.str (W w), .ref f]) ∧ H10 f = some (.tup [.int (hP h q w), .int (hQ h q w)]) := by
          by_cases z : j < es.length
          · rw [List.getElem?_append_left z] at h1
            obtain ⟨f, f1, f2⟩ := hE j e w h1 h2
            exact ⟨f, s9' _ _ f1, s9' _ _ f2⟩
          · have hj := (List.getElem?_eq_some_iff.mp h1).1
            rw [List.length_append] at hj
            have ej : j = i := by
              have : ([te] : List Addr).length = 1 := rfl
              omega
            subst ej
            rw [List.getElem?_append_right (by omega), les, Nat.sub_self] at h1
            have ee : te = e := Option.some.inj h1
            rw [hu] at h2
            have ew : u = w := Option.some.inj h2
            subst ee ew
            exact ⟨t2, hte, ht2'⟩
        obtain ⟨f, f1, f2⟩ := key
        exact ⟨f, by rw [upd_ne (ne_of f1 hL10 (by intro z; cases z))]; exact f1, by rw [upd_ne (ne_of f2 hL10 (by intro z; cases z))]; exact f2⟩
      · rintro H8 ⟨es, s8, hL8, les, hE⟩
        rw [wdsV_len] at les
        refine ⟨L, _, rfl, SqL.of hL8, fun t nt => ?_⟩
        have st := same_upd (o := .ext (PTup t es)) nt
        have hsame := ((s12.trans s7).trans s8).trans st
        exact (k r s' hL hs).2 c t vs h _ (((s12.trans s7).trans s8).free nt) hsame hV hRv ⟨es, upd_same, les, fun j e w h1 h2 => by
          obtain ⟨f, f1, f2⟩ := hE j e w h1 h2
          exact ⟨f, st _ _ f1, st _ _ f2⟩⟩
end
end U

set_option maxRecDepth 100000
set_option maxHeartbeats 4000000
namespace U
/-! costs of long messages by the rate, by heights, with bits exchanged -/
theorem bst_sw_le {ss : List Stf} (o : OkN 39 ss) (n : Nat) : bstM ss n [] ≤ bstM (ss.map swS) n [] := by
  have h := cost_sw o [] (dearM ss n [])
  have e1 : stF (ss.map swS) [] (sw []) = [] := rfl
  have e2 : stF ss [] [] = [] := rfl
  rw [e1, e2, dear_cost] at h
  have c := cost_le (ss := ss.map swS) (m := sw (dearM ss n [])) (t := [])
  rw [h, sw_len, dear_len] at c
  exact c
theorem map_swSw (ss : List Stf) : (ss.map swS).map swS = ss := by
  rw [List.map_map]
  induction ss with
  | nil => rfl
  | cons s r ih => rw [List.map_cons, ih]; show swS (swS s) :: r = _; rw [swS_swS]
theorem bst_sw {ss : List Stf} (o : OkN 39 ss) (n : Nat) : bstM (ss.map swS) n [] = bstM ss n [] := by
  have h1 := bst_sw_le o n
  have h2 := bst_sw_le o.sw n
  rw [map_swSw] at h2
  omega
theorem cM_st {ss : List Stf} (u : List Bool) (b : Bool) : cM ss (stF ss [] u) b = costM ss (stF ss [] u) [b] := by
  show _ = cM ss (stF ss [] u) b + 0
  omega
theorem nM_st {ss : List Stf} (u : List Bool) (b : Bool) : nM ss (stF ss [] u) b = stF ss [] (u ++ [b]) := by rw [stF_app]; rfl
theorem all_swU {ss : List Stf} (o : OkN 39 ss) : ∀ (n : Nat) (u : List Bool), allM (ss.map swS) n (stF (ss.map swS) [] (sw u)) = allM ss n (stF ss [] u)
  | 0, _ => rfl
  | n + 1, u => by
    have key : ∀ b : Bool, cM (ss.map swS) (stF (ss.map swS) [] (sw u)) (!b) = cM ss (stF ss [] u) b := fun b => by
      rw [cM_st, cM_st]
      exact cost_sw o u [b]
    have nxt : ∀ b : Bool, allM (ss.map swS) n (nM (ss.map swS) (stF (ss.map swS) [] (sw u)) (!b)) = allM ss n (nM ss (stF ss [] u) b) := fun b => by
      rw [nM_st, nM_st, ← all_swU o n (u ++ [b]), sw_app]
      rfl
    have k0 := key false
    have k1 := key true
    have n0 := nxt false
    have n1 := nxt true
    show (2 ^ n * cM (ss.map swS) (stF (ss.map swS) [] (sw u)) false + allM (ss.map swS) n (nM (ss.map swS) (stF (ss.map swS) [] (sw u)) false)) + (2 ^ n * cM (ss.map swS) (stF (ss.map swS) [] (sw u)) true + allM (ss.map swS) n (nM (ss.map swS) (stF (ss.map swS) [] (sw u)) true)) = (2 ^ n * cM ss (stF ss [] u) false + allM ss n (nM ss (stF ss [] u) false)) + (2 ^ n * cM ss (stF ss [] u) true + allM ss n (nM ss (stF ss [] u) true))
    rw [← k0, ← k1, ← n0, ← n1]
    exact Nat.add_comm _ _
theorem all_sw {ss : List Stf} (o : OkN 39 ss) (n : Nat) : allM (ss.map swS) n [] = allM ss n [] := all_swU o n []
theorem bst_perm {ss ts : List Stf} (hp : ∀ l, putM ss l = putM ts l) (hl : longM ss = longM ts) : ∀ (k : Nat) (t : List Bool), bstM ss k t = bstM ts k t
  | 0, _ => rfl
  | k + 1, t => by
    show max _ _ = max _ _
    rw [cM_perm hp, nM_perm hp hl, bst_perm hp hl k, bst_perm hp hl k]
theorem all_perm {ss ts : List Stf} (hp : ∀ l, putM ss l = putM ts l) (hl : longM ss = longM ts) : ∀ (k : Nat) (t : List Bool), allM ss k t = allM ts k t
  | 0, _ => rfl
  | k + 1, t => by
    show (2 ^ k * cM ss t false + allM ss k (nM ss t false)) + (2 ^ k * cM ss t true + allM ss k (nM ss t true)) = (2 ^ k * cM ts t false + allM ts k (nM ts t false)) + (2 ^ k * cM ts t true + allM ts k (nM ts t true))
    rw [cM_perm hp, nM_perm hp hl, all_perm hp hl k, all_perm hp hl k]
theorem most_low2 {ss : List Stf} {ws : List (List Bool)} (hW : Mvs ss ws) (hN : ws.length ≤ 31) {p q : Nat} (h : RateR ss p q) (n : Nat) (hn : 64 ≤ n) : p * (n - 64) ≤ bstM ss n [] * q := by
  obtain ⟨u, m, ⟨hm, hr, hc⟩, hl⟩ := soon hW h
  have l0 : 0 < m.length := List.length_pos_iff.mpr hm
  have hdiv := Nat.div_add_mod (n - u.length) m.length
  have hmod := Nat.mod_lt (n - u.length) l0
  generalize (n - u.length) / m.length = k at hdiv
  generalize (n - u.length) % m.length = r at hdiv hmod
  have hb := cost_le (ss := ss) (m := u ++ rep m k ++ List.replicate r false) (t := [])
  have hlen : (u ++ rep m k ++ List.replicate r false).length = n := by
    rw [List.length_append, List.length_append, rep_len, List.length_replicate, Nat.mul_comm k]
    omega
  rw [hlen, cost_app, cost_app, rep_cost hr] at hb
  have h4 : k * costM ss (stF ss [] u) m * q = p * (m.length * k) := by
    rw [Nat.mul_assoc, hc, Nat.mul_comm k, Nat.mul_assoc]
  have h5 : k * costM ss (stF ss [] u) m * q ≤ bstM ss n [] * q := Nat.mul_le_mul_right _ (by omega)
  have h6 : n - 64 ≤ m.length * k := by omega
  exact Nat.le_trans (Nat.mul_le_mul_left _ h6) (by omega)
theorem rep_up {ss : List Stf} {ws : List (List Bool)} {p q : Int} {h : List Bool → Int} (hW : Mvs ss ws) (hR : RightH ss ws p q h) : ∀ (m t : List Bool), t ∈ ws → h t + exc ss p q t m ≤ h (stF ss t m)
  | [], t, _ => by rw [exc_nil]; show h t + 0 ≤ h t; omega
  | b :: m, t, ht => by
    have h1 := hR t ht b
    have h2 := rep_up hW hR m (nM ss t b) (hW.cl t ht b)
    have e : exc ss p q t (b :: m) = exc ss p q t [b] + exc ss p q (nM ss t b) m := exc_app t [b] m
    rw [exc_one] at e
    show _ ≤ h (stF ss (nM ss t b) m)
    omega
/-- the high of a paper: at least each difference of heights -/
theorem high_up {ss : List Stf} {ws : List (List Bool)} {p q : Nat} {h : List Bool → Int} (hq : 0 < q) (hW : Mvs ss ws) (hR : RightH ss ws p q h) {H : Int} (hH : ∀ w ∈ ws, (hP h q w * hQ h q [] - hP h q [] * hQ h q w) / (hQ h q w * hQ h q []) + 1 ≤ H) (n : Nat) : (q : Int) * (bstM ss n [] : Nat) ≤ p * n + q * H := by
  have h1 := rep_up hW hR (dearM ss n []) [] hW.nil
  have hin : stF ss [] (dearM ss n []) ∈ ws := stF_in hW hW.nil
  have e : exc ss p q [] (dearM ss n []) = q * (bstM ss n [] : Nat) - p * n := by
    unfold exc
    rw [dear_cost, dear_len]
  rw [e] at h1
  have h2 := hH _ hin
  generalize stF ss [] (dearM ss n []) = v at h1 h2 hin
  obtain ⟨g1, a1, a2, a3, a4, _⟩ := hPQ (h := h) hq v
  obtain ⟨g2, b1, b2, b3, b4, _⟩ := hPQ (h := h) hq []
  generalize hP h q v = P1 at *
  generalize hQ h q v = Q1 at *
  generalize hP h q [] = P0 at *
  generalize hQ h q [] = Q0 at *
  have d0 : 0 < Q1 * Q0 := Int.mul_pos a4 b4
  have h3 : P1 * Q0 - P0 * Q1 < H * (Q1 * Q0) := Int.lt_mul_of_ediv_lt d0 (by omega)
  have h4 : (P1 * Q0 - P0 * Q1) * ((g1 : Int) * g2) ≤ H * (Q1 * Q0) * ((g1 : Int) * g2) := Int.mul_le_mul_of_nonneg_right (Int.le_of_lt h3) (Int.mul_nonneg (by omega) (by omega))
  have x1 : (P1 * Q0 - P0 * Q1) * ((g1 : Int) * g2) = (h v - h []) * q := by
    rw [Int.sub_mul, Int.sub_mul]
    have y1 : P1 * Q0 * ((g1 : Int) * g2) = h v * q := by rw [a2, b3]; grind
    have y2 : P0 * Q1 * ((g1 : Int) * g2) = h [] * q := by rw [b2, a3]; grind
    rw [y1, y2]
  have x2 : H * (Q1 * Q0) * ((g1 : Int) * g2) = q * H * q := by
    have y : (q : Int) * q = Q1 * Q0 * ((g1 : Int) * g2) := by
      have z1 := a3
      have z2 := b3
      calc (q : Int) * q = (Q1 * g1) * (Q0 * g2) := by rw [← z1, ← z2]
        _ = _ := by grind
    rw [Int.mul_assoc H, ← y]
    grind
  rw [x1, x2] at h4
  have h5 := Int.le_of_mul_le_mul_right h4 (by omega : (0 : Int) < q)
  omega
open PySem PySem.Spec PyProof.Rows
open L2 hiding Fun CX0 E0 pass0 Fun.binds
open C8 Lx SX StX
theorem merge_kvw {g : List Bool → V} : ∀ (b a : List (List Bool)), (a ++ b).Nodup → mergeK (kvw a g) (kvw b g) = kvw (a ++ b) g
  | [], a, _ => by rw [List.append_nil]; rfl
  | w :: b, a, h => by
    have hw : w ∉ a := fun z => by
      rw [List.nodup_append] at h
      exact h.2.2 w z w List.mem_cons_self rfl
    show mergeK (putK (kvw a g) (Sum.inr (W w)) (g w)) (kvw b g) = _
    rw [kvw_snoc hw rfl, merge_kvw b (a ++ [w]) (by rw [List.append_assoc]; exact h), List.append_assoc]
    rfl
theorem PapE.fo {H : Hp} {t : Addr} {ws : List (List Bool)} {P Qf : List Bool → Int} (h : PapE H t ws P Qf) (nd : ws.Nodup) : ∃ (es : List Addr) (fo : List Bool → Addr), H t = some (.ext (PTup t es)) ∧ es.length = ws.length ∧ ∀ (i : Nat) (e : Addr) (w : List Bool), es[i]? = some e → ws[i]? = some w → H e = some (.tup [.str (W w), .ref (fo w)]) ∧ H (fo w) = some (.tup [.int (P w), .int (Qf w)]) := by
  obtain ⟨es, h1, h2, h3⟩ := h
  have key : ∀ w, ∃ f : Addr, ∀ (i : Nat) (e : Addr), es[i]? = some e → ws[i]? = some w → H e = some (.tup [.str (W w), .ref f]) ∧ H f = some (.tup [.int (P w), .int (Qf w)]) := fun w => by
    by_cases c : w ∈ ws
    · obtain ⟨i0, hi0⟩ := List.getElem?_of_mem c
      have hl := (List.getElem?_eq_some_iff.mp hi0).1
      obtain ⟨f, f1, f2⟩ := h3 i0 (es[i0]'(by omega)) w (List.getElem?_eq_getElem (by omega)) hi0
      refine ⟨f, fun i e e1 e2 => ?_⟩
      have ei : i0 = i := (List.getElem?_inj hl nd).mp (hi0.trans e2.symm)
      subst ei
      rw [List.getElem?_eq_getElem (by omega)] at e1
      rw [← Option.some.inj e1]
      exact ⟨f1, f2⟩
    · exact ⟨0, fun i e e1 e2 => absurd (List.mem_of_getElem? e2) c⟩
  obtain ⟨fo, hfo⟩ := Classical.axiomOfChoice key
  exact ⟨es, fo, h1, h2, fun i e w e1 e2 => hfo w i e e1 e2⟩
theorem pairedE {K : PySem.W.Frag} {H : Hp} {fo : List Bool → Addr} : ∀ {ws : List (List Bool)} {es : List Addr}, es.length = ws.length → (∀ (i : Nat) (e : Addr) (w : List Bool), es[i]? = some e → ws[i]? = some w → H e = some (.tup [.str (W w), .ref (fo w)])) → Paired (fun p (kv : Key × V) => SqT K H p [kV kv.1, kv.2]) es (kvw ws fun w => .ref (fo w))
  | [], [], _, _ => .nil
  | w :: ws, e :: es, hl, h => .cons (SqT.of (h 0 e w rfl rfl)) (pairedE (ws := ws) (es := es) (by simpa using hl) fun i e' w' h1 h2 => h (i + 1) e' w' (by simpa using h1) (by simpa using h2))
  | [], _ :: _, h, _ => nomatch (show _ + 1 = 0 from h)
  | _ :: _, [], h, _ => nomatch (show 0 = _ + 1 from h)
theorem bst_le39 {ss : List Stf} (o : OkN 39 ss) : ∀ {k : Nat} {t : List Bool}, (∃ m, t = tl (longM ss) (bodyF ss m)) → bstM ss k t ≤ 39 * k
  | 0, _, _ => Nat.zero_le _
  | k + 1, t, h => by
    have h1 : ∀ b, bstM ss k (nM ss t b) ≤ 39 * k := fun b => bst_le39 o (by
      obtain ⟨m, rfl⟩ := h
      obtain ⟨_, _, _, e⟩ := stand_ins o m b
      exact ⟨m ++ [b], e⟩)
    have h2 : ∀ b, cM ss t b ≤ 39 := fun b => MvI.cM_le o h b
    have := h1 false; have := h1 true; have := h2 false; have := h2 true
    show max _ _ ≤ _
    omega
theorem body_len0 {ss : List Stf} (o : OkN 39 ss) (m : List Bool) : (bodyF ss m).length = m.length + costM ss [] m := by
  have h := body_cost o m []
  have e1 : bodyF ss [] = [] := rfl
  have e2 : tl (longM ss) ([] : List Bool) = [] := tl_id (Nat.zero_le _)
  rw [List.nil_append, e1, e2] at h
  rw [h]
  simp
end U

set_option maxRecDepth 100000
set_option maxHeartbeats 4000000
set_option pp.maxSteps 400
namespace U
open PySem PySem.Spec PyProof.Rows
open L2 hiding Fun CX0 E0 pass0 Fun.binds
open C8 Lx SX StX
section
variable {P : Program} {w : World} {K : PySem.W.Frag} {mg : Str → Option Value} {base : Heap}
theorem sc_law : FnScope ["_law_script", "_law_k", "_law_box", "_law_turn", "_law_told", "_law_made_here", "_law_p", "_law_q", "_law_told_paper", "_law_heights", "_law_base", "_law_unit", "_law_high", "_law_top", "_law_low", "_law_part", "_law_size", "_law_most", "_law_turned", "_law_message"] ["_law_script"] (fnScope s_law) := fnScope_by (by decide +kernel)
theorem ok_law {f C : Addr} {fd : FuncData} (F : Def K mg "law" s_law f fd) (T : Tx mg) (RT : RuT K C)
    (c_l_seed : Cal P w K mg base 1 "_law_seed" (spSeed K) []) (c_l_rule : Cal P w K mg base 4 "_law_rule" spRule []) (c_l_made : Cal P w K mg base 7 "_law_made" (spMade C) []) (c_l_body : Cal P w K mg base 2 "_law_body" spLBody [])
    (c_swapped : Met P w K mg base 7 C "swapped" (spSwapped C) []) (c_most_put : Cal P w K mg base 6 "most_put" (spMostPut C) []) (c_dearest : Cal P w K mg base 6 "dearest" (spDearest C) []) (c_all_put : Cal P w K mg base 6 "all_put" (spAllPut C) []) (c_rate : Cal P w K mg base 6 "rate" (spRate C) []) (c_rate_paper : Cal P w K mg base 7 "rate_paper" (spRatePaper C) []) :
    FnOk P w K mg base CX0 8 f fd ["_law_script"] (spLaw K) := by
  refine fn0 F.fn sc_law (fun vs H Q E h => ?_) (fun cdv A outer s H vs Q E hr h => ?_)
  · obtain ⟨_, _, rfl, _⟩ := h; rfl
  · obtain ⟨a, ns, rfl, hS, hlen, k⟩ := h
    refine ⟨_, (pss_cons (ps_for PassesOwn.never rfl (pi_range1 (by rfl) T.b_range (pa_cons (pe_callB (call_max2 rfl) (by rfl) T.b_max (by decide +kernel) (pa_cons pe_int (pa_cons (pe_callB (call_min2 rfl) (by rfl) T.b_min (by decide +kernel) (pa_cons pe_int (pa_cons (pe_callB call_len_seq (by rfl) T.b_len (by decide +kernel) (pa_cons (pv 0) pa_nil)) pa_nil))) pa_nil))) pa_nil)) (pg_name (i := 1) sc_law.nd rfl (.inl rfl))
    (pss_cons (ps_set (i := 2) sc_law.nd rfl (.inl rfl) (pe_c c_l_seed hr (by decide) rfl (pa_cons (pv 0) (pa_cons (pv 1) pa_nil))))
    (pss_one (ps_for PassesOwn.never rfl (pi_range1 (by rfl) T.b_range (pa_cons pe_int pa_nil)) (pg_name (i := 3) sc_law.nd rfl (.inl rfl))
    (pss_cons (ps_set (i := 4) sc_law.nd rfl (.inl rfl) (pe_c c_l_rule hr (by decide) rfl (pa_cons (pv 2) (pa_cons pe_int (pa_cons pe_int pa_nil)))))
    (pss_cons (ps_set (i := 5) sc_law.nd rfl (.inl rfl) (pe_c c_l_made hr (by decide) rfl (pa_cons (pv 4) pa_nil)))
    (pss_cons (ps_asg (pe_c c_rate hr (by decide) rfl (pa_cons (pv 5) pa_nil)) (pg_tup rfl (pgs_cons (pg_name (i := 6) sc_law.nd rfl (.inl rfl)) (pgs_cons (pg_name (i := 7) sc_law.nd rfl (.inl rfl)) pgs_nil))))
    (pss_cons (ps_set (i := 8) sc_law.nd rfl (.inl rfl) (pe_c c_rate_paper hr (by decide) rfl (pa_cons (pv 5) (pa_cons (pe_tup (pa_cons (pv 6) (pa_cons (pv 7) pa_nil))) pa_nil))))
    (pss_cons (ps_if (pt_cmpR op_isN (pv 8) pe_non (nomark _)) (pss_one (ps_ret pe_bl)) pss_nil)
    (pss_cons (ps_set (i := 9) sc_law.nd rfl (.inl rfl) (pe_callTy (call_dictX rfl) (by rfl) T.b_dict (by decide +kernel) (pa_cons (pv 8) pa_nil)))
    (pss_cons (ps_asg (pe_dget (hu_of hr) (pv 9) pe_str (fun _ _ => rfl)) (pg_tup rfl (pgs_cons (pg_name (i := 10) sc_law.nd rfl (.inl rfl)) (pgs_cons (pg_name (i := 11) sc_law.nd rfl (.inl rfl)) pgs_nil))))
    (pss_cons (ps_set (i := 12) sc_law.nd rfl (.inl rfl) pe_int)
    (pss_cons (ps_lock (ps_for PassesOwn.never rfl (pi_values (pv 9)) (pg_tup rfl (pgs_cons (pg_name (i := 13) sc_law.nd rfl (.inl rfl)) (pgs_cons (pg_name (i := 14) sc_law.nd rfl (.inl rfl)) pgs_nil)))
    (pss_cons (ps_set (i := 15) sc_law.nd rfl (.inl rfl) (pe_op op_fdiv (pe_op op_sub (pe_op op_mul (pv 13) (pv 11)) (pe_op op_mul (pv 10) (pv 14))) (pe_op op_mul (pv 14) (pv 11))))
    (pss_one (ps_set (i := 12) sc_law.nd rfl (.inl rfl) (pe_callB (call_max2 rfl) (by rfl) T.b_max (by decide +kernel) (pa_cons (pv 12) (pa_cons (pe_op op_add (pe_callTy call_int1 (by rfl) T.b_int (by decide +kernel) (pa_cons (pv 15) pa_nil)) pe_int) pa_nil))))))))
    (pss_cons (ps_for PassesOwn.never rfl (pi_tup (pe_tup (pa_cons pe_int (pa_cons pe_int (pa_cons pe_int (pa_cons pe_int (pa_cons pe_int (pa_cons pe_int pa_nil)))))))) (pg_name (i := 16) sc_law.nd rfl (.inl rfl))
    (pss_cons (ps_set (i := 17) sc_law.nd rfl (.inl rfl) (pe_c c_most_put hr (by decide) rfl (pa_cons (pv 5) (pa_cons (pv 16) pa_nil))))
    (pss_cons (ps_if (pt_cmpR op_gt (pe_op op_mul (pv 7) (pv 17)) (pe_op op_add (pe_op op_mul (pv 6) (pv 16)) (pe_op op_mul (pv 7) (pv 12))) (nomark _)) (pss_one (ps_ret pe_bl)) pss_nil)
    (pss_one (ps_if (pt_cmpR op_lt (pe_op op_mul (pv 7) (pv 17)) (pe_op op_mul (pv 6) (pe_op op_sub (pv 16) pe_int)) (nomark _)) (pss_one (ps_ret pe_bl)) pss_nil)))))
    (pss_cons (ps_set (i := 18) sc_law.nd rfl (.inl rfl) (pe_mt0 (pl := _) c_swapped hr (by decide) (pv 5)))
    (pss_cons (ps_if (PW.pt (pw_or (pt_cmpR (op_neD hr.units) (pe_c c_rate hr (by decide) rfl (pa_cons (pv 18) pa_nil)) (pe_tup (pa_cons (pv 6) (pa_cons (pv 7) pa_nil))) (nomark _)) (pw_or1 (pt_cmpR op_ne (pe_c c_most_put hr (by decide) rfl (pa_cons (pv 18) (pa_cons pe_int pa_nil))) (pe_c c_most_put hr (by decide) rfl (pa_cons (pv 5) (pa_cons pe_int pa_nil))) (nomark _))))) (pss_one (ps_ret pe_bl)) pss_nil)
    (pss_cons (ps_if (pt_cmpR op_ne (pe_c c_all_put hr (by decide) rfl (pa_cons (pv 18) (pa_cons pe_int pa_nil))) (pe_c c_all_put hr (by decide) rfl (pa_cons (pv 5) (pa_cons pe_int pa_nil))) (nomark _)) (pss_one (ps_ret pe_bl)) pss_nil)
    (pss_cons (ps_set (i := 19) sc_law.nd rfl (.inl rfl) (pe_c c_dearest hr (by decide) rfl (pa_cons (pv 5) (pa_cons pe_int pa_nil))))
    (pss_one (ps_if (pt_cmpR op_ne (pe_callB call_len_str (by rfl) T.b_len (by decide +kernel) (pa_cons (pe_c c_l_body hr (by decide) rfl (pa_cons (pv 4) (pa_cons (pv 19) pa_nil))) pa_nil)) (pe_op op_add pe_int (pe_c c_most_put hr (by decide) rfl (pa_cons (pv 5) (pa_cons pe_int pa_nil)))) (nomark _)) (pss_one (ps_ret pe_bl)) pss_nil))))))))))))))))))))
    (pss_one (ps_ret pe_bl))), ?_⟩
    refine ⟨_, rfl, a, _, rfl, .inl hS, _, _, rfl, _, _, rfl, _, rfl, by split <;> split <;> omega, by rw [List.length_map]; split <;> split <;> omega, ?_⟩
    refine for_it walk_range (fun i σ H2 => ∃ v1 v2 v3 v4 v5 v6 v7 v8 v9 v10 v11 v12 v13 v14 v15 v16 v17 v18 v19 : Option V, σ = [some (.ref a), v1, v2, v3, v4, v5, v6, v7, v8, v9, v10, v11, v12, v13, v14, v15, v16, v17, v18, v19] ∧ Same H H2) ⟨_, _, _, _, _, _, _, _, _, _, _, _, _, _, _, _, _, _, _, rfl, Same.refl _⟩ (fun _ _ _ _ _ => trivial) ?_ ?_
    · rintro i x σ H2' H2 hi ⟨v1, v2, v3, v4, v5, v6, v7, v8, v9, v10, v11, v12, v13, v14, v15, v16, v17, v18, v19, rfl, s2⟩ ⟨rfl, rfl⟩
      refine ⟨_, rfl, _, rfl, a, ns, i, (by show [V.ref a, V.int (0 + (i : Int))] = _; rw [Int.zero_add]), s2.seq hS, fun bx H1 nb s1 hb => ?_⟩
      refine ⟨_, rfl, by decide, by decide, for_it walk_range (fun j σ H3 => ∃ v1 v3 v4 v5 v6 v7 v8 v9 v10 v11 v12 v13 v14 v15 v16 v17 v18 v19 : Option V, σ = [some (.ref a), v1, some (.ref bx), v3, v4, v5, v6, v7, v8, v9, v10, v11, v12, v13, v14, v15, v16, v17, v18, v19] ∧ Up bx H1 H3) ⟨_, _, _, _, _, _, _, _, _, _, _, _, _, _, _, _, _, _, rfl, Up.refl hb⟩ (fun _ _ _ _ _ => trivial) ?_ ?_⟩
      · rintro j y σ H3' H3 hj ⟨v1, v3, v4, v5, v6, v7, v8, v9, v10, v11, v12, v13, v14, v15, v16, v17, v18, v19, rfl, u3⟩ ⟨rfl, rfl⟩
        refine ⟨_, rfl, bx, 6, 4, rfl, u3.2, by decide, by decide, by decide, by decide, fun t fl ss0 H4 u4 told f2 f6 ss2 ok0 hO0 hlo => ?_⟩
        refine ⟨_, rfl, t, fl, ss0, rfl, told, ok0, hO0.ok, f2, by omega, fun m ss H5 s5 pm srt hR => ?_⟩
        have ok := ok0.perm pm.symm
        have hO : OkS ss := hO0.congr fun l => (put_perm ok.free pm l).symm
        have o39 : OkN 39 ss := OkN.mono hO (by decide)
        have l4 : longM ss ≤ 4 := by
          rw [longM_perm pm]
          exact longM_max fun s hs => hlo s hs
        have u5 := (u3.trans u4).same s5
        have told5 := told.same s5
        have hs1 : ∀ s ∈ ss0, s.1.length ≤ 1000 := fun s hs => Nat.le_trans (hlo s hs) (by decide)
        have ss0l : ss0.length ≤ 1000 := by omega
        refine ⟨_, rfl, m, fl, ss, rfl, hR, ok, o39, fun tv p q H6 ntv s6 htv hL q9 => ?_⟩
        have hq0 := hL.1.pos
        have hR6 := hR.same s6
        refine ⟨tv, _, rfl, SqT.of htv, rfl, _, _, rfl, _, _, rfl, rfl, ?_⟩
        refine ⟨_, rfl, _, rfl, _, rfl, by show 2 ≤ sizeLine; decide, fun t2 nt2 => ?_⟩
        have s7 := same_upd (o := .tup [.int (p : Nat), .int (q : Nat)]) nt2
        have ht2 : upd H6 t2 (.tup [.int (p : Nat), .int (q : Nat)]) t2 = some (.tup [.int (p : Nat), .int (q : Nat)]) := upd_same
        generalize upd H6 t2 (.tup [.int (p : Nat), .int (q : Nat)]) = H7 at s7 ht2
        have hR7 := hR6.same s7
        refine ⟨m, t2, fl, ss, p, q, rfl, hR7, ok, o39, by omega, ht2, hq0, by omega, fun r s hL2 s9 => ?_⟩
        obtain ⟨rfl, rfl⟩ := hL.uniq hL2
        refine ⟨fun z => absurd (Int.le_refl _) z, fun _ tp ws h H8 ntp s8 hW hRt hPap => ?_⟩
        refine ⟨_, rfl, rfl, _, rfl, iteF ?_⟩
        have hR8 := hR7.same s8
        have s58 := (s6.trans s7).trans s8
        have u8 := u5.same s58
        have told8 := told5.same s58
        clear s6 s7 s58 hR7 hR6 hR u5 told5 told u4 ht2 nt2 htv ntv
        have lws : ws.length ≤ 31 := by
          have := words_le hW.nd (n := 4) fun w hw => by
            obtain ⟨m, rfl⟩ := hW.g w hw
            exact Nat.le_trans (tl_le _ _) l4
          have e : 2 ^ (4 + 1) = 32 := rfl
          omega
        have hQ9 : ∀ w, 0 < hQ h q w ∧ hQ h q w ≤ 1023 := fun w => by
          obtain ⟨g, _, _, _, y1, y2, y3⟩ := hPQ (h := h) hq0 w
          exact ⟨y1, by omega⟩
        obtain ⟨es, fo, hx, les, hE⟩ := hPap.fo hW.nd
        refine ⟨_, rfl, tp, es, _, rfl, hx, by rw [les]; exact sl_len (by omega), pairedE les (fun i e w e1 e2 => (hE i e w e1 e2).1), fun d nd => ?_⟩
        have em : mergeK [] (kvw ws fun w => V.ref (fo w)) = kvw ws fun w => V.ref (fo w) := merge_kvw (g := fun w => V.ref (fo w)) ws [] hW.nd
        rw [em]
        have hfo : ∀ w ∈ ws, H8 (fo w) = some (.tup [.int (hP h q w), .int (hQ h q w)]) := fun w hw => by
          obtain ⟨i0, hi0⟩ := List.getElem?_of_mem hw
          have hl := (List.getElem?_eq_some_iff.mp hi0).1
          exact (hE i0 (es[i0]'(by omega)) w (List.getElem?_eq_getElem (by omega)) hi0).2
        have sd := same_upd (o := .dK (kvw ws fun w => .ref (fo w))) nd
        have hd : upd H8 d (.dK (kvw ws fun w => .ref (fo w))) d = some (.dK (kvw ws fun w => .ref (fo w))) := upd_same
        generalize upd H8 d (.dK (kvw ws fun w => .ref (fo w))) = H9 at sd hd
        have hfo9 : ∀ w ∈ ws, H9 (fo w) = some (.tup [.int (hP h q w), .int (hQ h q w)]) := fun w hw => sd _ _ (hfo w hw)
        have hR9 := hR8.same sd
        have u9 := u8.same sd
        have told9 := told8.same sd
        clear sd hR8 u8 told8 hfo hE hx s8 ntp
        have hdg : DGet H9 d (.str "") (some (.ref (fo []))) := .inl ⟨_, .inr (W []), .inl hd, by rw [W_nil]; rfl, by rw [kvw_val, if_pos hW.nil]⟩
        refine ⟨_, rfl, d, _, rfl, hdg, fo [], _, rfl, SqT.of (hfo9 [] hW.nil), rfl, _, _, rfl, _, _, rfl, rfl, ?_⟩
        refine ⟨d, _, hd, trivial, fun od => ?_⟩
        have hdf : upd H9 d (.frz od (.dK (kvw ws fun w => .ref (fo w)))) d = some (.frz od (.dK (kvw ws fun w => .ref (fo w)))) := upd_same
        have un1 : ∀ {H'}, Same (upd H9 d (.frz od (.dK (kvw ws fun w => .ref (fo w))))) H' → Same H9 (upd H' d (.dK (kvw ws fun w => .ref (fo w)))) := fun s => same_unlock s hd
        have hfoL : ∀ w ∈ ws, upd H9 d (.frz od (.dK (kvw ws fun w => .ref (fo w)))) (fo w) = some (.tup [.int (hP h q w), .int (hQ h q w)]) := fun w hw => by
          rw [upd_ne (ne_of (hfo9 w hw) hd (by intro z; cases z))]
          exact hfo9 w hw
        generalize upd H9 d (.frz od (.dK (kvw ws fun w => .ref (fo w)))) = H10 at hdf un1 hfoL ⊢
        refine ⟨_, rfl, d, od, _, rfl, hdf, ?_⟩
        refine for_it (walk_values (kvs := kvw ws fun w => .ref (fo w))) (fun i σ H11 => ∃ (hi : Int) (v1 v3 v13 v14 v15 v16 v17 v18 v19 : Option V), σ = [some (.ref a), v1, some (.ref bx), v3, some (.ref t), some (.ref m), some (.int (p : Nat)), some (.int (q : Nat)), some (.ref tp), some (.ref d), some (.int (hP h q [])), some (.int (hQ h q [])), some (.int hi), v13, v14, v15, v16, v17, v18, v19] ∧ Same H10 H11 ∧ 0 ≤ hi ∧ ∀ w ∈ ws.take i, (hP h q w * hQ h q [] - hP h q [] * hQ h q w) / (hQ h q w * hQ h q []) + 1 ≤ hi)
          ⟨0, _, _, _, _, _, _, _, _, _, rfl, Same.refl _, Int.le_refl _, fun w hw => by simp at hw⟩ (fun i σ H11 _ h11 => by obtain ⟨_, _, _, _, _, _, _, _, _, _, _, h, _⟩ := h11; exact h _ _ hdf) ?_ ?_
        · rintro i2 x σ H11' H11 hi2 ⟨hg, v1, v3, v13, v14, v15, v16, v17, v18, v19, rfl, s11, h0, hall⟩ ⟨rfl, kk, hkv⟩
          obtain ⟨u, hu, rfl, rfl⟩ := kvw_get hkv
          have hum := List.mem_of_getElem? hu
          obtain ⟨q1, q2⟩ := hQ9 u
          obtain ⟨q3, q4⟩ := hQ9 []
          have m0 : 0 < hQ h q u * hQ h q [] := Int.mul_pos q1 q3
          have m1 : hQ h q u * hQ h q [] ≤ 1023 * 1023 := Int.mul_le_mul q2 q4 (Int.le_of_lt q3) (by decide)
          refine ⟨fo u, _, rfl, SqT.of (s11 _ _ (hfoL u hum)), rfl, _, _, rfl, _, _, rfl, rfl, ?_⟩
          refine ⟨_, rfl, _, rfl, _, _, rfl, rfl, .inr ⟨by omega, by omega⟩, ?_⟩
          refine ⟨_, rfl, _, rfl, _, _, rfl, rfl, .inr ⟨by omega, by omega⟩, _, _, rfl, rfl, ?_⟩
          refine ⟨_, rfl, _, rfl, _, _, rfl, rfl, .inr ⟨by omega, by omega⟩, _, _, rfl, rfl, ⟨m0, by omega⟩, ?_⟩
          refine ⟨_, rfl, _, rfl, .inl ⟨_, rfl, _, _, rfl, rfl, _, _, rfl, ?_⟩⟩
          refine ⟨_, _, _, _, _, _, _, _, _, _, rfl, s11, ?_, fun w hw => ?_⟩
          · split <;> omega
          · rw [take_snoc hu] at hw
            rcases List.mem_append.mp hw with hw | hw
            · have := hall w hw
              split <;> omega
            · have ew := List.mem_singleton.mp hw
              subst ew
              split <;> omega
        · rintro σ H11 ⟨hg, v1, v3, v13, v14, v15, v16, v17, v18, v19, rfl, s11, h0, hall⟩
          rw [kvw_len, List.take_length] at hall
          have s12 := un1 s11
          refine ⟨s11 _ _ hdf, ?_⟩
          generalize upd H11 d (.dK (kvw ws fun w => .ref (fo w))) = H12 at s12 ⊢
          have hR12 := hR9.same s12
          have u12 := u9.same s12
          have told12 := told9.same s12
          clear hfoL un1 hdf s12 s11 hR9 u9 told9
          have hup := fun n => high_up hq0 hW hRt hall n
          refine ⟨by show 6 ≤ sizeLine; decide, fun tq ntq => ?_⟩
          have stq := same_upd (o := .tup [.int 0, .int 1, .int 7, .int 40, .int 150, .int 300]) ntq
          have htq : upd H12 tq (.tup [.int 0, .int 1, .int 7, .int 40, .int 150, .int 300]) tq = some (.tup [.int 0, .int 1, .int 7, .int 40, .int 150, .int 300]) := upd_same
          generalize upd H12 tq (.tup [.int 0, .int 1, .int 7, .int 40, .int 150, .int 300]) = H13 at stq htq ⊢
          have hR13 := hR12.same stq
          have u13 := u12.same stq
          have told13 := told12.same stq
          clear hR12 u12 told12 stq ntq
          have hsz : ∀ x ∈ [V.int 0, .int 1, .int 7, .int 40, .int 150, .int 300], ∃ n : Nat, x = .int n ∧ n ≤ 300 := by
            intro x hx
            simp only [List.mem_cons, List.not_mem_nil, or_false] at hx
            rcases hx with rfl | rfl | rfl | rfl | rfl | rfl
            · exact ⟨0, rfl, by omega⟩
            · exact ⟨1, rfl, by omega⟩
            · exact ⟨7, rfl, by omega⟩
            · exact ⟨40, rfl, by omega⟩
            · exact ⟨150, rfl, by omega⟩
            · exact ⟨300, rfl, by omega⟩
          refine ⟨tq, rfl, ⟨_, SqT.of htq⟩, ?_⟩
          refine for_it (walk_tup (xs := [.int 0, .int 1, .int 7, .int 40, .int 150, .int 300])) (fun i σ H14 => ∃ (v1 v3 v13 v14 v15 v16 v17 v18 v19 : Option V), σ = [some (.ref a), v1, some (.ref bx), v3, some (.ref t), some (.ref m), some (.int (p : Nat)), some (.int (q : Nat)), some (.ref tp), some (.ref d), some (.int (hP h q [])), some (.int (hQ h q [])), some (.int hg), v13, v14, v15, v16, v17, v18, v19] ∧ Same H13 H14)
            ⟨_, _, _, _, _, _, _, _, _, rfl, Same.refl _⟩ (fun i σ H14 _ h14 => by obtain ⟨_, _, _, _, _, _, _, _, _, _, h⟩ := h14; exact SqT.of (h _ _ htq)) ?_ ?_
          · rintro i3 x σ H14' H14 hi3 ⟨v1, v3, v13, v14, v15, v16, v17, v18, v19, rfl, s14⟩ ⟨rfl, hx⟩
            obtain ⟨n, rfl, hn⟩ := hsz x (List.mem_of_getElem? hx)
            have hR14 := hR13.same s14
            refine ⟨_, rfl, _, rfl, m, fl, ss, n, rfl, hR14, ok, o39, by omega, fun H15 s15 => ?_⟩
            refine ⟨_, rfl, _, rfl, _, _, rfl, rfl, .inl ⟨by omega, by omega⟩, ?_⟩
            refine ⟨_, rfl, _, rfl, _, _, rfl, rfl, .inr ⟨by omega, by omega⟩, ?_⟩
            refine ⟨_, rfl, _, rfl, _, _, rfl, rfl, .inl ⟨by omega, by omega⟩, _, _, rfl, rfl, _, _, rfl, rfl, _, rfl, ?_⟩
            have hu1 := hup n
            refine iteDF (by omega) ?_
            refine ⟨_, rfl, _, rfl, _, _, rfl, rfl, .inl ⟨by omega, by omega⟩, ?_⟩
            refine ⟨_, rfl, _, rfl, _, _, rfl, rfl, _, _, rfl, rfl, .inr ⟨by omega, by omega⟩, _, _, rfl, rfl, _, rfl, ?_⟩
            have hlo2 : ((p : Nat) : Int) * ((n : Nat) - 64) ≤ (q : Nat) * (bstM ss n [] : Nat) := by
              by_cases c : 64 ≤ n
              · have := most_low2 hW lws hL.1 n c
                have e : ((p : Nat) : Int) * ((n : Nat) - 64) = ((p * (n - 64) : Nat) : Int) := by rw [Int.natCast_mul]; congr 1; omega
                rw [e, ← Int.natCast_mul, Nat.mul_comm q]
                exact Int.ofNat_le.mpr this
              · have h1 : ((p : Nat) : Int) * ((n : Nat) - 64) ≤ 0 := Int.mul_nonpos_of_nonneg_of_nonpos (by omega) (by omega)
                have h2 : (0 : Int) ≤ (q : Nat) * (bstM ss n [] : Nat) := Int.mul_nonneg (by omega) (by omega)
                omega
            refine iteDF (by show ¬ _ < _; omega) ?_
            exact ⟨_, _, _, _, _, _, _, _, _, rfl, s14.trans s15⟩
          · rintro σ H14 ⟨v1, v3, v13, v14, v15, v16, v17, v18, v19, rfl, s14⟩
            have hR14 := hR13.same s14
            have u14 := u13.same s14
            have told14 := told13.same s14
            clear hR13 u13 told13 htq s14
            obtain ⟨dx, tx, hm⟩ := hR14.few
            refine ⟨_, rfl, m, dx, _, rfl, hm, ruF_no _ _ (by decide +kernel) (by decide +kernel), m, fl, ss, rfl, hR14, ok, hO.ok, f2, by omega, fun x3 st3 H15 s15 pm3 srt3 hN3 => ?_⟩
            have okt := ok.sw.perm pm3.symm
            have cgt : ∀ l, putM (ss.map swS) l = putM st3 l := fun l => (put_perm okt.free pm3 l).symm
            have lgt : longM (ss.map swS) = longM st3 := (longM_perm pm3).symm
            have o39t : OkN 39 st3 := o39.sw.congr cgt
            refine ⟨_, rfl, x3, sw fl, st3, rfl, hN3, okt, o39t, fun t4 p4 q4 H16 nt4 s16 ht4 hL4 q49 => ?_⟩
            have hLs : RateL st3 p q := ⟨RateR.perm cgt lgt (RateR.sw1 o39 hL.1), hL.2⟩
            obtain ⟨rfl, rfl⟩ := hLs.uniq hL4
            refine ⟨_, rfl, _, rfl, by show 2 ≤ sizeLine; decide, fun t5 nt5 => ?_⟩
            have s17 := same_upd (o := .tup [.int (p : Nat), .int (q : Nat)]) nt5
            have ht5 : upd H16 t5 (.tup [.int (p : Nat), .int (q : Nat)]) t5 = some (.tup [.int (p : Nat), .int (q : Nat)]) := upd_same
            have ht4' := s17 _ _ ht4
            generalize upd H16 t5 (.tup [.int (p : Nat), .int (q : Nat)]) = H17 at s17 ht5 ht4' ⊢
            have s1617 := s16.trans s17
            have hN17 := hN3.same s1617
            have s1417 := s15.trans s1617
            have hR17 := hR14.same s1417
            have u17 := u14.same s1417
            have told17 := told14.same s1417
            refine ⟨.tuple [.int p, .int q], .tuple [.int p, .int q], .tup (SqT.of ht4') (.cons (.int _) (.cons (.int _) .nil)), .tup (SqT.of ht5) (.cons (.int _) (.cons (.int _) .nil)), rfl, rfl, ?_⟩
            rw [SeqAt.eqv_refl (.tuple [.int p, .int q]) rfl]
            refine ⟨_, rfl, iteF ?_⟩
            have ebt : ∀ n, bstM st3 n [] = bstM ss n [] := fun n => by rw [← bst_perm cgt lgt, bst_sw o39]
            have eat : ∀ n, allM st3 n [] = allM ss n [] := fun n => by rw [← all_perm cgt lgt, all_sw o39]
            clear s1617 s1417 ht4 ht4' ht5 s16 s17 s15 hR14 u14 told14 hm
            obtain ⟨n50, e50⟩ : ∃ z : Nat, z = 50 := ⟨_, rfl⟩
            obtain ⟨n20, e20⟩ : ∃ z : Nat, z = 20 := ⟨_, rfl⟩
            obtain ⟨n30, e30⟩ : ∃ z : Nat, z = 30 := ⟨_, rfl⟩
            refine ⟨_, rfl, x3, sw fl, st3, n50, (by rw [e50]; rfl), hN17, okt, o39t, by omega, fun H18 s18 => ?_⟩
            refine ⟨_, rfl, m, fl, ss, n50, (by rw [e50]; rfl), hR17.same s18, ok, o39, by omega, fun H19 s19 => ?_⟩
            refine ⟨rfl, _, rfl, iteNS (by rw [ebt]) ?_⟩
            refine ⟨_, rfl, x3, sw fl, st3, n20, (by rw [e20]; rfl), (hN17.same s18).same s19, okt, o39t, by omega, fun H20 s20 => ?_⟩
            have s20' := (s18.trans s19).trans s20
            refine ⟨_, rfl, m, fl, ss, n20, (by rw [e20]; rfl), hR17.same s20', ok, o39, by omega, fun H21 s21 => ?_⟩
            refine ⟨rfl, _, rfl, iteNS (by rw [eat]) ?_⟩
            have s21' := s20'.trans s21
            refine ⟨_, rfl, m, fl, ss, n30, (by rw [e30]; rfl), hR17.same s21', ok, o39, by omega, fun H22 s22 => ?_⟩
            have s22' := s21'.trans s22
            refine ⟨_, rfl, _, rfl, t, fl, dearM ss n30 [], ss0, rfl, told17.same s22', by rw [dear_len]; omega, ss0l, hs1, hO0, fun l H23 hB hl s23 => ?_⟩
            have s23' := s22'.trans s23
            have el : l = bodyF ss (dearM ss n30 []) := by
              exact (hB.congr fun l => (put_perm ok.free pm l).symm).isF o39
            have ell : l.length = n30 + bstM ss n30 [] := by rw [el, body_len0 o39, dear_cost, dear_len]
            have hb39 := bst_le39 o39 (k := n30) (t := []) ⟨[], (tl_id (Nat.zero_le (longM ss))).symm⟩
            refine ⟨_, rfl, by rw [W_len]; exact sl_len (by omega), ?_⟩
            refine ⟨_, rfl, m, fl, ss, n30, (by rw [e30]; rfl), hR17.same s23', ok, o39, by omega, fun H24 s24 => ?_⟩
            refine ⟨_, _, rfl, rfl, rfl, _, rfl, iteNS (by rw [W_len, ell, e30]; rfl) ?_⟩
            exact ⟨_, _, _, _, _, _, _, _, _, _, _, _, _, _, _, _, _, _, rfl, u17.same (s23'.trans s24)⟩
      · rintro σ H3 ⟨v1, v3, v4, v5, v6, v7, v8, v9, v10, v11, v12, v13, v14, v15, v16, v17, v18, v19, rfl, u3⟩
        exact ⟨_, _, _, _, _, _, _, _, _, _, _, _, _, _, _, _, _, _, _, rfl, fun c o e => u3.1 _ _ (s1 _ _ (s2 _ _ e)) (ne_of_none e (s2.free nb))⟩
    · rintro σ H2 ⟨v1, v2, v3, v4, v5, v6, v7, v8, v9, v10, v11, v12, v13, v14, v15, v16, v17, v18, v19, rfl, s2⟩
      exact k H2
end
end U

set_option maxRecDepth 100000
set_option maxHeartbeats 4000000
namespace U
open PySem PySem.Spec PyProof.Rows
open L2 hiding Fun CX0 E0 pass0 Fun.binds
open C8 Lx
theorem all_mk {l : PySem.W.OpenLaw} {w : World} {K : PySem.W.Frag} {h : Heap} {mg : Str → Option Value} {fa : Addr} (X : K.In h) (G : h.Ns mainGlobals mg) (hfa : mg "law" = some (.ref fa))
    {f_is_sequence : Addr} {od_is_sequence an_is_sequence : Option Addr} {sl_is_sequence : Array (Option Value)} {oc_is_sequence kV_is_sequence dc_is_sequence pm_is_sequence cd_is_sequence ct_is_sequence : Value}
    {f_is_word : Addr} {od_is_word an_is_word : Option Addr} {sl_is_word : Array (Option Value)} {oc_is_word kV_is_word dc_is_word pm_is_word cd_is_word ct_is_word : Value}
    {f_is_bit : Addr} {od_is_bit an_is_bit : Option Addr} {sl_is_bit : Array (Option Value)} {oc_is_bit kV_is_bit dc_is_bit pm_is_bit cd_is_bit ct_is_bit : Value}
    {f_other : Addr} {od_other an_other : Option Addr} {sl_other : Array (Option Value)} {oc_other kV_other dc_other pm_other cd_other ct_other : Value}
    {f_swapped_word : Addr} {od_swapped_word an_swapped_word : Option Addr} {sl_swapped_word : Array (Option Value)} {oc_swapped_word kV_swapped_word dc_swapped_word pm_swapped_word cd_swapped_word ct_swapped_word : Value}
    {f_tail : Addr} {od_tail an_tail : Option Addr} {sl_tail : Array (Option Value)} {oc_tail kV_tail dc_tail pm_tail cd_tail ct_tail : Value}
    {f_common : Addr} {od_common an_common : Option Addr} {sl_common : Array (Option Value)} {oc_common kV_common dc_common pm_common cd_common ct_common : Value}
    {f_lowest : Addr} {od_lowest an_lowest : Option Addr} {sl_lowest : Array (Option Value)} {oc_lowest kV_lowest dc_lowest pm_lowest cd_lowest ct_lowest : Value}
    {f_move : Addr} {od_move an_move : Option Addr} {sl_move : Array (Option Value)} {oc_move kV_move dc_move pm_move cd_move ct_move : Value}
    {f_moves_of : Addr} {od_moves_of an_moves_of : Option Addr} {sl_moves_of : Array (Option Value)} {oc_moves_of kV_moves_of dc_moves_of pm_moves_of cd_moves_of ct_moves_of : Value}
    {f_best_left : Addr} {od_best_left an_best_left : Option Addr} {sl_best_left : Array (Option Value)} {oc_best_left kV_best_left dc_best_left pm_best_left cd_best_left ct_best_left : Value}
    {f_most_put : Addr} {od_most_put an_most_put : Option Addr} {sl_most_put : Array (Option Value)} {oc_most_put kV_most_put dc_most_put pm_most_put cd_most_put ct_most_put : Value}
    {f_dearest : Addr} {od_dearest an_dearest : Option Addr} {sl_dearest : Array (Option Value)} {oc_dearest kV_dearest dc_dearest pm_dearest cd_dearest ct_dearest : Value}
    {f_all_put : Addr} {od_all_put an_all_put : Option Addr} {sl_all_put : Array (Option Value)} {oc_all_put kV_all_put dc_all_put pm_all_put cd_all_put ct_all_put : Value}
    {f_walks : Addr} {od_walks an_walks : Option Addr} {sl_walks : Array (Option Value)} {oc_walks kV_walks dc_walks pm_walks cd_walks ct_walks : Value}
    {f_least_of : Addr} {od_least_of an_least_of : Option Addr} {sl_least_of : Array (Option Value)} {oc_least_of kV_least_of dc_least_of pm_least_of cd_least_of ct_least_of : Value}
    {f_rate : Addr} {od_rate an_rate : Option Addr} {sl_rate : Array (Option Value)} {oc_rate kV_rate dc_rate pm_rate cd_rate ct_rate : Value}
    {f_is_at_most : Addr} {od_is_at_most an_is_at_most : Option Addr} {sl_is_at_most : Array (Option Value)} {oc_is_at_most kV_is_at_most dc_is_at_most pm_is_at_most cd_is_at_most ct_is_at_most : Value}
    {f_rate_paper : Addr} {od_rate_paper an_rate_paper : Option Addr} {sl_rate_paper : Array (Option Value)} {oc_rate_paper kV_rate_paper dc_rate_paper pm_rate_paper cd_rate_paper ct_rate_paper : Value}
    {f_is_stuff : Addr} {od_is_stuff an_is_stuff : Option Addr} {sl_is_stuff : Array (Option Value)} {oc_is_stuff kV_is_stuff dc_is_stuff pm_is_stuff cd_is_stuff ct_is_stuff : Value}
    {f_are_stuffs : Addr} {od_are_stuffs an_are_stuffs : Option Addr} {sl_are_stuffs : Array (Option Value)} {oc_are_stuffs kV_are_stuffs dc_are_stuffs pm_are_stuffs cd_are_stuffs ct_are_stuffs : Value}
    {f_l_seed : Addr} {od_l_seed an_l_seed : Option Addr} {sl_l_seed : Array (Option Value)} {oc_l_seed kV_l_seed dc_l_seed pm_l_seed cd_l_seed ct_l_seed : Value}
    {f_l_choose : Addr} {od_l_choose an_l_choose : Option Addr} {sl_l_choose : Array (Option Value)} {oc_l_choose kV_l_choose dc_l_choose pm_l_choose cd_l_choose ct_l_choose : Value}
    {f_l_one_of : Addr} {od_l_one_of an_l_one_of : Option Addr} {sl_l_one_of : Array (Option Value)} {oc_l_one_of kV_l_one_of dc_l_one_of pm_l_one_of cd_l_one_of ct_l_one_of : Value}
    {f_l_word : Addr} {od_l_word an_l_word : Option Addr} {sl_l_word : Array (Option Value)} {oc_l_word kV_l_word dc_l_word pm_l_word cd_l_word ct_l_word : Value}
    {f_l_put : Addr} {od_l_put an_l_put : Option Addr} {sl_l_put : Array (Option Value)} {oc_l_put kV_l_put dc_l_put pm_l_put cd_l_put ct_l_put : Value}
    {f_l_is_rule : Addr} {od_l_is_rule an_l_is_rule : Option Addr} {sl_l_is_rule : Array (Option Value)} {oc_l_is_rule kV_l_is_rule dc_l_is_rule pm_l_is_rule cd_l_is_rule ct_l_is_rule : Value}
    {f_l_rule : Addr} {od_l_rule an_l_rule : Option Addr} {sl_l_rule : Array (Option Value)} {oc_l_rule kV_l_rule dc_l_rule pm_l_rule cd_l_rule ct_l_rule : Value}
    {f_l_made : Addr} {od_l_made an_l_made : Option Addr} {sl_l_made : Array (Option Value)} {oc_l_made kV_l_made dc_l_made pm_l_made cd_l_made ct_l_made : Value}
    {f_l_body : Addr} {od_l_body an_l_body : Option Addr} {sl_l_body : Array (Option Value)} {oc_l_body kV_l_body dc_l_body pm_l_body cd_l_body ct_l_body : Value}
    {f_law : Addr} {od_law an_law : Option Addr} {sl_law : Array (Option Value)} {oc_law kV_law dc_law pm_law cd_law ct_law : Value}
    {C_Rule : Addr}
    {f_Rule_put : Addr} {od_Rule_put an_Rule_put : Option Addr} {sl_Rule_put : Array (Option Value)} {oc_Rule_put kV_Rule_put dc_Rule_put pm_Rule_put cd_Rule_put ct_Rule_put : Value}
    {f_Rule_longest : Addr} {od_Rule_longest an_Rule_longest : Option Addr} {sl_Rule_longest : Array (Option Value)} {oc_Rule_longest kV_Rule_longest dc_Rule_longest pm_Rule_longest cd_Rule_longest ct_Rule_longest : Value}
    {p_Rule_longest : Addr} {pr_Rule_longest : List Value}
    {f_Rule_put_in : Addr} {od_Rule_put_in an_Rule_put_in : Option Addr} {sl_Rule_put_in : Array (Option Value)} {oc_Rule_put_in kV_Rule_put_in dc_Rule_put_in pm_Rule_put_in cd_Rule_put_in ct_Rule_put_in : Value}
    {f_Rule_is_endless : Addr} {od_Rule_is_endless an_Rule_is_endless : Option Addr} {sl_Rule_is_endless : Array (Option Value)} {oc_Rule_is_endless kV_Rule_is_endless dc_Rule_is_endless pm_Rule_is_endless cd_Rule_is_endless ct_Rule_is_endless : Value}
    {f_Rule_init : Addr} {od_Rule_init an_Rule_init : Option Addr} {sl_Rule_init : Array (Option Value)} {oc_Rule_init kV_Rule_init dc_Rule_init pm_Rule_init cd_Rule_init ct_Rule_init : Value}
    {dT_Rule_init : Addr} {dd_Rule_init : Option Addr} {dn_Rule_init : Nat} {ds_Rule_init : Array (Option Value)} {dE_R : Addr} {dde_R : Option Addr} {dne_R : Nat} {dse_R : Array (Option Value)}
    {f_Rule_swapped : Addr} {od_Rule_swapped an_Rule_swapped : Option Addr} {sl_Rule_swapped : Array (Option Value)} {oc_Rule_swapped kV_Rule_swapped dc_Rule_swapped pm_Rule_swapped cd_Rule_swapped ct_Rule_swapped : Value}
    {tB : Tok}
    (a_is_sequence : PySem.W.nsIn K mainGlobals "is_sequence" = some (some (.ref f_is_sequence)))
    (l_is_sequence : K.lookup f_is_sequence = some ⟨oc_is_sequence, od_is_sequence, .func (PySem.W.fnOf "is_sequence" "is_sequence" (fnArgs s_is_sequence) (fnBody s_is_sequence) (fnScope s_is_sequence) .none kV_is_sequence dc_is_sequence pm_is_sequence an_is_sequence cd_is_sequence ct_is_sequence), sl_is_sequence⟩)
    (c_is_sequence : PySem.W.codeIn K cd_is_sequence "is_sequence" = true)
    (k_is_sequence : PySem.W.keepIn K (.ref f_is_sequence) = true)
    (a_is_word : PySem.W.nsIn K mainGlobals "is_word" = some (some (.ref f_is_word)))
    (l_is_word : K.lookup f_is_word = some ⟨oc_is_word, od_is_word, .func (PySem.W.fnOf "is_word" "is_word" (fnArgs s_is_word) (fnBody s_is_word) (fnScope s_is_word) .none kV_is_word dc_is_word pm_is_word an_is_word cd_is_word ct_is_word), sl_is_word⟩)
    (c_is_word : PySem.W.codeIn K cd_is_word "is_word" = true)
    (k_is_word : PySem.W.keepIn K (.ref f_is_word) = true)
    (a_is_bit : PySem.W.nsIn K mainGlobals "is_bit" = some (some (.ref f_is_bit)))
    (l_is_bit : K.lookup f_is_bit = some ⟨oc_is_bit, od_is_bit, .func (PySem.W.fnOf "is_bit" "is_bit" (fnArgs s_is_bit) (fnBody s_is_bit) (fnScope s_is_bit) .none kV_is_bit dc_is_bit pm_is_bit an_is_bit cd_is_bit ct_is_bit), sl_is_bit⟩)
    (c_is_bit : PySem.W.codeIn K cd_is_bit "is_bit" = true)
    (k_is_bit : PySem.W.keepIn K (.ref f_is_bit) = true)
    (a_other : PySem.W.nsIn K mainGlobals "other" = some (some (.ref f_other)))
    (l_other : K.lookup f_other = some ⟨oc_other, od_other, .func (PySem.W.fnOf "other" "other" (fnArgs s_other) (fnBody s_other) (fnScope s_other) .none kV_other dc_other pm_other an_other cd_other ct_other), sl_other⟩)
    (c_other : PySem.W.codeIn K cd_other "other" = true)
    (k_other : PySem.W.keepIn K (.ref f_other) = true)
    (a_swapped_word : PySem.W.nsIn K mainGlobals "swapped_word" = some (some (.ref f_swapped_word)))
    (l_swapped_word : K.lookup f_swapped_word = some ⟨oc_swapped_word, od_swapped_word, .func (PySem.W.fnOf "swapped_word" "swapped_word" (fnArgs s_swapped_word) (fnBody s_swapped_word) (fnScope s_swapped_word) .none kV_swapped_word dc_swapped_word pm_swapped_word an_swapped_word cd_swapped_word ct_swapped_word), sl_swapped_word⟩)
    (c_swapped_word : PySem.W.codeIn K cd_swapped_word "swapped_word" = true)
    (k_swapped_word : PySem.W.keepIn K (.ref f_swapped_word) = true)
    (a_tail : PySem.W.nsIn K mainGlobals "tail" = some (some (.ref f_tail)))
    (l_tail : K.lookup f_tail = some ⟨oc_tail, od_tail, .func (PySem.W.fnOf "tail" "tail" (fnArgs s_tail) (fnBody s_tail) (fnScope s_tail) .none kV_tail dc_tail pm_tail an_tail cd_tail ct_tail), sl_tail⟩)
    (c_tail : PySem.W.codeIn K cd_tail "tail" = true)
    (k_tail : PySem.W.keepIn K (.ref f_tail) = true)
    (a_common : PySem.W.nsIn K mainGlobals "common" = some (some (.ref f_common)))
    (l_common : K.lookup f_common = some ⟨oc_common, od_common, .func (PySem.W.fnOf "common" "common" (fnArgs s_common) (fnBody s_common) (fnScope s_common) .none kV_common dc_common pm_common an_common cd_common ct_common), sl_common⟩)
    (c_common : PySem.W.codeIn K cd_common "common" = true)
    (k_common : PySem.W.keepIn K (.ref f_common) = true)
    (a_lowest : PySem.W.nsIn K mainGlobals "lowest" = some (some (.ref f_lowest)))
    (l_lowest : K.lookup f_lowest = some ⟨oc_lowest, od_lowest, .func (PySem.W.fnOf "lowest" "lowest" (fnArgs s_lowest) (fnBody s_lowest) (fnScope s_lowest) .none kV_lowest dc_lowest pm_lowest an_lowest cd_lowest ct_lowest), sl_lowest⟩)
    (c_lowest : PySem.W.codeIn K cd_lowest "lowest" = true)
    (k_lowest : PySem.W.keepIn K (.ref f_lowest) = true)
    (a_move : PySem.W.nsIn K mainGlobals "move" = some (some (.ref f_move)))
    (l_move : K.lookup f_move = some ⟨oc_move, od_move, .func (PySem.W.fnOf "move" "move" (fnArgs s_move) (fnBody s_move) (fnScope s_move) .none kV_move dc_move pm_move an_move cd_move ct_move), sl_move⟩)
    (c_move : PySem.W.codeIn K cd_move "move" = true)
    (k_move : PySem.W.keepIn K (.ref f_move) = true)
    (a_moves_of : PySem.W.nsIn K mainGlobals "moves_of" = some (some (.ref f_moves_of)))
    (l_moves_of : K.lookup f_moves_of = some ⟨oc_moves_of, od_moves_of, .func (PySem.W.fnOf "moves_of" "moves_of" (fnArgs s_moves_of) (fnBody s_moves_of) (fnScope s_moves_of) .none kV_moves_of dc_moves_of pm_moves_of an_moves_of cd_moves_of ct_moves_of), sl_moves_of⟩)
    (c_moves_of : PySem.W.codeIn K cd_moves_of "moves_of" = true)
    (k_moves_of : PySem.W.keepIn K (.ref f_moves_of) = true)
    (a_best_left : PySem.W.nsIn K mainGlobals "best_left" = some (some (.ref f_best_left)))
    (l_best_left : K.lookup f_best_left = some ⟨oc_best_left, od_best_left, .func (PySem.W.fnOf "best_left" "best_left" (fnArgs s_best_left) (fnBody s_best_left) (fnScope s_best_left) .none kV_best_left dc_best_left pm_best_left an_best_left cd_best_left ct_best_left), sl_best_left⟩)
    (c_best_left : PySem.W.codeIn K cd_best_left "best_left" = true)
    (k_best_left : PySem.W.keepIn K (.ref f_best_left) = true)
    (a_most_put : PySem.W.nsIn K mainGlobals "most_put" = some (some (.ref f_most_put)))
    (l_most_put : K.lookup f_most_put = some ⟨oc_most_put, od_most_put, .func (PySem.W.fnOf "most_put" "most_put" (fnArgs s_most_put) (fnBody s_most_put) (fnScope s_most_put) .none kV_most_put dc_most_put pm_most_put an_most_put cd_most_put ct_most_put), sl_most_put⟩)
    (c_most_put : PySem.W.codeIn K cd_most_put "most_put" = true)
    (k_most_put : PySem.W.keepIn K (.ref f_most_put) = true)
    (a_dearest : PySem.W.nsIn K mainGlobals "dearest" = some (some (.ref f_dearest)))
    (l_dearest : K.lookup f_dearest = some ⟨oc_dearest, od_dearest, .func (PySem.W.fnOf "dearest" "dearest" (fnArgs s_dearest) (fnBody s_dearest) (fnScope s_dearest) .none kV_dearest dc_dearest pm_dearest an_dearest cd_dearest ct_dearest), sl_dearest⟩)
    (c_dearest : PySem.W.codeIn K cd_dearest "dearest" = true)
    (k_dearest : PySem.W.keepIn K (.ref f_dearest) = true)
    (a_all_put : PySem.W.nsIn K mainGlobals "all_put" = some (some (.ref f_all_put)))
    (l_all_put : K.lookup f_all_put = some ⟨oc_all_put, od_all_put, .func (PySem.W.fnOf "all_put" "all_put" (fnArgs s_all_put) (fnBody s_all_put) (fnScope s_all_put) .none kV_all_put dc_all_put pm_all_put an_all_put cd_all_put ct_all_put), sl_all_put⟩)
    (c_all_put : PySem.W.codeIn K cd_all_put "all_put" = true)
    (k_all_put : PySem.W.keepIn K (.ref f_all_put) = true)
    (a_walks : PySem.W.nsIn K mainGlobals "walks" = some (some (.ref f_walks)))
    (l_walks : K.lookup f_walks = some ⟨oc_walks, od_walks, .func (PySem.W.fnOf "walks" "walks" (fnArgs s_walks) (fnBody s_walks) (fnScope s_walks) .none kV_walks dc_walks pm_walks an_walks cd_walks ct_walks), sl_walks⟩)
    (c_walks : PySem.W.codeIn K cd_walks "walks" = true)
    (k_walks : PySem.W.keepIn K (.ref f_walks) = true)
    (a_least_of : PySem.W.nsIn K mainGlobals "least_of" = some (some (.ref f_least_of)))
    (l_least_of : K.lookup f_least_of = some ⟨oc_least_of, od_least_of, .func (PySem.W.fnOf "least_of" "least_of" (fnArgs s_least_of) (fnBody s_least_of) (fnScope s_least_of) .none kV_least_of dc_least_of pm_least_of an_least_of cd_least_of ct_least_of), sl_least_of⟩)
    (c_least_of : PySem.W.codeIn K cd_least_of "least_of" = true)
    (k_least_of : PySem.W.keepIn K (.ref f_least_of) = true)
    (a_rate : PySem.W.nsIn K mainGlobals "rate" = some (some (.ref f_rate)))
    (l_rate : K.lookup f_rate = some ⟨oc_rate, od_rate, .func (PySem.W.fnOf "rate" "rate" (fnArgs s_rate) (fnBody s_rate) (fnScope s_rate) .none kV_rate dc_rate pm_rate an_rate cd_rate ct_rate), sl_rate⟩)
    (c_rate : PySem.W.codeIn K cd_rate "rate" = true)
    (k_rate : PySem.W.keepIn K (.ref f_rate) = true)
    (a_is_at_most : PySem.W.nsIn K mainGlobals "is_at_most" = some (some (.ref f_is_at_most)))
    (l_is_at_most : K.lookup f_is_at_most = some ⟨oc_is_at_most, od_is_at_most, .func (PySem.W.fnOf "is_at_most" "is_at_most" (fnArgs s_is_at_most) (fnBody s_is_at_most) (fnScope s_is_at_most) .none kV_is_at_most dc_is_at_most pm_is_at_most an_is_at_most cd_is_at_most ct_is_at_most), sl_is_at_most⟩)
    (c_is_at_most : PySem.W.codeIn K cd_is_at_most "is_at_most" = true)
    (k_is_at_most : PySem.W.keepIn K (.ref f_is_at_most) = true)
    (a_rate_paper : PySem.W.nsIn K mainGlobals "rate_paper" = some (some (.ref f_rate_paper)))
    (l_rate_paper : K.lookup f_rate_paper = some ⟨oc_rate_paper, od_rate_paper, .func (PySem.W.fnOf "rate_paper" "rate_paper" (fnArgs s_rate_paper) (fnBody s_rate_paper) (fnScope s_rate_paper) .none kV_rate_paper dc_rate_paper pm_rate_paper an_rate_paper cd_rate_paper ct_rate_paper), sl_rate_paper⟩)
    (c_rate_paper : PySem.W.codeIn K cd_rate_paper "rate_paper" = true)
    (k_rate_paper : PySem.W.keepIn K (.ref f_rate_paper) = true)
    (a_is_stuff : PySem.W.nsIn K mainGlobals "is_stuff" = some (some (.ref f_is_stuff)))
    (l_is_stuff : K.lookup f_is_stuff = some ⟨oc_is_stuff, od_is_stuff, .func (PySem.W.fnOf "is_stuff" "is_stuff" (fnArgs s_is_stuff) (fnBody s_is_stuff) (fnScope s_is_stuff) .none kV_is_stuff dc_is_stuff pm_is_stuff an_is_stuff cd_is_stuff ct_is_stuff), sl_is_stuff⟩)
    (c_is_stuff : PySem.W.codeIn K cd_is_stuff "is_stuff" = true)
    (k_is_stuff : PySem.W.keepIn K (.ref f_is_stuff) = true)
    (a_are_stuffs : PySem.W.nsIn K mainGlobals "are_stuffs" = some (some (.ref f_are_stuffs)))
    (l_are_stuffs : K.lookup f_are_stuffs = some ⟨oc_are_stuffs, od_are_stuffs, .func (PySem.W.fnOf "are_stuffs" "are_stuffs" (fnArgs s_are_stuffs) (fnBody s_are_stuffs) (fnScope s_are_stuffs) .none kV_are_stuffs dc_are_stuffs pm_are_stuffs an_are_stuffs cd_are_stuffs ct_are_stuffs), sl_are_stuffs⟩)
    (c_are_stuffs : PySem.W.codeIn K cd_are_stuffs "are_stuffs" = true)
    (k_are_stuffs : PySem.W.keepIn K (.ref f_are_stuffs) = true)
    (a_l_seed : PySem.W.nsIn K mainGlobals "_law_seed" = some (some (.ref f_l_seed)))
    (l_l_seed : K.lookup f_l_seed = some ⟨oc_l_seed, od_l_seed, .func (PySem.W.fnOf "_law_seed" "_law_seed" (fnArgs s_l_seed) (fnBody s_l_seed) (fnScope s_l_seed) .none kV_l_seed dc_l_seed pm_l_seed an_l_seed cd_l_seed ct_l_seed), sl_l_seed⟩)
    (c_l_seed : PySem.W.codeIn K cd_l_seed "_law_seed" = true)
    (k_l_seed : PySem.W.keepIn K (.ref f_l_seed) = true)
    (a_l_choose : PySem.W.nsIn K mainGlobals "_law_choose" = some (some (.ref f_l_choose)))
    (l_l_choose : K.lookup f_l_choose = some ⟨oc_l_choose, od_l_choose, .func (PySem.W.fnOf "_law_choose" "_law_choose" (fnArgs s_l_choose) (fnBody s_l_choose) (fnScope s_l_choose) .none kV_l_choose dc_l_choose pm_l_choose an_l_choose cd_l_choose ct_l_choose), sl_l_choose⟩)
    (c_l_choose : PySem.W.codeIn K cd_l_choose "_law_choose" = true)
    (k_l_choose : PySem.W.keepIn K (.ref f_l_choose) = true)
    (a_l_one_of : PySem.W.nsIn K mainGlobals "_law_one_of" = some (some (.ref f_l_one_of)))
    (l_l_one_of : K.lookup f_l_one_of = some ⟨oc_l_one_of, od_l_one_of, .func (PySem.W.fnOf "_law_one_of" "_law_one_of" (fnArgs s_l_one_of) (fnBody s_l_one_of) (fnScope s_l_one_of) .none kV_l_one_of dc_l_one_of pm_l_one_of an_l_one_of cd_l_one_of ct_l_one_of), sl_l_one_of⟩)
    (c_l_one_of : PySem.W.codeIn K cd_l_one_of "_law_one_of" = true)
    (k_l_one_of : PySem.W.keepIn K (.ref f_l_one_of) = true)
    (a_l_word : PySem.W.nsIn K mainGlobals "_law_word" = some (some (.ref f_l_word)))
    (l_l_word : K.lookup f_l_word = some ⟨oc_l_word, od_l_word, .func (PySem.W.fnOf "_law_word" "_law_word" (fnArgs s_l_word) (fnBody s_l_word) (fnScope s_l_word) .none kV_l_word dc_l_word pm_l_word an_l_word cd_l_word ct_l_word), sl_l_word⟩)
    (c_l_word : PySem.W.codeIn K cd_l_word "_law_word" = true)
    (k_l_word : PySem.W.keepIn K (.ref f_l_word) = true)
    (a_l_put : PySem.W.nsIn K mainGlobals "_law_put" = some (some (.ref f_l_put)))
    (l_l_put : K.lookup f_l_put = some ⟨oc_l_put, od_l_put, .func (PySem.W.fnOf "_law_put" "_law_put" (fnArgs s_l_put) (fnBody s_l_put) (fnScope s_l_put) .none kV_l_put dc_l_put pm_l_put an_l_put cd_l_put ct_l_put), sl_l_put⟩)
    (c_l_put : PySem.W.codeIn K cd_l_put "_law_put" = true)
    (k_l_put : PySem.W.keepIn K (.ref f_l_put) = true)
    (a_l_is_rule : PySem.W.nsIn K mainGlobals "_law_is_rule" = some (some (.ref f_l_is_rule)))
    (l_l_is_rule : K.lookup f_l_is_rule = some ⟨oc_l_is_rule, od_l_is_rule, .func (PySem.W.fnOf "_law_is_rule" "_law_is_rule" (fnArgs s_l_is_rule) (fnBody s_l_is_rule) (fnScope s_l_is_rule) .none kV_l_is_rule dc_l_is_rule pm_l_is_rule an_l_is_rule cd_l_is_rule ct_l_is_rule), sl_l_is_rule⟩)
    (c_l_is_rule : PySem.W.codeIn K cd_l_is_rule "_law_is_rule" = true)
    (k_l_is_rule : PySem.W.keepIn K (.ref f_l_is_rule) = true)
    (a_l_rule : PySem.W.nsIn K mainGlobals "_law_rule" = some (some (.ref f_l_rule)))
    (l_l_rule : K.lookup f_l_rule = some ⟨oc_l_rule, od_l_rule, .func (PySem.W.fnOf "_law_rule" "_law_rule" (fnArgs s_l_rule) (fnBody s_l_rule) (fnScope s_l_rule) .none kV_l_rule dc_l_rule pm_l_rule an_l_rule cd_l_rule ct_l_rule), sl_l_rule⟩)
    (c_l_rule : PySem.W.codeIn K cd_l_rule "_law_rule" = true)
    (k_l_rule : PySem.W.keepIn K (.ref f_l_rule) = true)
    (a_l_made : PySem.W.nsIn K mainGlobals "_law_made" = some (some (.ref f_l_made)))
    (l_l_made : K.lookup f_l_made = some ⟨oc_l_made, od_l_made, .func (PySem.W.fnOf "_law_made" "_law_made" (fnArgs s_l_made) (fnBody s_l_made) (fnScope s_l_made) .none kV_l_made dc_l_made pm_l_made an_l_made cd_l_made ct_l_made), sl_l_made⟩)
    (c_l_made : PySem.W.codeIn K cd_l_made "_law_made" = true)
    (k_l_made : PySem.W.keepIn K (.ref f_l_made) = true)
    (a_l_body : PySem.W.nsIn K mainGlobals "_law_body" = some (some (.ref f_l_body)))
    (l_l_body : K.lookup f_l_body = some ⟨oc_l_body, od_l_body, .func (PySem.W.fnOf "_law_body" "_law_body" (fnArgs s_l_body) (fnBody s_l_body) (fnScope s_l_body) .none kV_l_body dc_l_body pm_l_body an_l_body cd_l_body ct_l_body), sl_l_body⟩)
    (c_l_body : PySem.W.codeIn K cd_l_body "_law_body" = true)
    (k_l_body : PySem.W.keepIn K (.ref f_l_body) = true)
    (a_law : PySem.W.nsIn K mainGlobals "law" = some (some (.ref f_law)))
    (l_law : K.lookup f_law = some ⟨oc_law, od_law, .func (PySem.W.fnOf "law" "law" (fnArgs s_law) (fnBody s_law) (fnScope s_law) .none kV_law dc_law pm_law an_law cd_law ct_law), sl_law⟩)
    (c_law : PySem.W.codeIn K cd_law "law" = true)
    (k_law : PySem.W.keepIn K (.ref f_law) = true)
    (aC_Rule : PySem.W.nsIn K mainGlobals "Rule" = some (some (.ref C_Rule)))
    (pg_Rule : PySem.W.plainGet K C_Rule Str.empty = true)
    (hd_Rule : PySem.W.hasDictIn K C_Rule = true)
    (po_Rule : PySem.W.plainOver K C_Rule = true)
    (sa_Rule : PySem.W.findIn K (.ref C_Rule) "__setattr__" = some (some (.builtin "object.__setattr__")))
    (mk_Rule : PySem.W.makesIn K C_Rule = true)
    (kc_Rule : PySem.W.keepIn K (.ref C_Rule) = true)
    (n_Rule_flag : PySem.W.findIn K (.ref C_Rule) "flag" = some none)
    (n_Rule_stuffs : PySem.W.findIn K (.ref C_Rule) "stuffs" = some none)
    (a_Rule_put : PySem.W.findIn K (.ref C_Rule) "put" = some (some (.ref f_Rule_put)))
    (i_Rule_put : PySem.W.isFn K (.ref f_Rule_put) = true)
    (l_Rule_put : K.lookup f_Rule_put = some ⟨oc_Rule_put, od_Rule_put, .func (PySem.W.fnOf "put" "Rule.put" (fnArgs s_Rule_put) (fnBody s_Rule_put) (fnScope s_Rule_put) .none kV_Rule_put dc_Rule_put pm_Rule_put an_Rule_put cd_Rule_put ct_Rule_put), sl_Rule_put⟩)
    (c_Rule_put : PySem.W.codeIn K cd_Rule_put "Rule.put" = true)
    (k_Rule_put : PySem.W.keepIn K (.ref f_Rule_put) = true)
    (a_Rule_longest : PySem.W.findIn K (.ref C_Rule) "longest" = some (some (.ref p_Rule_longest)))
    (g_Rule_longest : PySem.W.specialIn K (.ref p_Rule_longest) "__get__" = some (some (.builtin "property.__get__")))
    (t_Rule_longest : PySem.W.takesIn K (.ref p_Rule_longest) = some true)
    (r_Rule_longest : PySem.W.recIn K p_Rule_longest "property" = some (.ref f_Rule_longest :: pr_Rule_longest))
    (l_Rule_longest : K.lookup f_Rule_longest = some ⟨oc_Rule_longest, od_Rule_longest, .func (PySem.W.fnOf "longest" "Rule.longest" (fnArgs s_Rule_longest) (fnBody s_Rule_longest) (fnScope s_Rule_longest) .none kV_Rule_longest dc_Rule_longest pm_Rule_longest an_Rule_longest cd_Rule_longest ct_Rule_longest), sl_Rule_longest⟩)
    (c_Rule_longest : PySem.W.codeIn K cd_Rule_longest "Rule.longest" = true)
    (a_Rule_put_in : PySem.W.findIn K (.ref C_Rule) "put_in" = some (some (.ref f_Rule_put_in)))
    (i_Rule_put_in : PySem.W.isFn K (.ref f_Rule_put_in) = true)
    (l_Rule_put_in : K.lookup f_Rule_put_in = some ⟨oc_Rule_put_in, od_Rule_put_in, .func (PySem.W.fnOf "put_in" "Rule.put_in" (fnArgs s_Rule_put_in) (fnBody s_Rule_put_in) (fnScope s_Rule_put_in) .none kV_Rule_put_in dc_Rule_put_in pm_Rule_put_in an_Rule_put_in cd_Rule_put_in ct_Rule_put_in), sl_Rule_put_in⟩)
    (c_Rule_put_in : PySem.W.codeIn K cd_Rule_put_in "Rule.put_in" = true)
    (k_Rule_put_in : PySem.W.keepIn K (.ref f_Rule_put_in) = true)
    (a_Rule_is_endless : PySem.W.findIn K (.ref C_Rule) "is_endless" = some (some (.ref f_Rule_is_endless)))
    (i_Rule_is_endless : PySem.W.isFn K (.ref f_Rule_is_endless) = true)
    (l_Rule_is_endless : K.lookup f_Rule_is_endless = some ⟨oc_Rule_is_endless, od_Rule_is_endless, .func (PySem.W.fnOf "is_endless" "Rule.is_endless" (fnArgs s_Rule_is_endless) (fnBody s_Rule_is_endless) (fnScope s_Rule_is_endless) .none kV_Rule_is_endless dc_Rule_is_endless pm_Rule_is_endless an_Rule_is_endless cd_Rule_is_endless ct_Rule_is_endless), sl_Rule_is_endless⟩)
    (c_Rule_is_endless : PySem.W.codeIn K cd_Rule_is_endless "Rule.is_endless" = true)
    (k_Rule_is_endless : PySem.W.keepIn K (.ref f_Rule_is_endless) = true)
    (a_Rule_init : PySem.W.findIn K (.ref C_Rule) "__init__" = some (some (.ref f_Rule_init)))
    (i_Rule_init : PySem.W.isFn K (.ref f_Rule_init) = true)
    (l_Rule_init : K.lookup f_Rule_init = some ⟨oc_Rule_init, od_Rule_init, .func (PySem.W.fnOf "__init__" "Rule.__init__" (fnArgs s_Rule_init) (fnBody s_Rule_init) (fnScope s_Rule_init) (.ref dT_Rule_init) kV_Rule_init dc_Rule_init pm_Rule_init an_Rule_init cd_Rule_init ct_Rule_init), sl_Rule_init⟩)
    (c_Rule_init : PySem.W.codeIn K cd_Rule_init "Rule.__init__" = true)
    (k_Rule_init : PySem.W.keepIn K (.ref f_Rule_init) = true)
    (dl_Rule_init : K.lookup dT_Rule_init = some ⟨.type "tuple", dd_Rule_init, .seq #[.ref dE_R] dn_Rule_init, ds_Rule_init⟩)
    (dlE_Rule : K.lookup dE_R = some ⟨.type "tuple", dde_R, .seq #[] dne_R, dse_R⟩)
    (a_Rule_swapped : PySem.W.findIn K (.ref C_Rule) "swapped" = some (some (.ref f_Rule_swapped)))
    (i_Rule_swapped : PySem.W.isFn K (.ref f_Rule_swapped) = true)
    (l_Rule_swapped : K.lookup f_Rule_swapped = some ⟨oc_Rule_swapped, od_Rule_swapped, .func (PySem.W.fnOf "swapped" "Rule.swapped" (fnArgs s_Rule_swapped) (fnBody s_Rule_swapped) (fnScope s_Rule_swapped) .none kV_Rule_swapped dc_Rule_swapped pm_Rule_swapped an_Rule_swapped cd_Rule_swapped ct_Rule_swapped), sl_Rule_swapped⟩)
    (c_Rule_swapped : PySem.W.codeIn K cd_Rule_swapped "Rule.swapped" = true)
    (k_Rule_swapped : PySem.W.keepIn K (.ref f_Rule_swapped) = true)
    (gBITS : PySem.W.nsIn K mainGlobals "BITS" = some (some (.str "01" tB)))
    (z_len : PySem.W.nsIn K mainGlobals "len" = some none)
    (z_abs : PySem.W.nsIn K mainGlobals "abs" = some none)
    (z_int : PySem.W.nsIn K mainGlobals "int" = some none)
    (z_range : PySem.W.nsIn K mainGlobals "range" = some none)
    (z_max : PySem.W.nsIn K mainGlobals "max" = some none)
    (z_min : PySem.W.nsIn K mainGlobals "min" = some none)
    (z_enumerate : PySem.W.nsIn K mainGlobals "enumerate" = some none)
    (z_zip : PySem.W.nsIn K mainGlobals "zip" = some none)
    (z_dict : PySem.W.nsIn K mainGlobals "dict" = some none)
    (z_list : PySem.W.nsIn K mainGlobals "list" = some none)
    (z_tuple : PySem.W.nsIn K mainGlobals "tuple" = some none)
    (z_isinstance : PySem.W.nsIn K mainGlobals "isinstance" = some none)
    (z_bool : PySem.W.nsIn K mainGlobals "bool" = some none)
    (z_str : PySem.W.nsIn K mainGlobals "str" = some none)
    (z_all : PySem.W.nsIn K mainGlobals "all" = some none)
    (z_any : PySem.W.nsIn K mainGlobals "any" = some none)
    (z_sum : PySem.W.nsIn K mainGlobals "sum" = some none)
    (z_sorted : PySem.W.nsIn K mainGlobals "sorted" = some none)
    (z_repr : PySem.W.nsIn K mainGlobals "repr" = some none) :
    ∃ fd : FuncData, (∀ (s : Shared) (v : Value), BindsTo s fd ⟨[v], []⟩ [("_law_script", v)]) ∧ ∀ base : Heap, K.In base → base.Ns mainGlobals mg → FnOk l.prog w K mg base CX0 8 fa fd ["_law_script"] (spLaw K) := by
  have e : f_law = fa := Value.ref.inj (Option.some.inj ((PySem.W.mg_of X G a_law).symm.trans hfa))
  subst e
  have T : Tx mg := ⟨PySem.W.mg_none_of X G z_len, PySem.W.mg_none_of X G z_abs, PySem.W.mg_none_of X G z_int, PySem.W.mg_none_of X G z_range, PySem.W.mg_none_of X G z_max, PySem.W.mg_none_of X G z_min, PySem.W.mg_none_of X G z_enumerate, PySem.W.mg_none_of X G z_zip, PySem.W.mg_none_of X G z_dict, PySem.W.mg_none_of X G z_list, PySem.W.mg_none_of X G z_tuple, PySem.W.mg_none_of X G z_isinstance, PySem.W.mg_none_of X G z_bool, PySem.W.mg_none_of X G z_str, PySem.W.mg_none_of X G z_all, PySem.W.mg_none_of X G z_any, PySem.W.mg_none_of X G z_sum, PySem.W.mg_none_of X G z_sorted, PySem.W.mg_none_of X G z_repr⟩
  have F_is_sequence : Def K mg "is_sequence" s_is_sequence f_is_sequence (PySem.W.fnOf "is_sequence" "is_sequence" (fnArgs s_is_sequence) (fnBody s_is_sequence) (fnScope s_is_sequence) .none kV_is_sequence dc_is_sequence pm_is_sequence an_is_sequence cd_is_sequence ct_is_sequence) := ⟨⟨_, _, _, _, _, _, _, _, _, _, rfl, l_is_sequence, c_is_sequence⟩, PySem.W.mg_of X G a_is_sequence, k_is_sequence⟩
  have b_is_sequence := C8.Fun.binds (ps := ["value"]) F_is_sequence.fn rfl fun _ _ _ _ _ _ us hl => match us, hl with | [_], _ => rfl
  have F_is_word : Def K mg "is_word" s_is_word f_is_word (PySem.W.fnOf "is_word" "is_word" (fnArgs s_is_word) (fnBody s_is_word) (fnScope s_is_word) .none kV_is_word dc_is_word pm_is_word an_is_word cd_is_word ct_is_word) := ⟨⟨_, _, _, _, _, _, _, _, _, _, rfl, l_is_word, c_is_word⟩, PySem.W.mg_of X G a_is_word, k_is_word⟩
  have b_is_word := C8.Fun.binds (ps := ["value"]) F_is_word.fn rfl fun _ _ _ _ _ _ us hl => match us, hl with | [_], _ => rfl
  have F_is_bit : Def K mg "is_bit" s_is_bit f_is_bit (PySem.W.fnOf "is_bit" "is_bit" (fnArgs s_is_bit) (fnBody s_is_bit) (fnScope s_is_bit) .none kV_is_bit dc_is_bit pm_is_bit an_is_bit cd_is_bit ct_is_bit) := ⟨⟨_, _, _, _, _, _, _, _, _, _, rfl, l_is_bit, c_is_bit⟩, PySem.W.mg_of X G a_is_bit, k_is_bit⟩
  have b_is_bit := C8.Fun.binds (ps := ["value"]) F_is_bit.fn rfl fun _ _ _ _ _ _ us hl => match us, hl with | [_], _ => rfl
  have F_other : Def K mg "other" s_other f_other (PySem.W.fnOf "other" "other" (fnArgs s_other) (fnBody s_other) (fnScope s_other) .none kV_other dc_other pm_other an_other cd_other ct_other) := ⟨⟨_, _, _, _, _, _, _, _, _, _, rfl, l_other, c_other⟩, PySem.W.mg_of X G a_other, k_other⟩
  have b_other := C8.Fun.binds (ps := ["bit"]) F_other.fn rfl fun _ _ _ _ _ _ us hl => match us, hl with | [_], _ => rfl
  have F_swapped_word : Def K mg "swapped_word" s_swapped_word f_swapped_word (PySem.W.fnOf "swapped_word" "swapped_word" (fnArgs s_swapped_word) (fnBody s_swapped_word) (fnScope s_swapped_word) .none kV_swapped_word dc_swapped_word pm_swapped_word an_swapped_word cd_swapped_word ct_swapped_word) := ⟨⟨_, _, _, _, _, _, _, _, _, _, rfl, l_swapped_word, c_swapped_word⟩, PySem.W.mg_of X G a_swapped_word, k_swapped_word⟩
  have b_swapped_word := C8.Fun.binds (ps := ["word"]) F_swapped_word.fn rfl fun _ _ _ _ _ _ us hl => match us, hl with | [_], _ => rfl
  have F_tail : Def K mg "tail" s_tail f_tail (PySem.W.fnOf "tail" "tail" (fnArgs s_tail) (fnBody s_tail) (fnScope s_tail) .none kV_tail dc_tail pm_tail an_tail cd_tail ct_tail) := ⟨⟨_, _, _, _, _, _, _, _, _, _, rfl, l_tail, c_tail⟩, PySem.W.mg_of X G a_tail, k_tail⟩
  have b_tail := C8.Fun.binds (ps := ["line", "size"]) F_tail.fn rfl fun _ _ _ _ _ _ us hl => match us, hl with | [_, _], _ => rfl
  have F_common : Def K mg "common" s_common f_common (PySem.W.fnOf "common" "common" (fnArgs s_common) (fnBody s_common) (fnScope s_common) .none kV_common dc_common pm_common an_common cd_common ct_common) := ⟨⟨_, _, _, _, _, _, _, _, _, _, rfl, l_common, c_common⟩, PySem.W.mg_of X G a_common, k_common⟩
  have b_common := C8.Fun.binds (ps := ["p", "q"]) F_common.fn rfl fun _ _ _ _ _ _ us hl => match us, hl with | [_, _], _ => rfl
  have F_lowest : Def K mg "lowest" s_lowest f_lowest (PySem.W.fnOf "lowest" "lowest" (fnArgs s_lowest) (fnBody s_lowest) (fnScope s_lowest) .none kV_lowest dc_lowest pm_lowest an_lowest cd_lowest ct_lowest) := ⟨⟨_, _, _, _, _, _, _, _, _, _, rfl, l_lowest, c_lowest⟩, PySem.W.mg_of X G a_lowest, k_lowest⟩
  have b_lowest := C8.Fun.binds (ps := ["p", "q"]) F_lowest.fn rfl fun _ _ _ _ _ _ us hl => match us, hl with | [_, _], _ => rfl
  have F_move : Def K mg "move" s_move f_move (PySem.W.fnOf "move" "move" (fnArgs s_move) (fnBody s_move) (fnScope s_move) .none kV_move dc_move pm_move an_move cd_move ct_move) := ⟨⟨_, _, _, _, _, _, _, _, _, _, rfl, l_move, c_move⟩, PySem.W.mg_of X G a_move, k_move⟩
  have b_move := C8.Fun.binds (ps := ["rule", "standing", "bit"]) F_move.fn rfl fun _ _ _ _ _ _ us hl => match us, hl with | [_, _, _], _ => rfl
  have F_moves_of : Def K mg "moves_of" s_moves_of f_moves_of (PySem.W.fnOf "moves_of" "moves_of" (fnArgs s_moves_of) (fnBody s_moves_of) (fnScope s_moves_of) .none kV_moves_of dc_moves_of pm_moves_of an_moves_of cd_moves_of ct_moves_of) := ⟨⟨_, _, _, _, _, _, _, _, _, _, rfl, l_moves_of, c_moves_of⟩, PySem.W.mg_of X G a_moves_of, k_moves_of⟩
  have b_moves_of := C8.Fun.binds (ps := ["rule"]) F_moves_of.fn rfl fun _ _ _ _ _ _ us hl => match us, hl with | [_], _ => rfl
  have F_best_left : Def K mg "best_left" s_best_left f_best_left (PySem.W.fnOf "best_left" "best_left" (fnArgs s_best_left) (fnBody s_best_left) (fnScope s_best_left) .none kV_best_left dc_best_left pm_best_left an_best_left cd_best_left ct_best_left) := ⟨⟨_, _, _, _, _, _, _, _, _, _, rfl, l_best_left, c_best_left⟩, PySem.W.mg_of X G a_best_left, k_best_left⟩
  have b_best_left := C8.Fun.binds (ps := ["moves", "size"]) F_best_left.fn rfl fun _ _ _ _ _ _ us hl => match us, hl with | [_, _], _ => rfl
  have F_most_put : Def K mg "most_put" s_most_put f_most_put (PySem.W.fnOf "most_put" "most_put" (fnArgs s_most_put) (fnBody s_most_put) (fnScope s_most_put) .none kV_most_put dc_most_put pm_most_put an_most_put cd_most_put ct_most_put) := ⟨⟨_, _, _, _, _, _, _, _, _, _, rfl, l_most_put, c_most_put⟩, PySem.W.mg_of X G a_most_put, k_most_put⟩
  have b_most_put := C8.Fun.binds (ps := ["rule", "size"]) F_most_put.fn rfl fun _ _ _ _ _ _ us hl => match us, hl with | [_, _], _ => rfl
  have F_dearest : Def K mg "dearest" s_dearest f_dearest (PySem.W.fnOf "dearest" "dearest" (fnArgs s_dearest) (fnBody s_dearest) (fnScope s_dearest) .none kV_dearest dc_dearest pm_dearest an_dearest cd_dearest ct_dearest) := ⟨⟨_, _, _, _, _, _, _, _, _, _, rfl, l_dearest, c_dearest⟩, PySem.W.mg_of X G a_dearest, k_dearest⟩
  have b_dearest := C8.Fun.binds (ps := ["rule", "size"]) F_dearest.fn rfl fun _ _ _ _ _ _ us hl => match us, hl with | [_, _], _ => rfl
  have F_all_put : Def K mg "all_put" s_all_put f_all_put (PySem.W.fnOf "all_put" "all_put" (fnArgs s_all_put) (fnBody s_all_put) (fnScope s_all_put) .none kV_all_put dc_all_put pm_all_put an_all_put cd_all_put ct_all_put) := ⟨⟨_, _, _, _, _, _, _, _, _, _, rfl, l_all_put, c_all_put⟩, PySem.W.mg_of X G a_all_put, k_all_put⟩
  have b_all_put := C8.Fun.binds (ps := ["rule", "size"]) F_all_put.fn rfl fun _ _ _ _ _ _ us hl => match us, hl with | [_, _], _ => rfl
  have F_walks : Def K mg "walks" s_walks f_walks (PySem.W.fnOf "walks" "walks" (fnArgs s_walks) (fnBody s_walks) (fnScope s_walks) .none kV_walks dc_walks pm_walks an_walks cd_walks ct_walks) := ⟨⟨_, _, _, _, _, _, _, _, _, _, rfl, l_walks, c_walks⟩, PySem.W.mg_of X G a_walks, k_walks⟩
  have b_walks := C8.Fun.binds (ps := ["moves"]) F_walks.fn rfl fun _ _ _ _ _ _ us hl => match us, hl with | [_], _ => rfl
  have F_least_of : Def K mg "least_of" s_least_of f_least_of (PySem.W.fnOf "least_of" "least_of" (fnArgs s_least_of) (fnBody s_least_of) (fnScope s_least_of) .none kV_least_of dc_least_of pm_least_of an_least_of cd_least_of ct_least_of) := ⟨⟨_, _, _, _, _, _, _, _, _, _, rfl, l_least_of, c_least_of⟩, PySem.W.mg_of X G a_least_of, k_least_of⟩
  have b_least_of := C8.Fun.binds (ps := ["values"]) F_least_of.fn rfl fun _ _ _ _ _ _ us hl => match us, hl with | [_], _ => rfl
  have F_rate : Def K mg "rate" s_rate f_rate (PySem.W.fnOf "rate" "rate" (fnArgs s_rate) (fnBody s_rate) (fnScope s_rate) .none kV_rate dc_rate pm_rate an_rate cd_rate ct_rate) := ⟨⟨_, _, _, _, _, _, _, _, _, _, rfl, l_rate, c_rate⟩, PySem.W.mg_of X G a_rate, k_rate⟩
  have b_rate := C8.Fun.binds (ps := ["rule"]) F_rate.fn rfl fun _ _ _ _ _ _ us hl => match us, hl with | [_], _ => rfl
  have F_is_at_most : Def K mg "is_at_most" s_is_at_most f_is_at_most (PySem.W.fnOf "is_at_most" "is_at_most" (fnArgs s_is_at_most) (fnBody s_is_at_most) (fnScope s_is_at_most) .none kV_is_at_most dc_is_at_most pm_is_at_most an_is_at_most cd_is_at_most ct_is_at_most) := ⟨⟨_, _, _, _, _, _, _, _, _, _, rfl, l_is_at_most, c_is_at_most⟩, PySem.W.mg_of X G a_is_at_most, k_is_at_most⟩
  have b_is_at_most := C8.Fun.binds (ps := ["one", "two"]) F_is_at_most.fn rfl fun _ _ _ _ _ _ us hl => match us, hl with | [_, _], _ => rfl
  have F_rate_paper : Def K mg "rate_paper" s_rate_paper f_rate_paper (PySem.W.fnOf "rate_paper" "rate_paper" (fnArgs s_rate_paper) (fnBody s_rate_paper) (fnScope s_rate_paper) .none kV_rate_paper dc_rate_paper pm_rate_paper an_rate_paper cd_rate_paper ct_rate_paper) := ⟨⟨_, _, _, _, _, _, _, _, _, _, rfl, l_rate_paper, c_rate_paper⟩, PySem.W.mg_of X G a_rate_paper, k_rate_paper⟩
  have b_rate_paper := C8.Fun.binds (ps := ["rule", "value"]) F_rate_paper.fn rfl fun _ _ _ _ _ _ us hl => match us, hl with | [_, _], _ => rfl
  have F_is_stuff : Def K mg "is_stuff" s_is_stuff f_is_stuff (PySem.W.fnOf "is_stuff" "is_stuff" (fnArgs s_is_stuff) (fnBody s_is_stuff) (fnScope s_is_stuff) .none kV_is_stuff dc_is_stuff pm_is_stuff an_is_stuff cd_is_stuff ct_is_stuff) := ⟨⟨_, _, _, _, _, _, _, _, _, _, rfl, l_is_stuff, c_is_stuff⟩, PySem.W.mg_of X G a_is_stuff, k_is_stuff⟩
  have b_is_stuff := C8.Fun.binds (ps := ["value"]) F_is_stuff.fn rfl fun _ _ _ _ _ _ us hl => match us, hl with | [_], _ => rfl
  have F_are_stuffs : Def K mg "are_stuffs" s_are_stuffs f_are_stuffs (PySem.W.fnOf "are_stuffs" "are_stuffs" (fnArgs s_are_stuffs) (fnBody s_are_stuffs) (fnScope s_are_stuffs) .none kV_are_stuffs dc_are_stuffs pm_are_stuffs an_are_stuffs cd_are_stuffs ct_are_stuffs) := ⟨⟨_, _, _, _, _, _, _, _, _, _, rfl, l_are_stuffs, c_are_stuffs⟩, PySem.W.mg_of X G a_are_stuffs, k_are_stuffs⟩
  have b_are_stuffs := C8.Fun.binds (ps := ["value"]) F_are_stuffs.fn rfl fun _ _ _ _ _ _ us hl => match us, hl with | [_], _ => rfl
  have F_l_seed : Def K mg "_law_seed" s_l_seed f_l_seed (PySem.W.fnOf "_law_seed" "_law_seed" (fnArgs s_l_seed) (fnBody s_l_seed) (fnScope s_l_seed) .none kV_l_seed dc_l_seed pm_l_seed an_l_seed cd_l_seed ct_l_seed) := ⟨⟨_, _, _, _, _, _, _, _, _, _, rfl, l_l_seed, c_l_seed⟩, PySem.W.mg_of X G a_l_seed, k_l_seed⟩
  have b_l_seed := C8.Fun.binds (ps := ["_law_script", "_law_k"]) F_l_seed.fn rfl fun _ _ _ _ _ _ us hl => match us, hl with | [_, _], _ => rfl
  have F_l_choose : Def K mg "_law_choose" s_l_choose f_l_choose (PySem.W.fnOf "_law_choose" "_law_choose" (fnArgs s_l_choose) (fnBody s_l_choose) (fnScope s_l_choose) .none kV_l_choose dc_l_choose pm_l_choose an_l_choose cd_l_choose ct_l_choose) := ⟨⟨_, _, _, _, _, _, _, _, _, _, rfl, l_l_choose, c_l_choose⟩, PySem.W.mg_of X G a_l_choose, k_l_choose⟩
  have b_l_choose := C8.Fun.binds (ps := ["_law_box", "_law_many"]) F_l_choose.fn rfl fun _ _ _ _ _ _ us hl => match us, hl with | [_, _], _ => rfl
  have F_l_one_of : Def K mg "_law_one_of" s_l_one_of f_l_one_of (PySem.W.fnOf "_law_one_of" "_law_one_of" (fnArgs s_l_one_of) (fnBody s_l_one_of) (fnScope s_l_one_of) .none kV_l_one_of dc_l_one_of pm_l_one_of an_l_one_of cd_l_one_of ct_l_one_of) := ⟨⟨_, _, _, _, _, _, _, _, _, _, rfl, l_l_one_of, c_l_one_of⟩, PySem.W.mg_of X G a_l_one_of, k_l_one_of⟩
  have b_l_one_of := C8.Fun.binds (ps := ["_law_box", "_law_some"]) F_l_one_of.fn rfl fun _ _ _ _ _ _ us hl => match us, hl with | [_, _], _ => rfl
  have F_l_word : Def K mg "_law_word" s_l_word f_l_word (PySem.W.fnOf "_law_word" "_law_word" (fnArgs s_l_word) (fnBody s_l_word) (fnScope s_l_word) .none kV_l_word dc_l_word pm_l_word an_l_word cd_l_word ct_l_word) := ⟨⟨_, _, _, _, _, _, _, _, _, _, rfl, l_l_word, c_l_word⟩, PySem.W.mg_of X G a_l_word, k_l_word⟩
  have b_l_word := C8.Fun.binds (ps := ["_law_box", "_law_few", "_law_many"]) F_l_word.fn rfl fun _ _ _ _ _ _ us hl => match us, hl with | [_, _, _], _ => rfl
  have F_l_put : Def K mg "_law_put" s_l_put f_l_put (PySem.W.fnOf "_law_put" "_law_put" (fnArgs s_l_put) (fnBody s_l_put) (fnScope s_l_put) .none kV_l_put dc_l_put pm_l_put an_l_put cd_l_put ct_l_put) := ⟨⟨_, _, _, _, _, _, _, _, _, _, rfl, l_l_put, c_l_put⟩, PySem.W.mg_of X G a_l_put, k_l_put⟩
  have b_l_put := C8.Fun.binds (ps := ["_law_rule_here", "_law_line"]) F_l_put.fn rfl fun _ _ _ _ _ _ us hl => match us, hl with | [_, _], _ => rfl
  have F_l_is_rule : Def K mg "_law_is_rule" s_l_is_rule f_l_is_rule (PySem.W.fnOf "_law_is_rule" "_law_is_rule" (fnArgs s_l_is_rule) (fnBody s_l_is_rule) (fnScope s_l_is_rule) .none kV_l_is_rule dc_l_is_rule pm_l_is_rule an_l_is_rule cd_l_is_rule ct_l_is_rule) := ⟨⟨_, _, _, _, _, _, _, _, _, _, rfl, l_l_is_rule, c_l_is_rule⟩, PySem.W.mg_of X G a_l_is_rule, k_l_is_rule⟩
  have b_l_is_rule := C8.Fun.binds (ps := ["_law_rule_here"]) F_l_is_rule.fn rfl fun _ _ _ _ _ _ us hl => match us, hl with | [_], _ => rfl
  have F_l_rule : Def K mg "_law_rule" s_l_rule f_l_rule (PySem.W.fnOf "_law_rule" "_law_rule" (fnArgs s_l_rule) (fnBody s_l_rule) (fnScope s_l_rule) .none kV_l_rule dc_l_rule pm_l_rule an_l_rule cd_l_rule ct_l_rule) := ⟨⟨_, _, _, _, _, _, _, _, _, _, rfl, l_l_rule, c_l_rule⟩, PySem.W.mg_of X G a_l_rule, k_l_rule⟩
  have b_l_rule := C8.Fun.binds (ps := ["_law_box", "_law_widest", "_law_longest_one"]) F_l_rule.fn rfl fun _ _ _ _ _ _ us hl => match us, hl with | [_, _, _], _ => rfl
  have F_l_made : Def K mg "_law_made" s_l_made f_l_made (PySem.W.fnOf "_law_made" "_law_made" (fnArgs s_l_made) (fnBody s_l_made) (fnScope s_l_made) .none kV_l_made dc_l_made pm_l_made an_l_made cd_l_made ct_l_made) := ⟨⟨_, _, _, _, _, _, _, _, _, _, rfl, l_l_made, c_l_made⟩, PySem.W.mg_of X G a_l_made, k_l_made⟩
  have b_l_made := C8.Fun.binds (ps := ["_law_rule_here"]) F_l_made.fn rfl fun _ _ _ _ _ _ us hl => match us, hl with | [_], _ => rfl
  have F_l_body : Def K mg "_law_body" s_l_body f_l_body (PySem.W.fnOf "_law_body" "_law_body" (fnArgs s_l_body) (fnBody s_l_body) (fnScope s_l_body) .none kV_l_body dc_l_body pm_l_body an_l_body cd_l_body ct_l_body) := ⟨⟨_, _, _, _, _, _, _, _, _, _, rfl, l_l_body, c_l_body⟩, PySem.W.mg_of X G a_l_body, k_l_body⟩
  have b_l_body := C8.Fun.binds (ps := ["_law_rule_here", "_law_message"]) F_l_body.fn rfl fun _ _ _ _ _ _ us hl => match us, hl with | [_, _], _ => rfl
  have F_law : Def K mg "law" s_law f_law (PySem.W.fnOf "law" "law" (fnArgs s_law) (fnBody s_law) (fnScope s_law) .none kV_law dc_law pm_law an_law cd_law ct_law) := ⟨⟨_, _, _, _, _, _, _, _, _, _, rfl, l_law, c_law⟩, PySem.W.mg_of X G a_law, k_law⟩
  have b_law := C8.Fun.binds (ps := ["_law_script"]) F_law.fn rfl fun _ _ _ _ _ _ us hl => match us, hl with | [_], _ => rfl
  have CL_Rule : Cls K C_Rule := ⟨pg_Rule, hd_Rule, po_Rule, sa_Rule⟩
  have F_Rule_put : C8.Fun K "put" "Rule.put" s_Rule_put f_Rule_put (PySem.W.fnOf "put" "Rule.put" (fnArgs s_Rule_put) (fnBody s_Rule_put) (fnScope s_Rule_put) .none kV_Rule_put dc_Rule_put pm_Rule_put an_Rule_put cd_Rule_put ct_Rule_put) := ⟨_, _, _, _, _, _, _, _, _, _, rfl, l_Rule_put, c_Rule_put⟩
  have b_Rule_put := C8.Fun.binds (ps := ["self", "line"]) F_Rule_put rfl fun _ _ _ _ _ _ us hl => match us, hl with | [_, _], _ => rfl
  have F_Rule_longest : C8.Fun K "longest" "Rule.longest" s_Rule_longest f_Rule_longest (PySem.W.fnOf "longest" "Rule.longest" (fnArgs s_Rule_longest) (fnBody s_Rule_longest) (fnScope s_Rule_longest) .none kV_Rule_longest dc_Rule_longest pm_Rule_longest an_Rule_longest cd_Rule_longest ct_Rule_longest) := ⟨_, _, _, _, _, _, _, _, _, _, rfl, l_Rule_longest, c_Rule_longest⟩
  have b_Rule_longest := C8.Fun.binds (ps := ["self"]) F_Rule_longest rfl fun _ _ _ _ _ _ us hl => match us, hl with | [_], _ => rfl
  have F_Rule_put_in : C8.Fun K "put_in" "Rule.put_in" s_Rule_put_in f_Rule_put_in (PySem.W.fnOf "put_in" "Rule.put_in" (fnArgs s_Rule_put_in) (fnBody s_Rule_put_in) (fnScope s_Rule_put_in) .none kV_Rule_put_in dc_Rule_put_in pm_Rule_put_in an_Rule_put_in cd_Rule_put_in ct_Rule_put_in) := ⟨_, _, _, _, _, _, _, _, _, _, rfl, l_Rule_put_in, c_Rule_put_in⟩
  have b_Rule_put_in := C8.Fun.binds (ps := ["self", "line"]) F_Rule_put_in rfl fun _ _ _ _ _ _ us hl => match us, hl with | [_, _], _ => rfl
  have F_Rule_is_endless : C8.Fun K "is_endless" "Rule.is_endless" s_Rule_is_endless f_Rule_is_endless (PySem.W.fnOf "is_endless" "Rule.is_endless" (fnArgs s_Rule_is_endless) (fnBody s_Rule_is_endless) (fnScope s_Rule_is_endless) .none kV_Rule_is_endless dc_Rule_is_endless pm_Rule_is_endless an_Rule_is_endless cd_Rule_is_endless ct_Rule_is_endless) := ⟨_, _, _, _, _, _, _, _, _, _, rfl, l_Rule_is_endless, c_Rule_is_endless⟩
  have b_Rule_is_endless := C8.Fun.binds (ps := ["self"]) F_Rule_is_endless rfl fun _ _ _ _ _ _ us hl => match us, hl with | [_], _ => rfl
  have F_Rule_init : C8.Fun K "__init__" "Rule.__init__" s_Rule_init f_Rule_init (PySem.W.fnOf "__init__" "Rule.__init__" (fnArgs s_Rule_init) (fnBody s_Rule_init) (fnScope s_Rule_init) (.ref dT_Rule_init) kV_Rule_init dc_Rule_init pm_Rule_init an_Rule_init cd_Rule_init ct_Rule_init) := ⟨_, _, _, _, _, _, _, _, _, _, rfl, l_Rule_init, c_Rule_init⟩
  have FD_Rule_init : FunD K "__init__" "Rule.__init__" (fnArgs s_Rule_init) (fnBody s_Rule_init) (fnScope s_Rule_init) [.ref dE_R] [] f_Rule_init (PySem.W.fnOf "__init__" "Rule.__init__" (fnArgs s_Rule_init) (fnBody s_Rule_init) (fnScope s_Rule_init) (.ref dT_Rule_init) kV_Rule_init dc_Rule_init pm_Rule_init an_Rule_init cd_Rule_init ct_Rule_init) := ⟨⟨_, _, _, _, _, _, _, _, _, _, rfl, l_Rule_init, c_Rule_init, .inr ⟨List.cons_ne_nil _ _, _, _, _, _, rfl, dl_Rule_init, rfl, .cons rfl .nil⟩, .inl rfl⟩, k_Rule_init⟩
  obtain ⟨ds0_Rule_init, vd0_Rule_init, bd0_Rule_init⟩ := FD_Rule_init.binds1 (ps := ["self", "flag", "stuffs"]) 2 0 (List.cons_ne_nil _ _) rfl fun _ _ _ _ _ _ _ us its h1 h2 => match us, its, h1, h2 with | [_, _], [_], _, _ => ⟨_, rfl, rfl⟩
  obtain ⟨ds1_Rule_init, vd1_Rule_init, bd1_Rule_init⟩ := FD_Rule_init.binds1 (ps := ["self", "flag", "stuffs"]) 3 1 (List.cons_ne_nil _ _) rfl fun _ _ _ _ _ _ _ us its h1 h2 => match us, its, h1, h2 with | [_, _, _], [_], _, _ => ⟨_, rfl, rfl⟩
  have F_Rule_swapped : C8.Fun K "swapped" "Rule.swapped" s_Rule_swapped f_Rule_swapped (PySem.W.fnOf "swapped" "Rule.swapped" (fnArgs s_Rule_swapped) (fnBody s_Rule_swapped) (fnScope s_Rule_swapped) .none kV_Rule_swapped dc_Rule_swapped pm_Rule_swapped an_Rule_swapped cd_Rule_swapped ct_Rule_swapped) := ⟨_, _, _, _, _, _, _, _, _, _, rfl, l_Rule_swapped, c_Rule_swapped⟩
  have b_Rule_swapped := C8.Fun.binds (ps := ["self"]) F_Rule_swapped rfl fun _ _ _ _ _ _ us hl => match us, hl with | [_], _ => rfl
  refine ⟨PySem.W.fnOf "law" "law" (fnArgs s_law) (fnBody s_law) (fnScope s_law) .none kV_law dc_law pm_law an_law cd_law ct_law, fun s v => .of_eq rfl, fun base _ _ => ?_⟩
  have RT : RuT K C_Rule := ⟨CL_Rule, n_Rule_flag, n_Rule_stuffs⟩
  have c_l_seed := cal_l_seed (P := l.prog) (w := w) (base := base) F_l_seed b_l_seed T
  have c_l_choose := cal_l_choose (P := l.prog) (w := w) (base := base) F_l_choose b_l_choose T
  have c_l_one_of := cal_l_one_of (P := l.prog) (w := w) (base := base) F_l_one_of b_l_one_of T c_l_choose
  have c_l_word := cal_l_word (P := l.prog) (w := w) (base := base) F_l_word b_l_word T c_l_choose c_l_one_of
  have c_l_put := cal_l_put (P := l.prog) (w := w) (base := base) F_l_put b_l_put T
  have c_l_is_rule := cal_l_is_rule (P := l.prog) (w := w) (base := base) F_l_is_rule b_l_is_rule T c_l_put
  have c_l_rule := cal_l_rule (P := l.prog) (w := w) (base := base) F_l_rule b_l_rule T c_l_choose c_l_one_of c_l_word c_l_is_rule
  have g_BITS := PySem.W.mg_of X G gBITS
  have c_is_word := cal_is_word (P := l.prog) (w := w) (base := base) F_is_word b_is_word T g_BITS
  have c_is_sequence := cal_is_sequence (P := l.prog) (w := w) (base := base) F_is_sequence b_is_sequence T
  have c_is_bit := cal_is_bit (P := l.prog) (w := w) (base := base) F_is_bit b_is_bit T c_is_word
  have c_is_stuff := cal_is_stuff (P := l.prog) (w := w) (base := base) F_is_stuff b_is_stuff T c_is_word c_is_bit
  have c_are_stuffs := cal_are_stuffs (P := l.prog) (w := w) (base := base) F_are_stuffs b_are_stuffs T c_is_sequence c_is_stuff
  have c_put := met_put (P := l.prog) (w := w) (base := base) F_Rule_put ⟨a_Rule_put, i_Rule_put, k_Rule_put⟩ b_Rule_put T RT
  have p_longest : Prp l.prog w K mg base 1 C_Rule "longest" (spLongest C_Rule) := ⟨_, _, _, _, CL_Rule, ⟨a_Rule_longest, g_Rule_longest, t_Rule_longest, ⟨_, r_Rule_longest⟩⟩, ok_longest F_Rule_longest T RT, b_Rule_longest⟩
  have c_tail := cal_tail (P := l.prog) (w := w) (base := base) F_tail b_tail T
  have c_put_in := met_put_in (P := l.prog) (w := w) (base := base) F_Rule_put_in ⟨a_Rule_put_in, i_Rule_put_in, k_Rule_put_in⟩ b_Rule_put_in T RT c_put p_longest c_tail
  have c_is_endless := met_is_endless (P := l.prog) (w := w) (base := base) F_Rule_is_endless ⟨a_Rule_is_endless, i_Rule_is_endless, k_Rule_is_endless⟩ b_Rule_is_endless T RT g_BITS c_put_in p_longest c_tail
  have M_Rule : Mk K C_Rule f_Rule_init := ⟨mk_Rule, a_Rule_init, i_Rule_init, kc_Rule⟩
  have i_ok_Rule := ok_Rule_init (P := l.prog) (w := w) (base := base) F_Rule_init T RT c_is_word c_are_stuffs c_is_endless
  have m_Rule2 : Mak l.prog w K mg base 5 "Rule" C_Rule (spRuInit K C_Rule) [] := ⟨_, _, _, _, M_Rule, i_ok_Rule, PySem.W.mg_of X G aC_Rule, bd1_Rule_init, vd1_Rule_init⟩
  have c_l_made := cal_l_made (P := l.prog) (w := w) (base := base) F_l_made b_l_made T m_Rule2
  have c_l_body := cal_l_body (P := l.prog) (w := w) (base := base) F_l_body b_l_body T c_l_put
  have c_other := cal_other (P := l.prog) (w := w) (base := base) F_other b_other T
  have c_swapped_word := cal_swapped_word (P := l.prog) (w := w) (base := base) F_swapped_word b_swapped_word T c_other
  have c_swapped := met_swapped (P := l.prog) (w := w) (base := base) F_Rule_swapped ⟨a_Rule_swapped, i_Rule_swapped, k_Rule_swapped⟩ b_Rule_swapped T RT c_swapped_word m_Rule2
  have c_move := cal_move (P := l.prog) (w := w) (base := base) F_move b_move T RT c_put_in c_tail p_longest
  have c_moves_of := cal_moves_of (P := l.prog) (w := w) (base := base) F_moves_of b_moves_of T g_BITS c_move
  have c_best_left := cal_best_left (P := l.prog) (w := w) (base := base) F_best_left b_best_left T
  have c_most_put := cal_most_put (P := l.prog) (w := w) (base := base) F_most_put b_most_put T c_moves_of c_best_left
  have c_dearest := cal_dearest (P := l.prog) (w := w) (base := base) F_dearest b_dearest T g_BITS c_moves_of c_best_left
  have c_all_put := cal_all_put (P := l.prog) (w := w) (base := base) F_all_put b_all_put T c_moves_of
  have c_walks := cal_walks (P := l.prog) (w := w) (base := base) F_walks b_walks T
  have c_least_of := cal_least_of (P := l.prog) (w := w) (base := base) F_least_of b_least_of T
  have c_common := cal_common (P := l.prog) (w := w) (base := base) F_common b_common T
  have c_lowest := cal_lowest (P := l.prog) (w := w) (base := base) F_lowest b_lowest T c_common
  have c_rate := cal_rate (P := l.prog) (w := w) (base := base) F_rate b_rate T c_moves_of c_walks c_least_of c_lowest
  have c_is_at_most := cal_is_at_most (P := l.prog) (w := w) (base := base) F_is_at_most b_is_at_most T
  have c_rate_paper := cal_rate_paper (P := l.prog) (w := w) (base := base) F_rate_paper b_rate_paper T c_is_at_most c_rate c_moves_of c_lowest
  exact ok_law F_law T RT c_l_seed c_l_rule c_l_made c_l_body c_swapped c_most_put c_dearest c_all_put c_rate c_rate_paper
theorem walk {l : PySem.W.OpenLaw} {q : Program} {loose : List Str} {XP : (Str → Option Value) → Heap → Prop} {YP : World → Heap → Prop} {d : DefRec} {K : Params → PySem.W.Frag} (hn : l.most = some 63) (hdf : d.params.defaults = [])
    (hY : ∀ (w : World) (h : Heap), YP w h → (K w.params).In h)
    (F : ∀ (w : World) (mg : Str → Option Value) (fa : Addr) (h : Heap), (K w.params).In h → h.Ns mainGlobals mg → mg d.name = some (.ref fa) →
      ∃ fd : FuncData, (∀ (s : Shared) (u : Value), BindsTo s fd ⟨[u], []⟩ [("_law_script", u)]) ∧ ∀ base : Heap, (K w.params).In base → base.Ns mainGlobals mg → FnOk l.prog w (K w.params) mg base CX0 8 fa fd ["_law_script"] (spLaw (K w.params))) :
    PySem.W.WalkO q loose XP YP l.row.toRowW d [] (fun f vs => PySem.call f vs) :=
  L2.walk_of (n := 63) (k := 8) (x := "_law_script") (CX := fun _ => CX0) (sp := fun w => spLaw (K w.params)) hn (by decide) hdf ⟨rfl, by decide, by decide⟩ hY F (fun _ _ a ns hl _ hS => ⟨a, ns, rfl, hS, hl, fun _ => rfl⟩) fun _ _ _ _ _ z => z
end U

set_option pp.maxSteps 300
open PySem PySem.W PyProof.Rows
set_option maxRecDepth 100000 in
set_option maxHeartbeats 0 in
theorem PySem.Challenge.cw_unseenflips_k40_whole_rates_and_messages_holds : PySem.Challenge.rw_unseenflips_k40_whole_rates_and_messages.Holds := by
  w_on; o_law; k_head; (case hw => w_witness2)
  k_fill
  refine U.walk (l := PySem.Challenge.rw_unseenflips_k40_whole_rates_and_messages) rfl rfl (fun w h Y => PySem.W.kIn_of Y) ?F
  case F =>
    intro w mg fa h KX G hmg
    refine' U.all_mk KX G hmg ?a_is_sequence ?l_is_sequence ?c_is_sequence ?k_is_sequence ?a_is_word ?l_is_word ?c_is_word ?k_is_word ?a_is_bit ?l_is_bit ?c_is_bit ?k_is_bit ?a_other ?l_other ?c_other ?k_other ?a_swapped_word ?l_swapped_word ?c_swapped_word ?k_swapped_word ?a_tail ?l_tail ?c_tail ?k_tail ?a_common ?l_common ?c_common ?k_common ?a_lowest ?l_lowest ?c_lowest ?k_lowest ?a_move ?l_move ?c_move ?k_move ?a_moves_of ?l_moves_of ?c_moves_of ?k_moves_of ?a_best_left ?l_best_left ?c_best_left ?k_best_left ?a_most_put ?l_most_put ?c_most_put ?k_most_put ?a_dearest ?l_dearest ?c_dearest ?k_dearest ?a_all_put ?l_all_put ?c_all_put ?k_all_put ?a_walks ?l_walks ?c_walks ?k_walks ?a_least_of ?l_least_of ?c_least_of ?k_least_of ?a_rate ?l_rate ?c_rate ?k_rate ?a_is_at_most ?l_is_at_most ?c_is_at_most ?k_is_at_most ?a_rate_paper ?l_rate_paper ?c_rate_paper ?k_rate_paper ?a_is_stuff ?l_is_stuff ?c_is_stuff ?k_is_stuff ?a_are_stuffs ?l_are_stuffs ?c_are_stuffs ?k_are_stuffs ?a_l_seed ?l_l_seed ?c_l_seed ?k_l_seed ?a_l_choose ?l_l_choose ?c_l_choose ?k_l_choose ?a_l_one_of ?l_l_one_of ?c_l_one_of ?k_l_one_of ?a_l_word ?l_l_word ?c_l_word ?k_l_word ?a_l_put ?l_l_put ?c_l_put ?k_l_put ?a_l_is_rule ?l_l_is_rule ?c_l_is_rule ?k_l_is_rule ?a_l_rule ?l_l_rule ?c_l_rule ?k_l_rule ?a_l_made ?l_l_made ?c_l_made ?k_l_made ?a_l_body ?l_l_body ?c_l_body ?k_l_body ?a_law ?l_law ?c_law ?k_law ?aC_Rule ?pg_Rule ?hd_Rule ?po_Rule ?sa_Rule ?mk_Rule ?kc_Rule ?n_Rule_flag ?n_Rule_stuffs ?a_Rule_put ?i_Rule_put ?l_Rule_put ?c_Rule_put ?k_Rule_put ?a_Rule_longest ?g_Rule_longest ?t_Rule_longest ?r_Rule_longest ?l_Rule_longest ?c_Rule_longest ?a_Rule_put_in ?i_Rule_put_in ?l_Rule_put_in ?c_Rule_put_in ?k_Rule_put_in ?a_Rule_is_endless ?i_Rule_is_endless ?l_Rule_is_endless ?c_Rule_is_endless ?k_Rule_is_endless ?a_Rule_init ?i_Rule_init ?l_Rule_init ?c_Rule_init ?k_Rule_init ?dl_Rule_init ?dlE_Rule ?a_Rule_swapped ?i_Rule_swapped ?l_Rule_swapped ?c_Rule_swapped ?k_Rule_swapped ?gBITS ?z_len ?z_abs ?z_int ?z_range ?z_max ?z_min ?z_enumerate ?z_zip ?z_dict ?z_list ?z_tuple ?z_isinstance ?z_bool ?z_str ?z_all ?z_any ?z_sum ?z_sorted ?z_repr
    (case a_is_sequence => k_is)
    (case l_is_sequence => k_is)
    (case c_is_sequence => k_is)
    (case k_is_sequence => k_is)
    (case a_is_word => k_is)
    (case l_is_word => k_is)
    (case c_is_word => k_is)
    (case k_is_word => k_is)
    (case a_is_bit => k_is)
    (case l_is_bit => k_is)
    (case c_is_bit => k_is)
    (case k_is_bit => k_is)
    (case a_other => k_is)
    (case l_other => k_is)
    (case c_other => k_is)
    (case k_other => k_is)
    (case a_swapped_word => k_is)
    (case l_swapped_word => k_is)
    (case c_swapped_word => k_is)
    (case k_swapped_word => k_is)
    (case a_tail => k_is)
    (case l_tail => k_is)
    (case c_tail => k_is)
    (case k_tail => k_is)
    (case a_common => k_is)
    (case l_common => k_is)
    (case c_common => k_is)
    (case k_common => k_is)
    (case a_lowest => k_is)
    (case l_lowest => k_is)
    (case c_lowest => k_is)
    (case k_lowest => k_is)
    (case a_move => k_is)
    (case l_move => k_is)
    (case c_move => k_is)
    (case k_move => k_is)
    (case a_moves_of => k_is)
    (case l_moves_of => k_is)
    (case c_moves_of => k_is)
    (case k_moves_of => k_is)
    (case a_best_left => k_is)
    (case l_best_left => k_is)
    (case c_best_left => k_is)
    (case k_best_left => k_is)
    (case a_most_put => k_is)
    (case l_most_put => k_is)
    (case c_most_put => k_is)
    (case k_most_put => k_is)
    (case a_dearest => k_is)
    (case l_dearest => k_is)
    (case c_dearest => k_is)
    (case k_dearest => k_is)
    (case a_all_put => k_is)
    (case l_all_put => k_is)
    (case c_all_put => k_is)
    (case k_all_put => k_is)
    (case a_walks => k_is)
    (case l_walks => k_is)
    (case c_walks => k_is)
    (case k_walks => k_is)
    (case a_least_of => k_is)
    (case l_least_of => k_is)
    (case c_least_of => k_is)
    (case k_least_of => k_is)
    (case a_rate => k_is)
    (case l_rate => k_is)
    (case c_rate => k_is)
    (case k_rate => k_is)
    (case a_is_at_most => k_is)
    (case l_is_at_most => k_is)
    (case c_is_at_most => k_is)
    (case k_is_at_most => k_is)
    (case a_rate_paper => k_is)
    (case l_rate_paper => k_is)
    (case c_rate_paper => k_is)
    (case k_rate_paper => k_is)
    (case a_is_stuff => k_is)
    (case l_is_stuff => k_is)
    (case c_is_stuff => k_is)
    (case k_is_stuff => k_is)
    (case a_are_stuffs => k_is)
    (case l_are_stuffs => k_is)
    (case c_are_stuffs => k_is)
    (case k_are_stuffs => k_is)
    (case a_l_seed => k_is)
    (case l_l_seed => k_is)
    (case c_l_seed => k_is)
    (case k_l_seed => k_is)
    (case a_l_choose => k_is)
    (case l_l_choose => k_is)
    (case c_l_choose => k_is)
    (case k_l_choose => k_is)
    (case a_l_one_of => k_is)
    (case l_l_one_of => k_is)
    (case c_l_one_of => k_is)
    (case k_l_one_of => k_is)
    (case a_l_word => k_is)
    (case l_l_word => k_is)
    (case c_l_word => k_is)
    (case k_l_word => k_is)
    (case a_l_put => k_is)
    (case l_l_put => k_is)
    (case c_l_put => k_is)
    (case k_l_put => k_is)
    (case a_l_is_rule => k_is)
    (case l_l_is_rule => k_is)
    (case c_l_is_rule => k_is)
    (case k_l_is_rule => k_is)
    (case a_l_rule => k_is)
    (case l_l_rule => k_is)
    (case c_l_rule => k_is)
    (case k_l_rule => k_is)
    (case a_l_made => k_is)
    (case l_l_made => k_is)
    (case c_l_made => k_is)
    (case k_l_made => k_is)
    (case a_l_body => k_is)
    (case l_l_body => k_is)
    (case c_l_body => k_is)
    (case k_l_body => k_is)
    (case a_law => k_is)
    (case l_law => k_is)
    (case c_law => k_is)
    (case k_law => k_is)
    (case aC_Rule => k_is)
    (case pg_Rule => k_is)
    (case hd_Rule => k_is)
    (case po_Rule => k_is)
    (case sa_Rule => k_is)
    (case mk_Rule => k_is)
    (case kc_Rule => k_is)
    (case n_Rule_flag => k_is)
    (case n_Rule_stuffs => k_is)
    (case a_Rule_put => k_is)
    (case i_Rule_put => k_is)
    (case l_Rule_put => k_is)
    (case c_Rule_put => k_is)
    (case k_Rule_put => k_is)
    (case a_Rule_longest => k_is)
    (case g_Rule_longest => k_is)
    (case t_Rule_longest => k_is)
    (case r_Rule_longest => k_is)
    (case l_Rule_longest => k_is)
    (case c_Rule_longest => k_is)
    (case a_Rule_put_in => k_is)
    (case i_Rule_put_in => k_is)
    (case l_Rule_put_in => k_is)
    (case c_Rule_put_in => k_is)
    (case k_Rule_put_in => k_is)
    (case a_Rule_is_endless => k_is)
    (case i_Rule_is_endless => k_is)
    (case l_Rule_is_endless => k_is)
    (case c_Rule_is_endless => k_is)
    (case k_Rule_is_endless => k_is)
    (case a_Rule_init => k_is)
    (case i_Rule_init => k_is)
    (case l_Rule_init => k_is)
    (case c_Rule_init => k_is)
    (case k_Rule_init => k_is)
    (case dl_Rule_init => k_is)
    (case dlE_Rule => k_is)
    (case a_Rule_swapped => k_is)
    (case i_Rule_swapped => k_is)
    (case l_Rule_swapped => k_is)
    (case c_Rule_swapped => k_is)
    (case k_Rule_swapped => k_is)
    (case gBITS => k_is)
    (case z_len => k_is)
    (case z_abs => k_is)
    (case z_int => k_is)
    (case z_range => k_is)
    (case z_max => k_is)
    (case z_min => k_is)
    (case z_enumerate => k_is)
    (case z_zip => k_is)
    (case z_dict => k_is)
    (case z_list => k_is)
    (case z_tuple => k_is)
    (case z_isinstance => k_is)
    (case z_bool => k_is)
    (case z_str => k_is)
    (case z_all => k_is)
    (case z_any => k_is)
    (case z_sum => k_is)
    (case z_sorted => k_is)
    (case z_repr => k_is)
#print axioms PySem.Challenge.cw_unseenflips_k40_whole_rates_and_messages_holds
