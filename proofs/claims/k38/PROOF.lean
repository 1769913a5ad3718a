import PyProof.Rows.All
import Wide.All
import OpenK.AllK
import Wide.FinOn
import HandS.ForMost
import HandS.Codes
import HandS.FStr
import HandS.IsInst
import HandS.Star
import HandS.TupAny
import HandS.Style
import HandS.Walk
import KE.GoesEnum
import KE.GoesNew
import HandS.Property
import HandS.Defaults
import HandS.ClsMeth
import HandS.MakeKw
import KE.GoesZip
import HandS.SortOrd
import HandS.SortRule
import HandS.OwnEq
import HandS.CallLocal
import KE.KCallOwn
import HandS.ExcInit
import HandS.Nested
import HandS.TryOnly
import KE.KExcSuper
import HandS.ExcOwn
import HandS.ExcIs
import KE.KDictPairs
import HandS.DictComp
import HandS.Replace
import PySem.Challenge.RW_unseenflips_k38_any_values_as_rate_paper
set_option Elab.async false
set_option linter.all false
set_option maxRecDepth 100000
set_option maxHeartbeats 4000000
namespace Lx
open PySem PySem.Spec PyProof.Rows L2
def ItES (x : Str) : It := ⟨fun i _ => i < x.cps.size, fun i H v H' => ∃ T c, v = .ref T ∧ H T = none ∧ H' = upd H T (.tup [.int (i : Nat), .str ⟨#[c]⟩]) ∧ x.cps[i]? = some c, fun i _ => x.cps.size ≤ i⟩
theorem turn_enumS {P : Program} {w : World} {K : PySem.W.Frag} {elts : List Expr} {kk : Nat} {tpos : Pos} (x : Str) (t : Tok) (e it : Addr) :
    Turn P w K (.Tuple elts kk tpos) (ItES x) [e, it] e (fun i h => (∃ old, IsEnum h e it ((i : Nat) : Int) old) ∧ h.IsStrIter it (strIterType x) x t i ∧ e ≠ it ∧ i ≤ x.cps.size) where
  mem := by simp
  obj := fun i h st b hb => by
    obtain ⟨⟨old, he⟩, ⟨o, ho, hc, hd⟩, _⟩ := st
    have e' : b = e ∨ b = it := by simpa using hb
    rcases e' with z | z
    · rw [z]; exact ⟨_, he, fun v q => nomatch q⟩
    · rw [z]; exact ⟨o, ho, fun v q => by rw [hd] at q; cases q⟩
  keep := fun i h h' st k => by
    obtain ⟨⟨old, he⟩, ⟨o, ho, r⟩, hne⟩ := st
    exact ⟨⟨old, k e (by simp) _ he⟩, ⟨o, k it (by simp) o ho, r⟩, hne⟩
  item := by
    intro X hP hw hK hc i pins s σ H E I hf st hg
    subst hP hw hK
    obtain ⟨⟨old, he⟩, hit, hne, _⟩ := st
    have hlt : i < x.cps.size := hg
    have hel : e < s.heap.objs.size := Heap.lt_size he
    have hil : it < s.heap.objs.size := by obtain ⟨_, q, _⟩ := hit; exact Heap.lt_size q
    have hh : X.A.in1.handled = none := I.ok.hd hc
    refine wpAny_pyNext_enum_itemC (Draws.text hh it x t) he hit hlt hne (by simpa using hne) fun v h' tk hP ho hit' hT hsz hk => ?_
    obtain ⟨c, u, hcx, rfl⟩ := hP
    refine ⟨_, rfl, wpAny_letOwnedTupleGo_enum (s := { s with heap := h', toks := tk + 1 }) ho fun h'' he' sb => ?_⟩
    have hT2 : h''.get? s.heap.objs.size = some { cls := .type "tuple", data := .seq #[.int i tk, .str ⟨#[c]⟩ u] } := (sb.2 _ (Nat.ne_of_gt hel)).trans hT
    have new : ObjOk X.prog X.w (upd H s.heap.objs.size (.tup [.int (i : Nat), .str ⟨#[c]⟩])) h'' s.heap.objs.size (.tup [.int (i : Nat), .str ⟨#[c]⟩]) :=
      ⟨by show 2 ≤ sizeLine; decide, [.int i tk, .str ⟨#[c]⟩ u], .cons ⟨_, rfl⟩ (.cons ⟨_, rfl⟩ .nil), ⟨_, hT2, rfl, _, rfl⟩⟩
    have I1 : Inv X pins σ (upd H s.heap.objs.size (.tup [.int (i : Nat), .str ⟨#[c]⟩])) { s with heap := h'', toks := tk + 1 } :=
      I.turnedNew (ch := [e, it]) (fun b ob hb q => (sb.2 b (fun z => hb (by simp [z]))).trans (hk b ob (fun z => hb (by simp [z])) (fun z => hb (by simp [z])) q)) hf (Nat.le_refl _) new
    refine ⟨.ref s.heap.objs.size, _, I1, rfl, ⟨_, c, rfl, I.hok.fresh (Nat.le_refl _), rfl, hcx⟩, ⟨⟨.str ⟨#[c]⟩ u, ?_⟩, ?_, hne, hlt⟩, fun b hb => ?_⟩
    · have e1 : ((i + 1 : Nat) : Int) = (i : Int) + 1 := by omega
      rw [e1]; exact he'
    · obtain ⟨o, ho', r⟩ := hit'
      exact ⟨o, (sb.2 it (Ne.symm hne)).trans ho', r⟩
    · have hb' : b < s.heap.objs.size := by
        have e' : b = e ∨ b = it := by simpa using hb
        rcases e' with z | z
        · rw [z]; exact hel
        · rw [z]; exact hil
      rw [upd_ne (Nat.ne_of_lt hb')]
      exact (hf b hb).1
  done := by
    intro X hP hw hK hc i pins s σ H E I hf st hg
    subst hP hw hK
    obtain ⟨⟨old, he⟩, hit, hne, hle⟩ := st
    have hge : x.cps.size ≤ i := hg
    have hi : i = x.cps.size := Nat.le_antisymm hle hge
    subst hi
    have hh : X.A.in1.handled = none := I.ok.hd hc
    obtain ⟨f0, f1, f2, f3, f4, f5⟩ := hf it (by simp)
    exact wpAny_pyNext_enum_endD (Draws.text hh it x t) he hit fun h' eb => ⟨rfl, I.turned (t' := s.toks) (fun b o hb q => eb b o hb q) f0 f1 f3 f4 f5⟩
  self := fun A i s Q E st h => let ⟨⟨_, he⟩, _⟩ := st; wpAny_pyIter_enum he h
def iEnumS (ta : TA) : TI := fun σ H R => ta σ H fun vs H1 => ∃ x, vs = [.str x] ∧ R (ItES x) H1
theorem pi_enumS {X : Cx} {e : Expr} {ta : TA} {p pos tpos : Pos} {elts : List Expr} {kk : Nat} (hg : Gl X "enumerate") (hm : X.mg "enumerate" = none) (ha : PA X [e] ta) (hs : starEach [e] X.env = [(false, eval e X.env)] := by rfl) :
    PI X (.Tuple elts kk tpos) (.Call (.Name "enumerate" p) [e] [] pos) (iEnumS ta) := by
  refine ⟨fun pins s σ H R I h => ?_⟩
  refine Call_ (ld_blt I hg hm boot_enumerate (PyProof.Rows.callWith_type1 (thn (ha.run pos pins s σ H _ I h) fun us s1 ⟨vs, H1, I1, r1, q1⟩ => ?_) hs rfl))
  obtain ⟨x, ex, q⟩ := q1
  subst ex
  cases r1 with
  | cons r rr =>
    cases rr
    obtain ⟨t, rfl⟩ := r
    refine call_enumerate_str fun h' he hit hsz hk => wpAny_pyIter_enum he ?_
    have I2 : Inv X pins σ H1 { s1 with heap := h' } := I1.kept (t' := s1.toks) hk
    refine ⟨s1.heap.objs.size + 1, [s1.heap.objs.size + 1, s1.heap.objs.size], _, _, H1, rfl, I2, turn_enumS x t (s1.heap.objs.size + 1) s1.heap.objs.size, ⟨⟨.none, he⟩, hit, Nat.succ_ne_self _, Nat.zero_le _⟩, fun b hb => ?_, q⟩
    have e' : b = s1.heap.objs.size + 1 ∨ b = s1.heap.objs.size := by simpa using hb
    have hle : s1.heap.objs.size ≤ b := by
      rcases e' with z | z
      · rw [z]; exact Nat.le_add_right _ _
      · rw [z]; exact Nat.le_refl _
    exact I1.fpOk hle (I1.hok.fresh hle)
def ItET (K : PySem.W.Frag) (a : Addr) : It :=
  ⟨fun i H => ∃ (xs : List V) (x : V), SqT K H a xs ∧ xs[i]? = some x, fun i H v H' => ∃ T x, v = .ref T ∧ H T = none ∧ H' = upd H T (.tup [.int (i : Nat), x]) ∧ ∀ xs, SqT K H a xs → xs[i]? = some x, fun i H => ∃ xs : List V, SqT K H a xs ∧ xs.length ≤ i⟩
theorem meets_enumerate_newT (l : Addr) (items : Array Value) (n : Nat) (dct : Option Addr) (sl : Array (Option Value)) :
    Meets (Builtin.«enumerate.__new__» ⟨[.type "enumerate", .ref l], []⟩) (fun _ R s => s.heap.get? l = some { cls := .type "tuple", dict := dct, data := .seq items n, slots := sl } ∧
      R (.ok (.ret (.ref (s.heap.push { cls := .type "tuple_iterator", data := .fields #[.ref l, .int 0 0] }).objs.size)))
        { s with heap := (s.heap.push { cls := .type "tuple_iterator", data := .fields #[.ref l, .int 0 0] }).push { cls := .type "enumerate", data := .fields #[.none, .bool false, .ref s.heap.objs.size, rawInt 0, .none, .none] } }) :=
  .of_wp fun prog w A R s h => by
    obtain ⟨hp, g, d, tk, os⟩ := s; obtain ⟨hl, h⟩ := h
    have hsub := sub_enumerate
    have hL : Heap.IsTuple (Shared.heap ⟨hp, g, d, tk, os⟩) l items := ⟨_, hl, rfl, n, rfl⟩
    wp_walk using AutoSeq1.wpAny_loadPart' hl
    refine wpAny_stack_any fun st => wpAny_pure ?_
    split
    · rename_i c _ _ _ _ _
      cases (c == Value.type "enumerate")
      · wp_walk using AutoSeq1.wpAny_loadPart' hl, wpAny_pyIter_tuple hL
        exact ⟨_, rfl, h⟩
      · wp_walk using AutoSeq1.wpAny_loadPart' hl, wpAny_pyIter_tuple hL
        exact ⟨_, rfl, h⟩
    · wp_walk using AutoSeq1.wpAny_loadPart' hl, wpAny_pyIter_tuple hL
      exact ⟨_, rfl, h⟩
theorem call_enumerate_tup {prog : Program} {w : World} {A : Around} {E : Value → Shared → Prop} {s : Shared} {l : Addr} {items : Array Value} {Q : Value → Shared → Prop} (hL : s.heap.IsTuple l items)
    (h : ∀ h', IsEnum h' (s.heap.objs.size + 1) s.heap.objs.size 0 .none → h'.IsTupleIter s.heap.objs.size l 0 → h'.objs.size = s.heap.objs.size + 2 →
      (∀ b o, s.heap.get? b = some o → h'.get? b = some o) → Q (.ref (s.heap.objs.size + 1)) { s with heap := h' }) :
    wpAny (model prog w) A (call (.type "enumerate") [.ref l]) Q E s := by
  obtain ⟨⟨c, dct, dt, sl⟩, hl, hc, n, hd⟩ := hL
  replace hc : c = .type "tuple" := hc
  replace hd : dt = .seq items n := hd
  subst hc hd
  refine callType_new F.called_enumerate (by decide) (F.typeCall_enumerate_1 _) (F.newCall_enumerate_1 _) (fun obj => F.args_object_init_2 obj _) F.entry_enumerate_new
    (meets_enumerate_newT l items n dct sl) ⟨hl, ?_⟩
  have hz : (s.heap.push { cls := .type "tuple_iterator", data := .fields #[.ref l, .int 0 0] }).objs.size = s.heap.objs.size + 1 := Heap.size_push ..
  show _ ∧ _
  rw [hz]
  have he : IsEnum ((s.heap.push { cls := .type "tuple_iterator", data := .fields #[.ref l, .int 0 0] }).push
      { cls := .type "enumerate", data := .fields #[.none, .bool false, .ref s.heap.objs.size, rawInt 0, .none, .none] }) (s.heap.objs.size + 1) s.heap.objs.size 0 .none := by
    have := Heap.get?_push_size (s.heap.push { cls := .type "tuple_iterator", data := .fields #[.ref l, .int 0 0] })
      (o := { cls := .type "enumerate", data := .fields #[.none, .bool false, .ref s.heap.objs.size, rawInt 0, .none, .none] }) rfl
    rw [hz] at this; exact this
  refine ⟨⟨_, he, rfl⟩, h _ he ⟨_, Heap.get?_push_of_some _ (Heap.get?_push_size _ rfl), rfl, rfl⟩ (by rw [Heap.size_push, hz]) fun b o x => Heap.get?_push_of_some _ (Heap.get?_push_of_some _ x)⟩
theorem turn_enumT {P : Program} {w : World} {K : PySem.W.Frag} {elts : List Expr} {kk : Nat} {tpos : Pos} (a e it : Addr) :
    Turn P w K (.Tuple elts kk tpos) (ItET K a) [e, it] e (fun i h => (∃ old, IsEnum h e it ((i : Nat) : Int) old) ∧ h.IsTupleIter it a i ∧ e ≠ it ∧ a ≠ it ∧ a ≠ e) where
  mem := by simp
  obj := fun i h st b hb => by
    obtain ⟨⟨old, he⟩, ⟨o, ho, hc, hd⟩, _⟩ := st
    have e' : b = e ∨ b = it := by simpa using hb
    rcases e' with z | z
    · rw [z]; exact ⟨_, he, fun v q => nomatch q⟩
    · rw [z]; exact ⟨o, ho, fun v q => by rw [hd] at q; cases q⟩
  keep := fun i h h' st k => by
    obtain ⟨⟨old, he⟩, ⟨o, ho, r⟩, hne⟩ := st
    exact ⟨⟨old, k e (by simp) _ he⟩, ⟨o, k it (by simp) o ho, r⟩, hne⟩
  item := by
    intro X hP hw hK hc i pins s σ H E I hf st hg
    subst hP hw hK
    obtain ⟨⟨old, he⟩, hit, hne, hai, hae⟩ := st
    obtain ⟨xs, x, hq, hx⟩ := hg
    obtain ⟨its, rv, p, hz⟩ := I.tuple hq
    obtain ⟨u, hu, ru⟩ := rv.get hx
    have hel : e < s.heap.objs.size := Heap.lt_size he
    have hil : it < s.heap.objs.size := by obtain ⟨_, q, _⟩ := hit; exact Heap.lt_size q
    have hh : X.A.in1.handled = none := I.ok.hd hc
    have pT : s.heap.IsTuple a its.toArray := p
    have hlt : i < its.toArray.size := by
      have := (List.getElem?_eq_some_iff.mp hu).1
      simpa using this
    refine wpAny_pyNext_enum_itemC (Draws.tuple hh it a hai its.toArray) he ⟨hit, pT⟩ hlt hne (by simp [hne, Ne.symm hae]) fun v h' tk hP ho hit' hT hsz hk => ?_
    have ev : v = u := by
      have hP' : its.toArray[i]? = some v := hP
      rw [List.getElem?_toArray, hu] at hP'
      exact (Option.some.inj hP').symm
    subst ev
    refine ⟨_, rfl, wpAny_letOwnedTupleGo_enum (s := { s with heap := h', toks := tk + 1 }) ho fun h'' he' sb => ?_⟩
    have hT2 : h''.get? s.heap.objs.size = some { cls := .type "tuple", data := .seq #[.int i tk, v] } := (sb.2 _ (Nat.ne_of_gt hel)).trans hT
    have new : ObjOk X.prog X.w (upd H s.heap.objs.size (.tup [.int (i : Nat), x])) h'' s.heap.objs.size (.tup [.int (i : Nat), x]) :=
      ⟨by show 2 ≤ sizeLine; decide, [.int i tk, v], .cons ⟨_, rfl⟩ (.cons ru .nil), ⟨_, hT2, rfl, _, rfl⟩⟩
    have I1 : Inv X pins σ (upd H s.heap.objs.size (.tup [.int (i : Nat), x])) { s with heap := h'', toks := tk + 1 } :=
      I.turnedNew (ch := [e, it]) (fun b ob hb q => (sb.2 b (fun z => hb (by simp [z]))).trans (hk b ob (fun z => hb (by simp [z])) (fun z => hb (by simp [z])) q)) hf (Nat.le_refl _) new
    refine ⟨.ref s.heap.objs.size, _, I1, rfl, ⟨_, x, rfl, I.hok.fresh (Nat.le_refl _), rfl, fun ys hy => by rw [I.tuple_inj hy hq]; exact hx⟩, ⟨⟨v, ?_⟩, ?_, hne, hai, hae⟩, fun b hb => ?_⟩
    · have e1 : ((i + 1 : Nat) : Int) = (i : Int) + 1 := by omega
      rw [e1]; exact he'
    · obtain ⟨⟨o, ho', r⟩, _⟩ := hit'
      exact ⟨o, (sb.2 it (Ne.symm hne)).trans ho', r⟩
    · have hb' : b < s.heap.objs.size := by
        have e' : b = e ∨ b = it := by simpa using hb
        rcases e' with z | z
        · rw [z]; exact hel
        · rw [z]; exact hil
      rw [upd_ne (Nat.ne_of_lt hb')]
      exact (hf b hb).1
  done := by
    intro X hP hw hK hc i pins s σ H E I hf st hg
    subst hP hw hK
    obtain ⟨⟨old, he⟩, hit, hne, hai, hae⟩ := st
    obtain ⟨xs, hq, hx⟩ := hg
    obtain ⟨its, rv, p, hz⟩ := I.tuple hq
    have hl := rv.length
    have pT : s.heap.IsTuple a its.toArray := p
    have hh : X.A.in1.handled = none := I.ok.hd hc
    obtain ⟨f0, f1, f2, f3, f4, f5⟩ := hf it (by simp)
    have D : Draws X.prog X.w X.A.in1 it [it, a] i (fun _ _ => True) (fun j h => j = i ∧ h.IsTupleIter it a i ∧ h.IsTuple a its.toArray) :=
      { live := fun _ _ st => let ⟨o, ho, _⟩ := st.2.1; ⟨o, ho⟩
        frame := fun _ _ _ st hk => ⟨st.1, st.2.1.at fun o e => hk it (by simp) o e, st.2.2.at fun o e => hk a (by simp) o e⟩
        item := fun j s Q E hj st hQ => absurd st.1 (Nat.ne_of_lt hj)
        done := fun s Q E st hE => wpAny_nextOf_tuple_end hh st.2.1 st.2.2 (by simp; omega) hE }
    exact wpAny_pyNext_enum_endD D he ⟨rfl, hit, pT⟩ fun h' eb => ⟨rfl, I.turned (t' := s.toks) (fun b o hb q => eb b o hb q) f0 f1 f3 f4 f5⟩
  self := fun A i s Q E st h => let ⟨⟨_, he⟩, _⟩ := st; wpAny_pyIter_enum he h
def iEnumT (K : PySem.W.Frag) (ta : TA) : TI := fun σ H R => ta σ H fun vs H1 => ∃ a xs, vs = [.ref a] ∧ SqT K H1 a xs ∧ R (ItET K a) H1
theorem pi_enumT {X : Cx} {e : Expr} {ta : TA} {p pos tpos : Pos} {elts : List Expr} {kk : Nat} (hg : Gl X "enumerate") (hm : X.mg "enumerate" = none) (ha : PA X [e] ta) (hs : starEach [e] X.env = [(false, eval e X.env)] := by rfl) :
    PI X (.Tuple elts kk tpos) (.Call (.Name "enumerate" p) [e] [] pos) (iEnumT X.K ta) := by
  refine ⟨fun pins s σ H R I h => ?_⟩
  refine Call_ (ld_blt I hg hm boot_enumerate (PyProof.Rows.callWith_type1 (thn (ha.run pos pins s σ H _ I h) fun us s1 ⟨vs, H1, I1, r1, q1⟩ => ?_) hs rfl))
  obtain ⟨a, xs, ex, hq, q⟩ := q1
  subst ex
  cases r1 with
  | cons r rr =>
    cases rr
    cases r
    obtain ⟨its, rv, p', hz⟩ := I1.tuple hq
    have pT : s1.heap.IsTuple a its.toArray := p'
    have hlt : a < s1.heap.objs.size := by obtain ⟨o, ho, _⟩ := pT; exact Heap.lt_size ho
    refine call_enumerate_tup pT fun h' he hit hsz hk => wpAny_pyIter_enum he ?_
    have I2 : Inv X pins σ H1 { s1 with heap := h' } := I1.kept (t' := s1.toks) hk
    refine ⟨s1.heap.objs.size + 1, [s1.heap.objs.size + 1, s1.heap.objs.size], _, _, H1, rfl, I2, turn_enumT a (s1.heap.objs.size + 1) s1.heap.objs.size, ⟨⟨.none, he⟩, hit, Nat.succ_ne_self _, Nat.ne_of_lt hlt, Nat.ne_of_lt (Nat.lt_succ_of_lt hlt)⟩, fun b hb => ?_, q⟩
    have e' : b = s1.heap.objs.size + 1 ∨ b = s1.heap.objs.size := by simpa using hb
    have hle : s1.heap.objs.size ≤ b := by
      rcases e' with z | z
      · rw [z]; exact Nat.le_add_right _ _
      · rw [z]; exact Nat.le_refl _
    exact I1.fpOk hle (I1.hok.fresh hle)
def iEnumQ (K : PySem.W.Frag) (ta : TA) : TI := fun σ H R => iEnum K ta σ H R ∨ iEnumT K ta σ H R
theorem pi_enumQ {X : Cx} {e : Expr} {ta : TA} {p pos tpos : Pos} {elts : List Expr} {kk : Nat} (hg : Gl X "enumerate") (hm : X.mg "enumerate" = none) (ha : PA X [e] ta) (hs : starEach [e] X.env = [(false, eval e X.env)] := by rfl) :
    PI X (.Tuple elts kk tpos) (.Call (.Name "enumerate" p) [e] [] pos) (iEnumQ X.K ta) := by
  refine ⟨fun pins s σ H R I h => ?_⟩
  rcases h with h | h
  · exact (pi_enum hg hm ha hs).run pins s σ H R I h
  · exact (pi_enumT hg hm ha hs).run pins s σ H R I h
theorem walk_enumT {K : PySem.W.Frag} {a : Addr} {xs : List V} : Walk (ItET K a) xs.length (fun H => SqT K H a xs) (YPair (fun i => some (.int (i : Nat))) (fun i => xs[i]?)) := by
  refine ⟨fun i _ hi q => ⟨xs, xs[i], q, by simp [hi]⟩, fun _ q => ⟨xs, q, Nat.le_refl _⟩, fun i H v H' _ q y => ?_⟩
  obtain ⟨T, x, h1, h2, h3, h4⟩ := y
  exact ⟨T, .int (i : Nat), x, h1, h2, h3, rfl, h4 xs q⟩
theorem walk_enumS {x : Str} : Walk (ItES x) x.cps.size (fun _ => True) (fun i H v H' => ∃ T c, v = .ref T ∧ H T = none ∧ H' = upd H T (.tup [.int (i : Nat), .str ⟨#[c]⟩]) ∧ x.cps[i]? = some c) :=
  ⟨fun _ _ hi _ => hi, fun _ _ => Nat.le_refl _, fun _ _ _ _ _ _ y => y⟩
end Lx
set_option maxRecDepth 100000
set_option maxHeartbeats 4000000
namespace Lx
open PySem PySem.Spec PyProof.Rows L2
def ItTup (n : Nat) (f : Nat → List V → Prop) : It :=
  ⟨fun i _ => i < n, fun i H v H' => ∃ T xs, v = .ref T ∧ H T = none ∧ H' = upd H T (.tup xs) ∧ f i xs, fun i _ => n ≤ i⟩
theorem turn_tuples {P : Program} {w : World} {K : PySem.W.Frag} {elts : List Expr} {kk : Nat} {tpos : Pos} {it : Addr} {fp wr : List Addr} {n : Nat} {Pt : Nat → Array Value → Prop} {St : Nat → Heap → Prop} {Mid : Nat → Addr → Heap → Prop} {f : Nat → List V → Prop}
    (Wk : ∀ A : Around, A.in1.handled = none → WalksT P w A it fp wr n Pt St Mid) (hrel : ∀ i vals, Pt i vals → ∃ xs, Vals xs vals.toList ∧ f i xs ∧ xs.length ≤ 8)
    (hobj : ∀ i h, St i h → ∀ b ∈ fp, ∃ o, h.get? b = some o ∧ ∀ v, o.data ≠ .cell v) (hmem : it ∈ fp)
    (hself : ∀ (A : Around) (i : Nat) (s : Shared) (Q : Value → Shared → Prop) (E : Value → Shared → Prop), St i s.heap → Q (.ref it) s → wpAny (model P w) A (pyIter (.ref it)) Q E s) :
    Turn P w K (.Tuple elts kk tpos) (ItTup n f) fp it (fun i h => St i h ∧ i ≤ n) where
  mem := hmem
  obj := fun i h st => hobj i h st.1
  keep := fun i h h' st k => ⟨(Wk {} rfl).frame i h h' st.1 k, st.2⟩
  item := by
    intro X hP hw hK hc i pins s σ H E I hf st hg
    subst hP hw hK
    have hh : X.A.in1.handled = none := I.ok.hd hc
    have hlt : i < n := hg
    refine (GoesN.ofWalksT (elts := elts) (k := kk) (pos := tpos) (Wk X.A hh)).goes i s _ _ hlt st.1 fun v h' tk hY st' hk htk => ?_
    obtain ⟨T, vals, rfl, hnew, hPt, hT⟩ := hY
    obtain ⟨xs, rv, hfx, hl⟩ := hrel i vals hPt
    have new : ObjOk X.prog X.w (upd H T (.tup xs)) h' T (.tup xs) := ⟨Nat.le_trans hl (by decide), vals.toList, rv, by rw [Array.toArray_toList]; exact hT⟩
    have I1 : Inv X pins σ (upd H T (.tup xs)) { s with heap := h', toks := tk } :=
      I.turnedNew (ch := fp) (fun b ob hb q => hk b ob (fun z => hb ((Wk X.A hh).sub b z)) q) hf hnew new
    refine ⟨.ref T, _, I1, rfl, ⟨T, xs, rfl, I.hok.fresh hnew, rfl, hfx⟩, ⟨st', hlt⟩, fun b hb => ?_⟩
    have hb' : b < s.heap.objs.size := by obtain ⟨o, ho, _⟩ := hobj i _ st.1 b hb; exact Heap.lt_size ho
    rw [upd_ne (Nat.ne_of_lt (Nat.lt_of_lt_of_le hb' hnew))]
    exact (hf b hb).1
  done := by
    intro X hP hw hK hc i pins s σ H E I hf st hg
    subst hP hw hK
    have hh : X.A.in1.handled = none := I.ok.hd hc
    have hge : n ≤ i := hg
    have hi : i = n := Nat.le_antisymm st.2 hge
    subst hi
    refine (Wk X.A hh).done s _ _ st.1 fun h' tk hk => ⟨rfl, ?_⟩
    exact I.turnedL (ch := fp) (fun c o hb q => hk c o (fun z => hb ((Wk X.A hh).sub c z)) q) hf
  self := fun A i s Q E st h => hself A i s Q E st.1 h
theorem walk_tuples {n : Nat} {f : Nat → List V → Prop} : Walk (ItTup n f) n (fun _ => True) (fun i H v H' => ∃ T xs, v = .ref T ∧ H T = none ∧ H' = upd H T (.tup xs) ∧ f i xs) :=
  ⟨fun _ _ hi _ => hi, fun _ _ => Nat.le_refl _, fun _ _ _ _ _ _ y => y⟩
def zipF (x y : Str) : Nat → List V → Prop := fun i xs => ∃ c d, x.cps[i]? = some c ∧ y.cps[i]? = some d ∧ xs = [.str ⟨#[c]⟩, .str ⟨#[d]⟩]
def iZipS (ta : TA) : TI := fun σ H R => ta σ H fun vs H1 => ∃ x y, vs = [.str x, .str y] ∧ R (ItTup (min x.cps.size y.cps.size) (zipF x y)) H1
theorem pi_zipS {X : Cx} {e e2 : Expr} {ta : TA} {p pos tpos : Pos} {elts : List Expr} {kk : Nat} (hg : Gl X "zip") (hm : X.mg "zip" = none) (ha : PA X [e, e2] ta)
    (hs : starEach [e, e2] X.env = (false, eval e X.env) :: starEach [e2] X.env := by rfl) (hpl : (backTo pos (starEach [e2] X.env)).any (·.1) = false := by rfl) :
    PI X (.Tuple elts kk tpos) (.Call (.Name "zip" p) [e, e2] [] pos) (iZipS ta) := by
  refine ⟨fun pins s σ H R I h => ?_⟩
  refine Call_ (ld_blt I hg hm PyProof.Rows.boot_zip (PyProof.Rows.callWith_type1 (thn (ha.run pos pins s σ H _ I h) fun us s1 ⟨vs, H1, I1, r1, q1⟩ => ?_) hs hpl))
  obtain ⟨x, y, ex, q⟩ := q1
  subst ex
  cases r1 with
  | cons r rr =>
    cases rr with
    | cons r' rr =>
      cases rr
      obtain ⟨t, rfl⟩ := r
      obtain ⟨t', rfl⟩ := r'
      refine zip_begins2 (begins_text x t) (begins_text y t') trivial trivial fun h' hz hTI hTO h1 h2 hsz hk => wpAny_pyIter_zip hz ?_
      have I2 : Inv X pins σ H1 { s1 with heap := h' } := I1.kept (t' := s1.toks) hk
      have sep := zip_sep2 (N := s1.heap.objs.size) (fp1 := []) (fp2 := []) (fun b hb => nomatch hb) (fun b hb => nomatch hb)
      have tn := turn_tuples (P := X.prog) (w := X.w) (K := X.K) (elts := elts) (kk := kk) (tpos := tpos) (f := zipF x y)
        (fun A hh => WalksT.zipD2 sep (Draws.text (prog := X.prog) (w := X.w) hh s1.heap.objs.size x t) (Draws.text (prog := X.prog) (w := X.w) hh (s1.heap.objs.size + 1) y t'))
        (fun i vals hv => by
          obtain ⟨x1, x2, ⟨c, u, hc, rfl⟩, ⟨d, u', hd, rfl⟩, rfl⟩ := hv
          exact ⟨[.str ⟨#[c]⟩, .str ⟨#[d]⟩], .cons ⟨_, rfl⟩ (.cons ⟨_, rfl⟩ .nil), ⟨c, d, hc, hd, rfl⟩, by show 2 ≤ 8; decide⟩)
        (fun i h st b hb => by
          obtain ⟨z1, z2, ⟨a1, a2, z3⟩, ⟨o1, e1, _, d1⟩, ⟨o2, e2, _, d2⟩⟩ := st
          have e' : b = s1.heap.objs.size + 4 ∨ b = s1.heap.objs.size + 2 ∨ b = s1.heap.objs.size + 3 ∨ b = s1.heap.objs.size ∨ b = s1.heap.objs.size + 1 := by simpa using hb
          rcases e' with q | q | q | q | q
          · rw [q]; exact ⟨_, z1, fun v q => nomatch q⟩
          · rw [q]; exact ⟨_, z2, fun v q => nomatch q⟩
          · rw [q]; exact ⟨_, z3, fun v q => nomatch q⟩
          · rw [q]; exact ⟨o1, e1, fun v q => by rw [d1] at q; cases q⟩
          · rw [q]; exact ⟨o2, e2, fun v q => by rw [d2] at q; cases q⟩)
        (by simp) (fun A i s Q E st h => wpAny_pyIter_zip st.1 h)
      refine ⟨s1.heap.objs.size + 4, _, _, _, H1, rfl, I2, tn, ⟨⟨hz, hTI, ⟨_, _, hTO⟩, ⟨_, h1, rfl, rfl⟩, ⟨_, h2, rfl, rfl⟩⟩, Nat.zero_le _⟩, fun c hcm => ?_, q⟩
      have e' : c = s1.heap.objs.size + 4 ∨ c = s1.heap.objs.size + 2 ∨ c = s1.heap.objs.size + 3 ∨ c = s1.heap.objs.size ∨ c = s1.heap.objs.size + 1 := by simpa using hcm
      have hle : s1.heap.objs.size ≤ c := by
        rcases e' with z | z | z | z | z
        · rw [z]; exact Nat.le_add_right _ _
        · rw [z]; exact Nat.le_add_right _ _
        · rw [z]; exact Nat.le_add_right _ _
        · rw [z]; exact Nat.le_refl _
        · rw [z]; exact Nat.le_add_right _ _
      exact I1.fpOk hle (I1.hok.fresh hle)
section
variable {X : Cx}
theorem op_rep_str : OpR X (binaryOp .Mult) (fun x y H Q => ∃ (z : Str) (n : Int), x = .str z ∧ y = .int n ∧ n < 2 ^ 20 ∧ -(2 ^ 20) < n ∧ z.length * n.toNat ≤ 100000 ∧ Q (.str (Txt.mul z n)) H) := by
  intro pins s σ H x y u v Q I rx ry h
  obtain ⟨z, n, rfl, rfl, h1, h2, h3, q⟩ := h
  obtain ⟨t, rfl⟩ := rx
  obtain ⟨t', rfl⟩ := ry
  refine SB.mul ⟨?_, fun a b => ?_, fun a b => ?_⟩ fun t' k => ⟨.str (Txt.mul z n), H, I.tok _, ⟨_, rfl⟩, q⟩
  · rw [decide_eq_false (by omega), decide_eq_false (by omega)]; rfl
  · have e1 : ((z.length : Int)) ≤ 100000 := by
      have : z.length * 1 ≤ z.length * n.toNat := Nat.mul_le_mul_left _ (by omega)
      omega
    have e2 : (100000 : Int) ≤ (2 ^ 63 - 1) / n := by
      refine (Int.le_ediv_iff_mul_le (by omega)).mpr ?_
      omega
    omega
  · show decide (z.length * n.toNat > sizeLine) = false
    exact decide_eq_false (Nat.not_lt.mpr (Nat.le_trans h3 (by decide)))
end
open C8 in
theorem pe_mk0 {X : Cx} {k j : Nat} {C : Addr} {x : Str} {sp : Sp} {dvs : List V} {p pos : Pos} (c : Mak X.prog X.w X.K X.mg X.base k x C sp dvs) (hr : Room j X.A) (hk : k + 1 ≤ j) (hg : Gl X x) (hdb : (x == ("__debug__" : Str)) = false := by decide) :
    PE X (.Call (.Name x p) [] [] pos) (tMake C sp dvs C8.E0 tNil) := by
  obtain ⟨f, fd, ps, ds, M, F, hm, b, d⟩ := c.ex
  exact pe_make0 M F (hr.mono hk) hg hm b d C8.pass0 hdb
open C8 in
theorem pe_c0 {X : Cx} {k j : Nat} {x : Str} {sp : Sp} {dvs : List V} {p pos : Pos} (c : Cal X.prog X.w X.K X.mg X.base k x sp dvs) (hr : Room j X.A) (hk : k ≤ j) (hg : Gl X x) (hdb : (x == ("__debug__" : Str)) = false := by decide) :
    PE X (.Call (.Name x p) [] [] pos) (tCall sp dvs C8.E0 tNil) := by
  obtain ⟨f, fd, ps, ds, F, hm, kp, b, d⟩ := c.ex
  exact pe_call0 F (hr.mono hk) hg hm kp b d C8.pass0 hdb
structure Prp (P : Program) (w : World) (K : PySem.W.Frag) (mg : Str → Option Value) (base : Heap) (k : Nat) (C : Addr) (m : Str) (sp : Sp) : Prop where
  ex : ∃ (p f : Addr) (fd : FuncData) (ps : List Str), Cls K C ∧ PropOf K C m p f ∧ FnOk P w K mg base C8.CX0 k f fd ps sp ∧ Binds K fd ps []
theorem pe_pr {X : Cx} {k j : Nat} {C : Addr} {m : Str} {sp : Sp} {e : Expr} {ta : TE} {pos : Pos} (c : Prp X.prog X.w X.K X.mg X.base k C m sp) (hr : Room j X.A) (hk : k + 1 ≤ j) (he : PE X e ta) (hab : attributeBase e m X.env (eval e X.env) = eval e X.env := by rfl) :
    PE X (.Attribute e m pos) (tProp C sp [] C8.E0 ta) := by
  obtain ⟨p, f, fd, ps, hc, hp, F, b⟩ := c.ex
  exact pe_prop he hc hp F (hr.mono hk) b .nil C8.pass0 hab
end Lx
set_option maxRecDepth 100000
set_option maxHeartbeats 4000000
namespace SrT
open PySem PyProof.Rows SrtO
def IsTT (h : Heap) (v : Value) (x y : Str) : Prop := ∃ a o t u n, v = .ref a ∧ h.get? a = some o ∧ o.cls = .type "tuple" ∧ o.data = .seq #[.str x t, .str y u] n
theorem IsTT.keeps {h h' : Heap} {v : Value} {x y : Str} (p : IsTT h v x y) (k : ∀ b o, h.get? b = some o → o.cls = .type "tuple" → h'.get? b = some o) : IsTT h' v x y := by
  obtain ⟨a, o, t, u, n, e, ho, hc, hd⟩ := p
  exact ⟨a, o, t, u, n, e, k _ _ ho hc, hc, hd⟩
def lexT (p q : Str × Str) : Bool := if p.1 = q.1 then decide (p.2.cps.toList < q.2.cps.toList) else decide (p.1.cps.toList < q.1.cps.toList)
theorem str_of {a b : Str} (h : a.cps.toList = b.cps.toList) : a = b := TL.ext_tl h
theorem tri {a b : Str} (h1 : ¬ a.cps.toList < b.cps.toList) (h2 : ¬ b.cps.toList < a.cps.toList) : a = b :=
  str_of (List.le_antisymm (List.not_lt.mp h2) (List.not_lt.mp h1))
theorem lexT_no {p q : Str × Str} : lexT p q = false ↔ q.1.cps.toList < p.1.cps.toList ∨ (p.1 = q.1 ∧ ¬ p.2.cps.toList < q.2.cps.toList) := by
  unfold lexT
  by_cases e : p.1 = q.1
  · rw [if_pos e, decide_eq_false_iff_not]
    constructor
    · intro h; exact .inr ⟨e, h⟩
    · rintro (h | h)
      · rw [e] at h; exact absurd h (List.lt_irrefl _)
      · exact h.2
  · rw [if_neg e, decide_eq_false_iff_not]
    constructor
    · intro h
      by_cases c : q.1.cps.toList < p.1.cps.toList
      · exact .inl c
      · exact absurd (tri h c) e
    · rintro (h | h)
      · exact List.lt_asymm h
      · exact absurd h.1 e
theorem lexT_yes {p q : Str × Str} : lexT p q = true ↔ p.1.cps.toList < q.1.cps.toList ∨ (p.1 = q.1 ∧ p.2.cps.toList < q.2.cps.toList) := by
  unfold lexT
  by_cases e : p.1 = q.1
  · rw [if_pos e, decide_eq_true_eq]
    constructor
    · intro h; exact .inr ⟨e, h⟩
    · rintro (h | h)
      · rw [e] at h; exact absurd h (List.lt_irrefl _)
      · exact h.2
  · rw [if_neg e, decide_eq_true_eq]
    constructor
    · intro h; exact .inl h
    · rintro (h | h)
      · exact h
      · exact absurd h.1 e
theorem swo_T {α : Type} (k : α → Str × Str) : Swo fun v u => lexT (k v) (k u) := by
  refine ⟨fun x y h => ?_, fun x y z h1 h2 => ?_⟩
  · rcases lexT_yes.mp h with a | ⟨a, b⟩
    · exact lexT_no.mpr (.inl a)
    · exact lexT_no.mpr (.inr ⟨a.symm, List.lt_asymm b⟩)
  · refine lexT_no.mpr ?_
    rcases lexT_no.mp h1 with a | ⟨a, b⟩ <;> rcases lexT_no.mp h2 with c | ⟨c, d⟩
    · exact .inl (List.lt_trans a c)
    · rw [← c] at a; exact .inl a
    · rw [a] at c; exact .inl c
    · refine .inr ⟨c.trans a, fun hz => ?_⟩
      by_cases e : (k y).2.cps.toList < (k x).2.cps.toList
      · exact b e
      · by_cases g : (k z).2 = (k y).2
        · rw [g] at hz; exact b hz
        · by_cases i : (k y).2.cps.toList < (k z).2.cps.toList
          · exact b (List.lt_trans i hz)
          · exact g (tri d i)
section
variable {prog : Program} {w : World} {A : Around} {E : Value → Shared → Prop} {s : Shared}
theorem tt_cmp {vs : List Value} {k : Value → Str × Str} (hp : ∀ v ∈ vs, IsTT s.heap v (k v).1 (k v).2) : Cmp prog w A s (tuples' true) (fun p => p.1 ∈ vs) (lt2 fun v u => lexT (k v) (k u)) := by
  intro p q hm hm'
  have h1 := hp _ hm
  have h2 := hp _ hm'
  show wpAny (model prog w) A (keyLt' (tuples' true) p.1 q.1) (fun r s' => s' = s ∧ r = lexT (k p.1) (k q.1)) (fun _ _ => False) s
  unfold lexT
  generalize (k p.1).1 = x at h1 ⊢
  generalize (k p.1).2 = y at h1 ⊢
  generalize (k q.1).1 = x' at h2 ⊢
  generalize (k q.1).2 = y' at h2 ⊢
  obtain ⟨a, o, t, u, n, e, ho, hc, hd⟩ := h1
  obtain ⟨a', o', t', u', n', e', ho', hc', hd'⟩ := h2
  rw [e, e']
  refine PySem.W.kat_lt ho hd ho' hd' ?_
  show PySem.W.KatLex prog w A true (decide (2 < 2)) _ [(.str x t, .str x' t'), (.str y u, .str y' u')] 0 s
  refine PySem.W.kat_cons (SeqAt.EqAt.str_str x t x' t' prog w _ _ ?_)
  refine PySem.W.kat_go (fun e1 => ?_) (fun e1 => ?_)
  · have ex : x = x' := by simpa using e1
    refine PySem.W.kat_yes (PySem.W.kat_cons (SeqAt.EqAt.str_str y u y' u' prog w _ _ ?_))
    refine PySem.W.kat_go (fun e2 => ?_) (fun e2 => ?_)
    · have ey : y = y' := by simpa using e2
      have e3 : (if x = x' then decide (y.cps.toList < y'.cps.toList) else decide (x.cps.toList < x'.cps.toList)) = false := by
        rw [if_pos ex, ey]
        exact decide_eq_false (List.lt_irrefl _)
      exact PySem.W.kat_yes (PySem.W.kat_nil ⟨rfl, e3.symm⟩)
    · have e3 : (if x = x' then decide (y.cps.toList < y'.cps.toList) else decide (x.cps.toList < x'.cps.toList)) = decide (y.cps.toList < y'.cps.toList) := if_pos ex
      refine PySem.W.kat_no (PySem.W.kat_one _ _ (PyProof.Rows.lt_str ?_))
      exact (show s = s ∧ decide (y.cps.toList < y'.cps.toList) = (if x = x' then decide (y.cps.toList < y'.cps.toList) else decide (x.cps.toList < x'.cps.toList)) from ⟨rfl, e3.symm⟩)
  · have ex : ¬ x = x' := by simpa using e1
    have e3 : (if x = x' then decide (y.cps.toList < y'.cps.toList) else decide (x.cps.toList < x'.cps.toList)) = decide (x.cps.toList < x'.cps.toList) := if_neg ex
    exact PySem.W.kat_no (oneLt_str ⟨rfl, e3.symm⟩)
theorem firsts_T {h : Heap} : ∀ {vs : List Value}, (∀ v ∈ vs, ∃ x y, IsTT h v x y) → ∃ fs : List Value, PySem.W.KatTups h vs fs ∧ fs.length = vs.length ∧ ∀ f ∈ fs, ∃ x t, f = Value.str x t
  | [], _ => ⟨[], PySem.W.KatTups.nil, rfl, fun _ hm => by simp at hm⟩
  | v :: vs, hp => by
    obtain ⟨fs, h1, h2, h3⟩ := firsts_T (vs := vs) fun v' hm => hp v' (List.mem_cons_of_mem _ hm)
    obtain ⟨x, y, a, o, t, u, n, e, ho, hc, hd⟩ := hp v (List.mem_cons_self ..)
    subst e
    refine ⟨.str x t :: fs, PySem.W.KatTups.cons ho hc hd rfl h1, by rw [List.length_cons, List.length_cons, h2], fun f hm => ?_⟩
    rcases List.mem_cons.mp hm with rfl | hm
    · exact ⟨x, t, rfl⟩
    · exact h3 f hm
theorem tt_sortable {a : Addr} {vs : List Value} {k : Value → Str × Str} (h0 : 0 < vs.length) (hp : ∀ v ∈ vs, IsTT s.heap v (k v).1 (k v).2) (ha : ∀ o, s.heap.get? a = some o → o.cls ≠ .type "tuple") : SortableO prog w A s a vs fun v u => lexT (k v) (k u) := by
  intro h' keep
  have hp' : ∀ v ∈ vs, IsTT h' v (k v).1 (k v).2 := fun v hm => (hp v hm).keeps fun b o e c => keep b o (fun z => by subst z; exact ha o e c) e
  obtain ⟨fs, h1, h2, h3⟩ := firsts_T fun v hm => ⟨_, _, hp' v hm⟩
  refine ⟨tuples' true, fun Q E hq => ?_, tt_cmp hp'⟩
  refine PySem.W.kat_kind (T := .type "str") h1 (by omega) (fun f hm => ?_) (by rfl) ?_
  · obtain ⟨x, t, rfl⟩ := h3 f hm
    exact PySem.W.Looks.now
  · have e : (Value.type "str" != Value.type "tuple") = true := by first | decide +kernel | rfl | decide
    rw [e]
    exact hq
theorem collect_tup {l : Addr} {vs : List Value} {Q : List Value → Shared → Prop} (hl : s.heap.IsTuple l vs.toArray)
    (h : Q vs { s with heap := (s.heap.push (seqObj "list" #[] 0)).update s.heap.objs.size (Obj.mapSeq (· ++ vs.toArray)) }) (hsz : vs.length ≤ sizeLine) :
    wpAny (model prog w) A (collect (.ref l)) Q E s := by
  obtain ⟨o, ho, hc, n, hd⟩ := id hl
  unfold collect
  refine wpAny_bind (wpAny_runValue (codeAny_builtin entry_proto_collect' ?_))
  show wpAny _ _ (do again (.builtin "list.__iadd__" ⟨[← newList [], .ref l], []⟩)) _ _ s
  refine wpAny_bind (wpAny_newList (wpAny_pure ⟨Code.quiet_builtin _ (by decide +kernel), codeAny_builtin entry_list_iadd' ?_⟩))
  show wpAny _ _ (Builtin.List.listExtendWith (.ref s.heap.objs.size) (.ref l) (.ref s.heap.objs.size)) _ _ { s with heap := s.heap.push (seqObj "list" #[] 0) }
  unfold Builtin.List.listExtendWith
  have ho' : (s.heap.push (seqObj "list" #[] 0)).get? l = some o := Heap.get?_push_of_some _ ho
  refine wpAny_bind (wpAny_typeOf (T := "tuple") ⟨o, ho', hc⟩ ?_)
  have ht : (Value.type "tuple" == Value.type "tuple") = true := by rfl
  rw [if_pos (by rw [ht]; simp)]
  refine wpAny_bind (listItems_at ho' hd ?_)
  refine wpAny_bind (listItems_at (xs := #[]) (n := 0) (Heap.get?_push_size _ rfl) rfl ?_)
  rw [if_neg (by simp)]
  refine wpAny_bind (listUpdate_at (xs := #[]) (n := 0) (Heap.get?_push_size _ rfl) rfl ?_ (Nat.zero_le _) (by show (#[] ++ vs.toArray).size ≤ sizeLine + 1; simp only [Array.size_append, List.size_toArray, List.length_nil]; omega))
  refine wpAny_pure ?_
  show wpAny (model prog w) A (do
      let o ← load s.heap.objs.size
      match o.data with
      | .seq xs _ => pure xs.toList
      | _ => unsupported "internal:collect") Q E { s with heap := (s.heap.push (seqObj "list" #[] 0)).update s.heap.objs.size (Obj.mapSeq (· ++ vs.toArray)) }
  refine wpAny_bind (wpAny_load (get?_update_seq (Heap.get?_push_size _ rfl) _) ?_)
  show wpAny _ _ (pure ((#[] : Array Value) ++ vs.toArray).toList) Q E _
  rw [show ((#[] : Array Value) ++ vs.toArray).toList = vs by simp]
  exact wpAny_pure h
theorem sorted_col {x : Value} {vs : List Value} {ltv : Value → Value → Bool} {Q : Value → Shared → Prop} (O : Swo ltv)
    (hcol : ∀ (A : Around) (E : Value → Shared → Prop) (Q : List Value → Shared → Prop), Q vs { s with heap := (s.heap.push (seqObj "list" #[] 0)).update s.heap.objs.size (Obj.mapSeq (· ++ vs.toArray)) } → wpAny (model prog w) A (collect x) Q E s) (hz : vs.length ≤ sizeLine)
    (hS : 2 ≤ vs.length → ∀ (h₁ : Heap) (a : Addr), h₁.get? a = some (seqObj "list" vs.toArray 0) → (∀ b o, s.heap.get? b = some o → b ≠ a ∧ h₁.get? b = some o) → SortableO prog w A.in1.in1 { s with heap := h₁ } a vs ltv)
    (h : ∀ out : List Value, Srtd ltv out → Stb ltv out vs → Q (.ref (s.heap.objs.size + 1)) { s with heap := sortedAll s.heap vs out.toArray }) :
    wpAny (model prog w) A (call (.builtin "sorted") [x]) Q E s := by
  refine Calls.call_function_entry kind_sorted plain_sorted entry_sorted (args_sorted1 _) ?_
  unfold Builtin.«sorted»
  refine wpAny_bind (m := checkCount "sorted" 1 1 _) (wpAny_pure ?_)
  refine wpAny_bind (hcol _ _ _ ?_)
  refine wpAny_bind (wpAny_newList ?_ hz)
  have hsz : ((s.heap.push (seqObj "list" #[] 0)).update s.heap.objs.size (Obj.mapSeq (· ++ vs.toArray))).objs.size = s.heap.objs.size + 1 := by
    rw [Heap.size_update, size_push']
  have hoL : (((s.heap.push (seqObj "list" #[] 0)).update s.heap.objs.size (Obj.mapSeq (· ++ vs.toArray))).push (seqObj "list" vs.toArray 0)).get? (s.heap.objs.size + 1) = some (seqObj "list" vs.toArray 0) := by
    rw [← hsz]; exact Heap.get?_push_size _ rfl
  have keep : ∀ b o, s.heap.get? b = some o → b ≠ s.heap.objs.size + 1 ∧ (((s.heap.push (seqObj "list" #[] 0)).update s.heap.objs.size (Obj.mapSeq (· ++ vs.toArray))).push (seqObj "list" vs.toArray 0)).get? b = some o := fun b o q => by
    have hlt : b < s.heap.objs.size := Heap.lt_size q
    refine ⟨Nat.ne_of_lt (Nat.lt_succ_of_lt hlt), Heap.get?_push_of_some _ ?_⟩
    rw [Heap.get?_update_ne _ _ _ _ (Nat.ne_of_lt hlt)]
    exact Heap.get?_push_of_some _ q
  show wpAny _ _ _ _ _ { s with heap := ((s.heap.push (seqObj "list" #[] 0)).update s.heap.objs.size (Obj.mapSeq (· ++ vs.toArray))).push (seqObj "list" vs.toArray 0) }
  rw [hsz]
  refine wpAny_bind (wpAny_holding (wpAny_call_entry slot_list_sort ⟨_, hoL, rfl⟩ entry_list_sort (list_sort_ord O hoL hz (fun h2 => hS h2 _ _ hoL keep) fun out hs hb => ⟨_, rfl, ?_⟩) (args_list_sort _)))
  exact wpAny_pure ⟨_, rfl, h out hs hb⟩
end
end SrT
namespace Lx
open PySem PySem.Spec PyProof.Rows L2
def rSortedT (K : PySem.W.Frag) : List V → Hp → VK → Prop := fun vs H Q => ∃ (a : Addr) (ps : List Addr) (k : Addr → Str × Str), vs = [V.ref a] ∧ (SqL K H a (ps.map V.ref) ∨ SqT K H a (ps.map V.ref)) ∧ (∀ t ∈ ps, H t = some (.tup [.str (k t).1, .str (k t).2])) ∧
  ∀ (qs : List Addr) p, SrtO.Srtd (fun x y => SrT.lexT (k x) (k y)) qs → qs.Perm ps → H p = none → Q (.ref p) (upd H p (.lst (qs.map V.ref)))
section
variable {X : Cx}
theorem cr_sortedT : CallR X (.builtin "sorted") (rSortedT X.K) := by
  intro pins s σ H vs us Q I r h
  obtain ⟨a, ps, k, rfl, hs, hx, q⟩ := h
  obtain ⟨u, rfl, ru⟩ := vals1 r
  obtain rfl : u = Value.ref a := ru
  have com : ∀ its : List Value, Vals (ps.map V.ref) its → its.length ≤ sizeLine → (∀ (A : Around) (E : Value → Shared → Prop) (Q : List Value → Shared → Prop), Q its { s with heap := (s.heap.push (seqObj "list" #[] 0)).update s.heap.objs.size (Obj.mapSeq (· ++ its.toArray)) } → wpAny (model X.prog X.w) A (collect (.ref a)) Q E s) →
      wpAny (model X.prog X.w) X.A (call (.builtin "sorted") [Value.ref a]) (EP X pins σ Q) X.xe s := by
    intro its rv hz hcol
    have ei : its = ps.map Value.ref := by
      clear hcol hz hx q hs
      induction ps generalizing its with
      | nil => cases rv; rfl
      | cons x l ih =>
        cases rv with
        | cons h1 h2 =>
          rw [List.map_cons, ← ih _ h2]
          congr 1
    subst ei
    have hp : ∀ v ∈ ps.map Value.ref, SrT.IsTT s.heap v (match v with | .ref t => k t | _ => ("", "")).1 (match v with | .ref t => k t | _ => ("", "")).2 := by
      intro v hv
      obtain ⟨t, ht, rfl⟩ := List.mem_map.mp hv
      obtain ⟨_, its2, r2, o, ho, hc, n, hd⟩ := I.hok _ _ (hx t ht)
      obtain ⟨u1, u2, rfl, ri, rj⟩ := vals2 r2
      obtain ⟨t1, rfl⟩ := ri
      obtain ⟨t2, rfl⟩ := rj
      exact ⟨t, o, t1, t2, n, rfl, ho, hc, hd⟩
    refine SrT.sorted_col (SrT.swo_T fun v : Value => match v with | .ref t => k t | _ => ("", "")) hcol hz (fun h2 h₁ b hb kk => ?_) fun out h1 h2 => ?_
    · refine SrT.tt_sortable (s := { s with heap := h₁ }) (by omega) (fun v hm => (hp v hm).keeps fun b o e _ => (kk b o e).2) fun o e => ?_
      have e' : some o = some (seqObj "list" (ps.map Value.ref).toArray 0) := e.symm.trans hb
      cases e'
      intro c
      exact absurd (Value.type.inj c) (by decide)
    · obtain ⟨qs, rfl⟩ : ∃ qs : List Addr, out = qs.map Value.ref := by
        have hm : ∀ v ∈ out, ∃ t, v = Value.ref t := fun v hv => by
          obtain ⟨t, _, e⟩ := List.mem_map.mp (h2.perm.mem_iff.mp hv)
          exact ⟨t, e.symm⟩
        clear h1 h2
        induction out with
        | nil => exact ⟨[], rfl⟩
        | cons v r ih =>
          obtain ⟨t, rfl⟩ := hm v List.mem_cons_self
          obtain ⟨qs, rfl⟩ := ih fun v hv => hm v (List.mem_cons_of_mem _ hv)
          exact ⟨t :: qs, rfl⟩
      have perm : qs.Perm ps := by
        have h3 := h2.perm.map (fun v : Value => match v with | .ref t => t | _ => 0)
        rw [List.map_map, List.map_map] at h3
        have ef : ((fun v : Value => match v with | .ref t => t | _ => 0) ∘ Value.ref) = id := by funext t; rfl
        rw [ef, List.map_id, List.map_id] at h3
        exact h3
      have srt : SrtO.Srtd (fun x y => SrT.lexT (k x) (k y)) qs := List.pairwise_map.mp h1
      obtain ⟨n, hn⟩ := PyProof.Rows.sortedAll_at s.heap (ps.map Value.ref) (qs.map Value.ref).toArray
      have hd : s.heap.objs.size ≤ s.heap.objs.size + 1 := Nat.le_succ _
      have rq : Vals (qs.map V.ref) (qs.map Value.ref) := by
        clear h1 h2 perm srt hn
        induction qs with
        | nil => exact .nil
        | cons x l ih => exact .cons rfl ih
      refine ⟨.ref (s.heap.objs.size + 1), upd H (s.heap.objs.size + 1) (.lst (qs.map V.ref)), I.laid (t' := s.toks) (fun b o e => PyProof.Rows.sortedAll_old e) hd ⟨?_, _, n, rq, hn⟩, rfl, q qs _ srt perm (I.hok.fresh hd)⟩
      rw [List.length_map, perm.length_eq, ← List.length_map (f := Value.ref)]
      exact hz
  rcases hs with hs | hs
  · obtain ⟨its, rv, hl, hz⟩ := I.list hs
    exact com its rv (by rw [← rv.length]; exact hz) fun A E Q h => collect_list hl.isList h (by rw [← rv.length]; exact hz)
  · obtain ⟨its, rv, hl, hz⟩ := I.tuple hs
    exact com its rv (by rw [← rv.length]; exact hz) fun A E Q h => SrT.collect_tup (show s.heap.IsTuple a its.toArray from hl) h (by rw [← rv.length]; exact hz)
def iSeq (K : PySem.W.Frag) (tl : TE) : TI := fun σ H R => iList K tl σ H R ∨ iTup K tl σ H R
theorem pi_seq {tg l : Expr} {tl : TE} (hl : PE X l tl) : PI X tg l (iSeq X.K tl) := by
  refine ⟨fun pins s σ H R I h => ?_⟩
  rcases h with h | h
  · exact (pi_list hl).run pins s σ H R I h
  · exact (pi_tup hl).run pins s σ H R I h
theorem ty_list {K : PySem.W.Frag} {H : Hp} {a : Addr} {xs : List V} (h : SqL K H a xs) : TyX K H (.ref a) (.type "list") := by
  rcases h with (h | ⟨o, h⟩) | ⟨o, its, n, hk, hc, _⟩
  · exact .base (.lst h)
  · exact .base (.frz h)
  · exact .kList hk hc
theorem ty_tup {K : PySem.W.Frag} {H : Hp} {a : Addr} {xs : List V} (h : SqT K H a xs) : TyX K H (.ref a) (.type "tuple") := by
  rcases h with (h | ⟨o, h⟩) | ⟨o, its, n, hk, hc, _⟩
  · exact .base (.tup h)
  · exact .fTuple h
  · exact .kTuple hk hc
theorem same_tup {K : PySem.W.Frag} {H H' : Hp} {a : Addr} {xs : List V} (e : Same H H') (h : SqT K H a xs) : SqT K H' a xs := by
  rcases h with (h | ⟨o, h⟩) | h
  · exact .inl (.inl (e _ _ h))
  · exact .inl (.inr ⟨o, e _ _ h⟩)
  · exact .inr h
def Sq (K : PySem.W.Frag) (H : Hp) (a : Addr) (xs : List V) : Prop := SqL K H a xs ∨ SqT K H a xs
theorem Sq.same {K : PySem.W.Frag} {H H' : Hp} {a : Addr} {xs : List V} (h : Sq K H a xs) (e : Same H H') : Sq K H' a xs := h.elim (fun h => .inl (e.seq h)) (fun h => .inr (same_tup e h))
end
end Lx
set_option maxRecDepth 100000
set_option maxHeartbeats 4000000
namespace Lx
open PySem PySem.Spec PyProof.Rows L2
section
variable {X : Cx} {k j : Nat} {C : Addr} {sp : Sp}
theorem run_sub {CX : CXT} {f : Addr} {fd : FuncData} {ps : List Str} {A : Around} {pins : List (Addr × Obj)} {σ : L2.St} {H : Hp} {s : Shared} {Q : VK} {E : XK} {us : List Value} {vs : List V} (F : FnOk X.prog X.w X.K X.mg X.base CX k f fd ps sp) (sb : Sub X k A) (hb : Binds X.K fd ps [])
    (hx : Passes CX X E) (I : Inv X pins σ H s) (r : Vals vs us) (h : sp vs H Q E) : wpAny (model X.prog X.w) A (call (.ref f) us) (EP X pins σ Q) X.xe s := by
  have e0 : Env0 X.prog X.w X.K X.mg X.base A X.stack s H := by
    have e := I.env0
    exact ⟨by rw [sb.fr]; exact e.frames, e.mod, e.bs, e.bsz, e.funs, e.frf, e.hok, e.bare⟩
  have hl : (us ++ []).length = ps.length := by rw [List.append_nil, ← r.length]; exact F.len _ _ _ _ h
  refine wpAny_call (codeAny_mono (F.run A X.stack s H ⟨us, []⟩ us vs Q E sb.room e0 (by have := hb s us I.kIn hl; simpa using this) r h) fun r s' hq => ?_)
  cases r with
  | error e => exact hx pins σ H s e s' I hq
  | ok fl =>
    cases fl with
    | ret w => exact I.after hq
    | next => exact False.elim hq
    | brk => exact False.elim hq
    | cont => exact False.elim hq
theorem vals_nil {ds : List Value} (h : Vals [] ds) : ds = [] := by cases h; rfl
theorem sub_in2 {A : Around} (hr : Room j A) (hk : k + 2 ≤ j) (hf : A.frames = X.A.frames) : Sub X k A.in1.in1 := by
  have s : Sub X (k + 2) A := ⟨hr.mono hk, hf⟩
  exact s.in1.in1
def rStrO (C : Addr) (sp : Sp) : List V → Hp → VK → Prop := fun xs H Q => ∃ a dx fs, xs = [.ref a] ∧ H a = some (.ins C dx fs) ∧ sp [.ref a] H (fun v H' => ∃ z, v = .str z ∧ Q (.str z) H') C8.E0
theorem call_str_own (c : C8.Met X.prog X.w X.K X.mg X.base k C "__str__" sp []) (hr : Room j X.A) (hk : k + 2 ≤ j) : CallR X (.type "str") (rStrO C sp) := by
  intro pins s σ H xs us Q I rv h
  obtain ⟨a, dx, fs, rfl, ha, hsp⟩ := h
  obtain ⟨f, fd, ps, ds, _, me, F, b, d⟩ := c.ex
  obtain rfl := vals_nil d
  cases rv with
  | cons r rr =>
    cases rr
    cases r
    obtain ⟨mA, J, _⟩ := ins_get I.hok ha
    obtain ⟨od, J, _⟩ := J.look
    have sb : Sub X k X.A.in1.in1 := sub_in2 hr hk rfl
    refine PySem.W.kso_call sb.room.units0 I.kIn J me.at_ me.fn (wpAny_mono (run_sub (vs := [.ref a]) F sb b C8.pass0 I (.cons rfl .nil) hsp) (fun u s' q => ?_) fun _ _ x => x)
    obtain ⟨v, H', I', ru, z, ez, q⟩ := q
    subst ez
    obtain ⟨t, rfl⟩ := ru
    exact ⟨.str z, H', I', ⟨t, rfl⟩, q⟩
def rLenO (C : Addr) (sp : Sp) : List V → Hp → VK → Prop := fun xs H Q => ∃ a dx fs, xs = [.ref a] ∧ H a = some (.ins C dx fs) ∧ sp [.ref a] H (fun v H' => ∃ n : Int, v = .int n ∧ 0 ≤ n ∧ n < 2 ^ 63 ∧ Q (.int n) H') C8.E0
theorem call_len_own (c : C8.Met X.prog X.w X.K X.mg X.base k C "__len__" sp []) (hr : Room j X.A) (hk : k + 2 ≤ j) : CallR X (.builtin "len") (rLenO C sp) := by
  intro pins s σ H xs us Q I rv h
  obtain ⟨a, dx, fs, rfl, ha, hsp⟩ := h
  obtain ⟨f, fd, ps, ds, _, me, F, b, d⟩ := c.ex
  obtain rfl := vals_nil d
  cases rv with
  | cons r rr =>
    cases rr
    cases r
    obtain ⟨mA, J, _⟩ := ins_get I.hok ha
    obtain ⟨od, J, _⟩ := J.look
    have sb : Sub X k X.A.in1 := (show Sub X (k + 1) X.A from ⟨hr.mono (by omega), rfl⟩).in1
    obtain ⟨m, hF⟩ := I.fr
    refine PySem.W.len_K hF I.ok.mod.kin J me.at_ me.fn (wpAny_mono (run_sub (vs := [.ref a]) F sb b C8.pass0 I (.cons rfl .nil) hsp) (fun u s' q => ?_) fun _ _ x => x)
    obtain ⟨v, H', I', ru, z, ez, h0, h1, q⟩ := q
    subst ez
    obtain ⟨t, rfl⟩ := ru
    exact ⟨⟨h0, h1⟩, .int z, H', I'.tok _, ⟨_, rfl⟩, q⟩
def rEqO (C : Addr) (sp : Sp) : R2 := fun x y H Q => ∃ a b dx dy fs gs, x = .ref a ∧ y = .ref b ∧ H a = some (.ins C dx fs) ∧ H b = some (.ins C dy gs) ∧ sp [.ref a, .ref b] H (fun v H' => ∃ t : Bool, v = .bl t ∧ Q (.bl t) H') C8.E0
theorem op_eqOwn (c : C8.Met X.prog X.w X.K X.mg X.base k C "__eq__" sp []) (hr : Room j X.A) (hk : k ≤ j) : OpR X (compareOp .Eq) (rEqO C sp) := by
  intro pins s σ H x y v u Q I rx ry h
  obtain ⟨a, b, dx, dy, fs, gs, rfl, rfl, ha, hb, hsp⟩ := h
  obtain ⟨f, fd, ps, ds, _, me, F, bn, d⟩ := c.ex
  obtain rfl := vals_nil d
  cases rx
  cases ry
  obtain ⟨mA, J, _⟩ := ins_get I.hok ha
  obtain ⟨mB, J', _⟩ := ins_get I.hok hb
  obtain ⟨od, J, _⟩ := J.look
  obtain ⟨od', J', _⟩ := J'.look
  obtain ⟨m, hF⟩ := I.fr
  have sb : Sub X k X.A := ⟨hr.mono hk, rfl⟩
  show wpAny (model X.prog X.w) X.A (richCompare .Eq (.ref a) (.ref b)) (EP X pins σ Q) X.xe s
  refine PySem.W.cmp_K (op := .Eq) (tb := .ref C) sb.room.units0 hF I.ok.mod.kin J J'.type (by simp [PySem.W.notFirst]) me.at_ me.fn ?_
  refine wpAny_mono (run_sub (vs := [.ref a, .ref b]) F sb bn C8.pass0 I (.cons rfl (.cons rfl .nil)) hsp) (fun u s' q => ?_) fun _ _ x => x
  obtain ⟨v, H', I', ru, t, ez, q⟩ := q
  subst ez
  cases (show u = Value.bool t from ru)
  exact ⟨.bl t, H', I', rfl, q⟩
end
structure NeT (K : PySem.W.Frag) (C : Addr) : Prop where
  mro : PySem.W.mroIn K C (.type "object") = some true
  ne : PySem.W.findIn K (.ref C) "__ne__" = some (some (.builtin "object.__ne__"))
section
open PySem.W
variable {M : Model} {prog : Program} {w : World} {A : Around} {E : Value → Shared → Prop} {s : Shared} {K : PySem.W.Frag} {x C f : Addr} {ox : Obj} {od : Option Obj} {b tb : Value}
theorem ifBound_bltn {name : Str} {id : String} {args : List Value} {Q : Option Value → Shared → Prop} (X : K.In s.heap) (I : PySem.W.InstAt s.heap x ox C od) (hs : PySem.W.findIn K (.ref C) name = some (some (.builtin id)))
    (hb : ∀ self, bindSpecial (.builtin id) self = pure (.builtin id, [self])) (h : wpAny M A (call (.builtin id) (.ref x :: args)) (fun v => Q (some v)) E s) : wpAny M A (callSpecialIfBound? (.ref x) name args) Q E s := by
  simp only [callSpecialIfBound?, bindSpecialIfBound?]
  refine wpAny_holding (wpAny_bind (wpAny_bind (wpAny_bind (I.type.here ((PySem.W.looks_findIn X hs).here ?_)))))
  refine wpAny_bind (wpAny_askSetting (wpAny_ite ?_))
  have fin : wpAny M A (call (.builtin id) ([.ref x] ++ args) >>= fun v => pure (some v)) Q E s := wpAny_bind (wpAny_mono h (fun v s' h' => wpAny_pure h') fun _ _ h' => h')
  split
  · exact wpAny_bind (wpAny_of_eq (hb _) (wpAny_pure (by exact fin)))
  · exact wpAny_tryCatch (wpAny_bind (wpAny_of_eq (hb _) (wpAny_pure (by exact fin))))
theorem ne_tree {Q : Fin → Shared → Prop} (hu : A.units < cLine) (X : K.In s.heap) (I : PySem.W.InstAt s.heap x ox C od) (he : PySem.W.findIn K (.ref C) "__eq__" = some (some (.ref f))) (hf : PySem.W.isFn K (.ref f) = true)
    (h : wpAny M A (call (.ref f) [.ref x, b]) (fun v s' => ∃ t : Bool, v = .bool t ∧ Q (.done (.ret (.bool (!t)))) s') E s) : wpAny M A (Builtin.«object.__ne__» ⟨[.ref x, b], []⟩) Q E s := by
  unfold Builtin.«object.__ne__»
  refine wpAny_bind (m := slotArgs "__ne__" 1 _) (wpAny_pure ?_)
  refine wpAny_bind (m := cRoomFor _ _) (wpAny_cRoomFor hu ?_)
  refine wpAny_bind (m := callSpecialIfBound? (.ref x) (Str.ofString "__eq__") _) (ifBound_K X I he hf (wpAny_mono h (fun r s' hr => ?_) fun _ _ y => y))
  obtain ⟨t, rfl, q⟩ := hr
  exact wpAny_bind (wpAny_truthy_bool (wpAny_pure q))
theorem cmp_neK {Q : Value → Shared → Prop} (hu : A.units < cLine) (hu1 : A.in1.units < cLine) (X : K.In s.heap) (I : PySem.W.InstAt s.heap x ox C od) (hb : Looks (model prog w) s.heap (typeOf b) tb) (hn : PySem.W.notFirst K C tb = true) (N : NeT K C)
    (he : PySem.W.findIn K (.ref C) "__eq__" = some (some (.ref f))) (hf : PySem.W.isFn K (.ref f) = true)
    (h : wpAny (model prog w) A.in1 (call (.ref f) [.ref x, b]) (fun v s' => ∃ t : Bool, v = .bool t ∧ Q (.bool (!t)) s') E s) : wpAny (model prog w) A (richCompare .NotEq (.ref x) b) Q E s := by
  have one : wpAny (model prog w) A (tryCompare (.ref x) (cmpInfo .NotEq).2.1 b) (fun r s' => ∃ v, r = some v ∧ Q v s') E s := by
    unfold tryCompare
    refine wpAny_bind (ifBound_bltn X I N.ne F.cmp_object.ne.bind ?_)
    refine wpAny_call (codeAny_call_builtin F.cmp_object.ne.plain F.cmpEntry_ne (PySem.W.check_slot F.cmpKind_ne F.cmpSplit_ne (I.type.andThen (PySem.W.looks_mroIn X N.mro)) (F.cmpArgs_ne _ _) (ne_tree hu1 X I he hf (wpAny_mono h (fun v s' hv => ?_) fun _ _ e => e))))
    obtain ⟨t, rfl, q⟩ := hv
    exact ⟨t, rfl, wpAny_pure ⟨_, rfl, q⟩⟩
  unfold richCompare
  simp only [oneThing_ref]
  refine wpAny_holding (wpAny_bind (wpAny_cRoomFor hu ?_))
  refine wpAny_bind (I.type.here (wpAny_bind (hb.here ?_)))
  split
  · rename_i q
    have e : subIn K tb (.ref C) = some false := by
      rcases Bool.or_eq_true_iff.mp hn with e | e
      · rw [beq_iff_eq.mp e] at q; simp at q
      · exact beq_iff_eq.mp e
    refine wpAny_bind ((looks_subIn X e).here ?_)
    simp only [Bool.false_eq_true, if_false]
    refine wpAny_bind (wpAny_mono one (fun r s' z => ?_) fun _ _ e => e)
    obtain ⟨v, rfl, hq⟩ := z
    exact wpAny_pure hq
  · refine wpAny_bind (wpAny_pure ?_)
    simp only [Bool.false_eq_true, if_false]
    refine wpAny_bind (wpAny_mono one (fun r s' z => ?_) fun _ _ e => e)
    obtain ⟨v, rfl, hq⟩ := z
    exact wpAny_pure hq
end
section
variable {X : Cx} {k j i : Nat} {C : Addr} {sp : Sp} {x y : Str} {dvs : List V} {p pos : Pos} {e : Expr} {es : List Expr} {t : TA}
def rNeO (C : Addr) (sp : Sp) : R2 := fun x y H Q => ∃ a b dx dy fs gs, x = .ref a ∧ y = .ref b ∧ H a = some (.ins C dx fs) ∧ H b = some (.ins C dy gs) ∧ sp [.ref a, .ref b] H (fun v H' => ∃ t : Bool, v = .bl t ∧ Q (.bl (!t)) H') C8.E0
theorem op_neOwn (c : C8.Met X.prog X.w X.K X.mg X.base k C "__eq__" sp []) (N : NeT X.K C) (hr : Room j X.A) (hk : k + 1 ≤ j) : OpR X (compareOp .NotEq) (rNeO C sp) := by
  intro pins s σ H x y v u Q I rx ry h
  obtain ⟨a, b, dx, dy, fs, gs, rfl, rfl, ha, hb, hsp⟩ := h
  obtain ⟨f, fd, ps, ds, _, me, F, bn, d⟩ := c.ex
  obtain rfl := vals_nil d
  cases rx
  cases ry
  obtain ⟨mA, J, _⟩ := ins_get I.hok ha
  obtain ⟨mB, J', _⟩ := ins_get I.hok hb
  obtain ⟨od, J, _⟩ := J.look
  obtain ⟨od', J', _⟩ := J'.look
  have sb1 : Sub X (k + 1) X.A := ⟨hr.mono hk, rfl⟩
  have sb := sb1.in1
  show wpAny (model X.prog X.w) X.A (richCompare .NotEq (.ref a) (.ref b)) (EP X pins σ Q) X.xe s
  refine cmp_neK (tb := .ref C) sb1.room.units0 sb.room.units0 I.kIn J J'.type (by simp [PySem.W.notFirst]) N me.at_ me.fn ?_
  refine wpAny_mono (run_sub (vs := [.ref a, .ref b]) F sb bn C8.pass0 I (.cons rfl (.cons rfl .nil)) hsp) (fun u s' q => ?_) fun _ _ x => x
  obtain ⟨v, H', I', ru, t, ez, q⟩ := q
  subst ez
  cases (show u = Value.bool t from ru)
  exact ⟨t, rfl, .bl (!t), H', I', rfl, q⟩
def tMakeL (i : Nat) (C : Addr) (sp : Sp) (dvs : List V) (t : TA) : TE := fun σ H Q => σ[i]? = some (some (.ref C)) ∧ tMake C sp dvs C8.E0 t σ H Q
theorem pe_mkL (i : Nat) (c : C8.Mak X.prog X.w X.K X.mg X.base k y C sp dvs) (hr : Room j X.A) (hk : k + 1 ≤ j) (ha : PA X (e :: es) t) (hN : X.N[i]? = some x := by rfl) (hv : Vis X.env.scope x := by first | exact Or.inl rfl | exact Or.inr (Or.inl rfl) | exact Or.inr (Or.inr rfl))
    (hdb : (x == ("__debug__" : Str)) = false := by decide) (hcd : (x == ("__classdict__" : Str)) = false := by decide)
    (he : starEach (e :: es) X.env = (false, eval e X.env) :: starEach es X.env := by rfl) (hpl : (backTo pos (starEach es X.env)).any (·.1) = false := by rfl) : PE X (.Call (.Name x p) (e :: es) [] pos) (tMakeL i C sp dvs t) := by
  obtain ⟨f, fd, ps, ds, M, F, hm, b, d⟩ := c.ex
  refine ⟨fun pins s σ H Q I h => ?_⟩
  obtain ⟨hs, ht⟩ := h
  refine wpAny_Call_Name_kw (thn ((pe_var (pos := p) hN hv hdb hcd).run pins s σ H (fun v H1 => v = .ref C ∧ H1 = H) I ⟨.ref C, hs, rfl, rfl⟩) fun u s1 ⟨v, H1, I1, r1, q1⟩ => ?_)
  obtain ⟨rfl, rfl⟩ := q1
  cases r1
  refine PySem.W.callWith_K (h₀ := X.base) I.ok.mod.kin M.kp (thn (ha.run pos pins s1 σ _ _ I1 ht) fun us s2 ⟨vs, H2, I2, r, q⟩ => ⟨I2.kIn, ?_⟩) he hpl
  exact run_make M F (hr.mono hk) b d C8.pass0 I2 r q
theorem pe_mkL0 (i : Nat) (c : C8.Mak X.prog X.w X.K X.mg X.base k y C sp dvs) (hr : Room j X.A) (hk : k + 1 ≤ j) (hN : X.N[i]? = some x := by rfl) (hv : Vis X.env.scope x := by first | exact Or.inl rfl | exact Or.inr (Or.inl rfl) | exact Or.inr (Or.inr rfl))
    (hdb : (x == ("__debug__" : Str)) = false := by decide) (hcd : (x == ("__classdict__" : Str)) = false := by decide) : PE X (.Call (.Name x p) [] [] pos) (tMakeL i C sp dvs tNil) := by
  obtain ⟨f, fd, ps, ds, M, F, hm, b, d⟩ := c.ex
  refine ⟨fun pins s σ H Q I h => ?_⟩
  obtain ⟨hs, ht⟩ := h
  refine wpAny_Call_Name_kw (thn ((pe_var (pos := p) hN hv hdb hcd).run pins s σ H (fun v H1 => v = .ref C ∧ H1 = H) I ⟨.ref C, hs, rfl, rfl⟩) fun u s1 ⟨v, H1, I1, r1, q1⟩ => ?_)
  obtain ⟨rfl, rfl⟩ := q1
  cases r1
  exact PySem.W.callWith_K0 I1.kIn M.kp (run_make (us := []) M F (hr.mono hk) b d C8.pass0 I1 .nil ht)
structure CMt (P : Program) (w : World) (K : PySem.W.Frag) (mg : Str → Option Value) (base : Heap) (k : Nat) (x : Str) (C : Addr) (m : Str) (sp : Sp) : Prop where
  ex : ∃ (mc : Value) (p g : Addr) (fd : FuncData) (ps : List Str), mg x = some (.ref C) ∧ ClX.CRead K C mc ∧ ClX.CMet K C mc m p g ∧ FnOk P w K mg base C8.CX0 k g fd ps sp ∧ Binds K fd ps []
theorem pe_cm {m : Str} {apos : Pos} {pl : Sem Bool} (c : CMt X.prog X.w X.K X.mg X.base k x C m sp) (hr : Room j X.A) (hk : k ≤ j) (hg : Gl X x) (ha : PA X (e :: es) t) (hdb : (x == ("__debug__" : Str)) = false := by decide)
    (hst : starEach (e :: es) X.env = (false, eval e X.env) :: starEach es X.env := by rfl) (hpl : (backTo pos (starEach es X.env)).any (·.1) = false := by rfl)
    (ht : eval (.Call (.Attribute (.Name x p) m apos) (e :: es) [] pos) X.env = (do
      let ov ← eval (.Name x p) X.env
      standAt apos.atName
      let (f, first) ← holding [ov] (getMethod ov m pl)
      callWith pos f first (backTo pos (starEach (e :: es) X.env)) (backToKw pos (keywordEach [] X.env))) := by rfl) :
    PE X (.Call (.Attribute (.Name x p) m apos) (e :: es) [] pos) (ClX.tCMeth C sp C8.E0 (tC (.ref C)) t) := by
  obtain ⟨mc, q, g, fd, ps, hm, r, cm, F, b⟩ := c.ex
  exact ClX.pe_cmeth (pe_glob (v := .ref C) hg hm rfl hdb) r cm (F.raw b .nil |>.imp fun vs H Q E h => by rw [List.append_nil]; exact h) (hr.mono hk) C8.pass0 ha hst hpl ht
end
structure IsT (K : PySem.W.Frag) (C : Addr) : Prop where
  cl : Cls K C
  ha : PySem.W.findIn K (.ref C) "__class__" = some (some (.builtin "object.__class__"))
  hn : PySem.W.specialIn K (.builtin "object.__class__") "__get__" = some (some (.builtin "getset_descriptor.__get__"))
  ht : PySem.W.takesIn K (.builtin "object.__class__") = some true
  hm : PySem.W.mroIn K C (.type "object") = some true
theorem IsT.ty {K : PySem.W.Frag} {C a dx : Addr} {H : Hp} {fs : List (Str × V)} (I : IsT K C) (e : H a = some (.ins C dx fs)) : TyX K H (.ref a) (.ref C) := .base (.ins e I.cl I.ha I.hn I.ht I.hm)
theorem IsT.one {K : PySem.W.Frag} {C : Addr} (_ : IsT K C) : PySem.W.kitOne K (.ref C) (.ref C) = some true := by
  unfold PySem.W.kitOne
  rw [if_pos (beq_self_eq_true _)]
def tJn (ts : List TE) : TE := fun σ H Q => tJs ts Str.empty σ H fun out H1 => Q (.str out) H1
theorem pe_jn {X : Cx} {v1 v2 : Expr} {rest : List Expr} {ts : List TE} {pos : Pos} (h : PJ X (v1 :: v2 :: rest) ts) : PE X (.JoinedStr (v1 :: v2 :: rest) pos) (tJn ts) := pe_joined h
end Lx
set_option maxRecDepth 100000
set_option maxHeartbeats 4000000
namespace Lx
open PySem PySem.Spec PyProof.Rows L2
def rNeL (K : PySem.W.Frag) : R2 := fun x y H Q => ∃ a b xs, x = .ref a ∧ y = .ref b ∧ SqL K H a xs ∧ SqL K H b [] ∧ Q (.bl (!decide (xs = []))) H
theorem op_neL {X : Cx} {j : Nat} (hr : Room j X.A) : OpR X (compareOp .NotEq) (rNeL X.K) := by
  intro pins s σ H x y v u Q I rx ry hq
  obtain ⟨a, b, xs, rfl, rfl, ha, hb, q⟩ := hq
  cases rx
  cases ry
  obtain ⟨its, r, e, z⟩ := I.list ha
  obtain ⟨its2, r2, e2, z2⟩ := I.list hb
  have h0 : its2 = [] := by
    have := r2.length
    exact List.eq_nil_of_length_eq_zero this.symm
  subst h0
  show wpAny (model X.prog X.w) X.A (richCompare .NotEq (.ref a) (.ref b)) (EP X pins σ Q) X.xe s
  by_cases c : xs = []
  · subst c
    have h1 : its = [] := List.eq_nil_of_length_eq_zero r.length.symm
    subst h1
    refine SeqAt.RcNeAt.lists (e := fun _ => true) e.isList e2.isList rfl hr.units0 (fun j h1 _ => absurd h1 (Nat.not_lt_zero _)) _ _ _ _ ?_
    exact ⟨.bl _, H, I, rfl, q⟩
  · have hz : (its.toArray.size != ([] : List Value).toArray.size) = true := by
      rw [List.size_toArray, ← r.length]
      cases xs with
      | nil => exact absurd rfl c
      | cons _ _ => rfl
    refine SeqAt.RcNeAt.lists_lengths e.isList e2.isList hz hr.units0 _ _ _ _ ?_
    rw [decide_eq_false c] at q
    exact ⟨.bl _, H, I, rfl, q⟩
end Lx
set_option maxRecDepth 100000
set_option maxHeartbeats 4000000
namespace ExS
open PySem PySem.Spec PyProof.Rows L2 NdefX
def spXI (C : Addr) (fld : Str) : Sp := fun vs H Q _ => ∃ (a : Addr) (v : V), vs = [.ref a, v] ∧ H a = some (exo a C none) ∧
  ∀ dx, H dx = none → dx ≠ a → Q .non (upd (upd H dx (exd dx [(fld, v)])) a (exo a C (some dx)))
theorem call_mw {X : Cx} {pins : List (Addr × Obj)} {σ : L2.St} {H : Hp} {s : Shared} {a C u : Addr} {us : List Value} {Q : Value → Shared → Prop} {E : Value → Shared → Prop} {A : Around}
    (T : OexC X.K C) (I : Inv X pins σ H s) (e : H a = some (exo a C none)) (hu : s.heap.get? u = some (PySem.W.kxs_mw "ValueError.__init__" a)) (hl : us.length ≤ sizeLine) (h : ∀ s', Inv X pins σ H s' → Q .none s') :
    wpAny (model X.prog X.w) A (call (.ref u) us) Q E s := by
  obtain ⟨nm, q, N, bs, bm, sn, sub, ab, col, dd, k0, k1, k2, k3, k5, hC, hbm⟩ := T.cls
  obtain ⟨t1, ho⟩ := exo_at I.hok e
  obtain ⟨hp, g, d, t, os⟩ := s
  have fin : ∀ h' : Heap, (∀ b o, b ≠ a → hp.get? b = some o → h'.get? b = some o) → h'.get? a = some (PySem.W.excObj C hp.objs.size none .none) → Q .none ⟨h', g, d, t, os⟩ := fun h' k hx => by
    have J := I.write (t' := t) (x := a) (e := a) (o := exo a C none) (by rw [e]; exact True.intro) (.inl rfl) k ⟨_, hx⟩ (exo_ok hx)
    have eu : upd H a (exo a C none) = H := funext fun b => by
      by_cases hb : b = a
      · rw [hb, upd_same, e]
      · rw [upd_ne hb]
    rw [eu] at J
    exact h _ J
  refine wpAny_call (codeAny_of_tree ?_)
  show wpAny _ A.in1 (callAny (.ref u) ⟨us, []⟩) _ _ _
  simp only [callAny]
  refine wpAny_bind (wpAny_load hu ?_)
  simp only [PySem.W.kxs_mw, show (Value.type "method-wrapper" == Value.type "method" || Value.type "method-wrapper" == Value.type "builtin_function_or_method" || Value.type "method-wrapper" == Value.type "method-wrapper") = true by decide, if_true]
  refine PySem.W.KFB.if_so (by decide) ?_
  refine wpAny_bind (PySem.W.check_bound_init F.excBase_ValueError.toExcCallFacts (I.kIn _ _ hC) ho rfl ?_)
  refine wpAny_bind (wpAny_pure (wpAny_pure ?_))
  refine ⟨plainId_quiet F.excBase_ValueError.init.plain _, codeAny_builtin F.excBase_ValueError.initEntry ?_⟩
  exact PySem.W.exc_init_tree (cls := .ref C) (t0 := t1) (dv := none) (c2 := .none) (c3 := .none) (b4 := .bool false) ho hl fun h' k hx _ => fin h' k hx
def Body2 (self word fld text : Str) (body : List Stmt) : Prop := ∃ (p0 p1 p2 p3 p4 p5 p6 p7 p8 p9 p10 : Pos) (j : Nat), body = [.Expr (.Call (.Attribute (.Call (.Name "super" p0) [] [] p1) "__init__" p2) [.Constant (.str text) j p3, .Name word p4] [] p5) p6, .Assign [.Attribute (.Name self p7) fld p8] (.Name word p9) p10] ∧ (p2.endLine == p5.line) = true
theorem eval_sup {o : Expr} {name : Str} {apos pos : Pos} {e1 e2 : Expr} {env : Env} (hl : (apos.endLine == pos.line) = true) (h1 : starEach [e1, e2] env = [(false, eval e1 env), (false, eval e2 env)]) :
    eval (.Call (.Attribute o name apos) [e1, e2] [] pos) env = (do
      let ov ← attributeBase o name env (eval o env)
      standAt apos.atName
      let (f, first) ← holding [ov] (getMethod ov name (do return (← importBound o env).getD true))
      callWith pos f first (backTo pos (starEach [e1, e2] env)) []) := by
  have hp : methodCallPos true o env apos pos = pure pos := by unfold methodCallPos; rw [hl]; rfl
  show (do
    let ov ← attributeBase o name env (eval o env)
    standAt apos.atName
    methodCall o name apos pos env ov 2 (backTo pos (starEach [e1, e2] env)) []) = _
  rw [h1]
  have hm : ∀ ov, methodCall o name apos pos env ov 2 (backTo pos [(false, eval e1 env), (false, eval e2 env)]) [] = (do
      let (f, first) ← holding [ov] (getMethod ov name (do return (← importBound o env).getD true))
      callWith pos f first (backTo pos [(false, eval e1 env), (false, eval e2 env)]) []) := fun ov => by
    unfold methodCall
    have hf : methodCallForm 2 (backTo pos [(false, eval e1 env), (false, eval e2 env)]) [] = true := rfl
    rw [hf, hp]
    rfl
  simp only [hm]
structure ExF (P : Program) (K : PySem.W.Frag) (mg : Str → Option Value) (C : Addr) (fld : Str) (f cc cda : Addr) (file : Str) : Prop where
  T : OexC K C
  no : PySem.W.findIn K (.ref C) fld = some none
  cell : ∃ cl cld csl, K.lookup cc = some ⟨cl, cld, .cell (some (.ref C)), csl⟩
  code : ∃ ccl cdd vs ccs tf, K.lookup cda = some ⟨ccl, cdd, .fields vs, ccs⟩ ∧ vs[2]? = some (.str file tf)
  file : ((P.main.file : Str) == file) = true
  top : (P.main.scope.names.lookup ("super" : Str)).isSome = false
  sub : PySem.W.mroIn K C (.ref C) = some true
  sup : mg "super" = none
  opq : PySem.W.nsIn K cStatics "thirdparty.any" = some none
  ini : PySem.W.ks_superIn K C C "__init__" = some (some (.builtin "ValueError.__init__"))
  ve : PySem.W.subIn K (.ref C) (.type "ValueError") = some true
theorem fn_exc {P : Program} {w : World} {K : PySem.W.Frag} {mg : Str → Option Value} {base : Heap} {C f cc cda : Addr} {name qual self word fld text file : Str} {params : Arguments} {body : List Stmt} {scope : Scope} {dV kV doc pm ct oc : Value} {an od : Option Addr} {osl : Array (Option Value)} {ar : Arg} {k : Nat}
    (X : ExF P K mg C fld f cc cda file) (lk : K.lookup f = some ⟨oc, od, .func (PySem.W.fnX name qual params body scope [("__class__", cc)] dV kV doc pm an (.ref cda) ct), osl⟩) (hcd : PySem.W.codeIn K (.ref cda) qual = true)
    (S : NScope [self, word, "__class__"] [self, word] ["__class__"] scope) (hks : scope.names.lookup ("super" : Str) = some .globalImplicit) (hp : (params.posonlyargs ++ params.args).head? = some ar) (har : ar.arg = self) (hb2 : Body2 self word fld text body) (hd0 : (self == ("__debug__" : Str)) = false) (hd1 : (word == ("__debug__" : Str)) = false) (hc0 : (self == ("__classdict__" : Str)) = false) (hc1 : (word == ("__classdict__" : Str)) = false) :
    FnOk P w K mg base CX0 (k + 1) f (PySem.W.fnX name qual params body scope [("__class__", cc)] dV kV doc pm an (.ref cda) ct) [self, word] (spXI C fld) := by
  refine ⟨fun vs H Q E h => by obtain ⟨_, _, rfl, _⟩ := h; rfl, fun A outer s H args us vs Q E hr e0 hb r hsp => ?_⟩
  obtain ⟨a, v, rfl, ha, kk⟩ := hsp
  obtain ⟨u1, rfl, rv⟩ : ∃ u1, us = [.ref a, u1] ∧ RelV v u1 := by
    cases r with
    | @cons _ u0 _ ur ra rr =>
      obtain rfl : u0 = Value.ref a := ra
      cases rr with
      | @cons _ u1 _ ur2 rv rn =>
        cases rn
        exact ⟨u1, rfl, rv⟩
  have KX : K.In s.heap := e0.mod.kin.keeps fun b o e => (e0.bs b o e).1
  have lim : s.heap.NoLimit := e0.mod.nolimit.keeps fun b o e => (e0.bs b o e).1
  obtain ⟨cl, cld, csl, lcc⟩ := X.cell
  obtain ⟨ccl, cdd, cvs, ccs, tf, lcd, hvs⟩ := X.code
  refine codeAny_call_function hr.depth (KX _ _ lk) rfl S.co S.gen rfl (PySem.W.codeRec_of KX hcd) (hb _ _ _ _ ?_)
  refine wpAny_newFunctionEnv S.nocell (fun ⟨n, _⟩ hy => S.par n (List.of_mem_zip hy).1) (fun h₁ hns hsb => ⟨lim.fresh _ hsb, ?_⟩) S.kind
  show codeAny _ _ (.func body (PySem.W.envX qual scope s.heap.objs.size f (.ref cda) [("__class__", cc)])) _ _
  refine ks_codeAny_funcAt ?_
  have kp : ∀ b o, s.heap.get? b = some o → h₁.get? b = some o := fun b o e => hsb.extBut b o (Nat.ne_of_lt (Heap.lt_size e)) (Heap.get?_push_of_some _ e)
  have hcb := e0.bs _ _ (e0.mod.kin _ _ lcc)
  have C0 : CellsAt [("__class__", cc)] ["__class__"] [some (.ref C)] s.heap H := by
    have one : ∀ y c, ([("__class__", cc)] : List (Str × Addr)).lookup y = some c → y = "__class__" ∧ c = cc := fun y c e => by
      rw [List.lookup_cons] at e
      split at e
      · rename_i z
        exact ⟨eq_of_beq z, (Option.some.inj e).symm⟩
      · cases e
    refine ⟨rfl, fun y c e => ?_, fun x y c e1 e2 => (one x c e1).1.trans (one y c e2).1.symm, fun i y e => ?_⟩
    · rw [(one y c e).2]
      exact ⟨hcb.2, _, _, hcb.1, rfl⟩
    · match i, e with
      | 0, e =>
        rw [← Option.some.inj e]
        exact ⟨cc, rfl, fun v hv => ⟨.ref C, by cases hv; exact rfl, _, hcb.1, rfl⟩⟩
  have I : Inv (ncx CX0 P w K mg base [self, word, "__class__"] ⟨name, qual, params, body, scope, [("__class__", cc)], cda⟩ f A outer s H E) [] (startF [self, word, "__class__"] [.ref a, v] [some (.ref C)]) H { s with heap := h₁, toks := s.toks + ([self, word].zip [Value.ref a, u1]).length } :=
    inv_startN (F := ⟨name, qual, params, body, scope, [("__class__", cc)], cda⟩) S hr.hd e0 rfl r C0 hns kp
  have KX1 : K.In h₁ := KX.keeps kp
  obtain ⟨p0, p1, p2, p3, p4, p5, p6, p7, p8, p9, p10, j, rfl, hline⟩ := hb2
  have hkc : scope.names.lookup ("__class__" : Str) = some .free := S.frk _ (List.mem_singleton.mpr rfl)
  have hself : scope.names.lookup self = some .local := S.par _ List.mem_cons_self
  have hword : scope.names.lookup word = some .local := S.par _ (List.mem_cons_of_mem _ List.mem_cons_self)
  obtain ⟨nm, q, N, bs, bm, sn, sub, ab, col, dd, k0, k1, k2, k3, k5, hC, hbm⟩ := X.T.cls
  have hcl : PySem.W.clsIn K C = some { name := nm, bases := bs, mro := .ref C :: bm, ns := N, qualname := q, hasDict := true, slotNames := sn, subclasses := sub, abstract := ab, collection := col, hasDel := false } := by unfold PySem.W.clsIn; rw [hC] <;> rfl
  obtain ⟨t1, hoa⟩ := exo_at I.hok ha
  obtain ⟨mb, b1, b2⟩ := I.mod.blt
  have boot : bootBuiltins "super" = some (.type "super") := by first | boot_by_name | rfl | kernel_rfl
  have hne : a ≠ C := fun z => by
    have := KX1 _ _ hC
    rw [← z, hoa] at this
    cases this
  refine ks_wpAt_execs_cons (ks_wpAt_Expr_any (ks_wpAt_MethodCall ?_ (eval_sup hline rfl)) I.quiet rfl)
  refine ks_wpAt_super_base (f := f) (cc := cda) hks hkc (by decide) rfl (KX1 _ _ lk) rfl hp rfl (KX1 _ _ lcd) rfl hvs X.file X.top ?_
  refine PySem.W.ks_loadName_global I.ok.kind hks (Calls.loadGlobal_builtin (I.mod.glob.keeps I.bk) X.sup (b1.keeps I.bk) ((b2 _ (by decide)).trans boot) ⟨rfl, ?_⟩)
  refine wpAny_loadName_free I.ok.kind hkc rfl ⟨_, kp _ _ hcb.1, rfl⟩ ?_
  rw [har]
  have ndp : [self, word].Nodup := (List.nodup_append.mp (show ([self, word] ++ [("__class__" : Str)]).Nodup from S.nd)).1
  refine wpAny_loadName_local I.ok.kind hself hns (zip_look (i := 0) ndp rfl rfl) ?_
  refine ks_wpAny_isType_cls (KX1 _ _ hC) rfl ⟨rfl, ?_⟩
  refine ks_wpAny_call_super (KX1 _ _ hC) rfl hoa rfl (fun c z => by cases z) (PySem.W.looks_mroIn KX1 X.sub) (fun h2 e2 kq => ?_)
  have I2 := I.kept (h' := h2) (t' := s.toks + ([self, word].zip [Value.ref a, u1]).length) kq
  have KX2 : K.In h2 := KX1.keeps kq
  have hoa2 := kq _ _ hoa
  have hal : PySem.W.alongIn K "__init__" (((Value.ref C :: bm).dropWhile (· != .ref C)).drop 1) = some (some (.builtin "ValueError.__init__")) := by
    have := X.ini
    unfold PySem.W.ks_superIn at this
    rw [hcl] at this
    exact this
  have IA : PySem.W.InstAt h2 a (PySem.W.excObj C t1 none .none) C none := ⟨hoa2, rfl, rfl, trivial⟩
  refine PySem.W.kxs_getMethod PySem.W.kxs_ValueError (l₀ := .ref C :: bm) e2 (PySem.W.looks_opaque KX2 X.opq) ?_ rfl KX2 hal (IA.type.andThen (PySem.W.looks_subIn KX2 X.ve)) hne (by decide) ?_
  · exact fun A Q E s k q => wpAny_bind ((PySem.W.looks_clsIn KX2 hcl) A _ E s k (wpAny_pure q))
  have kp3 : ∀ b o, h2.get? b = some o → (h2.push (PySem.W.kxs_mw "ValueError.__init__" a)).get? b = some o := fun b o e => Heap.get?_push_of_some _ e
  have I3 := I2.kept (h' := h2.push (PySem.W.kxs_mw "ValueError.__init__" a)) (t' := s.toks + ([self, word].zip [Value.ref a, u1]).length + 1) kp3
  have hu3 : (h2.push (PySem.W.kxs_mw "ValueError.__init__" a)).get? h2.objs.size = some (PySem.W.kxs_mw "ValueError.__init__" a) := Heap.get?_push_at rfl rfl
  have I4 := I3.pins_of (pins' := [(h2.objs.size, PySem.W.kxs_mw "ValueError.__init__" a)]) fun p hp => by
    rw [List.mem_singleton.mp hp]
    exact ⟨hu3, I2.hok.fresh (Nat.le_refl _), (Nat.ne_of_lt I2.lt).symm, I2.nofs (Nat.le_refl _), fun v z => by cases z⟩
  have pw : PE (ncx CX0 P w K mg base [self, word, "__class__"] ⟨name, qual, params, [.Expr (.Call (.Attribute (.Call (.Name "super" p0) [] [] p1) "__init__" p2) [.Constant (.str text) j p3, .Name word p4] [] p5) p6, .Assign [.Attribute (.Name self p7) fld p8] (.Name word p9) p10], scope, [("__class__", cc)], cda⟩ f A outer s H E) (.Name word p4) (tVar 1) := pe_var rfl (.inl hword) hd1 hc1
  have pa := pa_cons (pe_str (x := text) (j := j) (pos := p3)) (pa_cons pw pa_nil)
  refine PySem.W.kxs_callWith (i := "ValueError.__init__") (x := a) rfl (PySem.Calls.evalArgs_plain (thn (pa.run p5 _ _ _ _ (fun vs H1 => vs = [.str text, v] ∧ H1 = H) I4 ⟨v, rfl, rfl, rfl⟩) fun ws s5 h5 => ?_))
  obtain ⟨vs5, H5, I5, r5, rfl, rfl⟩ := h5
  have hu5 := (I5.pin _ (List.mem_append_right _ (List.mem_singleton.mpr rfl))).1
  have l5 : ws.length ≤ sizeLine := by
    have := Paired.length r5
    rw [← this]
    show 2 ≤ sizeLine
    decide
  refine ⟨hu5, ?_⟩
  refine call_mw X.T (I5.pins_of (pins' := []) fun p hp => absurd hp (by exact List.not_mem_nil)) ha hu5 l5 fun s6 I6 => ?_
  have pself : PE (ncx CX0 P w K mg base [self, word, "__class__"] ⟨name, qual, params, [.Expr (.Call (.Attribute (.Call (.Name "super" p0) [] [] p1) "__init__" p2) [.Constant (.str text) j p3, .Name word p4] [] p5) p6, .Assign [.Attribute (.Name self p7) fld p8] (.Name word p9) p10], scope, [("__class__", cc)], cda⟩ f A outer s H5 E) (.Name self p7) (tVar 0) := pe_var rfl (.inl hself) hd0 hc0
  have pword : PE (ncx CX0 P w K mg base [self, word, "__class__"] ⟨name, qual, params, [.Expr (.Call (.Attribute (.Call (.Name "super" p0) [] [] p1) "__init__" p2) [.Constant (.str text) j p3, .Name word p4] [] p5) p6, .Assign [.Attribute (.Name self p7) fld p8] (.Name word p9) p10], scope, [("__class__", cc)], cda⟩ f A outer s H5 E) (.Name word p9) (tVar 1) := pe_var rfl (.inl hword) hd1 hc1
  have st := pss_one (ps_ost (f := fld) (p' := p8) (pos := p10) pself pword)
  refine wpAt_of_wpAny (wpAny_mono (st.run [] s6 _ H5 { nx := fun _ H' => Q .non H', rt := Q } I6 ⟨v, rfl, .ref a, rfl, a, C, rfl, X.T, X.no, .inl ⟨ha, fun dx n ne => kk dx n ne⟩⟩) (fun fl s7 hs => ?_) fun e s' hs => hs)
  cases fl with
  | ret u =>
    obtain ⟨v7, σ7, H7, J, r7, q7⟩ := hs
    exact ⟨v7, H7, J.os, J.bare, J.base, J.hok, r7, q7⟩
  | next =>
    obtain ⟨σ7, H7, J, q7⟩ := hs
    exact ⟨.non, H7, J.os, J.bare, J.base, J.hok, rfl, q7⟩
  | brk =>
    obtain ⟨_, _, _, q7⟩ := hs
    exact False.elim q7
  | cont =>
    obtain ⟨_, _, _, q7⟩ := hs
    exact False.elim q7
end ExS
set_option maxRecDepth 100000
set_option maxHeartbeats 4000000
namespace ExS
open PySem PySem.Spec PyProof.Rows L2
structure XMk (P : Program) (w : World) (K : PySem.W.Frag) (mg : Str → Option Value) (base : Heap) (k : Nat) (x : Str) (C : Addr) (fld : Str) : Prop where
  ex : ∃ (fI : Addr) (fd : FuncData) (ps : List Str), OexC K C ∧ PySem.W.findIn K (.ref C) "__init__" = some (some (.ref fI)) ∧ PySem.W.typeIn K (.ref fI) = some (.type "function") ∧ FnOk P w K mg base L2.CX0 k fI fd ps (spXI C fld) ∧ Binds K fd ps [] ∧ mg x = some (.ref C)
section
variable {X : Cx} {x fld : Str} {C : Addr} {k j : Nat} {p pos : Pos} {e : Expr} {es : List Expr} {ta : TA}
theorem pmk_x (c : XMk X.prog X.w X.K X.mg X.base k x C fld) (hr : Room j X.A) (hk : k + 1 ≤ j) (hg : Gl X x) (ha : PA X (e :: es) ta)
    (hdb : (x == ("__debug__" : Str)) = false := by decide) (he : starEach (e :: es) X.env = (false, eval e X.env) :: starEach es X.env := by rfl) (hpl : (backTo pos (starEach es X.env)).any (·.1) = false := by rfl) :
    PMk X (.Call (.Name x p) (e :: es) [] pos) (tMkO C (spXI C fld) [] ta) := by
  obtain ⟨fI, fd, ps, T, iC, tI, F, b, hm⟩ := c.ex
  exact pmk_oex T iC tI F (hr.mono hk) b .nil L2.pass0 hg hm ha hdb he hpl
end
theorem exo_exd {a C d : Addr} {o : Option Addr} {fs : List (Str × V)} {H : Hp} (h1 : H a = some (exo a C o)) (h2 : H d = none) : d ≠ a := fun z => by
  rw [z, h1] at h2
  cases h2
theorem rd_x {C : Addr} {fld : Str} {H1 : Hp} {v : V} {Q : XK} (k : ∀ d H', Same H1 H' → H1 d = none → H' d = some (.xd [(fld, v)]) → Q (.ref C) (some d) H') :
    [v].length ≤ 1000 ∧ ∀ a, H1 a = none → spXI C fld (.ref a :: ([v] ++ [])) (upd H1 a (exo a C none)) (fun w H2 => w = .non ∧ ∃ (d : Addr) (fs : List (Str × V)), H2 a = some (exo a C (some d)) ∧ H2 d = some (exd d fs) ∧ H1 d = none ∧ Q (.ref C) (some d) (upd (del H2 a) d (.xd fs))) (fun _ _ _ => False) := by
  refine ⟨by show 1 ≤ 1000; decide, fun a na => ⟨a, v, rfl, upd_same, fun dx nd ne => ⟨rfl, dx, [(fld, v)], upd_same, by rw [upd_ne ne, upd_same], ?_, ?_⟩⟩⟩
  · rw [upd_ne ne] at nd
    exact nd
  · rw [upd_ne ne] at nd
    refine k dx _ (fun b o e => ?_) nd upd_same
    have b1 : b ≠ a := ne_of_none e na
    have b2 : b ≠ dx := ne_of_none e nd
    rw [upd_ne b2, del_ne b1, upd_ne b1, upd_ne b2, upd_ne b1]
    exact e
theorem takes0 {X : Cx} : L2.Takes X (fun _ _ _ _ => False) := fun _ _ ⟨_, _, _, _, _, _, _, _, _, _, _, _, _, _, _, _, w⟩ => w.elim
structure MakX (P : Program) (w : World) (K : PySem.W.Frag) (mg : Str → Option Value) (base : Heap) (k : Nat) (x : Str) (C : Addr) (sp : Sp) (dvs : List V) : Prop where
  ex : ∃ (f : Addr) (fd : FuncData) (ps : List Str) (ds : List Value), Mk K C f ∧ FnOk P w K mg base (L2.CX P w) k f fd ps sp ∧ mg x = some (.ref C) ∧ Binds K fd ps ds ∧ Vals dvs ds
def tMakeS (C : Addr) (sp : Sp) (dvs : List V) (E : L2.St → XK) (t : TA) : TE := fun σ H Q => t σ H fun vs H1 => ∀ x dx, H1 x = none → H1 dx = none → dx ≠ x →
  sp (.ref x :: (vs ++ dvs)) (upd (upd H1 dx (.own x)) x (.ins C dx [])) (fun v H2 => v = .non ∧ Q (.ref x) H2) (E σ)
section
variable {X : Cx} {x : Str} {C : Addr} {k j : Nat} {p pos : Pos} {e : Expr} {es : List Expr} {t : TA} {sp : Sp} {dvs : List V} {W : WX}
theorem pe_mkT (c : MakX X.prog X.w X.K X.mg X.base k x C sp dvs) (hr : Room j X.A) (hk : k + 1 ≤ j) (tk : Takes X W) (hg : Gl X x) (ha : PA X (e :: es) t)
    (hdb : (x == ("__debug__" : Str)) = false := by decide) (he : starEach (e :: es) X.env = (false, eval e X.env) :: starEach es X.env := by rfl) (hpl : (backTo pos (starEach es X.env)).any (·.1) = false := by rfl) :
    PE X (.Call (.Name x p) (e :: es) [] pos) (tMakeS C sp dvs (WE W) t) := by
  obtain ⟨f, fd, ps, ds, M, F, hm, b, d⟩ := c.ex
  refine ⟨fun pins s σ H Q I h => wpAny_Call_Name_kw (ld_glob I hg hm ?_ hdb)⟩
  refine PySem.W.callWith_K (h₀ := X.base) I.ok.mod.kin M.kp (thn (ha.run pos pins s σ H _ I h) fun us s1 ⟨vs, H1, I1, r, q⟩ => ⟨I1.kIn, ?_⟩) he hpl
  have q1 := q (s1.heap.objs.size + 1) s1.heap.objs.size (I1.hok.fresh (Nat.le_succ _)) (I1.hok.fresh (Nat.le_refl _)) (Nat.ne_of_lt (Nat.lt_succ_self _))
  have J := Inv.made (C := C) I1
  have rr : Vals (V.ref (s1.heap.objs.size + 1) :: (vs ++ dvs)) (Value.ref (s1.heap.objs.size + 1) :: (us ++ ds)) := .cons rfl (r.append d)
  have len : (Value.ref (s1.heap.objs.size + 1) :: us ++ ds).length = ps.length := (rr.length).symm.trans (F.len _ _ _ _ q1)
  have go := F.run (X.A.under (.builtin "type.__call__" ⟨.ref C :: us, []⟩)) X.stack _ _ ⟨Value.ref (s1.heap.objs.size + 1) :: us, []⟩ _ _ _ _ ((hr.mono hk).make C us []) (J.env0.make C us []) (b _ (Value.ref (s1.heap.objs.size + 1) :: us) J.kIn len) rr q1
  refine wpAny_call (make_map (f := f) I1.kIn M.makes M.init (beq_iff_eq.mp M.fn) (codeAny_mono go fun res s2 hres => ?_))
  match res, hres with
  | .error er, hres => exact passAt tk σ pins _ _ er s2 J hres
  | .ok (.ret u), hres =>
    obtain ⟨v, H2, J2, rv, ev, q2⟩ := J.after hres
    subst ev
    exact ⟨rv, V.ref (s1.heap.objs.size + 1), H2, J2, rfl, q2⟩
  | .ok .next, hres => exact False.elim hres
  | .ok .brk, hres => exact False.elim hres
  | .ok .cont, hres => exact False.elim hres
end
section
variable {P : Program} {w : World} {K : PySem.W.Frag} {mg : Str → Option Value} {base : Heap}
theorem fnR {x qual : Str} {st : Stmt} {f : Addr} {fd : FuncData} {N ps : List Str} {k : Nat} {sp : Sp} (F : C8.Fun K x qual st f fd) (S : FnScope N ps (C8.fnScope st)) (len : ∀ vs H Q E, sp vs H Q E → vs.length = ps.length)
    (hbody : ∀ (cdv : Value) (A : Around) (outer : List Env) (s : Shared) (H : Hp) (vs : List V) (Q : VK) (E : XK), Room k (A.deeper (envOfC qual (C8.fnScope st) s.heap.objs.size f cdv)) → sp vs H Q E →
      ∃ t, PSs (cxOf (L2.CX P w) P w K mg base N qual (C8.fnScope st) f cdv A outer s H E) (C8.fnBody st) t ∧ t { nx := fun _ H' => Q .non H', rt := Q } (start N vs) H) : FnOk P w K mg base (L2.CX P w) (k + 1) f fd ps sp := by
  obtain ⟨oc, od, dV, kV, doc, pm, an, cdv, ct, osl, rfl, lk, hcd⟩ := F.ex
  exact fn_of lk hcd S len fun A outer s H vs Q E hr hsp => hbody cdv A outer s H vs Q E hr hsp
end
end ExS
set_option maxRecDepth 100000
set_option maxHeartbeats 4000000
namespace PySem.W
open PySem PySem.Spec PySem.Calls PyProof.Rows
section
variable {prog : Program} {w : World} {A : Around} {E : Value → Shared → Prop} {s : Shared} {K : Frag} {x D : Addr} {ox : Obj} {od : Option Obj}
theorem findObj_dataD {C : Addr} {name : Str} {a g : Value} (hc : (clsIn K C).isSome = true) (ha : findIn K (.ref C) name = some (some a)) (hg : specialIn K a "__get__" = some (some g)) (ht : takesIn K a = some true) : findObj K C od name = some (.bind g a) := by
  obtain ⟨cd, hc⟩ := Option.isSome_iff_exists.mp hc
  unfold findObj
  rw [hc, Option.bind_some, ha, Option.bind_some]
  simp [hg, ht]
theorem class_of_err {Q : Option Value → Shared → Prop} (T : L2.ExcC K D) (X : K.In s.heap) (I : InstAt s.heap x ox D od) (h : Q (some (.ref D)) { s with toks := s.toks + 1 }) : wpAny (model prog w) A (getAttr? (.ref x) "__class__") Q E s := by
  have hf : findObj K D od "__class__" = some (.bind (.builtin "getset_descriptor.__get__") (.builtin "object.__class__")) := findObj_dataD (by obtain ⟨cd, hc, _⟩ := any_some T.hd; rw [hc]; rfl) T.ha T.hn T.ht
  obtain ⟨hp, g, d, t, os⟩ := s
  have L0 := I.type (M := model prog w)
  have L1 := looks_findIn (M := model prog w) X T.hg
  have L2 := looks_findIn (M := model prog w) X T.hk
  have L3 := looks_find (M := model prog w) X I hf
  have sub : Looks (model prog w) hp (isInstance (.ref x) (.type "BaseException")) true := L0.andThen (looks_subIn X T.hs)
  have n2 : (Value.builtin "BaseException.__getattribute__" == Value.builtin "object.__getattribute__") = false := by decide +kernel
  have n1 : (onTheHeap (Value.ref D) && Value.builtin "BaseException.__getattribute__" == Value.builtin "object.__getattribute__") = false := by rw [n2]; rfl
  have n0 : (false && onTheHeap (Value.builtin "BaseException.__getattribute__")) = false := rfl
  unfold getAttr? getAttrBy? getAttrBy
  refine wpAny_bind (wpAny_mkText (wpAny_bind (wpAny_attempt (wpAny_holding (wpAny_bind (L0.at (wpAny_bind (L1.at ?_))))))))
  show wpAny _ _ (if (onTheHeap (Value.ref D) && Value.builtin "BaseException.__getattribute__" == Value.builtin "object.__getattribute__") = true then _ else _) _ _ _
  rw [n1, if_neg Bool.false_ne_true]
  unfold getAttrByItsOwn hookBefore
  refine wpAny_bind ?_
  rw [if_pos (show onTheHeap (Value.ref D) = true from rfl)]
  refine L2.at ?_
  refine wpAny_bind (wpAny_attempt (wpAny_holding ?_))
  unfold callGetattribute
  rw [n0, if_neg Bool.false_ne_true]
  unfold boundAndCalled
  rw [PySem.F.excAttr_ValueError.ga.bind (.ref x)]
  refine wpAny_bind (wpAny_pure ?_)
  show wpAny _ _ (call (.builtin "BaseException.__getattribute__") [.ref x, .str "__class__" t]) _ _ _
  refine wpAny_call (codeAny_call_builtin PySem.F.excAttr_ValueError.ga.plain PySem.F.entry_bexc_ga ?_)
  refine @check_slot (model prog w) _ _ ⟨hp, g, d, t + 1, os⟩ "BaseException.__getattribute__" "BaseException" "__getattribute__" (.ref x) [.str "__class__" t] [] _ (by decide +kernel) (by decide +kernel) sub (PySem.F.args_bexc_ga (.ref x) (.str "__class__" t)) ?_
  unfold Builtin.«object.__getattribute__»
  refine wpAny_bind (wpAny_of_eq (a := ((Value.ref x : Value), [Value.str "__class__" t])) (by first | rfl | (simp only [slotArgs]; rfl)) ?_)
  refine wpAny_bind (wpAny_pure (wpAny_bind (L0.at (wpAny_bind (L3.at ?_)))))
  show wpAny _ _ (holding [Value.builtin "object.__class__"] (call (.builtin "getset_descriptor.__get__") [.builtin "object.__class__", .ref x, .ref D]) >>= ret) _ _ _
  refine wpAny_bind (wpAny_holding (wpAny_call (class_get (s := ⟨hp, g, d, t + 1, os⟩) (ox := ox) (od := od) X I T.hm ?_)))
  refine wpAny_pure ?_
  show wpAny _ _ (handedOut (.ref D)) _ _ _
  rw [handedOut_of (v := .ref D) rfl]
  first
    | exact wpAny_pure (wpAny_pure h)
    | exact wpAny_pure h
    | exact wpAny_pure (wpAny_bind (wpAny_pure (wpAny_pure h)))
theorem kitx_err (T : L2.ExcC K D) : KitX K (.ref x) (.ref D) (fun h => InstAt h x ox D od) where
  ty := fun _ _ _ I => I.type
  it := fun _ _ X _ => by
    obtain ⟨cdD, hcD, _⟩ := any_some T.hd
    unfold clsIn at hcD
    split at hcD
    · rename_i c' d' cd' sl' ho
      intro A' Q' E' s' k q
      unfold isType loadHead
      exact wpAny_bind (wpAny_loadPart (k _ _ (X _ _ ho)) (wpAny_pure q))
    · cases hcD
  ne := fun h tp dd its n sl X htp => by
    obtain ⟨cdD, hcD, _⟩ := any_some T.hd
    refine Bool.eq_false_iff.mpr fun q => ?_
    have e : D = tp := Value.ref.inj (beq_iff_eq.mp q)
    subst e
    unfold clsIn at hcD
    split at hcD
    · rename_i c' d' cd' sl' ho
      have z := (X _ _ ho).symm.trans htp
      cases z
    · cases hcD
  ca := fun X I k => class_of_err T X I k
end
end PySem.W
namespace ExS
open PySem PySem.Spec PyProof.Rows L2
def rIsD (K : PySem.W.Frag) (a : Addr) (cls : Value) (d : Option Addr) : List V → Hp → VK → Prop := fun xs H Q => ∃ (D dd : Addr) (fs : List (Str × V)) (c : V) (cv : Value) (b : Bool), xs = [.ref a, c] ∧ cls = .ref D ∧ d = some dd ∧ H dd = some (.xd fs) ∧ ExcC K D ∧ ClsV c cv ∧ PySem.W.kitOne K (.ref D) cv = some b ∧ Q (.bl b) H
theorem call_isD {X : Cx} {a : Addr} {cls : Value} {d : Option Addr} {oe : Obj} {pn : List (Addr × Obj)} (hz : Zc cls d oe) (hf : ∃ vs, oe.data = .fields vs) : CallR (X.suite a ((a, oe) :: pn)) (.builtin "isinstance") (rIsD X.K a cls d) := by
  intro pins s σ H xs us Q I r h
  obtain ⟨D, dd, fs, c, cv, b, rfl, rfl, rfl, ea, T, hcv, e, q⟩ := h
  obtain ⟨u1, u2, rfl, rx, rt⟩ := vals2 r
  have ec := hcv.eq rt
  subst ec
  obtain rfl : u1 = Value.ref a := rx
  obtain ⟨ha, _⟩ := I.pin (a, oe) (List.mem_append.mpr (.inl List.mem_cons_self))
  obtain ⟨vs, hd⟩ := hf
  have hx : ObjOk X.prog X.w H s.heap dd (.xd fs) := I.hok dd _ ea
  obtain ⟨mA, hns, hr⟩ := hx
  obtain ⟨od, ho, hl⟩ := lookIn_ns hns
  have J : PySem.W.InstAt s.heap a oe D (some od) := ⟨ha, hz.1, by unfold PySem.W.notCls; rw [hd] <;> rfl, by rw [hz.2]; exact ho⟩
  exact PySem.W.kia_one (PySem.W.kitx_err T) I.kIn J e (fun z => nomatch z) fun tk => ⟨.bl b, H, I.kept (t' := tk) fun _ _ z => z, rfl, q⟩
end ExS
set_option maxRecDepth 100000
set_option maxHeartbeats 4000000
namespace U
open PySem PySem.Spec PyProof.Rows
open L2 hiding Fun CX0 E0 pass0 Fun.binds
open C8 Lx SX StX
def TpX (H : Hp) (a : Addr) (xs : List V) : Prop := ∃ o : Obj, H a = some (.frz o (.tup xs)) ∧ o.dict = none
theorem TpX.same {H H' : Hp} {a : Addr} {xs : List V} (h : TpX H a xs) (s : Same H H') : TpX H' a xs := by
  obtain ⟨o, h1, h2⟩ := h
  exact ⟨o, s _ _ h1, h2⟩
theorem TpX.sq {K : PySem.W.Frag} {H : Hp} {a : Addr} {xs : List V} (h : TpX H a xs) : SqT K H a xs := by
  obtain ⟨o, h1, _⟩ := h
  exact .inl (.inr ⟨o, h1⟩)
theorem TpX.new {H : Hp} {a : Addr} {xs : List V} {o : Obj} (h : o.dict = none) : TpX (upd H a (.frz o (.tup xs))) a xs := ⟨o, upd_same, h⟩
section
variable {X : Cx} {es : List Expr} {t : TA} {pos : Pos}
def tTupF (t : TA) : TE := fun σ H Q => t σ H fun xs H1 => xs.length ≤ sizeLine ∧ ∀ (p : Addr) (o : Obj), H1 p = none → o.dict = none → Q (.ref p) (upd H1 p (.frz o (.tup xs)))
theorem pe_tupF {x1} (h : PA X es t) : PE X (.Tuple es x1 pos) (tTupF t) := by
  refine ⟨fun pins s σ H Q I hq => ?_⟩
  refine wpAny_Tuple_spliced (thn (h.run pos pins s σ H _ I hq) fun us s1 ⟨xs, H1, I1, r, z, q⟩ => ⟨by rw [← r.length]; exact z, ?_⟩)
  have hf : H1 s1.heap.objs.size = none := I1.hok.fresh (Nat.le_refl _)
  have hg : (s1.heap.push { cls := .type "tuple", data := .seq us.toArray }).get? s1.heap.objs.size = some { cls := .type "tuple", data := .seq us.toArray } := Heap.get?_push_size _ rfl
  refine ⟨.ref s1.heap.objs.size, upd H1 s1.heap.objs.size (.frz { cls := .type "tuple", data := .seq us.toArray } (.tup xs)), I1.laid (t' := s1.toks) (fun b u e => Heap.get?_push_of_some _ e) (Nat.le_refl _) ?_, rfl, q _ _ hf rfl⟩
  exact ⟨hg, z, us, r, ⟨_, hg, rfl, _, rfl⟩⟩
def rCatF (K : PySem.W.Frag) : R2 := fun x y H Q => ∃ a b xs ys, x = .ref a ∧ y = .ref b ∧ SqT K H a xs ∧ SqT K H b ys ∧ ys ≠ [] ∧ xs.length + ys.length ≤ sizeLine ∧
  (xs = [] → Q (.ref b) H) ∧ (xs ≠ [] → ∀ (p : Addr) (o : Obj), H p = none → o.dict = none → Q (.ref p) (upd H p (.frz o (.tup (xs ++ ys)))))
theorem op_catF : OpR X (binaryOp .Add) (rCatF X.K) := by
  intro pins s σ H x y v u Q I rx ry h
  obtain ⟨a, b, xs, ys, rfl, rfl, ha, hb, hy, hz, q0, q2⟩ := h
  cases rx
  cases ry
  obtain ⟨its, r1, p1, _⟩ := I.tuple ha
  obtain ⟨its2, r2, p2, _⟩ := I.tuple hb
  by_cases hx : xs = []
  · subst hx
    cases r1
    exact cat_tup0 p1 p2 ⟨.ref b, H, I, rfl, q0 rfl⟩
  · refine HT.cat_tup p1 p2 (fun z => hx (r1.nil_iff.mp z)) (fun z => absurd (r2.nil_iff.mp z) hy) (fun z => ?_) (by rw [← r1.length, ← r2.length]; exact hz)
    have hg : (s.heap.push { cls := .type "tuple", data := .seq (its ++ its2).toArray }).get? s.heap.objs.size = some { cls := .type "tuple", data := .seq (its ++ its2).toArray } := Heap.get?_push_size _ rfl
    refine ⟨.ref s.heap.objs.size, _, I.laid (t' := s.toks) (o := .frz { cls := .type "tuple", data := .seq (its ++ its2).toArray } (.tup (xs ++ ys))) (fun b ob q => Heap.get?_push_of_some _ q) (Nat.le_refl _) ?_, rfl, q2 hx _ _ (I.hok.fresh (Nat.le_refl _)) rfl⟩
    exact ⟨hg, by rw [List.length_append]; exact hz, _, r1.append r2, ⟨_, hg, rfl, _, rfl⟩⟩
theorem call_tupleF : CallR X (.type "tuple") (fun xs H Q => ∃ p ys, xs = [.ref p] ∧ SqL X.K H p ys ∧ ∀ (l : Addr) (o : Obj), H l = none → o.dict = none → Q (.ref l) (upd H l (.frz o (.tup ys)))) := by
  intro pins s σ H xs us Q I r h
  obtain ⟨p, ys, rfl, hq, q⟩ := h
  obtain ⟨u, rfl, rx⟩ := vals1 r
  cases rx
  obtain ⟨its, r', pl, hz⟩ := I.list hq
  have hlen := r'.length
  refine call_tuple_list pl.isList (fun h' kp => ?_) (by simp only [List.size_toArray] <;> omega)
  have I1 : Inv X pins σ H { s with heap := h' } := I.kept (t' := s.toks) kp
  have hg : (h'.push { cls := .type "tuple", data := .seq its.toArray }).get? h'.objs.size = some { cls := .type "tuple", data := .seq its.toArray } := Heap.get?_push_size _ rfl
  have I2 : Inv X pins σ (upd H h'.objs.size (.frz { cls := .type "tuple", data := .seq its.toArray } (.tup ys))) { s with heap := h'.push { cls := .type "tuple", data := .seq its.toArray } } :=
    I1.laid (t' := s.toks) (fun b o e => Heap.get?_push_of_some _ e) (Nat.le_refl _) (show ObjOk X.prog X.w _ _ _ (.frz _ (.tup ys)) from ⟨hg, hz, its, r', ⟨_, hg, rfl, _, rfl⟩⟩)
  exact ⟨.ref h'.objs.size, _, I2, rfl, q _ _ (I1.hok.fresh (Nat.le_refl _)) rfl⟩
theorem pairs_ofF {pins : List (Addr × Obj)} {σ : L2.St} {H : Hp} {s : Shared} (I : Inv X pins σ H s) : ∀ {ps : List Addr} {kvs : List (Key × V)}, Paired (fun p kv => SqT X.K H p [kV kv.1, kv.2]) ps kvs →
    ∃ (prs : List (Key × Value)) (pvs : List (Value × Value)), KV kvs prs ∧ prs.length = ps.length ∧ pvs.length = ps.length ∧ ∀ (j : Nat) (k v : Value), pvs[j]? = some (k, v) → ∃ (b : Addr) (key : Key), ps[j]? = some b ∧ IsTup s.heap b #[k, v] ∧ prs[j]? = some (key, v) ∧ keyIs key k = true
  | _, _, .nil => ⟨[], [], .nil, rfl, rfl, fun j k v e => by simp at e⟩
  | _, _, .cons (a := p) (b := kv) h t => by
    obtain ⟨prs, pvs, r, hl, hl2, hp⟩ := pairs_ofF I t
    obtain ⟨its, rv, ht, _⟩ := I.tuple h
    obtain ⟨u, y, ei, ru, ry⟩ := vals2 rv
    subst ei
    refine ⟨(kv.1, y) :: prs, (u, y) :: pvs, .cons ⟨rfl, ry⟩ r, by rw [List.length_cons, List.length_cons, hl], by rw [List.length_cons, List.length_cons, hl2], fun j k v e => ?_⟩
    cases j with
    | zero =>
      have e' : (u, y) = (k, v) := Option.some.inj e
      cases e'
      exact ⟨p, kv.1, rfl, ht, rfl, kV_is (P := X.prog) (w := X.w) ru⟩
    | succ j =>
      obtain ⟨b, key, e1, e2, e3, e4⟩ := hp j k v (by simpa using e)
      exact ⟨b, key, by simpa using e1, e2, by simpa using e3, e4⟩
def rDictF (K : PySem.W.Frag) : List V → Hp → VK → Prop := fun xs H Q => ∃ (a : Addr) (ps : List Addr) (kvs : List (Key × V)), xs = [.ref a] ∧ TpX H a (ps.map V.ref) ∧ Paired (fun p kv => SqT K H p [kV kv.1, kv.2]) ps kvs ∧
    ∀ p, H p = none → Q (.ref p) (upd H p (.dK (mergeK [] kvs)))
theorem call_dictF (hcalm : X.calm = true) : CallR X (.type "dict") (rDictF X.K) := by
  intro pins s σ H xs us Q I r q
  obtain ⟨a, ps, kvs, ex, ⟨o, hq, hd0⟩, hp, q⟩ := q
  subst ex
  obtain ⟨u, eu, rx⟩ := vals1 r
  subst eu
  cases rx
  obtain ⟨hg, hz, its, rv, o2, hg2, hc, n, hd⟩ := I.hok _ _ hq
  rw [hg] at hg2
  cases hg2
  have ei := refs_at rv
  subst ei
  rw [List.length_map] at hz
  obtain ⟨prs, pvs, rel, hl, hl2, hpr⟩ := pairs_ofF I hp
  have hit : PairItems s.heap (ps.map Value.ref).toArray (fun j => ps.getD j 0) pvs := ⟨by simp [hl2], fun j k v e => by
    obtain ⟨b, key, e1, e2, e3, e4⟩ := hpr j k v e
    have eb : ps.getD j 0 = b := by rw [List.getD_eq_getElem?_getD, e1]; rfl
    refine ⟨by simp [e1, eb], .inl ?_⟩
    show s.heap.IsTuple (ps.getD j 0) #[k, v]
    rw [eb]
    exact e2⟩
  refine PySem.call_dict_pairs (knd := mixKind X.prog X.w) (kvs := prs) (PairArg.tuple a (ps.map Value.ref).toArray (fun j => ps.getD j 0) pvs) (I.ok.hd hcalm) ⟨⟨o, n, hg, hc, hd0, hd⟩, hit⟩ ⟨by rw [hl, hl2], fun i key v e => ?_⟩ (by rw [hl2]; exact hz) fun h' tk hd' k => ?_
  · obtain ⟨b, kk, e1, e2, e3, e4⟩ := hpr i key v e
    exact ⟨kk, e3, e4⟩
  · have hm : (s.heap.objs.size == sysModules) = false := beq_eq_false_iff_ne.mpr (Nat.ne_of_gt I.big)
    have hlen : (mergeK [] kvs).length ≤ sizeLine := by
      refine Nat.le_trans (length_mergeK kvs []) ?_
      rw [List.length_nil, Nat.zero_add, rel.length, hl]
      exact hz
    exact ⟨.ref s.heap.objs.size, upd H s.heap.objs.size (.dK (mergeK [] kvs)), I.laid (t' := tk) (fun b o e => k b o (fun z => nomatch z) e) (Nat.le_refl _) (show ObjOk X.prog X.w _ _ _ (.dK (mergeK [] kvs)) from ⟨hlen, hm, merged [] prs, KV.merge rel .nil, hd'⟩), rfl, q _ (I.hok.fresh (Nat.le_refl _))⟩
end
end U
set_option maxRecDepth 100000
set_option maxHeartbeats 4000000
namespace U
open PySem PySem.Spec PyProof.Rows
open L2 hiding Fun CX0 E0 pass0 Fun.binds
open C8 Lx SX StX
section
variable {prog : Program} {w : World} {A : Around} {E : Value → Shared → Prop} {s : Shared}
theorem adjust_rev (n : Nat) : Builtin.Slice.sliceAdjust none none (-1) (n : Int) = ((n : Int) - 1, -1) := by
  unfold Builtin.Slice.sliceAdjust
  rfl
theorem places_rev (n : Nat) : Builtin.Slice.slicePlaces ((n : Int) - 1) (-1) (-1) = n := by
  unfold Builtin.Slice.slicePlaces
  have h1 : ¬ ((-1 : Int) > 0) := by omega
  simp only [h1, if_false]
  by_cases h : (n : Int) - 1 > -1
  · simp only [h, if_true]
    rw [show (- -1 : Int) = 1 by decide, Int.ediv_one]
    omega
  · have e : n = 0 := by omega
    subst e
    simp
theorem applied_rev {sl : Addr} {vs : Value} {n : Nat} {Q : Int × Int × Nat → Shared → Prop} (hs : s.heap.IsSliceOf sl .none .none vs) (ps : IsPart vs (some (-1))) (h : Q ((n : Int) - 1, -1, n) s) : wpAny (model prog w) A (Builtin.Slice.sliceApplied (.ref sl) (pure (n : Int))) Q E s := by
  obtain ⟨os, hos, hcs, hds⟩ := id hs
  unfold Builtin.Slice.sliceApplied Builtin.Slice.sliceFields
  refine wpAny_bind (wpAny_bind (wpAny_field hos hds (x := .none) rfl (wpAny_bind (wpAny_field hos hds (x := .none) rfl (wpAny_bind (wpAny_field hos hds (x := vs) rfl (wpAny_pure ?_)))))))
  refine wpAny_bind (HT.slicePart_ ps ?_)
  show wpAny _ _ (if ((-1 : Int) == 0) = true then _ else _) _ _ s
  rw [if_neg (by decide)]
  refine wpAny_bind (HT.slicePart_ .none (wpAny_bind (HT.slicePart_ .none (wpAny_bind (wpAny_pure ?_)))))
  show wpAny _ _ (match Builtin.Slice.sliceAdjust none none (-1) (n : Int) with | (lo, hi) => pure (lo, (-1 : Int), Builtin.Slice.slicePlaces lo hi (-1))) _ _ s
  rw [adjust_rev n]
  show wpAny _ _ (pure ((n : Int) - 1, (-1 : Int), Builtin.Slice.slicePlaces ((n : Int) - 1) (-1) (-1))) _ _ s
  rw [places_rev]
  exact wpAny_pure h
theorem fm_congr {α β : Type} {f g : α → Option β} : ∀ {l : List α}, (∀ x ∈ l, f x = g x) → l.filterMap f = l.filterMap g
  | [], _ => rfl
  | a :: r, h => by rw [List.filterMap_cons, List.filterMap_cons, h a List.mem_cons_self, fm_congr fun x hx => h x (List.mem_cons_of_mem _ hx)]
theorem pick_rev (xs : Array Value) : ((List.range xs.size).filterMap fun (m : Nat) => xs[(((xs.size : Int) - 1) + (m : Int) * (-1)).toNat]?).toArray = xs.toList.reverse.toArray := by
  have e : (List.range xs.size).filterMap (fun (m : Nat) => xs[(((xs.size : Int) - 1) + (m : Int) * (-1)).toNat]?) = ((List.range xs.size).map fun k => xs.size - 1 - k).filterMap (xs[·]?) := by
    rw [List.filterMap_map]
    apply fm_congr
    intro m hm
    have := List.mem_range.mp hm
    have e : (((xs.size : Int) - 1) + (m : Int) * (-1)).toNat = xs.size - 1 - m := by omega
    rw [e]
    rfl
  rw [e, PySem.W.krv_range, List.filterMap_reverse, PySem.W.krv_all]
theorem getItem_rev {t sl : Addr} {items : Array Value} {vs : Value} {Q : Value → Shared → Prop} (ht : IsTup s.heap t items) (hs : s.heap.IsSliceOf sl .none .none vs) (ps : IsPart vs (some (-1)))
    (h : Q (.ref s.heap.objs.size) { s with heap := s.heap.push { cls := .type "tuple", data := .seq items.toList.reverse.toArray } })
    (hsz : items.size ≤ sizeLine) : wpAny (model prog w) A (getItem (.ref t) (.ref sl)) Q E s := by
  have htake : sizeOk (.seq items.toList.reverse.toArray) := by
    show items.toList.reverse.toArray.size ≤ sizeLine
    rw [List.size_toArray, List.length_reverse, Array.length_toList]
    omega
  obtain ⟨os, hos, hcs, hds⟩ := id hs
  have hTs : s.TypeIs (.ref sl) "slice" := ⟨os, hos, hcs⟩
  unfold getItem
  try with_reducible refine wpAny_holding ?_
  first | refine wpAny_bind (wpAny_pure ?_) | skip
  refine wpAny_bind (wpAny_sequenceKey ht.typeIs (by decide) ?_)
  refine wpAny_bind (wpAny_callSpecial?_slot (name := Str.ofString "__getitem__") ht.typeIs PyProof.Rows.slot_tuple_getitem
    (wpAny_call_entry PyProof.Rows.slot_tuple_getitem ht.typeIs entry_tuple_getitem ?_ (args_tuple_getitem _ _)))
  show wpAny _ _ (Builtin.Tuple.tupleItemsOf (.ref t) >>= _) _ _ s
  refine wpAny_bind (tupleItemsOf_ ht ?_)
  refine wpAny_bind (wpAny_typeOf hTs ?_)
  rw [if_pos (by decide)]
  refine wpAny_bind (applied_rev hs ps ?_)
  have hno : ¬ ((((items.size : Int) - 1) == 0 && (-1 : Int) == 1 && items.size == items.size) = true) := by simp
  show wpAny _ _ (if (((items.size : Int) - 1) == 0 && (-1 : Int) == 1 && items.size == items.size) = true then _ else _) _ _ s
  rw [if_neg hno, pick_rev]
  first
    | exact wpAny_bind (m := Builtin.Tuple.tupleExact _) (wpAny_newObj_type (wpAny_pure ⟨_, rfl, wpAny_pure h⟩) htake)
    | exact wpAny_bind (m := Builtin.Tuple.tupleExact _) (wpAny_newObj_type (wpAny_bind (wpAny_pure (wpAny_pure ⟨_, rfl, wpAny_pure h⟩))) htake)
    | exact wpAny_bind (wpAny_bind (m := Builtin.Tuple.tupleExact _) (wpAny_newObj_type (wpAny_pure (wpAny_pure ⟨_, rfl, wpAny_pure h⟩)) htake))
    | exact wpAny_bind (wpAny_bind (m := Builtin.Tuple.tupleExact _) (wpAny_newObj_type (wpAny_pure ⟨_, rfl, wpAny_pure h⟩) htake))
end
section
variable {X : Cx}
def tRevT (K : PySem.W.Frag) (te : TE) : TE := fun σ H Q => te σ H fun x H1 => ∃ a xs, x = .ref a ∧ SqT K H1 a xs ∧ ∀ p, H1 p = none → Q (.ref p) (upd H1 p (.tup xs.reverse))
theorem pe_revT {e : PySem.Expr} {te : TE} {k : Nat} {p1 p2 p3 pos : Pos} (he : PE X e te) : PE X (.Subscript e (.Slice none none (some (.UnaryOp .USub (.Constant (.int 1) k p1) p2)) p3) pos) (tRevT X.K te) := by
  refine ⟨fun pins s σ H Q I h => ?_⟩
  refine Subscript_ (thn (he.run pins s σ H _ I h) fun v s1 ⟨x, H1, I1, r1, q1⟩ => ?_)
  obtain ⟨a, xs, ex, hx, q⟩ := q1
  subst ex
  cases r1
  have hst : PO X (some (.UnaryOp .USub (.Constant (.int 1) k p1) p2)) (tPart (tUn (rU fun i => .int (-i)) (tC (.int 1)))) := po_some (pe_un un_neg pe_int)
  refine wpAny_Slice (thn (po_none.run pins s1 σ H1 (fun o H2 => o = none ∧ H2 = H1) I1 ⟨rfl, rfl⟩) fun vl s2 ⟨l, H2, I2, pl, el, e2⟩ => ?_)
  subst el e2
  refine thn (po_none.run pins s2 σ H2 (fun o H3 => o = none ∧ H3 = H2) I2 ⟨rfl, rfl⟩) fun vu s3 ⟨u, H3, I3, pu, eu, e3⟩ => ?_
  subst eu e3
  refine thn (hst.run pins s3 σ H3 (fun o H4 => o = some (-1) ∧ H4 = H3) I3 ⟨1, rfl, -1, rfl, rfl, rfl⟩) fun vs s4 ⟨o, H4, I4, ps, eo, e4⟩ => ?_
  subst eo e4
  cases pl
  cases pu
  have I5 : Inv X pins σ H4 { s4 with heap := s4.heap.push { cls := .type "slice", data := .fields #[.none, .none, vs] } } := I4.kept (t' := s4.toks) fun b ob q => Heap.get?_push_of_some _ q
  obtain ⟨its, r, ht, hz⟩ := I5.tuple hx
  have hlen := r.length
  show wpAny (model X.prog X.w) X.A (subscriptTail e (.Slice none none (some (.UnaryOp .USub (.Constant (.int 1) k p1) p2)) p3) (.ref a) (.ref s4.heap.objs.size)) (EP X pins σ Q) X.xe { s4 with heap := s4.heap.push { cls := .type "slice", data := .fields #[.none, .none, vs] } }
  refine tail_any (ops := [.ref a, .ref s4.heap.objs.size]) ht.typeIs (PyProof.Rows.slot_tuple_getitem.lookup) ?_ (by with_unfolding_all rfl)
  refine getItem_rev ht (Heap.IsSliceOf.new _ .none .none vs) ps ?_ (by rw [List.size_toArray]; omega)
  refine ⟨.ref _, _, I5.laid (t' := s4.toks) (o := .tup xs.reverse) (fun b ob q => Heap.get?_push_of_some _ q) (Nat.le_refl _) ?_, rfl, q _ (I5.hok.fresh (Nat.le_refl _))⟩
  exact ⟨by rw [List.length_reverse]; exact hz, _, r.reverse, IsTup.new _ _⟩
end
end U
set_option maxRecDepth 100000
set_option maxHeartbeats 4000000
namespace U
open PySem PySem.Spec PyProof.Rows
open L2 hiding Fun CX0 E0 pass0 Fun.binds
open C8 Lx SX StX
section
variable {X : Cx}
def tRevF (K : PySem.W.Frag) (te : TE) : TE := fun σ H Q => te σ H fun x H1 => ∃ a xs, x = .ref a ∧ SqT K H1 a xs ∧ ∀ (p : Addr) (o : Obj), H1 p = none → o.dict = none → Q (.ref p) (upd H1 p (.frz o (.tup xs.reverse)))
theorem pe_revT0F {e : PySem.Expr} {te : TE} {k1 k2 : Nat} {p1 p2 p3 p4 pos : Pos} (he : PE X e te) : PE X (.Subscript e (.Slice none none (some (.BinOp (.Constant (.int 0) k1 p1) .Sub (.Constant (.int 1) k2 p2) p3)) p4) pos) (tRevF X.K te) := by
  refine ⟨fun pins s σ H Q I h => ?_⟩
  refine Subscript_ (thn (he.run pins s σ H _ I h) fun v s1 ⟨x, H1, I1, r1, q1⟩ => ?_)
  obtain ⟨a, xs, ex, hx, q⟩ := q1
  subst ex
  cases r1
  have hst := po_some (X := X) (pe_op op_sub (pe_int (i := 0) (j := k1) (pos := p1)) (pe_int (i := 1) (j := k2) (pos := p2)) (pos := p3))
  refine wpAny_Slice (thn (po_none.run pins s1 σ H1 (fun o H2 => o = none ∧ H2 = H1) I1 ⟨rfl, rfl⟩) fun vl s2 ⟨l, H2, I2, pl, el, e2⟩ => ?_)
  subst el e2
  refine thn (po_none.run pins s2 σ H2 (fun o H3 => o = none ∧ H3 = H2) I2 ⟨rfl, rfl⟩) fun vu s3 ⟨u, H3, I3, pu, eu, e3⟩ => ?_
  subst eu e3
  refine thn (hst.run pins s3 σ H3 (fun o H4 => o = some (-1) ∧ H4 = H3) I3 ⟨_, _, rfl, rfl, _, rfl, rfl, rfl⟩) fun vs s4 ⟨o, H4, I4, ps, eo, e4⟩ => ?_
  subst eo e4
  cases pl
  cases pu
  have I5 : Inv X pins σ H4 { s4 with heap := s4.heap.push { cls := .type "slice", data := .fields #[.none, .none, vs] } } := I4.kept (t' := s4.toks) fun b ob q => Heap.get?_push_of_some _ q
  obtain ⟨its, r, ht, hz⟩ := I5.tuple hx
  have hlen := r.length
  show wpAny (model X.prog X.w) X.A (subscriptTail e (.Slice none none (some (.BinOp (.Constant (.int 0) k1 p1) .Sub (.Constant (.int 1) k2 p2) p3)) p4) (.ref a) (.ref s4.heap.objs.size)) (EP X pins σ Q) X.xe { s4 with heap := s4.heap.push { cls := .type "slice", data := .fields #[.none, .none, vs] } }
  refine tail_any (ops := [.ref a, .ref s4.heap.objs.size]) ht.typeIs (PyProof.Rows.slot_tuple_getitem.lookup) ?_ (by with_unfolding_all rfl)
  refine getItem_rev ht (Heap.IsSliceOf.new _ .none .none vs) ps ?_ (by rw [List.size_toArray]; omega)
  have hg : ∀ h' : Heap, (h'.push { cls := .type "tuple", data := .seq its.reverse.toArray }).get? h'.objs.size = some { cls := .type "tuple", data := .seq its.reverse.toArray } := fun h' => Heap.get?_push_size _ rfl
  refine ⟨.ref _, _, I5.laid (t' := s4.toks) (o := .frz { cls := .type "tuple", data := .seq its.reverse.toArray } (.tup xs.reverse)) (fun b ob q => Heap.get?_push_of_some _ q) (Nat.le_refl _) ?_, rfl, q _ _ (I5.hok.fresh (Nat.le_refl _)) rfl⟩
  exact ⟨hg _, by rw [List.length_reverse]; exact hz, _, r.reverse, ⟨_, hg _, rfl, _, rfl⟩⟩
end
end U
set_option maxRecDepth 100000
set_option maxHeartbeats 4000000
namespace U
open PySem PySem.Spec PyProof.Rows
open L2 hiding Fun CX0 E0 pass0 Fun.binds
open C8 Lx SX
def bt (b : Bool) : Nat := if b then 49 else 48
def W (l : List Bool) : Str := S (l.map bt)
theorem bt_inj : ∀ {a b : Bool}, bt a = bt b → a = b := by decide
theorem map_bt_inj : ∀ {a b : List Bool}, a.map bt = b.map bt → a = b
  | [], [], _ => rfl
  | [], _ :: _, h => by simp at h
  | _ :: _, [], h => by simp at h
  | x :: l, y :: m, h => by
    rw [List.map_cons, List.map_cons] at h
    injection h with h1 h2
    rw [bt_inj h1, map_bt_inj h2]
theorem W_inj {a b : List Bool} (h : W a = W b) : a = b := map_bt_inj (S_inj h)
theorem W_eq {a b : List Bool} : (W a = W b) ↔ a = b := ⟨W_inj, fun h => by rw [h]⟩
theorem W_len (a : List Bool) : (W a).length = a.length := by unfold W; rw [S_len, List.length_map]
theorem W_size (a : List Bool) : (W a).cps.size = a.length := by unfold W; simp
theorem W_cat (a b : List Bool) : W a ++ W b = W (a ++ b) := by unfold W; rw [S_cat, List.map_append]
theorem W_nil : ("" : Str) = W [] := by decide +kernel
theorem W_0 : ("0" : Str) = W [false] := by decide +kernel
theorem W_1 : ("1" : Str) = W [true] := by decide +kernel
theorem W_get {a : List Bool} {i : Nat} {c : Nat} (h : (W a).cps[i]? = some c) : ∃ b, a[i]? = some b ∧ c = bt b := by
  unfold W S at h
  rw [List.getElem?_toArray, List.getElem?_map] at h
  cases e : a[i]? with
  | none => rw [e] at h; cases h
  | some b => rw [e] at h; exact ⟨b, rfl, (Option.some.inj h).symm⟩
theorem W_bit (b : Bool) : (⟨#[bt b]⟩ : Str) = W [b] := rfl
theorem W_tl (a : List Bool) : (W a).cps.toList = a.map bt := rfl
theorem joinL_nil : ∀ ys : List (List Nat), TL.joinL [] ys = ys.flatten
  | [] => rfl
  | [p] => by simp [TL.joinL]
  | p :: q :: r => by
    show p ++ ([] ++ TL.joinL [] (q :: r)) = _
    rw [List.nil_append, joinL_nil (q :: r)]
    rfl
theorem join_W (ls : List (List Bool)) : Txt.join "" (ls.map W) = W ls.flatten := by
  have e : (ls.map W) = (ls.map (·.map bt)).map S := by rw [List.map_map]; rfl
  have e2 : ("" : Str) = S [] := by decide +kernel
  rw [e, e2, join_S, joinL_nil]
  unfold W
  rw [List.map_flatten]
theorem join_bits (l : List Bool) : Txt.join "" (l.map fun b => W [b]) = W l := by
  have e : (l.map fun b => W [b]) = (l.map fun b => [b]).map W := by rw [List.map_map]; rfl
  rw [e, join_W]
  congr 1
  induction l with
  | nil => rfl
  | cons b r ih => simp [ih]
theorem sum_lens : ∀ ls : List (List Bool), ((ls.map W).map (·.length)).sum = (ls.map (·.length)).sum
  | [] => rfl
  | l :: r => by
    rw [List.map_cons, List.map_cons, List.map_cons, List.sum_cons, List.sum_cons, W_len, sum_lens r]
theorem sl_len {n : Nat} (h : n ≤ 100000) : n ≤ sizeLine := Nat.le_trans h (by decide)
theorem sl_lt {n : Nat} (h : n < 100000) : n < sizeLine := Nat.lt_of_lt_of_le h (by decide)
def bitsV (l : List Bool) : List V := (l.map fun b => W [b]).map V.str
theorem lens_bits (l : List Bool) : ((l.map fun b => W [b]).map (·.length)).sum = l.length := by
  induction l with
  | nil => rfl
  | cons b r ih => rw [List.map_cons, List.map_cons, List.sum_cons, ih, W_len, List.length_cons]; simp only [List.length_cons, List.length_nil]; omega
theorem bitsV_len (l : List Bool) : (bitsV l).length = l.length := by unfold bitsV; rw [List.length_map, List.length_map]
theorem bitsV_snoc (l : List Bool) (b : Bool) : bitsV l ++ [V.str (W [b])] = bitsV (l ++ [b]) := by unfold bitsV; simp
theorem mem2 {v : V} (h : v ∈ ([.str "0", .str "1"] : List V)) : ∃ b : Bool, v = .str (W [b]) := by
  rcases List.mem_cons.mp h with rfl | h
  · exact ⟨false, by rw [W_0]⟩
  · rcases List.mem_cons.mp h with rfl | h
    · exact ⟨true, by rw [W_1]⟩
    · cases h
theorem empty_len : ("" : Str).length = 0 := by decide +kernel
theorem q_dec {c : Prop} [Decidable c] {Q : VK} {H : Hp} (hc : c) (h : Q (.bl true) H) : Q (.bl (decide c)) H := by rw [decide_eq_true hc]; exact h
theorem q_ndec {c : Prop} [Decidable c] {Q : VK} {H : Hp} (hc : ¬ c) (h : Q (.bl false) H) : Q (.bl (decide c)) H := by rw [decide_eq_false hc]; exact h
theorem iteDT {c A B : Prop} [Decidable c] (hc : c) (h : A) : if decide c = true then A else B := by rw [decide_eq_true hc]; exact iteT h
theorem iteDF {c A B : Prop} [Decidable c] (hc : ¬ c) (h : B) : if decide c = true then A else B := by rw [decide_eq_false hc]; exact iteF h
theorem iteNT {c A B : Prop} [Decidable c] (hc : ¬ c) (h : A) : if (!decide c) = true then A else B := by rw [decide_eq_false hc]; exact iteT h
theorem iteBT {b : Bool} {A B : Prop} (hc : b = true) (h : A) : if b = true then A else B := by rw [hc]; exact iteT h
theorem iteBF {b : Bool} {A B : Prop} (hc : b = false) (h : B) : if b = true then A else B := by rw [hc]; exact iteF h
def oW : Option (List Bool) → V
  | none => .non
  | some x => .str (W x)
theorem W_drop {a : List Bool} {i : Int} (h : 0 ≤ i) : Txt.slice (W a) (some i) none = W (a.drop i.toNat) := by
  unfold W; rw [slice_from h, List.map_drop]
theorem W_take {a : List Bool} {i : Int} (h : 0 ≤ i) : Txt.slice (W a) none (some i) = W (a.take i.toNat) := by
  unfold W; rw [slice_to h, List.map_take]
theorem repl_succ (l : List Bool) (n : Nat) : (List.replicate (n + 1) l).flatten = l ++ (List.replicate n l).flatten := by rw [List.replicate_succ]; rfl
theorem foldl_app : ∀ (n : Nat) (a b : Array Nat), ((List.replicate n a).foldl (· ++ ·) b).toList = b.toList ++ (List.replicate n a.toList).flatten
  | 0, a, b => by simp
  | n + 1, a, b => by
    rw [List.replicate_succ, List.foldl_cons, foldl_app n a (b ++ a), List.replicate_succ, List.flatten_cons, Array.toList_append, List.append_assoc]
theorem mul_W {l : List Bool} {n : Nat} (h : 1 ≤ n) : Txt.mul (W l) (n : Int) = W (List.replicate n l).flatten := by
  refine TL.ext_tl ?_
  unfold Txt.mul
  rw [if_neg (by omega)]
  by_cases c : (((n : Int) == 1) || (W l).length == 0) = true
  · rw [if_pos c]
    simp only [Bool.or_eq_true, beq_iff_eq] at c
    rcases c with c | c
    · have : n = 1 := by omega
      subst this
      simp
    · rw [W_len] at c
      have : l = [] := List.length_eq_zero_iff.mp c
      subst this
      rw [show (List.replicate n ([] : List Bool)).flatten = [] by simp]
  · rw [if_neg c]
    show ((List.replicate (n : Int).toNat (W l).cps).foldl (· ++ ·) #[]).toList = _
    rw [foldl_app, Int.toNat_natCast]
    show [] ++ (List.replicate n (l.map bt)).flatten = ((List.replicate n l).flatten).map bt
    rw [List.map_flatten, List.map_replicate, List.nil_append]
end U
set_option maxRecDepth 100000
set_option maxHeartbeats 4000000
namespace U
abbrev Stf := List Bool × Bool
def putM (ss : List Stf) (l : List Bool) : Option Bool := (ss.find? fun s => s.1.isSuffixOf l).map (·.2)
inductive Ins (ss : List Stf) : List Bool → List Bool → Prop
  | stop {l : List Bool} : putM ss l = none → Ins ss l []
  | more {l x : List Bool} {b : Bool} : putM ss l = some b → Ins ss (l ++ [b]) x → Ins ss l (b :: x)
inductive Reach (ss : List Stf) : List Bool → Prop
  | nil : Reach ss []
  | next {l x : List Bool} {b : Bool} : Reach ss l → Ins ss (l ++ [b]) x → Reach ss (l ++ [b] ++ x)
def OkR (ss : List Stf) : Prop := ∀ l, Reach ss l → ∀ b, ∃ x, Ins ss (l ++ [b]) x
def OkN (n : Nat) (ss : List Stf) : Prop := ∀ l, Reach ss l → ∀ b, ∃ x, Ins ss (l ++ [b]) x ∧ x.length ≤ n
abbrev OkS (ss : List Stf) : Prop := OkN 19 ss
theorem OkN.ok {n : Nat} {ss : List Stf} (h : OkN n ss) : OkR ss := fun l r b => by
  obtain ⟨x, hx, _⟩ := h l r b
  exact ⟨x, hx⟩
theorem OkN.mono {n m : Nat} {ss : List Stf} (h : OkN n ss) (hn : n ≤ m) : OkN m ss := fun l r b => by
  obtain ⟨x, hx, h1⟩ := h l r b
  exact ⟨x, hx, Nat.le_trans h1 hn⟩
def tl (n : Nat) (l : List Bool) : List Bool := l.drop (l.length - n)
theorem tl_len (n : Nat) (l : List Bool) : (tl n l).length = min n l.length := by unfold tl; rw [List.length_drop]; omega
theorem tl_le (n : Nat) (l : List Bool) : (tl n l).length ≤ n := by rw [tl_len]; omega
theorem tl_id {n : Nat} {l : List Bool} (h : l.length ≤ n) : tl n l = l := by
  unfold tl
  rw [show l.length - n = 0 by omega, List.drop_zero]
theorem tl_tl {a b : Nat} (h : a ≤ b) (l : List Bool) : tl a (tl b l) = tl a l := by
  unfold tl
  rw [List.drop_drop, List.length_drop]
  congr 1
  omega
theorem tl_of {a b : Nat} (h : a ≤ b) {l m : List Bool} (e : tl b l = tl b m) : tl a l = tl a m := by rw [← tl_tl h l, e, tl_tl h m]
theorem tl_snoc0 (n : Nat) (l : List Bool) (b : Bool) : tl (n + 1) (l ++ [b]) = tl n l ++ [b] := by
  unfold tl
  rw [List.length_append, List.length_cons, List.length_nil, List.drop_append]
  have e : l.length + (0 + 1) - (n + 1) = l.length - n := by omega
  rw [e, show l.length - n - l.length = 0 by omega]
  rfl
theorem tl_zero (l : List Bool) : tl 0 l = [] := by unfold tl; rw [List.drop_eq_nil_iff]; omega
theorem tl_snoc {n : Nat} {l m : List Bool} {b : Bool} (e : tl n l = tl n m) : tl n (l ++ [b]) = tl n (m ++ [b]) := by
  cases n with
  | zero => rw [tl_zero, tl_zero]
  | succ n => rw [tl_snoc0, tl_snoc0, tl_of (Nat.le_succ n) e]
theorem tl_app {n : Nat} {l m : List Bool} (e : tl n l = tl n m) : ∀ x : List Bool, tl n (l ++ x) = tl n (m ++ x)
  | [] => by rw [List.append_nil, List.append_nil]; exact e
  | b :: x => by
    have := tl_app (tl_snoc (b := b) e) x
    rw [List.append_assoc, List.append_assoc] at this
    exact this
theorem suf_iff {p l : List Bool} : p.isSuffixOf l = true ↔ p = tl p.length l := by
  rw [List.isSuffixOf_iff_suffix, List.suffix_iff_eq_drop]
  rfl
theorem suf_tl {L : Nat} {p l m : List Bool} (h : p.length ≤ L) (e : tl L l = tl L m) : p.isSuffixOf l = p.isSuffixOf m := by
  rw [Bool.eq_iff_iff, suf_iff, suf_iff, tl_of h e]
theorem put_tl {L : Nat} {l m : List Bool} (e : tl L l = tl L m) : ∀ {ss : List Stf}, (∀ s ∈ ss, s.1.length ≤ L) → putM ss l = putM ss m
  | [], _ => rfl
  | s :: r, h => by
    have ih := put_tl e (ss := r) fun s hs => h s (List.mem_cons_of_mem _ hs)
    have es := suf_tl (h s List.mem_cons_self) e
    unfold putM at ih ⊢
    rw [List.find?_cons, List.find?_cons, es]
    cases s.1.isSuffixOf m with
    | true => rfl
    | false => exact ih
theorem Ins.tl {ss : List Stf} {L : Nat} (hL : ∀ s ∈ ss, s.1.length ≤ L) {l x : List Bool} (h : Ins ss l x) : ∀ {m}, tl L l = tl L m → Ins ss m x := by
  induction h with
  | stop h => intro m e; exact .stop (by rw [← put_tl e hL]; exact h)
  | more h _ ih => intro m e; exact .more (by rw [← put_tl e hL]; exact h) (ih (tl_snoc e))
theorem Ins.det {ss : List Stf} {l x : List Bool} (h : Ins ss l x) : ∀ {y}, Ins ss l y → x = y := by
  induction h with
  | stop h =>
    intro y hy
    cases hy with
    | stop _ => rfl
    | more h2 _ => rw [h] at h2; cases h2
  | more h _ ih =>
    intro y hy
    cases hy with
    | stop h2 => rw [h] at h2; cases h2
    | more h2 hx =>
      rw [h] at h2
      cases h2
      rw [ih hx]
theorem Ins.end {ss : List Stf} {l x : List Bool} (h : Ins ss l x) : putM ss (l ++ x) = none := by
  induction h with
  | stop h => rw [List.append_nil]; exact h
  | more _ _ ih => rw [List.append_assoc] at ih; exact ih
theorem Ins.drop {ss : List Stf} {l x : List Bool} (h : Ins ss l x) : ∀ {i}, i ≤ x.length → Ins ss (l ++ x.take i) (x.drop i) := by
  induction h with
  | stop h => intro i hi; rw [List.take_nil, List.drop_nil, List.append_nil]; exact .stop h
  | more h hx ih =>
    intro i hi
    cases i with
    | zero => rw [List.take_zero, List.append_nil, List.drop_zero]; exact .more h hx
    | succ i =>
      have := ih (i := i) (by rw [List.length_cons] at hi; omega)
      rw [List.append_assoc] at this
      exact this
theorem Ins.at {ss : List Stf} {l x : List Bool} (h : Ins ss l x) {i : Nat} {b : Bool} (hb : x[i]? = some b) : putM ss (l ++ x.take i) = some b := by
  have hi := (List.getElem?_eq_some_iff.mp hb).1
  have h2 := h.drop (Nat.le_of_lt hi)
  rw [List.drop_eq_getElem_cons hi] at h2
  cases h2 with
  | more h3 _ => rw [h3, ← hb, List.getElem?_eq_getElem hi]
theorem Ins.apart {ss : List Stf} {L : Nat} (hL : ∀ s ∈ ss, s.1.length ≤ L) {l x : List Bool} (h : Ins ss l x) {i j : Nat} (hi : i ≤ x.length) (hj : j ≤ x.length) (e : U.tl L (l ++ x.take i) = U.tl L (l ++ x.take j)) : i = j := by
  have := congrArg List.length (((h.drop hi).tl hL e).det (h.drop hj))
  rw [List.length_drop, List.length_drop] at this
  omega
def allW : Nat → List (List Bool)
  | 0 => [[]]
  | n + 1 => [] :: ((allW n).map (false :: ·) ++ (allW n).map (true :: ·))
theorem allW_len : ∀ n, (allW n).length + 1 = 2 ^ (n + 1)
  | 0 => rfl
  | n + 1 => by
    have := allW_len n
    show ([] :: ((allW n).map (false :: ·) ++ (allW n).map (true :: ·))).length + 1 = _
    rw [List.length_cons, List.length_append, List.length_map, List.length_map, Nat.pow_succ]
    omega
theorem mem_allW : ∀ {n : Nat} {w : List Bool}, w.length ≤ n → w ∈ allW n
  | 0, [], _ => List.mem_cons_self
  | 0, _ :: _, h => by rw [List.length_cons] at h; omega
  | n + 1, [], _ => List.mem_cons_self
  | n + 1, b :: w, h => by
    have := mem_allW (n := n) (w := w) (by rw [List.length_cons] at h; omega)
    refine List.mem_cons_of_mem _ (List.mem_append.mpr ?_)
    cases b with
    | false => exact .inl (List.mem_map_of_mem this)
    | true => exact .inr (List.mem_map_of_mem this)
theorem nodup_le {α : Type} [DecidableEq α] : ∀ {l m : List α}, l.Nodup → (∀ x ∈ l, x ∈ m) → l.length ≤ m.length
  | [], _, _, _ => Nat.zero_le _
  | x :: r, m, hn, hs => by
    have hx := hs x List.mem_cons_self
    have hn' := List.nodup_cons.mp hn
    have h2 := nodup_le (l := r) (m := m.erase x) hn'.2 fun y hy => by
      have hne : y ≠ x := fun e => hn'.1 (e ▸ hy)
      exact (List.mem_erase_of_ne hne).mpr (hs y (List.mem_cons_of_mem _ hy))
    rw [List.length_erase_of_mem hx] at h2
    have := List.length_pos_of_mem hx
    rw [List.length_cons]
    omega
theorem words_le {ws : List (List Bool)} {n : Nat} (hn : ws.Nodup) (hl : ∀ w ∈ ws, w.length ≤ n) : ws.length + 1 ≤ 2 ^ (n + 1) := by
  have := nodup_le hn fun w hw => mem_allW (hl w hw)
  have := allW_len n
  omega
theorem Ins.len {ss : List Stf} {L : Nat} (hL : ∀ s ∈ ss, s.1.length ≤ L) {l x : List Bool} (h : Ins ss l x) : x.length + 1 ≤ 2 ^ (L + 1) := by
  have := words_le (ws := (List.range x.length).map fun i => U.tl L (l ++ x.take i)) (n := L) (by
    rw [List.nodup_iff_pairwise_ne, List.pairwise_map]
    refine List.Pairwise.imp_of_mem ?_ List.nodup_range
    intro a b ha hb hne e
    have ha' := List.mem_range.mp ha
    have hb' := List.mem_range.mp hb
    exact hne (h.apart hL (Nat.le_of_lt ha') (Nat.le_of_lt hb') e)) (fun w hw => by
      obtain ⟨i, _, rfl⟩ := List.mem_map.mp hw
      exact tl_le _ _)
  rw [List.length_map, List.length_range] at this
  exact this
def SufFree (ss : List Stf) : Prop := ss.Pairwise fun a b => ¬ a.1 <:+ b.1 ∧ ¬ b.1 <:+ a.1
theorem SufFree.ne {ss : List Stf} (h : SufFree ss) {a b : Stf} (ha : a ∈ ss) (hb : b ∈ ss) (n : a ≠ b) : ¬ a.1 <:+ b.1 := by
  unfold SufFree at h
  induction ss with
  | nil => cases ha
  | cons s r ih =>
    obtain ⟨h1, h2⟩ := List.pairwise_cons.mp h
    rcases List.mem_cons.mp ha with ea | ha'
    · rcases List.mem_cons.mp hb with eb | hb'
      · exact absurd (ea.trans eb.symm) n
      · rw [ea]; exact (h1 _ hb').1
    · rcases List.mem_cons.mp hb with eb | hb'
      · rw [eb]; exact (h1 _ ha').2
      · exact ih h2 ha' hb'
theorem put_iff {ss : List Stf} (h : SufFree ss) {l : List Bool} {b : Bool} : putM ss l = some b ↔ ∃ p, (p, b) ∈ ss ∧ p <:+ l := by
  unfold putM
  constructor
  · intro e
    obtain ⟨s, hs, rfl⟩ := Option.map_eq_some_iff.mp e
    exact ⟨s.1, List.mem_of_find?_eq_some hs, List.isSuffixOf_iff_suffix.mp (List.find?_some (p := fun s : Stf => s.1.isSuffixOf l) hs)⟩
  · rintro ⟨p, hm, hp⟩
    cases e : ss.find? fun s => s.1.isSuffixOf l with
    | none =>
      have := List.find?_eq_none.mp e _ hm
      exact absurd (List.isSuffixOf_iff_suffix.mpr hp) this
    | some s =>
      have hs := List.mem_of_find?_eq_some e
      have hq : s.1 <:+ l := List.isSuffixOf_iff_suffix.mp (List.find?_some (p := fun s : Stf => s.1.isSuffixOf l) e)
      by_cases n : s = (p, b)
      · rw [n]; rfl
      · rcases List.suffix_or_suffix_of_suffix hq hp with z | z
        · exact absurd z (h.ne hs hm n)
        · exact absurd z (h.ne hm hs (Ne.symm n))
theorem SufFree.perm {ss ts : List Stf} (h : SufFree ss) (p : ss.Perm ts) : SufFree ts := by
  unfold SufFree at h ⊢
  exact (List.Perm.pairwise_iff (fun ⟨a, b⟩ => ⟨b, a⟩) p).mp h
theorem put_perm {ss ts : List Stf} (h : SufFree ss) (p : ss.Perm ts) (l : List Bool) : putM ss l = putM ts l := by
  refine Option.ext fun b => ?_
  rw [put_iff h, put_iff (h.perm p)]
  constructor
  · rintro ⟨q, hm, hq⟩; exact ⟨q, p.mem_iff.mp hm, hq⟩
  · rintro ⟨q, hm, hq⟩; exact ⟨q, p.mem_iff.mpr hm, hq⟩
theorem Ins.congr {ss ts : List Stf} (h : ∀ l, putM ss l = putM ts l) {l x : List Bool} (i : Ins ss l x) : Ins ts l x := by
  induction i with
  | stop e => exact .stop (by rw [← h]; exact e)
  | more e _ ih => exact .more (by rw [← h]; exact e) ih
theorem Reach.congr {ss ts : List Stf} (h : ∀ l, putM ss l = putM ts l) {l : List Bool} (r : Reach ss l) : Reach ts l := by
  induction r with
  | nil => exact .nil
  | next _ i ih => exact .next ih (i.congr h)
theorem OkR.congr {ss ts : List Stf} (h : ∀ l, putM ss l = putM ts l) (o : OkR ss) : OkR ts := fun l r b => by
  obtain ⟨x, hx⟩ := o l (r.congr fun l => (h l).symm) b
  exact ⟨x, hx.congr h⟩
def stP (ss : List Stf) (l : List Bool) : List Bool := match putM ss l with
  | none => l
  | some b => l ++ [b]
def itP (ss : List Stf) : Nat → List Bool → List Bool
  | 0, l => l
  | n + 1, l => itP ss n (stP ss l)
theorem itP_succ (ss : List Stf) : ∀ (n : Nat) (l : List Bool), itP ss (n + 1) l = stP ss (itP ss n l)
  | 0, _ => rfl
  | n + 1, l => itP_succ ss n (stP ss l)
theorem itP_stop {ss : List Stf} {l : List Bool} (h : putM ss l = none) : ∀ n, itP ss n l = l
  | 0 => rfl
  | n + 1 => by
    show itP ss n (stP ss l) = l
    have e : stP ss l = l := by unfold stP; rw [h]
    rw [e, itP_stop h n]
theorem itP_add (ss : List Stf) : ∀ (i j : Nat) (l : List Bool), itP ss (i + j) l = itP ss j (itP ss i l)
  | 0, j, l => by rw [Nat.zero_add]; rfl
  | i + 1, j, l => by rw [show i + 1 + j = (i + j) + 1 by omega]; exact itP_add ss i j (stP ss l)
theorem itP_rest {ss : List Stf} {i n : Nat} {l : List Bool} (h : putM ss (itP ss i l) = none) (hi : i ≤ n) : itP ss n l = itP ss i l := by
  rw [show n = i + (n - i) by omega, itP_add, itP_stop h]
theorem itP_or (ss : List Stf) : ∀ (n : Nat) (l : List Bool), (itP ss n l).length = l.length + n ∨ ∃ x, Ins ss l x ∧ itP ss n l = l ++ x
  | 0, l => .inl rfl
  | n + 1, l => by
    cases e : putM ss l with
    | none => exact .inr ⟨[], .stop e, by rw [itP_stop e, List.append_nil]⟩
    | some b =>
      have es : stP ss l = l ++ [b] := by unfold stP; rw [e]
      show (itP ss n (stP ss l)).length = _ ∨ ∃ x, Ins ss l x ∧ itP ss n (stP ss l) = l ++ x
      rw [es]
      rcases itP_or ss n (l ++ [b]) with h | ⟨x, h1, h2⟩
      · left; rw [h, List.length_append, List.length_cons, List.length_nil]; omega
      · exact .inr ⟨b :: x, .more e h1, by rw [h2, List.append_assoc]; rfl⟩
theorem itP_le (ss : List Stf) : ∀ (n : Nat) (l : List Bool), l.length ≤ (itP ss n l).length ∧ (itP ss n l).length ≤ l.length + n
  | 0, l => ⟨Nat.le_refl _, Nat.le_refl _⟩
  | n + 1, l => by
    have h := itP_le ss n (stP ss l)
    have e : l.length ≤ (stP ss l).length ∧ (stP ss l).length ≤ l.length + 1 := by
      unfold stP
      cases putM ss l with
      | none => exact ⟨Nat.le_refl _, Nat.le_succ _⟩
      | some b => show l.length ≤ (l ++ [b]).length ∧ (l ++ [b]).length ≤ _; rw [List.length_append, List.length_cons, List.length_nil]; omega
    show l.length ≤ (itP ss n (stP ss l)).length ∧ (itP ss n (stP ss l)).length ≤ _
    omega
theorem okS_of {ss : List Stf} (kn : List (List Bool)) (hL : ∀ s ∈ ss, s.1.length ≤ 5) (h0 : [] ∈ kn) (hc : ∀ w ∈ kn, ∀ b, (itP ss 24 (w ++ [b])).length ≤ w.length + 20 ∧ tl 5 (itP ss 24 (w ++ [b])) ∈ kn) : OkS ss := by
  have hx : ∀ w ∈ kn, ∀ b, ∃ x, Ins ss (w ++ [b]) x ∧ tl 5 (w ++ [b] ++ x) ∈ kn ∧ x.length ≤ 19 := fun w hw b => by
    obtain ⟨h1, h2⟩ := hc w hw b
    rcases itP_or ss 24 (w ++ [b]) with h | ⟨x, hi, e⟩
    · rw [h, List.length_append, List.length_cons, List.length_nil] at h1; omega
    · rw [e] at h2 h1; exact ⟨x, hi, h2, by rw [List.length_append, List.length_append, List.length_cons, List.length_nil] at h1; omega⟩
  have hr : ∀ l, Reach ss l → ∃ w ∈ kn, tl 5 w = tl 5 l := fun l r => by
    induction r with
    | nil => exact ⟨[], h0, rfl⟩
    | @next l x b r i ih =>
      obtain ⟨w, hw, e⟩ := ih
      obtain ⟨y, hy, hm, _⟩ := hx w hw b
      have e2 := tl_snoc (b := b) e
      have ey := (hy.tl hL e2).det i
      subst ey
      exact ⟨_, hm, by rw [tl_tl (Nat.le_refl 5)]; exact tl_app e2 y⟩
  intro l r b
  obtain ⟨w, hw, e⟩ := hr l r
  obtain ⟨y, hy, _, h19⟩ := hx w hw b
  exact ⟨y, hy.tl hL (tl_snoc e), h19⟩
theorem okS_dec {ss : List Stf} (hL : (ss.all fun s => decide (s.1.length ≤ 5)) = true) (h : ((allW 5).all fun w => [false, true].all fun b => decide ((itP ss 24 (w ++ [b])).length ≤ w.length + 20)) = true) : OkS ss := by
  refine okS_of (allW 5) (fun s hs => of_decide_eq_true (List.all_eq_true.mp hL s hs)) (mem_allW (by decide)) fun w hw b => ⟨?_, mem_allW (tl_le _ _)⟩
  have := List.all_eq_true.mp (List.all_eq_true.mp h w hw) b (by cases b <;> decide)
  exact of_decide_eq_true this
theorem okS_11 : OkS [([true, true], false)] := okS_dec (by decide +kernel) (by decide +kernel)
theorem okS_001 : OkS [([false, false, true], true)] := okS_dec (by decide +kernel) (by decide +kernel)
theorem okS_1 : OkS [([true], false)] := okS_dec (by decide +kernel) (by decide +kernel)
theorem okS_00 : OkS [([false, false], true)] := okS_dec (by decide +kernel) (by decide +kernel)
theorem okS_nil : OkS [] := okS_dec (by decide +kernel) (by decide +kernel)
theorem okR_nil : OkR [] := okS_nil.ok
theorem OkN.congr {n : Nat} {ss ts : List Stf} (h : ∀ l, putM ss l = putM ts l) (o : OkN n ss) : OkN n ts := fun l r b => by
  obtain ⟨x, hx, hl⟩ := o l (r.congr fun l => (h l).symm) b
  exact ⟨x, hx.congr h, hl⟩
inductive Body (ss : List Stf) : List Bool → List Bool → Prop
  | nil : Body ss [] []
  | snoc {m l x : List Bool} {b : Bool} : Body ss m l → Ins ss (l ++ [b]) x → Body ss (m ++ [b]) (l ++ [b] ++ x)
theorem Body.reach {ss : List Stf} {m l : List Bool} (h : Body ss m l) : Reach ss l := by
  induction h with
  | nil => exact .nil
  | snoc _ i ih => exact .next ih i
theorem Body.congr {ss ts : List Stf} (h : ∀ l, putM ss l = putM ts l) {m l : List Bool} (b : Body ss m l) : Body ts m l := by
  induction b with
  | nil => exact .nil
  | snoc _ i ih => exact .snoc ih (i.congr h)
theorem body_steps {N : Nat} {ss : List Stf} (o : OkN N ss) (m : List Bool) : ∃ f : Nat → List Bool, f 0 = [] ∧ (∀ i b, m[i]? = some b → ∃ x, Ins ss (f i ++ [b]) x ∧ x.length ≤ N ∧ f (i + 1) = f i ++ [b] ++ x) ∧ (∀ i, i ≤ m.length → Body ss (m.take i) (f i) ∧ (f i).length ≤ (N + 1) * i) := by
  have step : ∀ (n : Nat) (hn : n ≤ m.length), ∃ f : Nat → List Bool, f 0 = [] ∧ (∀ i b, i < n → m[i]? = some b → ∃ x, Ins ss (f i ++ [b]) x ∧ x.length ≤ N ∧ f (i + 1) = f i ++ [b] ++ x) ∧ (∀ i, i ≤ n → Body ss (m.take i) (f i) ∧ (f i).length ≤ (N + 1) * i) := by
    intro n
    induction n with
    | zero => exact fun _ => ⟨fun _ => [], rfl, fun i b h => absurd h (Nat.not_lt_zero _), fun i h => by rw [Nat.le_zero.mp h, List.take_zero]; exact ⟨.nil, Nat.le_refl _⟩⟩
    | succ n ih =>
      intro hn
      obtain ⟨f, h0, h1, h2⟩ := ih (by omega)
      have hb : m[n]? = some m[n] := List.getElem?_eq_getElem (by omega)
      obtain ⟨hB, hl⟩ := h2 n (Nat.le_refl _)
      obtain ⟨x, hx, hx19⟩ := o (f n) hB.reach m[n]
      refine ⟨fun i => if i = n + 1 then f n ++ [m[n]] ++ x else f i, ?_, fun i b hi hb' => ?_, fun i hi => ?_⟩
      · show (if 0 = n + 1 then _ else f 0) = []
        rw [if_neg (by omega), h0]
      · show ∃ y, Ins ss ((if i = n + 1 then _ else f i) ++ [b]) y ∧ _ ∧ (if i + 1 = n + 1 then f n ++ [m[n]] ++ x else f (i + 1)) = (if i = n + 1 then f n ++ [m[n]] ++ x else f i) ++ [b] ++ y
        rw [if_neg (show ¬ i = n + 1 by omega)]
        by_cases e : i = n
        · subst e
          rw [hb] at hb'
          cases hb'
          rw [if_pos rfl]
          exact ⟨x, hx, hx19, rfl⟩
        · rw [if_neg (by omega)]
          exact h1 i b (by omega) hb'
      · show Body ss (m.take i) (if i = n + 1 then _ else f i) ∧ (if i = n + 1 then f n ++ [m[n]] ++ x else f i).length ≤ (N + 1) * i
        by_cases e : i = n + 1
        · subst e
          rw [if_pos rfl, List.take_add_one, hb]
          refine ⟨.snoc hB hx, ?_⟩
          rw [List.length_append, List.length_append, List.length_cons, List.length_nil, Nat.mul_add]
          omega
        · rw [if_neg e]
          exact h2 i (by omega)
  obtain ⟨f, h0, h1, h2⟩ := step m.length (Nat.le_refl _)
  exact ⟨f, h0, fun i b hb => h1 i b (List.getElem?_eq_some_iff.mp hb).1 hb, h2⟩
theorem Ins.itP {ss : List Stf} {l x : List Bool} (h : Ins ss l x) : ∀ n, itP ss n l = l ++ x.take n := by
  induction h with
  | stop h => intro n; rw [itP_stop h, List.take_nil, List.append_nil]
  | @more l x b h _ ih =>
    intro n
    cases n with
    | zero => rw [List.take_zero, List.append_nil]; rfl
    | succ n =>
      have es : stP ss l = l ++ [b] := by unfold stP; rw [h]
      show U.itP ss n (stP ss l) = _
      rw [es, ih n, List.append_assoc]
      rfl
theorem ins_of_itP {ss : List Stf} {l y : List Bool} {j : Nat} (h : itP ss j l = l ++ y) (hn : putM ss (l ++ y) = none) (hj : y.length = j) : Ins ss l y := by
  rcases itP_or ss (j + 1) l with c | ⟨x, hx, e⟩
  · rw [itP_succ, h] at c
    unfold stP at c
    rw [hn] at c
    have c' : (l ++ y).length = l.length + (j + 1) := c
    rw [List.length_append] at c'
    omega
  · rw [itP_succ, h] at e
    unfold stP at e
    rw [hn] at e
    have e' : l ++ y = l ++ x := e
    rw [List.append_cancel_left e']
    exact hx
def bodyF (ss : List Stf) (m : List Bool) : List Bool := m.foldl (fun l b => itP ss 40 (l ++ [b])) []
theorem Body.isF {ss : List Stf} (o : OkN 39 ss) {m l : List Bool} (h : Body ss m l) : l = bodyF ss m := by
  induction h with
  | nil => rfl
  | @snoc m l x b hb hi ih =>
    obtain ⟨y, hy, h39⟩ := o l hb.reach b
    have e := hi.det hy
    subst e
    unfold bodyF
    rw [List.foldl_append]
    show _ = itP ss 40 (bodyF ss m ++ [b])
    rw [← ih, hi.itP, List.take_of_length_le (by omega)]
theorem body_ex {ss : List Stf} (o : OkN 39 ss) (m : List Bool) : Body ss m (bodyF ss m) := by
  obtain ⟨f, _, _, h⟩ := body_steps o m
  have := (h m.length (Nat.le_refl _)).1
  rw [List.take_length] at this
  rw [← this.isF o]
  exact this
end U
set_option maxRecDepth 100000
set_option maxHeartbeats 4000000
namespace U
open PySem PySem.Spec PyProof.Rows L2
def top (i : Nat) : Stmt := PySem.Challenge.pw_unseenflips_k38_any_values_as_rate_paper.main.body.getD i (.Pass ⟨0, 0, 0, 0⟩)
abbrev s_wall : Stmt := top 0
abbrev s_is_integer : Stmt := top 3
abbrev s_is_sequence : Stmt := top 4
abbrev s_is_word : Stmt := top 5
abbrev s_is_bit : Stmt := top 6
abbrev s_tail : Stmt := top 7
abbrev s_common : Stmt := top 8
abbrev s_lowest : Stmt := top 9
abbrev s_is_value : Stmt := top 10
abbrev s_move : Stmt := top 12
abbrev s_is_at_most : Stmt := top 13
abbrev s_is_entry : Stmt := top 14
abbrev s_is_kept : Stmt := top 15
abbrev s_rate_paper_holds : Stmt := top 16
abbrev s_InvalidRule_init : Stmt := inClass (top 19) 0
abbrev s_InvalidText_init : Stmt := inClass (top 20) 0
abbrev s_is_stuff : Stmt := top 22
abbrev s_are_stuffs : Stmt := top 23
abbrev s_stuff_in : Stmt := top 24
abbrev s_Rule_init : Stmt := inClass (top 25) 0
abbrev s_Rule_read : Stmt := inClass (top 25) 1
abbrev s_Rule_longest : Stmt := inClass (top 25) 2
abbrev s_Rule_swapped : Stmt := inClass (top 25) 3
abbrev s_Rule_put : Stmt := inClass (top 25) 4
abbrev s_Rule_put_in : Stmt := inClass (top 25) 5
abbrev s_Rule_is_endless : Stmt := inClass (top 25) 6
abbrev s_Rule_len : Stmt := inClass (top 25) 7
abbrev s_Rule_iter : Stmt := inClass (top 25) 8
abbrev s_Rule_eq : Stmt := inClass (top 25) 9
abbrev s_Rule_str : Stmt := inClass (top 25) 10
abbrev s_l_seed : Stmt := top 27
abbrev s_l_choose : Stmt := top 28
abbrev s_l_one_of : Stmt := top 29
abbrev s_l_word : Stmt := top 30
abbrev s_l_words : Stmt := top 31
abbrev s_l_put : Stmt := top 32
abbrev s_l_is_rule : Stmt := top 33
abbrev s_l_rule : Stmt := top 34
abbrev s_l_made : Stmt := top 35
abbrev s_l_deep : Stmt := top 36
abbrev s_l_leaf : Stmt := top 37
abbrev s_l_any : Stmt := top 38
abbrev s_l_is_paper : Stmt := top 39
abbrev s_l_is_entry : Stmt := top 40
abbrev s_l_common : Stmt := top 41
abbrev s_law : Stmt := top 42
structure Tx (mg : Str → Option Value) : Prop where
  b_len : mg "len" = none
  b_abs : mg "abs" = none
  b_int : mg "int" = none
  b_range : mg "range" = none
  b_max : mg "max" = none
  b_min : mg "min" = none
  b_enumerate : mg "enumerate" = none
  b_zip : mg "zip" = none
  b_dict : mg "dict" = none
  b_list : mg "list" = none
  b_tuple : mg "tuple" = none
  b_isinstance : mg "isinstance" = none
  b_bool : mg "bool" = none
  b_str : mg "str" = none
  b_all : mg "all" = none
  b_any : mg "any" = none
  b_sum : mg "sum" = none
  b_sorted : mg "sorted" = none
  b_repr : mg "repr" = none
end U
set_option maxRecDepth 100000
set_option maxHeartbeats 4000000
namespace U
open PySem PySem.Spec PyProof.Rows
open L2 hiding Fun CX0 E0 pass0 Fun.binds
open C8 Lx
local macro_rules | `(tactic| walk_at "g") => `(tactic| repeat (first | (refine ⟨_, rfl, ?_⟩) | (refine ⟨_, _, rfl, rfl, ?_⟩) | (refine ⟨rfl, ?_⟩) | (refine .inl ⟨_, rfl, ?_⟩)))
def Box (H : Hp) (b : Addr) : Prop := ∃ x y : Int, H b = some (.lst [.int x, .int y])
def Up (b : Addr) (H H' : Hp) : Prop := (∀ c o, H c = some o → c ≠ b → H' c = some o) ∧ Box H' b
theorem Box.same {b : Addr} {H H' : Hp} (h : Box H b) (y : Same H H') : Box H' b := by obtain ⟨i, j, e⟩ := h; exact ⟨i, j, y _ _ e⟩
theorem Up.refl {b : Addr} {H : Hp} (h : Box H b) : Up b H H := ⟨fun _ _ e _ => e, h⟩
theorem Up.trans {b : Addr} {H H1 H2 : Hp} (x : Up b H H1) (y : Up b H1 H2) : Up b H H2 := ⟨fun c o e n => y.1 c o (x.1 c o e n) n, y.2⟩
theorem Up.same {b : Addr} {H H1 H2 : Hp} (x : Up b H H1) (y : Same H1 H2) : Up b H H2 := ⟨fun c o e n => y c o (x.1 c o e n), x.2.same y⟩
theorem Up.of_same {b : Addr} {H H2 : Hp} (h : Box H b) (y : Same H H2) : Up b H H2 := (Up.refl h).same y
theorem same_upd {H : Hp} {p : Addr} {o : HO} (h : H p = none) : Same H (upd H p o) := fun b x e => by
  rw [upd_ne (ne_of_none e h)]
  exact e
theorem same_mut' {H H1 : Hp} {p : Addr} {o : HO} (s : Same H H1) (n : H p = none) : Same H (upd H1 p o) := fun c u e => by
  rw [upd_ne (ne_of_none e n)]
  exact s _ _ e
theorem Box.ne {H : Hp} {b p : Addr} (h : Box H b) (n : H p = none) : p ≠ b := by
  obtain ⟨i, j, e⟩ := h
  intro z
  rw [z, e] at n
  cases n
theorem Box.neT {H : Hp} {b p : Addr} {xs : List V} (h : Box H b) (n : H p = some (.tup xs)) : p ≠ b := by
  obtain ⟨i, j, e⟩ := h
  intro z
  rw [z, e] at n
  cases n
theorem Up.mut {b : Addr} {H H1 : Hp} {p : Addr} {o : HO} (x : Up b H H1) (h : H p = none) (n : p ≠ b) : Up b H (upd H1 p o) :=
  ⟨fun c u e nc => by rw [upd_ne (ne_of_none e h)]; exact x.1 c u e nc, by obtain ⟨i, j, e⟩ := x.2; exact ⟨i, j, by rw [upd_ne (Ne.symm n)]; exact e⟩⟩
theorem Up.free {b : Addr} {H H1 : Hp} {p : Addr} (x : Up b H H1) (h : H1 p = none) : H p = none := by
  cases e : H p with
  | none => rfl
  | some o =>
    by_cases n : p = b
    · obtain ⟨i, j, e2⟩ := x.2
      rw [n, e2] at h
      cases h
    · rw [x.1 p o e n] at h
      cases h
def NL (H H' : Hp) : Prop := ∀ c o, H c = some o → (∀ xs, o ≠ .lst xs) → H' c = some o
theorem NL.refl (H : Hp) : NL H H := fun _ _ e _ => e
theorem NL.trans {H H1 H2 : Hp} (a : NL H H1) (b : NL H1 H2) : NL H H2 := fun c o e n => b c o (a c o e n) n
theorem NL.of {H H' : Hp} (s : Same H H') : NL H H' := fun c o e _ => s c o e
theorem Up.nl {b : Addr} {H H' : Hp} (hb : Box H b) (u : Up b H H') : NL H H' := fun c o e n => u.1 c o e fun z => by
  obtain ⟨i, j, hb⟩ := hb
  rw [z, hb] at e
  exact n _ (Option.some.inj e).symm
theorem nl_upd {H : Hp} {q : Addr} {xs : List V} {o : HO} (h : H q = some (.lst xs)) : NL H (upd H q o) := fun c u e n => by
  have nq : c ≠ q := fun z => by
    rw [z, h] at e
    exact n _ (Option.some.inj e).symm
  rw [upd_ne nq]
  exact e
theorem NL.tup {H H' : Hp} {a : Addr} {xs : List V} (n : NL H H') (h : H a = some (.tup xs)) : H' a = some (.tup xs) := n _ _ h fun _ z => by cases z
theorem NL.ins {H H' : Hp} {a C dx : Addr} {fs : List (Str × V)} (n : NL H H') (h : H a = some (.ins C dx fs)) : H' a = some (.ins C dx fs) := n _ _ h fun _ z => by cases z
def spSeed (K : PySem.W.Frag) : Sp := fun vs H Q _ => ∃ (a : Addr) (ns : List Int) (k : Nat), vs = [.ref a, .int k] ∧ SqL K H a (ns.map V.int) ∧
  ∀ p H', H p = none → Same H H' → Box H' p → Q (.ref p) H'
def spChoose : Sp := fun vs H Q _ => ∃ (b : Addr) (m : Int), vs = [.ref b, .int m] ∧ Box H b ∧ 0 < m ∧ m < 1073741824 ∧
  ∀ (d : Int) H', 0 ≤ d → d < m → Up b H H' → Q (.int d) H'
def spOneOf : Sp := fun vs H Q _ => ∃ (b l : Addr) (xs : List V), vs = [.ref b, .ref l] ∧ Box H b ∧ H l = some (.lst xs) ∧ l ≠ b ∧ 0 < xs.length ∧ xs.length < 1000 ∧
  ∀ (v : V) H', v ∈ xs → Up b H H' → Q v H'
theorem cell_at {ns : List Int} {k : Int} (h0 : 0 ≤ k) (h1 : k < ns.length) : ∃ z, atI (ns.map V.int) k = some (V.int z) := by
  obtain ⟨j, rfl⟩ := Int.eq_ofNat_of_zero_le h0
  have h2 : j < ns.length := by omega
  exact ⟨ns[j], atI_nat (by simp [h2])⟩
section
variable {P : Program} {w : World} {K : PySem.W.Frag} {mg : Str → Option Value} {base : Heap}
theorem sc_l_choose : FnScope ["_law_box", "_law_many", "_law_digit", "_law_raw"] ["_law_box", "_law_many"] (fnScope s_l_choose) := fnScope_by (by decide +kernel)
theorem cal_l_choose {f : Addr} {fd : FuncData} (F : Def K mg "_law_choose" s_l_choose f fd) (b : Binds K fd ["_law_box", "_law_many"] []) (T : Tx mg) : Cal P w K mg base 1 "_law_choose" spChoose [] := by
  refine cal0 F b .nil sc_l_choose (fun vs H Q E h => ?_) (fun cdv A outer s H vs Q E hr h => ?_)
  · obtain ⟨_, _, rfl, _⟩ := h; rfl
  · obtain ⟨bx, m, rfl, ⟨x, y, hb⟩, m0, m1, k⟩ := h
    refine ⟨_, (pss_cons (ps_if (pt_cmpR op_gt (pe_ix ix_list (pv 0) pe_int (fun _ _ => rfl)) pe_int (nomark _)) (pss_cons (ps_set (i := 2) sc_l_choose.nd rfl (.inl rfl) (pe_op op_mod (pe_callTy call_int1 (by rfl) T.b_int (by decide +kernel) (pa_cons (pe_ix ix_list (pv 0) pe_int (fun _ _ => rfl)) pa_nil)) (pv 1)))
    (pss_cons (ps_asg (pe_op op_fdiv (pe_ix ix_list (pv 0) pe_int (fun _ _ => rfl)) (pv 1)) (pg_sub (pv 0) pe_int set_list))
    (pss_one (ps_ret (pv 2))))) pss_nil)
    (pss_cons (ps_set (i := 3) sc_l_choose.nd rfl (.inl rfl) (pe_op op_mod (pe_callTy call_int1 (by rfl) T.b_int (by decide +kernel) (pa_cons (pe_op op_add (pe_op op_mul (pe_ix ix_list (pv 0) pe_int (fun _ _ => rfl)) pe_int) pe_int) pa_nil)) pe_int))
    (pss_cons (ps_asg (pe_op op_add (pe_op op_mod (pe_callTy call_int1 (by rfl) T.b_int (by decide +kernel) (pa_cons (pe_op op_add (pe_op op_mul (pv 3) pe_int) pe_int) pa_nil)) pe_int) pe_int) (pg_sub (pv 0) pe_int set_list))
    (pss_one (ps_ret (pe_op op_mod (pe_callTy call_int1 (by rfl) T.b_int (by decide +kernel) (pa_cons (pe_op op_fdiv (pe_op op_add (pe_op op_mul (pv 3) pe_int) (pe_ix ix_list (pv 0) pe_int (fun _ _ => rfl))) pe_int) pa_nil)) (pv 1))))))), ?_⟩
    have up : ∀ x' y' : Int, Up bx H (upd H bx (.lst [.int x', .int y'])) := fun x' y' => ⟨fun c o e n => by rw [upd_ne n]; exact e, _, _, upd_same⟩
    refine ⟨_, rfl, bx, _, _, _, rfl, rfl, SqL.of hb, atI_nat (j := 0) rfl, _, _, rfl, rfl, _, rfl, ?_⟩
    refine ite2 (fun h1 => ?_) (fun h1 => ?_)
    · refine ⟨_, rfl, bx, _, _, _, rfl, rfl, SqL.of hb, atI_nat (j := 0) rfl, .inl ⟨_, rfl, _, rfl, _, _, rfl, rfl, m0, ?_⟩⟩
      refine ⟨_, rfl, bx, _, _, _, rfl, rfl, SqL.of hb, atI_nat (j := 0) rfl, _, rfl, _, _, rfl, rfl, ⟨m0, m1⟩, _, rfl, bx, _, _, 0, rfl, rfl, hb, rfl, ?_⟩
      exact ⟨_, rfl, k _ _ (Int.emod_nonneg _ (by omega)) (Int.emod_lt_of_pos _ m0) (up _ _)⟩
    · refine ⟨_, rfl, bx, _, _, _, rfl, rfl, SqL.of hb, atI_nat (j := 1) rfl, _, _, rfl, rfl, .inr ⟨by decide, by decide⟩, _, _, rfl, rfl, .inl ⟨_, rfl, _, _, rfl, rfl, (by show (0 : Int) < 2147483563; decide), ?_⟩⟩
      refine ⟨_, rfl, _, _, rfl, rfl, .inr ⟨by decide, by decide⟩, _, _, rfl, rfl, .inl ⟨_, rfl, _, _, rfl, rfl, (by show (0 : Int) < 2147483629; decide), _, _, rfl, rfl, _, rfl, bx, _, _, 1, rfl, rfl, hb, rfl, ?_⟩⟩
      refine ⟨_, rfl, _, _, rfl, rfl, .inr ⟨by decide, by decide⟩, _, rfl, bx, _, _, _, rfl, rfl, SqL.of upd_same, atI_nat (j := 1) rfl, _, _, rfl, rfl, _, _, rfl, rfl, ⟨by decide, by decide⟩, .inl ⟨_, rfl, _, rfl, _, _, rfl, rfl, m0, ?_⟩⟩
      exact k _ _ (Int.emod_nonneg _ (by omega)) (Int.emod_lt_of_pos _ m0) (up _ _)
theorem sc_l_seed : FnScope ["_law_script", "_law_k", "_law_cell"] ["_law_script", "_law_k"] (fnScope s_l_seed) := fnScope_by (by decide +kernel)
theorem cal_l_seed {f : Addr} {fd : FuncData} (F : Def K mg "_law_seed" s_l_seed f fd) (b : Binds K fd ["_law_script", "_law_k"] []) (T : Tx mg) : Cal P w K mg base 1 "_law_seed" (spSeed K) [] := by
  refine cal0 F b .nil sc_l_seed (fun vs H Q E h => ?_) (fun cdv A outer s H vs Q E hr h => ?_)
  · obtain ⟨_, _, _, rfl, _⟩ := h; rfl
  · obtain ⟨a, ns, n, rfl, hS, k⟩ := h
    refine ⟨_, (pss_cons (ps_set (i := 2) sc_l_seed.nd rfl (.inl rfl) (pe_op op_add (pe_op op_mul pe_int (pv 1)) pe_int))
    (pss_cons (ps_if (pt_cmpR op_lt (pv 1) (pe_callB call_len_seq (by rfl) T.b_len (by decide +kernel) (pa_cons (pv 0) pa_nil)) (nomark _)) (pss_one (ps_set (i := 2) sc_l_seed.nd rfl (.inl rfl) (pe_callB call_abs (by rfl) T.b_abs (by decide +kernel) (pa_cons (pe_ix ix_list (pv 0) (pv 1) (fun _ _ => rfl)) pa_nil)))) (pss_one (ps_if (pt_cmpR op_gt (pe_callB call_len_seq (by rfl) T.b_len (by decide +kernel) (pa_cons (pv 0) pa_nil)) pe_int (nomark _)) (pss_one (ps_set (i := 2) sc_l_seed.nd rfl (.inl rfl) (pe_op op_add (pv 2) (pe_op op_mul (pe_op op_mod (pe_callTy call_int1 (by rfl) T.b_int (by decide +kernel) (pa_cons (pe_callB call_abs (by rfl) T.b_abs (by decide +kernel) (pa_cons (pe_ix ix_list (pv 0) (pe_op op_mod (pe_callTy call_int1 (by rfl) T.b_int (by decide +kernel) (pa_cons (pv 1) pa_nil)) (pe_callB call_len_seq (by rfl) T.b_len (by decide +kernel) (pa_cons (pv 0) pa_nil))) (fun _ _ => rfl)) pa_nil)) pa_nil)) pe_int) pe_int)))) pss_nil)))
    (pss_one (ps_ret (pe_lst (pa_cons (pe_ifExp (pt_cmpR op_ge (pv 2) (pe_op op_pow pe_int pe_int) (nomark _)) (pv 2) pe_int) (pa_cons (pe_op op_add (pe_op op_mod (pe_callTy call_int1 (by rfl) T.b_int (by decide +kernel) (pa_cons (pe_op op_add (pe_op op_mul (pe_op op_mod (pe_callTy call_int1 (by rfl) T.b_int (by decide +kernel) (pa_cons (pv 2) pa_nil)) pe_int) pe_int) (pe_op op_mul pe_int (pv 1))) pa_nil)) pe_int) pe_int) pa_nil))))))), ?_⟩
    have fin : ∀ z : Int, tRet (tLst (tCons (tIf (tTest (tOp (rI0 fun i j => V.bl (decide (j ≤ i))) (tVar 2) (tOp (rI CPow fun i j => V.int (i ^ j.toNat)) (tC (V.int 10)) (tC (V.int 18))))) (tVar 2) (tC (V.int 0))) (tCons (tOp (rI0 fun i j => V.int (i + j)) (tOp (rI (fun _ j => 0 < j) fun i j => V.int (i % j)) (tCB (fun xs H Q => (∃ i, xs = [V.int i] ∧ Q (V.int i) H) ∨ ∃ k, xs = [V.bl k] ∧ Q (V.int (if k = true then 1 else 0)) H) (tCons (tOp (rI0 fun i j => V.int (i + j)) (tOp (rI CMul fun i j => V.int (i * j)) (tOp (rI (fun _ j => 0 < j) fun i j => V.int (i % j)) (tCB (fun xs H Q => (∃ i, xs = [V.int i] ∧ Q (V.int i) H) ∨ ∃ k, xs = [V.bl k] ∧ Q (V.int (if k = true then 1 else 0)) H) (tCons (tVar 2) tNil)) (tC (V.int 2147483629))) (tC (V.int 48271))) (tOp (rI CMul fun i j => V.int (i * j)) (tC (V.int 39019)) (tVar 1))) tNil)) (tC (V.int 2147483629))) (tC (V.int 1))) tNil))) { nx := fun _ H' => Q .non H', rt := Q } [some (.ref a), some (.int n), some (.int z)] H := by
      intro z
      refine ⟨_, rfl, _, _, rfl, rfl, ⟨by decide, by decide, by decide⟩, _, _, rfl, rfl, _, rfl, ?_⟩
      refine ite2 (fun h1 => ?_) (fun h1 => ?_)
      all_goals
        first
          | refine ⟨_, rfl, _, rfl, .inl ⟨_, rfl, _, _, rfl, rfl, (by show (0 : Int) < 2147483629; decide), _, _, rfl, rfl, .inr ⟨by decide, by decide⟩, _, rfl, _, _, rfl, rfl, .inl ⟨by decide, by decide⟩, _, _, rfl, rfl, .inl ⟨_, rfl, _, _, rfl, rfl, (by show (0 : Int) < 2147483629; decide), _, _, rfl, rfl, ?_⟩⟩⟩
          | refine ⟨_, rfl, .inl ⟨_, rfl, _, _, rfl, rfl, (by show (0 : Int) < 2147483629; decide), _, _, rfl, rfl, .inr ⟨by decide, by decide⟩, _, rfl, _, _, rfl, rfl, .inl ⟨by decide, by decide⟩, _, _, rfl, rfl, .inl ⟨_, rfl, _, _, rfl, rfl, (by show (0 : Int) < 2147483629; decide), _, _, rfl, rfl, ?_⟩⟩⟩
        exact ⟨by show 2 ≤ sizeLine; decide, fun p hp => k p _ hp (same_upd hp) ⟨_, _, upd_same⟩⟩
    refine ⟨_, rfl, _, _, rfl, rfl, .inl ⟨by decide, by decide⟩, _, _, rfl, rfl, ?_⟩
    refine ⟨_, rfl, _, rfl, a, _, rfl, .inl hS, _, _, rfl, rfl, _, rfl, ?_⟩
    refine ite2 (fun h1 => ?_) (fun h1 => ?_)
    · have h2 : (n : Int) < ((ns.map V.int).length : Int) := of_decide_eq_true h1
      rw [List.length_map] at h2
      obtain ⟨z, hz⟩ := cell_at (ns := ns) (by omega : (0 : Int) ≤ n) h2
      refine ⟨_, rfl, _, rfl, a, _, _, _, rfl, rfl, hS, hz, _, rfl, ?_⟩
      exact fin _
    · refine ⟨_, rfl, a, _, rfl, .inl hS, _, _, rfl, rfl, _, rfl, ?_⟩
      refine ite2 (fun h3 => ?_) (fun h3 => ?_)
      · have h4 : (0 : Int) < ((ns.map V.int).length : Int) := of_decide_eq_true h3
        have h5 := h4
        rw [List.length_map] at h5
        obtain ⟨z, hz⟩ := cell_at (ns := ns) (k := (n : Int) % ((ns.map V.int).length : Int)) (Int.emod_nonneg _ (by omega)) (by have := Int.emod_lt_of_pos (n : Int) h4; rw [List.length_map] at this ⊢; exact this)
        refine ⟨_, rfl, _, rfl, _, rfl, .inl ⟨_, rfl, _, rfl, a, _, rfl, .inl hS, _, _, rfl, rfl, h4, a, _, _, _, rfl, rfl, hS, hz, _, rfl, .inl ⟨_, rfl, _, _, rfl, rfl, (by show (0 : Int) < 2147483629; decide), _, _, rfl, rfl, .inr ⟨by decide, by decide⟩, _, _, rfl, rfl, ?_⟩⟩⟩
        exact fin _
      · exact fin _
theorem sc_l_one_of : FnScope ["_law_box", "_law_some"] ["_law_box", "_law_some"] (fnScope s_l_one_of) := fnScope_by (by decide +kernel)
theorem cal_l_one_of {f : Addr} {fd : FuncData} (F : Def K mg "_law_one_of" s_l_one_of f fd) (b : Binds K fd ["_law_box", "_law_some"] []) (T : Tx mg) (c_l_choose : Cal P w K mg base 1 "_law_choose" spChoose []) : Cal P w K mg base 2 "_law_one_of" spOneOf [] := by
  refine cal0 F b .nil sc_l_one_of (fun vs H Q E h => ?_) (fun cdv A outer s H vs Q E hr h => ?_)
  · obtain ⟨_, _, _, rfl, _⟩ := h; rfl
  · obtain ⟨bx, l, xs, rfl, hb, hl, nl, x0, x1, k⟩ := h
    refine ⟨_, (pss_one (ps_ret (pe_ix ix_list (pv 1) (pe_c c_l_choose hr (by decide) rfl (pa_cons (pv 0) (pa_cons (pe_callB call_len_seq (by rfl) T.b_len (by decide +kernel) (pa_cons (pv 1) pa_nil)) pa_nil))) (fun _ _ => rfl)))), ?_⟩
    refine ⟨_, rfl, _, rfl, _, rfl, l, _, rfl, .inl (SqL.of hl), bx, _, rfl, hb, by omega, by omega, fun d H' d0 d1 u => ?_⟩
    obtain ⟨j, rfl⟩ := Int.eq_ofNat_of_zero_le d0
    have hj : j < xs.length := by omega
    have g : xs[j]? = some xs[j] := by simp [hj]
    exact ⟨l, xs, _, xs[j], rfl, rfl, SqL.of (u.1 l _ hl nl), atI_nat g, k _ _ (List.getElem_mem hj) u⟩
end
end U
set_option maxRecDepth 100000
set_option maxHeartbeats 4000000
namespace U
open PySem PySem.Spec PyProof.Rows
open L2 hiding Fun CX0 E0 pass0 Fun.binds
open C8 Lx SX
def isW (z : Str) : Bool := z.cps.toList.all fun c => decide (c ∈ ("01" : Str).cps.toList)
theorem isW_W (l : List Bool) : isW (W l) = true := by
  unfold isW
  rw [W_tl, List.all_map, List.all_eq_true]
  intro b _
  cases b <;> decide +kernel
def spIsWord (K : PySem.W.Frag) : Sp := fun vs H Q _ => ∃ x, vs = [x] ∧ ((∃ z : Str, x = .str z ∧ z.length ≤ 100000 ∧ ∀ H', Same H H' → Q (.bl (isW z)) H') ∨
  (∃ t, TyX K H x t ∧ PySem.W.kitOne K t (.type "str") = some false ∧ Q (.bl false) H))
theorem spIsWord.word {K : PySem.W.Frag} {H : Hp} {Q : VK} {E : XK} {l : List Bool} (hl : l.length ≤ 100000) (k : ∀ H', Same H H' → Q (.bl true) H') : spIsWord K [.str (W l)] H Q E :=
  ⟨_, rfl, .inl ⟨_, rfl, by rw [W_len]; exact hl, fun H' s => by rw [isW_W]; exact k H' s⟩⟩
section
variable {P : Program} {w : World} {K : PySem.W.Frag} {mg : Str → Option Value} {base : Heap}
theorem sc_is_word : FnScope ["value", "sign"] ["value"] (fnScope s_is_word) := fnScope_by (by decide +kernel)
theorem cal_is_word {f : Addr} {fd : FuncData} {tB : Tok} (F : Def K mg "is_word" s_is_word f fd) (b : Binds K fd ["value"] []) (T : Tx mg) (g_BITS : mg "BITS" = some (.str "01" tB)) : Cal P w K mg base 1 "is_word" (spIsWord K) [] := by
  refine cal0 F b .nil sc_is_word (fun vs H Q E h => ?_) (fun cdv A outer s H vs Q E hr h => ?_)
  · obtain ⟨_, rfl, _⟩ := h; rfl
  · obtain ⟨_, rfl, h⟩ := h
    refine ⟨_, (pss_one (ps_ret (pe_and (pe_callB call_isi (by rfl) T.b_isinstance (by decide +kernel) (pa_cons (pv 0) (pa_cons (pe_bltn (v := .ty "str") (u := .type "str") (by rfl) T.b_str (by decide +kernel) rfl) pa_nil))) (pe_one (pe_callB (cr_all rfl) (by rfl) T.b_all (by decide +kernel) (pa_cons (pe_lc (own := [("sign", 1)]) (g := gName 1) (by rfl) sc_is_word.nd (pi_str (pv 0)) (blkOk_by (own := [("sign", 1)]) (N := ["value", "sign"]) (sc := fnScope s_is_word) (by decide +kernel)) (fun _ _ _ _ _ => (pg_name (i := 1) sc_is_word.nd rfl (.inl rfl))) (fun _ _ _ _ _ => pts_nil) (fun _ _ _ _ _ => (pe_cmpR op_in_sign (pv 1) (pe_glob (v := .str "01") (by rfl) g_BITS ⟨_, rfl⟩) (by with_unfolding_all rfl)))) pa_nil)))))), ?_⟩
    rcases h with ⟨z, rfl, hz, k⟩ | ⟨t, ht, hk, k⟩
    · refine ⟨_, rfl, _, _, _, _, true, rfl, .ty _, .base (.str z), kit_ty (by decide +kernel), _, rfl, ?_⟩
      refine ⟨_, rfl, z, rfl, fun D nD => ?_⟩
      refine lc_it walk_str (fun i H2 => Same H H2 ∧ H2 D = some (.lst (((z.cps.toList.take i).map fun c => decide (c ∈ ("01" : Str).cps.toList)).map V.bl))) ⟨same_upd nD, upd_same⟩ (fun _ _ _ _ => trivial) ?_ ?_
      · rintro i x H2 H3 hi ⟨s2, hD⟩ ⟨rfl, c, hc, rfl⟩
        refine ⟨rfl, ?_⟩
        refine ⟨_, rfl, c, _, rfl, rfl, _, hD, ?_, ?_, ?_⟩
        · rw [List.length_map, List.length_map, List.length_take]
          have e : z.length = z.cps.toList.length := TL.len_tl z
          exact sl_lt (by have : z.cps.size = z.cps.toList.length := by simp
                          omega)
        · intro c' o e
          rw [upd_ne (ne_of_none e nD)]
          exact s2 _ _ e
        · have hc' : z.cps.toList[i]? = some c := by rw [Array.getElem?_toList]; exact hc
          rw [upd_same, List.take_add_one, hc']
          simp
      · rintro H2 ⟨s2, hD⟩
        have e : z.cps.toList.take z.cps.size = z.cps.toList := List.take_of_length_le (by simp)
        rw [e] at hD
        refine ⟨D, _, rfl, SqL.of hD, ?_⟩
        have e2 : (List.map (fun c => decide (c ∈ ("01" : Str).cps.toList)) z.cps.toList).all id = isW z := by
          unfold isW
          rw [List.all_map]
          rfl
        rw [e2]
        exact k H2 s2
    · exact ⟨_, rfl, _, _, _, _, false, rfl, .ty _, ht, hk, _, rfl, k⟩
end
end U
set_option maxRecDepth 100000
set_option maxHeartbeats 4000000
namespace U
open PySem PySem.Spec PyProof.Rows
open L2 hiding Fun CX0 E0 pass0 Fun.binds
open C8 Lx SX
def AnyS (K : PySem.W.Frag) (H : Hp) (x : V) : Prop := (∃ z : Str, x = .str z ∧ z.length ≤ 10000 ∧ PyData.strOk z = true) ∨ ((∀ z, x ≠ .str z) ∧ ∃ t, PySem.W.kitOne K t (.type "str") = some false ∧ ∀ H', Same H H' → TyX K H' x t)
theorem AnyS.same {K : PySem.W.Frag} {H H' : Hp} {x : V} (h : AnyS K H x) (s : Same H H') : AnyS K H' x := by
  rcases h with h | ⟨h1, t, h2, h3⟩
  · exact .inl h
  · exact .inr ⟨h1, t, h2, fun H2 s2 => h3 H2 (s.trans s2)⟩
def AnyU (K : PySem.W.Frag) (b : Addr) (H : Hp) (x : V) : Prop := ∀ H', Up b H H' → AnyS K H' x
theorem AnyU.up {K : PySem.W.Frag} {b : Addr} {H H' : Hp} {x : V} (h : AnyU K b H x) (u : Up b H H') : AnyU K b H' x := fun H2 u2 => h H2 (u.trans u2)
theorem AnyU.now {K : PySem.W.Frag} {b : Addr} {H : Hp} {x : V} (h : AnyU K b H x) (hb : Box H b) : AnyS K H x := h H (Up.refl hb)
theorem anyS_str {K : PySem.W.Frag} {H : Hp} {z : Str} (h : z.length ≤ 10000) (o : PyData.strOk z = true) : AnyS K H (.str z) := .inl ⟨z, rfl, h, o⟩
theorem anyS_non {K : PySem.W.Frag} {H : Hp} : AnyS K H .non := .inr ⟨(fun _ z => by cases z), _, kit_ty (by decide +kernel), fun _ _ => .base .non⟩
theorem anyS_bl {K : PySem.W.Frag} {H : Hp} (x : Bool) : AnyS K H (.bl x) := .inr ⟨(fun _ z => by cases z), _, kit_ty (by decide +kernel), fun _ _ => .base (.bl x)⟩
theorem anyS_int {K : PySem.W.Frag} {H : Hp} (i : Int) : AnyS K H (.int i) := .inr ⟨(fun _ z => by cases z), _, kit_ty (by decide +kernel), fun _ _ => .base (.int i)⟩
theorem anyS_lst {K : PySem.W.Frag} {H : Hp} {a : Addr} {xs : List V} (e : H a = some (.lst xs)) : AnyS K H (.ref a) := .inr ⟨(fun _ z => by cases z), _, kit_ty (by decide +kernel), fun _ s => .base (.lst (s _ _ e))⟩
theorem anyS_tup {K : PySem.W.Frag} {H : Hp} {a : Addr} {xs : List V} (e : H a = some (.tup xs)) : AnyS K H (.ref a) := .inr ⟨(fun _ z => by cases z), _, kit_ty (by decide +kernel), fun _ s => .base (.tup (s _ _ e))⟩
theorem anyU_str {K : PySem.W.Frag} {b : Addr} {H : Hp} {z : Str} (h : z.length ≤ 10000) (o : PyData.strOk z = true) : AnyU K b H (.str z) := fun _ _ => anyS_str h o
theorem anyU_lst {K : PySem.W.Frag} {b : Addr} {H : Hp} {a : Addr} {xs : List V} (e : H a = some (.lst xs)) (n : a ≠ b) : AnyU K b H (.ref a) := fun _ u => anyS_lst (u.1 _ _ e n)
theorem anyU_tup {K : PySem.W.Frag} {b : Addr} {H : Hp} {a : Addr} {xs : List V} (hb : Box H b) (e : H a = some (.tup xs)) : AnyU K b H (.ref a) := fun _ u => anyS_tup (u.1 _ _ e (hb.neT e))
def wordB : V → Bool
  | .str z => isW z
  | _ => false
theorem AnyS.no {K : PySem.W.Frag} {H : Hp} {x : V} (h : ∀ z, x ≠ .str z) : wordB x = false := by
  unfold wordB
  split
  · exact absurd rfl (h _)
  · rfl
theorem spIsWord.any {K : PySem.W.Frag} {H : Hp} {Q : VK} {E : XK} {x : V} (h : AnyS K H x) (k : ∀ H', Same H H' → Q (.bl (wordB x)) H') : spIsWord K [x] H Q E := by
  rcases h with ⟨z, rfl, hz, _⟩ | ⟨h1, t, h2, h3⟩
  · exact ⟨_, rfl, .inl ⟨z, rfl, by omega, k⟩⟩
  · refine ⟨_, rfl, .inr ⟨t, h3 H (Same.refl H), h2, ?_⟩⟩
    have := k H (Same.refl H)
    rw [AnyS.no (K := K) (H := H) h1] at this
    exact this
def unW (z : Str) : List Bool := z.cps.toList.map fun c => decide (c = 49)
theorem isW_un {z : Str} (h : isW z = true) : z = W (unW z) := by
  refine TL.ext_tl ?_
  have e : TL.tl (W (unW z)) = (unW z).map bt := W_tl _
  rw [e]
  unfold unW
  rw [List.map_map]
  unfold isW at h
  rw [List.all_eq_true] at h
  have e2 : TL.tl z = z.cps.toList := rfl
  rw [e2]
  have key : ∀ l : List Nat, (∀ c ∈ l, decide (c ∈ ("01" : Str).cps.toList) = true) → l = l.map (bt ∘ fun c => decide (c = 49)) := fun l => by
    induction l with
    | nil => intro _; rfl
    | cons c r ih =>
      intro hl
      rw [List.map_cons, ← ih fun u hu => hl u (List.mem_cons_of_mem _ hu)]
      have hc := of_decide_eq_true (hl c List.mem_cons_self)
      have e0 : ("01" : Str).cps.toList = [48, 49] := by decide +kernel
      rw [e0] at hc
      congr 1
      rcases List.mem_cons.mp hc with rfl | hc
      · rfl
      · rw [List.mem_singleton.mp hc]; rfl
  exact key _ h
theorem wordB_W {l : List Bool} : wordB (.str (W l)) = true := isW_W l
theorem wordB_some {x : V} (h : wordB x = true) : ∃ l, x = .str (W l) := by
  unfold wordB at h
  split at h
  · rename_i z
    exact ⟨unW z, by rw [← isW_un h]⟩
  · cases h
end U
set_option maxRecDepth 100000
set_option maxHeartbeats 4000000
namespace Lx
open PySem PySem.Spec PyProof.Rows L2
theorem Sq.of_same {K : PySem.W.Frag} {H H' : Hp} {a : Addr} {xs : List V} (h : Sq K H a xs) (e : Same H H') : Sq K H' a xs := h.same e
theorem iSeq_var {K : PySem.W.Frag} {i : Nat} {σ : L2.St} {H : Hp} {R : It → Hp → Prop} {a : Addr} {xs : List V} (hv : σ[i]? = some (some (.ref a))) (hS : Sq K H a xs)
    (h : ∀ (J : It) (G : Hp → Prop), (∀ H', Same H H' → G H') → Walk J xs.length G (YAt xs) → R J H) : iSeq K (tVar i) σ H R := by
  rcases hS with hS | hS
  · exact .inl ⟨_, hv, a, rfl, ⟨xs, hS⟩, h _ _ (fun H' s => s.seq hS) walk_list⟩
  · exact .inr ⟨_, hv, a, rfl, ⟨xs, hS⟩, h _ _ (fun H' s => same_tup s hS) walk_tup⟩
theorem iEnumQ_var {K : PySem.W.Frag} {i : Nat} {σ : L2.St} {H : Hp} {R : It → Hp → Prop} {a : Addr} {xs : List V} (hv : σ[i]? = some (some (.ref a))) (hS : Sq K H a xs)
    (h : ∀ (J : It) (G : Hp → Prop), (∀ H', Same H H' → G H') → Walk J xs.length G (YPair (fun i => some (.int (i : Nat))) (fun i => xs[i]?)) → R J H) : iEnumQ K (tCons (tVar i) tNil) σ H R := by
  rcases hS with hS | hS
  · exact .inl ⟨_, hv, a, xs, rfl, hS, h _ _ (fun H' s => s.seq hS) walk_enum⟩
  · exact .inr ⟨_, hv, a, xs, rfl, hS, h _ _ (fun H' s => same_tup s hS) walk_enumT⟩
theorem cut_whole {xs : List V} {lo hi : Option Int} (h1 : HT.sIx xs.length 0 lo = 0) (h2 : HT.sIx xs.length xs.length hi = xs.length) : cutV xs lo hi = xs := by
  unfold cutV
  rw [h1, h2, List.drop_zero, Nat.sub_zero, List.take_length]
theorem slQ_of {K : PySem.W.Frag} {H : Hp} {Q : VK} {a : Addr} {xs : List V} {lo hi : Option Int} (hS : Sq K H a xs) (h : ∀ p H', Same H H' → Sq K H' p (cutV xs lo hi) → Q (.ref p) H') : rSlL K (.ref a) lo hi H Q ∨ rSlA K (.ref a) lo hi H Q := by
  rcases hS with hS | hS
  · exact .inl ⟨a, xs, rfl, hS, fun p hp => h p _ (fun b x e => by rw [upd_ne (ne_of_none e hp)]; exact e) (.inl (SqL.of upd_same))⟩
  · refine .inr ⟨a, xs, rfl, hS, fun c => h a H (Same.refl H) ?_, fun _ p hp => h p _ (fun b x e => by rw [upd_ne (ne_of_none e hp)]; exact e) (.inr (SqT.of upd_same))⟩
    rw [cut_whole c.1 c.2]
    exact .inr hS
theorem Sq.star {K : PySem.W.Frag} {H : Hp} {a : Addr} {xs : List V} (h : Sq K H a xs) : SqT K H a xs ∨ SqL K H a xs := h.elim .inr .inl
end Lx
namespace U
open PySem PySem.Spec PyProof.Rows
open L2 hiding Fun CX0 E0 pass0 Fun.binds
open C8 Lx SX StX
theorem W_ends (l p : List Bool) : Txt.endswith (W l) (W p) = p.isSuffixOf l := by
  unfold Txt.endswith
  rw [PySem.StrLaws.subAt_eq, W_len, W_len, W_tl, W_tl, ← List.map_drop, ← List.map_take, Bool.eq_iff_iff, List.isSuffixOf_iff_suffix, Bool.and_eq_true, decide_eq_true_eq, beq_iff_eq]
  constructor
  · rintro ⟨h1, h2⟩
    have h3 := map_bt_inj h2
    rw [List.take_of_length_le (by rw [List.length_drop]; omega)] at h3
    rw [← h3]
    exact List.drop_suffix _ _
  · intro h
    have hl := h.length_le
    refine ⟨by omega, ?_⟩
    rw [List.take_of_length_le (by rw [List.length_drop]; omega), ← List.suffix_iff_eq_drop.mp h]
theorem W_tail (l : List Bool) (n : Nat) : Txt.slice (W l) (some (if (((W l).length : Nat) : Int) - (n : Int) > 0 then (((W l).length : Nat) : Int) - (n : Int) else 0)) none = W (tl n l) := by
  rw [W_drop (by split <;> omega)]
  congr 1
  unfold tl
  rw [W_len]
  congr 1
  split <;> omega
def StV (H : Hp) (kb : Addr → Stf) (ps : List Addr) : Prop := ∀ t ∈ ps, H t = some (.tup [.str (W (kb t).1), .str (W [(kb t).2])])
theorem StV.same {H H' : Hp} {kb : Addr → Stf} {ps : List Addr} (h : StV H kb ps) (e : Same H H') : StV H' kb ps := fun t ht => e _ _ (h t ht)
theorem StV.nl {H H' : Hp} {kb : Addr → Stf} {ps : List Addr} (h : StV H kb ps) (e : NL H H') : StV H' kb ps := fun t ht => e.tup (h t ht)
theorem StV.perm {H : Hp} {kb : Addr → Stf} {ps qs : List Addr} (h : StV H kb ps) (p : qs.Perm ps) : StV H kb qs := fun t ht => h t (p.mem_iff.mp ht)
def ruF (f : List Bool) (t : Addr) : List (Str × V) := putF "stuffs" (.ref t) (putF "flag" (.str (W f)) [])
theorem fs_ne : ¬ (("flag" : Str) = "stuffs") := by decide +kernel
theorem ruF_flag (f : List Bool) (t : Addr) : (ruF f t).lookup ("flag" : Str) = some (.str (W f)) := by
  unfold ruF
  rw [lookup_putF, if_neg fs_ne, lookup_putF, if_pos rfl]
theorem ruF_stuffs (f : List Bool) (t : Addr) : (ruF f t).lookup ("stuffs" : Str) = some (.ref t) := by
  unfold ruF
  rw [lookup_putF, if_pos rfl]
theorem ruF_no (f : List Bool) (t : Addr) {m : Str} (h1 : ¬ m = "stuffs") (h2 : ¬ m = "flag") : (ruF f t).lookup m = none := by
  unfold ruF
  rw [lookup_putF, if_neg h1, lookup_putF, if_neg h2]
  all_goals rfl
def RuAt (C : Addr) (H : Hp) (a : Addr) (f : List Bool) (ss : List Stf) : Prop :=
  ∃ dx t ps kb, H a = some (.ins C dx (ruF f t)) ∧ H t = some (.tup (ps.map V.ref)) ∧ StV H kb ps ∧ ss = ps.map kb
theorem RuAt.same {C : Addr} {H H' : Hp} {a : Addr} {f : List Bool} {ss : List Stf} (h : RuAt C H a f ss) (e : Same H H') : RuAt C H' a f ss := by
  obtain ⟨dx, t, ps, kb, h1, h2, h3, h4⟩ := h
  exact ⟨dx, t, ps, kb, e _ _ h1, e _ _ h2, h3.same e, h4⟩
theorem RuAt.nl {C : Addr} {H H' : Hp} {a : Addr} {f : List Bool} {ss : List Stf} (h : RuAt C H a f ss) (e : NL H H') : RuAt C H' a f ss := by
  obtain ⟨dx, t, ps, kb, h1, h2, h3, h4⟩ := h
  exact ⟨dx, t, ps, kb, e.ins h1, e.tup h2, h3.nl e, h4⟩
def longM (ss : List Stf) : Nat := ss.foldr (fun s m => max s.1.length m) 0
theorem longM_le : ∀ {ss : List Stf} {s : Stf}, s ∈ ss → s.1.length ≤ longM ss
  | x :: r, s, h => by
    show s.1.length ≤ max x.1.length (longM r)
    rcases List.mem_cons.mp h with e | h
    · rw [e]; omega
    · have := longM_le h; omega
theorem longM_max : ∀ {ss : List Stf} {n : Nat}, (∀ s ∈ ss, s.1.length ≤ n) → longM ss ≤ n
  | [], _, _ => Nat.zero_le _
  | x :: r, n, h => by
    have := longM_max (ss := r) fun s hs => h s (List.mem_cons_of_mem _ hs)
    have := h x List.mem_cons_self
    show max x.1.length (longM r) ≤ n
    omega
theorem longM_perm {ss ts : List Stf} (p : ss.Perm ts) : longM ss = longM ts :=
  Nat.le_antisymm (longM_max fun s hs => longM_le (p.mem_iff.mp hs)) (longM_max fun s hs => longM_le (p.mem_iff.mpr hs))
theorem longM_is {ss : List Stf} {m : Int} (hm : m ∈ (0 : Int) :: ss.map fun s => (s.1.length : Int)) (hx : ∀ y ∈ (0 : Int) :: ss.map fun s => (s.1.length : Int), y ≤ m) : m = (longM ss : Nat) := by
  have h0 := hx 0 List.mem_cons_self
  have h1 : longM ss ≤ m.toNat := longM_max fun s hs => by
    have := hx _ (List.mem_cons_of_mem _ (List.mem_map_of_mem (f := fun s : Stf => (s.1.length : Int)) hs))
    omega
  rcases List.mem_cons.mp hm with e | h
  · omega
  · obtain ⟨s, hs, rfl⟩ := List.mem_map.mp h
    have := longM_le hs
    omega
def oB : Option Bool → V
  | none => .non
  | some b => .str (W [b])
theorem oB_non (o : Option Bool) : decide (oB o = .non) = o.isNone := by
  cases o with
  | none => exact decide_eq_true rfl
  | some b => exact decide_eq_false (fun z => by cases z)
structure RuT (K : PySem.W.Frag) (C : Addr) : Prop where
  cl : Cls K C
  nF : NoAttr K C "flag"
  nS : NoAttr K C "stuffs"
def spIsSeq (K : PySem.W.Frag) : Sp := fun vs H Q _ => ∃ a xs, vs = [.ref a] ∧ Sq K H a xs ∧ ∀ H', Same H H' → Q (.bl true) H'
def spIsBit : Sp := fun vs H Q _ => ∃ b, vs = [.str (W [b])] ∧ ∀ H', Same H H' → Q (.bl true) H'
def spIsStuff : Sp := fun vs H Q _ => ∃ (t : Addr) (p : List Bool) (b : Bool), vs = [.ref t] ∧ H t = some (.tup [.str (W p), .str (W [b])]) ∧ p ≠ [] ∧ p.length ≤ 1000 ∧ ∀ H', Same H H' → Q (.bl true) H'
def spTail : Sp := fun vs H Q _ => ∃ (l : List Bool) (n : Nat), vs = [.str (W l), .int n] ∧ l.length ≤ 100000 ∧ Q (.str (W (tl n l))) H
def spLongest (C : Addr) : Sp := fun vs H Q _ => ∃ (a : Addr) (f : List Bool) (ss : List Stf), vs = [.ref a] ∧ RuAt C H a f ss ∧ ss.length ≤ 1000 ∧ (∀ s ∈ ss, s.1.length ≤ 1000) ∧ ∀ H', Same H H' → Q (.int (longM ss : Nat)) H'
def spPut (C : Addr) : Sp := fun vs H Q _ => ∃ (a : Addr) (f : List Bool) (ss : List Stf) (l : List Bool), vs = [.ref a, .str (W l)] ∧ RuAt C H a f ss ∧ ∀ H', Same H H' → Q (oB (putM ss l)) H'
section
variable {P : Program} {w : World} {K : PySem.W.Frag} {mg : Str → Option Value} {base : Heap}
theorem sc_is_sequence : FnScope ["value"] ["value"] (fnScope s_is_sequence) := fnScope_by (by decide +kernel)
theorem cal_is_sequence {f : Addr} {fd : FuncData} (F : Def K mg "is_sequence" s_is_sequence f fd) (b : Binds K fd ["value"] []) (T : Tx mg) : Cal P w K mg base 1 "is_sequence" (spIsSeq K) [] := by
  refine cal0 F b .nil sc_is_sequence (fun vs H Q E h => ?_) (fun cdv A outer s H vs Q E hr h => ?_)
  · obtain ⟨_, _, rfl, _⟩ := h; rfl
  · obtain ⟨a, xs, rfl, hS, k⟩ := h
    refine ⟨_, (pss_one (ps_ret (pe_callB call_isiT (by rfl) T.b_isinstance (by decide +kernel) (pa_cons (pv 0) (pa_cons (pe_tup (pa_cons (pe_bltn (v := .ty "list") (u := .type "list") (by rfl) T.b_list (by decide +kernel) rfl) (pa_cons (pe_bltn (v := .ty "tuple") (u := .type "tuple") (by rfl) T.b_tuple (by decide +kernel) rfl) pa_nil))) pa_nil))))), ?_⟩
    refine ⟨_, rfl, by show 2 ≤ sizeLine; decide, fun tp htp => ?_⟩
    have hS' := hS.same (same_upd (o := .tup [.ty "list", .ty "tuple"]) htp)
    rcases hS' with hS' | hS'
    · exact ⟨_, tp, _, _, _, true, rfl, upd_same, .cons (.ty _) (.cons (.ty _) .nil), ty_list hS', by first | exact kit_any (by decide +kernel) | rfl | decide +kernel, k _ (same_upd htp)⟩
    · exact ⟨_, tp, _, _, _, true, rfl, upd_same, .cons (.ty _) (.cons (.ty _) .nil), ty_tup hS', by first | exact kit_any (by decide +kernel) | rfl | decide +kernel, k _ (same_upd htp)⟩
theorem sc_is_bit : FnScope ["value"] ["value"] (fnScope s_is_bit) := fnScope_by (by decide +kernel)
theorem cal_is_bit {f : Addr} {fd : FuncData} (F : Def K mg "is_bit" s_is_bit f fd) (b : Binds K fd ["value"] []) (T : Tx mg) (c_is_word : Cal P w K mg base 1 "is_word" (spIsWord K) []) : Cal P w K mg base 2 "is_bit" spIsBit [] := by
  refine cal0 F b .nil sc_is_bit (fun vs H Q E h => ?_) (fun cdv A outer s H vs Q E hr h => ?_)
  · obtain ⟨_, rfl, _⟩ := h; rfl
  · obtain ⟨x, rfl, k⟩ := h
    refine ⟨_, (pss_one (ps_ret (pe_and (pe_c c_is_word hr (by decide) rfl (pa_cons (pv 0) pa_nil)) (pe_one (pe_cmpR op_eq (pe_callB call_len_str (by rfl) T.b_len (by decide +kernel) (pa_cons (pv 0) pa_nil)) pe_int (nomark _)))))), ?_⟩
    have l1 : (W [x]).length = 1 := W_len _
    refine ⟨_, rfl, _, rfl, .inl ⟨_, rfl, by rw [l1]; decide, fun H1 s1 => ⟨_, rfl, iteBT (isW_W _) ?_⟩⟩⟩
    refine ⟨_, rfl, _, rfl, by rw [l1]; decide, ?_⟩
    rw [l1]
    exact ⟨rfl, q_dec (Q := Q) rfl (k H1 s1)⟩
theorem sc_is_stuff : FnScope ["value"] ["value"] (fnScope s_is_stuff) := fnScope_by (by decide +kernel)
theorem cal_is_stuff {f : Addr} {fd : FuncData} (F : Def K mg "is_stuff" s_is_stuff f fd) (b : Binds K fd ["value"] []) (T : Tx mg) (c_is_word : Cal P w K mg base 1 "is_word" (spIsWord K) []) (c_is_bit : Cal P w K mg base 2 "is_bit" spIsBit []) : Cal P w K mg base 3 "is_stuff" spIsStuff [] := by
  refine cal0 F b .nil sc_is_stuff (fun vs H Q E h => ?_) (fun cdv A outer s H vs Q E hr h => ?_)
  · obtain ⟨_, _, _, rfl, _⟩ := h; rfl
  · obtain ⟨t, p, x, rfl, ht, hp, hl, k⟩ := h
    refine ⟨_, (pss_cons (ps_if (PW.pt (pw_or (pt_not (pt_val (pe_callB call_isi (by rfl) T.b_isinstance (by decide +kernel) (pa_cons (pv 0) (pa_cons (pe_bltn (v := .ty "tuple") (u := .type "tuple") (by rfl) T.b_tuple (by decide +kernel) rfl) pa_nil))))) (pw_or1 (pt_cmpR op_ne (pe_callB call_len_seq (by rfl) T.b_len (by decide +kernel) (pa_cons (pv 0) pa_nil)) pe_int (nomark _))))) (pss_one (ps_ret pe_bl)) pss_nil)
    (pss_one (ps_ret (pe_and (pe_c c_is_word hr (by decide) rfl (pa_cons (pe_ix ix_tup (pv 0) pe_int (fun _ _ => rfl)) pa_nil)) (pe_and (pe_cmpR op_gt (pe_callB call_len_str (by rfl) T.b_len (by decide +kernel) (pa_cons (pe_ix ix_tup (pv 0) pe_int (fun _ _ => rfl)) pa_nil)) pe_int (nomark _)) (pe_one (pe_c c_is_bit hr (by decide) rfl (pa_cons (pe_ix ix_tup (pv 0) pe_int (fun _ _ => rfl)) pa_nil)))))))), ?_⟩
    have lp : (W p).length ≤ sizeLine := by rw [W_len]; exact sl_len (by omega)
    refine ⟨_, rfl, _, _, _, _, true, rfl, .ty _, .base (.tup ht), kit_ty (by decide +kernel), _, rfl, ?_⟩
    refine ⟨_, rfl, t, _, rfl, .inr (SqT.of ht), rfl, _, rfl, iteNS rfl ?_⟩
    refine ⟨_, rfl, t, _, 0, _, rfl, rfl, SqT.of ht, rfl, _, rfl, .inl ⟨_, rfl, by rw [W_len]; omega, fun H1 s1 => ⟨_, rfl, iteBT (isW_W _) ?_⟩⟩⟩
    have ht1 := s1 _ _ ht
    refine ⟨_, rfl, t, _, 0, _, rfl, rfl, SqT.of ht1, rfl, _, rfl, lp, ?_⟩
    refine ⟨_, _, rfl, rfl, _, rfl, iteDT ?_ ?_⟩
    · rw [W_len]
      have : p.length ≠ 0 := fun z => hp (List.length_eq_zero_iff.mp z)
      omega
    · refine ⟨_, rfl, t, _, 1, _, rfl, rfl, SqT.of ht1, rfl, x, rfl, fun H2 s2 => k H2 (s1.trans s2)⟩
theorem sc_tail : FnScope ["line", "size"] ["line", "size"] (fnScope s_tail) := fnScope_by (by decide +kernel)
theorem cal_tail {f : Addr} {fd : FuncData} (F : Def K mg "tail" s_tail f fd) (b : Binds K fd ["line", "size"] []) (T : Tx mg) : Cal P w K mg base 1 "tail" spTail [] := by
  refine cal0 F b .nil sc_tail (fun vs H Q E h => ?_) (fun cdv A outer s H vs Q E hr h => ?_)
  · obtain ⟨_, _, rfl, _⟩ := h; rfl
  · obtain ⟨l, n, rfl, hl, k⟩ := h
    refine ⟨_, (pss_one (ps_ret (pe_slice sl_txt (pv 0) (po_some (pe_callB (call_max2 rfl) (by rfl) T.b_max (by decide +kernel) (pa_cons pe_int (pa_cons (pe_op op_sub (pe_callB call_len_str (by rfl) T.b_len (by decide +kernel) (pa_cons (pv 0) pa_nil)) (pv 1)) pa_nil)))) po_none))), ?_⟩
    have lw : (W l).length ≤ sizeLine := by rw [W_len]; exact sl_len (by omega)
    refine ⟨_, rfl, _, rfl, _, rfl, lw, _, rfl, _, _, rfl, rfl, _, _, rfl, _, rfl, _, rfl, lw, ?_⟩
    rw [W_tail]
    exact k
theorem sc_Rule_longest : FnScope ["self", "pattern", "bit"] ["self"] (fnScope s_Rule_longest) := fnScope_by (by decide +kernel)
theorem ok_longest {f C : Addr} {fd : FuncData} (F : C8.Fun K "longest" "Rule.longest" s_Rule_longest f fd) (T : Tx mg) (RT : RuT K C) : FnOk P w K mg base CX0 1 f fd ["self"] (spLongest C) := by
  refine fn0 F sc_Rule_longest (fun vs H Q E h => ?_) (fun cdv A outer s H vs Q E hr h => ?_)
  · obtain ⟨_, _, _, rfl, _⟩ := h; rfl
  · obtain ⟨a, fl, ss, rfl, ⟨dx, t, ps, kb, ha, ht, hs, rfl⟩, hn, hl, k⟩ := h
    refine ⟨_, (pss_one (ps_ret (pe_callB (cr_max rfl) (by rfl) T.b_max (by decide +kernel) (pa_cons (pe_lst (pa_cons pe_int (pa_star (pe_lc (own := [("pattern", 1), ("bit", 2)]) (g := gTup K 2 (gCons (gName 1) (gCons (gName 2) gNil))) (by rfl) sc_Rule_longest.nd (pi_tup (pe_fld (pv 0) rfl)) (blkOk_by (own := [("pattern", 1), ("bit", 2)]) (N := ["self", "pattern", "bit"]) (sc := fnScope s_Rule_longest) (by decide +kernel)) (fun _ _ _ _ _ => (pg_tup rfl (pgs_cons (pg_name (i := 1) sc_Rule_longest.nd rfl (.inl rfl)) (pgs_cons (pg_name (i := 2) sc_Rule_longest.nd rfl (.inl rfl)) pgs_nil)))) (fun _ _ _ _ _ => pts_nil) (fun _ _ _ _ _ => (pe_callB call_len_str (by rfl) T.b_len (by decide +kernel) (pa_cons (pv 1) pa_nil)))) pa_nil))) pa_nil)))), ?_⟩
    refine ⟨_, rfl, a, C, dx, _, _, rfl, ha, RT.cl, RT.nS, ruF_stuffs _ _, t, rfl, ⟨_, SqT.of ht⟩, fun D nD => ?_⟩
    refine lc_it (walk_tup (xs := ps.map V.ref)) (fun i H2 => Same H H2 ∧ H2 D = some (.lst ((((ps.take i).map kb).map fun s => (s.1.length : Int)).map V.int))) ⟨same_upd nD, upd_same⟩ (fun i H2 _ h2 => SqT.of (h2.1 _ _ ht)) ?_ ?_
    · rintro i x H2 H3 hi ⟨s2, hD⟩ ⟨rfl, hx⟩
      rw [List.getElem?_map] at hx
      obtain ⟨q, hq, rfl⟩ := Option.map_eq_some_iff.mp hx
      have hqm : q ∈ ps := List.mem_of_getElem? hq
      have lq : (kb q).1.length ≤ 1000 := hl _ (List.mem_map_of_mem hqm)
      refine ⟨q, _, rfl, SqT.of (s2 _ _ (hs q hqm)), rfl, ?_⟩
      refine ⟨_, _, rfl, _, _, rfl, rfl, rfl, ?_⟩
      refine ⟨_, rfl, _, rfl, by rw [W_len]; exact sl_len (by omega), _, hD, ?_, ?_, ?_⟩
      · rw [List.length_map] at hi
        rw [List.length_map, List.length_map, List.length_map, List.length_take]
        rw [List.length_map] at hn
        exact sl_lt (by omega)
      · intro c' o e
        rw [upd_ne (ne_of_none e nD)]
        exact s2 _ _ e
      · rw [upd_same, List.take_add_one, hq, W_len]
        simp
    · rintro H2 ⟨s2, hD⟩
      rw [List.length_map, List.take_length] at hD
      refine ⟨D, _, rfl, .inr (SqL.of hD), ?_⟩
      have hn' : ps.length ≤ 1000 := by rw [List.length_map] at hn; exact hn
      refine ⟨?_, fun p hp => ?_⟩
      · simp only [List.length_cons, List.length_append, List.length_map, List.length_nil]
        exact sl_len (by omega)
      · refine ⟨p, (0 : Int) :: (ps.map kb).map fun s => (s.1.length : Int), rfl, ?_, by rw [List.length_cons]; omega, fun m hm hx => ?_⟩
        · refine SqL.of (upd_same.trans ?_)
          simp
        · rw [longM_is hm hx]
          exact k _ (s2.trans (same_upd hp))
theorem sc_Rule_put : FnScope ["self", "line", "pattern", "bit"] ["self", "line"] (fnScope s_Rule_put) := fnScope_by (by decide +kernel)
theorem met_put {f C : Addr} {fd : FuncData} (F : C8.Fun K "put" "Rule.put" s_Rule_put f fd) (me : Meth K C "put" f) (b : Binds K fd ["self", "line"] []) (T : Tx mg) (RT : RuT K C) : Met P w K mg base 1 C "put" (spPut C) [] := by
  refine met0 RT.cl me F b sc_Rule_put (fun vs H Q E h => ?_) (fun cdv A outer s H vs Q E hr h => ?_)
  · obtain ⟨_, _, _, _, rfl, _⟩ := h; rfl
  · obtain ⟨a, fl, ss, l, rfl, ⟨dx, t, ps, kb, ha, ht, hs, rfl⟩, k⟩ := h
    refine ⟨_, (pss_cons (ps_for PassesOwn.never rfl (pi_tup (pe_fld (pv 0) rfl)) (pg_tup rfl (pgs_cons (pg_name (i := 2) sc_Rule_put.nd rfl (.inl rfl)) (pgs_cons (pg_name (i := 3) sc_Rule_put.nd rfl (.inl rfl)) pgs_nil)))
    (pss_one (ps_if (pt_val (pe_m1 PySem.F.slot_str_endswith PySem.F.type_str_endswith mt_endswith (pv 1) (pv 2))) (pss_one (ps_ret (pv 3))) pss_nil)))
    (pss_one (ps_ret pe_non))), ?_⟩
    refine ⟨_, rfl, a, C, dx, _, _, rfl, ha, RT.cl, RT.nS, ruF_stuffs _ _, t, rfl, ⟨_, SqT.of ht⟩, ?_⟩
    refine for_it (walk_tup (xs := ps.map V.ref)) (fun i σ H2 => ∃ v2 v3 : Option V, σ = [some (.ref a), some (.str (W l)), v2, v3] ∧ H2 = H ∧ ∀ j q, j < i → ps[j]? = some q → (kb q).1.isSuffixOf l = false) ⟨none, none, rfl, rfl, fun j q hj => absurd hj (Nat.not_lt_zero _)⟩ (fun i σ H2 _ h2 => by obtain ⟨_, _, _, rfl, _⟩ := h2; exact SqT.of ht) ?_ ?_
    · rintro i x σ H2 H3 hi ⟨v2, v3, rfl, rfl, hno⟩ ⟨rfl, hx⟩
      rw [List.getElem?_map] at hx
      obtain ⟨q, hq, rfl⟩ := Option.map_eq_some_iff.mp hx
      have hqm : q ∈ ps := List.mem_of_getElem? hq
      refine ⟨q, _, rfl, SqT.of (hs q hqm), rfl, ?_⟩
      refine ⟨_, _, rfl, _, _, rfl, rfl, ?_⟩
      refine ⟨_, rfl, ⟨_, rfl⟩, _, rfl, _, _, rfl, rfl, _, rfl, ?_⟩
      rw [W_ends]
      cases e : (kb q).1.isSuffixOf l with
      | true =>
        refine ⟨_, rfl, ?_⟩
        have ep : putM (ps.map kb) l = some (kb q).2 := by
          have hf : (ps.map kb).find? (fun s => s.1.isSuffixOf l) = some (kb q) := by
            rw [List.find?_eq_some_iff_getElem]
            have hi' := (List.getElem?_eq_some_iff.mp hq)
            obtain ⟨hi1, hi2⟩ := hi'
            refine ⟨e, i, by rw [List.length_map]; exact hi1, by rw [List.getElem_map, hi2], fun j hj => ?_⟩
            rw [List.getElem_map]
            have := hno j ps[j] hj (List.getElem?_eq_getElem _)
            rw [this]
            rfl
          unfold putM
          rw [hf]
          rfl
        have := k _ (Same.refl _)
        rw [ep] at this
        exact this
      | false =>
        refine ⟨_, _, rfl, rfl, fun j q' hj hq' => ?_⟩
        by_cases ej : j = i
        · subst ej
          rw [hq] at hq'
          cases hq'
          exact e
        · exact hno j q' (by omega) hq'
    · rintro σ H2 ⟨v2, v3, rfl, rfl, hno⟩
      have ep : putM (ps.map kb) l = none := by
        have hf : (ps.map kb).find? (fun s => s.1.isSuffixOf l) = none := by
          rw [List.find?_eq_none]
          intro s hs'
          obtain ⟨q, hq, rfl⟩ := List.mem_map.mp hs'
          obtain ⟨j, hj⟩ := List.getElem?_of_mem hq
          have := hno j q (by rw [List.length_map]; exact (List.getElem?_eq_some_iff.mp hj).1) hj
          rw [this]
          decide
        unfold putM
        rw [hf]
        rfl
      have := k _ (Same.refl _)
      rw [ep] at this
      exact this
end
end U
set_option maxRecDepth 100000
set_option maxHeartbeats 4000000
namespace U
open PySem PySem.Spec PyProof.Rows
open L2 hiding Fun CX0 E0 pass0 Fun.binds
open C8 Lx SX StX
theorem sf_at {ps : List Addr} {kb : Addr → Stf} {i : Nat} {q : Addr} (h : SufFree (ps.map kb)) (hq : ps[i]? = some q) : ∀ q' ∈ ps.take i ++ ps.drop (i + 1), ¬ (kb q').1 <:+ (kb q).1 := by
  obtain ⟨hi, rfl⟩ := List.getElem?_eq_some_iff.mp hq
  have e : ps = ps.take i ++ ps[i] :: ps.drop (i + 1) := by rw [← List.drop_eq_getElem_cons hi, List.take_append_drop]
  unfold SufFree at h
  rw [List.pairwise_map] at h
  generalize ps.take i = A at e ⊢
  generalize ps.drop (i + 1) = B at e ⊢
  generalize ps[i] = q at e ⊢
  rw [e, List.pairwise_append, List.pairwise_cons] at h
  obtain ⟨_, ⟨h2, _⟩, h3⟩ := h
  intro q' hq'
  rcases List.mem_append.mp hq' with m | m
  · exact (h3 q' m q List.mem_cons_self).1
  · exact (h2 q' m).2
theorem cut_to {xs : List V} {i : Nat} (h : i < xs.length) : cutV xs none (some (i : Int)) = xs.take i := by
  unfold cutV
  rw [HT.sIx_none, HT.sIx_nat, List.drop_zero, Nat.sub_zero, Nat.min_eq_left (Nat.le_of_lt h)]
theorem cut_from {xs : List V} {i : Nat} (h : i < xs.length) : cutV xs (some ((i : Int) + 1)) none = xs.drop (i + 1) := by
  unfold cutV
  rw [HT.sIx_none, show ((i : Int) + 1) = ((i + 1 : Nat) : Int) by omega, HT.sIx_nat, Nat.min_eq_left (by omega), List.take_of_length_le (by rw [List.length_drop]; omega)]
structure StOk (ss : List Stf) : Prop where
  few : ss.length ≤ 1000
  pos : ∀ s ∈ ss, s.1 ≠ []
  long : longM ss ≤ 9
  free : SufFree ss
theorem StOk.l9 {ss : List Stf} (h : StOk ss) : ∀ s ∈ ss, s.1.length ≤ 9 := fun s hs => Nat.le_trans (longM_le hs) h.long
theorem StOk.perm {ss ts : List Stf} (h : StOk ss) (p : ss.Perm ts) : StOk ts := ⟨by rw [← p.length_eq]; exact h.few, fun s hs => h.pos s (p.mem_iff.mpr hs), by rw [← longM_perm p]; exact h.long, h.free.perm p⟩
def spAre (K : PySem.W.Frag) : Sp := fun vs H Q _ => ∃ (a : Addr) (ps : List Addr) (kb : Addr → Stf), vs = [.ref a] ∧ Sq K H a (ps.map V.ref) ∧ StV H kb ps ∧ StOk (ps.map kb) ∧ ∀ H', Same H H' → Q (.bl true) H'
def spPutIn (C : Addr) : Sp := fun vs H Q _ => ∃ (a : Addr) (f : List Bool) (ss : List Stf) (l x : List Bool), vs = [.ref a, .str (W l)] ∧ RuAt C H a f ss ∧ ss.length ≤ 1000 ∧ longM ss ≤ 9 ∧ l.length ≤ 50000 ∧ Ins ss l x ∧ ∀ H', Same H H' → Q (.str (W x)) H'
def spEndless (C : Addr) : Sp := fun vs H Q _ => ∃ (a : Addr) (f : List Bool) (ss : List Stf), vs = [.ref a] ∧ RuAt C H a f ss ∧ ss.length ≤ 1000 ∧ longM ss ≤ 9 ∧ OkR ss ∧ ∀ H', Same H H' → Q (.bl false) H'
def kst (ws : List (List Bool)) : List (Key × V) := ws.map fun w => (Sum.inr (W w), V.bl true)
theorem val_in {ws : List (List Bool)} {w : List Bool} (h : w ∈ ws) : valV (kst ws) (Sum.inr (W w)) = some (.bl true) := by
  unfold valV kst
  induction ws with
  | nil => cases h
  | cons x r ih =>
    rw [List.map_cons, List.find?_cons]
    by_cases e : x = w
    · rw [e, decide_eq_true rfl]; rfl
    · rw [decide_eq_false (fun z => e (W_inj (Sum.inr.inj z)))]
      rcases List.mem_cons.mp h with z | h
      · exact absurd z.symm e
      · exact ih h
theorem val_out {ws : List (List Bool)} {w : List Bool} (h : ¬ w ∈ ws) : valV (kst ws) (Sum.inr (W w)) = none := by
  unfold valV kst
  have : (ws.map fun w => ((Sum.inr (W w) : Key), V.bl true)).find? (fun kv => decide (kv.1 = Sum.inr (W w))) = none := by
    rw [List.find?_eq_none]
    intro kv hk
    obtain ⟨x, hx, rfl⟩ := List.mem_map.mp hk
    rw [decide_eq_true_eq]
    intro z
    exact h (W_inj (Sum.inr.inj z) ▸ hx)
  rw [this]
  rfl
theorem put_out {ws : List (List Bool)} {w : List Bool} (h : ¬ w ∈ ws) : putK (kst ws) (Sum.inr (W w)) (.bl true) = kst (ws ++ [w]) := by
  have e : ((kst ws).any fun kv => decide (kv.1 = Sum.inr (W w))) = false := by
    rw [List.any_eq_false]
    intro kv hk
    unfold kst at hk
    obtain ⟨x, hx, rfl⟩ := List.mem_map.mp hk
    rw [decide_eq_true_eq]
    intro z
    exact h (W_inj (Sum.inr.inj z) ▸ hx)
  unfold putK
  rw [e]
  unfold kst
  rw [List.map_append]
  rfl
section
variable {P : Program} {w : World} {K : PySem.W.Frag} {mg : Str → Option Value} {base : Heap}
theorem sc_are_stuffs : FnScope ["value", "one", "at", "stuff", "rest", "pattern", "bit"] ["value"] (fnScope s_are_stuffs) := fnScope_by (by decide +kernel)
theorem cal_are_stuffs {f : Addr} {fd : FuncData} (F : Def K mg "are_stuffs" s_are_stuffs f fd) (b : Binds K fd ["value"] []) (T : Tx mg) (c_is_sequence : Cal P w K mg base 1 "is_sequence" (spIsSeq K) []) (c_is_stuff : Cal P w K mg base 3 "is_stuff" spIsStuff []) : Cal P w K mg base 4 "are_stuffs" (spAre K) [] := by
  refine cal0 F b .nil sc_are_stuffs (fun vs H Q E h => ?_) (fun cdv A outer s H vs Q E hr h => ?_)
  · obtain ⟨_, _, _, rfl, _⟩ := h; rfl
  · obtain ⟨a, ps, kb, rfl, hS, hs, ok, k⟩ := h
    refine ⟨_, (pss_cons (ps_if (PW.pt (pw_or (pt_not (pt_val (pe_c c_is_sequence hr (by decide) rfl (pa_cons (pv 0) pa_nil)))) (pw_or1 (pt_not (pt_val (pe_callB (cr_all rfl) (by rfl) T.b_all (by decide +kernel) (pa_cons (pe_lc (own := [("one", 1)]) (g := gName 1) (by rfl) sc_are_stuffs.nd (pi_seq (pv 0)) (blkOk_by (own := [("one", 1)]) (N := ["value", "one", "at", "stuff", "rest", "pattern", "bit"]) (sc := fnScope s_are_stuffs) (by decide +kernel)) (fun _ _ _ _ _ => (pg_name (i := 1) sc_are_stuffs.nd rfl (.inl rfl))) (fun _ _ _ _ _ => pts_nil) (fun _ _ _ _ _ => (pe_c c_is_stuff hr (by decide) rfl (pa_cons (pv 1) pa_nil)))) pa_nil))))))) (pss_one (ps_ret pe_bl)) pss_nil)
    (pss_cons (ps_for PassesOwn.never rfl (pi_enumQ (by rfl) T.b_enumerate (pa_cons (pv 0) pa_nil)) (pg_tup rfl (pgs_cons (pg_name (i := 2) sc_are_stuffs.nd rfl (.inl rfl)) (pgs_cons (pg_name (i := 3) sc_are_stuffs.nd rfl (.inr rfl)) pgs_nil)))
    (pss_cons (ps_set (i := 4) sc_are_stuffs.nd rfl (.inl rfl) (pe_lst (pa_star (pe_slice (SlR.or sl_list sl_tupA) (pv 0) po_none (po_some (pv 2))) (pa_star (pe_slice (SlR.or sl_list sl_tupA) (pv 0) (po_some (pe_op op_add (pv 2) pe_int)) po_none) pa_nil))))
    (pss_one (ps_if (pt_val (pe_callB (cr_any rfl) (by rfl) T.b_any (by decide +kernel) (pa_cons (pe_lc (own := [("pattern", 5), ("bit", 6)]) (g := gTup K 2 (gCons (gName 5) (gCons (gName 6) gNil))) (by rfl) sc_are_stuffs.nd (pi_list (pv 4)) (blkOk_by (own := [("pattern", 5), ("bit", 6)]) (N := ["value", "one", "at", "stuff", "rest", "pattern", "bit"]) (sc := fnScope s_are_stuffs) (by decide +kernel)) (fun _ _ _ _ _ => (pg_tup rfl (pgs_cons (pg_name (i := 5) sc_are_stuffs.nd rfl (.inl rfl)) (pgs_cons (pg_name (i := 6) sc_are_stuffs.nd rfl (.inl rfl)) pgs_nil)))) (fun _ _ _ _ _ => pts_nil) (fun _ _ _ _ _ => (pe_m1 PySem.F.slot_str_endswith PySem.F.type_str_endswith mt_endswith (pe_ix (show IxR _ (rIxT K) from ix_tup) (pv 3) pe_int (fun _ _ => rfl)) (pv 5)))) pa_nil))) (pss_one (ps_ret pe_bl)) pss_nil))))
    (pss_one (ps_ret pe_bl)))), ?_⟩
    have hn : ps.length ≤ 1000 := by have := ok.few; rw [List.length_map] at this; exact this
    refine ⟨_, rfl, a, _, rfl, hS, fun H1 s1 => ⟨_, rfl, ?_⟩⟩
    have hS1 := hS.same s1
    refine iSeq_var rfl hS1 fun J G hG wk D nD => ?_
    refine lc_it wk (fun i H2 => Same H1 H2 ∧ H2 D = some (.lst ((List.replicate i true).map V.bl))) ⟨same_upd nD, upd_same⟩ (fun i H2 _ h2 => hG _ h2.1) ?_ ?_
    · rintro i x H2 H3 hi ⟨s2, hD⟩ ⟨rfl, hx⟩
      rw [List.getElem?_map] at hx
      obtain ⟨q, hq, rfl⟩ := Option.map_eq_some_iff.mp hx
      have hqm : q ∈ ps := List.mem_of_getElem? hq
      have mk : kb q ∈ ps.map kb := List.mem_map_of_mem hqm
      rw [List.length_map] at hi
      refine ⟨rfl, ?_⟩
      refine ⟨_, rfl, q, (kb q).1, (kb q).2, rfl, (s1.trans s2) _ _ (hs q hqm), ok.pos _ mk, Nat.le_trans (ok.l9 _ mk) (by decide), fun H4 s4 => ⟨_, s4 _ _ hD, ?_, ?_, ?_⟩⟩
      · rw [List.length_map, List.length_replicate]; exact sl_lt (by omega)
      · intro c' o e
        rw [upd_ne (ne_of_none e nD)]
        exact (s2.trans s4) _ _ e
      · rw [upd_same, List.replicate_succ', List.map_append]; rfl
    · rintro H2 ⟨s2, hD⟩
      refine ⟨D, _, rfl, SqL.of hD, _, rfl, ?_⟩
      have et : (List.replicate (ps.map V.ref).length true).all id = true := by simp
      rw [et]
      have hS2 := hS1.same s2
      have s02 := s1.trans s2
      refine iEnumQ_var rfl hS2 fun J G hG wk => ?_
      refine for_it wk (fun i σ H3 => ∃ v1 v2 v3 v4 v5 v6 : Option V, σ = [some (.ref a), v1, v2, v3, v4, v5, v6] ∧ Same H2 H3) ⟨none, none, none, none, none, none, rfl, Same.refl _⟩ (fun i σ H3 _ h3 => by obtain ⟨_, _, _, _, _, _, _, s3⟩ := h3; exact hG _ s3) ?_ ?_
      · rintro i x σ H3 H4 hi ⟨v1, v2, v3, v4, v5, v6, rfl, s3⟩ ⟨T', y1, y2, rfl, nT, rfl, h1, h2⟩
        cases h1
        replace h2 : (ps.map V.ref)[i]? = some y2 := h2
        rw [List.getElem?_map] at h2
        obtain ⟨q, hq, rfl⟩ := Option.map_eq_some_iff.mp h2
        have hqm : q ∈ ps := List.mem_of_getElem? hq
        refine ⟨T', _, rfl, SqT.of upd_same, rfl, _, _, rfl, _, _, rfl, rfl, ?_⟩
        have s4 : Same H2 (upd H3 T' (.tup [.int (i : Nat), .ref q])) := s3.trans (same_upd nT)
        generalize upd H3 T' (.tup [.int (i : Nat), .ref q]) = H4 at s4
        have hS4 := hS2.same s4
        refine ⟨_, rfl, _, rfl, _, rfl, slQ_of hS4 fun p1 H5 s5 h5 => ⟨p1, _, rfl, h5.star, ?_⟩⟩
        refine ⟨_, rfl, _, rfl, _, _, rfl, rfl, _, rfl, slQ_of (hS4.same s5) fun p2 H6 s6 h6 => ⟨p2, _, rfl, h6.star, ?_⟩⟩
        have el : cutV (ps.map V.ref) none (some ((i : Nat) : Int)) ++ (cutV (ps.map V.ref) (some (((i : Nat) : Int) + 1)) none ++ []) = (ps.take i ++ ps.drop (i + 1)).map V.ref := by
          rw [cut_to hi, cut_from hi, List.append_nil, List.map_append, List.map_take, List.map_drop]
        refine ⟨?_, fun R nR => ?_⟩
        · show (cutV (ps.map V.ref) none (some ((i : Nat) : Int)) ++ (cutV (ps.map V.ref) (some (((i : Nat) : Int) + 1)) none ++ [])).length ≤ sizeLine
          rw [el, List.length_map, List.length_append, List.length_take, List.length_drop]
          exact sl_len (by omega)
        · have hR : upd H6 R (.lst (cutV (ps.map V.ref) none (some ((i : Nat) : Int)) ++ (cutV (ps.map V.ref) (some (((i : Nat) : Int) + 1)) none ++ []))) R = some (.lst ((ps.take i ++ ps.drop (i + 1)).map V.ref)) := by rw [upd_same, el]
          have s7 : Same H2 (upd H6 R (.lst (cutV (ps.map V.ref) none (some ((i : Nat) : Int)) ++ (cutV (ps.map V.ref) (some (((i : Nat) : Int) + 1)) none ++ [])))) := ((s4.trans s5).trans s6).trans (same_upd nR)
          show gName 4 _ _ (upd H6 R (.lst (cutV (ps.map V.ref) none (some ((i : Nat) : Int)) ++ (cutV (ps.map V.ref) (some (((i : Nat) : Int) + 1)) none ++ [])))) _
          generalize upd H6 R (.lst (cutV (ps.map V.ref) none (some ((i : Nat) : Int)) ++ (cutV (ps.map V.ref) (some (((i : Nat) : Int) + 1)) none ++ []))) = H7 at hR s7 ⊢
          refine ⟨_, rfl, R, rfl, ⟨_, SqL.of hR⟩, fun D2 nD2 => ?_⟩
          have ne := sf_at ok.free hq
          have hlen : (ps.take i ++ ps.drop (i + 1)).length ≤ 1000 := by
            rw [List.length_append, List.length_take, List.length_drop]; omega
          have hsub : ∀ q' ∈ ps.take i ++ ps.drop (i + 1), q' ∈ ps := fun q' hq' => by
            rcases List.mem_append.mp hq' with m | m
            · exact List.mem_of_mem_take m
            · exact List.mem_of_mem_drop m
          generalize ps.take i ++ ps.drop (i + 1) = rs at hR ne hlen hsub
          refine lc_it (walk_list (xs := rs.map V.ref)) (fun j H8 => Same H7 H8 ∧ H8 D2 = some (.lst ((List.replicate j false).map V.bl))) ⟨same_upd nD2, upd_same⟩ (fun j H8 _ h8 => h8.1.seq (SqL.of hR)) ?_ ?_
          · rintro j x H8 H9 hj ⟨s8, hD2⟩ ⟨rfl, hx⟩
            rw [List.getElem?_map] at hx
            obtain ⟨q', hq', rfl⟩ := Option.map_eq_some_iff.mp hx
            have hm' : q' ∈ rs := List.mem_of_getElem? hq'
            rw [List.length_map] at hj
            have s28 := s02.trans (s7.trans s8)
            refine ⟨q', _, rfl, SqT.of (s28 _ _ (hs q' (hsub _ hm'))), rfl, _, _, rfl, _, _, rfl, rfl, rfl, ?_⟩
            refine ⟨_, rfl, q, _, 0, _, rfl, rfl, SqT.of (s28 _ _ (hs q hqm)), rfl, ⟨_, rfl⟩, _, rfl, _, _, rfl, rfl, _, hD2, ?_, ?_, ?_⟩
            · rw [List.length_map, List.length_replicate]; exact sl_lt (by omega)
            · intro c' o e
              rw [upd_ne (ne_of_none e nD2)]
              exact s8 _ _ e
            · have ef : Txt.endswith (W (kb q).1) (W (kb q').1) = false := by
                rw [W_ends]
                cases e : (kb q').1.isSuffixOf (kb q).1 with
                | false => rfl
                | true => exact absurd (List.isSuffixOf_iff_suffix.mp e) (ne q' hm')
              rw [upd_same, ef, List.replicate_succ', List.map_append]
              rfl
          · rintro H8 ⟨s8, hD2⟩
            refine ⟨D2, _, rfl, SqL.of hD2, _, rfl, ?_⟩
            have et : (List.replicate (rs.map V.ref).length false).any id = false := by simp
            rw [et]
            exact ⟨_, _, _, _, _, _, rfl, s7.trans s8⟩
      · rintro σ H3 ⟨v1, v2, v3, v4, v5, v6, rfl, s3⟩
        exact k H3 (s02.trans s3)
end
end U
set_option maxRecDepth 100000
set_option maxHeartbeats 4000000
namespace U
open PySem PySem.Spec PyProof.Rows
open L2 hiding Fun CX0 E0 pass0 Fun.binds
open C8 Lx SX StX
theorem p10 {n : Nat} (h : n ≤ 9) : 2 ^ (n + 1) ≤ 1024 := Nat.le_trans (Nat.pow_le_pow_right (by decide) (show n + 1 ≤ 10 by omega)) (by decide)
section
variable {P : Program} {w : World} {K : PySem.W.Frag} {mg : Str → Option Value} {base : Heap}
theorem sc_Rule_put_in : FnScope ["self", "line", "found", "known", "bit", "standing"] ["self", "line"] (fnScope s_Rule_put_in) := fnScope_by (by decide +kernel)
theorem met_put_in {f C : Addr} {fd : FuncData} (F : C8.Fun K "put_in" "Rule.put_in" s_Rule_put_in f fd) (me : Meth K C "put_in" f) (b : Binds K fd ["self", "line"] []) (T : Tx mg) (RT : RuT K C)
    (c_put : Met P w K mg base 1 C "put" (spPut C) []) (p_longest : Prp P w K mg base 1 C "longest" (spLongest C)) (c_tail : Cal P w K mg base 1 "tail" spTail []) : Met P w K mg base 3 C "put_in" (spPutIn C) [] := by
  refine met0 RT.cl me F b sc_Rule_put_in (fun vs H Q E h => ?_) (fun cdv A outer s H vs Q E hr h => ?_)
  · obtain ⟨_, _, _, _, _, rfl, _⟩ := h; rfl
  · obtain ⟨a, fl, ss, l, x, rfl, hR, hn, h9, hl, hI, k⟩ := h
    refine ⟨_, (pss_cons (ps_par (i := 2) (j := 3) (by rfl) sc_Rule_put_in.nd rfl rfl (by decide) rfl rfl (pa_cons pe_str (pa_cons pe_dnewK pa_nil)) (by rfl))
    (pss_cons (ps_set (i := 4) sc_Rule_put_in.nd rfl (.inl rfl) (pe_mt (pl := _) c_put hr (by decide) (pv 0) (pa_cons (pv 1) pa_nil)))
    (pss_cons (ps_while PassesOwn.never (pt_cmpR op_notN (pv 4) pe_non (nomark _))
    (pss_cons (ps_set (i := 5) sc_Rule_put_in.nd rfl (.inl rfl) (pe_c c_tail hr (by decide) rfl (pa_cons (pe_op op_add_str (pv 1) (pv 2)) (pa_cons (pe_pr p_longest hr (by decide) (pv 0)) pa_nil))))
    (pss_cons (ps_if (pt_cmp (pc_din (hu_of hr) (pv 5) (pv 3))) (pss_one (ps_ret pe_non)) pss_nil)
    (pss_cons (ps_dput (hu_of hr) (pv 3) (pv 5) pe_bl rfl)
    (pss_cons (ps_aug (i := 2) sc_Rule_put_in.nd rfl (.inl rfl) (pv 4) iop_add_str)
    (pss_one (ps_set (i := 4) sc_Rule_put_in.nd rfl (.inl rfl) (pe_mt (pl := _) c_put hr (by decide) (pv 0) (pa_cons (pe_op op_add_str (pv 1) (pv 2)) pa_nil)))))))))
    (pss_one (ps_ret (pv 2)))))), ?_⟩
    have hL : ∀ s ∈ ss, s.1.length ≤ longM ss := fun s hs => longM_le hs
    have hx : x.length ≤ 1024 := by have := hI.len hL; have := p10 h9; omega
    have hat : ∀ {H2 : Hp}, Same H H2 → ∃ dx t, H2 a = some (.ins C dx (ruF fl t)) := fun s2 => by
      obtain ⟨dx, t, _, _, ha, _⟩ := hR.same s2
      exact ⟨dx, t, ha⟩
    refine fun D nD => ⟨_, _, rfl, ?_⟩
    have s1 : Same H (upd H D (.dK [])) := same_upd nD
    have hD1 : upd H D (.dK []) D = some (.dK []) := upd_same
    generalize upd H D (.dK []) = H1 at s1 hD1
    obtain ⟨dx, t, ha⟩ := hat s1
    refine ⟨_, rfl, a, dx, _, rfl, ha, ruF_no _ _ (by decide +kernel) (by decide +kernel), _, rfl, a, fl, ss, l, rfl, hR.same s1, fun H2 s2 => ?_⟩
    refine ⟨fun m σ H3 => ∃ (j : Nat) (v5 : Option V), j + m = x.length ∧ σ = [some (.ref a), some (.str (W l)), some (.str (W (x.take j))), some (.ref D), some (oB (putM ss (l ++ x.take j))), v5] ∧ Same H H3 ∧ H3 D = some (.dK (kst ((List.range j).map fun i => tl (longM ss) (l ++ x.take i)))),
      ⟨x.length, 0, none, by omega, by rw [List.take_zero, List.append_nil, ← W_nil]; rfl, s1.trans s2, s2 _ _ hD1⟩, ?_⟩
    rintro m σ H3 ⟨j, v5, hj, rfl, s3, hD3⟩
    refine ⟨_, rfl, rfl, _, rfl, ?_⟩
    rw [oB_non]
    by_cases hlt : j < x.length
    · have hb : x[j]? = some x[j] := List.getElem?_eq_getElem hlt
      have hput := hI.at hb
      rw [hput]
      have lx : (x.take j).length ≤ 1024 := by rw [List.length_take]; omega
      have e1 : (W l).length = l.length := W_len l
      have e2 : (W (x.take j)).length = (x.take j).length := W_len _
      refine ⟨fun σ' H' => ∃ m', m' < m ∧ ∃ (j : Nat) (v5 : Option V), j + m' = x.length ∧ σ' = [some (.ref a), some (.str (W l)), some (.str (W (x.take j))), some (.ref D), some (oB (putM ss (l ++ x.take j))), v5] ∧ Same H H' ∧ H' D = some (.dK (kst ((List.range j).map fun i => tl (longM ss) (l ++ x.take i)))), fun _ _ h => h, ?_⟩
      obtain ⟨dx3, t3, ha3⟩ := hat s3
      refine ⟨_, rfl, _, rfl, _, _, rfl, rfl, by rw [e1, e2]; exact sl_len (by omega), _, rfl, a, dx3, _, rfl, ha3, a, fl, ss, rfl, hR.same s3, hn, fun s hs => Nat.le_trans (longM_le hs) (by omega), fun H4 s4 => ?_⟩
      refine ⟨l ++ x.take j, longM ss, by rw [← W_cat]; rfl, by rw [List.length_append]; omega, ?_⟩
      have hD4 := s4 _ _ hD3
      have nin : ¬ tl (longM ss) (l ++ x.take j) ∈ (List.range j).map fun i => tl (longM ss) (l ++ x.take i) := fun hm => by
        obtain ⟨i, hi, e⟩ := List.mem_map.mp hm
        have hi' := List.mem_range.mp hi
        have := hI.apart hL (Nat.le_of_lt (Nat.lt_trans hi' hlt)) (Nat.le_of_lt hlt) e
        omega
      refine ⟨_, rfl, _, rfl, D, _, rfl, DGet.k (k := .inr (W (tl (longM ss) (l ++ x.take j)))) hD4, _, rfl, iteBF (by rw [val_out nin]; rfl) ?_⟩
      refine ⟨_, rfl, _, rfl, D, _, rfl, DPut.k (k := .inr (W (tl (longM ss) (l ++ x.take j)))) hD4 (by unfold kst; rw [List.length_map, List.length_map, List.length_range]; exact sl_lt (by omega)), ?_⟩
      rw [put_out nin]
      have et : x.take (j + 1) = x.take j ++ [x[j]] := by rw [List.take_add_one, hb]; rfl
      have ek : ((List.range j).map fun i => tl (longM ss) (l ++ x.take i)) ++ [tl (longM ss) (l ++ x.take j)] = (List.range (j + 1)).map fun i => tl (longM ss) (l ++ x.take i) := by
        rw [List.range_succ, List.map_append]; rfl
      rw [ek]
      have s5 : Same H (upd H4 D (.dK (kst ((List.range (j + 1)).map fun i => tl (longM ss) (l ++ x.take i))))) := fun c o e => by
        rw [upd_ne (ne_of_none e nD)]
        exact (s3.trans s4) _ _ e
      have hD5 : upd H4 D (.dK (kst ((List.range (j + 1)).map fun i => tl (longM ss) (l ++ x.take i)))) D = some (.dK (kst ((List.range (j + 1)).map fun i => tl (longM ss) (l ++ x.take i)))) := upd_same
      generalize upd H4 D (.dK (kst ((List.range (j + 1)).map fun i => tl (longM ss) (l ++ x.take i)))) = H5 at s5 hD5
      have e3 : (W [x[j]]).length = 1 := W_len _
      refine ⟨_, rfl, _, rfl, _, _, rfl, rfl, by rw [e2, e3]; exact sl_len (by omega), ?_⟩
      rw [W_cat, ← et]
      have e4 : (W (x.take (j + 1))).length = (x.take (j + 1)).length := W_len _
      obtain ⟨dx5, t5, ha5⟩ := hat s5
      refine ⟨_, rfl, a, dx5, _, rfl, ha5, ruF_no _ _ (by decide +kernel) (by decide +kernel), _, rfl, _, rfl, _, _, rfl, rfl, by rw [e1, e4, et, List.length_append]; exact sl_len (by simp only [List.length_cons, List.length_nil]; omega), ?_⟩
      refine ⟨a, fl, ss, l ++ x.take (j + 1), by rw [← W_cat]; rfl, hR.same s5, fun H6 s6 => ?_⟩
      exact ⟨m - 1, by omega, j + 1, _, by omega, rfl, s5.trans s6, s6 _ _ hD5⟩
    · have hj' : j = x.length := by omega
      subst hj'
      rw [List.take_length, hI.end]
      exact ⟨_, rfl, k H3 s3⟩
end
end U
set_option maxRecDepth 100000
set_option maxHeartbeats 4000000
namespace U
open PySem PySem.Spec PyProof.Rows
open L2 hiding Fun CX0 E0 pass0 Fun.binds
open C8 Lx SX StX
structure Bfs (ss : List Stf) (H H2 : Hp) (q d : Addr) (ws : List (List Bool)) : Prop where
  same : Same H H2
  wait : H2 q = some (.lst (ws.map fun w => V.str (W w)))
  known : H2 d = some (.dK (kst ws))
  nodup : ws.Nodup
  short : ∀ w ∈ ws, w.length ≤ longM ss
  reach : ∀ w ∈ ws, ∃ l, Reach ss l ∧ tl (longM ss) l = w
theorem Bfs.on {ss : List Stf} {H H2 H3 : Hp} {q d : Addr} {ws : List (List Bool)} (b : Bfs ss H H2 q d ws) (s : Same H2 H3) : Bfs ss H H3 q d ws :=
  ⟨b.same.trans s, s _ _ b.wait, s _ _ b.known, b.nodup, b.short, b.reach⟩
theorem Bfs.few {ss : List Stf} {H H2 : Hp} {q d : Addr} {ws : List (List Bool)} (b : Bfs ss H H2 q d ws) : ws.length + 1 ≤ 2 ^ (longM ss + 1) := words_le b.nodup b.short
def key (s : Stf) : Str × Str := (W s.1, W [s.2])
def SortedS (ss : List Stf) : Prop := SrtO.Srtd (fun x y => SrT.lexT (key x) (key y)) ss
def spRuInit (K : PySem.W.Frag) (C : Addr) : Sp := fun vs H Q _ => ∃ (a dx s : Addr) (f : List Bool) (ps : List Addr) (kb : Addr → Stf), vs = [.ref a, .str (W f), .ref s] ∧ H a = some (.ins C dx []) ∧ Sq K H s (ps.map V.ref) ∧ StV H kb ps ∧ StOk (ps.map kb) ∧ OkR (ps.map kb) ∧ 2 ≤ f.length ∧ f.length ≤ 1000 ∧
  ∀ H' ss, (∀ b o, H b = some o → b ≠ a → H' b = some o) → ss.Perm (ps.map kb) → SortedS ss → RuAt C H' a f ss → Q .non H'
theorem pwS {qs : List Addr} {kb : Addr → Stf} (h : SrtO.Srtd (fun x y => SrT.lexT (key (kb x)) (key (kb y))) qs) : SortedS (qs.map kb) := List.pairwise_map.mpr h
section
variable {P : Program} {w : World} {K : PySem.W.Frag} {mg : Str → Option Value} {base : Heap}
theorem sc_Rule_is_endless : FnScope ["self", "waiting", "known", "at", "bit", "line", "more", "standing"] ["self"] (fnScope s_Rule_is_endless) := fnScope_by (by decide +kernel)
theorem met_is_endless {f C : Addr} {fd : FuncData} {tB : Tok} (F : C8.Fun K "is_endless" "Rule.is_endless" s_Rule_is_endless f fd) (me : Meth K C "is_endless" f) (b : Binds K fd ["self"] []) (T : Tx mg) (RT : RuT K C) (g_BITS : mg "BITS" = some (.str "01" tB))
    (c_put_in : Met P w K mg base 3 C "put_in" (spPutIn C) []) (p_longest : Prp P w K mg base 1 C "longest" (spLongest C)) (c_tail : Cal P w K mg base 1 "tail" spTail []) : Met P w K mg base 4 C "is_endless" (spEndless C) [] := by
  refine met0 RT.cl me F b sc_Rule_is_endless (fun vs H Q E h => ?_) (fun cdv A outer s H vs Q E hr h => ?_)
  · obtain ⟨_, _, _, rfl, _⟩ := h; rfl
  · obtain ⟨a, fl, ss, rfl, hR, hn, h9, hO, k⟩ := h
    refine ⟨_, (pss_cons (ps_par3 (i := 1) (j := 2) (l := 3) (by rfl) sc_Rule_is_endless.nd rfl rfl rfl (by decide) (by decide) (by decide) rfl rfl rfl (pa_cons (pe_lst (pa_cons pe_str pa_nil)) (pa_cons (pe_disp (pps_cons pe_str pe_bl pps_nil) (by rfl) (by rfl) (fun z => by cases z) (by decide)) (pa_cons pe_int pa_nil))) (by rfl))
    (pss_cons (ps_while PassesOwn.never (pt_cmpR op_lt (pv 3) (pe_callB call_len_seq (by rfl) T.b_len (by decide +kernel) (pa_cons (pv 1) pa_nil)) (nomark _))
    (pss_cons (ps_for PassesOwn.never rfl (pi_str (pe_glob (v := .str "01") (by rfl) g_BITS ⟨_, rfl⟩)) (pg_name (i := 4) sc_Rule_is_endless.nd rfl (.inl rfl))
    (pss_cons (ps_set (i := 5) sc_Rule_is_endless.nd rfl (.inl rfl) (pe_op op_add_str (pe_ix ix_list (pv 1) (pv 3) (fun _ _ => rfl)) (pv 4)))
    (pss_cons (ps_set (i := 6) sc_Rule_is_endless.nd rfl (.inl rfl) (pe_mt (pl := _) c_put_in hr (by decide) (pv 0) (pa_cons (pv 5) pa_nil)))
    (pss_cons (ps_if (pt_cmpR op_isN (pv 6) pe_non (nomark _)) (pss_one (ps_ret pe_bl)) pss_nil)
    (pss_cons (ps_set (i := 7) sc_Rule_is_endless.nd rfl (.inl rfl) (pe_c c_tail hr (by decide) rfl (pa_cons (pe_op op_add_str (pv 5) (pv 6)) (pa_cons (pe_pr p_longest hr (by decide) (pv 0)) pa_nil))))
    (pss_one (ps_if (pt_cmp (pc_dnotin (hu_of hr) (pv 7) (pv 2))) (pss_cons (ps_dput (hu_of hr) (pv 2) (pv 7) pe_bl rfl)
    (pss_one (ps_expr (pe_bm PySem.F.plainAttrs_list PySem.F.slot_list_append PySem.F.type_list_append mt_append (pv 1) (pa_cons (pv 7) pa_nil))))) pss_nil)))))))
    (pss_one (ps_aug (i := 3) sc_Rule_is_endless.nd rfl (.inl rfl) pe_int ip_add))))
    (pss_one (ps_ret pe_bl)))), ?_⟩
    have hL : ∀ s ∈ ss, s.1.length ≤ longM ss := fun s hs => longM_le hs
    have hpw := p10 h9
    have hat : ∀ {H2 : Hp}, Same H H2 → ∃ dx t, H2 a = some (.ins C dx (ruF fl t)) := fun s2 => by
      obtain ⟨dx, t, _, _, ha, _⟩ := hR.same s2
      exact ⟨dx, t, ha⟩
    refine ⟨by show 1 ≤ sizeLine; decide, fun q nq d nd => ⟨upd_same, [(.inr "", .bl true)], rfl, by decide, _, _, _, rfl, ?_⟩⟩
    have nqd : q ≠ d := fun z => by rw [← z, upd_same] at nd; cases nd
    have b0 : Bfs ss H (upd (upd (upd H q (.lst [.str ""])) d (.dK [])) d (.dK (mergeK [] [(.inr "", .bl true)]))) q d [[]] := by
      refine ⟨fun c o e => ?_, ?_, ?_, ?_, ?_, ?_⟩
      · have n1 := ne_of_none e nq
        have n2 : c ≠ d := fun z => by rw [z] at e n1; rw [upd_ne n1, e] at nd; cases nd
        rw [upd_ne n2, upd_ne n2, upd_ne n1]
        exact e
      · rw [upd_ne nqd, upd_ne nqd, upd_same, W_nil]; rfl
      · rw [upd_same, W_nil]; rfl
      · simp
      · intro w hw; rw [List.mem_singleton.mp hw]; exact Nat.zero_le _
      · intro w hw; rw [List.mem_singleton.mp hw]; exact ⟨[], .nil, by unfold tl; rw [List.drop_nil]⟩
    have nq0 : H q = none := nq
    have nd0 : H d = none := by
      cases e : H d with
      | none => rfl
      | some o => rw [upd_ne (Ne.symm nqd), e] at nd; cases nd
    generalize upd (upd (upd H q (.lst [.str ""])) d (.dK [])) d (.dK (mergeK [] [(.inr "", .bl true)])) = H1 at b0
    refine ⟨fun m σ H2 => ∃ (n : Nat) (ws : List (List Bool)) (v4 v5 v6 v7 : Option V), σ = [some (.ref a), some (.ref q), some (.ref d), some (.int n), v4, v5, v6, v7] ∧ Bfs ss H H2 q d ws ∧ n ≤ ws.length ∧ m + n = 2 ^ (longM ss + 1),
      ⟨2 ^ (longM ss + 1), 0, [[]], none, none, none, none, rfl, b0, Nat.zero_le _, by omega⟩, ?_⟩
    rintro m σ H2 ⟨n, ws, v4, v5, v6, v7, rfl, B2, hn2, hm⟩
    have few2 := B2.few
    refine ⟨_, rfl, _, rfl, q, _, rfl, .inl (SqL.of B2.wait), _, _, rfl, rfl, _, rfl, ?_⟩
    rw [List.length_map]
    by_cases hlt : n < ws.length
    · refine iteDT (by omega) ?_
      refine ⟨fun σ' H' => ∃ m', m' < m ∧ ∃ (n : Nat) (ws : List (List Bool)) (v4 v5 v6 v7 : Option V), σ' = [some (.ref a), some (.ref q), some (.ref d), some (.int n), v4, v5, v6, v7] ∧ Bfs ss H H' q d ws ∧ n ≤ ws.length ∧ m' + n = 2 ^ (longM ss + 1), fun _ _ h => h, ?_⟩
      refine ⟨_, rfl, for_it walk_str (fun i σ H3 => ∃ (ws : List (List Bool)) (v4 v5 v6 v7 : Option V), σ = [some (.ref a), some (.ref q), some (.ref d), some (.int n), v4, v5, v6, v7] ∧ Bfs ss H H3 q d ws ∧ n < ws.length) ⟨ws, _, _, _, _, rfl, B2, hlt⟩ (fun _ _ _ _ _ => trivial) ?_ ?_⟩
      · rintro i x σ H3 H3' hi ⟨ws, v4, v5, v6, v7, rfl, B3, hlt3⟩ ⟨rfl, c, hc, rfl⟩
        have e01 : ("01" : Str) = W [false, true] := by decide +kernel
        rw [e01] at hc
        obtain ⟨bb, _, rfl⟩ := W_get hc
        have hw : (ws.map fun w => V.str (W w))[n]? = some (.str (W ws[n])) := by rw [List.getElem?_map, List.getElem?_eq_getElem hlt3]; rfl
        have hmem : ws[n] ∈ ws := List.getElem_mem hlt3
        generalize ws[n] = w0 at hw hmem
        have hs0 := B3.short _ hmem
        have few3 := B3.few
        obtain ⟨l0, hr0, rfl⟩ := B3.reach _ hmem
        obtain ⟨y, hy⟩ := hO l0 hr0 bb
        have ht0 : tl (longM ss) l0 = tl (longM ss) (tl (longM ss) l0) := (tl_tl (Nat.le_refl _) _).symm
        have hy' := hy.tl hL (tl_snoc (b := bb) ht0)
        have hyl := hy.len hL
        have hnx : tl (longM ss) (l0 ++ [bb] ++ y) = tl (longM ss) (tl (longM ss) l0 ++ [bb] ++ y) := tl_app (tl_snoc (b := bb) ht0) y
        have hrn : Reach ss (l0 ++ [bb] ++ y) := .next hr0 hy
        generalize tl (longM ss) l0 = w0 at *
        have ew : W w0 ++ (⟨#[bt bb]⟩ : Str) = W (w0 ++ [bb]) := W_cat w0 [bb]
        have el : (W w0).length + (⟨#[bt bb]⟩ : Str).length ≤ sizeLine := by
          have e1 : (W w0).length = w0.length := W_len _
          have e2 : (⟨#[bt bb]⟩ : Str).length = 1 := W_len [bb]
          rw [e1, e2]; exact sl_len (by omega)
        refine ⟨_, rfl, _, rfl, q, _, _, _, rfl, rfl, SqL.of B3.wait, atI_nat hw, _, rfl, _, _, rfl, rfl, el, ?_⟩
        rw [ew]
        obtain ⟨dx3, t3, ha3⟩ := hat B3.same
        have hl1 : (w0 ++ [bb]).length ≤ 10 := by rw [List.length_append, List.length_cons, List.length_nil]; omega
        refine ⟨_, rfl, a, dx3, _, rfl, ha3, ruF_no _ _ (by decide +kernel) (by decide +kernel), _, rfl, a, fl, ss, w0 ++ [bb], y, rfl, hR.same B3.same, hn, h9, by omega, hy', fun H4 s4 => ?_⟩
        have B4 := B3.on s4
        refine ⟨_, rfl, rfl, _, rfl, iteDF (fun z => by cases z) ?_⟩
        obtain ⟨dx4, t4, ha4⟩ := hat B4.same
        have e3 : (W (w0 ++ [bb])).length = (w0 ++ [bb]).length := W_len _
        have e4 : (W y).length = y.length := W_len _
        refine ⟨_, rfl, _, rfl, _, _, rfl, rfl, by rw [e3, e4]; exact sl_len (by omega), _, rfl, a, dx4, _, rfl, ha4, a, fl, ss, rfl, hR.same B4.same, hn, fun s hs => Nat.le_trans (longM_le hs) (by omega), fun H5 s5 => ?_⟩
        have B5 := B4.on s5
        refine ⟨w0 ++ [bb] ++ y, longM ss, by rw [← W_cat (w0 ++ [bb]) y]; rfl, by rw [List.length_append]; omega, ?_⟩
        refine ⟨_, rfl, _, rfl, d, _, rfl, DGet.k (k := .inr (W (tl (longM ss) (w0 ++ [bb] ++ y)))) B5.known, _, rfl, ?_⟩
        by_cases hin : tl (longM ss) (w0 ++ [bb] ++ y) ∈ ws
        · refine iteBF (by rw [val_in hin]; rfl) ?_
          exact ⟨ws, _, _, _, _, rfl, B5, hlt3⟩
        · refine iteBT (by rw [val_out hin]; rfl) ?_
          refine ⟨_, rfl, _, rfl, d, _, rfl, DPut.k (k := .inr (W (tl (longM ss) (w0 ++ [bb] ++ y)))) B5.known (by unfold kst; rw [List.length_map]; exact sl_lt (by omega)), ?_⟩
          rw [put_out hin]
          have hW6 : upd H5 d (.dK (kst (ws ++ [tl (longM ss) (w0 ++ [bb] ++ y)]))) q = some (.lst (ws.map fun w => V.str (W w))) := by rw [upd_ne nqd]; exact B5.wait
          refine ⟨_, rfl, .inl ⟨rfl, _, SqL.of hW6⟩, _, rfl, q, _, _, rfl, rfl, hW6, by rw [List.length_map]; exact sl_lt (by omega), ?_⟩
          refine ⟨ws ++ [tl (longM ss) (w0 ++ [bb] ++ y)], _, _, _, _, rfl, ⟨fun c o e => ?_, ?_, ?_, ?_, ?_, ?_⟩, ?_⟩
          · rw [upd_ne (ne_of_none e nq0), upd_ne (ne_of_none e nd0)]
            exact B5.same _ _ e
          · rw [upd_same, List.map_append]; rfl
          · rw [upd_ne (Ne.symm nqd), upd_same]
          · rw [List.nodup_append]
            refine ⟨B5.nodup, by simp, fun u hu v hv e => ?_⟩
            rw [List.mem_singleton.mp hv] at e
            exact hin (e ▸ hu)
          · intro u hu
            rcases List.mem_append.mp hu with m | m
            · exact B5.short _ m
            · rw [List.mem_singleton.mp m]; exact tl_le _ _
          · intro u hu
            rcases List.mem_append.mp hu with m | m
            · exact B5.reach _ m
            · rw [List.mem_singleton.mp m]; exact ⟨_, hrn, hnx⟩
          · rw [List.length_append]; omega
      · rintro σ H3 ⟨ws, v4, v5, v6, v7, rfl, B3, hlt3⟩
        refine ⟨_, rfl, _, _, rfl, rfl, ?_⟩
        refine ⟨m - 1, by omega, n + 1, ws, _, _, _, _, rfl, B3, hlt3, by omega⟩
    · refine iteDF (by omega) ?_
      exact k H2 B2.same
theorem sc_Rule_init : FnScope ["self", "flag", "stuffs"] ["self", "flag", "stuffs"] (fnScope s_Rule_init) := fnScope_by (by decide +kernel)
theorem ok_Rule_init {f C : Addr} {fd : FuncData} (F : C8.Fun K "__init__" "Rule.__init__" s_Rule_init f fd) (T : Tx mg) (RT : RuT K C) (c_is_word : Cal P w K mg base 1 "is_word" (spIsWord K) []) (c_are_stuffs : Cal P w K mg base 4 "are_stuffs" (spAre K) []) (c_is_endless : Met P w K mg base 4 C "is_endless" (spEndless C) []) :
    FnOk P w K mg base CX0 5 f fd ["self", "flag", "stuffs"] (spRuInit K C) := by
  refine fn0 F sc_Rule_init (fun vs H Q E h => ?_) (fun cdv A outer s H vs Q E hr h => ?_)
  · obtain ⟨_, _, _, _, _, _, rfl, _⟩ := h; rfl
  · obtain ⟨a, dx, sq, fl, ps, kb, rfl, ha, hS, hs, ok, hO, h2, hl, k⟩ := h
    refine ⟨_, (pss_cons (ps_if (PW.pt (pw_or (pt_not (pt_val (pe_c c_is_word hr (by decide) rfl (pa_cons (pv 1) pa_nil)))) (pw_or1 (pt_cmpR op_lt (pe_callB call_len_str (by rfl) T.b_len (by decide +kernel) (pa_cons (pv 1) pa_nil)) pe_int (nomark _))))) (pss_one ps_never) pss_nil)
    (pss_cons (ps_if (pt_not (pt_val (pe_c c_are_stuffs hr (by decide) rfl (pa_cons (pv 2) pa_nil)))) (pss_one ps_never) pss_nil)
    (pss_cons (ps_fld (pv 0) (pv 1) rfl)
    (pss_cons (ps_fld (pv 0) (pe_callTy call_tuple_of (by rfl) T.b_tuple (by decide +kernel) (pa_cons (pe_callB cr_sortedT (by rfl) T.b_sorted (by decide +kernel) (pa_cons (pv 2) pa_nil)) pa_nil)) rfl)
    (pss_one (ps_if (pt_val (pe_mt0 (pl := _) c_is_endless hr (by decide) (pv 0))) (pss_one ps_never) pss_nil)))))), ?_⟩
    have lf : (W fl).length = fl.length := W_len fl
    refine ⟨_, rfl, _, rfl, .inl ⟨_, rfl, by rw [lf]; omega, fun H1 s1 => ⟨_, rfl, iteBF (by rw [isW_W]; rfl) ?_⟩⟩⟩
    refine ⟨_, rfl, _, rfl, by rw [lf]; exact sl_len (by omega), _, _, rfl, rfl, _, rfl, iteDF (by rw [lf]; omega) ?_⟩
    refine ⟨_, rfl, sq, ps, kb, rfl, hS.same s1, hs.same s1, ok, fun H2 s2 => ⟨_, rfl, ?_⟩⟩
    have s02 := s1.trans s2
    have ha2 := s02 _ _ ha
    refine ⟨_, rfl, _, rfl, a, C, dx, _, rfl, ha2, RT.cl, RT.nF, by decide, ?_⟩
    have keep3 : ∀ c o, H c = some o → c ≠ a → upd H2 a (.ins C dx (putF "flag" (.str (W fl)) [])) c = some o := fun c o e n => by rw [upd_ne n]; exact s02 _ _ e
    have ha3 : upd H2 a (.ins C dx (putF "flag" (.str (W fl)) [])) a = some (.ins C dx (putF "flag" (.str (W fl)) [])) := upd_same
    have hs3 : StV (upd H2 a (.ins C dx (putF "flag" (.str (W fl)) []))) kb ps := fun t ht => keep3 _ _ (hs t ht) (ne_of (hs t ht) ha (by intro z; cases z))
    have hS3 : SqL K (upd H2 a (.ins C dx (putF "flag" (.str (W fl)) []))) sq (ps.map V.ref) ∨ SqT K (upd H2 a (.ins C dx (putF "flag" (.str (W fl)) []))) sq (ps.map V.ref) := by
      rcases hS with ((h | ⟨o, h⟩) | h) | ((h | ⟨o, h⟩) | h)
      · exact .inl (.inl (.inl (keep3 _ _ h (ne_of h ha (by intro z; cases z)))))
      · exact .inl (.inl (.inr ⟨o, keep3 _ _ h (ne_of h ha (by intro z; cases z))⟩))
      · exact .inl (.inr h)
      · exact .inr (.inl (.inl (keep3 _ _ h (ne_of h ha (by intro z; cases z)))))
      · exact .inr (.inl (.inr ⟨o, keep3 _ _ h (ne_of h ha (by intro z; cases z))⟩))
      · exact .inr (.inr h)
    generalize upd H2 a (.ins C dx (putF "flag" (.str (W fl)) [])) = H3 at keep3 ha3 hs3 hS3
    refine ⟨_, rfl, sq, ps, fun t => key (kb t), rfl, hS3, fun t ht => hs3 t ht, fun qs p1 srt prm n1 => ?_⟩
    refine ⟨p1, _, rfl, .inl ⟨SqL.of upd_same, fun p2 n2 => ?_⟩⟩
    have s5 : Same H3 (upd (upd H3 p1 (.lst (qs.map V.ref))) p2 (.tup (qs.map V.ref))) := (same_upd n1).trans (same_upd n2)
    have hT5 : upd (upd H3 p1 (.lst (qs.map V.ref))) p2 (.tup (qs.map V.ref)) p2 = some (.tup (qs.map V.ref)) := upd_same
    generalize upd (upd H3 p1 (.lst (qs.map V.ref))) p2 (.tup (qs.map V.ref)) = H5 at s5 hT5
    have ha5 := s5 _ _ ha3
    refine ⟨_, rfl, a, C, dx, _, rfl, ha5, RT.cl, RT.nS, by show 1 < 1000; decide, ?_⟩
    have na2 : p2 ≠ a := ne_of hT5 ha5 (by intro z; cases z)
    have keep6 : ∀ c o, H3 c = some o → c ≠ a → upd H5 a (.ins C dx (putF "stuffs" (.ref p2) (putF "flag" (.str (W fl)) []))) c = some o := fun c o e n => by rw [upd_ne n]; exact s5 _ _ e
    have ha6 : upd H5 a (.ins C dx (putF "stuffs" (.ref p2) (putF "flag" (.str (W fl)) []))) a = some (.ins C dx (ruF fl p2)) := upd_same
    have hT6 : upd H5 a (.ins C dx (putF "stuffs" (.ref p2) (putF "flag" (.str (W fl)) []))) p2 = some (.tup (qs.map V.ref)) := by rw [upd_ne na2]; exact hT5
    generalize upd H5 a (.ins C dx (putF "stuffs" (.ref p2) (putF "flag" (.str (W fl)) []))) = H6 at keep6 ha6 hT6
    have hs6 : StV H6 kb qs := StV.perm (fun t ht => keep6 _ _ (hs3 t ht) (ne_of (hs3 t ht) ha3 (by intro z; cases z))) prm
    have pm : (qs.map kb).Perm (ps.map kb) := prm.map kb
    have hR6 : RuAt C H6 a fl (qs.map kb) := ⟨dx, p2, qs, kb, ha6, hT6, hs6, rfl⟩
    have ok6 := ok.perm pm.symm
    refine ⟨_, rfl, a, dx, _, rfl, ha6, ruF_no _ _ (by decide +kernel) (by decide +kernel), a, fl, qs.map kb, rfl, hR6, ok6.few, ok6.long, hO.congr fun l => put_perm ok.free pm.symm l, fun H7 s7 => ⟨_, rfl, ?_⟩⟩
    exact k H7 (qs.map kb) (fun c o e n => s7 _ _ (keep6 _ _ (keep3 _ _ e n) n)) pm (pwS srt) (hR6.same s7)
end
end U
set_option maxRecDepth 100000
set_option maxHeartbeats 4000000
namespace U
open PySem PySem.Spec PyProof.Rows
open L2 hiding Fun CX0 E0 pass0 Fun.binds
open C8 Lx SX StX
inductive PutX (ss : List Stf) (l : List Bool) : List Bool → Prop
  | nil : PutX ss l []
  | snoc {y : List Bool} {b : Bool} : PutX ss l y → putM ss (l ++ y) = some b → PutX ss l (y ++ [b])
theorem PutX.ins {ss : List Stf} {l y : List Bool} (h : PutX ss l y) : ∀ {x}, Ins ss (l ++ y) x → Ins ss l (y ++ x) := by
  induction h with
  | nil => intro x hx; rw [List.append_nil] at hx; exact hx
  | @snoc y b hp hb ih =>
    intro x hx
    rw [← List.append_assoc] at hx
    have := ih (.more hb hx)
    rw [List.append_assoc]
    exact this
theorem PutX.pre {ss : List Stf} {l y : List Bool} (h : PutX ss l y) : ∀ {x}, Ins ss l x → ∃ z, x = y ++ z ∧ Ins ss (l ++ y) z := by
  induction h with
  | nil => intro x hx; exact ⟨x, rfl, by rw [List.append_nil]; exact hx⟩
  | @snoc y b hp hb ih =>
    intro x hx
    obtain ⟨z, rfl, hz⟩ := ih hx
    cases hz with
    | stop h => rw [hb] at h; cases h
    | @more _ z' b' h1 h2 =>
      rw [hb] at h1
      cases Option.some.inj h1
      exact ⟨z', by simp, by rw [← List.append_assoc]; exact h2⟩
def OutR (ss : List Stf) (l : List Bool) (o : Option (List Bool)) : Prop := (∀ x, o = some x → Ins ss l x) ∧ (o = none → ∀ x, ¬ Ins ss l x)
theorem oWx_non (o : Option (List Bool)) : decide (oW o = .non) = o.isNone := by
  cases o with
  | none => exact decide_eq_true rfl
  | some _ => exact decide_eq_false (fun z => by cases z)
def spPutInX (C : Addr) : Sp := fun vs H Q _ => ∃ (a : Addr) (f : List Bool) (ss : List Stf) (l : List Bool), vs = [.ref a, .str (W l)] ∧ RuAt C H a f ss ∧ ss.length ≤ 1000 ∧ longM ss ≤ 9 ∧ l.length ≤ 40000 ∧ ∀ o H', OutR ss l o → Same H H' → Q (oW o) H'
def spEndlessX (C : Addr) : Sp := fun vs H Q _ => ∃ (a : Addr) (f : List Bool) (ss : List Stf), vs = [.ref a] ∧ RuAt C H a f ss ∧ ss.length ≤ 1000 ∧ longM ss ≤ 9 ∧ ∀ b H', (b = true ↔ ¬ OkR ss) → Same H H' → Q (.bl b) H'
section
variable {P : Program} {w : World} {K : PySem.W.Frag} {mg : Str → Option Value} {base : Heap}
theorem met_put_inX {f C : Addr} {fd : FuncData} (F : C8.Fun K "put_in" "Rule.put_in" s_Rule_put_in f fd) (me : Meth K C "put_in" f) (b : Binds K fd ["self", "line"] []) (T : Tx mg) (RT : RuT K C)
    (c_put : Met P w K mg base 1 C "put" (spPut C) []) (p_longest : Prp P w K mg base 1 C "longest" (spLongest C)) (c_tail : Cal P w K mg base 1 "tail" spTail []) : Met P w K mg base 3 C "put_in" (spPutInX C) [] := by
  refine met0 RT.cl me F b sc_Rule_put_in (fun vs H Q E h => ?_) (fun cdv A outer s H vs Q E hr h => ?_)
  · obtain ⟨_, _, _, _, rfl, _⟩ := h; rfl
  · obtain ⟨a, fl, ss, l, rfl, hR, hn, h9, hl, k⟩ := h
    refine ⟨_, (pss_cons (ps_par (i := 2) (j := 3) (by rfl) sc_Rule_put_in.nd rfl rfl (by decide) rfl rfl (pa_cons pe_str (pa_cons pe_dnewK pa_nil)) (by rfl))
    (pss_cons (ps_set (i := 4) sc_Rule_put_in.nd rfl (.inl rfl) (pe_mt (pl := _) c_put hr (by decide) (pv 0) (pa_cons (pv 1) pa_nil)))
    (pss_cons (ps_while PassesOwn.never (pt_cmpR op_notN (pv 4) pe_non (nomark _))
    (pss_cons (ps_set (i := 5) sc_Rule_put_in.nd rfl (.inl rfl) (pe_c c_tail hr (by decide) rfl (pa_cons (pe_op op_add_str (pv 1) (pv 2)) (pa_cons (pe_pr p_longest hr (by decide) (pv 0)) pa_nil))))
    (pss_cons (ps_if (pt_cmp (pc_din (hu_of hr) (pv 5) (pv 3))) (pss_one (ps_ret pe_non)) pss_nil)
    (pss_cons (ps_dput (hu_of hr) (pv 3) (pv 5) pe_bl rfl)
    (pss_cons (ps_aug (i := 2) sc_Rule_put_in.nd rfl (.inl rfl) (pv 4) iop_add_str)
    (pss_one (ps_set (i := 4) sc_Rule_put_in.nd rfl (.inl rfl) (pe_mt (pl := _) c_put hr (by decide) (pv 0) (pa_cons (pe_op op_add_str (pv 1) (pv 2)) pa_nil)))))))))
    (pss_one (ps_ret (pv 2)))))), ?_⟩
    have hL : ∀ s ∈ ss, s.1.length ≤ longM ss := fun s hs => longM_le hs
    have hpw := p10 h9
    have hat : ∀ {H2 : Hp}, Same H H2 → ∃ dx t, H2 a = some (.ins C dx (ruF fl t)) := fun s2 => by
      obtain ⟨dx, t, _, _, ha, _⟩ := hR.same s2
      exact ⟨dx, t, ha⟩
    have e1 : (W l).length = l.length := W_len l
    refine fun D nD => ⟨_, _, rfl, ?_⟩
    have s1 : Same H (upd H D (.dK [])) := same_upd nD
    have hD1 : upd H D (.dK []) D = some (.dK []) := upd_same
    generalize upd H D (.dK []) = H1 at s1 hD1
    obtain ⟨dx, t, ha⟩ := hat s1
    refine ⟨_, rfl, a, dx, _, rfl, ha, ruF_no _ _ (by decide +kernel) (by decide +kernel), _, rfl, a, fl, ss, l, rfl, hR.same s1, fun H2 s2 => ?_⟩
    refine ⟨fun m σ H3 => ∃ (y : List Bool) (v5 : Option V), y.length + m = 1024 ∧ PutX ss l y ∧ ((List.range y.length).map fun i => tl (longM ss) (l ++ y.take i)).Nodup ∧ σ = [some (.ref a), some (.str (W l)), some (.str (W y)), some (.ref D), some (oB (putM ss (l ++ y))), v5] ∧ Same H H3 ∧ H3 D = some (.dK (kst ((List.range y.length).map fun i => tl (longM ss) (l ++ y.take i)))),
      ⟨1024, [], none, rfl, .nil, List.nodup_nil, by rw [List.append_nil, ← W_nil]; rfl, s1.trans s2, s2 _ _ hD1⟩, ?_⟩
    rintro m σ H3 ⟨y, v5, hm, hP, hnd, rfl, s3, hD3⟩
    refine ⟨_, rfl, rfl, _, rfl, ?_⟩
    rw [oB_non]
    cases hput : putM ss (l ++ y) with
    | none =>
      refine ⟨_, rfl, ?_⟩
      have e := hP.ins (.stop hput)
      rw [List.append_nil] at e
      exact k (some y) H3 ⟨fun x hx => Option.some.inj hx ▸ e, fun z => by cases z⟩ s3
    | some c =>
      refine ⟨fun σ' H' => ∃ m', m' < m ∧ ∃ (y : List Bool) (v5 : Option V), y.length + m' = 1024 ∧ PutX ss l y ∧ ((List.range y.length).map fun i => tl (longM ss) (l ++ y.take i)).Nodup ∧ σ' = [some (.ref a), some (.str (W l)), some (.str (W y)), some (.ref D), some (oB (putM ss (l ++ y))), v5] ∧ Same H H' ∧ H' D = some (.dK (kst ((List.range y.length).map fun i => tl (longM ss) (l ++ y.take i)))), fun _ _ h => h, ?_⟩
      have hfew : y.length + 1 ≤ 2 ^ (longM ss + 1) := by
        have := words_le hnd (fun w hw => by obtain ⟨i, _, rfl⟩ := List.mem_map.mp hw; exact tl_le _ _)
        rw [List.length_map, List.length_range] at this
        exact this
      have e2 : (W y).length = y.length := W_len _
      obtain ⟨dx3, t3, ha3⟩ := hat s3
      refine ⟨_, rfl, _, rfl, _, _, rfl, rfl, by rw [e1, e2]; exact sl_len (by omega), _, rfl, a, dx3, _, rfl, ha3, a, fl, ss, rfl, hR.same s3, hn, fun s hs => Nat.le_trans (longM_le hs) (by omega), fun H4 s4 => ?_⟩
      refine ⟨l ++ y, longM ss, by rw [← W_cat l]; rfl, by rw [List.length_append]; omega, ?_⟩
      have hD4 := s4 _ _ hD3
      have s34 := s3.trans s4
      by_cases nin : tl (longM ss) (l ++ y) ∈ (List.range y.length).map fun i => tl (longM ss) (l ++ y.take i)
      · refine ⟨_, rfl, _, rfl, D, _, rfl, DGet.k (k := .inr (W (tl (longM ss) (l ++ y)))) hD4, _, rfl, iteBT (by rw [val_in nin]; rfl) ?_⟩
        refine k none H4 ⟨fun x z => (by cases z), fun _ x hx => ?_⟩ s34
        obtain ⟨z, rfl, hz⟩ := hP.pre hx
        obtain ⟨i, hi, e⟩ := List.mem_map.mp nin
        have hi' := List.mem_range.mp hi
        have t1 : (y ++ z).take i = y.take i := List.take_append_of_le_length (by omega)
        have t2 : (y ++ z).take y.length = y := List.take_left' rfl
        have := hx.apart hL (i := i) (j := y.length) (by rw [List.length_append]; omega) (by rw [List.length_append]; omega) (by rw [t1, t2]; exact e)
        omega
      · refine ⟨_, rfl, _, rfl, D, _, rfl, DGet.k (k := .inr (W (tl (longM ss) (l ++ y)))) hD4, _, rfl, iteBF (by rw [val_out nin]; rfl) ?_⟩
        refine ⟨_, rfl, _, rfl, D, _, rfl, DPut.k (k := .inr (W (tl (longM ss) (l ++ y)))) hD4 (by unfold kst; rw [List.length_map, List.length_map, List.length_range]; exact sl_lt (by omega)), ?_⟩
        rw [put_out nin]
        have ek : ((List.range y.length).map fun i => tl (longM ss) (l ++ y.take i)) ++ [tl (longM ss) (l ++ y)] = (List.range (y ++ [c]).length).map fun i => tl (longM ss) (l ++ (y ++ [c]).take i) := by
          rw [List.length_append, show [c].length = 1 from rfl, List.range_succ, List.map_append]
          congr 1
          · refine List.map_congr_left fun i hi => ?_
            have := List.mem_range.mp hi
            rw [List.take_append_of_le_length (by omega)]
          · show [tl (longM ss) (l ++ y)] = [tl (longM ss) (l ++ (y ++ [c]).take y.length)]
            rw [List.take_left' rfl]
        have hnd2 : ((List.range (y ++ [c]).length).map fun i => tl (longM ss) (l ++ (y ++ [c]).take i)).Nodup := by
          rw [← ek, List.nodup_append]
          exact ⟨hnd, by simp, fun x hx z hz e => nin (by rw [← List.mem_singleton.mp hz, ← e]; exact hx)⟩
        rw [ek]
        have s5 : Same H (upd H4 D (.dK (kst ((List.range (y ++ [c]).length).map fun i => tl (longM ss) (l ++ (y ++ [c]).take i))))) := fun c o e => by
          rw [upd_ne (ne_of_none e nD)]
          exact s34 _ _ e
        have hD5 : upd H4 D (.dK (kst ((List.range (y ++ [c]).length).map fun i => tl (longM ss) (l ++ (y ++ [c]).take i)))) D = some (.dK (kst ((List.range (y ++ [c]).length).map fun i => tl (longM ss) (l ++ (y ++ [c]).take i)))) := upd_same
        generalize upd H4 D (.dK (kst ((List.range (y ++ [c]).length).map fun i => tl (longM ss) (l ++ (y ++ [c]).take i)))) = H5 at s5 hD5
        have e3 : (W [c]).length = 1 := W_len _
        refine ⟨_, rfl, _, rfl, _, _, rfl, rfl, by rw [e2, e3]; exact sl_len (by omega), ?_⟩
        rw [W_cat]
        have e4 : (W (y ++ [c])).length = y.length + 1 := by rw [W_len, List.length_append]; rfl
        obtain ⟨dx5, t5, ha5⟩ := hat s5
        refine ⟨_, rfl, a, dx5, _, rfl, ha5, ruF_no _ _ (by decide +kernel) (by decide +kernel), _, rfl, _, rfl, _, _, rfl, rfl, by rw [e1, e4]; exact sl_len (by omega), ?_⟩
        refine ⟨a, fl, ss, l ++ (y ++ [c]), by rw [← W_cat l]; rfl, hR.same s5, fun H6 s6 => ?_⟩
        exact ⟨m - 1, by omega, y ++ [c], _, by rw [List.length_append]; show _ + 1 + _ = _; omega, hP.snoc hput, hnd2, rfl, s5.trans s6, s6 _ _ hD5⟩
end
end U
set_option maxRecDepth 100000
set_option maxHeartbeats 4000000
namespace U
open PySem PySem.Spec PyProof.Rows
open L2 hiding Fun CX0 E0 pass0 Fun.binds
open C8 Lx SX StX
def kvw (ws : List (List Bool)) (g : List Bool → V) : List (Key × V) := ws.map fun w => (Sum.inr (W w), g w)
def ug {α : Type} (g : List Bool → α) (w : List Bool) (v : α) : List Bool → α := fun u => if u = w then v else g u
theorem ug_same {α : Type} {g : List Bool → α} {w : List Bool} {v : α} : ug g w v w = v := if_pos rfl
theorem ug_ne {α : Type} {g : List Bool → α} {w u : List Bool} {v : α} (h : u ≠ w) : ug g w v u = g u := if_neg h
theorem key_iff {a b : List Bool} : ((Sum.inr (W a) : Key) = Sum.inr (W b)) ↔ a = b := ⟨fun h => W_inj (Sum.inr.inj h), fun h => by rw [h]⟩
theorem kvw_len (ws : List (List Bool)) (g : List Bool → V) : (kvw ws g).length = ws.length := List.length_map _
theorem kvw_congr {ws : List (List Bool)} {g h : List Bool → V} (e : ∀ w ∈ ws, g w = h w) : kvw ws g = kvw ws h := List.map_congr_left fun w hw => by rw [e w hw]
theorem kvw_val {g : List Bool → V} {w : List Bool} : ∀ {ws : List (List Bool)}, valV (kvw ws g) (Sum.inr (W w)) = if w ∈ ws then some (g w) else none
  | [] => rfl
  | u :: r => by
    show valV ((Sum.inr (W u), g u) :: kvw r g) (Sum.inr (W w)) = _
    by_cases c : u = w
    · subst c
      rw [valV_pos rfl, if_pos List.mem_cons_self]
    · have e : valV ((Sum.inr (W u), g u) :: kvw r g) (Sum.inr (W w)) = valV (kvw r g) (Sum.inr (W w)) := by
        unfold valV
        rw [List.find?_cons_of_neg (by rw [decide_eq_true_iff]; exact fun z => c (key_iff.mp z))]
      rw [e, kvw_val]
      by_cases d : w ∈ r
      · rw [if_pos d, if_pos (List.mem_cons_of_mem _ d)]
      · rw [if_neg d, if_neg (fun z => (List.mem_cons.mp z).elim (fun z => c z.symm) d)]
theorem kvw_any {ws : List (List Bool)} {g : List Bool → V} {w : List Bool} : ((kvw ws g).any fun kv => decide (kv.1 = Sum.inr (W w))) = true ↔ w ∈ ws := by
  unfold kvw
  rw [List.any_map, List.any_eq_true]
  constructor
  · rintro ⟨u, hu, e⟩
    rw [← key_iff.mp (of_decide_eq_true e)]
    exact hu
  · exact fun h => ⟨w, h, decide_eq_true rfl⟩
theorem kvw_put {ws : List (List Bool)} {g : List Bool → V} {w : List Bool} {v : V} (h : w ∈ ws) : putK (kvw ws g) (Sum.inr (W w)) v = kvw ws (ug g w v) := by
  unfold putK
  rw [if_pos (kvw_any.mpr h)]
  unfold kvw
  rw [List.map_map]
  refine List.map_congr_left fun u hu => ?_
  show (if (Sum.inr (W u) : Key) = Sum.inr (W w) then ((Sum.inr (W u) : Key), v) else (Sum.inr (W u), g u)) = _
  by_cases c : u = w
  · rw [if_pos (key_iff.mpr c), c, ug_same]
  · rw [if_neg (fun z => c (key_iff.mp z)), ug_ne c]
theorem kvw_new {ws : List (List Bool)} {g : List Bool → V} {w : List Bool} {v : V} (h : w ∉ ws) : putK (kvw ws g) (Sum.inr (W w)) v = kvw (ws ++ [w]) (ug g w v) := by
  unfold putK
  rw [if_neg (fun z => h (kvw_any.mp z))]
  unfold kvw
  rw [List.map_append]
  congr 1
  · exact List.map_congr_left fun u hu => by
      have c : u ≠ w := fun z => h (by rw [← z]; exact hu)
      rw [ug_ne c]
  · show _ = [(Sum.inr (W w), ug g w v w)]
    rw [ug_same]
end U
set_option maxRecDepth 100000
set_option maxHeartbeats 4000000
namespace U
open PySem PySem.Spec PyProof.Rows
open L2 hiding Fun CX0 E0 pass0 Fun.binds
open C8 Lx SX StX
section
variable {J : It} {n : Nat} {G : Hp → Prop} {Y : Nat → Hp → V → Hp → Prop}
theorem dc_it (w : Walk J n G Y) {g : TG} {tt : TT} {tk tv : TE} {vs : List Nat} {σ : L2.St} {H1 : Hp} {D : Addr} {Qd : Hp → Prop} (Pv : Nat → Hp → Prop) (h0 : Pv 0 (upd H1 D (.dK []))) (hG : ∀ i H, i ≤ n → Pv i H → G H)
    (hs : ∀ i x H H', i < n → Pv i H → Y i H x H' → g x (wipe σ vs) H' fun σ2 H2 => wipe σ2 vs = wipe σ vs ∧ tt σ2 H2 fun b H3 =>
      if b = true then tk σ2 H3 fun y H4 => tv σ2 H4 fun z H5 => ∃ kvs k, y = kV k ∧ H5 D = some (.dK kvs) ∧ kvs.length < sizeLine ∧ Pv (i + 1) (upd H5 D (.dK (putK kvs k z))) else Pv (i + 1) H3) (hd : ∀ H, Pv n H → Qd H) :
    ∃ W : Nat → Nat → Hp → Prop, (∃ m, W 0 m (upd H1 D (.dK []))) ∧ ∀ i m H, W i m H →
      (J.stop i H ∧ Qd H) ∨ (J.go i H ∧ ∃ Nx : Hp → Prop, (∀ H', Nx H' → ∃ m', m' < m ∧ W (i + 1) m' H') ∧ ∀ x H', J.yld i H x H' → g x (wipe σ vs) H' fun σ2 H2 => wipe σ2 vs = wipe σ vs ∧ tt σ2 H2 fun b H3 =>
        if b = true then tk σ2 H3 fun y H4 => tv σ2 H4 fun z H5 => ∃ kvs k, y = kV k ∧ H5 D = some (.dK kvs) ∧ kvs.length < sizeLine ∧ Nx (upd H5 D (.dK (putK kvs k z))) else Nx H3) := by
  refine ⟨fun i m H => m = n - i ∧ i ≤ n ∧ Pv i H, ⟨n, by simp, Nat.zero_le _, h0⟩, ?_⟩
  rintro i m H ⟨rfl, hi, p⟩
  have q := hG i H hi p
  by_cases hlt : i < n
  · refine .inr ⟨w.goes i H hlt q, Pv (i + 1), fun H' p' => ⟨n - (i + 1), by omega, rfl, hlt, p'⟩, fun x H' y => hs i x H H' hlt p (w.yields i H x H' hlt q y)⟩
  · have e : i = n := by omega
    subst e
    exact .inl ⟨w.stops H q, hd H p⟩
end
theorem rd_same {H H' : Hp} {d : Addr} {o : HO} (h : Rd H d o) (s : Same H H') : Rd H' d o := by
  rcases h with h | ⟨od, h⟩
  · exact .inl (s _ _ h)
  · exact .inr ⟨od, s _ _ h⟩
theorem same_unlock {H H' : Hp} {d : Addr} {u o : HO} (h : Same (upd H d o) H') (hd : H d = some u) : Same H (upd H' d u) := fun c x e => by
  by_cases n : c = d
  · rw [n, upd_same, ← hd, ← n, e]
  · rw [upd_ne n]
    exact h _ _ (by rw [upd_ne n]; exact e)
theorem kvw_get {ws : List (List Bool)} {g : List Bool → V} {i : Nat} {k : Key} {v : V} (h : (kvw ws g)[i]? = some (k, v)) : ∃ w, ws[i]? = some w ∧ k = Sum.inr (W w) ∧ v = g w := by
  unfold kvw at h
  rw [List.getElem?_map] at h
  obtain ⟨w, hw, e⟩ := Option.map_eq_some_iff.mp h
  cases e
  exact ⟨w, hw, rfl, rfl⟩
theorem kvw_snoc {ws : List (List Bool)} {g : List Bool → V} {w : List Bool} {v : V} (h : w ∉ ws) (e : v = g w) : putK (kvw ws g) (Sum.inr (W w)) v = kvw (ws ++ [w]) g := by
  rw [kvw_new h]
  refine kvw_congr fun u hu => ?_
  by_cases c : u = w
  · rw [c, ug_same, e]
  · exact ug_ne c
theorem nodup_take {α : Type} {ws : List α} {i : Nat} {u : α} (h : ws.Nodup) (hu : ws[i]? = some u) : u ∉ ws.take i := fun z => by
  obtain ⟨j, hj⟩ := List.getElem?_of_mem z
  have hj2 := (List.getElem?_eq_some_iff.mp hj).1
  rw [List.length_take] at hj2
  rw [List.getElem?_take, if_pos (by omega)] at hj
  obtain ⟨a1, a2⟩ := List.getElem?_eq_some_iff.mp hu
  obtain ⟨b1, b2⟩ := List.getElem?_eq_some_iff.mp hj
  have := (List.nodup_iff_pairwise_ne.mp h)
  have hne := List.pairwise_iff_getElem.mp this j i b1 a1 (by omega)
  exact hne (by rw [b2, a2])
theorem take_snoc {α : Type} {ws : List α} {i : Nat} {u : α} (hu : ws[i]? = some u) : ws.take (i + 1) = ws.take i ++ [u] := by
  rw [List.take_add_one, hu]; rfl
end U
set_option maxRecDepth 100000
set_option maxHeartbeats 1000000
namespace U
theorem suf_rep {p m w : List Bool} (h1 : p <:+ m) (h2 : p <:+ m ++ w) : p <:+ m ++ w ++ w := by
  by_cases c : p.length ≤ w.length
  · have : p <:+ w := List.suffix_of_suffix_length_le h2 (List.suffix_append _ _) c
    exact this.trans (List.suffix_append _ _)
  · obtain ⟨p', rfl⟩ : w <:+ p := List.suffix_of_suffix_length_le (List.suffix_append _ _) h2 (by omega)
    have h3 : p' <:+ m := (List.suffix_append_self_iff.mp h2)
    have h4 : p' <:+ p' ++ w := List.suffix_of_suffix_length_le h3 h1 (by rw [List.length_append]; omega)
    exact List.suffix_append_self_iff.mpr (h4.trans h2)
theorem turns {ss : List Stf} (sf : SufFree ss) {l x : List Bool} (h : Ins ss l x) : ∀ {P Q : List Bool} {b c : Bool}, (P, b) ∈ ss → (Q, c) ∈ ss → P <:+ l → Q <:+ l ++ [b] → P <:+ l ++ [b, c] → Q <:+ l ++ [b] ++ [c, b] → False := by
  induction h with
  | stop h0 =>
    intro P Q b c hP hQ h1 h2 h3 h4
    have := (put_iff sf).mpr ⟨P, hP, h1⟩
    rw [h0] at this
    cases this
  | @more l x b' h0 _ ih =>
    intro P Q b c hP hQ h1 h2 h3 h4
    have := (put_iff sf).mpr ⟨P, hP, h1⟩
    rw [h0] at this
    cases this
    exact ih hQ hP h2 (by rw [List.append_assoc]; exact h3) h4 (by
      have := suf_rep h1 h3
      rw [List.append_assoc] at this
      rw [List.append_assoc, List.append_assoc]
      exact this)
theorem chain3 {ss : List Stf} (sf : SufFree ss) (h2 : ss.length ≤ 2) {l x : List Bool} (h : Ins ss l x) : x.length ≤ 3 := by
  refine Classical.byContradiction fun hn => ?_
  have key : ∀ i, (hi : i < x.length) → ∃ p, (p, x[i]) ∈ ss ∧ p <:+ l ++ x.take i := fun i hi => (put_iff sf).mp (h.at (List.getElem?_eq_getElem hi))
  match x, h, key, hn with
  | a :: b :: c :: d :: r, h, key, _ =>
    obtain ⟨p0, m0, s0⟩ := key 0 (by simp)
    obtain ⟨p1, m1, s1⟩ := key 1 (by simp)
    obtain ⟨p2, m2, s2⟩ := key 2 (by simp)
    obtain ⟨p3, m3, s3⟩ := key 3 (by simp)
    have m0 : (p0, a) ∈ ss := m0
    have m1 : (p1, b) ∈ ss := m1
    have m2 : (p2, c) ∈ ss := m2
    have m3 : (p3, d) ∈ ss := m3
    have t0 : p0 <:+ l ++ [] := s0
    have s1 : p1 <:+ l ++ [a] := s1
    have s2 : p2 <:+ l ++ [a, b] := s2
    have s3 : p3 <:+ l ++ [a, b, c] := s3
    rw [List.append_nil] at t0
    have same : ∀ {l : List Bool} {p : List Bool} {b : Bool} {y : List Bool}, Ins ss l y → (p, b) ∈ ss → p <:+ l → p <:+ l ++ [b] → False := fun {l p b y} hy hm g1 g2 => by
      have g3 := suf_rep g1 g2
      have g4 := suf_rep g2 g3
      rw [List.append_assoc] at g3
      exact turns sf hy hm hm g1 g2 g3 (by rw [List.append_assoc] at g4; exact g4)
    have two : ∀ {x y z : Stf}, x ∈ ss → y ∈ ss → z ∈ ss → x ≠ y → y ≠ z → x = z := fun {x y z} hx hy hz n1 n2 => by
      match ss, h2, hx, hy, hz with
      | [], _, hx, _, _ => cases hx
      | [s], _, hx, hy, _ => exact absurd ((List.mem_singleton.mp hx).trans (List.mem_singleton.mp hy).symm) n1
      | [s, t], _, hx, hy, hz =>
        simp only [List.mem_cons, List.not_mem_nil, or_false] at hx hy hz
        rcases hx with rfl | rfl <;> rcases hy with rfl | rfl <;> rcases hz with rfl | rfl <;> first | rfl | exact absurd rfl n1 | exact absurd rfl n2
    have i0 := h
    have i1 := h.drop (i := 1) (by simp)
    have i2 := h.drop (i := 2) (by simp)
    have i1 : Ins ss (l ++ [a]) (b :: c :: d :: r) := i1
    have i2 : Ins ss (l ++ [a, b]) (c :: d :: r) := i2
    by_cases c0 : (p0, a) = (p1, b)
    · cases c0
      exact same i0 m0 t0 s1
    by_cases c1 : (p1, b) = (p2, c)
    · cases c1
      exact same i1 m1 s1 (by rw [List.append_assoc]; exact s2)
    by_cases c2 : (p2, c) = (p3, d)
    · cases c2
      exact same i2 m2 s2 (by rw [List.append_assoc]; exact s3)
    have e1 := two m0 m1 m2 c0 c1
    have e2 := two m1 m2 m3 c1 c2
    cases e1
    cases e2
    exact turns sf h m0 m1 t0 s1 s2 (by rw [List.append_assoc]; exact s3)
  | [], _, _, hn => exact hn (by simp)
  | [_], _, _, hn => exact hn (by simp)
  | [_, _], _, _, hn => exact hn (by simp)
  | [_, _, _], _, _, hn => exact hn (by simp)
theorem okN3 {n : Nat} {ss : List Stf} (o : OkN n ss) (sf : SufFree ss) (h2 : ss.length ≤ 2) : OkN 3 ss := fun l r b => by
  obtain ⟨x, hx, _⟩ := o l r b
  exact ⟨x, hx, chain3 sf h2 hx⟩
open PySem in
theorem sl_big {n : Nat} (h : n ≤ 16777216) : n ≤ sizeLine := h
open PySem in
theorem sl_big2 {n : Nat} (h : n < 16777216) : n < sizeLine := h
end U
set_option maxRecDepth 100000
set_option maxHeartbeats 4000000
namespace U
open PySem PySem.Spec PyProof.Rows
open L2 hiding Fun CX0 E0 pass0 Fun.binds
open C8 Lx SX StX
def LK (H H' : Hp) : Prop := (∀ a xs, H a = some (.lst xs) → ∃ ys, H' a = some (.lst ys)) ∧ ∀ a o u, H a = some (.frz o u) → H' a = some (.frz o u)
theorem LK.refl (H : Hp) : LK H H := ⟨fun _ xs e => ⟨xs, e⟩, fun _ _ _ e => e⟩
theorem LK.trans {H H1 H2 : Hp} (x : LK H H1) (y : LK H1 H2) : LK H H2 := ⟨fun a xs e => by
  obtain ⟨ys, e1⟩ := x.1 a xs e
  exact y.1 a ys e1, fun a o u e => y.2 a o u (x.2 a o u e)⟩
theorem LK.same {H H' : Hp} (s : Same H H') : LK H H' := ⟨fun a xs e => ⟨xs, s _ _ e⟩, fun a o u e => s _ _ e⟩
theorem LK.up {b : Addr} {H H' : Hp} (hb : Box H b) (u : Up b H H') : LK H H' := by
  obtain ⟨x, y, e0⟩ := hb
  refine ⟨fun a xs e => ?_, fun a o v e => u.1 _ _ e fun z => by rw [z, e0] at e; cases e⟩
  by_cases c : a = b
  · obtain ⟨x', y', e1⟩ := u.2
    exact ⟨_, by rw [c]; exact e1⟩
  · exact ⟨xs, u.1 _ _ e c⟩
theorem LK.lst {H : Hp} {D : Addr} {ys : List V} (h : H D = none ∨ ∃ xs, H D = some (.lst xs)) : LK H (upd H D (.lst ys)) := by
  refine ⟨fun a xs e => ?_, fun a o v e => ?_⟩
  · by_cases c : a = D
    · exact ⟨ys, by rw [c]; exact upd_same⟩
    · exact ⟨xs, by rw [upd_ne c]; exact e⟩
  · have c : a ≠ D := fun z => by
      rw [z] at e
      rcases h with h | ⟨xs, h⟩ <;> rw [h] at e <;> cases e
    rw [upd_ne c]
    exact e
def scalT : V → Bool
  | .non => true
  | .bl _ => true
  | .int i => decide (i.natAbs < 1000)
  | .str z => decide (z.length ≤ 10000) && PyData.strOk z
  | _ => false
inductive AnT (H : Hp) : V → Prop
  | sc {v : V} (h : scalT v = true) : AnT H v
  | ls {a : Addr} {xs : List V} (h : H a = some (.lst xs)) : AnT H (.ref a)
  | tp {a : Addr} {xs : List V} (h : TpX H a xs) (l : xs.length ≤ 1000) (k : ∀ x ∈ xs, AnT H x) : AnT H (.ref a)
theorem AnT.lk {H H' : Hp} (L : LK H H') {v : V} (h : AnT H v) : AnT H' v := by
  induction h with
  | sc h => exact .sc h
  | ls h =>
    obtain ⟨ys, e⟩ := L.1 _ _ h
    exact .ls e
  | tp h l _ ih =>
    obtain ⟨o, e, d⟩ := h
    exact .tp ⟨o, L.2 _ _ _ e, d⟩ l ih
theorem AnT.same {H H' : Hp} (s : Same H H') {v : V} (h : AnT H v) : AnT H' v := h.lk (LK.same s)
def OthT (K : PySem.W.Frag) (H : Hp) (x : V) (ty : String) : Prop := ∃ t, (∀ H', Same H H' → TyX K H' x t) ∧ PySem.W.kitOne K t (.type ty) = some false
theorem OthT.same {K : PySem.W.Frag} {H H' : Hp} {x : V} {ty : String} (h : OthT K H x ty) (s : Same H H') : OthT K H' x ty := by
  obtain ⟨t, h1, h2⟩ := h
  exact ⟨t, fun H2 s2 => h1 H2 (s.trans s2), h2⟩
inductive IntR (K : PySem.W.Frag) (H : Hp) : V → Option Int → Prop
  | int (i : Int) : IntR K H (.int i) (some i)
  | bl (b : Bool) : IntR K H (.bl b) none
  | oth {x : V} (h : OthT K H x "int") : IntR K H x none
theorem IntR.same {K : PySem.W.Frag} {H H' : Hp} {x : V} {r : Option Int} (h : IntR K H x r) (s : Same H H') : IntR K H' x r := by
  cases h with
  | int i => exact .int i
  | bl b => exact .bl b
  | oth h => exact .oth (h.same s)
inductive ValR (K : PySem.W.Frag) (H : Hp) : V → Option (Int × Int) → Prop
  | oth {v : V} (h : OthT K H v "tuple") : ValR K H v none
  | len {a : Addr} {xs : List V} (h : SqT K H a xs) (n : xs.length ≠ 2) (l : xs.length ≤ 1000) : ValR K H (.ref a) none
  | bad {a : Addr} {x y : V} {rx ry : Option Int} (h : SqT K H a [x, y]) (hx : IntR K H x rx) (hy : IntR K H y ry) (n : rx = none ∨ ry = none) : ValR K H (.ref a) none
  | num {a : Addr} {p q : Int} (h : SqT K H a [.int p, .int q]) (q9 : q < 1000000000) : ValR K H (.ref a) (if 0 < q ∧ Nat.gcd p.natAbs q.natAbs = 1 then some (p, q) else none)
theorem ValR.same {K : PySem.W.Frag} {H H' : Hp} {v : V} {r : Option (Int × Int)} (h : ValR K H v r) (s : Same H H') : ValR K H' v r := by
  cases h with
  | oth h => exact .oth (h.same s)
  | len h n l => exact .len (same_tup s h) n l
  | bad h hx hy n => exact .bad (same_tup s h) (hx.same s) (hy.same s) n
  | num h q9 => exact .num (same_tup s h) q9
def entO (sz : Nat) (x : V) (r : Option (Int × Int)) : Option (List Bool × Int × Int) := match x with
  | .str z => if isW z = true ∧ z.length ≤ sz then r.map fun pq => (unW z, pq) else none
  | _ => none
inductive EntR (K : PySem.W.Frag) (H : Hp) (sz : Nat) : V → Option (List Bool × Int × Int) → Prop
  | oth {v : V} (h : OthT K H v "tuple") : EntR K H sz v none
  | len {a : Addr} {xs : List V} (h : SqT K H a xs) (n : xs.length ≠ 2) (l : xs.length ≤ 1000) : EntR K H sz (.ref a) none
  | pair {a : Addr} {x y : V} {r : Option (Int × Int)} (h : SqT K H a [x, y]) (hx : AnyS K H x) (hy : ValR K H y r) : EntR K H sz (.ref a) (entO sz x r)
theorem EntR.same {K : PySem.W.Frag} {H H' : Hp} {sz : Nat} {v : V} {r : Option (List Bool × Int × Int)} (h : EntR K H sz v r) (s : Same H H') : EntR K H' sz v r := by
  cases h with
  | oth h => exact .oth (h.same s)
  | len h n l => exact .len (same_tup s h) n l
  | pair h hx hy => exact .pair (same_tup s h) (hx.same s) (hy.same s)
def allO {α : Type} : List (Option α) → Option (List α)
  | [] => some []
  | none :: _ => none
  | some x :: r => (allO r).map (x :: ·)
theorem allO_isSome {α : Type} : ∀ rs : List (Option α), (allO rs).isSome = rs.all Option.isSome
  | [] => rfl
  | none :: _ => rfl
  | some x :: r => by
    show ((allO r).map (x :: ·)).isSome = _
    rw [Option.isSome_map, allO_isSome r]
    simp
inductive PapR (K : PySem.W.Frag) (H : Hp) (sz : Nat) : V → Option (List (List Bool × Int × Int)) → Prop
  | oth {v : V} (h : OthT K H v "tuple") : PapR K H sz v none
  | tup {a : Addr} {xs : List V} {rs : List (Option (List Bool × Int × Int))} (h : TpX H a xs) (l : xs.length ≤ 1000) (k : Paired (EntR K H sz) xs rs) : PapR K H sz (.ref a) (allO rs)
theorem PapR.same {K : PySem.W.Frag} {H H' : Hp} {sz : Nat} {v : V} {r : Option (List (List Bool × Int × Int))} (h : PapR K H sz v r) (s : Same H H') : PapR K H' sz v r := by
  cases h with
  | oth h => exact .oth (h.same s)
  | tup h l k => exact .tup (h.same s) l (L2.Paired.mapP k fun _ _ z => z.same s)
structure D5 where
  w : List Bool
  e : Addr
  t : Addr
  p : Int
  q : Int
structure EntAt (K : PySem.W.Frag) (H : Hp) (sz : Nat) (d : D5) : Prop where
  he : SqT K H d.e [.str (W d.w), .ref d.t]
  ht : SqT K H d.t [.int d.p, .int d.q]
  q0 : 0 < d.q
  q9 : d.q < 1000000000
  lw : d.w.length ≤ sz
theorem EntAt.same {K : PySem.W.Frag} {H H' : Hp} {sz : Nat} {d : D5} (h : EntAt K H sz d) (s : Same H H') : EntAt K H' sz d := ⟨same_tup s h.he, same_tup s h.ht, h.q0, h.q9, h.lw⟩
def d3 (d : D5) : List Bool × Int × Int := (d.w, d.p, d.q)
def kv5 (d : D5) : Key × V := (.inr (W d.w), .ref d.t)
theorem unW_len {z : Str} (h : isW z = true) : (unW z).length = z.length := by
  have e := isW_un h
  have := congrArg Str.length e
  rw [W_len] at this
  exact this.symm
theorem ValR.told {K : PySem.W.Frag} {H : Hp} {v : V} {p q : Int} (h : ValR K H v (some (p, q))) : ∃ a, v = .ref a ∧ SqT K H a [.int p, .int q] ∧ 0 < q ∧ q < 1000000000 := by
  generalize hr : (some (p, q) : Option (Int × Int)) = r at h
  cases h with
  | oth _ => cases hr
  | len _ _ _ => cases hr
  | bad _ _ _ _ => cases hr
  | @num a p' q' h q9 =>
    split at hr
    · rename_i c
      cases hr
      exact ⟨a, rfl, h, c.1, q9⟩
    · cases hr
theorem EntR.told {K : PySem.W.Frag} {H : Hp} {sz : Nat} {v : V} {x : List Bool × Int × Int} (h : EntR K H sz v (some x)) : ∃ d : D5, v = .ref d.e ∧ x = d3 d ∧ EntAt K H sz d := by
  generalize hr : (some x : Option (List Bool × Int × Int)) = r at h
  cases h with
  | oth _ => cases hr
  | len _ _ _ => cases hr
  | @pair a y z r h hx hy =>
    unfold entO at hr
    split at hr
    · rename_i zz
      split at hr
      · rename_i c
        cases r with
        | none => cases hr
        | some pq =>
          obtain ⟨p, q⟩ := pq
          cases hr
          obtain ⟨t, rfl, ht, q0, q9⟩ := hy.told
          exact ⟨⟨unW zz, a, t, p, q⟩, rfl, rfl, ⟨by rw [← isW_un c.1]; exact h, ht, q0, q9, by rw [unW_len c.1]; exact c.2⟩⟩
      · cases hr
    · cases hr
theorem ents_some {K : PySem.W.Frag} {H : Hp} {sz : Nat} : ∀ {xs : List V} {rs : List (Option (List Bool × Int × Int))} {es : List (List Bool × Int × Int)}, Paired (EntR K H sz) xs rs → allO rs = some es →
    ∃ ds : List D5, xs = ds.map (fun d => V.ref d.e) ∧ es = ds.map d3 ∧ ∀ d ∈ ds, EntAt K H sz d
  | _, _, _, .nil, e => by
    cases e
    exact ⟨[], rfl, rfl, fun _ h => nomatch h⟩
  | _, none :: _, _, .cons h t, e => by cases e
  | _, some x :: r, es, .cons h t, e => by
    have e' : (allO r).map (x :: ·) = some es := e
    cases hr : allO r with
    | none => rw [hr] at e'; cases e'
    | some es' =>
      rw [hr] at e'
      cases e'
      obtain ⟨d, rfl, rfl, hd⟩ := h.told
      obtain ⟨ds, rfl, rfl, hds⟩ := ents_some t hr
      exact ⟨d :: ds, rfl, rfl, fun u hu => (List.mem_cons.mp hu).elim (fun z => z ▸ hd) (hds u)⟩
def KeptB (ss : List Stf) (v0 v1 : Int) (es : List (List Bool × Int × Int)) (e : List Bool × Int × Int) (b : Bool) : Prop :=
  ∃ (x : List Bool) (P Q : Int), Ins ss (e.1 ++ [b]) x ∧ (tl (longM ss) (e.1 ++ [b] ++ x), P, Q) ∈ es ∧ (e.2.1 * v1 + ((x.length : Nat) * v1 - v0) * e.2.2) * Q ≤ P * (e.2.2 * v1)
def HoldP (ss : List Stf) (v0 v1 : Int) (es : List (List Bool × Int × Int)) : Prop := (es.map (·.1)).Nodup ∧ [] ∈ es.map (·.1) ∧ ∀ e ∈ es, ∀ b, KeptB ss v0 v1 es e b
theorem key5_ne {u v : List Bool} (h : u ≠ v) : (.inr (W u) : Key) ≠ .inr (W v) := fun z => h (W_inj (Sum.inr.inj z))
theorem merge_snoc (l : List (Key × V)) (kv : Key × V) : mergeK [] (l ++ [kv]) = putK (mergeK [] l) kv.1 kv.2 := by
  unfold mergeK
  rw [List.foldl_append]
  rfl
theorem put_keys (kvs : List (Key × V)) (k : Key) (v : V) : ∀ x, x ∈ (putK kvs k v).map (·.1) ↔ x ∈ kvs.map (·.1) ∨ x = k := fun x => by
  unfold putK
  split
  · rename_i c
    have hk : k ∈ kvs.map (·.1) := by
      rw [List.any_eq_true] at c
      obtain ⟨p, hp, e⟩ := c
      exact List.mem_map.mpr ⟨p, hp, of_decide_eq_true e⟩
    have e : (kvs.map fun kv => if kv.1 = k then (kv.1, v) else kv).map (·.1) = kvs.map (·.1) := by
      rw [List.map_map]
      refine List.map_congr_left fun p _ => ?_
      show (if p.1 = k then (p.1, v) else p).1 = p.1
      split <;> rfl
    rw [e]
    exact ⟨.inl, fun h => h.elim id fun z => z ▸ hk⟩
  · rw [List.map_append]
    simp
theorem merge_nodup : ∀ (l : List (Key × V)), (l.map (·.1)).Nodup → mergeK [] l = l := by
  have gen : ∀ (l acc : List (Key × V)), ((acc ++ l).map (·.1)).Nodup → mergeK acc l = acc ++ l := by
    intro l
    induction l with
    | nil => intro acc _; rw [List.append_nil]; rfl
    | cons p r ih =>
      intro acc h
      show mergeK (putK acc p.1 p.2) r = _
      have hn : valV acc p.1 = none := by
        cases e : valV acc p.1 with
        | none => rfl
        | some y =>
          have h2 : (acc.any fun kv => decide (kv.1 = p.1)) = true := by rw [valV_any, e]; rfl
          rw [List.any_eq_true] at h2
          obtain ⟨q, hq, e2⟩ := h2
          rw [List.map_append, List.nodup_append] at h
          exact absurd (of_decide_eq_true e2) (h.2.2 q.1 (List.mem_map.mpr ⟨q, hq, rfl⟩) p.1 List.mem_cons_self)
      rw [putK_new _ hn, ih (acc ++ [(p.1, p.2)]) (by rw [List.append_assoc]; exact h), List.append_assoc]
      rfl
  exact fun l h => gen l [] h
theorem merge_len_lt : ∀ (l : List (Key × V)), ¬ (l.map (·.1)).Nodup → (mergeK [] l).length < l.length := by
  have gen : ∀ (l acc : List (Key × V)), (acc.map (·.1)).Nodup → ¬ ((acc ++ l).map (·.1)).Nodup → (mergeK acc l).length < acc.length + l.length := by
    intro l
    induction l with
    | nil => intro acc h1 h2; rw [List.append_nil] at h2; exact absurd h1 h2
    | cons p r ih =>
      intro acc h1 h2
      show (mergeK (putK acc p.1 p.2) r).length < _
      cases e : valV acc p.1 with
      | none =>
        have hn : p.1 ∉ acc.map (·.1) := fun hm => by
          obtain ⟨q, hq, e2⟩ := List.mem_map.mp hm
          have h3 : (acc.any fun kv => decide (kv.1 = p.1)) = true := List.any_eq_true.mpr ⟨q, hq, decide_eq_true e2⟩
          rw [valV_any, e] at h3
          cases h3
        rw [putK_new _ e]
        have := ih (acc ++ [(p.1, p.2)]) (by
          rw [List.map_append, List.nodup_append]
          exact ⟨h1, by simp, fun a ha b hb z => hn (by have e3 := List.mem_singleton.mp hb; rw [z, e3] at ha; exact ha)⟩) (by rw [List.append_assoc]; exact h2)
        rw [List.length_append] at this
        simp only [List.length_cons, List.length_nil] at this ⊢
        omega
      | some y =>
        have h3 : (acc.any fun kv => decide (kv.1 = p.1)) = true := by rw [valV_any, e]; rfl
        have hl : (putK acc p.1 p.2).length = acc.length := by
          unfold putK
          rw [if_pos h3, List.length_map]
        have := length_mergeK r (putK acc p.1 p.2)
        rw [hl] at this
        rw [List.length_cons]
        omega
  exact fun l h => by
    have := gen l [] List.nodup_nil h
    rw [List.length_nil, Nat.zero_add] at this
    exact this
theorem keys5 (ds : List D5) : (ds.map kv5).map (·.1) = (ds.map (·.w)).map fun w => (.inr (W w) : Key) := by rw [List.map_map, List.map_map]; rfl
theorem nodup5 (ds : List D5) : ((ds.map kv5).map (·.1)).Nodup ↔ (ds.map (·.w)).Nodup := by
  rw [keys5]
  refine ⟨fun h => ?_, fun h => ?_⟩
  · rw [List.Nodup, List.pairwise_map] at h
    exact List.Pairwise.imp (fun {a b} hab z => hab (by rw [z])) h
  rw [List.Nodup, List.pairwise_map]
  exact List.Pairwise.imp (fun {a b} hab => key5_ne hab) h
theorem val5_in : ∀ {ds : List D5} {d : D5}, (ds.map (·.w)).Nodup → d ∈ ds → valV (ds.map kv5) (.inr (W d.w)) = some (.ref d.t)
  | e :: r, d, hn, h => by
    rw [List.map_cons, List.nodup_cons] at hn
    rcases List.mem_cons.mp h with rfl | h
    · exact valV_pos rfl
    · rw [List.map_cons, valV_neg (fun z => hn.1 (by
        have : e.w = d.w := W_inj (Sum.inr.inj z)
        rw [this]
        exact List.mem_map.mpr ⟨d, h, rfl⟩))]
      exact val5_in hn.2 h
theorem val5_out : ∀ {ds : List D5} {u : List Bool}, u ∉ ds.map (·.w) → valV (ds.map kv5) (.inr (W u)) = none
  | [], _, _ => rfl
  | e :: r, u, h => by
    rw [List.map_cons, List.mem_cons, not_or] at h
    rw [List.map_cons, valV_neg (fun z => h.1 (W_inj (Sum.inr.inj z)).symm)]
    exact val5_out h.2
theorem w_of (ds : List D5) : (ds.map d3).map (·.1) = ds.map (·.w) := by rw [List.map_map]; rfl
end U
set_option maxRecDepth 100000
set_option maxHeartbeats 4000000
namespace U
open PySem PySem.Spec PyProof.Rows
open L2 hiding Fun CX0 E0 pass0 Fun.binds
open C8 Lx SX StX
def spIntX (K : PySem.W.Frag) : Sp := fun vs H Q _ => ∃ (v : V) (r : Option Int), vs = [v] ∧ IntR K H v r ∧ ∀ H', Same H H' → Q (.bl r.isSome) H'
def spValX (K : PySem.W.Frag) : Sp := fun vs H Q _ => ∃ (v : V) (r : Option (Int × Int)), vs = [v] ∧ ValR K H v r ∧ ∀ H', Same H H' → Q (.bl r.isSome) H'
def spEntX (K : PySem.W.Frag) (C : Addr) : Sp := fun vs H Q _ => ∃ (a : Addr) (f : List Bool) (ss : List Stf) (v : V) (r : Option (List Bool × Int × Int)), vs = [.ref a, v] ∧ RuAt C H a f ss ∧ StOk ss ∧ EntR K H (longM ss) v r ∧ ∀ H', Same H H' → Q (.bl r.isSome) H'
def spMoveX (C : Addr) : Sp := fun vs H Q _ => ∃ (a : Addr) (f : List Bool) (ss : List Stf) (t : List Bool) (b : Bool), vs = [.ref a, .str (W t), .str (W [b])] ∧ RuAt C H a f ss ∧ StOk ss ∧ ss.length ≤ 2 ∧ t.length ≤ 1000 ∧
  (∀ H', Same H H' → (∀ x, ¬ Ins ss (t ++ [b]) x) → Q .non H') ∧ ∀ x p H', Ins ss (t ++ [b]) x → H p = none → Same H H' → H' p = some (.tup [.int (x.length : Nat), .str (W (tl (longM ss) (t ++ [b] ++ x)))]) → Q (.ref p) H'
def spAtMostX (K : PySem.W.Frag) : Sp := fun vs H Q _ => ∃ (a b : Addr) (p q r s : Int), vs = [.ref a, .ref b] ∧ SqT K H a [.int p, .int q] ∧ SqT K H b [.int r, .int s] ∧ 0 < q ∧ q ≤ 2000000000000000000 ∧ 0 < s ∧ s ≤ 2000000000000000000 ∧ Q (.bl (decide (p * s ≤ r * q))) H
def spKeptX (K : PySem.W.Frag) (C : Addr) : Sp := fun vs H Q _ => ∃ (a tv D : Addr) (f : List Bool) (ss : List Stf) (ds : List D5) (d : D5) (v0 v1 : Int), vs = [.ref a, .ref tv, .ref D, .str (W d.w)] ∧ RuAt C H a f ss ∧ StOk ss ∧ ss.length ≤ 2 ∧
  SqT K H tv [.int v0, .int v1] ∧ 0 < v1 ∧ v1 < 1000000000 ∧ Rd H D (.dK (ds.map kv5)) ∧ (ds.map (·.w)).Nodup ∧ (∀ d ∈ ds, EntAt K H (longM ss) d) ∧ d ∈ ds ∧
  ∀ c H', (c = true ↔ ∀ b, KeptB ss v0 v1 (ds.map d3) (d3 d) b) → Same H H' → Q (.bl c) H'
def spPapX (K : PySem.W.Frag) (C : Addr) : Sp := fun vs H Q _ => ∃ (a tv : Addr) (v : V) (f : List Bool) (ss : List Stf) (v0 v1 : Int) (r : Option (List (List Bool × Int × Int))), vs = [.ref a, .ref tv, v] ∧ RuAt C H a f ss ∧ StOk ss ∧ ss.length ≤ 2 ∧
  SqT K H tv [.int v0, .int v1] ∧ 0 < v1 ∧ v1 < 1000000000 ∧ PapR K H (longM ss) v r ∧ ∀ c H', (c = true ↔ ∃ es, r = some es ∧ HoldP ss v0 v1 es) → Same H H' → Q (.bl c) H'
def spCommon : Sp := fun vs H Q _ => ∃ p q : Nat, vs = [.int p, .int q] ∧ ∀ H', Same H H' → Q (.int (Nat.gcd p q : Nat)) H'
def spLowest : Sp := fun vs H Q _ => ∃ (p : Int) (q : Nat), vs = [.int p, .int q] ∧ 0 < q ∧ q < 1000000000 ∧
  ∀ t H', H t = none → Same H H' → H' t = some (.tup [.int (p / (Nat.gcd p.natAbs q : Nat)), .int ((q : Int) / (Nat.gcd p.natAbs q : Nat))]) → Q (.ref t) H'
theorem sq_ty {K : PySem.W.Frag} {H : Hp} {a : Addr} {xs : List V} (h : SqT K H a xs) : TyX K H (.ref a) (.type "tuple") := by
  rcases h with (h | ⟨o, h⟩) | ⟨o, _, _, h, c, _⟩
  · exact .base (.tup h)
  · exact .fTuple h
  · exact .kTuple h c
theorem kb_iff {c : Bool} {p : Prop} (h : c = true ↔ p) (hn : ¬ p) : c = false := by
  cases c with
  | false => rfl
  | true => exact absurd (h.mp rfl) hn
theorem eq_low {p q : Int} {g : Nat} (q0 : 0 < q) (hg : 0 < g) : PyData.eqv (.tuple [.int (p / (g : Nat)), .int (q / (g : Nat))]) (.tuple [.int p, .int q]) = decide (g = 1) := by
  by_cases c : g = 1
  · subst c
    rw [Int.natCast_one, Int.ediv_one, Int.ediv_one, decide_eq_true rfl]
    exact SeqAt.eqv_refl (.tuple [.int p, .int q]) rfl
  · rw [decide_eq_false c]
    have h : q / (g : Nat) < q := Int.ediv_lt_of_lt_mul (by omega) (by
      have := Int.mul_lt_mul_of_pos_left (show (1 : Int) < (g : Nat) by omega) q0
      omega)
    show (_ && (decide (q / (g : Nat) = q) && true)) = false
    rw [decide_eq_false (by omega)]
    exact Bool.and_false _
section
variable {P : Program} {w : World} {K : PySem.W.Frag} {mg : Str → Option Value} {base : Heap}
theorem sc_is_integer : FnScope ["value"] ["value"] (fnScope s_is_integer) := fnScope_by (by decide +kernel)
theorem cal_is_integer {f : Addr} {fd : FuncData} (F : Def K mg "is_integer" s_is_integer f fd) (b : Binds K fd ["value"] []) (T : Tx mg) : Cal P w K mg base 1 "is_integer" (spIntX K) [] := by
  refine cal0 F b .nil sc_is_integer (fun vs H Q E h => ?_) (fun cdv A outer s H vs Q E hr h => ?_)
  · obtain ⟨_, _, rfl, _⟩ := h; rfl
  · obtain ⟨v, r, rfl, hv, k⟩ := h
    refine ⟨_, (pss_one (ps_ret (pe_and (pe_callB call_isi (by rfl) T.b_isinstance (by decide +kernel) (pa_cons (pv 0) (pa_cons (pe_bltn (v := .ty "int") (u := .type "int") (by rfl) T.b_int (by decide +kernel) rfl) pa_nil))) (pe_one (pe_not (pe_callB call_isi (by rfl) T.b_isinstance (by decide +kernel) (pa_cons (pv 0) (pa_cons (pe_bltn (v := .ty "bool") (u := .type "bool") (by rfl) T.b_bool (by decide +kernel) rfl) pa_nil)))))))), ?_⟩
    cases hv with
    | int i =>
      refine ⟨_, rfl, _, _, _, _, true, rfl, .ty _, .base (.int i), kit_ty (by decide +kernel), _, rfl, ?_⟩
      refine ⟨_, rfl, _, _, _, _, false, rfl, .ty _, .base (.int i), kit_ty (by decide +kernel), _, rfl, ?_⟩
      exact k H (Same.refl H)
    | bl x =>
      refine ⟨_, rfl, _, _, _, _, true, rfl, .ty _, .base (.bl x), kit_ty (by decide +kernel), _, rfl, ?_⟩
      refine ⟨_, rfl, _, _, _, _, true, rfl, .ty _, .base (.bl x), kit_ty (by decide +kernel), _, rfl, ?_⟩
      exact k H (Same.refl H)
    | oth h =>
      obtain ⟨t, h1, h2⟩ := h
      refine ⟨_, rfl, _, _, _, _, false, rfl, .ty _, h1 H (Same.refl H), h2, _, rfl, ?_⟩
      exact k H (Same.refl H)
theorem sc_common : FnScope ["p", "q"] ["p", "q"] (fnScope s_common) := fnScope_by (by decide +kernel)
theorem cal_common {f : Addr} {fd : FuncData} (F : Def K mg "common" s_common f fd) (b : Binds K fd ["p", "q"] []) (T : Tx mg) : Cal P w K mg base 1 "common" spCommon [] := by
  refine cal0 F b .nil sc_common (fun vs H Q E h => ?_) (fun cdv A outer s H vs Q E hr h => ?_)
  · obtain ⟨_, _, rfl, _⟩ := h; rfl
  · obtain ⟨p, q, rfl, k⟩ := h
    refine ⟨_, (pss_cons (ps_while PassesOwn.never (pt_cmpR op_gt (pv 1) pe_int (nomark _))
    (pss_one (ps_par (i := 0) (j := 1) (by rfl) sc_common.nd rfl rfl (by decide) rfl rfl (pa_cons (pv 1) (pa_cons (pe_op op_mod (pv 0) (pv 1)) pa_nil)) (by rfl))))
    (pss_one (ps_ret (pv 0)))), ?_⟩
    refine ⟨fun m σ H3 => ∃ p' q' : Nat, σ = [some (.int p'), some (.int q')] ∧ H3 = H ∧ Nat.gcd p' q' = Nat.gcd p q ∧ m = q', ⟨q, p, q, rfl, rfl, rfl, rfl⟩, ?_⟩
    rintro m σ H3 ⟨p', q', rfl, rfl, hg, rfl⟩
    refine ⟨_, rfl, _, _, rfl, rfl, _, rfl, ?_⟩
    by_cases c : 0 < m
    · refine iteDT (by show (0 : Int) < (m : Nat); omega) ?_
      refine ⟨fun σ' H' => ∃ m', m' < m ∧ ∃ p' q' : Nat, σ' = [some (.int p'), some (.int q')] ∧ H' = H3 ∧ Nat.gcd p' q' = Nat.gcd p q ∧ m' = q', fun _ _ h => h, ?_⟩
      refine ⟨_, rfl, _, rfl, _, rfl, _, _, rfl, rfl, by show (0 : Int) < (m : Nat); omega, _, _, rfl, ?_⟩
      refine ⟨p' % m, Nat.mod_lt _ c, m, p' % m, rfl, rfl, ?_, rfl⟩
      rw [← hg, Nat.gcd_comm p' m, Nat.gcd_rec m p', Nat.gcd_comm]
    · refine iteDF (by show ¬ (0 : Int) < (m : Nat); omega) ?_
      have hm : m = 0 := by omega
      subst hm
      rw [Nat.gcd_zero_right] at hg
      refine ⟨_, rfl, ?_⟩
      rw [hg]
      exact k _ (Same.refl _)
theorem sc_lowest : FnScope ["p", "q", "part"] ["p", "q"] (fnScope s_lowest) := fnScope_by (by decide +kernel)
theorem cal_lowest {f : Addr} {fd : FuncData} (F : Def K mg "lowest" s_lowest f fd) (b : Binds K fd ["p", "q"] []) (T : Tx mg) (c_common : Cal P w K mg base 1 "common" spCommon []) : Cal P w K mg base 2 "lowest" spLowest [] := by
  refine cal0 F b .nil sc_lowest (fun vs H Q E h => ?_) (fun cdv A outer s H vs Q E hr h => ?_)
  · obtain ⟨_, _, rfl, _⟩ := h; rfl
  · obtain ⟨p, q, rfl, q0, q9, k⟩ := h
    refine ⟨_, (pss_cons (ps_set (i := 2) sc_lowest.nd rfl (.inl rfl) (pe_c c_common hr (by decide) rfl (pa_cons (pe_callB call_abs (by rfl) T.b_abs (by decide +kernel) (pa_cons (pv 0) pa_nil)) (pa_cons (pv 1) pa_nil))))
    (pss_one (ps_ret (pe_tup (pa_cons (pe_op op_fdiv (pv 0) (pv 2)) (pa_cons (pe_op op_fdiv (pv 1) (pv 2)) pa_nil)))))), ?_⟩
    have eabs : (if p < 0 then -p else p) = ((p.natAbs : Nat) : Int) := by split <;> omega
    have g0 : 0 < Nat.gcd p.natAbs q := Nat.gcd_pos_of_pos_right _ q0
    have g1 : Nat.gcd p.natAbs q ≤ q := Nat.gcd_le_right _ q0
    refine ⟨_, rfl, _, rfl, _, rfl, p.natAbs, q, by rw [eabs]; rfl, fun H1 s1 => ?_⟩
    refine ⟨_, rfl, _, rfl, _, _, rfl, rfl, ⟨by show (0 : Int) < ((Nat.gcd p.natAbs q : Nat) : Int); omega, by show ((Nat.gcd p.natAbs q : Nat) : Int) < 1073741824; omega⟩, ?_⟩
    refine ⟨_, rfl, _, rfl, _, _, rfl, rfl, ⟨by show (0 : Int) < ((Nat.gcd p.natAbs q : Nat) : Int); omega, by show ((Nat.gcd p.natAbs q : Nat) : Int) < 1073741824; omega⟩, by show 2 ≤ sizeLine; decide, fun t nt => ?_⟩
    exact k t _ (s1.free nt) (s1.trans (same_upd nt)) upd_same
theorem sc_is_value : FnScope ["value"] ["value"] (fnScope s_is_value) := fnScope_by (by decide +kernel)
theorem cal_is_value {f : Addr} {fd : FuncData} (F : Def K mg "is_value" s_is_value f fd) (b : Binds K fd ["value"] []) (T : Tx mg) (c_is_integer : Cal P w K mg base 1 "is_integer" (spIntX K) []) (c_lowest : Cal P w K mg base 2 "lowest" spLowest []) : Cal P w K mg base 3 "is_value" (spValX K) [] := by
  refine cal0 F b .nil sc_is_value (fun vs H Q E h => ?_) (fun cdv A outer s H vs Q E hr h => ?_)
  · obtain ⟨_, _, rfl, _⟩ := h; rfl
  · obtain ⟨v, r, rfl, hv, k⟩ := h
    refine ⟨_, (pss_cons (ps_if (PW.pt (pw_or (pt_not (pt_val (pe_callB call_isi (by rfl) T.b_isinstance (by decide +kernel) (pa_cons (pv 0) (pa_cons (pe_bltn (v := .ty "tuple") (u := .type "tuple") (by rfl) T.b_tuple (by decide +kernel) rfl) pa_nil))))) (pw_or (pt_cmpR op_ne (pe_callB call_len_seq (by rfl) T.b_len (by decide +kernel) (pa_cons (pv 0) pa_nil)) pe_int (nomark _)) (pw_or (pt_not (pt_val (pe_c c_is_integer hr (by decide) rfl (pa_cons (pe_ix ix_tup (pv 0) pe_int (fun _ _ => rfl)) pa_nil)))) (pw_or1 (pt_not (pt_val (pe_c c_is_integer hr (by decide) rfl (pa_cons (pe_ix ix_tup (pv 0) pe_int (fun _ _ => rfl)) pa_nil))))))))) (pss_one (ps_ret pe_bl)) pss_nil)
    (pss_one (ps_ret (pe_and (pe_cmpR op_gt (pe_ix ix_tup (pv 0) pe_int (fun _ _ => rfl)) pe_int (nomark _)) (pe_one (pe_cmpR (op_eqD hr.units) (pe_c c_lowest hr (by decide) rfl (pa_cons (pe_ix ix_tup (pv 0) pe_int (fun _ _ => rfl)) (pa_cons (pe_ix ix_tup (pv 0) pe_int (fun _ _ => rfl)) pa_nil))) (pv 0) (nomark _))))))), ?_⟩
    cases hv with
    | oth h =>
      obtain ⟨t, h1, h2⟩ := h
      refine ⟨_, rfl, _, _, _, _, false, rfl, .ty _, h1 H (Same.refl H), h2, _, rfl, iteT ?_⟩
      exact k H (Same.refl H)
    | @len t xs ht n l =>
      refine ⟨_, rfl, _, _, _, _, true, rfl, .ty _, sq_ty ht, kit_ty (by decide +kernel), _, rfl, iteF ?_⟩
      refine ⟨_, rfl, t, _, rfl, .inr ht, rfl, _, rfl, iteNT (fun z => n (by have := V.int.inj z; omega)) ?_⟩
      exact k H (Same.refl H)
    | @bad t x y rx ry ht hx hy n =>
      refine ⟨_, rfl, _, _, _, _, true, rfl, .ty _, sq_ty ht, kit_ty (by decide +kernel), _, rfl, iteF ?_⟩
      refine ⟨_, rfl, t, _, rfl, .inr ht, rfl, _, rfl, iteF ?_⟩
      refine ⟨_, rfl, t, _, _, _, rfl, rfl, ht, atI_nat (j := 0) rfl, x, rx, rfl, hx, fun H1 s1 => ?_⟩
      cases rx with
      | none => exact ⟨_, rfl, iteT (k H1 s1)⟩
      | some i =>
        have n : ry = none := n.elim (fun z => nomatch z) id
        subst n
        refine ⟨_, rfl, iteF ?_⟩
        refine ⟨_, rfl, t, _, _, _, rfl, rfl, same_tup s1 ht, atI_nat (j := 1) rfl, y, none, rfl, hy.same s1, fun H2 s2 => ?_⟩
        exact ⟨_, rfl, iteT (k H2 (s1.trans s2))⟩
    | @num t p q ht q9 =>
      refine ⟨_, rfl, _, _, _, _, true, rfl, .ty _, sq_ty ht, kit_ty (by decide +kernel), _, rfl, iteF ?_⟩
      refine ⟨_, rfl, t, _, rfl, .inr ht, rfl, _, rfl, iteF ?_⟩
      refine ⟨_, rfl, t, _, _, _, rfl, rfl, ht, atI_nat (j := 0) rfl, _, some p, rfl, .int p, fun H1 s1 => ⟨_, rfl, iteF ?_⟩⟩
      refine ⟨_, rfl, t, _, _, _, rfl, rfl, same_tup s1 ht, atI_nat (j := 1) rfl, _, some q, rfl, .int q, fun H2 s2 => ⟨_, rfl, iteF ?_⟩⟩
      have s12 := s1.trans s2
      have ht2 := same_tup s12 ht
      refine ⟨_, rfl, t, _, _, _, rfl, rfl, ht2, atI_nat (j := 1) rfl, _, _, rfl, rfl, _, rfl, ?_⟩
      by_cases q0 : 0 < q
      · refine iteDT q0 ?_
        obtain ⟨n, rfl⟩ := Int.eq_ofNat_of_zero_le (Int.le_of_lt q0)
        refine ⟨_, rfl, t, _, _, _, rfl, rfl, ht2, atI_nat (j := 0) rfl, _, rfl, t, _, _, _, rfl, rfl, ht2, atI_nat (j := 1) rfl, p, n, rfl, by omega, by omega, fun t1 H3 nt s3 ht1 => ?_⟩
        have g0 : 0 < Nat.gcd p.natAbs n := Nat.gcd_pos_of_pos_right _ (by omega)
        have ht3 := same_tup s3 ht2
        refine ⟨_, rfl, .tuple [.int (p / (Nat.gcd p.natAbs n : Nat)), .int ((n : Int) / (Nat.gcd p.natAbs n : Nat))], .tuple [.int p, .int n], .tup (SqT.of ht1) (.cons (.int _) (.cons (.int _) .nil)), .tup ht3 (.cons (.int _) (.cons (.int _) .nil)), rfl, rfl, ?_⟩
        rw [eq_low q0 g0]
        have := k H3 (s12.trans s3)
        by_cases c : Nat.gcd p.natAbs n = 1
        · rw [if_pos ⟨q0, c⟩] at this
          rw [decide_eq_true c]
          exact this
        · rw [if_neg (fun z => c z.2)] at this
          rw [decide_eq_false c]
          exact this
      · refine iteDF q0 ?_
        have := k H2 s12
        rw [if_neg (fun z => q0 z.1)] at this
        exact this
theorem sc_is_entry : FnScope ["rule", "value"] ["rule", "value"] (fnScope s_is_entry) := fnScope_by (by decide +kernel)
theorem cal_is_entry {f C : Addr} {fd : FuncData} (F : Def K mg "is_entry" s_is_entry f fd) (b : Binds K fd ["rule", "value"] []) (T : Tx mg) (RT : RuT K C) (c_is_word : Cal P w K mg base 1 "is_word" (spIsWord K) []) (p_longest : Prp P w K mg base 1 C "longest" (spLongest C)) (c_is_value : Cal P w K mg base 3 "is_value" (spValX K) []) : Cal P w K mg base 4 "is_entry" (spEntX K C) [] := by
  refine cal0 F b .nil sc_is_entry (fun vs H Q E h => ?_) (fun cdv A outer s H vs Q E hr h => ?_)
  · obtain ⟨_, _, _, _, _, rfl, _⟩ := h; rfl
  · obtain ⟨a, fl, ss, v, r, rfl, hR, ok, hv, k⟩ := h
    refine ⟨_, (pss_cons (ps_if (PW.pt (pw_or (pt_not (pt_val (pe_callB call_isi (by rfl) T.b_isinstance (by decide +kernel) (pa_cons (pv 1) (pa_cons (pe_bltn (v := .ty "tuple") (u := .type "tuple") (by rfl) T.b_tuple (by decide +kernel) rfl) pa_nil))))) (pw_or (pt_cmpR op_ne (pe_callB call_len_seq (by rfl) T.b_len (by decide +kernel) (pa_cons (pv 1) pa_nil)) pe_int (nomark _)) (pw_or1 (pt_not (pt_val (pe_c c_is_word hr (by decide) rfl (pa_cons (pe_ix ix_tup (pv 1) pe_int (fun _ _ => rfl)) pa_nil)))))))) (pss_one (ps_ret pe_bl)) pss_nil)
    (pss_one (ps_ret (pe_and (pe_cmpR op_le (pe_callB call_len_str (by rfl) T.b_len (by decide +kernel) (pa_cons (pe_ix ix_tup (pv 1) pe_int (fun _ _ => rfl)) pa_nil)) (pe_pr p_longest hr (by decide) (pv 0)) (nomark _)) (pe_one (pe_c c_is_value hr (by decide) rfl (pa_cons (pe_ix ix_tup (pv 1) pe_int (fun _ _ => rfl)) pa_nil))))))), ?_⟩
    cases hv with
    | oth h =>
      obtain ⟨t, h1, h2⟩ := h
      refine ⟨_, rfl, _, _, _, _, false, rfl, .ty _, h1 H (Same.refl H), h2, _, rfl, iteT ?_⟩
      exact k H (Same.refl H)
    | @len t xs ht n l =>
      refine ⟨_, rfl, _, _, _, _, true, rfl, .ty _, sq_ty ht, kit_ty (by decide +kernel), _, rfl, iteF ?_⟩
      refine ⟨_, rfl, t, _, rfl, .inr ht, rfl, _, rfl, iteNT (fun z => n (by have := V.int.inj z; omega)) ?_⟩
      exact k H (Same.refl H)
    | @pair e x y r he hx hy =>
      have l9 := ok.long
      refine ⟨_, rfl, _, _, _, _, true, rfl, .ty _, sq_ty he, kit_ty (by decide +kernel), _, rfl, iteF ?_⟩
      refine ⟨_, rfl, e, _, rfl, .inr he, rfl, _, rfl, iteF ?_⟩
      refine ⟨_, rfl, e, _, _, _, rfl, rfl, he, atI_nat (j := 0) rfl, ?_⟩
      dsimp only [tNil, List.append_nil]
      refine spIsWord.any hx fun H1 s1 => ?_
      cases ew : wordB x with
      | false =>
        refine ⟨_, rfl, iteT ?_⟩
        have := k H1 s1
        rw [show entO (longM ss) x r = none by
          unfold entO
          split
          · rename_i z
            have ew : isW z = false := ew
            rw [if_neg (by rw [ew]; exact fun z => nomatch z.1)]
          · rfl] at this
        exact this
      | true =>
        refine ⟨_, rfl, iteF ?_⟩
        obtain ⟨wd, rfl⟩ := wordB_some ew
        have lwd : (W wd).length = wd.length := W_len wd
        have lw9 : (W wd).length ≤ 10000 := by
          rcases hx with ⟨z, ez, hz, _⟩ | ⟨h1, _⟩
          · rw [V.str.inj ez]; exact hz
          · exact absurd rfl (h1 _)
        obtain ⟨d1, t1, _, _, ha1, _⟩ := id (hR.same s1)
        refine ⟨_, rfl, e, _, _, _, rfl, rfl, same_tup s1 he, atI_nat (j := 0) rfl, _, rfl, by exact sl_len (by omega), ?_⟩
        refine ⟨_, rfl, a, d1, _, rfl, ha1, a, fl, ss, rfl, hR.same s1, ok.few, fun s hs => Nat.le_trans (ok.l9 s hs) (by decide), fun H2 s2 => ?_⟩
        have s12 := s1.trans s2
        refine ⟨_, _, rfl, rfl, _, rfl, ?_⟩
        by_cases c : (W wd).length ≤ longM ss
        · refine iteDT (by omega) ?_
          refine ⟨_, rfl, e, _, _, _, rfl, rfl, same_tup s12 he, atI_nat (j := 1) rfl, y, r, rfl, hy.same s12, fun H3 s3 => ?_⟩
          have := k H3 (s12.trans s3)
          rw [show (entO (longM ss) (.str (W wd)) r).isSome = r.isSome by
            show (if isW (W wd) = true ∧ (W wd).length ≤ longM ss then r.map fun pq => (unW (W wd), pq) else none).isSome = _
            rw [if_pos ⟨isW_W wd, c⟩, Option.isSome_map]] at this
          exact this
        · refine iteDF (by omega) ?_
          have := k H2 s12
          rw [show entO (longM ss) (.str (W wd)) r = none by
            show (if isW (W wd) = true ∧ (W wd).length ≤ longM ss then r.map fun pq => (unW (W wd), pq) else none) = _
            rw [if_neg (fun z => c z.2)]] at this
          exact this
theorem sc_is_at_most : FnScope ["one", "two"] ["one", "two"] (fnScope s_is_at_most) := fnScope_by (by decide +kernel)
theorem cal_is_at_most {f : Addr} {fd : FuncData} (F : Def K mg "is_at_most" s_is_at_most f fd) (b : Binds K fd ["one", "two"] []) (T : Tx mg) : Cal P w K mg base 1 "is_at_most" (spAtMostX K) [] := by
  refine cal0 F b .nil sc_is_at_most (fun vs H Q E h => ?_) (fun cdv A outer s H vs Q E hr h => ?_)
  · obtain ⟨_, _, _, _, _, _, rfl, _⟩ := h; rfl
  · obtain ⟨a, a2, p, q, r, s, rfl, h1, h2, q0, q9, s0, s9, k⟩ := h
    refine ⟨_, (pss_one (ps_ret (pe_cmpR op_le (pe_op op_mul (pe_ix ix_tup (pv 0) pe_int (fun _ _ => rfl)) (pe_ix ix_tup (pv 1) pe_int (fun _ _ => rfl))) (pe_op op_mul (pe_ix ix_tup (pv 1) pe_int (fun _ _ => rfl)) (pe_ix ix_tup (pv 0) pe_int (fun _ _ => rfl))) (nomark _)))), ?_⟩
    refine ⟨_, rfl, a, _, _, _, rfl, rfl, h1, atI_nat (j := 0) rfl, _, rfl, a2, _, _, _, rfl, rfl, h2, atI_nat (j := 1) rfl, _, _, rfl, rfl, .inr ⟨by omega, by omega⟩, ?_⟩
    refine ⟨_, rfl, a2, _, _, _, rfl, rfl, h2, atI_nat (j := 0) rfl, _, rfl, a, _, _, _, rfl, rfl, h1, atI_nat (j := 1) rfl, _, _, rfl, rfl, .inr ⟨by omega, by omega⟩, ?_⟩
    exact ⟨_, _, rfl, rfl, k⟩
theorem sc_move : FnScope ["rule", "standing", "bit", "more"] ["rule", "standing", "bit"] (fnScope s_move) := fnScope_by (by decide +kernel)
theorem cal_move {f C : Addr} {fd : FuncData} (F : Def K mg "move" s_move f fd) (b : Binds K fd ["rule", "standing", "bit"] []) (T : Tx mg) (RT : RuT K C) (c_put_inX : Met P w K mg base 3 C "put_in" (spPutInX C) []) (c_tail : Cal P w K mg base 1 "tail" spTail []) (p_longest : Prp P w K mg base 1 C "longest" (spLongest C)) : Cal P w K mg base 4 "move" (spMoveX C) [] := by
  refine cal0 F b .nil sc_move (fun vs H Q E h => ?_) (fun cdv A outer s H vs Q E hr h => ?_)
  · obtain ⟨_, _, _, _, _, rfl, _⟩ := h; rfl
  · obtain ⟨a, fl, ss, t, b, rfl, hR, ok, l2, lt, k0, k⟩ := h
    have c_put_in := c_put_inX
    refine ⟨_, (pss_cons (ps_set (i := 3) sc_move.nd rfl (.inl rfl) (pe_mt (pl := _) c_put_in hr (by decide) (pv 0) (pa_cons (pe_op op_add_str (pv 1) (pv 2)) pa_nil)))
    (pss_cons (ps_if (pt_cmpR op_isN (pv 3) pe_non (nomark _)) (pss_one (ps_ret pe_non)) pss_nil)
    (pss_one (ps_ret (pe_tup (pa_cons (pe_callB call_len_str (by rfl) T.b_len (by decide +kernel) (pa_cons (pv 3) pa_nil)) (pa_cons (pe_c c_tail hr (by decide) rfl (pa_cons (pe_op op_add_str (pe_op op_add_str (pv 1) (pv 2)) (pv 3)) (pa_cons (pe_pr p_longest hr (by decide) (pv 0)) pa_nil))) pa_nil))))))), ?_⟩
    obtain ⟨da, ta, _, _, ha, _⟩ := id hR
    have lwt : (W t).length = t.length := W_len _
    have lwb : (W [b]).length = 1 := W_len _
    have e1 : W t ++ W [b] = W (t ++ [b]) := W_cat _ _
    refine ⟨_, rfl, a, da, _, rfl, ha, ruF_no _ _ (by decide +kernel) (by decide +kernel), _, rfl, _, rfl, _, _, rfl, rfl, by rw [lwt, lwb]; exact sl_len (by omega), ?_⟩
    rw [e1]
    have lt1 : (t ++ [b]).length = t.length + 1 := by rw [List.length_append]; rfl
    refine ⟨a, fl, ss, t ++ [b], rfl, hR, ok.few, ok.long, by omega, fun o H1 ho s1 => ?_⟩
    cases o with
    | none =>
      refine ⟨_, rfl, rfl, _, rfl, iteT ?_⟩
      exact k0 H1 s1 (ho.2 rfl)
    | some x =>
      have hx := ho.1 x rfl
      have lx := chain3 ok.free l2 hx
      have lwx : (W x).length = x.length := W_len _
      refine ⟨_, rfl, rfl, _, rfl, iteF ?_⟩
      refine ⟨_, rfl, _, rfl, by rw [lwx]; exact sl_len (by omega), ?_⟩
      refine ⟨_, rfl, _, rfl, _, _, rfl, rfl, by rw [lwt, lwb]; exact sl_len (by omega), ?_⟩
      rw [e1]
      refine ⟨_, rfl, _, _, rfl, rfl, by rw [W_len, lwx]; exact sl_len (by omega), ?_⟩
      rw [W_cat]
      have hR1 := hR.same s1
      obtain ⟨d1, t1, _, _, ha1, _⟩ := id hR1
      refine ⟨_, rfl, a, d1, _, rfl, ha1, a, fl, ss, rfl, hR1, ok.few, fun s hs => Nat.le_trans (ok.l9 s hs) (by decide), fun H2 s2 => ?_⟩
      refine ⟨t ++ [b] ++ x, longM ss, rfl, by rw [List.length_append]; omega, by show 2 ≤ sizeLine; decide, fun p np => ?_⟩
      refine k x p _ hx ((s1.trans s2).free np) ((s1.trans s2).trans (same_upd np)) ?_
      rw [upd_same, W_len]
end
theorem memD5 {ds : List D5} (nd : (ds.map (·.w)).Nodup) {d : D5} (hd : d ∈ ds) {P Q : Int} (h : (d.w, P, Q) ∈ ds.map d3) : P = d.p ∧ Q = d.q := by
  obtain ⟨e, he, ee⟩ := List.mem_map.mp h
  have ew : e.w = d.w := congrArg (·.1) ee
  have : e = d := by
    have h1 := val5_in nd he
    have h2 := val5_in nd hd
    obtain ⟨i, hi⟩ := List.getElem?_of_mem he
    obtain ⟨j, hj⟩ := List.getElem?_of_mem hd
    have hi2 : (ds.map (·.w))[i]? = some e.w := by rw [List.getElem?_map, hi]; rfl
    have hj2 : (ds.map (·.w))[j]? = some e.w := by rw [List.getElem?_map, hj, ew]; rfl
    have ij := (List.getElem?_inj (List.getElem?_eq_some_iff.mp hi2).1 nd).mp (hi2.trans hj2.symm)
    rw [ij, hj] at hi
    exact (Option.some.inj hi).symm
  subst this
  have e2 : (e.p, e.q) = (P, Q) := congrArg (·.2) ee
  exact ⟨(congrArg (·.1) e2).symm, (congrArg (·.2) e2).symm⟩
theorem kept_of {ss : List Stf} {v0 v1 : Int} {ds : List D5} (nd : (ds.map (·.w)).Nodup) {d e : D5} (he : e ∈ ds) {b : Bool} {x : List Bool} (hx : Ins ss (d.w ++ [b]) x) (ew : e.w = tl (longM ss) (d.w ++ [b] ++ x)) :
    KeptB ss v0 v1 (ds.map d3) (d3 d) b ↔ (d.p * v1 + ((x.length : Nat) * v1 - v0) * d.q) * e.q ≤ e.p * (d.q * v1) := by
  constructor
  · rintro ⟨y, P, Q, hy, hm, h⟩
    have : y = x := hy.det hx
    subst this
    have hm : (tl (longM ss) (d.w ++ [b] ++ y), P, Q) ∈ ds.map d3 := hm
    rw [← ew] at hm
    obtain ⟨rfl, rfl⟩ := memD5 nd he hm
    exact h
  · intro h
    exact ⟨x, e.p, e.q, hx, List.mem_map.mpr ⟨e, he, by show (e.w, _, _) = _; rw [ew]; rfl⟩, h⟩
theorem kept_no {ss : List Stf} {v0 v1 : Int} {ds : List D5} {d : D5} {b : Bool} {x : List Bool} (hx : Ins ss (d.w ++ [b]) x) (h : tl (longM ss) (d.w ++ [b] ++ x) ∉ ds.map (·.w)) : ¬ KeptB ss v0 v1 (ds.map d3) (d3 d) b := by
  rintro ⟨y, P, Q, hy, hm, _⟩
  have : y = x := hy.det hx
  subst this
  refine h ?_
  rw [← w_of]
  exact List.mem_map.mpr ⟨_, hm, rfl⟩
open Classical in
noncomputable def kbB (ss : List Stf) (v0 v1 : Int) (es : List (List Bool × Int × Int)) (d : D5) : Bool := decide (∀ b, KeptB ss v0 v1 es (d3 d) b)
open Classical in
theorem kbB_eq {ss : List Stf} {v0 v1 : Int} {es : List (List Bool × Int × Int)} {d : D5} {c : Bool} (h : c = true ↔ ∀ b, KeptB ss v0 v1 es (d3 d) b) : c = kbB ss v0 v1 es d := by
  unfold kbB
  by_cases g : ∀ b, KeptB ss v0 v1 es (d3 d) b
  · rw [h.mpr g, decide_eq_true g]
  · rw [decide_eq_false g]
    exact kb_iff h g
open Classical in
theorem kbB_iff {ss : List Stf} {v0 v1 : Int} {es : List (List Bool × Int × Int)} {d : D5} : kbB ss v0 v1 es d = true ↔ ∀ b, KeptB ss v0 v1 es (d3 d) b := by unfold kbB; exact decide_eq_true_iff
section
variable {P : Program} {w : World} {K : PySem.W.Frag} {mg : Str → Option Value} {base : Heap}
theorem sc_is_kept : FnScope ["rule", "value", "heights", "here", "bit", "told", "many", "there", "p", "q"] ["rule", "value", "heights", "here"] (fnScope s_is_kept) := fnScope_by (by decide +kernel)
theorem cal_is_kept {f C : Addr} {fd : FuncData} {tB : Tok} (F : Def K mg "is_kept" s_is_kept f fd) (b : Binds K fd ["rule", "value", "heights", "here"] []) (T : Tx mg) (g_BITS : mg "BITS" = some (.str "01" tB)) (c_move : Cal P w K mg base 4 "move" (spMoveX C) []) (c_is_at_most : Cal P w K mg base 1 "is_at_most" (spAtMostX K) []) : Cal P w K mg base 5 "is_kept" (spKeptX K C) [] := by
  refine cal0 F b .nil sc_is_kept (fun vs H Q E h => ?_) (fun cdv A outer s H vs Q E hr h => ?_)
  · obtain ⟨_, _, _, _, _, _, _, _, _, rfl, _⟩ := h; rfl
  · obtain ⟨a, tv, D, fl, ss, ds, d, v0, v1, rfl, hR, ok, l2, htv, q0, q9, hD, nd, hE, hd, k⟩ := h
    refine ⟨_, (pss_cons (ps_for PassesOwn.never rfl (pi_str (pe_glob (v := .str "01") (by rfl) g_BITS ⟨_, rfl⟩)) (pg_name (i := 4) sc_is_kept.nd rfl (.inl rfl))
    (pss_cons (ps_set (i := 5) sc_is_kept.nd rfl (.inl rfl) (pe_c c_move hr (by decide) rfl (pa_cons (pv 0) (pa_cons (pv 3) (pa_cons (pv 4) pa_nil)))))
    (pss_cons (ps_if (PW.pt (pw_or (pt_cmpR op_isN (pv 5) pe_non (nomark _)) (pw_or1 (pt_cmp (pc_dnotin (hu_of hr) (pe_ix ix_tup (pv 5) pe_int (fun _ _ => rfl)) (pv 2)))))) (pss_one (ps_ret pe_bl)) pss_nil)
    (pss_cons (ps_asg (pv 5) (pg_tup rfl (pgs_cons (pg_name (i := 6) sc_is_kept.nd rfl (.inl rfl)) (pgs_cons (pg_name (i := 7) sc_is_kept.nd rfl (.inl rfl)) pgs_nil))))
    (pss_cons (ps_asg (pe_dget (hu_of hr) (pv 2) (pv 3) (fun _ _ => rfl)) (pg_tup rfl (pgs_cons (pg_name (i := 8) sc_is_kept.nd rfl (.inl rfl)) (pgs_cons (pg_name (i := 9) sc_is_kept.nd rfl (.inl rfl)) pgs_nil))))
    (pss_one (ps_if (pt_not (pt_val (pe_c c_is_at_most hr (by decide) rfl (pa_cons (pe_tup (pa_cons (pe_op op_add (pe_op op_mul (pv 8) (pe_ix ix_tup (pv 1) pe_int (fun _ _ => rfl))) (pe_op op_mul (pe_op op_sub (pe_op op_mul (pv 6) (pe_ix ix_tup (pv 1) pe_int (fun _ _ => rfl))) (pe_ix ix_tup (pv 1) pe_int (fun _ _ => rfl))) (pv 9))) (pa_cons (pe_op op_mul (pv 9) (pe_ix ix_tup (pv 1) pe_int (fun _ _ => rfl))) pa_nil))) (pa_cons (pe_dget (hu_of hr) (pv 2) (pv 7) (fun _ _ => rfl)) pa_nil))))) (pss_one (ps_ret pe_bl)) pss_nil)))))))
    (pss_one (ps_ret pe_bl))), ?_⟩
    have l9 := ok.long
    refine ⟨_, rfl, ?_⟩
    refine for_it walk_str (fun i σ H1 => ∃ v4 v5 v6 v7 v8 v9 : Option V, σ = [some (.ref a), some (.ref tv), some (.ref D), some (.str (W d.w)), v4, v5, v6, v7, v8, v9] ∧ Same H H1 ∧ ∀ j bb, j < i → [false, true][j]? = some bb → KeptB ss v0 v1 (ds.map d3) (d3 d) bb) ⟨_, _, _, _, _, _, rfl, Same.refl H, fun _ _ z => absurd z (Nat.not_lt_zero _)⟩ (fun _ _ _ _ _ => trivial) ?_ ?_
    · rintro i x σ H1' H1 hi ⟨v4, v5, v6, v7, v8, v9, rfl, s1, hks⟩ ⟨rfl, ch, hch, rfl⟩
      rw [show ("01" : Str) = W [false, true] by decide +kernel] at hch
      obtain ⟨bb, hbb, rfl⟩ := W_get hch
      have hEd := (hE d hd).same s1
      have lu := hEd.lw
      have fail : ∀ H', Same H H' → ¬ KeptB ss v0 v1 (ds.map d3) (d3 d) bb → Q (.bl false) H' := fun H' s' hn => k false H' ⟨fun z => (nomatch z), fun z => absurd (z bb) hn⟩ s'
      refine ⟨_, rfl, _, rfl, _, rfl, a, fl, ss, d.w, bb, rfl, hR.same s1, ok, l2, by omega, fun H2 s2 hno => ?_, fun x pt H2 hx np s2 hpt => ?_⟩
      · refine ⟨_, rfl, rfl, _, rfl, iteT (fail H2 (s1.trans s2) ?_)⟩
        rintro ⟨y, _, _, hy, _⟩
        exact hno y hy
      have lx := chain3 ok.free l2 hx
      have s12 := s1.trans s2
      have hD2 := rd_same hD s12
      have ht2 := same_tup s12 htv
      refine ⟨_, rfl, rfl, _, rfl, iteF ?_⟩
      by_cases hin : tl (longM ss) (d.w ++ [bb] ++ x) ∈ ds.map (·.w)
      rotate_left
      · have g1 : DGet H2 D (.str (W (tl (longM ss) (d.w ++ [bb] ++ x)))) none := .inl ⟨_, .inr (W _), hD2, rfl, (val5_out hin).symm⟩
        refine ⟨_, rfl, pt, _, _, _, rfl, rfl, SqT.of hpt, atI_nat (j := 1) rfl, _, rfl, D, _, rfl, g1, _, rfl, iteT ?_⟩
        exact fail H2 s12 (kept_no hx hin)
      obtain ⟨e, he, ew⟩ := List.mem_map.mp hin
      have hEe := hE e he
      have g1 : ∀ {H'}, Same H H' → DGet H' D (.str (W (tl (longM ss) (d.w ++ [bb] ++ x)))) (some (.ref e.t)) := fun {H'} s' => .inl ⟨_, .inr (W (tl (longM ss) (d.w ++ [bb] ++ x))), rd_same hD s', rfl, by rw [← ew]; exact (val5_in nd he).symm⟩
      have g2 : DGet H2 D (.str (W d.w)) (some (.ref d.t)) := .inl ⟨_, .inr (W d.w), hD2, rfl, (val5_in nd hd).symm⟩
      refine ⟨_, rfl, pt, _, _, _, rfl, rfl, SqT.of hpt, atI_nat (j := 1) rfl, _, rfl, D, _, rfl, g1 s12, _, rfl, iteF ?_⟩
      refine ⟨_, rfl, pt, _, rfl, SqT.of hpt, rfl, _, _, rfl, _, _, rfl, rfl, ?_⟩
      refine ⟨_, rfl, _, rfl, D, _, rfl, g2, d.t, _, rfl, (hEd.same s2).ht, rfl, _, _, rfl, _, _, rfl, rfl, ?_⟩
      have z0 := hEd.q0
      have z9 := hEd.q9
      have y0 := hEe.q0
      have y9 := hEe.q9
      have hb : d.q * v1 ≤ 1000000000 * 1000000000 := Int.mul_le_mul (by omega) (by omega) (by omega) (by omega)
      have hb0 : 0 < d.q * v1 := Int.mul_pos z0 q0
      refine ⟨_, rfl, _, rfl, tv, _, _, _, rfl, rfl, ht2, atI_nat (j := 1) rfl, _, _, rfl, rfl, .inr ⟨by omega, by omega⟩, ?_⟩
      refine ⟨_, rfl, _, rfl, tv, _, _, _, rfl, rfl, ht2, atI_nat (j := 1) rfl, _, _, rfl, rfl, .inr ⟨by omega, by omega⟩, ?_⟩
      refine ⟨_, rfl, tv, _, _, _, rfl, rfl, ht2, atI_nat (j := 0) rfl, _, _, rfl, rfl, _, rfl, _, _, rfl, rfl, .inr ⟨by omega, by omega⟩, _, _, rfl, rfl, ?_⟩
      refine ⟨_, rfl, _, rfl, tv, _, _, _, rfl, rfl, ht2, atI_nat (j := 1) rfl, _, _, rfl, rfl, .inr ⟨by omega, by omega⟩, by show 2 ≤ sizeLine; decide, fun tq ntq => ?_⟩
      have sq := same_upd (o := .tup [.int (d.p * v1 + ((x.length : Nat) * v1 - v0) * d.q), .int (d.q * v1)]) ntq
      have htq : upd H2 tq (.tup [.int (d.p * v1 + ((x.length : Nat) * v1 - v0) * d.q), .int (d.q * v1)]) tq = some (.tup [.int (d.p * v1 + ((x.length : Nat) * v1 - v0) * d.q), .int (d.q * v1)]) := upd_same
      generalize upd H2 tq (.tup [.int (d.p * v1 + ((x.length : Nat) * v1 - v0) * d.q), .int (d.q * v1)]) = H3 at sq htq ⊢
      have s13 := s12.trans sq
      refine ⟨_, rfl, _, rfl, D, _, rfl, g1 s13, tq, e.t, _, _, _, _, rfl, SqT.of htq, same_tup s13 hEe.ht, hb0, by omega, y0, by omega, ?_⟩
      have kk := kept_of (v0 := v0) (v1 := v1) nd he hx ew
      by_cases c : (d.p * v1 + ((x.length : Nat) * v1 - v0) * d.q) * e.q ≤ e.p * (d.q * v1)
      · refine ⟨_, rfl, iteBF (by rw [decide_eq_true c]; rfl) ?_⟩
        refine ⟨_, _, _, _, _, _, rfl, s13, fun j b' hj hb' => ?_⟩
        by_cases cj : j = i
        · rw [cj, hbb] at hb'
          cases hb'
          exact kk.mpr c
        · exact hks j b' (by omega) hb'
      · refine ⟨_, rfl, iteBT (by rw [decide_eq_false c]; rfl) ?_⟩
        exact fail H3 s13 fun z => c (kk.mp z)
    · rintro σ H1 ⟨v4, v5, v6, v7, v8, v9, rfl, s1, hks⟩
      refine k true H1 ⟨fun _ b => ?_, fun _ => rfl⟩ s1
      cases b with
      | false => exact hks 0 false (by decide +kernel) rfl
      | true => exact hks 1 true (by decide +kernel) rfl
theorem sc_rate_paper_holds : FnScope ["rule", "value", "paper", "entry", "heights", "here", "height"] ["rule", "value", "paper"] (fnScope s_rate_paper_holds) := fnScope_by (by decide +kernel)
theorem cal_rate_paper_holds {f C : Addr} {fd : FuncData} (F : Def K mg "rate_paper_holds" s_rate_paper_holds f fd) (b : Binds K fd ["rule", "value", "paper"] []) (T : Tx mg) (c_is_entry : Cal P w K mg base 4 "is_entry" (spEntX K C) []) (c_is_kept : Cal P w K mg base 5 "is_kept" (spKeptX K C) []) : Cal P w K mg base 6 "rate_paper_holds" (spPapX K C) [] := by
  refine cal0 F b .nil sc_rate_paper_holds (fun vs H Q E h => ?_) (fun cdv A outer s H vs Q E hr h => ?_)
  · obtain ⟨_, _, _, _, _, _, _, _, rfl, _⟩ := h; rfl
  · obtain ⟨a, tv, v, fl, ss, v0, v1, r, rfl, hR, ok, l2, htv, q0, q9, hv, k⟩ := h
    refine ⟨_, (pss_cons (ps_if (PW.pt (pw_or (pt_not (pt_val (pe_callB call_isi (by rfl) T.b_isinstance (by decide +kernel) (pa_cons (pv 2) (pa_cons (pe_bltn (v := .ty "tuple") (u := .type "tuple") (by rfl) T.b_tuple (by decide +kernel) rfl) pa_nil))))) (pw_or1 (pt_not (pt_val (pe_callB (cr_all rfl) (by rfl) T.b_all (by decide +kernel) (pa_cons (pe_lc (own := [("entry", 3)]) (g := gName 3) (by rfl) sc_rate_paper_holds.nd (pi_tup (pv 2)) (blkOk_by (own := [("entry", 3)]) (N := ["rule", "value", "paper", "entry", "heights", "here", "height"]) (sc := fnScope s_rate_paper_holds) (by decide +kernel)) (fun _ _ _ _ _ => (pg_name (i := 3) sc_rate_paper_holds.nd rfl (.inl rfl))) (fun _ _ _ _ _ => pts_nil) (fun _ _ _ _ _ => (pe_c c_is_entry hr (by decide) rfl (pa_cons (pv 0) (pa_cons (pv 3) pa_nil))))) pa_nil))))))) (pss_one (ps_ret pe_bl)) pss_nil)
    (pss_cons (ps_set (i := 4) sc_rate_paper_holds.nd rfl (.inr rfl) (pe_dc (own := [("here", 5), ("height", 6)]) (g := gTup K 2 (gCons (gName 5) (gCons (gName 6) gNil))) (by rfl) sc_rate_paper_holds.nd (pi_tup (pv 2)) (blkOk_by (own := [("here", 5), ("height", 6)]) (N := ["rule", "value", "paper", "entry", "heights", "here", "height"]) (sc := fnScope s_rate_paper_holds) (by decide +kernel)) (fun _ _ _ _ _ => (pg_tup rfl (pgs_cons (pg_name (i := 5) sc_rate_paper_holds.nd rfl (.inl rfl)) (pgs_cons (pg_name (i := 6) sc_rate_paper_holds.nd rfl (.inl rfl)) pgs_nil)))) (fun _ _ _ _ _ => pts_nil) (fun _ _ _ _ _ => (pv 5)) (fun _ _ _ _ _ => (pv 6))))
    (pss_cons (ps_if (PW.pt (pw_or (pt_cmpR op_ne (pe_callB call_lenD (by rfl) T.b_len (by decide +kernel) (pa_cons (pv 4) pa_nil)) (pe_callB call_len_seq (by rfl) T.b_len (by decide +kernel) (pa_cons (pv 2) pa_nil)) (nomark _)) (pw_or1 (pt_cmp (pc_dnotin (hu_of hr) pe_str (pv 4)))))) (pss_one (ps_ret pe_bl)) pss_nil)
    (pss_one (ps_ret (pe_callB (cr_all rfl) (by rfl) T.b_all (by decide +kernel) (pa_cons (pe_lock (pe_lc (own := [("here", 5)]) (g := gName 5) (by rfl) sc_rate_paper_holds.nd (pi_keys (pv 4)) (blkOk_by (own := [("here", 5)]) (N := ["rule", "value", "paper", "entry", "heights", "here", "height"]) (sc := fnScope s_rate_paper_holds) (by decide +kernel)) (fun _ _ _ _ _ => (pg_name (i := 5) sc_rate_paper_holds.nd rfl (.inl rfl))) (fun _ _ _ _ _ => pts_nil) (fun _ _ _ _ _ => (pe_c c_is_kept hr (by decide) rfl (pa_cons (pv 0) (pa_cons (pv 1) (pa_cons (pv 4) (pa_cons (pv 5) pa_nil)))))))) pa_nil))))))), ?_⟩
    cases hv with
    | oth h =>
      obtain ⟨t, h1, h2⟩ := h
      refine ⟨_, rfl, _, _, _, _, false, rfl, .ty _, h1 H (Same.refl H), h2, _, rfl, iteT ?_⟩
      exact k false H ⟨fun z => (nomatch z), fun ⟨_, z, _⟩ => (nomatch z)⟩ (Same.refl H)
    | @tup tp xs rs htp les hE =>
      have htq : SqT K H tp xs := htp.sq
      have lrs : xs.length = rs.length := Paired.length hE
      refine ⟨_, rfl, _, _, _, _, true, rfl, .ty _, sq_ty htq, kit_ty (by decide +kernel), _, rfl, iteF ?_⟩
      refine ⟨_, rfl, tp, rfl, ⟨_, htq⟩, fun L nL => ?_⟩
      refine lc_it (walk_tup (xs := xs)) (fun i H2 => Same H H2 ∧ H2 L = some (.lst (((rs.take i).map Option.isSome).map V.bl))) ⟨same_upd nL, upd_same⟩ (fun i H2 _ h2 => same_tup h2.1 htq) ?_ ?_
      · rintro i x H2' H2 hi ⟨s2, hL⟩ ⟨rfl, hx⟩
        have hi2 := (List.getElem?_eq_some_iff.mp hx).1
        obtain ⟨ri, hr1, hEi⟩ := paired_get hE hx
        refine ⟨rfl, _, rfl, _, rfl, a, fl, ss, x, ri, rfl, hR.same s2, ok, hEi.same s2, fun H3 s3 => ?_⟩
        refine ⟨_, s3 _ _ hL, by rw [List.length_map, List.length_map, List.length_take]; exact sl_lt (by omega), same_mut' (s2.trans s3) nL, ?_⟩
        rw [upd_same, List.take_add_one, hr1, List.map_append, List.map_append]
        rfl
      · rintro H2 ⟨s2, hL⟩
        rw [lrs, List.take_length] at hL
        refine ⟨L, _, rfl, SqL.of hL, _, rfl, ?_⟩
        have eall : (rs.map Option.isSome).all id = (allO rs).isSome := by rw [allO_isSome, List.all_map]; rfl
        rw [eall]
        cases hr : allO rs with
        | none =>
          refine iteT ?_
          exact k false H2 ⟨fun z => (nomatch z), fun ⟨_, z, _⟩ => by rw [hr] at z; cases z⟩ s2
        | some es =>
          refine iteF ?_
          obtain ⟨ds, rfl, rfl, hds⟩ := ents_some hE hr
          have k' : ∀ c H', (c = true ↔ HoldP ss v0 v1 (ds.map d3)) → Same H H' → Q (.bl c) H' := fun c H' hc s' => k c H' ⟨fun z => ⟨_, hr, hc.mp z⟩, fun ⟨es, e1, e2⟩ => hc.mpr (by rw [hr] at e1; cases e1; exact e2)⟩ s'
          have lds : ds.length ≤ 1000 := by rw [List.length_map] at les; exact les
          have htp2 := same_tup s2 htq
          refine ⟨_, rfl, tp, rfl, ⟨_, htp2⟩, fun D nD => ?_⟩
          refine dc_it (walk_tup (xs := ds.map fun d : D5 => V.ref d.e)) (fun i H3 => Same H2 H3 ∧ H3 D = some (.dK (mergeK [] ((ds.take i).map kv5)))) ⟨same_upd nD, upd_same⟩ (fun i H3 _ h3 => same_tup h3.1 htp2) ?_ ?_
          · rintro i x H3' H3 hi ⟨s3, hD⟩ ⟨rfl, hx⟩
            rw [List.getElem?_map] at hx
            obtain ⟨d, hd, rfl⟩ := Option.map_eq_some_iff.mp hx
            have hEd := (hds d (List.mem_of_getElem? hd)).same (s2.trans s3)
            refine ⟨d.e, _, rfl, hEd.he, rfl, _, _, rfl, _, _, rfl, rfl, rfl, ?_⟩
            have hlen : (mergeK [] ((ds.take i).map kv5)).length ≤ 1000 := by
              refine Nat.le_trans (length_mergeK _ []) ?_
              rw [List.length_nil, List.length_map, List.length_take]
              omega
            refine ⟨_, rfl, _, rfl, _, .inr (W d.w), rfl, hD, sl_lt (by omega), same_mut' s3 nD, ?_⟩
            rw [upd_same, List.take_add_one, hd, List.map_append]
            show _ = some (HO.dK (mergeK [] ((ds.take i).map kv5 ++ [kv5 d])))
            rw [merge_snoc]
            rfl
          · rintro H3 ⟨s3, hD⟩
            rw [List.length_map, List.take_length] at hD
            have s23 := s2.trans s3
            have htp3 := same_tup s23 htq
            refine ⟨_, rfl, D, _, rfl, hD, _, rfl, tp, _, rfl, .inr htp3, ?_⟩
            refine ⟨rfl, ?_⟩
            by_cases nd : (ds.map (·.w)).Nodup
            rotate_left
            · have hlt := merge_len_lt (ds.map kv5) fun z => nd ((nodup5 ds).mp z)
              rw [List.length_map] at hlt
              refine ⟨_, rfl, iteNT (fun z => by have := V.int.inj z; rw [List.length_map] at this; omega) ?_⟩
              exact k' false H3 ⟨fun z => (nomatch z), fun z => absurd (by rw [← w_of]; exact z.1) nd⟩ s23
            rw [merge_nodup _ ((nodup5 ds).mpr nd)] at hD ⊢
            refine ⟨_, rfl, iteBF (by rw [List.length_map, List.length_map]; simp) ?_⟩
            by_cases h0 : [] ∈ ds.map (·.w)
            rotate_left
            · have g0 : DGet H3 D (.str "") none := by
                rw [W_nil]
                exact .inl ⟨_, .inr (W []), .inl hD, rfl, (val5_out h0).symm⟩
              refine ⟨_, rfl, D, _, rfl, g0, _, rfl, iteT ?_⟩
              exact k' false H3 ⟨fun z => (nomatch z), fun z => absurd (by rw [← w_of]; exact z.2.1) h0⟩ s23
            obtain ⟨d0, hd0, ed0⟩ := List.mem_map.mp h0
            have g0 : DGet H3 D (.str "") (some (.ref d0.t)) := by
              rw [W_nil]
              refine .inl ⟨_, .inr (W []), .inl hD, rfl, ?_⟩
              have := val5_in nd hd0
              rw [ed0] at this
              exact this.symm
            refine ⟨_, rfl, D, _, rfl, g0, _, rfl, iteF ?_⟩
            refine ⟨D, _, hD, trivial, fun od => ?_⟩
            have hLD : upd H3 D (.frz od (.dK (ds.map kv5))) D = some (.frz od (.dK (ds.map kv5))) := upd_same
            have nDH : H D = none := s2.free nD
            have sHL : Same H (upd H3 D (.frz od (.dK (ds.map kv5)))) := same_mut' s23 nDH
            have hLu : ∀ {H'}, Same (upd H3 D (.frz od (.dK (ds.map kv5)))) H' → Same H3 (upd H' D (.dK (ds.map kv5))) := fun s => same_unlock s hD
            have nn : ∀ x, upd H3 D (.frz od (.dK (ds.map kv5))) x = none → H3 x = none := fun x e => by
              by_cases z : x = D
              · rw [z, upd_same] at e; cases e
              · rw [upd_ne z] at e; exact e
            generalize upd H3 D (.frz od (.dK (ds.map kv5))) = HL at hLD sHL hLu nn ⊢
            refine ⟨_, rfl, D, od, rfl, .inl ⟨_, hLD, fun L2 nL2 => ?_⟩⟩
            have lkv : (ds.map kv5).length = ds.length := List.length_map _
            refine lc_it (walk_keys (kvs := ds.map kv5)) (fun i H4 => Same HL H4 ∧ H4 L2 = some (.lst (((ds.take i).map (kbB ss v0 v1 (ds.map d3))).map V.bl))) ⟨same_upd nL2, upd_same⟩ (fun i H4 _ h4 => h4.1 _ _ hLD) ?_ ?_
            · rintro i x H4' H4 hi ⟨s4, hL4⟩ ⟨rfl, kk, vv, hkv, rfl⟩
              rw [List.getElem?_map] at hkv
              obtain ⟨d, hd, ekv⟩ := Option.map_eq_some_iff.mp hkv
              cases ekv
              have hdm := List.mem_of_getElem? hd
              have sH4 := sHL.trans s4
              refine ⟨rfl, _, rfl, _, rfl, _, rfl, _, rfl, a, tv, D, fl, ss, ds, d, v0, v1, rfl, hR.same sH4, ok, l2, same_tup sH4 htv, q0, q9, .inr ⟨od, s4 _ _ hLD⟩, nd, fun e he => (hds e he).same sH4, hdm, fun c H5 hc s5 => ?_⟩
              refine ⟨_, s5 _ _ hL4, by rw [List.length_map, List.length_map, List.length_take]; exact sl_lt (by omega), same_mut' (s4.trans s5) nL2, ?_⟩
              rw [upd_same, List.take_add_one, hd, List.map_append, List.map_append, kbB_eq hc]
              rfl
            · rintro H4 ⟨s4, hL4⟩
              refine ⟨s4 _ _ hLD, ?_⟩
              have nL3 := nn L2 nL2
              have s5 := hLu s4
              have nLD : L2 ≠ D := (ne_of_none hD nL3).symm
              rw [lkv, List.take_length] at hL4
              refine ⟨L2, _, rfl, SqL.of (by rw [upd_ne nLD]; exact hL4), ?_⟩
              refine k' _ _ ⟨fun z => ⟨by rw [w_of]; exact nd, by rw [w_of]; exact h0, fun e he b => ?_⟩, fun z => ?_⟩ (s23.trans s5)
              · obtain ⟨d, hd, rfl⟩ := List.mem_map.mp he
                rw [List.all_map, List.all_eq_true] at z
                exact kbB_iff.mp (z d hd) b
              · rw [List.all_map, List.all_eq_true]
                intro d hd
                exact kbB_iff.mpr fun b => z.2.2 (d3 d) (List.mem_map.mpr ⟨d, hd, rfl⟩) b
end
end U
set_option maxRecDepth 100000
set_option maxHeartbeats 4000000
namespace U
open PySem PySem.Spec PyProof.Rows
open L2 hiding Fun CX0 E0 pass0 Fun.binds
open C8 Lx SX
def posM (l f : List Bool) : Option Nat := (List.range (l.length + 1)).find? fun i => f.isPrefixOf (l.drop i)
theorem posM_some {l f : List Bool} {i : Nat} : posM l f = some i ↔ (i ≤ l.length ∧ f <+: l.drop i ∧ ∀ k, k < i → ¬ f <+: l.drop k) := by
  unfold posM
  rw [List.find?_range_eq_some, List.isPrefixOf_iff_prefix]
  constructor
  · rintro ⟨h1, h2, h3⟩
    refine ⟨by have := List.mem_range.mp h2; omega, h1, fun k hk z => ?_⟩
    have := h3 k hk
    rw [List.isPrefixOf_iff_prefix.mpr z] at this
    cases this
  · rintro ⟨h1, h2, h3⟩
    refine ⟨h2, List.mem_range.mpr (by omega), fun k hk => ?_⟩
    cases e : f.isPrefixOf (l.drop k) with
    | false => rfl
    | true => exact absurd (List.isPrefixOf_iff_prefix.mp e) (h3 k hk)
theorem posM_none {l f : List Bool} : posM l f = none ↔ ∀ i, i ≤ l.length → ¬ f <+: l.drop i := by
  unfold posM
  rw [List.find?_eq_none]
  constructor
  · intro h i hi z
    exact h i (List.mem_range.mpr (by omega)) (List.isPrefixOf_iff_prefix.mpr z)
  · intro h i hi z
    exact h i (by have := List.mem_range.mp hi; omega) (List.isPrefixOf_iff_prefix.mp z)
theorem at_W {l f : List Bool} {i : Nat} : StrLaws.At (W l) (W f) (W l).length i ↔ (i ≤ l.length ∧ f <+: l.drop i) := by
  unfold StrLaws.At
  rw [StrLaws.subAt_eq, W_len, W_len, W_tl, W_tl, ← List.map_drop, ← List.map_take, beq_iff_eq]
  constructor
  · rintro ⟨h1, h2⟩
    refine ⟨by omega, List.prefix_iff_eq_take.mpr (map_bt_inj h2).symm⟩
  · rintro ⟨h1, h2⟩
    have hl := h2.length_le
    rw [List.length_drop] at hl
    exact ⟨by omega, by rw [← List.prefix_iff_eq_take.mp h2]⟩
theorem occ_none {l f : List Bool} (h : posM l f = none) : Builtin.Str.occurrences (W l) (W f) 0 (W l).length 1 = [] := by
  rcases StrLaws.occ_head (W l) (W f) 1 (Nat.le_refl _) with ⟨h1, _⟩ | ⟨i, r, _, h2, _⟩
  · exact h1
  · obtain ⟨h3, h4⟩ := at_W.mp h2
    exact absurd h4 (posM_none.mp h i h3)
theorem occ_some {l f : List Bool} {i : Nat} (h : posM l f = some i) : ∃ r, Builtin.Str.occurrences (W l) (W f) 0 (W l).length 1 = i :: r := by
  obtain ⟨p1, p2, p3⟩ := posM_some.mp h
  rcases StrLaws.occ_head (W l) (W f) 1 (Nat.le_refl _) with ⟨_, h2⟩ | ⟨j, r, h1, h2, h3⟩
  · exact absurd (at_W.mpr ⟨p1, p2⟩) (h2 i)
  · obtain ⟨q1, q2⟩ := at_W.mp h2
    have e : j = i := by
      rcases Nat.lt_trichotomy i j with c | c | c
      · exact absurd (at_W.mpr ⟨p1, p2⟩) (h3 i c)
      · exact c.symm
      · exact absurd q2 (p3 j c)
    subst e
    exact ⟨r, h1⟩
theorem find_W {l f : List Bool} {i : Nat} (h : posM l f = some i) : Txt.find (W l) (W f) = (i : Int) := by
  obtain ⟨r, e⟩ := occ_some h
  unfold Txt.find
  rw [e]
theorem posM_end (l f : List Bool) : ∃ i, posM (l ++ f) f = some i ∧ i ≤ l.length := by
  cases e : posM (l ++ f) f with
  | none =>
    refine absurd ?_ (posM_none.mp e l.length (by rw [List.length_append]; omega))
    rw [List.drop_left]
    exact List.prefix_refl _
  | some i =>
    refine ⟨i, rfl, ?_⟩
    obtain ⟨_, _, h3⟩ := posM_some.mp e
    rcases Nat.lt_or_ge l.length i with c | c
    · refine absurd ?_ (h3 _ c)
      rw [List.drop_left]
      exact List.prefix_refl _
    · exact c
end U
set_option maxRecDepth 100000
namespace U
theorem nodup1 {α : Type} (a : α) : [a].Nodup := by simp
theorem tl_nil (w : Nat) : tl w [] = [] := by unfold tl; simp
def SpL (f l : List Bool) : Prop := ∃ i, i < l.length ∧ f <+: (l ++ f).drop i
theorem posM_sp {f l : List Bool} : posM (l ++ f) f = some l.length ↔ ¬ SpL f l := by
  constructor
  · intro h ⟨i, hi, hp⟩
    exact (posM_some.mp h).2.2 i hi hp
  · intro h
    refine posM_some.mpr ⟨by rw [List.length_append]; omega, by rw [List.drop_left]; exact List.prefix_refl _, fun k hk hp => h ⟨k, hk, hp⟩⟩
theorem pre_cut {f a r : List Bool} {i : Nat} (h : f <+: (a ++ r).drop i) (hi : i + f.length ≤ a.length) : f <+: a.drop i := by
  rw [List.prefix_iff_eq_take] at h ⊢
  rw [List.drop_append_of_le_length (by omega), List.take_append_of_le_length (by rw [List.length_drop]; omega)] at h
  exact h
theorem pre_ext {f a r : List Bool} {i : Nat} (h : f <+: a.drop i) (hi : i ≤ a.length) : f <+: (a ++ r).drop i := by
  rw [List.drop_append_of_le_length hi]
  exact h.trans (List.prefix_append _ _)
theorem drop_add' (u v : List Bool) (j : Nat) : (u ++ v).drop (u.length + j) = v.drop j := by
  rw [← List.drop_drop, List.drop_left]
def infx (f l : List Bool) : Bool := (posM l f).isSome
theorem infx_iff {f l : List Bool} : infx f l = true ↔ ∃ i, i ≤ l.length ∧ f <+: l.drop i := by
  unfold infx
  cases e : posM l f with
  | none =>
    constructor
    · intro h; cases h
    · rintro ⟨i, hi, hp⟩
      exact absurd hp (posM_none.mp e i hi)
  | some i =>
    obtain ⟨h1, h2, _⟩ := posM_some.mp e
    exact ⟨fun _ => ⟨i, h1, h2⟩, fun _ => rfl⟩
theorem infx_false {f l : List Bool} : infx f l = false ↔ ∀ i, i ≤ l.length → ¬ f <+: l.drop i := by
  rw [← Bool.not_eq_true, infx_iff]
  constructor
  · intro h i hi hp; exact h ⟨i, hi, hp⟩
  · rintro h ⟨i, hi, hp⟩; exact h i hi hp
def bordM (f l : List Bool) : Bool := decide (posM (l ++ f) f = some l.length)
theorem bordM_iff {f l : List Bool} : bordM f l = true ↔ ¬ SpL f l := by
  unfold bordM
  rw [decide_eq_true_iff]
  exact posM_sp
theorem tl_split (n : Nat) (l : List Bool) : l = l.take (l.length - n) ++ tl n l := by unfold tl; rw [List.take_append_drop]
theorem SpL.infx {f l : List Bool} (hf : f ≠ []) (h : U.infx f l = true) : SpL f l := by
  obtain ⟨i, hi, hp⟩ := infx_iff.mp h
  have := hp.length_le
  rw [List.length_drop] at this
  have h0 : 0 < f.length := List.length_pos_iff.mpr hf
  exact ⟨i, by omega, pre_ext hp hi⟩
theorem sp_front {f u v : List Bool} (h : SpL f v) : SpL f (u ++ v) := by
  obtain ⟨i, hi, hp⟩ := h
  refine ⟨u.length + i, by rw [List.length_append]; omega, ?_⟩
  rw [List.append_assoc, drop_add']
  exact hp
theorem sp_step {f l st y : List Bool} {w : Nat} (hf : f ≠ []) (hw : f.length ≤ w + 1) (hst : st = tl w l) (hl : ¬ SpL f l) : SpL f (l ++ y) ↔ (infx f (st ++ y) = true ∨ SpL f (tl w (st ++ y))) := by
  have h0 : 0 < f.length := List.length_pos_iff.mpr hf
  have el := tl_split w l
  rw [← hst] at el
  generalize hu : l.take (l.length - w) = u at el
  have lu : u.length = l.length - w := by rw [← hu, List.length_take]; omega
  have ly : l ++ y = u ++ (st ++ y) := by rw [← List.append_assoc, ← el]
  have lst : st.length = min w l.length := by rw [hst, tl_len]
  constructor
  · rintro ⟨i, hi, hp⟩
    by_cases c : i + f.length ≤ (l ++ y).length
    · left
      have h1 := pre_cut hp c
      by_cases c2 : i + f.length ≤ l.length
      · exfalso
        have h2 := pre_cut h1 c2
        exact hl ⟨i, by omega, pre_ext h2 (by omega)⟩
      · have hiu : u.length ≤ i := by omega
        refine infx_iff.mpr ⟨i - u.length, by rw [List.length_append] at hi ⊢; omega, ?_⟩
        rw [ly, show i = u.length + (i - u.length) by omega, drop_add'] at h1
        exact h1
    · right
      -- the line's last bits
      have e2 := tl_split w (st ++ y)
      generalize hv : (st ++ y).take ((st ++ y).length - w) = v at e2
      have lv : v.length = (st ++ y).length - w := by rw [← hv, List.length_take]; omega
      have e3 : l ++ y = (u ++ v) ++ tl w (st ++ y) := by rw [List.append_assoc, ← e2]; exact ly
      have l3 : (l ++ y).length = u.length + v.length + (tl w (st ++ y)).length := by rw [e3, List.length_append, List.length_append]
      have l4 : (tl w (st ++ y)).length = min w (st ++ y).length := tl_len _ _
      have l5 : (st ++ y).length = st.length + y.length := List.length_append
      have l6 : (l ++ y).length = l.length + y.length := List.length_append
      refine ⟨i - (u ++ v).length, ?_, ?_⟩
      · rw [List.length_append]; omega
      · have hge : (u ++ v).length ≤ i := by rw [List.length_append]; omega
        rw [e3, List.append_assoc, show i = (u ++ v).length + (i - (u ++ v).length) by omega, drop_add'] at hp
        exact hp
  · rintro (h | h)
    · rw [ly]
      exact sp_front (SpL.infx hf h)
    · have e2 := tl_split w (st ++ y)
      rw [ly, e2, ← List.append_assoc]
      exact sp_front h
def wid (ss : List Stf) (f : List Bool) : Nat := max (ss.foldr (fun s m => max s.1.length m) 0) f.length - 1
def edge (ss : List Stf) (f : List Bool) (w : Nat) (st : List Bool) (b : Bool) : Option (List Bool) :=
  if infx f (itP ss 40 (st ++ [b])) || !bordM f (tl w (itP ss 40 (st ++ [b]))) then none else some (tl w (itP ss 40 (st ++ [b])))
theorem bodyF_snoc (ss : List Stf) (m : List Bool) (b : Bool) : bodyF ss (m ++ [b]) = itP ss 40 (bodyF ss m ++ [b]) := by unfold bodyF; rw [List.foldl_append]; rfl
theorem ins40 {ss : List Stf} (o : OkN 39 ss) (m : List Bool) (b : Bool) : ∃ x, Ins ss (bodyF ss m ++ [b]) x ∧ x.length ≤ 39 ∧ bodyF ss (m ++ [b]) = bodyF ss m ++ [b] ++ x := by
  obtain ⟨x, hx, hl⟩ := o _ (body_ex o m).reach b
  refine ⟨x, hx, hl, ?_⟩
  rw [bodyF_snoc, hx.itP, List.take_of_length_le (by omega)]
def stand (ss : List Stf) (w : Nat) (m : List Bool) : List Bool := tl w (bodyF ss m)
theorem edge_at {ss : List Stf} {f : List Bool} {w : Nat} (o : OkN 39 ss) (hf : f ≠ []) (hw : f.length ≤ w + 1) (hL : ∀ s ∈ ss, s.1.length ≤ w + 1) {m : List Bool} (hm : ¬ SpL f (bodyF ss m)) (b : Bool) :
    (∃ x, Ins ss (stand ss w m ++ [b]) x ∧ x.length ≤ 39 ∧ itP ss 40 (stand ss w m ++ [b]) = stand ss w m ++ [b] ++ x) ∧
    (SpL f (bodyF ss (m ++ [b])) → edge ss f w (stand ss w m) b = none) ∧ (¬ SpL f (bodyF ss (m ++ [b])) → edge ss f w (stand ss w m) b = some (stand ss w (m ++ [b]))) := by
  obtain ⟨x, hx, hl, eb⟩ := ins40 o m b
  have et : tl (w + 1) (bodyF ss m ++ [b]) = tl (w + 1) (stand ss w m ++ [b]) := by
    rw [tl_snoc0, tl_snoc0]
    unfold stand
    rw [tl_tl (Nat.le_refl w)]
  have hx2 : Ins ss (stand ss w m ++ [b]) x := hx.tl hL et
  have e40 : itP ss 40 (stand ss w m ++ [b]) = stand ss w m ++ [b] ++ x := by rw [hx2.itP, List.take_of_length_le (by omega)]
  have key := sp_step (y := [b] ++ x) hf hw (show stand ss w m = tl w (bodyF ss m) from rfl) hm
  rw [← List.append_assoc, ← List.append_assoc] at key
  have etl : tl w (stand ss w m ++ [b] ++ x) = stand ss w (m ++ [b]) := by
    unfold stand
    rw [eb, List.append_assoc, List.append_assoc]
    exact tl_app (tl_tl (Nat.le_refl w) _) _
  refine ⟨⟨x, hx2, hl, e40⟩, fun h => ?_, fun h => ?_⟩
  · rw [eb] at h
    unfold edge
    rw [e40]
    rcases key.mp h with h1 | h1
    · rw [h1]; rfl
    · have : bordM f (tl w (stand ss w m ++ [b] ++ x)) = false := by
        rw [← Bool.not_eq_true, bordM_iff]
        exact fun z => z h1
      rw [this, Bool.not_false, Bool.or_true]
      rfl
  · rw [eb] at h
    unfold edge
    rw [e40]
    have h1 : infx f (stand ss w m ++ [b] ++ x) = false := by
      rw [← Bool.not_eq_true]
      exact fun z => h (key.mpr (.inl z))
    have h2 : bordM f (tl w (stand ss w m ++ [b] ++ x)) = true := bordM_iff.mpr fun z => h (key.mpr (.inr z))
    rw [h1, h2, etl]
    rfl
def num (m : List Bool) : Nat := m.foldl (fun n b => 2 * n + (if b then 1 else 0)) 0
theorem num_snoc (m : List Bool) (b : Bool) : num (m ++ [b]) = 2 * num m + (if b then 1 else 0) := by unfold num; rw [List.foldl_append]; rfl
structure WkL (ss : List Stf) (f : List Bool) (w n : Nat) (kn : List (List Bool)) (ly : List (List Bool × List Bool)) : Prop where
  a : ∀ m, m.length ≤ n → ¬ SpL f (bodyF ss m)
  nd : kn.Nodup
  sh : ∀ t ∈ kn, t.length ≤ w
  g : ∀ t ∈ kn, ∃ m, m.length ≤ n ∧ t = stand ss w m
  nil : [] ∈ kn
  l1 : ∀ p ∈ ly, p.1.length = n ∧ p.2 = stand ss w p.1 ∧ p.2 ∈ kn
  srt : ly.Pairwise fun p q => num p.1 < num q.1
  d : ∀ t ∈ kn, (∃ p ∈ ly, p.2 = t) ∨ ∀ b, ∃ u ∈ kn, edge ss f w t b = some u
  e : ∀ m, m.length = n → (∀ b, ∃ u ∈ kn, edge ss f w (stand ss w m) b = some u) ∨ ∃ p ∈ ly, p.2 = stand ss w m ∧ num p.1 ≤ num m
def Dn (ly : List (List Bool × List Bool)) (i : Nat) (c : Bool) (p : List Bool × List Bool) (b : Bool) : Prop := p ∈ ly.take i ∨ (c = true ∧ ly[i]? = some p ∧ b = false)
structure WkE (ss : List Stf) (f : List Bool) (w n : Nat) (k0 : List (List Bool)) (ly : List (List Bool × List Bool)) (i : Nat) (c : Bool) (kn : List (List Bool)) (lt : List (List Bool × List Bool)) : Prop where
  nd : kn.Nodup
  sh : ∀ t ∈ kn, t.length ≤ w
  g : ∀ t ∈ kn, ∃ m, m.length ≤ n + 1 ∧ t = stand ss w m
  sub : ∀ t ∈ k0, t ∈ kn
  app : kn.length = k0.length + lt.length
  l1 : ∀ p ∈ lt, p.1.length = n + 1 ∧ p.2 = stand ss w p.1 ∧ p.2 ∈ kn
  srt : lt.Pairwise fun p q => num p.1 < num q.1
  ltd : ∀ p ∈ lt, ∃ q b, Dn ly i c q b ∧ p.1 = q.1 ++ [b]
  new : ∀ t ∈ kn, t ∈ k0 ∨ ∃ p ∈ lt, p.2 = t
  ed : ∀ q b, Dn ly i c q b → ∃ u ∈ kn, edge ss f w q.2 b = some u ∧ (u ∈ k0 ∨ ∃ p ∈ lt, p.2 = u ∧ num p.1 ≤ num (q.1 ++ [b]))
theorem WkE.start {ss : List Stf} {f : List Bool} {w n : Nat} {kn : List (List Bool)} {ly : List (List Bool × List Bool)} (h : WkL ss f w n kn ly) : WkE ss f w n kn ly 0 false kn [] :=
  ⟨h.nd, h.sh, fun t ht => by obtain ⟨m, h1, h2⟩ := h.g t ht; exact ⟨m, by omega, h2⟩, fun _ h => h, rfl, (fun _ h => nomatch h), .nil, (fun _ h => nomatch h), fun t ht => .inl ht, fun q b hd => by
    rcases hd with h | ⟨h, _⟩
    · rw [List.take_zero] at h; cases h
    · cases h⟩
theorem Dn.lt {ss : List Stf} {f : List Bool} {w n : Nat} {k0 : List (List Bool)} {ly : List (List Bool × List Bool)} (h : WkL ss f w n k0 ly) {i : Nat} {c : Bool} {p : List Bool × List Bool} (hp : ly[i]? = some p) {q : List Bool × List Bool} {b : Bool} (hd : Dn ly i c q b) : num (q.1 ++ [b]) < num (p.1 ++ [c]) := by
  rw [num_snoc, num_snoc]
  rcases hd with h1 | ⟨rfl, h1, rfl⟩
  · have hi := (List.getElem?_eq_some_iff.mp hp).1
    have hs : ly = ly.take i ++ ly.drop i := (List.take_append_drop i ly).symm
    have hpd : p ∈ ly.drop i := by
      rw [List.drop_eq_getElem_cons hi]
      rw [List.getElem?_eq_getElem hi] at hp
      rw [Option.some.inj hp]
      exact List.mem_cons_self
    have := h.srt
    rw [hs] at this
    have := (List.pairwise_append.mp this).2.2 q h1 p hpd
    split <;> split <;> omega
  · rw [hp] at h1
    rw [Option.some.inj h1]
    simp
theorem Dn.step {ly : List (List Bool × List Bool)} {i : Nat} {c : Bool} {p : List Bool × List Bool} (hp : ly[i]? = some p) {q : List Bool × List Bool} {b : Bool} : Dn ly (if c then i + 1 else i) (!c) q b → Dn ly i c q b ∨ (q = p ∧ b = c) := by
  cases c with
  | false =>
    rintro (h | ⟨_, h1, h2⟩)
    · exact .inl (.inl h)
    · rw [show (if false = true then i + 1 else i) = i from rfl, hp] at h1
      exact .inr ⟨(Option.some.inj h1).symm, h2⟩
  | true =>
    rintro (h | ⟨h, _⟩)
    · rw [show (if true = true then i + 1 else i) = i + 1 from rfl, List.take_add_one, hp] at h
      rcases List.mem_append.mp h with h | h
      · exact .inl (.inl h)
      · have e : q = p := by simpa using h
        cases b with
        | false => exact .inl (.inr ⟨rfl, by rw [e]; exact hp, rfl⟩)
        | true => exact .inr ⟨e, rfl⟩
    · cases h
theorem WkE.next {ss : List Stf} {f : List Bool} {w n : Nat} (o : OkN 39 ss) (hf : f ≠ []) (hw : f.length ≤ w + 1) (hL : ∀ s ∈ ss, s.1.length ≤ w + 1) {k0 kn : List (List Bool)} {ly lt : List (List Bool × List Bool)} (h : WkL ss f w n k0 ly) {i : Nat} {c : Bool} (E : WkE ss f w n k0 ly i c kn lt) {p : List Bool × List Bool} (hp : ly[i]? = some p)
    {u : List Bool} (hu : edge ss f w p.2 c = some u) :
    (u ∈ kn → WkE ss f w n k0 ly (if c then i + 1 else i) (!c) kn lt) ∧ (u ∉ kn → WkE ss f w n k0 ly (if c then i + 1 else i) (!c) (kn ++ [u]) (lt ++ [(p.1 ++ [c], u)])) := by
  have hpm := List.mem_of_getElem? hp
  obtain ⟨p1, p2, p3⟩ := h.l1 p hpm
  have hm : ¬ SpL f (bodyF ss p.1) := h.a p.1 (by omega)
  obtain ⟨_, e1, e2⟩ := edge_at o hf hw hL hm c
  rw [← p2] at e1 e2
  have us : u = stand ss w (p.1 ++ [c]) := by
    by_cases z : SpL f (bodyF ss (p.1 ++ [c]))
    · rw [e1 z] at hu; cases hu
    · rw [e2 z] at hu; exact (Option.some.inj hu).symm
  have hdn : ∀ {q b}, Dn ly i c q b → Dn ly (if c then i + 1 else i) (!c) q b := by
    intro q b hd
    cases c with
    | false =>
      rcases hd with h | ⟨h, _⟩
      · exact .inl h
      · cases h
    | true =>
      refine .inl ?_
      rw [show (if true = true then i + 1 else i) = i + 1 from rfl, List.take_add_one, hp]
      rcases hd with h | ⟨_, h1, _⟩
      · exact List.mem_append_left _ h
      · rw [hp] at h1
        exact List.mem_append_right _ (by simp [Option.some.inj h1])
  have hpn : Dn ly (if c then i + 1 else i) (!c) p c := by
    cases c with
    | false => exact .inr ⟨rfl, hp, rfl⟩
    | true =>
      refine .inl ?_
      rw [show (if true = true then i + 1 else i) = i + 1 from rfl, List.take_add_one, hp]
      exact List.mem_append_right _ (by simp)
  constructor
  · intro hk
    refine ⟨E.nd, E.sh, E.g, E.sub, E.app, E.l1, E.srt, fun q hq => ?_, E.new, fun q b hd => ?_⟩
    · obtain ⟨q2, b, h1, h2⟩ := E.ltd q hq
      exact ⟨q2, b, hdn h1, h2⟩
    · rcases Dn.step hp hd with h1 | ⟨rfl, rfl⟩
      · exact E.ed q b h1
      · refine ⟨u, hk, hu, ?_⟩
        rcases E.new u hk with h1 | ⟨r, h1, h2⟩
        · exact .inl h1
        · refine .inr ⟨r, h1, h2, ?_⟩
          obtain ⟨q2, b2, h3, h4⟩ := E.ltd r h1
          rw [h4]
          exact Nat.le_of_lt (Dn.lt h hp h3)
  · intro hk
    refine ⟨?_, ?_, ?_, fun t ht => List.mem_append_left _ (E.sub t ht), by rw [List.length_append, List.length_append, E.app]; show _ + 1 = _ + (_ + 1); omega, ?_, ?_, ?_, ?_, ?_⟩
    · rw [List.nodup_append]
      exact ⟨E.nd, nodup1 _, fun x hx y hy z => hk (by rw [← List.mem_singleton.mp hy, ← z]; exact hx)⟩
    · intro t ht
      rcases List.mem_append.mp ht with h1 | h1
      · exact E.sh t h1
      · rw [List.mem_singleton.mp h1, us]
        exact tl_le _ _
    · intro t ht
      rcases List.mem_append.mp ht with h1 | h1
      · exact E.g t h1
      · exact ⟨p.1 ++ [c], by rw [List.length_append, p1]; exact Nat.le_refl _, by rw [List.mem_singleton.mp h1]; exact us⟩
    · intro q hq
      rcases List.mem_append.mp hq with h1 | h1
      · obtain ⟨a1, a2, a3⟩ := E.l1 q h1
        exact ⟨a1, a2, List.mem_append_left _ a3⟩
      · rw [List.mem_singleton.mp h1]
        exact ⟨by rw [List.length_append, p1]; rfl, us, List.mem_append_right _ (List.mem_singleton.mpr rfl)⟩
    · rw [List.pairwise_append]
      refine ⟨E.srt, List.pairwise_singleton _ _, fun q hq r hr => ?_⟩
      rw [List.mem_singleton.mp hr]
      obtain ⟨q2, b2, h3, h4⟩ := E.ltd q hq
      rw [h4]
      exact Dn.lt h hp h3
    · intro q hq
      rcases List.mem_append.mp hq with h1 | h1
      · obtain ⟨q2, b, h1, h2⟩ := E.ltd q h1
        exact ⟨q2, b, hdn h1, h2⟩
      · rw [List.mem_singleton.mp h1]
        exact ⟨p, c, hpn, rfl⟩
    · intro t ht
      rcases List.mem_append.mp ht with h1 | h1
      · rcases E.new t h1 with h2 | ⟨r, h2, h3⟩
        · exact .inl h2
        · exact .inr ⟨r, List.mem_append_left _ h2, h3⟩
      · exact .inr ⟨_, List.mem_append_right _ (List.mem_singleton.mpr rfl), (List.mem_singleton.mp h1).symm⟩
    · intro q b hd
      rcases Dn.step hp hd with h1 | ⟨rfl, rfl⟩
      · obtain ⟨v, h2, h3, h4⟩ := E.ed q b h1
        refine ⟨v, List.mem_append_left _ h2, h3, ?_⟩
        rcases h4 with h4 | ⟨r, h5, h6⟩
        · exact .inl h4
        · exact .inr ⟨r, List.mem_append_left _ h5, h6⟩
      · exact ⟨u, List.mem_append_right _ (List.mem_singleton.mpr rfl), hu, .inr ⟨_, List.mem_append_right _ (List.mem_singleton.mpr rfl), rfl, Nat.le_refl _⟩⟩
theorem WkE.done {ss : List Stf} {f : List Bool} {w n : Nat} (o : OkN 39 ss) (hf : f ≠ []) (hw : f.length ≤ w + 1) (hL : ∀ s ∈ ss, s.1.length ≤ w + 1) {k0 kn : List (List Bool)} {ly lt : List (List Bool × List Bool)} (h : WkL ss f w n k0 ly) (E : WkE ss f w n k0 ly ly.length false kn lt) : WkL ss f w (n + 1) kn lt := by
  have dn : ∀ {q b}, q ∈ ly → Dn ly ly.length false q b := fun hq => .inl (by rw [List.take_length]; exact hq)
  -- each message that is one bit longer
  have step : ∀ m b, m.length = n → ∃ u ∈ kn, edge ss f w (stand ss w m) b = some u ∧ (u ∈ k0 ∨ ∃ p ∈ lt, p.2 = u ∧ num p.1 ≤ num (m ++ [b])) := by
    intro m b hm
    rcases h.e m hm with h1 | ⟨p, h1, h2, h3⟩
    · obtain ⟨u, h4, h5⟩ := h1 b
      exact ⟨u, E.sub u h4, h5, .inl h4⟩
    · obtain ⟨u, h4, h5, h6⟩ := E.ed p b (dn h1)
      rw [h2] at h5
      refine ⟨u, h4, h5, ?_⟩
      rcases h6 with h6 | ⟨r, h7, h8, h9⟩
      · exact .inl h6
      · refine .inr ⟨r, h7, h8, Nat.le_trans h9 ?_⟩
        rw [num_snoc, num_snoc]
        omega
  have old : ∀ t ∈ k0, ∀ b, ∃ u ∈ kn, edge ss f w t b = some u := by
    intro t ht b
    rcases h.d t ht with ⟨p, h1, rfl⟩ | h1
    · obtain ⟨u, h4, h5, _⟩ := E.ed p b (dn h1)
      exact ⟨u, h4, h5⟩
    · obtain ⟨u, h4, h5⟩ := h1 b
      exact ⟨u, E.sub u h4, h5⟩
  have cut : ∀ m : List Bool, m.length = n + 1 → ∃ m' b, m = m' ++ [b] ∧ m'.length = n := by
    intro m hm
    rcases List.eq_nil_or_concat m with z | ⟨m', b, z⟩
    · rw [z] at hm; cases hm
    · rw [List.concat_eq_append] at z
      exact ⟨m', b, z, by rw [z, List.length_append] at hm; simpa using hm⟩
  have unsp : ∀ m b, m.length = n → ¬ SpL f (bodyF ss (m ++ [b])) ∧ edge ss f w (stand ss w m) b = some (stand ss w (m ++ [b])) := by
    intro m b hm
    obtain ⟨u, _, h2, _⟩ := step m b hm
    obtain ⟨_, e1, e2⟩ := edge_at o hf hw hL (h.a m (by omega)) b
    have hn : ¬ SpL f (bodyF ss (m ++ [b])) := fun z => by rw [e1 z] at h2; cases h2
    exact ⟨hn, e2 hn⟩
  refine ⟨fun m hm => ?_, E.nd, E.sh, E.g, E.sub _ h.nil, E.l1, E.srt, fun t ht => ?_, fun m hm => ?_⟩
  · rcases Nat.lt_or_ge m.length (n + 1) with c | c
    · exact h.a m (by omega)
    · obtain ⟨m', b, rfl, h1⟩ := cut m (by omega)
      exact (unsp m' b h1).1
  · rcases E.new t ht with h1 | h1
    · exact .inr (old t h1)
    · exact .inl h1
  · obtain ⟨m', b, rfl, h1⟩ := cut m hm
    obtain ⟨u, h2, h3, h4⟩ := step m' b h1
    rw [(unsp m' b h1).2] at h3
    have eu := Option.some.inj h3
    rw [eu]
    rcases h4 with h4 | h4
    · exact .inl (old u h4)
    · exact .inr h4
def FirstSp (ss : List Stf) (f m : List Bool) : Prop := SpL f (bodyF ss m) ∧ ∀ m', (m'.length < m.length ∨ (m'.length = m.length ∧ num m' < num m)) → ¬ SpL f (bodyF ss m')
theorem WkE.bad {ss : List Stf} {f : List Bool} {w n : Nat} (o : OkN 39 ss) (hf : f ≠ []) (hw : f.length ≤ w + 1) (hL : ∀ s ∈ ss, s.1.length ≤ w + 1) {k0 kn : List (List Bool)} {ly lt : List (List Bool × List Bool)} (h : WkL ss f w n k0 ly) {i : Nat} {c : Bool} (E : WkE ss f w n k0 ly i c kn lt) {p : List Bool × List Bool} (hp : ly[i]? = some p)
    (hu : edge ss f w p.2 c = none) : FirstSp ss f (p.1 ++ [c]) := by
  have hpm := List.mem_of_getElem? hp
  obtain ⟨p1, p2, p3⟩ := h.l1 p hpm
  obtain ⟨_, e1, e2⟩ := edge_at o hf hw hL (h.a p.1 (by omega)) c
  rw [← p2] at e2
  refine ⟨?_, fun m' hm' => ?_⟩
  · by_cases z : SpL f (bodyF ss (p.1 ++ [c]))
    · exact z
    · rw [e2 z] at hu; cases hu
  · rw [List.length_append, p1] at hm'
    simp only [List.length_cons, List.length_nil] at hm'
    rcases hm' with h1 | ⟨h1, h2⟩
    · exact h.a m' (by omega)
    · have : ∃ v b, m' = v ++ [b] ∧ v.length = n := by
        rcases List.eq_nil_or_concat m' with z | ⟨v, b, z⟩
        · rw [z] at h1; simp at h1
        · rw [List.concat_eq_append] at z
          exact ⟨v, b, z, by rw [z, List.length_append] at h1; simpa using h1⟩
      obtain ⟨v, b, rfl, hv⟩ := this
      obtain ⟨_, f1, f2⟩ := edge_at o hf hw hL (h.a v (by omega)) b
      intro z
      have hz := f1 z
      rcases h.e v hv with h3 | ⟨q, h3, h4, h5⟩
      · obtain ⟨u, _, h6⟩ := h3 b
        rw [hz] at h6; cases h6
      · have hd : Dn ly i c q b := by
          obtain ⟨j, hj⟩ := List.getElem?_of_mem h3
          rcases Nat.lt_trichotomy j i with c1 | c1 | c1
          · exact .inl (List.mem_of_getElem? (i := j) (by rw [List.getElem?_take, if_pos c1]; exact hj))
          · subst c1
            rw [hp] at hj
            have eq := Option.some.inj hj
            subst eq
            rw [num_snoc, num_snoc] at h2
            cases c with
            | false =>
              exfalso
              simp only [Bool.false_eq_true, if_false] at h2
              split at h2 <;> omega
            | true =>
              cases b with
              | false => exact .inr ⟨rfl, hp, rfl⟩
              | true =>
                exfalso
                simp only [if_true] at h2
                omega
          · exfalso
            have hjl := (List.getElem?_eq_some_iff.mp hj).1
            have := List.pairwise_iff_getElem.mp h.srt i j (by omega) hjl c1
            rw [List.getElem?_eq_getElem (by omega)] at hp
            rw [List.getElem?_eq_getElem hjl] at hj
            rw [Option.some.inj hp, Option.some.inj hj] at this
            rw [num_snoc, num_snoc] at h2
            split at h2 <;> split at h2 <;> omega
        obtain ⟨u, _, h6, _⟩ := E.ed q b hd
        rw [h4, hz] at h6
        cases h6
structure Paper (ss : List Stf) (f : List Bool) (w : Nat) (kn : List (List Bool)) : Prop where
  nd : kn.Nodup
  sh : ∀ t ∈ kn, t.length ≤ w
  nil : [] ∈ kn
  cl : ∀ t ∈ kn, ∀ b, ∃ u ∈ kn, edge ss f w t b = some u
  g : ∀ t ∈ kn, ∃ m, t = stand ss w m
theorem WkL.clean {ss : List Stf} {f : List Bool} {w n : Nat} (o : OkN 39 ss) (hf : f ≠ []) (hw : f.length ≤ w + 1) (hL : ∀ s ∈ ss, s.1.length ≤ w + 1) {kn : List (List Bool)} (h : WkL ss f w n kn []) : Paper ss f w kn ∧ ∀ m, ¬ SpL f (bodyF ss m) := by
  have cl : ∀ t ∈ kn, ∀ b, ∃ u ∈ kn, edge ss f w t b = some u := fun t ht => by
    rcases h.d t ht with ⟨p, h1, _⟩ | h1
    · cases h1
    · exact h1
  refine ⟨⟨h.nd, h.sh, h.nil, cl, fun t ht => by obtain ⟨m, _, e⟩ := h.g t ht; exact ⟨m, e⟩⟩, ?_⟩
  have all : ∀ k m, m.length = k → ¬ SpL f (bodyF ss m) ∧ stand ss w m ∈ kn := by
    intro k
    induction k with
    | zero =>
      intro m hm
      have : m = [] := List.length_eq_zero_iff.mp hm
      subst this
      exact ⟨h.a [] (Nat.zero_le _), by show tl w [] ∈ kn; rw [tl_nil]; exact h.nil⟩
    | succ k ih =>
      intro m hm
      rcases List.eq_nil_or_concat m with z | ⟨v, b, z⟩
      · rw [z] at hm; cases hm
      · rw [List.concat_eq_append] at z
        subst z
        obtain ⟨h1, h2⟩ := ih v (by rw [List.length_append] at hm; simpa using hm)
        obtain ⟨u, h3, h4⟩ := cl _ h2 b
        obtain ⟨_, e1, e2⟩ := edge_at o hf hw hL h1 b
        have hn : ¬ SpL f (bodyF ss (v ++ [b])) := fun z => by rw [e1 z] at h4; cases h4
        rw [e2 hn] at h4
        exact ⟨hn, by rw [Option.some.inj h4]; exact h3⟩
  exact fun m => (all m.length m rfl).1
theorem WkL.begin {ss : List Stf} {f : List Bool} {w : Nat} : WkL ss f w 0 [[]] [([], [])] := by
  have st0 : stand ss w [] = [] := tl_nil w
  have z0 : ∀ m : List Bool, m.length ≤ 0 → m = [] := fun m h => List.length_eq_zero_iff.mp (by omega)
  refine ⟨fun m hm => ?_, nodup1 _, fun t ht => by rw [List.mem_singleton.mp ht]; exact Nat.zero_le _, fun t ht => ⟨[], Nat.le_refl _, by rw [List.mem_singleton.mp ht, st0]⟩, List.mem_singleton.mpr rfl, fun p hp => by rw [List.mem_singleton.mp hp]; exact ⟨rfl, st0.symm, List.mem_singleton.mpr rfl⟩, List.pairwise_singleton _ _, fun t ht => .inl ⟨_, List.mem_singleton.mpr rfl, (List.mem_singleton.mp ht).symm⟩, fun m hm => .inr ⟨_, List.mem_singleton.mpr rfl, ?_, ?_⟩⟩
  · rw [z0 m hm]
    rintro ⟨i, hi, _⟩
    exact absurd hi (Nat.not_lt_zero _)
  · rw [z0 m (by omega)]; exact st0.symm
  · rw [z0 m (by omega)]; exact Nat.le_refl _
end U
set_option maxRecDepth 100000
set_option maxHeartbeats 4000000
namespace U
open PySem PySem.Spec PyProof.Rows
open L2 hiding Fun CX0 E0 pass0 Fun.binds
open C8 Lx SX
def spWordF : Sp := fun vs H Q _ => ∃ (b : Addr) (few many : Nat), vs = [.ref b, .int few, .int many] ∧ Box H b ∧ few ≤ many ∧ many < 1000 ∧
  ∀ (l : List Bool) H', few ≤ l.length → l.length ≤ many → Up b H H' → Q (.str (W l)) H'
section
variable {P : Program} {w : World} {K : PySem.W.Frag} {mg : Str → Option Value} {base : Heap}
theorem sc_l_word : FnScope ["_law_box", "_law_few", "_law_many", "_law_turn"] ["_law_box", "_law_few", "_law_many"] (fnScope s_l_word) := fnScope_by (by decide +kernel)
theorem cal_l_word {f : Addr} {fd : FuncData} (F : Def K mg "_law_word" s_l_word f fd) (b : Binds K fd ["_law_box", "_law_few", "_law_many"] []) (T : Tx mg)
    (c_l_choose : Cal P w K mg base 1 "_law_choose" spChoose []) (c_l_one_of : Cal P w K mg base 2 "_law_one_of" spOneOf []) : Cal P w K mg base 3 "_law_word" spWordF [] := by
  refine cal0 F b .nil sc_l_word (fun vs H Q E h => ?_) (fun cdv A outer s H vs Q E hr h => ?_)
  · obtain ⟨_, _, _, rfl, _⟩ := h; rfl
  · obtain ⟨bx, few, many, rfl, hb, h1, h2, k⟩ := h
    refine ⟨_, (pss_one (ps_ret (pe_join pe_str (pe_lc (own := [("_law_turn", 3)]) (g := gName 3) (by rfl) sc_l_word.nd (pi_range1 (by rfl) T.b_range (pa_cons (pe_op op_add (pv 1) (pe_c c_l_choose hr (by decide) rfl (pa_cons (pv 0) (pa_cons (pe_op op_add (pe_op op_sub (pv 2) (pv 1)) pe_int) pa_nil)))) pa_nil)) (blkOk_by (own := [("_law_turn", 3)]) (N := ["_law_box", "_law_few", "_law_many", "_law_turn"]) (sc := fnScope s_l_word) (by decide +kernel)) (fun _ _ _ _ _ => (pg_name (i := 3) sc_l_word.nd rfl (.inl rfl))) (fun _ _ _ _ _ => pts_nil) (fun _ _ _ _ _ => (pe_c c_l_one_of hr (by decide) rfl (pa_cons (pv 0) (pa_cons (pe_lst (pa_cons pe_str (pa_cons pe_str pa_nil))) pa_nil)))))))), ?_⟩
    refine ⟨⟨_, rfl⟩, ?_⟩
    refine ⟨_, rfl, _, rfl, _, rfl, _, rfl, _, _, rfl, rfl, _, _, rfl, rfl, bx, _, rfl, hb, (by omega), (by omega), fun d H1 d0 d1 u1 => ?_⟩
    refine ⟨_, _, rfl, rfl, _, rfl, by omega, by omega, fun D nD => ?_⟩
    have nb : D ≠ bx := u1.2.ne nD
    refine lc_it (walk_range (lo := 0) (n := ((few : Int) + d).toNat)) (fun i H2 => ∃ l : List Bool, l.length = i ∧ Up bx H H2 ∧ H2 D = some (.lst (bitsV l)))
      ⟨[], rfl, u1.mut (u1.free nD) nb, upd_same⟩ (fun _ _ _ _ => trivial) ?_ ?_
    · rintro i x H2 H3 hi ⟨l, rfl, u2, hD⟩ ⟨rfl, rfl⟩
      refine ⟨rfl, ?_⟩
      refine ⟨_, rfl, by show 2 ≤ sizeLine; decide, fun p hp => ?_⟩
      have np : p ≠ bx := u2.2.ne hp
      refine ⟨bx, p, _, rfl, u2.2.same (same_upd hp), upd_same, np, by decide, by decide, fun v H4 hv u4 => ?_⟩
      obtain ⟨b, rfl⟩ := mem2 hv
      have hD4 : H4 D = some (.lst (bitsV l)) := u4.1 _ _ (same_upd hp _ _ hD) nb
      refine ⟨_, hD4, ?_, l ++ [b], by simp, ?_, ?_⟩
      · unfold bitsV; rw [List.length_map, List.length_map]; exact sl_lt (by omega)
      · exact ((u2.same (same_upd hp)).trans u4).mut (u1.free nD) nb
      · rw [upd_same]; unfold bitsV; simp
    · rintro H2 ⟨l, hl, u2, hD⟩
      refine ⟨_, D, l.map fun b => W [b], rfl, rfl, .inl (SqL.of hD), ?_, ?_⟩
      · rw [lens_bits]
        have e0 : ("" : Str).length = 0 := by decide +kernel
        rw [e0]; omega
      · show Q (.str (Txt.join "" (l.map fun b => W [b]))) H2
        rw [join_bits]
        exact k l H2 (by omega) (by omega) u2
end
end U
set_option maxRecDepth 100000
set_option maxHeartbeats 4000000
namespace U
open PySem PySem.Spec PyProof.Rows
open L2 hiding Fun CX0 E0 pass0 Fun.binds
open C8 Lx SX StX
def Told (H : Hp) (t : Addr) (f : List Bool) (ss : List Stf) : Prop := ∃ l ps kb, H t = some (.tup [.str (W f), .ref l]) ∧ H l = some (.lst (ps.map V.ref)) ∧ StV H kb ps ∧ ss = ps.map kb
theorem Told.same {H H' : Hp} {t : Addr} {f : List Bool} {ss : List Stf} (h : Told H t f ss) (e : Same H H') : Told H' t f ss := by
  obtain ⟨l, ps, kb, h1, h2, h3, h4⟩ := h
  exact ⟨l, ps, kb, e _ _ h1, e _ _ h2, h3.same e, h4⟩
theorem refs_ne {ps : List Addr} {i j : Int} : ps.map V.ref ≠ [.int i, .int j] := fun z => by
  cases ps with
  | nil => cases z
  | cons p r => cases (List.cons.inj z).1
theorem Box.neL {H : Hp} {b l : Addr} {ps : List Addr} (hb : Box H b) (h : H l = some (.lst (ps.map V.ref))) : l ≠ b := fun z => by
  obtain ⟨i, j, hb⟩ := hb
  rw [z, hb] at h
  exact refs_ne (HO.lst.inj (Option.some.inj h)).symm
theorem Told.up {b : Addr} {H H' : Hp} {t : Addr} {f : List Bool} {ss : List Stf} (hb : Box H b) (h : Told H t f ss) (e : Up b H H') : Told H' t f ss := by
  obtain ⟨l, ps, kb, h1, h2, h3, h4⟩ := h
  exact ⟨l, ps, kb, e.1 _ _ h1 (hb.neT h1), e.1 _ _ h2 (hb.neL h2), fun t ht => e.1 _ _ (h3 t ht) (hb.neT (h3 t ht)), h4⟩
theorem RuAt.up {C b : Addr} {H H' : Hp} {a : Addr} {f : List Bool} {ss : List Stf} (hb : Box H b) (h : RuAt C H a f ss) (e : Up b H H') : RuAt C H' a f ss := h.nl (e.nl hb)
def putL (ss : List Stf) (l : List Bool) : List Bool := match putM ss l with
  | none => []
  | some b => [b]
theorem putL_len (ss : List Stf) (l : List Bool) : (putL ss l).length ≤ 1 := by unfold putL; cases putM ss l <;> simp
theorem stP_eq (ss : List Stf) (l : List Bool) : stP ss l = l ++ putL ss l := by
  unfold stP putL
  cases putM ss l with
  | none => rw [List.append_nil]
  | some b => rfl
theorem putL_head {ss : List Stf} {l : List Bool} : putM ss l = ((ss.filter fun s => s.1.isSuffixOf l).map (·.2)).head? := by
  unfold putM
  rw [List.head?_map, List.head?_filter]
def dS (x : List Bool) : PyData := .str (W x)
theorem dp_strs {K : PySem.W.Frag} {H : Hp} : ∀ xs : List (List Bool), DpAll K H (xs.map fun x => V.str (W x)) (xs.map dS)
  | [] => .nil
  | x :: r => .cons (.str _) (dp_strs r)
theorem strOk_W (x : List Bool) : PyData.strOk (W x) = true := by
  unfold PyData.strOk
  simp only [W, S, List.all_toArray, List.all_map, List.all_eq_true]
  intro b _
  cases b <;> decide +kernel
def DOk (n : Nat) (d : PyData) : Prop := PyData.canLay0 d = true ∧ PyData.depth d ≤ n
theorem dok_str (x : List Bool) : DOk 0 (.str (W x)) := ⟨strOk_W x, Nat.le_refl _⟩
theorem dok_all {n : Nat} : ∀ {ds : List PyData}, (∀ d ∈ ds, DOk n d) → PyData.canLayAll0 ds = true ∧ PyData.depthAll ds ≤ n
  | [], _ => ⟨rfl, Nat.zero_le _⟩
  | d :: r, h => by
    have h1 := h d List.mem_cons_self
    have h2 := dok_all (ds := r) fun d hd => h d (List.mem_cons_of_mem _ hd)
    refine ⟨?_, ?_⟩
    · show (PyData.canLay0 d && PyData.canLayAll0 r) = true
      rw [h1.1, h2.1]; rfl
    · show max (PyData.depth d) (PyData.depthAll r) ≤ n
      have := h1.2; have := h2.2; omega
theorem dok_list {n : Nat} {ds : List PyData} (h : ∀ d ∈ ds, DOk n d) : DOk (n + 1) (.list ds) := ⟨(dok_all h).1, Nat.succ_le_succ (dok_all h).2⟩
theorem dok_tup {n : Nat} {ds : List PyData} (h : ∀ d ∈ ds, DOk n d) : DOk (n + 1) (.tuple ds) := ⟨(dok_all h).1, Nat.succ_le_succ (dok_all h).2⟩
theorem DOk.shaped {n : Nat} {d : PyData} (h : DOk n d) (hn : n ≤ 64) : SeqAt.shaped d = true := by
  unfold SeqAt.shaped
  rw [h.1, decide_eq_true (Nat.le_trans h.2 hn)]
  rfl
theorem shaped_strs (xs : List (List Bool)) : SeqAt.shaped (.list (xs.map dS)) = true := (dok_list (n := 0) fun d hd => by
  obtain ⟨x, _, rfl⟩ := List.mem_map.mp hd
  exact dok_str x).shaped (by decide)
theorem shaped_nil : SeqAt.shaped (.list []) = true := by decide +kernel
theorem eqv_nil (ds : List PyData) : PyData.eqv (.list ds) (.list []) = ds.isEmpty := by cases ds <;> rfl
end U
set_option maxRecDepth 100000
set_option maxHeartbeats 4000000
namespace U
open PySem PySem.Spec PyProof.Rows
open L2 hiding Fun CX0 E0 pass0 Fun.binds
open C8 Lx SX StX
def spLPut : Sp := fun vs H Q _ => ∃ (t : Addr) (f l : List Bool) (ss : List Stf), vs = [.ref t, .str (W l)] ∧ Told H t f ss ∧ l.length ≤ 50000 ∧ ss.length ≤ 1000 ∧ (∀ s ∈ ss, s.1.length ≤ 1000) ∧ ∀ H', Same H H' → Q (.str (W (putL ss l))) H'
def spIsRule : Sp := fun vs H Q _ => ∃ (t : Addr) (f : List Bool) (ss : List Stf), vs = [.ref t] ∧ Told H t f ss ∧ ss.length ≤ 1000 ∧ (∀ s ∈ ss, s.1.length ≤ 5) ∧ ∀ r H', Same H H' → (r = true → SufFree ss ∧ OkS ss) → Q (.bl r) H'
def Cls1 (ss : List Stf) (kn : List (List Bool)) (w : List Bool) (b : Bool) : Prop := (itP ss 24 (w ++ [b])).length ≤ w.length + 20 ∧ tl 5 (itP ss 24 (w ++ [b])) ∈ kn
theorem Cls1.more {ss : List Stf} {kn : List (List Bool)} {w u : List Bool} {b : Bool} (h : Cls1 ss kn w b) : Cls1 ss (kn ++ [u]) w b := ⟨h.1, List.mem_append_left _ h.2⟩
structure Dfs (ss : List Stf) (H H2 : Hp) (q d : Addr) (kn wt : List (List Bool)) : Prop where
  same : Same H H2
  wait : H2 q = some (.lst (wt.map fun w => V.str (W w)))
  known : H2 d = some (.dK (kst kn))
  nodup : kn.Nodup
  short : ∀ w ∈ kn, w.length ≤ 5
  sub : ∀ w ∈ wt, w ∈ kn
  nil : [] ∈ kn
  le : wt.length ≤ kn.length
theorem Dfs.on {ss : List Stf} {H H2 H3 : Hp} {q d : Addr} {kn wt : List (List Bool)} (b : Dfs ss H H2 q d kn wt) (s : Same H2 H3) : Dfs ss H H3 q d kn wt :=
  ⟨b.same.trans s, s _ _ b.wait, s _ _ b.known, b.nodup, b.short, b.sub, b.nil, b.le⟩
theorem Dfs.few {ss : List Stf} {H H2 : Hp} {q d : Addr} {kn wt : List (List Bool)} (b : Dfs ss H H2 q d kn wt) : kn.length ≤ 63 := by
  have := words_le b.nodup b.short
  have e : (2 : Nat) ^ (5 + 1) = 64 := by decide
  omega
theorem sufFree_of {ss : List Stf} (h : ∀ (i j : Nat) (a b : Stf), i ≠ j → ss[i]? = some a → ss[j]? = some b → b.1.isSuffixOf a.1 = false) : SufFree ss := by
  unfold SufFree
  rw [List.pairwise_iff_getElem]
  intro i j hi hj hij
  have e1 := h i j _ _ (by omega) (List.getElem?_eq_getElem hi) (List.getElem?_eq_getElem hj)
  have e2 := h j i _ _ (by omega) (List.getElem?_eq_getElem hj) (List.getElem?_eq_getElem hi)
  refine ⟨fun z => ?_, fun z => ?_⟩
  · rw [List.isSuffixOf_iff_suffix.mpr z] at e2; cases e2
  · rw [List.isSuffixOf_iff_suffix.mpr z] at e1; cases e1
section
variable {P : Program} {w : World} {K : PySem.W.Frag} {mg : Str → Option Value} {base : Heap}
theorem sc_l_put : FnScope ["_law_rule_here", "_law_line", "_law_some", "_law_pattern", "_law_bit"] ["_law_rule_here", "_law_line"] (fnScope s_l_put) := fnScope_by (by decide +kernel)
theorem cal_l_put {f : Addr} {fd : FuncData} (F : Def K mg "_law_put" s_l_put f fd) (b : Binds K fd ["_law_rule_here", "_law_line"] []) (T : Tx mg) : Cal P w K mg base 1 "_law_put" spLPut [] := by
  refine cal0 F b .nil sc_l_put (fun vs H Q E h => ?_) (fun cdv A outer s H vs Q E hr h => ?_)
  · obtain ⟨_, _, _, _, rfl, _⟩ := h; rfl
  · obtain ⟨t, fl, l, ss, rfl, ⟨r, ps, kb, ht, hl, hs, rfl⟩, h1, h2, h3, k⟩ := h
    refine ⟨_, (pss_cons (ps_setLc (i := 2) (own := [("_law_pattern", 3), ("_law_bit", 4)]) (g := gTup K 2 (gCons (gName 3) (gCons (gName 4) gNil))) (by rfl) sc_l_put.nd rfl rfl (sw_true rfl rfl rfl (by decide +kernel)) (pi_list (pe_ix ix_tup (pv 0) pe_int (fun _ _ => rfl))) (blkOk_by (own := [("_law_pattern", 3), ("_law_bit", 4)]) (N := ["_law_rule_here", "_law_line", "_law_some", "_law_pattern", "_law_bit"]) (sc := fnScope s_l_put) (by decide +kernel)) (fun _ _ _ _ _ => (pg_tup rfl (pgs_cons (pg_name (i := 3) sc_l_put.nd rfl (.inl rfl)) (pgs_cons (pg_name (i := 4) sc_l_put.nd rfl (.inl rfl)) pgs_nil)))) (fun _ _ _ _ _ => (pts_one (pt_cmpR op_eq (pe_slice sl_txt (pv 1) (po_some (pe_callB (call_max2 rfl) (by rfl) T.b_max (by decide +kernel) (pa_cons pe_int (pa_cons (pe_op op_sub (pe_callB call_len_str (by rfl) T.b_len (by decide +kernel) (pa_cons (pv 1) pa_nil)) (pe_callB call_len_str (by rfl) T.b_len (by decide +kernel) (pa_cons (pv 3) pa_nil))) pa_nil)))) po_none) (pv 3) (nomark _)))) (fun _ _ _ _ _ => (pv 4)))
    (pss_one (ps_ret (pe_ifExp (pt_cmpR (op_neD hr.units) (pv 2) (pe_lst pa_nil) (nomark _)) (pe_ix ix_list (pv 2) pe_int (fun _ _ => rfl)) pe_str)))), ?_⟩
    have lw : (W l).length ≤ sizeLine := by rw [W_len]; exact sl_len (by omega)
    refine ⟨_, rfl, t, _, 1, _, rfl, rfl, SqT.of ht, rfl, r, rfl, ⟨_, SqL.of hl⟩, fun D nD => ?_⟩
    refine lc_it (walk_list (xs := ps.map V.ref)) (fun i H2 => Same H H2 ∧ H2 D = some (.lst (((((ps.take i).map kb).filter fun s => s.1.isSuffixOf l).map fun s => [s.2]).map fun x => V.str (W x)))) ⟨same_upd nD, upd_same⟩ (fun i H2 _ h2 => h2.1.seq (SqL.of hl)) ?_ ?_
    · rintro i x H2 H3 hi ⟨s2, hD⟩ ⟨rfl, hx⟩
      rw [List.getElem?_map] at hx
      obtain ⟨q, hq, rfl⟩ := Option.map_eq_some_iff.mp hx
      have hqm : q ∈ ps := List.mem_of_getElem? hq
      have lq : (W (kb q).1).length ≤ sizeLine := by rw [W_len]; exact sl_len (Nat.le_trans (h3 _ (List.mem_map_of_mem hqm)) (by decide))
      refine ⟨q, _, rfl, SqT.of (s2 _ _ (hs q hqm)), rfl, _, _, rfl, _, _, rfl, rfl, rfl, ?_⟩
      refine ⟨_, rfl, _, rfl, _, rfl, lw, _, rfl, _, rfl, lq, _, _, rfl, rfl, _, _, rfl, _, rfl, _, rfl, lw, _, rfl, rfl, _, rfl, ?_⟩
      rw [W_tail, W_len (kb q).1]
      have et : (ps.take (i + 1)).map kb = (ps.take i).map kb ++ [kb q] := by rw [List.take_add_one, hq, List.map_append]; rfl
      by_cases c : (kb q).1.isSuffixOf l = true
      · refine iteDT (by rw [← suf_iff.mp c]) ?_
        refine ⟨_, rfl, _, hD, ?_, ?_, ?_⟩
        · rw [List.length_map, List.length_map]
          refine sl_lt (Nat.lt_of_le_of_lt (List.length_filter_le _ _) ?_)
          rw [List.length_map, List.length_take]
          rw [List.length_map] at h2
          omega
        · intro c' o e
          rw [upd_ne (ne_of_none e nD)]
          exact s2 _ _ e
        · rw [upd_same, et, List.filter_append, List.map_append, List.map_append, List.filter_cons_of_pos (p := fun s : Stf => s.1.isSuffixOf l) c]
          rfl
      · refine iteDF (fun z => c (suf_iff.mpr (W_inj (V.str.inj z)).symm)) ?_
        refine ⟨s2, ?_⟩
        rw [hD, et, List.filter_append, List.filter_cons_of_neg (p := fun s : Stf => s.1.isSuffixOf l) c, List.filter_nil, List.append_nil]
    · rintro H2 ⟨s2, hD⟩
      rw [List.length_map, List.take_length] at hD
      refine ⟨_, rfl, Nat.zero_le _, fun p hp => ?_⟩
      have hp2 := putL_head (ss := ps.map kb) (l := l)
      have hD2 : upd H2 p (.lst []) D = some (.lst ((((ps.map kb).filter fun s => s.1.isSuffixOf l).map fun s => [s.2]).map fun x => V.str (W x))) := same_upd hp _ _ hD
      have s3 := s2.trans (same_upd (o := .lst []) hp)
      refine ⟨.list ((((ps.map kb).filter fun s => s.1.isSuffixOf l).map fun s => [s.2]).map dS), .list [], .lst (SqL.of hD2) (dp_strs _), .lst (SqL.of upd_same) .nil, shaped_strs _, shaped_nil, _, rfl, ?_⟩
      rw [eqv_nil]
      have k3 := k _ s3
      unfold putL at k3
      rw [hp2] at k3
      generalize (ps.map kb).filter (fun s => s.1.isSuffixOf l) = fs at hD2 k3
      cases fs with
      | nil =>
        show Q (.str "") _
        rw [W_nil]
        exact k3
      | cons x r =>
        exact ⟨_, rfl, D, _, 0, .str (W [x.2]), rfl, rfl, SqL.of hD2, atI_nat (j := 0) rfl, k3⟩
end
end U
set_option maxRecDepth 100000
set_option maxHeartbeats 4000000
namespace U
open PySem PySem.Spec PyProof.Rows
open L2 hiding Fun CX0 E0 pass0 Fun.binds
open C8 Lx SX StX
theorem W_tail5 (l : List Bool) : Txt.slice (W l) (some (if (((W l).length : Nat) : Int) - 5 > 0 then (((W l).length : Nat) : Int) - 5 else 0)) none = W (tl 5 l) := W_tail l 5
theorem pop_end {wt : List (List Bool)} {w : List Bool} : ((wt ++ [w]).map fun w => V.str (W w))[((wt ++ [w]).map fun w => V.str (W w)).length - 1]? = some (.str (W w)) := by
  rw [List.length_map, List.length_append, List.getElem?_map, List.length_cons, List.length_nil, List.getElem?_append_right (by omega), show wt.length + (0 + 1) - 1 - wt.length = 0 by omega]
  rfl
theorem pop_rest {wt : List (List Bool)} {w : List Bool} : ((wt ++ [w]).map fun w => V.str (W w)).dropLast = wt.map fun w => V.str (W w) := by
  rw [List.map_append]
  exact List.dropLast_concat
section
variable {P : Program} {w : World} {K : PySem.W.Frag} {mg : Str → Option Value} {base : Heap}
theorem sc_l_is_rule : FnScope ["_law_rule_here", "_law_names", "_law_pattern", "_law_bit", "_law_at", "_law_one", "_law_spot", "_law_other_one", "_law_known", "_law_waiting", "_law_behind", "_law_line", "_law_turn", "_law_due", "_law_there"] ["_law_rule_here"] (fnScope s_l_is_rule) := fnScope_by (by decide +kernel)
theorem cal_l_is_rule {f : Addr} {fd : FuncData} (F : Def K mg "_law_is_rule" s_l_is_rule f fd) (b : Binds K fd ["_law_rule_here"] []) (T : Tx mg) (c_l_put : Cal P w K mg base 1 "_law_put" spLPut []) : Cal P w K mg base 2 "_law_is_rule" spIsRule [] := by
  refine cal0 F b .nil sc_l_is_rule (fun vs H Q E h => ?_) (fun cdv A outer s H vs Q E hr h => ?_)
  · obtain ⟨_, _, _, rfl, _⟩ := h; rfl
  · obtain ⟨t, fl, ss, rfl, htold, h2, h3, k⟩ := h
    refine ⟨_, (pss_cons (ps_setLc (i := 1) (own := [("_law_pattern", 2), ("_law_bit", 3)]) (g := gTup K 2 (gCons (gName 2) (gCons (gName 3) gNil))) (by rfl) sc_l_is_rule.nd rfl rfl (sw_true rfl rfl rfl (by decide +kernel)) (pi_list (pe_ix ix_tup (pv 0) pe_int (fun _ _ => rfl))) (blkOk_by (own := [("_law_pattern", 2), ("_law_bit", 3)]) (N := ["_law_rule_here", "_law_names", "_law_pattern", "_law_bit", "_law_at", "_law_one", "_law_spot", "_law_other_one", "_law_known", "_law_waiting", "_law_behind", "_law_line", "_law_turn", "_law_due", "_law_there"]) (sc := fnScope s_l_is_rule) (by decide +kernel)) (fun _ _ _ _ _ => (pg_tup rfl (pgs_cons (pg_name (i := 2) sc_l_is_rule.nd rfl (.inl rfl)) (pgs_cons (pg_name (i := 3) sc_l_is_rule.nd rfl (.inl rfl)) pgs_nil)))) (fun _ _ _ _ _ => pts_nil) (fun _ _ _ _ _ => (pv 2)))
    (pss_cons (ps_for PassesOwn.never rfl (pi_enum (by rfl) T.b_enumerate (pa_cons (pv 1) pa_nil)) (pg_tup rfl (pgs_cons (pg_name (i := 4) sc_l_is_rule.nd rfl (.inl rfl)) (pgs_cons (pg_name (i := 5) sc_l_is_rule.nd rfl (.inl rfl)) pgs_nil)))
    (pss_one (ps_for PassesOwn.never rfl (pi_enum (by rfl) T.b_enumerate (pa_cons (pv 1) pa_nil)) (pg_tup rfl (pgs_cons (pg_name (i := 6) sc_l_is_rule.nd rfl (.inl rfl)) (pgs_cons (pg_name (i := 7) sc_l_is_rule.nd rfl (.inl rfl)) pgs_nil)))
    (pss_one (ps_if (PW.pt (pw_and (pt_cmpR op_ne (pv 4) (pv 6) (nomark _)) (pw_and1 (pt_val (pe_m1 PySem.F.slot_str_endswith PySem.F.type_str_endswith mt_endswith (pv 5) (pv 7)))))) (pss_one (ps_ret pe_bl)) pss_nil)))))
    (pss_cons (ps_par (i := 8) (j := 9) (by rfl) sc_l_is_rule.nd rfl rfl (by decide) rfl rfl (pa_cons (pe_disp (pps_cons pe_str pe_bl pps_nil) (by rfl) (by rfl) (fun z => by cases z) (by decide)) (pa_cons (pe_lst (pa_cons pe_str pa_nil)) pa_nil)) (by rfl))
    (pss_cons (ps_while PassesOwn.never (pt_cmpR (op_neD hr.units) (pv 9) (pe_lst pa_nil) (nomark _))
    (pss_cons (ps_set (i := 10) sc_l_is_rule.nd rfl (.inl rfl) (pe_bm0 PySem.F.plainAttrs_list PySem.F.slot_list_pop PySem.F.type_list_pop mt_pop (pv 9)))
    (pss_one (ps_for PassesOwn.never rfl (pi_str pe_str) (pg_name (i := 3) sc_l_is_rule.nd rfl (.inl rfl))
    (pss_cons (ps_set (i := 11) sc_l_is_rule.nd rfl (.inl rfl) (pe_op op_add_str (pv 10) (pv 3)))
    (pss_cut (ps_for PassesOwn.never rfl (pi_range1 (by rfl) T.b_range (pa_cons pe_int pa_nil)) (pg_name (i := 12) sc_l_is_rule.nd rfl (.inl rfl))
    (pss_cons (ps_set (i := 13) sc_l_is_rule.nd rfl (.inl rfl) (pe_c c_l_put hr (by decide) rfl (pa_cons (pv 0) (pa_cons (pv 11) pa_nil))))
    (pss_cons (ps_if (pt_cmpR op_eq (pv 13) pe_str (nomark _)) (pss_one ps_break) pss_nil)
    (pss_one (ps_set (i := 11) sc_l_is_rule.nd rfl (.inl rfl) (pe_op op_add_str (pv 11) (pv 13)))))))
    (pss_cons (ps_if (pt_cmpR op_gt (pe_callB call_len_str (by rfl) T.b_len (by decide +kernel) (pa_cons (pv 11) pa_nil)) (pe_op op_add (pe_callB call_len_str (by rfl) T.b_len (by decide +kernel) (pa_cons (pv 10) pa_nil)) pe_int) (nomark _)) (pss_one (ps_ret pe_bl)) pss_nil)
    (pss_cons (ps_set (i := 14) sc_l_is_rule.nd rfl (.inl rfl) (pe_slice sl_txt (pv 11) (po_some (pe_callB (call_max2 rfl) (by rfl) T.b_max (by decide +kernel) (pa_cons pe_int (pa_cons (pe_op op_sub (pe_callB call_len_str (by rfl) T.b_len (by decide +kernel) (pa_cons (pv 11) pa_nil)) pe_int) pa_nil)))) po_none))
    (pss_one (ps_if (pt_cmp (pc_dnotin (hu_of hr) (pv 14) (pv 8))) (pss_cons (ps_dput (hu_of hr) (pv 8) (pv 14) pe_bl rfl)
    (pss_one (ps_expr (pe_bm PySem.F.plainAttrs_list PySem.F.slot_list_append PySem.F.type_list_append mt_append (pv 9) (pa_cons (pv 14) pa_nil))))) pss_nil))))))))))
    (pss_one (ps_ret pe_bl)))))), ?_⟩
    obtain ⟨r, ps, kb, ht, hl, hs, hss⟩ := id htold
    have lss : ss.length = ps.length := by rw [hss, List.length_map]
    refine ⟨_, rfl, t, _, 1, _, rfl, rfl, SqT.of ht, rfl, r, rfl, ⟨_, SqL.of hl⟩, fun D nD => ?_⟩
    refine lc_it (walk_list (xs := ps.map V.ref)) (fun i H2 => Same H H2 ∧ H2 D = some (.lst ((ss.take i).map fun s => V.str (W s.1)))) ⟨same_upd nD, upd_same⟩ (fun i H2 _ h2 => h2.1.seq (SqL.of hl)) ?_ ?_
    · rintro i x H2 H3 hi ⟨s2, hD⟩ ⟨rfl, hx⟩
      rw [List.getElem?_map] at hx
      obtain ⟨q, hq, rfl⟩ := Option.map_eq_some_iff.mp hx
      have hqm : q ∈ ps := List.mem_of_getElem? hq
      have hsi : ss[i]? = some (kb q) := by rw [hss, List.getElem?_map, hq]; rfl
      rw [List.length_map] at hi
      refine ⟨q, _, rfl, SqT.of (s2 _ _ (hs q hqm)), rfl, _, _, rfl, _, _, rfl, rfl, rfl, ?_⟩
      refine ⟨_, rfl, _, hD, ?_, ?_, ?_⟩
      · rw [List.length_map, List.length_take]; exact sl_lt (by omega)
      · intro c' o e
        rw [upd_ne (ne_of_none e nD)]
        exact s2 _ _ e
      · rw [upd_same, List.take_add_one, hsi, List.map_append]; rfl
    · rintro H2 ⟨s2, hD⟩
      rw [List.length_map, ← lss, List.take_length] at hD
      have at' : ∀ {i : Nat} {y : V}, (ss.map fun s => V.str (W s.1))[i]? = some y → ∃ a, ss[i]? = some a ∧ y = .str (W a.1) := fun {i y} h => by
        rw [List.getElem?_map] at h
        obtain ⟨a, ha, e⟩ := Option.map_eq_some_iff.mp h
        exact ⟨a, ha, e.symm⟩
      refine ⟨_, rfl, D, _, rfl, SqL.of hD, ?_⟩
      refine for_it walk_enum (fun i σ H3 => ∃ v2 v3 v4 v5 v6 v7 v8 v9 v10 v11 v12 v13 v14 : Option V, σ = [some (.ref t), some (.ref D), v2, v3, v4, v5, v6, v7, v8, v9, v10, v11, v12, v13, v14] ∧ Same H H3 ∧ H3 D = some (.lst (ss.map fun s => V.str (W s.1))) ∧ ∀ (i' j : Nat) (a b : Stf), i' < i → i' ≠ j → ss[i']? = some a → ss[j]? = some b → b.1.isSuffixOf a.1 = false)
        ⟨none, none, none, none, none, none, none, none, none, none, none, none, none, rfl, s2, hD, fun i' j a b h => absurd h (Nat.not_lt_zero _)⟩ (fun i σ H3 _ h3 => by obtain ⟨_, _, _, _, _, _, _, _, _, _, _, _, _, _, _, h, _⟩ := h3; exact SqL.of h) ?_ ?_
      · rintro i x σ H3 H3' hi ⟨v2, v3, v4, v5, v6, v7, v8, v9, v10, v11, v12, v13, v14, rfl, s3, hD3, hno⟩ ⟨T', y1, y2, rfl, nT, rfl, e1, e2⟩
        cases e1
        obtain ⟨a, ha, rfl⟩ := at' e2
        refine ⟨T', _, rfl, SqT.of upd_same, rfl, _, _, rfl, _, _, rfl, rfl, ?_⟩
        have s4 : Same H (upd H3 T' (.tup [.int (i : Nat), .str (W a.1)])) := s3.trans (same_upd nT)
        have hD4 : upd H3 T' (.tup [.int (i : Nat), .str (W a.1)]) D = some (.lst (ss.map fun s => V.str (W s.1))) := same_upd nT _ _ hD3
        generalize upd H3 T' (.tup [.int (i : Nat), .str (W a.1)]) = H4 at s4 hD4
        refine ⟨_, rfl, D, _, rfl, SqL.of hD4, ?_⟩
        refine for_it walk_enum (fun j σ H5 => ∃ v2 v3 v6 v7 v8 v9 v10 v11 v12 v13 v14 : Option V, σ = [some (.ref t), some (.ref D), v2, v3, some (.int (i : Nat)), some (.str (W a.1)), v6, v7, v8, v9, v10, v11, v12, v13, v14] ∧ Same H H5 ∧ H5 D = some (.lst (ss.map fun s => V.str (W s.1))) ∧ ∀ (j' : Nat) (b : Stf), j' < j → i ≠ j' → ss[j']? = some b → b.1.isSuffixOf a.1 = false)
          ⟨_, _, _, _, _, _, _, _, _, _, _, rfl, s4, hD4, fun j' b h => absurd h (Nat.not_lt_zero _)⟩ (fun i σ H3 _ h3 => by obtain ⟨_, _, _, _, _, _, _, _, _, _, _, _, _, h, _⟩ := h3; exact SqL.of h) ?_ ?_
        · rintro j x σ H5 H5' hj ⟨v2, v3, v6, v7, v8, v9, v10, v11, v12, v13, v14, rfl, s5, hD5, hno5⟩ ⟨T2, y1, y2, rfl, nT2, rfl, e1, e2⟩
          cases e1
          obtain ⟨b', hb', rfl⟩ := at' e2
          refine ⟨T2, _, rfl, SqT.of upd_same, rfl, _, _, rfl, _, _, rfl, rfl, ?_⟩
          have s6 : Same H (upd H5 T2 (.tup [.int (j : Nat), .str (W b'.1)])) := s5.trans (same_upd nT2)
          have hD6 : upd H5 T2 (.tup [.int (j : Nat), .str (W b'.1)]) D = some (.lst (ss.map fun s => V.str (W s.1))) := same_upd nT2 _ _ hD5
          generalize upd H5 T2 (.tup [.int (j : Nat), .str (W b'.1)]) = H6 at s6 hD6
          refine ⟨_, rfl, _, rfl, rfl, _, rfl, ?_⟩
          by_cases ij : i = j
          · refine iteNS (by rw [ij]) ?_
            refine ⟨_, _, _, _, _, _, _, _, _, _, _, rfl, s6, hD6, fun j' b hj' nij hb => ?_⟩
            exact hno5 j' b (by omega) nij hb
          · refine iteNT (fun z => ij (by have := V.int.inj z; omega)) ?_
            refine ⟨_, rfl, ⟨_, rfl⟩, _, rfl, _, _, rfl, rfl, _, rfl, ?_⟩
            rw [W_ends]
            cases ce : b'.1.isSuffixOf a.1 with
            | true => exact k false _ s6 (fun z => by cases z)
            | false =>
              refine ⟨_, _, _, _, _, _, _, _, _, _, _, rfl, s6, hD6, fun j' b hj' nij hb => ?_⟩
              by_cases ej : j' = j
              · subst ej
                rw [hb'] at hb
                cases hb
                exact ce
              · exact hno5 j' b (by omega) nij hb
        · rintro σ H5 ⟨v2, v3, v6, v7, v8, v9, v10, v11, v12, v13, v14, rfl, s5, hD5, hno5⟩
          refine ⟨_, _, _, _, _, _, _, _, _, _, _, _, _, rfl, s5, hD5, fun i' j a' b' hi' nij ha' hb' => ?_⟩
          by_cases ei : i' = i
          · subst ei
            rw [ha] at ha'
            cases ha'
            exact hno5 j b' (by rw [List.length_map]; exact (List.getElem?_eq_some_iff.mp hb').1) nij hb'
          · exact hno i' j a' b' (by omega) nij ha' hb'
      · rintro σ H3 ⟨v2, v3, v4, v5, v6, v7, v8, v9, v10, v11, v12, v13, v14, rfl, s3, hD3, hno⟩
        have hfree : SufFree ss := sufFree_of fun i j a b nij ha hb => hno i j a b (by rw [List.length_map]; exact (List.getElem?_eq_some_iff.mp ha).1) nij ha hb
        clear hno hD3 hD s2
        refine fun d nd => ⟨upd_same, [(.inr "", .bl true)], rfl, by decide, by show 1 ≤ sizeLine; decide, fun q nq => ⟨_, _, rfl, ?_⟩⟩
        have nqd : q ≠ d := fun z => by rw [z, upd_same] at nq; cases nq
        have nd0 : H d = none := s3.free nd
        have nq0 : H q = none := by
          cases e : H q with
          | none => rfl
          | some o => rw [upd_ne nqd, upd_ne nqd, s3 _ _ e] at nq; cases nq
        have b0 : Dfs ss H (upd (upd (upd H3 d (.dK [])) d (.dK (mergeK [] [(.inr "", .bl true)]))) q (.lst [.str ""])) q d [[]] [[]] := by
          refine ⟨fun c o e => ?_, ?_, ?_, by simp, ?_, fun w hw => hw, List.mem_cons_self, Nat.le_refl _⟩
          · have n1 := ne_of_none e nd0
            have n2 := ne_of_none e nq0
            rw [upd_ne n2, upd_ne n1, upd_ne n1]
            exact s3 _ _ e
          · rw [upd_same, W_nil]; rfl
          · rw [upd_ne (Ne.symm nqd), upd_same, W_nil]; rfl
          · intro w hw; rw [List.mem_singleton.mp hw]; exact Nat.zero_le _
        generalize upd (upd (upd H3 d (.dK [])) d (.dK (mergeK [] [(.inr "", .bl true)]))) q (.lst [.str ""]) = H4 at b0
        refine ⟨fun m σ H5 => ∃ (kn wt : List (List Bool)) (v2 v3 v4 v5 v6 v7 v10 v11 v12 v13 v14 : Option V), σ = [some (.ref t), some (.ref D), v2, v3, v4, v5, v6, v7, some (.ref d), some (.ref q), v10, v11, v12, v13, v14] ∧ Dfs ss H H5 q d kn wt ∧ (∀ w ∈ kn, w ∈ wt ∨ ∀ b, Cls1 ss kn w b) ∧ m = wt.length + 2 * (64 - kn.length),
          ⟨_, [[]], [[]], _, _, _, _, _, _, _, _, _, _, _, rfl, b0, fun w hw => .inl hw, rfl⟩, ?_⟩
        rintro m σ H5 ⟨kn, wt, v2, v3, v4, v5, v6, v7, v10, v11, v12, v13, v14, rfl, B5, hcl, rfl⟩
        refine ⟨_, rfl, Nat.zero_le _, fun p hp => ?_⟩
        have B6 := B5.on (same_upd (o := .lst []) hp)
        refine ⟨.list (wt.map dS), .list [], .lst (SqL.of B6.wait) (dp_strs _), .lst (SqL.of upd_same) .nil, shaped_strs _, shaped_nil, _, rfl, ?_⟩
        generalize upd H5 p (.lst []) = H6 at B6
        rw [eqv_nil]
        rcases List.eq_nil_or_concat wt with rfl | ⟨wt', w0, rfl⟩
        · refine k true H6 B6.same fun _ => ⟨hfree, okS_of kn h3 B6.nil fun w hw b => ?_⟩
          rcases hcl w hw with z | z
          · cases z
          · exact z b
        · rw [List.concat_eq_append] at *
          refine iteBT (by simp) ?_
          refine ⟨fun σ' H' => ∃ m', m' < (wt' ++ [w0]).length + 2 * (64 - kn.length) ∧ ∃ (kn wt : List (List Bool)) (v2 v3 v4 v5 v6 v7 v10 v11 v12 v13 v14 : Option V), σ' = [some (.ref t), some (.ref D), v2, v3, v4, v5, v6, v7, some (.ref d), some (.ref q), v10, v11, v12, v13, v14] ∧ Dfs ss H H' q d kn wt ∧ (∀ w ∈ kn, w ∈ wt ∨ ∀ b, Cls1 ss kn w b) ∧ m' = wt.length + 2 * (64 - kn.length), fun _ _ h => h, ?_⟩
          refine ⟨_, rfl, .inl ⟨rfl, _, SqL.of B6.wait⟩, q, _, .str (W w0), rfl, rfl, B6.wait, pop_end, ?_⟩
          rw [pop_rest]
          have w0k : w0 ∈ kn := B6.sub _ (List.mem_append_right _ List.mem_cons_self)
          have l0 : w0.length ≤ 5 := B6.short _ w0k
          have B7 : Dfs ss H (upd H6 q (.lst (wt'.map fun w => V.str (W w)))) q d kn wt' := by
            refine ⟨fun c o e => ?_, upd_same, ?_, B6.nodup, B6.short, fun w hw => B6.sub w (List.mem_append_left _ hw), B6.nil, by have := B6.le; rw [List.length_append] at this; omega⟩
            · rw [upd_ne (ne_of_none e nq0)]; exact B6.same _ _ e
            · rw [upd_ne (Ne.symm nqd)]; exact B6.known
          generalize upd H6 q (.lst (wt'.map fun w => V.str (W w))) = H7 at B7
          have hm0 : wt'.length + 2 * (64 - kn.length) < (wt' ++ [w0]).length + 2 * (64 - kn.length) := by rw [List.length_append, List.length_cons, List.length_nil]; omega
          have hcl7 : ∀ u ∈ kn, u ∈ wt' ∨ u = w0 ∨ ∀ b, Cls1 ss kn u b := fun u hu => by
            rcases hcl u hu with z | z
            · rcases List.mem_append.mp z with z | z
              · exact .inl z
              · exact .inr (.inl (List.mem_singleton.mp z))
            · exact .inr (.inr z)
          generalize (wt' ++ [w0]).length + 2 * (64 - kn.length) = m at hm0 ⊢
          refine ⟨_, rfl, for_it walk_str (fun i σ H8 => ∃ (kn wt : List (List Bool)) (v2 v3 v4 v5 v6 v7 v11 v12 v13 v14 : Option V), σ = [some (.ref t), some (.ref D), v2, v3, v4, v5, v6, v7, some (.ref d), some (.ref q), some (.str (W w0)), v11, v12, v13, v14] ∧ Dfs ss H H8 q d kn wt ∧ w0 ∈ kn ∧ (∀ u ∈ kn, u ∈ wt ∨ u = w0 ∨ ∀ b, Cls1 ss kn u b) ∧ (∀ (j : Nat) (b : Bool), j < i → [false, true][j]? = some b → Cls1 ss kn w0 b) ∧ wt.length + 2 * (64 - kn.length) < m)
            ⟨kn, wt', _, _, _, _, _, _, _, _, _, _, rfl, B7, w0k, hcl7, fun j b h => absurd h (Nat.not_lt_zero _), hm0⟩ (fun _ _ _ _ _ => trivial) ?_ ?_⟩
          · clear hcl7 B7 B6 B5 hm0 w0k hcl
            rintro i x σ H8 H8' hi ⟨kn, wt, v2, v3, v4, v5, v6, v7, v11, v12, v13, v14, rfl, B8, w0k, hcl8, hbits, hm8⟩ ⟨rfl, c, hc, rfl⟩
            have e01 : ("01" : Str) = W [false, true] := by decide +kernel
            rw [e01] at hc
            obtain ⟨bb, hbb, rfl⟩ := W_get hc
            have ew : W w0 ++ (⟨#[bt bb]⟩ : Str) = W (w0 ++ [bb]) := W_cat w0 [bb]
            have el : (W w0).length + (⟨#[bt bb]⟩ : Str).length ≤ sizeLine := by
              have e1 : (W w0).length = w0.length := W_len _
              have e2 : (⟨#[bt bb]⟩ : Str).length = 1 := W_len [bb]
              rw [e1, e2]; exact sl_len (by omega)
            refine ⟨_, rfl, _, rfl, _, _, rfl, rfl, el, ?_⟩
            rw [ew]
            have hll : (w0 ++ [bb]).length ≤ 6 := by rw [List.length_append, List.length_cons, List.length_nil]; omega
            refine ⟨fun σ' H9 => ∃ (v12 v13 v14 : Option V), σ' = [some (.ref t), some (.ref D), v2, some (.str ⟨#[bt bb]⟩), v4, v5, v6, v7, some (.ref d), some (.ref q), some (.str (W w0)), some (.str (W (itP ss 24 (w0 ++ [bb])))), v12, v13, v14] ∧ Same H8' H9, ?_, ?_⟩
            · refine ⟨_, rfl, by decide, by decide, for_it walk_range (fun i σ H9 => ∃ (v12 v13 v14 : Option V), σ = [some (.ref t), some (.ref D), v2, some (.str ⟨#[bt bb]⟩), v4, v5, v6, v7, some (.ref d), some (.ref q), some (.str (W w0)), some (.str (W (itP ss i (w0 ++ [bb])))), v12, v13, v14] ∧ Same H8' H9) ⟨_, _, _, rfl, Same.refl _⟩ (fun _ _ _ _ _ => trivial) ?_ ?_⟩
              · rintro i9 x σ H9 H9' hi9 ⟨v12, v13, v14, rfl, s9⟩ ⟨rfl, rfl⟩
                have hi24 : i9 < 24 := hi9
                have hle := itP_le ss i9 (w0 ++ [bb])
                have e1 : (W (itP ss i9 (w0 ++ [bb]))).length = (itP ss i9 (w0 ++ [bb])).length := W_len _
                refine ⟨_, rfl, _, rfl, t, fl, _, ss, rfl, (htold.same B8.same).same s9, by omega, h2, fun s hs => Nat.le_trans (h3 s hs) (by decide), fun H10 s10 => ?_⟩
                refine ⟨_, rfl, rfl, _, rfl, ?_⟩
                have es := itP_succ ss i9 (w0 ++ [bb])
                rw [stP_eq] at es
                cases ep : putM ss (itP ss i9 (w0 ++ [bb])) with
                | none =>
                  have e0 : putL ss (itP ss i9 (w0 ++ [bb])) = [] := by unfold putL; rw [ep]
                  rw [e0]
                  refine iteDT (by rw [W_nil]) ?_
                  have e24 : itP ss 24 (w0 ++ [bb]) = itP ss i9 (w0 ++ [bb]) := itP_rest ep (by omega)
                  rw [← e24]
                  exact ⟨_, _, _, rfl, s9.trans s10⟩
                | some b =>
                  have e0 : putL ss (itP ss i9 (w0 ++ [bb])) = [b] := by unfold putL; rw [ep]
                  rw [e0] at es ⊢
                  refine iteDF (fun z => ?_) ?_
                  · have z' := V.str.inj z
                    rw [W_nil] at z'
                    cases (W_inj z')
                  · refine ⟨_, rfl, _, rfl, _, _, rfl, rfl, by rw [e1, W_len]; exact sl_len (by simp only [List.length_cons, List.length_nil]; omega), ?_⟩
                    rw [W_cat, ← es]
                    exact ⟨_, _, _, rfl, s9.trans s10⟩
              · rintro σ H9 ⟨v12, v13, v14, rfl, s9⟩
                exact ⟨_, _, _, rfl, s9⟩
            · rintro σ H9 ⟨v12, v13, v14, rfl, s9⟩
              have hle := itP_le ss 24 (w0 ++ [bb])
              have e24 : (24 : Int).toNat = 24 := rfl
              have B9 := B8.on s9
              have e1 : (W (itP ss 24 (w0 ++ [bb]))).length = (itP ss 24 (w0 ++ [bb])).length := W_len _
              have e2 : (W w0).length = w0.length := W_len _
              have l1 : (W (itP ss 24 (w0 ++ [bb]))).length ≤ sizeLine := by rw [e1]; exact sl_len (by omega)
              refine ⟨_, rfl, _, rfl, l1, _, rfl, _, rfl, by rw [e2]; exact sl_len (by omega), _, _, rfl, rfl, _, _, rfl, rfl, _, rfl, ?_⟩
              by_cases cl : w0.length + 20 < (itP ss 24 (w0 ++ [bb])).length
              · refine iteDT (by rw [e2]; show _ < (((W (itP ss 24 (w0 ++ [bb]))).length : Nat) : Int); rw [e1]; omega) ?_
                exact k false _ B9.same (fun z => by cases z)
              · refine iteDF (by rw [e2]; show ¬ _ < (((W (itP ss 24 (w0 ++ [bb]))).length : Nat) : Int); rw [e1]; omega) ?_
                refine ⟨_, rfl, _, rfl, _, rfl, l1, _, _, rfl, rfl, _, _, rfl, _, rfl, _, rfl, l1, ?_⟩
                show gName 14 (.str (Txt.slice (W (itP ss 24 (w0 ++ [bb]))) (some (if (((W (itP ss 24 (w0 ++ [bb]))).length : Nat) : Int) - 5 > 0 then (((W (itP ss 24 (w0 ++ [bb]))).length : Nat) : Int) - 5 else 0)) none)) _ _ _
                rw [W_tail5]
                refine ⟨_, rfl, _, rfl, d, _, rfl, DGet.k (k := .inr (W (tl 5 (itP ss 24 (w0 ++ [bb]))))) B9.known, _, rfl, ?_⟩
                have few9 := B9.few
                by_cases hin : tl 5 (itP ss 24 (w0 ++ [bb])) ∈ kn
                · refine iteBF (by rw [val_in hin]; rfl) ?_
                  refine ⟨kn, wt, _, _, _, _, _, _, _, _, _, _, rfl, B9, w0k, hcl8, fun j b hj hb => ?_, hm8⟩
                  by_cases ej : j = i
                  · subst ej
                    rw [hbb] at hb
                    cases hb
                    exact ⟨by omega, hin⟩
                  · exact hbits j b (by omega) hb
                · refine iteBT (by rw [val_out hin]; rfl) ?_
                  refine ⟨_, rfl, _, rfl, d, _, rfl, DPut.k (k := .inr (W (tl 5 (itP ss 24 (w0 ++ [bb]))))) B9.known (by unfold kst; rw [List.length_map]; exact sl_lt (by omega)), ?_⟩
                  rw [put_out hin]
                  have hW : upd H9 d (.dK (kst (kn ++ [tl 5 (itP ss 24 (w0 ++ [bb]))]))) q = some (.lst (wt.map fun w => V.str (W w))) := by rw [upd_ne nqd]; exact B9.wait
                  have wtl : wt.length < 1000 := by have := B9.le; omega
                  refine ⟨_, rfl, .inl ⟨rfl, _, SqL.of hW⟩, _, rfl, q, _, _, rfl, rfl, hW, by rw [List.length_map]; exact sl_lt (by omega), ?_⟩
                  refine ⟨kn ++ [tl 5 (itP ss 24 (w0 ++ [bb]))], wt ++ [tl 5 (itP ss 24 (w0 ++ [bb]))], _, _, _, _, _, _, _, _, _, _, rfl, ⟨fun c o e => ?_, ?_, ?_, ?_, ?_, ?_, List.mem_append_left _ B9.nil, by have := B9.le; rw [List.length_append, List.length_append]; exact Nat.add_le_add_right this _⟩, List.mem_append_left _ w0k, fun u hu => ?_, fun j b hj hb => ?_, ?_⟩
                  · rw [upd_ne (ne_of_none e nq0), upd_ne (ne_of_none e nd0)]
                    exact B9.same _ _ e
                  · rw [upd_same, List.map_append]; rfl
                  · rw [upd_ne (Ne.symm nqd), upd_same]
                  · rw [List.nodup_append]
                    refine ⟨B9.nodup, by simp, fun u hu v hv e => ?_⟩
                    rw [List.mem_singleton.mp hv] at e
                    exact hin (e ▸ hu)
                  · intro u hu
                    rcases List.mem_append.mp hu with z | z
                    · exact B9.short _ z
                    · rw [List.mem_singleton.mp z]; exact tl_le _ _
                  · intro u hu
                    rcases List.mem_append.mp hu with z | z
                    · exact List.mem_append_left _ (B9.sub _ z)
                    · exact List.mem_append_right _ z
                  · rcases List.mem_append.mp hu with z | z
                    · rcases hcl8 u z with z | z | z
                      · exact .inl (List.mem_append_left _ z)
                      · exact .inr (.inl z)
                      · exact .inr (.inr fun b => (z b).more)
                    · exact .inl (List.mem_append_right _ z)
                  · by_cases ej : j = i
                    · subst ej
                      rw [hbb] at hb
                      cases hb
                      exact ⟨by omega, List.mem_append_right _ List.mem_cons_self⟩
                    · exact (hbits j b (by omega) hb).more
                  · rw [List.length_append, List.length_append, List.length_cons, List.length_nil]; omega
          · rintro σ H8 ⟨kn, wt, v2, v3, v4, v5, v6, v7, v11, v12, v13, v14, rfl, B8, w0k, hcl8, hbits, hm8⟩
            refine ⟨_, hm8, kn, wt, _, _, _, _, _, _, _, _, _, _, _, rfl, B8, fun u hu => ?_, rfl⟩
            rcases hcl8 u hu with z | z | z
            · exact .inl z
            · rw [z]
              refine .inr fun b => ?_
              have e2 : ("01" : Str).cps.size = 2 := by decide +kernel
              cases b with
              | false => exact hbits 0 false (by rw [e2]; decide) rfl
              | true => exact hbits 1 true (by rw [e2]; decide) rfl
            · exact .inr z
end
end U
set_option maxRecDepth 100000
set_option maxHeartbeats 4000000
namespace U
open PySem PySem.Spec PyProof.Rows
open L2 hiding Fun CX0 E0 pass0 Fun.binds
open C8 Lx SX StX
def spRule : Sp := fun vs H Q _ => ∃ (b : Addr) (wd lo : Nat), vs = [.ref b, .int wd, .int lo] ∧ Box H b ∧ 2 ≤ wd ∧ wd ≤ 100 ∧ 1 ≤ lo ∧ lo ≤ 5 ∧
  ∀ (t : Addr) (f : List Bool) (ss : List Stf) H', Up b H H' → Told H' t f ss → 2 ≤ f.length → f.length ≤ max wd 3 → ss.length ≤ 2 → StOk ss → OkS ss → (∀ s ∈ ss, s.1.length ≤ lo) → Q (.ref t) H'
theorem told_const {H : Hp} {p1 p2 p3 : Addr} {z0 z1 z2 : Str} {f p : List Bool} {b : Bool} (e0 : z0 = W f) (e1 : z1 = W p) (e2 : z2 = W [b]) (n1 : H p1 = none) (n2 : upd H p1 (.tup [.str z1, .str z2]) p2 = none) (n3 : upd (upd H p1 (.tup [.str z1, .str z2])) p2 (.lst [.ref p1]) p3 = none) :
    Same H (upd (upd (upd H p1 (.tup [.str z1, .str z2])) p2 (.lst [.ref p1])) p3 (.tup [.str z0, .ref p2])) ∧ Told (upd (upd (upd H p1 (.tup [.str z1, .str z2])) p2 (.lst [.ref p1])) p3 (.tup [.str z0, .ref p2])) p3 f [(p, b)] := by
  refine ⟨((same_upd n1).trans (same_upd n2)).trans (same_upd n3), p2, [p1], fun _ => (p, b), ?_, ?_, ?_, rfl⟩
  · rw [upd_same, e0]
  · exact same_upd n3 _ _ upd_same
  · intro t ht
    rw [List.mem_singleton.mp ht, ← e1, ← e2]
    exact same_upd n3 _ _ (same_upd n2 _ _ upd_same)
def Good1 (m n : Nat) (H : Hp) (x : Addr) : Prop := ∃ f p b, Told H x f [(p, b)] ∧ 2 ≤ f.length ∧ f.length ≤ m ∧ p ≠ [] ∧ p.length ≤ n ∧ OkS [(p, b)]
theorem Good1.same {m n : Nat} {H H' : Hp} {x : Addr} (h : Good1 m n H x) (e : Same H H') : Good1 m n H' x := by
  obtain ⟨f, p, b, h1, h2⟩ := h
  exact ⟨f, p, b, h1.same e, h2⟩
theorem Good1.up {m n : Nat} {b : Addr} {H H' : Hp} {x : Addr} (hb : Box H b) (h : Good1 m n H x) (e : Up b H H') : Good1 m n H' x := by
  obtain ⟨f, p, b, h1, h2⟩ := h
  exact ⟨f, p, b, h1.up hb e, h2⟩
theorem told1 {H : Hp} {x : Addr} {f p : List Bool} {b : Bool} (h : Told H x f [(p, b)]) : ∃ l q, H x = some (.tup [.str (W f), .ref l]) ∧ H l = some (.lst [.ref q]) ∧ H q = some (.tup [.str (W p), .str (W [b])]) := by
  obtain ⟨l, ps, kb, h1, h2, h3, h4⟩ := h
  cases ps with
  | nil => cases h4
  | cons q r =>
    cases r with
    | cons _ _ => have := congrArg List.length h4; simp at this
    | nil =>
      have e : kb q = (p, b) := (List.cons.inj h4).1.symm
      have := h3 q List.mem_cons_self
      rw [e] at this
      exact ⟨l, q, h1, h2, this⟩
theorem told_dp {K : PySem.W.Frag} {m n : Nat} {H : Hp} {x : Addr} (h : Good1 m n H x) : ∃ d, Dp K H (.ref x) d ∧ DOk 3 d := by
  obtain ⟨f, p, b, h1, _⟩ := h
  obtain ⟨l, q, hx, hl, hq⟩ := told1 h1
  refine ⟨.tuple [.str (W f), .list [.tuple [.str (W p), .str (W [b])]]], .tup (SqT.of hx) (.cons (.str _) (.cons (.lst (SqL.of hl) (.cons (.tup (SqT.of hq) (.cons (.str _) (.cons (.str _) .nil))) .nil)) .nil)), ?_⟩
  have w0 : ∀ {n : Nat} (x : List Bool), DOk n (.str (W x)) := fun x => ⟨strOk_W x, Nat.zero_le _⟩
  refine dok_tup fun d hd => ?_
  rcases List.mem_cons.mp hd with rfl | hd
  · exact w0 _
  · rw [List.mem_singleton.mp hd]
    refine dok_list fun d hd => ?_
    rw [List.mem_singleton.mp hd]
    refine dok_tup fun d hd => ?_
    rcases List.mem_cons.mp hd with rfl | hd
    · exact w0 _
    · rw [List.mem_singleton.mp hd]; exact w0 _
theorem tolds_dp {K : PySem.W.Frag} {m n : Nat} {H : Hp} : ∀ {ts : List Addr}, (∀ x ∈ ts, Good1 m n H x) → ∃ ds, DpAll K H (ts.map V.ref) ds ∧ (∀ d ∈ ds, DOk 3 d) ∧ ds.isEmpty = ts.isEmpty
  | [], _ => ⟨[], .nil, (fun _ h => nomatch h), rfl⟩
  | x :: r, h => by
    obtain ⟨d, h1, h2⟩ := told_dp (K := K) (h x List.mem_cons_self)
    obtain ⟨ds, h3, h4, _⟩ := tolds_dp (K := K) (ts := r) fun y hy => h y (List.mem_cons_of_mem _ hy)
    refine ⟨d :: ds, .cons h1 h3, fun e he => ?_, rfl⟩
    rcases List.mem_cons.mp he with rfl | he
    · exact h2
    · exact h4 e he
theorem stOk1 {p : List Bool} {b : Bool} (h0 : p ≠ []) (h : p.length ≤ 5) : StOk [(p, b)] := by
  refine ⟨by show 1 ≤ 1000; decide, fun s hs => ?_, ?_, List.pairwise_singleton _ _⟩
  · rw [List.mem_singleton.mp hs]; exact h0
  · refine longM_max fun s hs => ?_
    rw [List.mem_singleton.mp hs]
    show p.length ≤ 9
    omega
theorem mem5 {v : V} (h : v ∈ ([.int 0, .int 1, .int 1, .int 1, .int 2] : List V)) : ∃ n : Nat, v = .int n ∧ n ≤ 2 := by
  rcases List.mem_cons.mp h with rfl | h
  · exact ⟨0, rfl, by decide⟩
  · rcases List.mem_cons.mp h with rfl | h
    · exact ⟨1, rfl, by decide⟩
    · rcases List.mem_cons.mp h with rfl | h
      · exact ⟨1, rfl, by decide⟩
      · rcases List.mem_cons.mp h with rfl | h
        · exact ⟨1, rfl, by decide⟩
        · exact ⟨2, List.mem_singleton.mp h, by decide⟩
section
variable {P : Program} {w : World} {K : PySem.W.Frag} {mg : Str → Option Value} {base : Heap}
theorem sc_l_rule : FnScope ["_law_box", "_law_widest", "_law_longest_one", "_law_some", "_law_one", "_law_turn", "_law_stuffs", "_law_more", "_law_told"] ["_law_box", "_law_widest", "_law_longest_one"] (fnScope s_l_rule) := fnScope_by (by decide +kernel)
theorem cal_l_rule {f : Addr} {fd : FuncData} (F : Def K mg "_law_rule" s_l_rule f fd) (b : Binds K fd ["_law_box", "_law_widest", "_law_longest_one"] []) (T : Tx mg) (c_l_choose : Cal P w K mg base 1 "_law_choose" spChoose []) (c_l_one_of : Cal P w K mg base 2 "_law_one_of" spOneOf []) (c_l_word : Cal P w K mg base 3 "_law_word" spWordF [])
    (c_l_is_rule : Cal P w K mg base 2 "_law_is_rule" spIsRule []) : Cal P w K mg base 4 "_law_rule" spRule [] := by
  refine cal0 F b .nil sc_l_rule (fun vs H Q E h => ?_) (fun cdv A outer s H vs Q E hr h => ?_)
  · obtain ⟨_, _, _, rfl, _⟩ := h; rfl
  · obtain ⟨bx, wd, lo, rfl, hb, w2, w100, l1, l5, k⟩ := h
    refine ⟨_, (pss_cons (ps_set (i := 3) sc_l_rule.nd rfl (.inl rfl) (pe_lst (pa_cons (pe_tup (pa_cons pe_str (pa_cons (pe_lst (pa_cons (pe_tup (pa_cons pe_str (pa_cons pe_str pa_nil))) pa_nil)) pa_nil))) (pa_cons (pe_tup (pa_cons pe_str (pa_cons (pe_lst (pa_cons (pe_tup (pa_cons pe_str (pa_cons pe_str pa_nil))) pa_nil)) pa_nil))) (pa_cons (pe_tup (pa_cons pe_str (pa_cons (pe_lst (pa_cons (pe_tup (pa_cons pe_str (pa_cons pe_str pa_nil))) pa_nil)) pa_nil))) (pa_cons (pe_tup (pa_cons pe_str (pa_cons (pe_lst (pa_cons (pe_tup (pa_cons pe_str (pa_cons pe_str pa_nil))) pa_nil)) pa_nil))) pa_nil))))))
    (pss_cons (ps_setLc (i := 3) (own := [("_law_one", 4)]) (g := gName 4) (by rfl) sc_l_rule.nd rfl rfl (sw_true rfl rfl rfl (by decide +kernel)) (pi_list (pv 3)) (blkOk_by (own := [("_law_one", 4)]) (N := ["_law_box", "_law_widest", "_law_longest_one", "_law_some", "_law_one", "_law_turn", "_law_stuffs", "_law_more", "_law_told"]) (sc := fnScope s_l_rule) (by decide +kernel)) (fun _ _ _ _ _ => (pg_name (i := 4) sc_l_rule.nd rfl (.inl rfl))) (fun _ _ _ _ _ => (pts_one (PW.pt (pw_and (pt_cmpR op_le (pe_callB call_len_str (by rfl) T.b_len (by decide +kernel) (pa_cons (pe_ix (show IxR _ (rIxT K) from ix_tup) (pv 4) pe_int (fun _ _ => rfl)) pa_nil)) (pv 1) (nomark _)) (pw_and1 (pt_cmpR op_le (pe_callB call_len_str (by rfl) T.b_len (by decide +kernel) (pa_cons (pe_ix (show IxR _ (rIxT K) from ix_tup) (pe_ix (show IxR _ (rIxL K) from ix_list) (pe_ix (show IxR _ (rIxT K) from ix_tup) (pv 4) pe_int (fun _ _ => rfl)) pe_int (fun _ _ => rfl)) pe_int (fun _ _ => rfl)) pa_nil)) (pv 2) (nomark _))))))) (fun _ _ _ _ _ => (pv 4)))
    (pss_cut (ps_if (PW.pt (pw_and (pt_cmpR (op_neD hr.units) (pv 3) (pe_lst pa_nil) (nomark _)) (pw_and1 (pt_cmpR op_eq (pe_c c_l_choose hr (by decide) rfl (pa_cons (pv 0) (pa_cons pe_int pa_nil))) pe_int (nomark _))))) (pss_one (ps_ret (pe_c c_l_one_of hr (by decide) rfl (pa_cons (pv 0) (pa_cons (pv 3) pa_nil))))) pss_nil)
    (pss_cons (ps_for PassesOwn.never rfl (pi_range1 (by rfl) T.b_range (pa_cons pe_int pa_nil)) (pg_name (i := 5) sc_l_rule.nd rfl (.inl rfl))
    (pss_cons (ps_set (i := 6) sc_l_rule.nd rfl (.inl rfl) (pe_lst pa_nil))
    (pss_cons (ps_for PassesOwn.never rfl (pi_range1 (by rfl) T.b_range (pa_cons (pe_c c_l_one_of hr (by decide) rfl (pa_cons (pv 0) (pa_cons (pe_lst (pa_cons pe_int (pa_cons pe_int (pa_cons pe_int (pa_cons pe_int (pa_cons pe_int pa_nil)))))) pa_nil))) pa_nil)) (pg_name (i := 7) sc_l_rule.nd rfl (.inl rfl))
    (pss_one (ps_expr (pe_bm PySem.F.plainAttrs_list PySem.F.slot_list_append PySem.F.type_list_append mt_append (pv 6) (pa_cons (pe_tup (pa_cons (pe_c c_l_word hr (by decide) rfl (pa_cons (pv 0) (pa_cons pe_int (pa_cons (pv 2) pa_nil)))) (pa_cons (pe_c c_l_one_of hr (by decide) rfl (pa_cons (pv 0) (pa_cons (pe_lst (pa_cons pe_str (pa_cons pe_str pa_nil))) pa_nil))) pa_nil))) pa_nil)))))
    (pss_cons (ps_set (i := 8) sc_l_rule.nd rfl (.inl rfl) (pe_tup (pa_cons (pe_c c_l_word hr (by decide) rfl (pa_cons (pv 0) (pa_cons pe_int (pa_cons (pv 1) pa_nil)))) (pa_cons (pv 6) pa_nil))))
    (pss_one (ps_if (pt_val (pe_c c_l_is_rule hr (by decide) rfl (pa_cons (pv 8) pa_nil))) (pss_one (ps_ret (pv 8))) pss_nil))))))
    (pss_one (ps_ret (pe_tup (pa_cons pe_str (pa_cons (pe_lst pa_nil) pa_nil))))))))), ?_⟩
    have i1 : 1 ≤ sizeLine := by decide
    have i2 : 2 ≤ sizeLine := by decide
    refine ⟨i2, fun a1 na1 => ⟨i1, fun a2 na2 => ⟨i2, fun a3 na3 => ?_⟩⟩⟩
    obtain ⟨sa, ta⟩ := told_const (z0 := "01110") (z1 := "11") (z2 := "0") (f := [false, true, true, true, false]) (p := [true, true]) (b := false) (by decide +kernel) (by decide +kernel) (by decide +kernel) na1 na2 na3
    generalize upd (upd (upd H a1 (.tup [.str "11", .str "0"])) a2 (.lst [.ref a1])) a3 (.tup [.str "01110", .ref a2]) = Ha at sa ta
    refine ⟨i2, fun b1 nb1 => ⟨i1, fun b2 nb2 => ⟨i2, fun b3 nb3 => ?_⟩⟩⟩
    obtain ⟨sb, tb⟩ := told_const (z0 := "0010") (z1 := "001") (z2 := "1") (f := [false, false, true, false]) (p := [false, false, true]) (b := true) (by decide +kernel) (by decide +kernel) (by decide +kernel) nb1 nb2 nb3
    generalize upd (upd (upd Ha b1 (.tup [.str "001", .str "1"])) b2 (.lst [.ref b1])) b3 (.tup [.str "0010", .ref b2]) = Hb at sb tb
    refine ⟨i2, fun c1 nc1 => ⟨i1, fun c2 nc2 => ⟨i2, fun c3 nc3 => ?_⟩⟩⟩
    obtain ⟨sc, tc⟩ := told_const (z0 := "11") (z1 := "1") (z2 := "0") (f := [true, true]) (p := [true]) (b := false) (by decide +kernel) (by decide +kernel) (by decide +kernel) nc1 nc2 nc3
    generalize upd (upd (upd Hb c1 (.tup [.str "1", .str "0"])) c2 (.lst [.ref c1])) c3 (.tup [.str "11", .ref c2]) = Hc at sc tc
    refine ⟨i2, fun d1 nd1 => ⟨i1, fun d2 nd2 => ⟨i2, fun d3 nd3 => ?_⟩⟩⟩
    obtain ⟨sd, td⟩ := told_const (z0 := "10001") (z1 := "00") (z2 := "1") (f := [true, false, false, false, true]) (p := [false, false]) (b := true) (by decide +kernel) (by decide +kernel) (by decide +kernel) nd1 nd2 nd3
    generalize upd (upd (upd Hc d1 (.tup [.str "00", .str "1"])) d2 (.lst [.ref d1])) d3 (.tup [.str "10001", .ref d2]) = Hd at sd td
    refine ⟨by show 4 ≤ sizeLine; decide, fun L nL => ?_⟩
    have sL : Same H (upd Hd L (.lst [.ref a3, .ref b3, .ref c3, .ref d3])) := ((((sa.trans sb).trans sc).trans sd)).trans (same_upd nL)
    have hL : upd Hd L (.lst [.ref a3, .ref b3, .ref c3, .ref d3]) L = some (.lst ([a3, b3, c3, d3].map V.ref)) := upd_same
    have hG : ∀ x ∈ [a3, b3, c3, d3], Good1 5 3 (upd Hd L (.lst [.ref a3, .ref b3, .ref c3, .ref d3])) x := fun x hx => by
      have g : Good1 5 3 Hd x := by
        rcases List.mem_cons.mp hx with rfl | hx
        · exact ⟨_, _, _, ((ta.same sb).same sc).same sd, by decide, by decide, by decide, by decide, okS_11⟩
        · rcases List.mem_cons.mp hx with rfl | hx
          · exact ⟨_, _, _, (tb.same sc).same sd, by decide, by decide, by decide, by decide, okS_001⟩
          · rcases List.mem_cons.mp hx with rfl | hx
            · exact ⟨_, _, _, tc.same sd, by decide, by decide, by decide, by decide, okS_1⟩
            · rw [List.mem_singleton.mp hx]
              exact ⟨_, _, _, td, by decide, by decide, by decide, by decide, okS_00⟩
      exact g.same (same_upd nL)
    generalize upd Hd L (.lst [.ref a3, .ref b3, .ref c3, .ref d3]) = H5 at sL hL hG
    clear td tc tb ta sd sc sb sa
    have las : [a3, b3, c3, d3].length ≤ 900 := by show 4 ≤ 900; decide
    generalize [a3, b3, c3, d3] = as at hL hG las
    refine ⟨_, rfl, L, rfl, ⟨_, SqL.of hL⟩, fun D nD => ?_⟩
    refine lc_it (walk_list (xs := as.map V.ref)) (fun i H2 => Same H5 H2 ∧ ∃ ts : List Addr, H2 D = some (.lst (ts.map V.ref)) ∧ ts.length ≤ i ∧ ∀ x ∈ ts, Good1 wd lo H5 x) ⟨same_upd nD, [], upd_same, Nat.zero_le _, fun _ h => nomatch h⟩ (fun i H2 _ h2 => h2.1.seq (SqL.of hL)) ?_ ?_
    · rintro i x H2 H3 hi ⟨s2, ts, hD, hts, hall⟩ ⟨rfl, hx⟩
      rw [List.getElem?_map] at hx
      obtain ⟨x, hq, rfl⟩ := Option.map_eq_some_iff.mp hx
      have g := hG x (List.mem_of_getElem? hq)
      obtain ⟨f0, p0, b0, tx, f2, f5, p1, p3, okr⟩ := id g
      obtain ⟨l, q, hx5, hl5, hq5⟩ := told1 tx
      rw [List.length_map] at hi
      have ef : (W f0).length = f0.length := W_len _
      have ep : (W p0).length = p0.length := W_len _
      refine ⟨rfl, ?_⟩
      refine ⟨_, rfl, x, _, 0, _, rfl, rfl, SqT.of (s2 _ _ hx5), rfl, _, rfl, by rw [ef]; exact sl_len (by omega), _, rfl, _, _, rfl, rfl, _, rfl, ?_⟩
      by_cases cf : f0.length ≤ wd
      · refine iteDT (by rw [ef]; omega) ?_
        refine ⟨_, rfl, x, _, 1, _, rfl, rfl, SqT.of (s2 _ _ hx5), rfl, l, _, 0, _, rfl, rfl, SqL.of (s2 _ _ hl5), rfl, q, _, 0, _, rfl, rfl, SqT.of (s2 _ _ hq5), rfl, _, rfl, by rw [ep]; exact sl_len (by omega), _, rfl, _, _, rfl, rfl, _, rfl, ?_⟩
        by_cases cp : p0.length ≤ lo
        · refine iteDT (by rw [ep]; omega) ?_
          refine ⟨_, rfl, _, hD, by rw [List.length_map]; exact sl_lt (by omega), ?_, ts ++ [x], ?_, by rw [List.length_append, List.length_cons, List.length_nil]; omega, fun y hy => ?_⟩
          · intro c' o e
            rw [upd_ne (ne_of_none e nD)]
            exact s2 _ _ e
          · rw [upd_same, List.map_append]; rfl
          · rcases List.mem_append.mp hy with m | m
            · exact hall y m
            · rw [List.mem_singleton.mp m]
              exact ⟨f0, p0, b0, tx, f2, cf, p1, cp, okr⟩
        · refine iteDF (by rw [ep]; omega) ?_
          exact ⟨s2, ts, hD, by omega, hall⟩
      · refine iteDF (by rw [ef]; omega) ?_
        exact ⟨s2, ts, hD, by omega, hall⟩
    · rintro H2 ⟨s2, ts, hD, hts, hall⟩
      rw [List.length_map] at hts
      have s02 : Same H H2 := sL.trans s2
      have hall2 : ∀ x ∈ ts, Good1 wd lo H2 x := fun x hx => (hall x hx).same s2
      clear hall hG hL
      have nDb : D ≠ bx := Box.ne (hb.same sL) nD
      have hD0 : H D = none := sL.free nD
      refine ⟨fun σ' H' => σ' = [some (.ref bx), some (.int wd), some (.int lo), some (.ref D), none, none, none, none, none] ∧ Up bx H H', ?_, ?_⟩
      · refine ⟨_, rfl, Nat.zero_le _, fun p hp => ?_⟩
        have s3 : Same H2 (upd H2 p (.lst [])) := same_upd hp
        obtain ⟨ds, hds, hok, hem⟩ := tolds_dp (K := K) fun x hx => (hall2 x hx).same s3
        refine ⟨.list ds, .list [], .lst (SqL.of (s3 _ _ hD)) hds, .lst (SqL.of upd_same) .nil, (dok_list hok).shaped (by decide), shaped_nil, _, rfl, ?_⟩
        rw [eqv_nil, hem]
        have s03 := s02.trans s3
        have hall3 : ∀ x ∈ ts, Good1 wd lo (upd H2 p (.lst [])) x := fun x hx => (hall2 x hx).same s3
        have hD3 := s3 _ _ hD
        generalize upd H2 p (.lst []) = H3 at s03 hall3 hD3
        cases hte : ts.isEmpty with
        | true => exact ⟨rfl, Up.of_same hb s03⟩
        | false =>
          have u3 := Up.of_same hb s03
          refine ⟨_, rfl, bx, 2, rfl, u3.2, by decide, by decide, fun d H4 d0 d1 u4 => ⟨rfl, _, rfl, ?_⟩⟩
          have u34 := u3.trans u4
          have hD4 := u4.1 _ _ hD3 nDb
          refine ite2 (fun _ => ?_) (fun _ => ⟨rfl, u34⟩)
          have hne : ts ≠ [] := fun z => by rw [z] at hte; cases hte
          refine ⟨_, rfl, _, rfl, bx, D, _, rfl, u34.2, hD4, nDb, ?_, ?_, fun v H5' hv u5 => ?_⟩
          · rw [List.length_map]; exact List.length_pos_iff.mpr hne
          · rw [List.length_map]; omega
          · obtain ⟨x, hx, rfl⟩ := List.mem_map.mp hv
            obtain ⟨f0, p0, b0, tx, h2, h5, hp0, hlo, okr⟩ := ((hall3 x hx).up u3.2 u4).up u34.2 u5
            refine k x f0 [(p0, b0)] H5' (u34.trans u5) tx h2 (by omega) (by show 1 ≤ 2; decide) (stOk1 hp0 (by omega)) okr fun s hs => ?_
            rw [List.mem_singleton.mp hs]
            exact hlo
      · clear hall2 hD hts s02 s2 hD0 nDb
        rintro σ' H3 ⟨rfl, u3⟩
        refine ⟨_, rfl, by decide, by decide, for_it walk_range (fun i σ H4 => ∃ v5 v6 v7 v8 : Option V, σ = [some (.ref bx), some (.int wd), some (.int lo), some (.ref D), none, v5, v6, v7, v8] ∧ Up bx H H4) ⟨_, _, _, _, rfl, u3⟩ (fun _ _ _ _ _ => trivial) ?_ ?_⟩
        · rintro i x σ H4 H4' hi ⟨v5, v6, v7, v8, rfl, u4⟩ ⟨rfl, rfl⟩
          refine ⟨Nat.zero_le _, fun S nS => ?_⟩
          have nSb : S ≠ bx := u4.2.ne nS
          have nS0 : H S = none := u4.free nS
          have u5 : Up bx H (upd H4' S (.lst [])) := u4.same (same_upd nS)
          have hS5 : upd H4' S (.lst []) S = some (.lst []) := upd_same
          generalize upd H4' S (.lst []) = H5' at u5 hS5
          refine ⟨_, rfl, by show 5 ≤ sizeLine; decide, fun l0 nl0 => ?_⟩
          have u6 := u5.same (same_upd (o := .lst [.int 0, .int 1, .int 1, .int 1, .int 2]) nl0)
          refine ⟨bx, l0, _, rfl, u6.2, upd_same, u5.2.ne nl0, by decide, by decide, fun v H7 hv u7 => ?_⟩
          obtain ⟨n, rfl, hn⟩ := mem5 hv
          have hS7 := u7.1 _ _ (same_upd nl0 _ _ hS5) nSb
          have u67 := u6.trans u7
          refine ⟨_, rfl, by omega, by omega, for_it walk_range (fun j σ H8 => ∃ (v7 : Option V) (ps : List Addr) (kb : Addr → Stf), σ = [some (.ref bx), some (.int wd), some (.int lo), some (.ref D), none, some (.int (0 + (i : Int))), some (.ref S), v7, v8] ∧ Up bx H H8 ∧ H8 S = some (.lst (ps.map V.ref)) ∧ StV H8 kb ps ∧ ps.length = j ∧ ∀ s ∈ ps.map kb, s.1 ≠ [] ∧ s.1.length ≤ lo) ⟨_, [], fun _ => ([], false), rfl, u67, hS7, (fun _ h => nomatch h), rfl, (fun _ h => nomatch h)⟩ (fun _ _ _ _ _ => trivial) ?_ ?_⟩
          · rintro j x σ H8 H8' hj ⟨v7, ps, kb, rfl, u8, hS8, hst, hps, hpat⟩ ⟨rfl, rfl⟩
            have hj2 : j < 2 := by
              have : j < ((n : Int)).toNat := hj
              omega
            refine ⟨_, rfl, .inl ⟨rfl, _, SqL.of hS8⟩, _, rfl, _, rfl, bx, 1, lo, rfl, u8.2, l1, by omega, fun pw H9 pw1 pwl u9 => ?_⟩
            have u89 := u8.trans u9
            refine ⟨_, rfl, i2, fun l1' nl1 => ?_⟩
            have u10 := u89.same (same_upd (o := .lst [.str "0", .str "1"]) nl1)
            refine ⟨bx, l1', _, rfl, u10.2, upd_same, u89.2.ne nl1, by decide, by decide, fun v H11 hv u11 => ?_⟩
            obtain ⟨bb, rfl⟩ := mem2 hv
            have u1011 := u10.trans u11
            refine ⟨i2, fun q nq => ?_⟩
            have hS11 : H11 S = some (.lst (ps.map V.ref)) := u11.1 _ _ (same_upd nl1 _ _ (u9.1 _ _ hS8 nSb)) nSb
            have hst11 : StV H11 kb ps := fun t ht => u11.1 _ _ (same_upd nl1 _ _ (u9.1 _ _ (hst t ht) (u8.2.neT (hst t ht)))) (u8.2.neT (hst t ht))
            have u12 := u1011.same (same_upd (o := .tup [.str (W pw), .str (W [bb])]) nq)
            have hS12 := same_upd (o := .tup [.str (W pw), .str (W [bb])]) nq _ _ hS11
            have hst12 : StV (upd H11 q (.tup [.str (W pw), .str (W [bb])])) (fun a => if a = q then (pw, bb) else kb a) (ps ++ [q]) := fun t ht => by
              rcases List.mem_append.mp ht with m | m
              · have nt : t ≠ q := ne_of_none (hst11 t m) nq
                rw [upd_ne nt]
                simp only [if_neg nt]
                exact hst11 t m
              · rw [List.mem_singleton.mp m, upd_same]
                simp only [if_pos]
            have hmk : (ps ++ [q]).map (fun a => if a = q then (pw, bb) else kb a) = ps.map kb ++ [(pw, bb)] := by
              rw [List.map_append]
              congr 1
              · refine List.map_congr_left fun t ht => if_neg (ne_of_none (hst11 t ht) nq)
              · show [if q = q then (pw, bb) else kb q] = _
                rw [if_pos rfl]
            generalize upd H11 q (.tup [.str (W pw), .str (W [bb])]) = H12 at u12 hS12 hst12
            refine ⟨S, _, _, rfl, rfl, hS12, by rw [List.length_map]; exact sl_lt (by omega), ?_⟩
            have uS : Up bx H (upd H12 S (.lst (ps.map V.ref ++ [.ref q]))) := u12.mut nS0 nSb
            refine ⟨_, ps ++ [q], fun a => if a = q then (pw, bb) else kb a, rfl, uS, by rw [upd_same, List.map_append]; rfl, fun t ht => ?_, by rw [List.length_append, List.length_cons, List.length_nil]; omega, ?_⟩
            · rw [upd_ne (ne_of (hst12 t ht) hS12 (by intro z; cases z))]
              exact hst12 t ht
            · rw [hmk]
              intro s hs
              rcases List.mem_append.mp hs with m | m
              · exact hpat s m
              · rw [List.mem_singleton.mp m]
                exact ⟨fun z => by rw [show pw = [] from z] at pw1; exact absurd pw1 (by decide), pwl⟩
          · rintro σ H8 ⟨v7, ps, kb, rfl, u8, hS8, hst, hps, hpat⟩
            refine ⟨_, rfl, _, rfl, bx, 2, wd, rfl, u8.2, w2, by omega, fun fw H9 fw2 fwl u9 => ⟨_, rfl, i2, fun t nt => ?_⟩⟩
            have u89 := u8.trans u9
            have hS9 := u9.1 _ _ hS8 nSb
            have hst9 : StV H9 kb ps := fun t ht => u9.1 _ _ (hst t ht) (u8.2.neT (hst t ht))
            have told : Told (upd H9 t (.tup [.str (W fw), .ref S])) t fw (ps.map kb) := ⟨S, ps, kb, upd_same, same_upd nt _ _ hS9, hst9.same (same_upd nt), rfl⟩
            have u10 := u89.same (same_upd (o := .tup [.str (W fw), .ref S]) nt)
            generalize upd H9 t (.tup [.str (W fw), .ref S]) = H10 at told u10
            have hn2 : ps.length ≤ 2 := by
              have : ps.length = ((n : Int)).toNat := hps
              omega
            refine ⟨_, rfl, t, fw, ps.map kb, rfl, told, by rw [List.length_map]; omega, fun s hs => Nat.le_trans (hpat s hs).2 l5, fun r H11 s11 hr11 => ⟨_, rfl, ?_⟩⟩
            cases r with
            | true =>
              obtain ⟨hfree, hokr⟩ := hr11 rfl
              refine ⟨_, rfl, ?_⟩
              refine k t fw (ps.map kb) H11 (u10.same s11) (told.same s11) fw2 (by omega) (by rw [List.length_map]; exact hn2) ⟨by rw [List.length_map]; omega, fun s hs => (hpat s hs).1, longM_max fun s hs => Nat.le_trans (hpat s hs).2 (by omega), hfree⟩ hokr fun s hs => (hpat s hs).2
            | false => exact ⟨_, _, _, _, rfl, u10.same s11⟩
        · rintro σ H4 ⟨v5, v6, v7, v8, rfl, u4⟩
          refine ⟨Nat.zero_le _, fun l nl => ⟨i2, fun t nt => ?_⟩⟩
          have st : Same H4 (upd (upd H4 l (.lst [])) t (.tup [.str "110", .ref l])) := (same_upd nl).trans (same_upd nt)
          refine k t [true, true, false] [] _ (u4.same st) ⟨l, [], fun _ => ([], false), ?_, same_upd nt _ _ upd_same, (fun _ h => nomatch h), rfl⟩ (by decide) (by show 3 ≤ max wd 3; omega) (Nat.zero_le _) ⟨Nat.zero_le _, (fun _ h => nomatch h), Nat.zero_le _, .nil⟩ okS_nil (fun _ h => nomatch h)
          rw [upd_same]
          have e : ("110" : Str) = W [true, true, false] := by decide +kernel
          rw [e]
end
end U
set_option maxRecDepth 100000
set_option maxHeartbeats 4000000
namespace U
open PySem PySem.Spec PyProof.Rows
open L2 hiding Fun CX0 E0 pass0 Fun.binds
open C8 Lx SX StX
def spMade (C : Addr) : Sp := fun vs H Q _ => ∃ (t : Addr) (f : List Bool) (ss : List Stf), vs = [.ref t] ∧ Told H t f ss ∧ StOk ss ∧ OkR ss ∧ 2 ≤ f.length ∧ f.length ≤ 1000 ∧
  ∀ a ss' H', Same H H' → ss'.Perm ss → SortedS ss' → RuAt C H' a f ss' → Q (.ref a) H'
theorem scal_oB (a b : Option Bool) : scal (oB a) (oB b) = true := by cases a <;> cases b <;> rfl
theorem scal_oB2 (a : Option Bool) (b : Bool) : scal (oB a) (.str (W [b])) = true := by cases a <;> rfl
def spLaw (K : PySem.W.Frag) : Sp := fun vs H Q _ => ∃ (a : Addr) (ns : List Int), vs = [.ref a] ∧ SqL K H a (ns.map V.int) ∧ ns.length ≤ 63 ∧ ∀ H', Q (.bl true) H'
theorem one_ends {ss : List Stf} (h : SufFree ss) (l : List Bool) : (ss.filter fun s => s.1.isSuffixOf l).length ≤ 1 := by
  have hp : (ss.filter fun s => s.1.isSuffixOf l).Pairwise fun a b => ¬ a.1 <:+ b.1 ∧ ¬ b.1 <:+ a.1 := List.Pairwise.filter _ h
  have hm : ∀ s ∈ ss.filter fun s => s.1.isSuffixOf l, s.1 <:+ l := fun s hs => List.isSuffixOf_iff_suffix.mp (List.mem_filter.mp hs).2
  generalize ss.filter (fun s => s.1.isSuffixOf l) = fs at hp hm
  match fs, hp, hm with
  | [], _, _ => exact Nat.zero_le _
  | [_], _, _ => exact Nat.le_refl _
  | a :: b :: r, hp, hm =>
    have h1 := (List.pairwise_cons.mp hp).1 b List.mem_cons_self
    rcases List.suffix_or_suffix_of_suffix (hm a List.mem_cons_self) (hm b (List.mem_cons_of_mem _ List.mem_cons_self)) with z | z
    · exact absurd z h1.1
    · exact absurd z h1.2
theorem put_app {ss : List Stf} (h : SufFree ss) {p : List Bool} {b : Bool} (hm : (p, b) ∈ ss) (x : List Bool) : putM ss (x ++ p) = some b := (put_iff h).mpr ⟨p, hm, List.suffix_append _ _⟩
theorem put_tail {ss : List Stf} (h : SufFree ss) {p : List Bool} {b : Bool} (hm : (p, b) ∈ ss) (hp : p ≠ []) : putM ss p.tail = none := by
  cases e : putM ss p.tail with
  | none => rfl
  | some c =>
    obtain ⟨q, hq, hs⟩ := (put_iff h).mp e
    have hl := hs.length_le
    have hpl : 0 < p.length := List.length_pos_iff.mpr hp
    rw [List.length_tail] at hl
    have ne : (q, c) ≠ (p, b) := fun z => by
      have : q = p := congrArg Prod.fst z
      rw [this] at hl
      omega
    exact absurd (hs.trans (List.tail_suffix p)) (h.ne hq hm ne)
def reprO : Option Bool → Str
  | none => "None"
  | some b => reprText (W [b])
theorem reprO_len (b : Bool) : (reprText (W [b])).length ≤ sizeLine := by
  have e : (reprText (W [b])).length ≤ 10 := by cases b <;> decide +kernel
  exact Nat.le_trans e (by decide)
theorem call_repr_oB {X : Cx} : CallR X (.builtin "repr") (fun xs H Q => ∃ o, xs = [oB o] ∧ Q (.str (reprO o)) H) := by
  intro pins s σ H xs us Q I r h
  obtain ⟨o, rfl, q⟩ := h
  obtain ⟨u, rfl, ru⟩ := vals1 r
  cases o with
  | none =>
    obtain rfl : u = Value.none := ru
    exact PySem.P.repr_of_none ⟨.str _, H, I.tok _, ⟨_, rfl⟩, q⟩
  | some b =>
    obtain ⟨t, rfl⟩ := ru
    exact PySem.P.repr_of_str ⟨.str _, H, I.tok _, ⟨_, rfl⟩, q⟩ (reprO_len b)
section
variable {P : Program} {w : World} {K : PySem.W.Frag} {mg : Str → Option Value} {base : Heap}
theorem sc_l_made : FnScope ["_law_rule_here"] ["_law_rule_here"] (fnScope s_l_made) := fnScope_by (by decide +kernel)
theorem cal_l_made {f C : Addr} {fd : FuncData} (F : Def K mg "_law_made" s_l_made f fd) (b : Binds K fd ["_law_rule_here"] []) (T : Tx mg) (m_Rule2 : Mak P w K mg base 5 "Rule" C (spRuInit K C) []) : Cal P w K mg base 7 "_law_made" (spMade C) [] := by
  refine cal0 F b .nil sc_l_made (fun vs H Q E h => ?_) (fun cdv A outer s H vs Q E hr h => ?_)
  · obtain ⟨_, _, _, rfl, _⟩ := h; rfl
  · obtain ⟨t, fl, ss, rfl, ⟨l, ps, kb, ht, hl, hs, rfl⟩, ok, hO, h2, hlen, k⟩ := h
    refine ⟨_, (pss_one (ps_ret (pe_mk m_Rule2 hr (by decide) rfl (pa_cons (pe_ix ix_tup (pv 0) pe_int (fun _ _ => rfl)) (pa_cons (pe_ix ix_tup (pv 0) pe_int (fun _ _ => rfl)) pa_nil))))), ?_⟩
    refine ⟨_, rfl, t, _, 0, _, rfl, rfl, SqT.of ht, rfl, _, rfl, t, _, 1, _, rfl, rfl, SqT.of ht, rfl, fun x dx nx ndx nex => ?_⟩
    have sm : Same H (upd (upd H dx (.own x)) x (.ins C dx [])) := fun c o e => by
      rw [upd_ne (ne_of_none e nx), upd_ne (ne_of_none e ndx)]; exact e
    refine ⟨x, dx, l, fl, ps, kb, rfl, upd_same, .inl (SqL.of (sm _ _ hl)), hs.same sm, ok, hO, h2, hlen, fun H' ss' keep pm srt hR => ⟨rfl, ?_⟩⟩
    exact k x ss' H' (Same.made nx ndx keep) pm srt hR
end
end U
set_option maxRecDepth 100000
set_option maxHeartbeats 4000000
namespace U
open PySem PySem.Spec PyProof.Rows
open L2 hiding Fun CX0 E0 pass0 Fun.binds
open C8 Lx SX StX
def wdsP : Nat → List (List Bool)
  | 0 => [[]]
  | n + 1 => (wdsP n).map (false :: ·) ++ (wdsP n).map (true :: ·)
theorem wdsP_len : ∀ n, (wdsP n).length = 2 ^ n
  | 0 => rfl
  | n + 1 => by
    show ((wdsP n).map (false :: ·) ++ (wdsP n).map (true :: ·)).length = _
    rw [List.length_append, List.length_map, List.length_map, wdsP_len n, Nat.pow_succ]
    omega
theorem wdsP_size : ∀ {n : Nat} {w : List Bool}, w ∈ wdsP n → w.length = n
  | 0, w, h => by rw [List.mem_singleton.mp h]; rfl
  | n + 1, w, h => by
    rcases List.mem_append.mp h with h1 | h1
    · obtain ⟨v, hv, rfl⟩ := List.mem_map.mp h1
      rw [List.length_cons, wdsP_size hv]
    · obtain ⟨v, hv, rfl⟩ := List.mem_map.mp h1
      rw [List.length_cons, wdsP_size hv]
theorem num_acc : ∀ (w : List Bool) (a : Nat), w.foldl (fun n b => 2 * n + (if b then 1 else 0)) a = a * 2 ^ w.length + num w
  | [], a => by show a = a * 1 + 0; omega
  | b :: r, a => by
    have h1 := num_acc r (2 * a + (if b then 1 else 0))
    have h2 := num_acc r (2 * 0 + (if b then 1 else 0))
    show r.foldl _ (2 * a + (if b then 1 else 0)) = a * 2 ^ (r.length + 1) + r.foldl _ (2 * 0 + (if b then 1 else 0))
    rw [h1, h2, Nat.pow_succ, Nat.add_mul, Nat.add_mul]
    have : 2 * a * 2 ^ r.length = a * (2 ^ r.length * 2) := by rw [Nat.mul_comm 2 a, Nat.mul_assoc, Nat.mul_comm 2]
    omega
theorem num_cons (b : Bool) (w : List Bool) : num (b :: w) = (if b then 2 ^ w.length else 0) + num w := by
  have := num_acc w (2 * 0 + (if b then 1 else 0))
  show w.foldl _ (2 * 0 + (if b then 1 else 0)) = _
  rw [this]
  cases b <;> simp
theorem num_lt : ∀ w : List Bool, num w < 2 ^ w.length
  | [] => by show 0 < 1; decide
  | b :: r => by
    have := num_lt r
    rw [num_cons, List.length_cons, Nat.pow_succ]
    split <;> omega
theorem wdsP_at : ∀ (m : List Bool), (wdsP m.length)[num m]? = some m
  | [] => rfl
  | b :: r => by
    have ih := wdsP_at r
    have hl := num_lt r
    have e : (wdsP r.length).length = 2 ^ r.length := wdsP_len _
    rw [num_cons]
    show ((wdsP r.length).map (false :: ·) ++ (wdsP r.length).map (true :: ·))[_]? = _
    cases b with
    | false =>
      rw [if_neg (by decide), Nat.zero_add, List.getElem?_append_left (by rw [List.length_map]; omega), List.getElem?_map, ih]
      rfl
    | true =>
      rw [if_pos rfl, List.getElem?_append_right (by rw [List.length_map]; omega), List.length_map, e, List.getElem?_map, show 2 ^ r.length + num r - 2 ^ r.length = num r by omega, ih]
      rfl
theorem num_inj : ∀ {a b : List Bool}, a.length = b.length → num a = num b → a = b := by
  intro a b hl hn
  have h1 := wdsP_at a
  have h2 := wdsP_at b
  rw [hl, hn, h2] at h1
  exact (Option.some.inj h1).symm
theorem wdsP_num {n i : Nat} {w : List Bool} (h : (wdsP n)[i]? = some w) : num w = i := by
  have hs := wdsP_size (List.mem_of_getElem? h)
  have hi := (List.getElem?_eq_some_iff.mp h).1
  rw [wdsP_len] at hi
  -- the words are told one by one
  have : ∀ n i w, (wdsP n)[i]? = some w → num w = i := by
    intro n
    induction n with
    | zero =>
      intro i w h
      have := (List.getElem?_eq_some_iff.mp h).1
      have hi : i = 0 := by simpa [wdsP] using this
      subst hi
      have : w = [] := by simpa [wdsP] using h.symm
      rw [this]; rfl
    | succ n ih =>
      intro i w h
      have e : (wdsP n).length = 2 ^ n := wdsP_len _
      have h' : ((wdsP n).map (false :: ·) ++ (wdsP n).map (true :: ·))[i]? = some w := h
      by_cases c : i < 2 ^ n
      · rw [List.getElem?_append_left (by rw [List.length_map]; omega), List.getElem?_map] at h'
        obtain ⟨v, hv, rfl⟩ := Option.map_eq_some_iff.mp h'
        rw [num_cons, if_neg (by decide), ih i v hv, Nat.zero_add]
      · rw [List.getElem?_append_right (by rw [List.length_map]; omega), List.length_map, e, List.getElem?_map] at h'
        obtain ⟨v, hv, rfl⟩ := Option.map_eq_some_iff.mp h'
        rw [num_cons, if_pos rfl, ih _ v hv, wdsP_size (List.mem_of_getElem? hv)]
        omega
  exact this n i w h
theorem first_of {n : Nat} {p : List Bool → Bool} {m : List Bool} {r : List (List Bool)} (h : (wdsP n).filter p = m :: r) : m.length = n ∧ p m = true ∧ ∀ m', m'.length = n → num m' < num m → p m' = false := by
  have h1 : (wdsP n).find? p = some m := by rw [← List.head?_filter, h]; rfl
  have hm := List.mem_of_find?_eq_some h1
  refine ⟨wdsP_size hm, List.find?_some h1, fun m' hl hn => ?_⟩
  obtain ⟨_, i, hi, e1, e2⟩ := List.find?_eq_some_iff_getElem.mp h1
  have ei : num m = i := wdsP_num (n := n) (by rw [List.getElem?_eq_getElem hi, e1])
  have h3 := wdsP_at m'
  rw [hl] at h3
  obtain ⟨h4, h5⟩ := List.getElem?_eq_some_iff.mp h3
  have := e2 (num m') (by omega)
  rw [h5] at this
  simpa using this
theorem none_of {n : Nat} {p : List Bool → Bool} (h : (wdsP n).filter p = []) : ∀ m', m'.length = n → p m' = false := fun m' hl => by
  have h3 := wdsP_at m'
  rw [hl] at h3
  have := List.filter_eq_nil_iff.mp h m' (List.mem_of_getElem? h3)
  simpa using this
def wdsV (ws : List (List Bool)) : List V := ws.map fun w => V.str (W w)
def wdsD (ws : List (List Bool)) : List PyData := ws.map fun w => PyData.str (W w)
theorem wdsV_len (ws : List (List Bool)) : (wdsV ws).length = ws.length := List.length_map _
theorem wdsV_app (a b : List (List Bool)) : wdsV (a ++ b) = wdsV a ++ wdsV b := List.map_append
theorem wdsV_get {ws : List (List Bool)} {i : Nat} {x : V} (h : (wdsV ws)[i]? = some x) : ∃ w, ws[i]? = some w ∧ x = .str (W w) := by
  unfold wdsV at h
  rw [List.getElem?_map] at h
  obtain ⟨w, hw, rfl⟩ := Option.map_eq_some_iff.mp h
  exact ⟨w, hw, rfl⟩
theorem dp_wds {K : PySem.W.Frag} {H : Hp} : ∀ ws : List (List Bool), DpAll K H (wdsV ws) (wdsD ws)
  | [] => .nil
  | w :: r => .cons (.str _) (dp_wds r)
theorem ok_W (l : List Bool) : PyData.strOk (W l) = true := by
  unfold PyData.strOk
  show ((l.map bt).toArray.all _) = true
  rw [List.all_toArray, List.all_map, List.all_eq_true]
  intro b _
  cases b <;> rfl
theorem lay_wds : ∀ ws : List (List Bool), PyData.canLayAll0 (wdsD ws) = true ∧ PyData.depthAll (wdsD ws) = 0
  | [] => by simp [wdsD, PyData.canLayAll0, PyData.depthAll]
  | w :: r => by
    obtain ⟨h1, h2⟩ := lay_wds r
    show PyData.canLayAll0 (PyData.str (W w) :: wdsD r) = true ∧ PyData.depthAll (PyData.str (W w) :: wdsD r) = 0
    rw [PyData.canLayAll0, PyData.depthAll, h1, h2, PyData.canLay0, PyData.depth, ok_W]
    exact ⟨rfl, rfl⟩
theorem shaped_wds (ws : List (List Bool)) : SeqAt.shaped (.list (wdsD ws)) = true := by
  unfold SeqAt.shaped
  rw [PyData.canLay0, (lay_wds ws).1, PyData.depth, (lay_wds ws).2]
  rfl
theorem eqv_wnil (ws : List (List Bool)) : PyData.eqv (.list (wdsD ws)) (.list []) = ws.isEmpty := by
  cases ws with
  | nil => simp [wdsD, PyData.eqv, PyData.eqvAll]
  | cons w r => simp [wdsD, PyData.eqv, PyData.eqvAll]
def spWordsP : Sp := fun vs H Q _ => ∃ n : Nat, vs = [.int n] ∧ n ≤ 12 ∧ ∀ l H', H l = none → Same H H' → H' l = some (.lst (wdsV (wdsP n))) → Q (.ref l) H'
section
variable {P : Program} {w : World} {K : PySem.W.Frag} {mg : Str → Option Value} {base : Heap}
theorem sc_l_words : FnScope ["_law_size", "_law_found", "_law_turn", "_law_word_here"] ["_law_size"] (fnScope s_l_words) := fnScope_by (by decide +kernel)
theorem cal_l_words {f : Addr} {fd : FuncData} (F : Def K mg "_law_words" s_l_words f fd) (b : Binds K fd ["_law_size"] []) (T : Tx mg) : Cal P w K mg base 1 "_law_words" spWordsP [] := by
  refine cal0 F b .nil sc_l_words (fun vs H Q E h => ?_) (fun cdv A outer s H vs Q E hr h => ?_)
  · obtain ⟨_, rfl, _⟩ := h; rfl
  · obtain ⟨n, rfl, hn, k⟩ := h
    refine ⟨_, (pss_cons (ps_set (i := 1) sc_l_words.nd rfl (.inl rfl) (pe_lst (pa_cons pe_str pa_nil)))
    (pss_cons (ps_for PassesOwn.never rfl (pi_range1 (by rfl) T.b_range (pa_cons (pv 0) pa_nil)) (pg_name (i := 2) sc_l_words.nd rfl (.inl rfl))
    (pss_one (ps_set (i := 1) sc_l_words.nd rfl (.inl rfl) (pe_op op_cat (pe_lc (own := [("_law_word_here", 3)]) (g := gName 3) (by rfl) sc_l_words.nd (pi_list (pv 1)) (blkOk_by (own := [("_law_word_here", 3)]) (N := ["_law_size", "_law_found", "_law_turn", "_law_word_here"]) (sc := fnScope s_l_words) (by decide +kernel)) (fun _ _ _ _ _ => (pg_name (i := 3) sc_l_words.nd rfl (.inl rfl))) (fun _ _ _ _ _ => pts_nil) (fun _ _ _ _ _ => (pe_op op_add_str pe_str (pv 3)))) (pe_lc (own := [("_law_word_here", 3)]) (g := gName 3) (by rfl) sc_l_words.nd (pi_list (pv 1)) (blkOk_by (own := [("_law_word_here", 3)]) (N := ["_law_size", "_law_found", "_law_turn", "_law_word_here"]) (sc := fnScope s_l_words) (by decide +kernel)) (fun _ _ _ _ _ => (pg_name (i := 3) sc_l_words.nd rfl (.inl rfl))) (fun _ _ _ _ _ => pts_nil) (fun _ _ _ _ _ => (pe_op op_add_str pe_str (pv 3))))))))
    (pss_one (ps_ret (pv 1))))), ?_⟩
    refine ⟨by show 1 ≤ sizeLine; decide, fun q nq => ?_⟩
    have hq : upd H q (.lst [.str ""]) q = some (.lst (wdsV (wdsP 0))) := by rw [upd_same, W_nil]; rfl
    have sq := same_upd (o := .lst [.str ""]) nq
    have nqH : H q = none := nq
    generalize upd H q (.lst [.str ""]) = H1 at hq sq
    refine ⟨_, rfl, _, rfl, by omega, by omega, ?_⟩
    refine for_it (walk_range (lo := 0) (n := (n : Int).toNat)) (fun i σ H2 => ∃ (v2 v3 : Option V) (q : Addr), σ = [some (.int n), some (.ref q), v2, v3] ∧ H q = none ∧ Same H H2 ∧ H2 q = some (.lst (wdsV (wdsP i)))) ⟨_, _, q, rfl, nqH, sq, hq⟩ (fun _ _ _ _ _ => trivial) ?_ ?_
    · rintro i x σ H2' H2 hi ⟨v2, v3, q, rfl, nq, s2, hq⟩ ⟨rfl, rfl⟩
      have hi' : i < n := by omega
      have l4 : (wdsP i).length ≤ 4096 := by rw [wdsP_len]; exact Nat.le_trans (Nat.pow_le_pow_right (by decide) (show i ≤ 12 by omega)) (by decide)
      refine ⟨_, rfl, q, rfl, ⟨_, SqL.of hq⟩, fun D nD => ?_⟩
      refine lc_it (walk_list (xs := wdsV (wdsP i))) (fun j H3 => Same H2 H3 ∧ H3 D = some (.lst (wdsV (((wdsP i).take j).map (false :: ·))))) ⟨same_upd nD, upd_same⟩ (fun j H3 _ h3 => SqL.of (h3.1 _ _ hq)) ?_ ?_
      · rintro j x H3 H3' hj ⟨s3, hD⟩ ⟨rfl, hx⟩
        obtain ⟨v, hv, rfl⟩ := wdsV_get hx
        have lv := wdsP_size (List.mem_of_getElem? hv)
        refine ⟨rfl, _, rfl, _, _, rfl, rfl, by rw [W_len, show ("0" : Str).length = 1 by decide +kernel]; exact sl_len (by omega), _, hD, by rw [wdsV_len, List.length_map, List.length_take]; exact sl_lt (by omega), same_mut' s3 nD, ?_⟩
        rw [upd_same, List.take_add_one, hv, List.map_append, wdsV_app]
        show some (HO.lst (_ ++ [V.str (("0" : Str) ++ W v)])) = some (HO.lst (_ ++ [V.str (W (false :: v))]))
        rw [W_0, W_cat]; rfl
      · rintro H3 ⟨s3, hD⟩
        rw [wdsV_len, List.take_length] at hD
        have hq3 := s3 _ _ hq
        refine ⟨_, rfl, q, rfl, ⟨_, SqL.of hq3⟩, fun D2 nD2 => ?_⟩
        refine lc_it (walk_list (xs := wdsV (wdsP i))) (fun j H4 => Same H3 H4 ∧ H4 D2 = some (.lst (wdsV (((wdsP i).take j).map (true :: ·))))) ⟨same_upd nD2, upd_same⟩ (fun j H4 _ h4 => SqL.of (h4.1 _ _ hq3)) ?_ ?_
        · rintro j x H4 H4' hj ⟨s4, hD2⟩ ⟨rfl, hx⟩
          obtain ⟨v, hv, rfl⟩ := wdsV_get hx
          have lv := wdsP_size (List.mem_of_getElem? hv)
          refine ⟨rfl, _, rfl, _, _, rfl, rfl, by rw [W_len, show ("1" : Str).length = 1 by decide +kernel]; exact sl_len (by omega), _, hD2, by rw [wdsV_len, List.length_map, List.length_take]; exact sl_lt (by omega), same_mut' s4 nD2, ?_⟩
          rw [upd_same, List.take_add_one, hv, List.map_append, wdsV_app]
          show some (HO.lst (_ ++ [V.str (("1" : Str) ++ W v)])) = some (HO.lst (_ ++ [V.str (W (true :: v))]))
          rw [W_1, W_cat]; rfl
        · rintro H4 ⟨s4, hD2⟩
          rw [wdsV_len, List.take_length] at hD2
          refine ⟨D, D2, _, _, rfl, rfl, s4 _ _ hD, hD2, by rw [wdsV_len, wdsV_len, List.length_map, List.length_map]; exact sl_len (by omega), fun p np => ?_⟩
          have s24 := (s2.trans s3).trans s4
          refine ⟨_, _, p, rfl, s24.free np, s24.trans (same_upd np), ?_⟩
          rw [upd_same, ← wdsV_app]
          rfl
    · rintro σ H2 ⟨v2, v3, q, rfl, nq, s2, hq⟩
      rw [Int.toNat_natCast] at hq
      exact ⟨_, rfl, k q H2 nq s2 hq⟩
end
end U
set_option maxRecDepth 100000
set_option maxHeartbeats 4000000
namespace U
open PySem PySem.Spec PyProof.Rows
open L2 hiding Fun CX0 E0 pass0 Fun.binds
open C8 Lx SX StX
def lfV : List V := [.non, .bl true, .bl false, .int 0, .int 1, .int (0 - 1), .int 2, .str "", .str "0", .str "1", .str "01", .str "turn", .str "012", .str " 0", .str "cut"]
theorem lf_scalT : ∀ v ∈ lfV, scalT v = true := List.all_eq_true.mp (by decide +kernel)
theorem lf_an {H : Hp} {v : V} (h : v ∈ lfV) : AnT H v := .sc (lf_scalT v h)
theorem tp_lk {H : Hp} {p : Addr} {o : HO} (n : H p = none) : LK H (upd H p o) := LK.same (same_upd n)
theorem tp_new {H : Hp} {p : Addr} {o : Obj} {xs : List V} (n : H p = none) (hd : o.dict = none) (l : xs.length ≤ 1000) (h : ∀ x ∈ xs, AnT H x) : AnT (upd H p (.frz o (.tup xs))) (.ref p) :=
  .tp (.new hd) l fun x hx => (h x hx).lk (tp_lk n)
theorem oth_non {K : PySem.W.Frag} {H : Hp} {ty : String} (h : PySem.W.kitOne K (.type "NoneType") (.type ty) = some false) : OthT K H .non ty := ⟨_, fun _ _ => .base .non, h⟩
theorem AnT.int {K : PySem.W.Frag} {H : Hp} {v : V} (h : AnT H v) : ∃ r, IntR K H v r := by
  cases h with
  | sc h =>
    cases v with
    | non => exact ⟨_, .oth ⟨_, fun _ _ => .base .non, kit_ty (by decide +kernel)⟩⟩
    | bl b => exact ⟨_, .bl b⟩
    | int i => exact ⟨_, .int i⟩
    | str z => exact ⟨_, .oth ⟨_, fun _ _ => .base (.str z), kit_ty (by decide +kernel)⟩⟩
    | _ => cases h
  | ls h => exact ⟨_, .oth ⟨_, fun _ s => .base (.lst (s _ _ h)), kit_ty (by decide +kernel)⟩⟩
  | tp h _ _ =>
    obtain ⟨o, e, _⟩ := h
    exact ⟨_, .oth ⟨_, fun _ s => .fTuple (s _ _ e), kit_ty (by decide +kernel)⟩⟩
theorem AnT.anyS {K : PySem.W.Frag} {H : Hp} {v : V} (h : AnT H v) : AnyS K H v := by
  cases h with
  | sc h =>
    cases v with
    | non => exact anyS_non
    | bl b => exact anyS_bl b
    | int i => exact anyS_int i
    | str z =>
      have h : (decide (z.length ≤ 10000) && PyData.strOk z) = true := h
      rw [Bool.and_eq_true, decide_eq_true_iff] at h
      exact anyS_str h.1 h.2
    | _ => cases h
  | ls h => exact anyS_lst h
  | tp h _ _ =>
    obtain ⟨o, e, _⟩ := h
    exact .inr ⟨(fun _ z => by cases z), _, kit_ty (by decide +kernel), fun _ s => .fTuple (s _ _ e)⟩
theorem AnT.noT {K : PySem.W.Frag} {H : Hp} {v : V} (h : AnT H v) : OthT K H v "tuple" ∨ ∃ a xs, v = .ref a ∧ TpX H a xs ∧ xs.length ≤ 1000 ∧ ∀ x ∈ xs, AnT H x := by
  cases h with
  | sc h =>
    refine .inl ?_
    cases v with
    | non => exact ⟨_, fun _ _ => .base .non, kit_ty (by decide +kernel)⟩
    | bl b => exact ⟨_, fun _ _ => .base (.bl b), kit_ty (by decide +kernel)⟩
    | int i => exact ⟨_, fun _ _ => .base (.int i), kit_ty (by decide +kernel)⟩
    | str z => exact ⟨_, fun _ _ => .base (.str z), kit_ty (by decide +kernel)⟩
    | _ => cases h
  | ls h => exact .inl ⟨_, fun _ s => .base (.lst (s _ _ h)), kit_ty (by decide +kernel)⟩
  | tp h l k => exact .inr ⟨_, _, rfl, h, l, k⟩
theorem AnT.small {H : Hp} {i : Int} (h : AnT H (.int i)) : i < 1000 := by
  cases h with
  | sc h =>
    have h : decide (i.natAbs < 1000) = true := h
    have := of_decide_eq_true h
    omega
theorem two {xs : List V} : (∃ x y, xs = [x, y]) ∨ xs.length ≠ 2 := by
  match xs with
  | [] => exact .inr (by decide)
  | [_] => exact .inr (by simp)
  | [x, y] => exact .inl ⟨x, y, rfl⟩
  | _ :: _ :: _ :: _ => exact .inr (by simp)
theorem IntR.told {K : PySem.W.Frag} {H : Hp} {v : V} {i : Int} (h : IntR K H v (some i)) : v = .int i := by
  cases h with
  | int _ => rfl
theorem AnT.val {K : PySem.W.Frag} {H : Hp} {v : V} (h : AnT H v) : ∃ r, ValR K H v r := by
  rcases h.noT (K := K) with h | ⟨a, xs, rfl, h, l, k⟩
  · exact ⟨_, .oth h⟩
  rcases two (xs := xs) with ⟨x, y, rfl⟩ | n
  rotate_left
  · exact ⟨_, .len h.sq n l⟩
  obtain ⟨rx, hx⟩ := (k x (by simp)).int (K := K)
  obtain ⟨ry, hy⟩ := (k y (by simp)).int (K := K)
  cases rx with
  | none => exact ⟨_, .bad h.sq hx hy (.inl rfl)⟩
  | some p =>
    cases ry with
    | none => exact ⟨_, .bad h.sq hx hy (.inr rfl)⟩
    | some q =>
      cases hx.told
      cases hy.told
      have := (k (.int q) (by simp)).small
      exact ⟨_, .num h.sq (by omega)⟩
theorem AnT.ent {K : PySem.W.Frag} {H : Hp} {sz : Nat} {v : V} (h : AnT H v) : ∃ r, EntR K H sz v r := by
  rcases h.noT (K := K) with h | ⟨a, xs, rfl, h, l, k⟩
  · exact ⟨_, .oth h⟩
  rcases two (xs := xs) with ⟨x, y, rfl⟩ | n
  rotate_left
  · exact ⟨_, .len h.sq n l⟩
  obtain ⟨r, hy⟩ := (k y (by simp)).val (K := K)
  exact ⟨_, .pair h.sq (k x (by simp)).anyS hy⟩
theorem ents_of {K : PySem.W.Frag} {H : Hp} {sz : Nat} : ∀ {xs : List V}, (∀ x ∈ xs, AnT H x) → ∃ rs, Paired (EntR K H sz) xs rs
  | [], _ => ⟨[], .nil⟩
  | x :: r, h => by
    obtain ⟨rx, hx⟩ := (h x List.mem_cons_self).ent (K := K) (sz := sz)
    obtain ⟨rs, hr⟩ := ents_of (K := K) (sz := sz) (xs := r) fun y hy => h y (List.mem_cons_of_mem _ hy)
    exact ⟨rx :: rs, .cons hx hr⟩
theorem AnT.pap {K : PySem.W.Frag} {H : Hp} {sz : Nat} {v : V} (h : AnT H v) : ∃ r, PapR K H sz v r := by
  rcases h.noT (K := K) with h | ⟨a, xs, rfl, h, l, k⟩
  · exact ⟨_, .oth h⟩
  obtain ⟨rs, hr⟩ := ents_of (K := K) (sz := sz) k
  exact ⟨_, .tup h l hr⟩
def spLeafV : Sp := fun vs H Q _ => ∃ b : Addr, vs = [.ref b] ∧ Box H b ∧ ∀ v H', Up b H H' → v ∈ lfV → Q v H'
def spAnyV (n : Nat) : Sp := fun vs H Q _ => ∃ b : Addr, vs = [.ref b, .int n] ∧ Box H b ∧ ∀ v H', Up b H H' → AnT H' v → Q v H'
def spAnyW : Sp := fun vs H Q _ => ∃ (b : Addr) (n : Nat), vs = [.ref b, .int n] ∧ n ≤ 8 ∧ Box H b ∧ ∀ v H', Up b H H' → AnT H' v → Q v H'
def spDeepT : Sp := fun vs H Q _ => vs = [] ∧ ∀ v H', Same H H' → AnT H' v → Q v H'
section
variable {P : Program} {w : World} {K : PySem.W.Frag} {mg : Str → Option Value} {base : Heap}
theorem sc_l_leaf : FnScope ["_law_box"] ["_law_box"] (fnScope s_l_leaf) := fnScope_by (by decide +kernel)
theorem cal_l_leaf {f : Addr} {fd : FuncData} (F : Def K mg "_law_leaf" s_l_leaf f fd) (b : Binds K fd ["_law_box"] []) (T : Tx mg) (c_l_one_of : Cal P w K mg base 2 "_law_one_of" spOneOf []) : Cal P w K mg base 3 "_law_leaf" spLeafV [] := by
  refine cal0 F b .nil sc_l_leaf (fun vs H Q E h => ?_) (fun cdv A outer s H vs Q E hr h => ?_)
  · obtain ⟨_, rfl, _⟩ := h; rfl
  · obtain ⟨bx, rfl, hb, k⟩ := h
    refine ⟨_, (pss_one (ps_ret (pe_c c_l_one_of hr (by decide) rfl (pa_cons (pv 0) (pa_cons (pe_lst (pa_cons pe_non (pa_cons pe_bl (pa_cons pe_bl (pa_cons pe_int (pa_cons pe_int (pa_cons (pe_op op_sub pe_int pe_int) (pa_cons pe_int (pa_cons pe_str (pa_cons pe_str (pa_cons pe_str (pa_cons pe_str (pa_cons pe_str (pa_cons pe_str (pa_cons pe_str (pa_cons pe_str pa_nil)))))))))))))))) pa_nil))))), ?_⟩
    refine ⟨_, rfl, _, _, rfl, rfl, by show 15 ≤ sizeLine; decide, fun l1 n1 => ?_⟩
    have s1 := same_upd (o := .lst lfV) n1
    exact ⟨bx, l1, _, rfl, hb.same s1, upd_same, hb.ne n1, by show 0 < 15; decide, by show 15 < 1000; decide, fun v H' hv u => k v H' ((Up.of_same hb s1).trans u) hv⟩
theorem sc_l_any : FnScope ["_law_box", "_law_deep_here", "_law_form", "_law_found", "_law_turn"] ["_law_box", "_law_deep_here"] (fnScope s_l_any) := fnScope_by (by decide +kernel)
theorem any_fn {f : Addr} {fd : FuncData} (F : Def K mg "_law_any" s_l_any f fd) (b : Binds K fd ["_law_box", "_law_deep_here"] []) (T : Tx mg) (c_l_choose : Cal P w K mg base 1 "_law_choose" spChoose []) (c_l_leaf : Cal P w K mg base 3 "_law_leaf" spLeafV []) (n : Nat) : FnOk P w K mg base CX0 (4 + n) f fd ["_law_box", "_law_deep_here"] (spAnyV n) := by
  induction n with
  | zero =>
    refine fn0 F.fn sc_l_any (fun vs H Q E h => ?_) (fun cdv A outer s H vs Q E hr h => ?_)
    · obtain ⟨_, rfl, _⟩ := h; rfl
    · obtain ⟨bx, rfl, hb, k⟩ := h
      refine ⟨_, (pss_cons (ps_set (i := 2) sc_l_any.nd rfl (.inl rfl) (pe_ifExp (pt_cmpR op_gt (pv 1) pe_int (nomark _)) (pe_c c_l_choose hr (by decide) rfl (pa_cons (pv 0) (pa_cons pe_int pa_nil))) pe_int))
        (pss_cons (ps_if (pt_cmpR op_gt (pv 2) pe_int (nomark _)) (pss_one (ps_ret (pe_c c_l_leaf hr (by decide) rfl (pa_cons (pv 0) pa_nil)))) pss_nil) pss_never)), ?_⟩
      refine ⟨_, rfl, _, _, rfl, rfl, _, rfl, iteDF (by decide) ?_⟩
      refine ⟨_, rfl, _, _, rfl, rfl, _, rfl, iteDT (by decide) ?_⟩
      exact ⟨_, rfl, bx, rfl, hb, fun v H' u hv => k v H' u (lf_an hv)⟩
  | succ n ih =>
    have c_l_any : Cal P w K mg base (4 + n) "_law_any" (spAnyV n) [] := ⟨f, fd, _, [], ih, F.mgf, F.kp, b, .nil⟩
    refine fn0 F.fn sc_l_any (fun vs H Q E h => ?_) (fun cdv A outer s H vs Q E hr h => ?_)
    · obtain ⟨_, rfl, _⟩ := h; rfl
    · obtain ⟨bx, rfl, hb, k⟩ := h
      refine ⟨_, (pss_cons (ps_set (i := 2) sc_l_any.nd rfl (.inl rfl) (pe_ifExp (pt_cmpR op_gt (pv 1) pe_int (nomark _)) (pe_c c_l_choose hr (by show _ ≤ 4 + n; omega) rfl (pa_cons (pv 0) (pa_cons pe_int pa_nil))) pe_int))
    (pss_cons (ps_if (pt_cmpR op_gt (pv 2) pe_int (nomark _)) (pss_one (ps_ret (pe_c c_l_leaf hr (by show _ ≤ 4 + n; omega) rfl (pa_cons (pv 0) pa_nil)))) pss_nil)
    (pss_cons (ps_setLc (i := 3) (own := [("_law_turn", 4)]) (g := gName 4) (by rfl) sc_l_any.nd rfl rfl (sw_true rfl rfl rfl (by decide +kernel)) (pi_range1 (by rfl) T.b_range (pa_cons (pe_c c_l_choose hr (by show _ ≤ 4 + n; omega) rfl (pa_cons (pv 0) (pa_cons pe_int pa_nil))) pa_nil)) (blkOk_by (own := [("_law_turn", 4)]) (N := ["_law_box", "_law_deep_here", "_law_form", "_law_found", "_law_turn"]) (sc := fnScope s_l_any) (by decide +kernel)) (fun _ _ _ _ _ => (pg_name (i := 4) sc_l_any.nd rfl (.inl rfl))) (fun _ _ _ _ _ => pts_nil) (fun _ _ _ _ _ => (pe_c c_l_any hr (by show _ ≤ 4 + n; omega) rfl (pa_cons (pv 0) (pa_cons (pe_op op_sub (pv 1) pe_int) pa_nil)))))
    (pss_one (ps_ret (pe_ifExp (pt_cmpR op_eq (pv 2) pe_int (nomark _)) (pe_callTy call_tupleF (by rfl) T.b_tuple (by decide +kernel) (pa_cons (pv 3) pa_nil)) (pv 3))))))), ?_⟩
      refine ⟨_, rfl, _, _, rfl, rfl, _, rfl, iteDT (by show (0 : Int) < ((n + 1 : Nat) : Int); omega) ?_⟩
      refine ⟨_, rfl, bx, 6, rfl, hb, by decide, by decide, fun d H1 d0 d6 u1 => ?_⟩
      refine ⟨_, rfl, _, _, rfl, rfl, _, rfl, ?_⟩
      by_cases c1 : d > 1
      · refine iteDT c1 ?_
        exact ⟨_, rfl, bx, rfl, u1.2, fun v H' u hv => k v H' (u1.trans u) (lf_an hv)⟩
      · refine iteDF c1 ?_
        refine ⟨_, rfl, bx, 4, rfl, u1.2, by decide, by decide, fun e H2 e0 e4 u2 => ?_⟩
        refine ⟨_, rfl, by omega, by omega, fun D nD => ?_⟩
        have u12 := u1.trans u2
        have Db : D ≠ bx := u2.2.ne nD
        refine lc_it (walk_range (lo := 0) (n := e.toNat)) (fun i H3 => Up bx H2 H3 ∧ ∃ vs : List V, H3 D = some (.lst vs) ∧ vs.length = i ∧ ∀ v ∈ vs, AnT H3 v) ⟨(Up.refl u2.2).mut nD Db, [], upd_same, rfl, fun _ h => nomatch h⟩ (fun _ _ _ _ => trivial) ?_ ?_
        · rintro i x H3' H3 hi ⟨u3, vs, hD, lvs, av0⟩ ⟨rfl, rfl⟩
          refine ⟨rfl, _, rfl, _, rfl, _, _, rfl, rfl, bx, by show [V.ref bx, V.int (((n + 1 : Nat) : Int) - 1)] = _; rw [show ((n + 1 : Nat) : Int) - 1 = (n : Int) by omega], u3.2, fun v H4 u4 av => ?_⟩
          have hD4 := u4.1 _ _ hD Db
          have lk5 : LK H4 (upd H4 D (.lst (vs ++ [v]))) := LK.lst (.inr ⟨_, hD4⟩)
          refine ⟨_, hD4, sl_lt (by omega), (u3.trans u4).mut nD Db, vs ++ [v], by rw [upd_same], by rw [List.length_append, lvs]; rfl, fun z hz => ?_⟩
          rcases List.mem_append.mp hz with hz | hz
          · exact ((av0 z hz).lk (LK.up u3.2 u4)).lk lk5
          · rw [List.mem_singleton.mp hz]
            exact av.lk lk5
        rintro H3 ⟨u3, vs, hD, lvs, av⟩
        have u13 := u12.trans u3
        refine ⟨_, rfl, rfl, _, rfl, ?_⟩
        by_cases c2 : d = 0
        · refine iteDT (by rw [c2]) ?_
          refine ⟨_, rfl, D, _, rfl, SqL.of hD, fun t o nt no => ?_⟩
          exact k _ _ (u13.same (same_upd nt)) (tp_new nt no (by omega) av)
        · refine iteDF (fun z => c2 (V.int.inj z)) ?_
          exact ⟨_, rfl, k _ _ u13 (.ls hD)⟩
theorem cal_l_any {f : Addr} {fd : FuncData} (F : Def K mg "_law_any" s_l_any f fd) (b : Binds K fd ["_law_box", "_law_deep_here"] []) (T : Tx mg) (c_l_choose : Cal P w K mg base 1 "_law_choose" spChoose []) (c_l_leaf : Cal P w K mg base 3 "_law_leaf" spLeafV []) : Cal P w K mg base 12 "_law_any" spAnyW [] := by
  refine ⟨f, fd, _, [], ⟨fun vs H Q E h => ?_, fun A outer s H args us vs Q E hr e0 hb r h => ?_⟩, F.mgf, F.kp, b, .nil⟩
  · obtain ⟨_, _, rfl, _⟩ := h; rfl
  · obtain ⟨bx, n, rfl, hn, hbx, k⟩ := h
    exact (any_fn F b T c_l_choose c_l_leaf n).run A outer s H args us _ Q E (hr.mono (by omega)) e0 hb r ⟨bx, rfl, hbx, k⟩
theorem sc_l_deep : FnScope ["_law_found", "_law_turn"] [] (fnScope s_l_deep) := fnScope_by (by decide +kernel)
theorem cal_l_deep {f : Addr} {fd : FuncData} (F : Def K mg "_law_deep" s_l_deep f fd) (b : Binds K fd [] []) (T : Tx mg) : Cal P w K mg base 1 "_law_deep" spDeepT [] := by
  refine cal0 F b .nil sc_l_deep (fun vs H Q E h => ?_) (fun cdv A outer s H vs Q E hr h => ?_)
  · obtain ⟨rfl, _⟩ := h; rfl
  · obtain ⟨rfl, k⟩ := h
    refine ⟨_, (pss_cons (ps_set (i := 0) sc_l_deep.nd rfl (.inl rfl) pe_int)
    (pss_cons (ps_for PassesOwn.never rfl (pi_range1 (by rfl) T.b_range (pa_cons pe_int pa_nil)) (pg_name (i := 1) sc_l_deep.nd rfl (.inl rfl))
    (pss_one (ps_set (i := 0) sc_l_deep.nd rfl (.inl rfl) (pe_ifExp (pt_cmpR op_eq (pe_op op_mod (pv 1) pe_int) pe_int (nomark _)) (pe_lst (pa_cons (pv 0) pa_nil)) (pe_tupF (pa_cons (pv 0) pa_nil))))))
    (pss_one (ps_ret (pv 0))))), ?_⟩
    refine ⟨_, rfl, by decide, by decide, ?_⟩
    refine for_it (walk_range (lo := 0) (n := 7)) (fun i σ H2 => ∃ (v : V) (v1 : Option V), σ = [some v, v1] ∧ Same H H2 ∧ AnT H2 v) ⟨_, _, rfl, Same.refl H, .sc rfl⟩ (fun _ _ _ _ _ => trivial) ?_ ?_
    · rintro i x σ H2' H2 hi ⟨v, v1, rfl, s2, av⟩ ⟨rfl, rfl⟩
      refine ⟨_, rfl, _, _, rfl, rfl, (by show (0 : Int) < 2; decide), rfl, _, rfl, ?_⟩
      by_cases c : i % 2 = 0
      · refine iteDT (by show V.int ((0 + (i : Int)) % 2) = V.int 0; congr 1; omega) ?_
        refine ⟨_, rfl, by show 1 ≤ sizeLine; decide, fun a na => ?_⟩
        exact ⟨_, _, rfl, s2.trans (same_upd na), .ls upd_same⟩
      · refine iteDF (by show ¬ V.int ((0 + (i : Int)) % 2) = V.int 0; intro z; have := V.int.inj z; omega) ?_
        refine ⟨_, rfl, by show 1 ≤ sizeLine; decide, fun a o na no => ?_⟩
        exact ⟨_, _, rfl, s2.trans (same_upd na), tp_new na no (by show 1 ≤ 1000; decide) fun x hx => by rw [List.mem_singleton.mp hx]; exact av⟩
    · rintro σ H2 ⟨v, v1, rfl, s2, av⟩
      exact ⟨_, rfl, k v H2 s2 av⟩
end
end U
set_option maxRecDepth 100000
set_option maxHeartbeats 4000000
namespace U
open PySem PySem.Spec PyProof.Rows
open L2 hiding Fun CX0 E0 pass0 Fun.binds
open C8 Lx SX StX
def spLCommon : Sp := fun vs H Q _ => ∃ p q : Nat, vs = [.int p, .int q] ∧ ∀ H', Same H H' → Q (.int (Nat.gcd p q : Nat)) H'
def spLEnt (K : PySem.W.Frag) : Sp := fun vs H Q _ => ∃ (v : V) (sz : Nat) (r : Option (List Bool × Int × Int)), vs = [v, .int sz] ∧ EntR K H sz v r ∧ sz ≤ 1000 ∧ ∀ H', Same H H' → Q (.bl r.isSome) H'
def spLPap (K : PySem.W.Frag) : Sp := fun vs H Q _ => ∃ (t tv : Addr) (v : V) (f : List Bool) (ss : List Stf) (v0 v1 : Int) (r : Option (List (List Bool × Int × Int))), vs = [.ref t, .ref tv, v] ∧ Told H t f ss ∧ StOk ss ∧ ss.length ≤ 2 ∧
  SqT K H tv [.int v0, .int v1] ∧ 0 < v1 ∧ v1 < 1000000000 ∧ PapR K H (longM ss) v r ∧ ∀ c H', (c = true ↔ ∃ es, r = some es ∧ HoldP ss v0 v1 es) → Same H H' → Q (.bl c) H'
def oddL (z : Str) : List Nat := z.cps.toList.filter fun c => !decide (c ∈ ("01" : Str).cps.toList)
theorem oddL_nil {z : Str} : oddL z = [] ↔ isW z = true := by
  unfold oddL isW
  rw [List.filter_eq_nil_iff, List.all_eq_true]
  exact ⟨fun h c hc => by have := h c hc; simpa using this, fun h c hc => by have := h c hc; simpa using this⟩
def sgV (cs : List Nat) : List V := cs.map fun c => V.str ⟨#[c]⟩
theorem sgV_nil {cs : List Nat} : sgV cs = [] ↔ cs = [] := by unfold sgV; exact List.map_eq_nil_iff
theorem ValR.split {K : PySem.W.Frag} {H : Hp} {v : V} {r : Option (Int × Int)} (h : ValR K H v r) : (OthT K H v "tuple" ∧ r = none) ∨ (∃ a xs, v = .ref a ∧ SqT K H a xs ∧ xs.length ≠ 2 ∧ xs.length ≤ 1000 ∧ r = none) ∨
    ∃ a x y rx ry, v = .ref a ∧ SqT K H a [x, y] ∧ IntR K H x rx ∧ IntR K H y ry ∧ (((rx = none ∨ ry = none) ∧ r = none) ∨ ∃ p q, rx = some p ∧ ry = some q ∧ x = .int p ∧ y = .int q ∧ q < 1000000000 ∧ r = if 0 < q ∧ Nat.gcd p.natAbs q.natAbs = 1 then some (p, q) else none) := by
  cases h with
  | oth h => exact .inl ⟨h, rfl⟩
  | len h n l => exact .inr (.inl ⟨_, _, rfl, h, n, l, rfl⟩)
  | bad h hx hy n => exact .inr (.inr ⟨_, _, _, _, _, rfl, h, hx, hy, .inl ⟨n, rfl⟩⟩)
  | num h q9 => exact .inr (.inr ⟨_, _, _, _, _, rfl, h, .int _, .int _, .inr ⟨_, _, rfl, rfl, rfl, rfl, q9, rfl⟩⟩)
section
variable {P : Program} {w : World} {K : PySem.W.Frag} {mg : Str → Option Value} {base : Heap}
theorem sc_l_common : FnScope ["_law_p", "_law_q"] ["_law_p", "_law_q"] (fnScope s_l_common) := fnScope_by (by decide +kernel)
theorem cal_l_common {f : Addr} {fd : FuncData} (F : Def K mg "_law_common" s_l_common f fd) (b : Binds K fd ["_law_p", "_law_q"] []) (T : Tx mg) : Cal P w K mg base 1 "_law_common" spLCommon [] := by
  refine cal0 F b .nil sc_l_common (fun vs H Q E h => ?_) (fun cdv A outer s H vs Q E hr h => ?_)
  · obtain ⟨_, _, rfl, _⟩ := h; rfl
  · obtain ⟨p, q, rfl, k⟩ := h
    refine ⟨_, (pss_cons (ps_while PassesOwn.never (pt_cmpR op_ne (pv 1) pe_int (nomark _))
    (pss_one (ps_par (i := 0) (j := 1) (by rfl) sc_l_common.nd rfl rfl (by decide) rfl rfl (pa_cons (pv 1) (pa_cons (pe_op op_mod (pe_callTy call_int1 (by rfl) T.b_int (by decide +kernel) (pa_cons (pv 0) pa_nil)) (pv 1)) pa_nil)) (by rfl))))
    (pss_one (ps_ret (pv 0)))), ?_⟩
    refine ⟨fun m σ H3 => ∃ p' q' : Nat, σ = [some (.int p'), some (.int q')] ∧ H3 = H ∧ Nat.gcd p' q' = Nat.gcd p q ∧ m = q', ⟨q, p, q, rfl, rfl, rfl, rfl⟩, ?_⟩
    rintro m σ H3 ⟨p', q', rfl, rfl, hg, rfl⟩
    refine ⟨_, rfl, rfl, _, rfl, ?_⟩
    by_cases c : m = 0
    · subst c
      refine iteNS rfl ?_
      rw [Nat.gcd_zero_right] at hg
      refine ⟨_, rfl, ?_⟩
      rw [hg]
      exact k _ (Same.refl _)
    · refine iteNT (fun z => c (by have := V.int.inj z; omega)) ?_
      refine ⟨fun σ' H' => ∃ m', m' < m ∧ ∃ p' q' : Nat, σ' = [some (.int p'), some (.int q')] ∧ H' = H3 ∧ Nat.gcd p' q' = Nat.gcd p q ∧ m' = q', fun _ _ h => h, ?_⟩
      refine ⟨_, rfl, _, rfl, .inl ⟨_, rfl, _, rfl, _, _, rfl, rfl, by show (0 : Int) < (m : Nat); omega, _, _, rfl, ?_⟩⟩
      refine ⟨p' % m, Nat.mod_lt _ (by omega), m, p' % m, rfl, rfl, ?_, rfl⟩
      rw [← hg, Nat.gcd_comm p' m, Nat.gcd_rec m p', Nat.gcd_comm]
theorem sc_l_is_entry : FnScope ["_law_one", "_law_size", "_law_sign", "_law_part"] ["_law_one", "_law_size"] (fnScope s_l_is_entry) := fnScope_by (by decide +kernel)
theorem cal_l_is_entry {f : Addr} {fd : FuncData} (F : Def K mg "_law_is_entry" s_l_is_entry f fd) (b : Binds K fd ["_law_one", "_law_size"] []) (T : Tx mg) (c_l_common : Cal P w K mg base 1 "_law_common" spLCommon []) : Cal P w K mg base 2 "_law_is_entry" (spLEnt K) [] := by
  refine cal0 F b .nil sc_l_is_entry (fun vs H Q E h => ?_) (fun cdv A outer s H vs Q E hr h => ?_)
  · obtain ⟨_, _, _, rfl, _⟩ := h; rfl
  · obtain ⟨v, sz, r, rfl, hv, hsz, k⟩ := h
    refine ⟨_, (pss_cons (ps_if (PW.pt (pw_or (pt_not (pt_val (pe_callB call_isi (by rfl) T.b_isinstance (by decide +kernel) (pa_cons (pv 0) (pa_cons (pe_bltn (v := .ty "tuple") (u := .type "tuple") (by rfl) T.b_tuple (by decide +kernel) rfl) pa_nil))))) (pw_or (pt_cmpR op_ne (pe_callB call_len_seq (by rfl) T.b_len (by decide +kernel) (pa_cons (pv 0) pa_nil)) pe_int (nomark _)) (pw_or1 (pt_not (pt_val (pe_callB call_isi (by rfl) T.b_isinstance (by decide +kernel) (pa_cons (pe_ix ix_tup (pv 0) pe_int (fun _ _ => rfl)) (pa_cons (pe_bltn (v := .ty "str") (u := .type "str") (by rfl) T.b_str (by decide +kernel) rfl) pa_nil))))))))) (pss_one (ps_ret pe_bl)) pss_nil)
    (pss_cons (ps_if (pt_cmpR op_gt (pe_callB call_len_str (by rfl) T.b_len (by decide +kernel) (pa_cons (pe_ix ix_tup (pv 0) pe_int (fun _ _ => rfl)) pa_nil)) (pv 1) (nomark _)) (pss_one (ps_ret pe_bl)) pss_nil)
    (pss_cons (ps_if (pt_cmpR (op_neL hr) (pe_lc (own := [("_law_sign", 2)]) (g := gName 2) (by rfl) sc_l_is_entry.nd (pi_str (pe_ix ix_tup (pv 0) pe_int (fun _ _ => rfl))) (blkOk_by (own := [("_law_sign", 2)]) (N := ["_law_one", "_law_size", "_law_sign", "_law_part"]) (sc := fnScope s_l_is_entry) (by decide +kernel)) (fun _ _ _ _ _ => (pg_name (i := 2) sc_l_is_entry.nd rfl (.inl rfl))) (fun _ _ _ _ _ => (pts_one (pt_cmpR op_notIn_sign (pv 2) pe_str (by with_unfolding_all rfl)))) (fun _ _ _ _ _ => (pv 2))) (pe_lst pa_nil) (nomark _)) (pss_one (ps_ret pe_bl)) pss_nil)
    (pss_cons (ps_if (PW.pt (pw_or (pt_not (pt_val (pe_callB call_isi (by rfl) T.b_isinstance (by decide +kernel) (pa_cons (pe_ix ix_tup (pv 0) pe_int (fun _ _ => rfl)) (pa_cons (pe_bltn (v := .ty "tuple") (u := .type "tuple") (by rfl) T.b_tuple (by decide +kernel) rfl) pa_nil))))) (pw_or1 (pt_cmpR op_ne (pe_callB call_len_seq (by rfl) T.b_len (by decide +kernel) (pa_cons (pe_ix ix_tup (pv 0) pe_int (fun _ _ => rfl)) pa_nil)) pe_int (nomark _))))) (pss_one (ps_ret pe_bl)) pss_nil)
    (pss_cons (ps_if (pt_cmpR (op_neL hr) (pe_lc (own := [("_law_part", 3)]) (g := gName 3) (by rfl) sc_l_is_entry.nd (pi_tup (pe_ix ix_tup (pv 0) pe_int (fun _ _ => rfl))) (blkOk_by (own := [("_law_part", 3)]) (N := ["_law_one", "_law_size", "_law_sign", "_law_part"]) (sc := fnScope s_l_is_entry) (by decide +kernel)) (fun _ _ _ _ _ => (pg_name (i := 3) sc_l_is_entry.nd rfl (.inl rfl))) (fun _ _ _ _ _ => (pts_one (PW.pt (pw_or (pt_not (pt_val (pe_callB (show CallR _ (.builtin "isinstance") (rIsi K) from call_isi) (by rfl) T.b_isinstance (by decide +kernel) (pa_cons (pv 3) (pa_cons (pe_bltn (v := .ty "int") (u := .type "int") (by rfl) T.b_int (by decide +kernel) rfl) pa_nil))))) (pw_or1 (pt_val (pe_callB (show CallR _ (.builtin "isinstance") (rIsi K) from call_isi) (by rfl) T.b_isinstance (by decide +kernel) (pa_cons (pv 3) (pa_cons (pe_bltn (v := .ty "bool") (u := .type "bool") (by rfl) T.b_bool (by decide +kernel) rfl) pa_nil))))))))) (fun _ _ _ _ _ => (pv 3))) (pe_lst pa_nil) (nomark _)) (pss_one (ps_ret pe_bl)) pss_nil)
    (pss_cons (ps_if (pt_cmpR op_lt (pe_ix ix_tup (pe_ix ix_tup (pv 0) pe_int (fun _ _ => rfl)) pe_int (fun _ _ => rfl)) pe_int (nomark _)) (pss_one (ps_ret pe_bl)) pss_nil)
    (pss_one (ps_ret (pe_cmpR op_eq (pe_c c_l_common hr (by decide) rfl (pa_cons (pe_callB call_abs (by rfl) T.b_abs (by decide +kernel) (pa_cons (pe_ix ix_tup (pe_ix ix_tup (pv 0) pe_int (fun _ _ => rfl)) pe_int (fun _ _ => rfl)) pa_nil)) (pa_cons (pe_ix ix_tup (pe_ix ix_tup (pv 0) pe_int (fun _ _ => rfl)) pe_int (fun _ _ => rfl)) pa_nil))) pe_int (nomark _)))))))))), ?_⟩
    cases hv with
    | oth h =>
      obtain ⟨t, h1, h2⟩ := h
      refine ⟨_, rfl, _, _, _, _, false, rfl, .ty _, h1 H (Same.refl H), h2, _, rfl, iteT ?_⟩
      exact k H (Same.refl H)
    | @len t xs ht n l =>
      refine ⟨_, rfl, _, _, _, _, true, rfl, .ty _, sq_ty ht, kit_ty (by decide +kernel), _, rfl, iteF ?_⟩
      refine ⟨_, rfl, t, _, rfl, .inr ht, rfl, _, rfl, iteNT (fun z => n (by have := V.int.inj z; omega)) ?_⟩
      exact k H (Same.refl H)
    | @pair e x y r he hx hy =>
      refine ⟨_, rfl, _, _, _, _, true, rfl, .ty _, sq_ty he, kit_ty (by decide +kernel), _, rfl, iteF ?_⟩
      refine ⟨_, rfl, e, _, rfl, .inr he, rfl, _, rfl, iteF ?_⟩
      rcases hx with ⟨z, rfl, hz, ho⟩ | ⟨h1, t, h2, h3⟩
      rotate_left
      · refine ⟨_, rfl, e, _, _, _, rfl, rfl, he, atI_nat (j := 0) rfl, _, _, _, _, false, rfl, .ty _, h3 H (Same.refl H), h2, _, rfl, iteT ?_⟩
        have := k H (Same.refl H)
        rw [show entO sz x r = none by
          unfold entO
          split
          · exact absurd rfl (h1 _)
          · rfl] at this
        exact this
      refine ⟨_, rfl, e, _, _, _, rfl, rfl, he, atI_nat (j := 0) rfl, _, _, _, _, true, rfl, .ty _, .base (.str z), kit_ty (by decide +kernel), _, rfl, iteF ?_⟩
      have lz : z.length = z.cps.toList.length := TL.len_tl z
      refine ⟨_, rfl, e, _, _, _, rfl, rfl, he, atI_nat (j := 0) rfl, _, rfl, sl_len (by omega), _, rfl, _, _, rfl, rfl, _, rfl, ?_⟩
      have entE : entO sz (.str z) r = if isW z = true ∧ z.length ≤ sz then r.map fun pq => (unW z, pq) else none := rfl
      rw [entE] at k
      by_cases cl : z.length ≤ sz
      rotate_left
      · refine iteDT (by omega) ?_
        have := k H (Same.refl H)
        rw [if_neg (fun z => cl z.2)] at this
        exact this
      refine iteDF (by omega) ?_
      refine ⟨_, rfl, e, _, _, _, rfl, rfl, he, atI_nat (j := 0) rfl, z, rfl, fun D nD => ?_⟩
      refine lc_it walk_str (fun i H2 => Same H H2 ∧ H2 D = some (.lst (sgV ((z.cps.toList.take i).filter fun c => !decide (c ∈ ("01" : Str).cps.toList))))) ⟨same_upd nD, upd_same⟩ (fun _ _ _ _ => trivial) ?_ ?_
      · rintro i y' H2' H2 hi ⟨s2, hD⟩ ⟨rfl, c, hc, rfl⟩
        have hc' : z.cps.toList[i]? = some c := by rw [Array.getElem?_toList]; exact hc
        refine ⟨rfl, _, rfl, c, _, rfl, rfl, _, rfl, ?_⟩
        by_cases hm : c ∈ ("01" : Str).cps.toList
        · refine iteBF (by rw [decide_eq_true hm]; rfl) ?_
          refine ⟨s2, ?_⟩
          rw [hD, List.take_add_one, hc', List.filter_append, show ((some c).toList.filter fun c => !decide (c ∈ ("01" : Str).cps.toList)) = [] by show [c].filter _ = _; rw [List.filter_cons, if_neg (by rw [decide_eq_true hm]; decide)]; rfl, List.append_nil]
        · refine iteBT (by rw [decide_eq_false hm]; rfl) ?_
          refine ⟨_, rfl, _, hD, ?_, same_mut' s2 nD, ?_⟩
          · unfold sgV
            rw [List.length_map]
            refine sl_lt (Nat.lt_of_le_of_lt (List.length_filter_le _ _) ?_)
            rw [List.length_take]
            omega
          · rw [upd_same, List.take_add_one, hc', List.filter_append, show ((some c).toList.filter fun c => !decide (c ∈ ("01" : Str).cps.toList)) = [c] by show [c].filter _ = _; rw [List.filter_cons, if_pos (by rw [decide_eq_false hm]; rfl)]; rfl]
            unfold sgV
            rw [List.map_append]
            rfl
      rintro H2 ⟨s2, hD⟩
      have ez : z.cps.toList.take z.cps.size = z.cps.toList := List.take_of_length_le (by simp)
      rw [ez] at hD
      refine ⟨by show 0 ≤ sizeLine; decide, fun l nl => ?_⟩
      have sl := same_upd (o := .lst []) nl
      have s3 := s2.trans sl
      refine ⟨D, l, sgV (oddL z), rfl, rfl, SqL.of (sl _ _ hD), SqL.of upd_same, _, rfl, ?_⟩
      generalize upd H2 l (.lst []) = H3 at s3 ⊢
      clear sl hD
      by_cases cw : isW z = true
      rotate_left
      · refine iteNT (fun w => cw (oddL_nil.mp (sgV_nil.mp w))) ?_
        have := k H3 s3
        rw [if_neg (fun z => cw z.1)] at this
        exact this
      refine iteNS (sgV_nil.mpr (oddL_nil.mpr cw)) ?_
      have k : ∀ H', Same H H' → Q (.bl r.isSome) H' := fun H' s' => by
        have := k H' s'
        rw [if_pos ⟨cw, cl⟩, Option.isSome_map] at this
        exact this
      have he3 := same_tup s3 he
      rcases (hy.same s3).split with ⟨⟨t, h1, h2⟩, rfl⟩ | ⟨a, xs, rfl, ha, nl2, lxs, rfl⟩ | ⟨a, x0, y0, rx, ry, rfl, ha, hx0, hy0, hr0⟩
      · refine ⟨_, rfl, e, _, _, _, rfl, rfl, he3, atI_nat (j := 1) rfl, _, _, _, _, false, rfl, .ty _, h1 H3 (Same.refl H3), h2, _, rfl, iteT ?_⟩
        exact k H3 s3
      · refine ⟨_, rfl, e, _, _, _, rfl, rfl, he3, atI_nat (j := 1) rfl, _, _, _, _, true, rfl, .ty _, sq_ty ha, kit_ty (by decide +kernel), _, rfl, iteF ?_⟩
        refine ⟨_, rfl, e, _, _, _, rfl, rfl, he3, atI_nat (j := 1) rfl, a, _, rfl, .inr ha, rfl, _, rfl, iteNT (fun z => nl2 (by have := V.int.inj z; omega)) ?_⟩
        exact k H3 s3
      refine ⟨_, rfl, e, _, _, _, rfl, rfl, he3, atI_nat (j := 1) rfl, _, _, _, _, true, rfl, .ty _, sq_ty ha, kit_ty (by decide +kernel), _, rfl, iteF ?_⟩
      refine ⟨_, rfl, e, _, _, _, rfl, rfl, he3, atI_nat (j := 1) rfl, a, _, rfl, .inr ha, rfl, _, rfl, iteF ?_⟩
      refine ⟨_, rfl, e, _, _, _, rfl, rfl, he3, atI_nat (j := 1) rfl, a, rfl, ⟨_, ha⟩, fun D2 nD2 => ?_⟩
      have hP : Paired (IntR K H3) [x0, y0] [rx, ry] := .cons hx0 (.cons hy0 .nil)
      refine lc_it (walk_tup (xs := [x0, y0])) (fun i H4 => Same H3 H4 ∧ ∃ ls : List V, H4 D2 = some (.lst ls) ∧ ls.length ≤ i ∧ (ls = [] ↔ ∀ j r, j < i → [rx, ry][j]? = some r → r.isSome = true)) ⟨same_upd nD2, [], upd_same, Nat.le_refl _, fun _ j r h => absurd h (Nat.not_lt_zero _), fun _ => rfl⟩ (fun i H4 _ h4 => same_tup h4.1 ha) ?_ ?_
      · rintro i y' H4' H4 hi ⟨s4, ls, hL, lls, hls⟩ ⟨rfl, hx⟩
        obtain ⟨ri, hri, hE⟩ := paired_get hP hx
        have hi2 : i < 2 := hi
        have skip : ri.isSome = true → (ls = [] ↔ ∀ j r, j < i + 1 → [rx, ry][j]? = some r → r.isSome = true) := fun hs => by
          rw [hls]
          refine ⟨fun h j r hj e => ?_, fun h j r hj e => h j r (by omega) e⟩
          by_cases cj : j = i
          · rw [cj, hri] at e
            cases e
            exact hs
          · exact h j r (by omega) e
        have put : ri.isSome = false → ∃ ls' : List V, H4 D2 = some (.lst ls') ∧ ls'.length < sizeLine ∧ Same H3 (upd H4 D2 (.lst (ls' ++ [y']))) ∧ ∃ l2 : List V, upd H4 D2 (.lst (ls' ++ [y'])) D2 = some (.lst l2) ∧ l2.length ≤ i + 1 ∧ (l2 = [] ↔ ∀ j r, j < i + 1 → [rx, ry][j]? = some r → r.isSome = true) := fun hs => by
          refine ⟨ls, hL, sl_lt (by omega), same_mut' s4 nD2, ls ++ [y'], upd_same, by rw [List.length_append]; show _ + 1 ≤ _; omega, fun z => absurd z (by simp), fun z => ?_⟩
          have := z i ri (by omega) hri
          rw [hs] at this
          cases this
        cases hE.same s4 with
        | int i0 =>
          refine ⟨rfl, _, rfl, _, _, _, _, true, rfl, .ty _, .base (.int i0), kit_ty (by decide +kernel), _, rfl, iteF ?_⟩
          refine ⟨_, rfl, _, _, _, _, false, rfl, .ty _, .base (.int i0), kit_ty (by decide +kernel), _, rfl, iteF ?_⟩
          exact ⟨s4, ls, hL, by omega, skip rfl⟩
        | bl x =>
          refine ⟨rfl, _, rfl, _, _, _, _, true, rfl, .ty _, .base (.bl x), kit_ty (by decide +kernel), _, rfl, iteF ?_⟩
          refine ⟨_, rfl, _, _, _, _, true, rfl, .ty _, .base (.bl x), kit_ty (by decide +kernel), _, rfl, iteT ?_⟩
          exact ⟨_, rfl, put rfl⟩
        | oth h =>
          obtain ⟨t, h1, h2⟩ := h
          refine ⟨rfl, _, rfl, _, _, _, _, false, rfl, .ty _, h1 H4 (Same.refl H4), h2, _, rfl, iteT ?_⟩
          exact ⟨_, rfl, put rfl⟩
      rintro H4 ⟨s4, ls, hL, lls, hls⟩
      refine ⟨by show 0 ≤ sizeLine; decide, fun l5 nl5 => ?_⟩
      have sl5 := same_upd (o := .lst []) nl5
      have s35 := s4.trans sl5
      have s5 := s3.trans s35
      refine ⟨D2, l5, ls, rfl, rfl, SqL.of (sl5 _ _ hL), SqL.of upd_same, _, rfl, ?_⟩
      generalize upd H4 l5 (.lst []) = H5 at s5 s35 ⊢
      clear sl5 hL
      rcases hr0 with ⟨hn, rfl⟩ | ⟨p, q, rfl, rfl, rfl, rfl, q9, rfl⟩
      · refine iteNT (fun z => ?_) ?_
        · rcases hn with rfl | rfl
          · exact nomatch hls.mp z 0 none (by show 0 < 2; decide) rfl
          · exact nomatch hls.mp z 1 none (by show 1 < 2; decide) rfl
        exact k H5 s5
      refine iteNS (hls.mpr fun j r hj e => ?_) ?_
      · match j, hj with
        | 0, _ => cases e; rfl
        | 1, _ => cases e; rfl
      have he5 := same_tup s5 he
      have ha5 := same_tup s35 ha
      refine ⟨_, rfl, e, _, _, _, rfl, rfl, he5, atI_nat (j := 1) rfl, a, _, _, _, rfl, rfl, ha5, atI_nat (j := 1) rfl, _, _, rfl, rfl, _, rfl, ?_⟩
      by_cases q0 : q < 1
      · refine iteDT q0 ?_
        have := k H5 s5
        rw [if_neg (fun z => by omega)] at this
        exact this
      refine iteDF q0 ?_
      obtain ⟨n, rfl⟩ := Int.eq_ofNat_of_zero_le (show 0 ≤ q by omega)
      have eabs : (if p < 0 then -p else p) = ((p.natAbs : Nat) : Int) := by split <;> omega
      refine ⟨_, rfl, e, _, _, _, rfl, rfl, he5, atI_nat (j := 1) rfl, a, _, _, _, rfl, rfl, ha5, atI_nat (j := 0) rfl, _, rfl, _, rfl, e, _, _, _, rfl, rfl, he5, atI_nat (j := 1) rfl, a, _, _, _, rfl, rfl, ha5, atI_nat (j := 1) rfl, p.natAbs, n, by rw [eabs]; rfl, fun H6 s6 => ?_⟩
      refine ⟨rfl, ?_⟩
      have := k H6 (s5.trans s6)
      by_cases g : Nat.gcd p.natAbs n = 1
      · rw [if_pos ⟨by omega, g⟩] at this
        rw [decide_eq_true (congrArg V.int (by rw [g]; rfl))]
        exact this
      · rw [if_neg (fun z => g z.2)] at this
        rw [decide_eq_false (fun z => g (by have := V.int.inj z; omega))]
        exact this
end
theorem longM_mem (ss : List Stf) : longM ss = 0 ∨ ∃ s ∈ ss, s.1.length = longM ss := by
  induction ss with
  | nil => exact .inl rfl
  | cons s r ih =>
    have e : longM (s :: r) = max s.1.length (longM r) := rfl
    rw [e]
    rcases Nat.le_total (longM r) s.1.length with c | c
    · rw [Nat.max_eq_left c]
      exact .inr ⟨s, List.mem_cons_self, rfl⟩
    · rw [Nat.max_eq_right c]
      rcases ih with z | ⟨x, hx, ex⟩
      · exact .inl z
      · exact .inr ⟨x, List.mem_cons_of_mem _ hx, ex⟩
theorem max_long {ss : List Stf} {m : Int} (h1 : m ∈ (0 : Int) :: ss.map fun s => ((s.1.length : Nat) : Int)) (h2 : ∀ y, y ∈ (0 : Int) :: ss.map (fun s => ((s.1.length : Nat) : Int)) → y ≤ m) : m = (longM ss : Nat) := by
  have h0 := h2 0 List.mem_cons_self
  have h3 : ∀ s ∈ ss, ((s.1.length : Nat) : Int) ≤ m := fun s hs => h2 _ (List.mem_cons_of_mem _ (List.mem_map.mpr ⟨s, hs, rfl⟩))
  have h4 : m ≤ (longM ss : Nat) := by
    rcases List.mem_cons.mp h1 with e | e
    · rw [e]; omega
    · obtain ⟨s, hs, rfl⟩ := List.mem_map.mp e
      have := longM_le hs
      omega
  rcases longM_mem ss with z | ⟨s, hs, e⟩
  · omega
  · have := h3 s hs
    omega
theorem PutX.few {ss : List Stf} (sf : SufFree ss) (h2 : ss.length ≤ 2) {l y x : List Bool} (h : PutX ss l y) (hx : Ins ss l x) : y.length ≤ 3 := by
  obtain ⟨z, rfl, _⟩ := h.pre hx
  have := chain3 sf h2 hx
  rw [List.length_append] at this
  omega
structure Trn (ss : List Stf) (l : List Bool) (i : Nat) (y : List Bool) : Prop where
  p : PutX ss l y
  le : y.length ≤ i
  st : y.length < i → putM ss (l ++ y) = none
theorem Trn.start {ss : List Stf} {l : List Bool} : Trn ss l 0 [] := ⟨.nil, Nat.le_refl _, fun h => absurd h (Nat.not_lt_zero _)⟩
theorem Trn.next {ss : List Stf} {l : List Bool} {i : Nat} {y : List Bool} (h : Trn ss l i y) : Trn ss l (i + 1) (y ++ putL ss (l ++ y)) := by
  unfold putL
  cases e : putM ss (l ++ y) with
  | none =>
    show Trn ss l (i + 1) (y ++ [])
    exact ⟨by rw [List.append_nil]; exact h.p, by rw [List.append_nil]; have := h.le; omega, fun _ => by rw [List.append_nil]; exact e⟩
  | some b =>
    have hl : y.length = i := by
      have := h.le
      by_cases c : y.length < i
      · rw [h.st c] at e; cases e
      · omega
    show Trn ss l (i + 1) (y ++ [b])
    exact ⟨h.p.snoc e, by rw [List.length_append]; show _ + 1 ≤ _; omega, fun z => by rw [List.length_append] at z; have : [b].length = 1 := rfl; omega⟩
theorem Trn.done {ss : List Stf} (sf : SufFree ss) (h2 : ss.length ≤ 2) {l y : List Bool} (h : Trn ss l 40 y) : (putL ss (l ++ y) = [] ∧ Ins ss l y) ∨ (putL ss (l ++ y) ≠ [] ∧ ∀ x, ¬ Ins ss l x) := by
  cases e : putM ss (l ++ y) with
  | none =>
    refine .inl ⟨by unfold putL; rw [e], ?_⟩
    have := h.p.ins (.stop e)
    rw [List.append_nil] at this
    exact this
  | some b =>
    refine .inr ⟨by unfold putL; rw [e]; show [b] ≠ []; exact fun z => (nomatch z), fun x hx => ?_⟩
    have := h.p.few sf h2 hx
    have h40 : putM ss (l ++ y) = none := h.st (by omega)
    rw [e] at h40
    cases h40
theorem bits_at {i : Nat} {x : V} (h : [V.str "0", V.str "1"][i]? = some x) : i < 2 ∧ x = .str (W [decide (i = 1)]) := by
  match i, h with
  | 0, h => exact ⟨by decide, by cases h; exact congrArg V.str (by decide +kernel)⟩
  | 1, h => exact ⟨by decide, by cases h; exact congrArg V.str (by decide +kernel)⟩
section
variable {P : Program} {w : World} {K : PySem.W.Frag} {mg : Str → Option Value} {base : Heap}
theorem sc_l_is_paper : FnScope ["_law_told", "_law_value", "_law_paper", "_law_size", "_law_pattern", "_law_bit", "_law_one", "_law_heights", "_law_here", "_law_line", "_law_turn", "_law_there", "_law_many", "_law_p", "_law_q", "_law_wanted"] ["_law_told", "_law_value", "_law_paper"] (fnScope s_l_is_paper) := fnScope_by (by decide +kernel)
theorem cal_l_is_paper {f : Addr} {fd : FuncData} (F : Def K mg "_law_is_paper" s_l_is_paper f fd) (b : Binds K fd ["_law_told", "_law_value", "_law_paper"] []) (T : Tx mg) (c_l_put : Cal P w K mg base 1 "_law_put" spLPut []) (c_l_is_entry : Cal P w K mg base 2 "_law_is_entry" (spLEnt K) []) : Cal P w K mg base 3 "_law_is_paper" (spLPap K) [] := by
  refine cal0 F b .nil sc_l_is_paper (fun vs H Q E h => ?_) (fun cdv A outer s H vs Q E hr h => ?_)
  · obtain ⟨_, _, _, _, _, _, _, _, rfl, _⟩ := h; rfl
  · obtain ⟨t, tv, v, fl, ss, v0, v1, r, rfl, htold, ok, l2, htv, q0, q9, hv, k⟩ := h
    refine ⟨_, (pss_cons (ps_set (i := 3) sc_l_is_paper.nd rfl (.inr rfl) (pe_callB (cr_max rfl) (by rfl) T.b_max (by decide +kernel) (pa_cons (pe_op op_cat (pe_lst (pa_cons pe_int pa_nil)) (pe_lc (own := [("_law_pattern", 4), ("_law_bit", 5)]) (g := gTup K 2 (gCons (gName 4) (gCons (gName 5) gNil))) (by rfl) sc_l_is_paper.nd (pi_list (pe_ix ix_tup (pv 0) pe_int (fun _ _ => rfl))) (blkOk_by (own := [("_law_pattern", 4), ("_law_bit", 5)]) (N := ["_law_told", "_law_value", "_law_paper", "_law_size", "_law_pattern", "_law_bit", "_law_one", "_law_heights", "_law_here", "_law_line", "_law_turn", "_law_there", "_law_many", "_law_p", "_law_q", "_law_wanted"]) (sc := fnScope s_l_is_paper) (by decide +kernel)) (fun _ _ _ _ _ => (pg_tup rfl (pgs_cons (pg_name (i := 4) sc_l_is_paper.nd rfl (.inl rfl)) (pgs_cons (pg_name (i := 5) sc_l_is_paper.nd rfl (.inl rfl)) pgs_nil)))) (fun _ _ _ _ _ => pts_nil) (fun _ _ _ _ _ => (pe_callB call_len_str (by rfl) T.b_len (by decide +kernel) (pa_cons (pv 4) pa_nil))))) pa_nil)))
    (pss_cons (ps_if (pt_not (pt_val (pe_callB call_isi (by rfl) T.b_isinstance (by decide +kernel) (pa_cons (pv 2) (pa_cons (pe_bltn (v := .ty "tuple") (u := .type "tuple") (by rfl) T.b_tuple (by decide +kernel) rfl) pa_nil))))) (pss_one (ps_ret pe_bl)) pss_nil)
    (pss_cons (ps_if (pt_cmpR (op_neL hr) (pe_lc (own := [("_law_one", 6)]) (g := gName 6) (by rfl) sc_l_is_paper.nd (pi_tup (pv 2)) (blkOk_by (own := [("_law_one", 6)]) (N := ["_law_told", "_law_value", "_law_paper", "_law_size", "_law_pattern", "_law_bit", "_law_one", "_law_heights", "_law_here", "_law_line", "_law_turn", "_law_there", "_law_many", "_law_p", "_law_q", "_law_wanted"]) (sc := fnScope s_l_is_paper) (by decide +kernel)) (fun _ _ _ _ _ => (pg_name (i := 6) sc_l_is_paper.nd rfl (.inl rfl))) (fun _ _ _ _ _ => (pts_one (pt_not (pt_val (pe_c c_l_is_entry hr (by decide) rfl (pa_cons (pv 6) (pa_cons (pv 3) pa_nil))))))) (fun _ _ _ _ _ => (pv 6))) (pe_lst pa_nil) (nomark _)) (pss_one (ps_ret pe_bl)) pss_nil)
    (pss_cons (ps_set (i := 7) sc_l_is_paper.nd rfl (.inl rfl) (pe_callTy (call_dictF rfl) (by rfl) T.b_dict (by decide +kernel) (pa_cons (pv 2) pa_nil)))
    (pss_cons (ps_if (PW.pt (pw_or (pt_cmpR op_ne (pe_callB call_lenD (by rfl) T.b_len (by decide +kernel) (pa_cons (pv 7) pa_nil)) (pe_callB call_len_seq (by rfl) T.b_len (by decide +kernel) (pa_cons (pv 2) pa_nil)) (nomark _)) (pw_or1 (pt_cmp (pc_dnotin (hu_of hr) pe_str (pv 7)))))) (pss_one (ps_ret pe_bl)) pss_nil)
    (pss_cons (ps_lock (ps_for PassesOwn.never rfl (pi_keys (pv 7)) (pg_name (i := 8) sc_l_is_paper.nd rfl (.inl rfl))
    (pss_one (ps_for PassesOwn.never rfl (pi_tup (pe_tup (pa_cons pe_str (pa_cons pe_str pa_nil)))) (pg_name (i := 5) sc_l_is_paper.nd rfl (.inl rfl))
    (pss_cons (ps_set (i := 9) sc_l_is_paper.nd rfl (.inl rfl) (pe_op op_add_str (pv 8) (pv 5)))
    (pss_cons (ps_for PassesOwn.never rfl (pi_range1 (by rfl) T.b_range (pa_cons pe_int pa_nil)) (pg_name (i := 10) sc_l_is_paper.nd rfl (.inl rfl))
    (pss_one (ps_set (i := 9) sc_l_is_paper.nd rfl (.inl rfl) (pe_op op_add_str (pv 9) (pe_c c_l_put hr (by decide) rfl (pa_cons (pv 0) (pa_cons (pv 9) pa_nil)))))))
    (pss_cons (ps_set (i := 11) sc_l_is_paper.nd rfl (.inl rfl) (pe_slice sl_txt (pv 9) (po_some (pe_callB (call_max2 rfl) (by rfl) T.b_max (by decide +kernel) (pa_cons pe_int (pa_cons (pe_op op_sub (pe_callB call_len_str (by rfl) T.b_len (by decide +kernel) (pa_cons (pv 9) pa_nil)) (pv 3)) pa_nil)))) po_none))
    (pss_cons (ps_if (PW.pt (pw_or (pt_cmpR op_ne (pe_c c_l_put hr (by decide) rfl (pa_cons (pv 0) (pa_cons (pv 9) pa_nil))) pe_str (nomark _)) (pw_or1 (pt_cmp (pc_dnotin (hu_of hr) (pv 11) (pv 7)))))) (pss_one (ps_ret pe_bl)) pss_nil)
    (pss_cons (ps_set (i := 12) sc_l_is_paper.nd rfl (.inl rfl) (pe_op op_sub (pe_op op_sub (pe_callB call_len_str (by rfl) T.b_len (by decide +kernel) (pa_cons (pv 9) pa_nil)) (pe_callB call_len_str (by rfl) T.b_len (by decide +kernel) (pa_cons (pv 8) pa_nil))) pe_int))
    (pss_cons (ps_par (i := 13) (j := 14) (by rfl) sc_l_is_paper.nd rfl rfl (by decide) rfl rfl (pa_cons (pe_ix ix_tup (pe_dget (hu_of hr) (pv 7) (pv 8) (fun _ _ => rfl)) pe_int (fun _ _ => rfl)) (pa_cons (pe_ix ix_tup (pe_dget (hu_of hr) (pv 7) (pv 8) (fun _ _ => rfl)) pe_int (fun _ _ => rfl)) pa_nil)) (by rfl))
    (pss_cons (ps_set (i := 15) sc_l_is_paper.nd rfl (.inl rfl) (pe_op op_mul (pe_op op_add (pe_op op_mul (pv 13) (pe_ix ix_tup (pv 1) pe_int (fun _ _ => rfl))) (pe_op op_mul (pe_op op_sub (pe_op op_mul (pv 12) (pe_ix ix_tup (pv 1) pe_int (fun _ _ => rfl))) (pe_ix ix_tup (pv 1) pe_int (fun _ _ => rfl))) (pv 14))) (pe_ix ix_tup (pe_dget (hu_of hr) (pv 7) (pv 11) (fun _ _ => rfl)) pe_int (fun _ _ => rfl))))
    (pss_one (ps_if (pt_cmpR op_gt (pv 15) (pe_op op_mul (pe_op op_mul (pe_ix ix_tup (pe_dget (hu_of hr) (pv 7) (pv 11) (fun _ _ => rfl)) pe_int (fun _ _ => rfl)) (pv 14)) (pe_ix ix_tup (pv 1) pe_int (fun _ _ => rfl))) (nomark _)) (pss_one (ps_ret pe_bl)) pss_nil)))))))))))))
    (pss_one (ps_ret pe_bl)))))))), ?_⟩
    obtain ⟨rr, ps, kb, ht, hl, hs, hss⟩ := id htold
    have lss : ss.length = ps.length := by rw [hss, List.length_map]
    have lg := ok.long
    refine ⟨by show 1 ≤ sizeLine; decide, fun p0 np0 => ?_⟩
    have sp0 := same_upd (o := .lst [.int 0]) np0
    have hp0 : upd H p0 (.lst [.int 0]) p0 = some (.lst [.int 0]) := upd_same
    generalize upd H p0 (.lst [.int 0]) = Ha at sp0 hp0 ⊢
    have hta := sp0 _ _ ht
    have hla := sp0 _ _ hl
    refine ⟨_, rfl, t, _, 1, _, rfl, rfl, SqT.of hta, rfl, rr, rfl, ⟨_, SqL.of hla⟩, fun D nD => ?_⟩
    refine lc_it (walk_list (xs := ps.map V.ref)) (fun i H2 => Same Ha H2 ∧ H2 D = some (.lst ((ss.take i).map fun s => V.int ((s.1.length : Nat) : Int)))) ⟨same_upd nD, upd_same⟩ (fun i H2 _ h2 => h2.1.seq (SqL.of hla)) ?_ ?_
    · rintro i x H2 H3 hi ⟨s2, hD⟩ ⟨rfl, hx⟩
      rw [List.getElem?_map] at hx
      obtain ⟨q, hq, rfl⟩ := Option.map_eq_some_iff.mp hx
      have hqm : q ∈ ps := List.mem_of_getElem? hq
      have hsi : ss[i]? = some (kb q) := by rw [hss, List.getElem?_map, hq]; rfl
      rw [List.length_map] at hi
      have hks : (kb q).1.length ≤ 9 := ok.l9 _ (List.mem_of_getElem? hsi)
      refine ⟨q, _, rfl, SqT.of (s2 _ _ (sp0 _ _ (hs q hqm))), rfl, _, _, rfl, _, _, rfl, rfl, rfl, ?_⟩
      refine ⟨_, rfl, _, rfl, by rw [W_len]; exact sl_len (by omega), _, hD, ?_, ?_, ?_⟩
      · rw [List.length_map, List.length_take]; exact sl_lt (by omega)
      · intro c' o e
        rw [upd_ne (ne_of_none e nD)]
        exact s2 _ _ e
      · rw [upd_same, List.take_add_one, hsi, List.map_append, W_len]; rfl
    · rintro H2 ⟨s2, hD⟩
      rw [List.length_map, ← lss, List.take_length] at hD
      refine ⟨p0, D, _, _, rfl, rfl, s2 _ _ hp0, hD, by rw [List.length_map]; show 1 + ss.length ≤ sizeLine; exact sl_len (by omega), fun p1 np1 => ?_⟩
      have s3 := s2.trans (same_upd (o := .lst ([.int 0] ++ ss.map fun s => V.int ((s.1.length : Nat) : Int))) np1)
      refine ⟨p1, (0 : Int) :: ss.map fun s => ((s.1.length : Nat) : Int), rfl, ?_, by rw [List.length_cons]; omega, fun mx hm1 hm2 => ?_⟩
      · refine SqL.of ?_
        rw [upd_same, List.map_cons, List.map_map]
        rfl
      rw [max_long hm1 hm2]
      have sH := sp0.trans s3
      generalize upd H2 p1 (.lst ([.int 0] ++ ss.map fun s => V.int ((s.1.length : Nat) : Int))) = Hb at sH ⊢
      clear hm1 hm2 hD hp0 hta hla sp0 np1 s2 s3
      have hv1 := hv.same sH
      have htold1 := htold.same sH
      have htv1 := same_tup sH htv
      have k1 : ∀ c H', (c = true ↔ ∃ es, r = some es ∧ HoldP ss v0 v1 es) → Same Hb H' → Q (.bl c) H' := fun c H' hc s' => k c H' hc (sH.trans s')
      clear k hv htold htv sH
      cases hv1 with
      | oth h =>
        obtain ⟨t', h1, h2⟩ := h
        refine ⟨_, rfl, _, _, _, _, false, rfl, .ty _, h1 Hb (Same.refl Hb), h2, _, rfl, iteT ?_⟩
        exact k1 false Hb ⟨fun z => (nomatch z), fun ⟨_, z, _⟩ => (nomatch z)⟩ (Same.refl Hb)
      | @tup tp xs rs htp les hE =>
        have htq : SqT K Hb tp xs := htp.sq
        have lrs : xs.length = rs.length := Paired.length hE
        refine ⟨_, rfl, _, _, _, _, true, rfl, .ty _, sq_ty htq, kit_ty (by decide +kernel), _, rfl, iteF ?_⟩
        refine ⟨_, rfl, tp, rfl, ⟨_, htq⟩, fun D2 nD2 => ?_⟩
        refine lc_it (walk_tup (xs := xs)) (fun i H4 => Same Hb H4 ∧ ∃ ls : List V, H4 D2 = some (.lst ls) ∧ ls.length ≤ i ∧ (ls = [] ↔ ∀ j r, j < i → rs[j]? = some r → r.isSome = true)) ⟨same_upd nD2, [], upd_same, Nat.le_refl _, fun _ j r h => absurd h (Nat.not_lt_zero _), fun _ => rfl⟩ (fun i H4 _ h4 => same_tup h4.1 htq) ?_ ?_
        · rintro i y' H4' H4 hi ⟨s4, ls, hL, lls, hls⟩ ⟨rfl, hx⟩
          obtain ⟨ri, hri, hEi⟩ := paired_get hE hx
          refine ⟨rfl, _, rfl, _, rfl, y', longM ss, ri, rfl, hEi.same s4, by omega, fun H5 s5 => ?_⟩
          cases hrs : ri.isSome with
          | true =>
            refine ⟨_, rfl, iteF ?_⟩
            refine ⟨s4.trans s5, ls, s5 _ _ hL, by omega, ?_⟩
            rw [hls]
            refine ⟨fun h j r hj e => ?_, fun h j r hj e => h j r (by omega) e⟩
            by_cases cj : j = i
            · rw [cj, hri] at e
              cases e
              exact hrs
            · exact h j r (by omega) e
          | false =>
            refine ⟨_, rfl, iteT ?_⟩
            refine ⟨_, rfl, ls, s5 _ _ hL, sl_lt (by omega), same_mut' (s4.trans s5) nD2, ls ++ [y'], upd_same, by rw [List.length_append]; show _ + 1 ≤ _; omega, fun z => absurd z (by simp), fun z => ?_⟩
            have := z i ri (by omega) hri
            rw [hrs] at this
            cases this
        rintro H4 ⟨s4, ls, hL, lls, hls⟩
        refine ⟨by show 0 ≤ sizeLine; decide, fun l5 nl5 => ?_⟩
        have sl5 := same_upd (o := .lst []) nl5
        have s5 := s4.trans sl5
        refine ⟨D2, l5, ls, rfl, rfl, SqL.of (sl5 _ _ hL), SqL.of upd_same, _, rfl, ?_⟩
        generalize upd H4 l5 (.lst []) = H5 at s5 ⊢
        clear sl5 hL
        have hall : ls = [] ↔ (allO rs).isSome = true := by
          rw [hls, allO_isSome, List.all_eq_true]
          refine ⟨fun h x hx => ?_, fun h j r hj e => h r (List.mem_of_getElem? e)⟩
          obtain ⟨j, hj⟩ := List.getElem?_of_mem hx
          exact h j x (by rw [lrs]; exact (List.getElem?_eq_some_iff.mp hj).1) hj
        cases hr0 : allO rs with
        | none =>
          refine iteNT (fun z => by rw [hr0] at hall; exact nomatch hall.mp z) ?_
          exact k1 false H5 ⟨fun z => (nomatch z), fun ⟨_, z, _⟩ => by rw [hr0] at z; cases z⟩ s5
        | some es =>
          refine iteNS (hall.mpr (by rw [hr0]; rfl)) ?_
          obtain ⟨ds, rfl, rfl, hds⟩ := ents_some hE hr0
          have k2 : ∀ c H', (c = true ↔ HoldP ss v0 v1 (ds.map d3)) → Same Hb H' → Q (.bl c) H' := fun c H' hc s' => k1 c H' ⟨fun z => ⟨_, hr0, hc.mp z⟩, fun ⟨es, e1, e2⟩ => hc.mpr (by rw [hr0] at e1; cases e1; exact e2)⟩ s'
          have lds : ds.length ≤ 1000 := by rw [List.length_map] at les; exact les
          have htp5 := htp.same s5
          have htq5 := same_tup s5 htq
          refine ⟨_, rfl, tp, ds.map (·.e), ds.map kv5, rfl, by rw [List.map_map]; exact htp5, ?_, fun Dd nDd => ?_⟩
          · have : ∀ l : List D5, (∀ d ∈ l, EntAt K Hb (longM ss) d) → Paired (fun p kv => SqT K H5 p [kV kv.1, kv.2]) (l.map (·.e)) (l.map kv5) := fun l => by
              induction l with
              | nil => intro _; exact .nil
              | cons d r ih => exact fun h => .cons (same_tup s5 (h d List.mem_cons_self).he) (ih fun x hx => h x (List.mem_cons_of_mem _ hx))
            exact this ds hds
          have sd := same_upd (o := .dK (mergeK [] (ds.map kv5))) nDd
          have hD6 : upd H5 Dd (.dK (mergeK [] (ds.map kv5))) Dd = some (.dK (mergeK [] (ds.map kv5))) := upd_same
          have s6 := s5.trans sd
          have nDb := s5.free nDd
          generalize upd H5 Dd (.dK (mergeK [] (ds.map kv5))) = H6 at hD6 s6 ⊢
          refine ⟨_, rfl, Dd, _, rfl, hD6, _, rfl, tp, _, rfl, .inr (same_tup s6 htq), ?_⟩
          refine ⟨rfl, ?_⟩
          by_cases nd : (ds.map (·.w)).Nodup
          rotate_left
          · have hlt := merge_len_lt (ds.map kv5) fun z => nd ((nodup5 ds).mp z)
            rw [List.length_map] at hlt
            refine ⟨_, rfl, iteNT (fun z => by have := V.int.inj z; rw [List.length_map] at this; omega) ?_⟩
            exact k2 false H6 ⟨fun z => (nomatch z), fun z => absurd (by rw [← w_of]; exact z.1) nd⟩ s6
          rw [merge_nodup _ ((nodup5 ds).mpr nd)] at hD6 ⊢
          refine ⟨_, rfl, iteBF (by rw [List.length_map, List.length_map]; simp) ?_⟩
          by_cases h0 : [] ∈ ds.map (·.w)
          rotate_left
          · have g0 : DGet H6 Dd (.str "") none := by
              rw [W_nil]
              exact .inl ⟨_, .inr (W []), .inl hD6, rfl, (val5_out h0).symm⟩
            refine ⟨_, rfl, Dd, _, rfl, g0, _, rfl, iteT ?_⟩
            exact k2 false H6 ⟨fun z => (nomatch z), fun z => absurd (by rw [← w_of]; exact z.2.1) h0⟩ s6
          obtain ⟨d0, hd0, ed0⟩ := List.mem_map.mp h0
          have g0 : DGet H6 Dd (.str "") (some (.ref d0.t)) := by
            rw [W_nil]
            refine .inl ⟨_, .inr (W []), .inl hD6, rfl, ?_⟩
            have := val5_in nd hd0
            rw [ed0] at this
            exact this.symm
          refine ⟨_, rfl, Dd, _, rfl, g0, _, rfl, iteF ?_⟩
          refine ⟨Dd, _, hD6, trivial, fun od => ?_⟩
          have hLD : upd H6 Dd (.frz od (.dK (ds.map kv5))) Dd = some (.frz od (.dK (ds.map kv5))) := upd_same
          have sHL : Same Hb (upd H6 Dd (.frz od (.dK (ds.map kv5)))) := same_mut' s6 nDb
          have hLu : ∀ {H'}, Same (upd H6 Dd (.frz od (.dK (ds.map kv5)))) H' → Same H6 (upd H' Dd (.dK (ds.map kv5))) := fun s => same_unlock s hD6
          generalize upd H6 Dd (.frz od (.dK (ds.map kv5))) = HL at hLD sHL hLu ⊢
          have fin : ∀ c H', (c = true ↔ HoldP ss v0 v1 (ds.map d3)) → Same HL H' → H' Dd = some (.frz od (.dK (ds.map kv5))) ∧ Q (.bl c) (upd H' Dd (.dK (ds.map kv5))) := fun c H' hc s' => ⟨s' _ _ hLD, k2 c _ hc (s6.trans (hLu s'))⟩
          have lkv : (ds.map kv5).length = ds.length := List.length_map _
          have hEL := fun d hd => (hds d hd).same sHL
          have htvL := same_tup sHL htv1
          have htoldL := htold1.same sHL
          refine ⟨_, rfl, Dd, od, rfl, .inl ⟨_, hLD, ?_⟩⟩
          refine for_it (walk_keys (kvs := ds.map kv5)) (fun i σ H7 => ∃ v4 v5 v6 v8 v9 v10 v11 v12 v13 v14 v15 : Option V, σ = [some (.ref t), some (.ref tv), some (.ref tp), some (.int (longM ss : Nat)), v4, v5, v6, some (.ref Dd), v8, v9, v10, v11, v12, v13, v14, v15] ∧ Same HL H7 ∧ ∀ j d, j < i → ds[j]? = some d → ∀ b, KeptB ss v0 v1 (ds.map d3) (d3 d) b) ⟨_, _, _, _, _, _, _, _, _, _, _, rfl, Same.refl HL, fun j d h => absurd h (Nat.not_lt_zero _)⟩ (fun i σ H7 _ h7 => by obtain ⟨_, _, _, _, _, _, _, _, _, _, _, _, s7, _⟩ := h7; exact s7 _ _ hLD) ?_ ?_
          · rintro i x σ H7' H7 hi ⟨v4, v5, v6, v8, v9, v10, v11, v12, v13, v14, v15, rfl, s7, hks⟩ ⟨rfl, kk, vv, hkv, rfl⟩
            rw [List.getElem?_map] at hkv
            obtain ⟨d, hd, ekv⟩ := Option.map_eq_some_iff.mp hkv
            cases ekv
            have hdm := List.mem_of_getElem? hd
            have hEd := hEL d hdm
            have lu := hEd.lw
            refine ⟨by show 2 ≤ sizeLine; decide, fun q2 nq2 => ?_⟩
            have sq2 := same_upd (o := .tup [.str "0", .str "1"]) nq2
            have hq2 : upd H7 q2 (.tup [.str "0", .str "1"]) q2 = some (.tup [.str "0", .str "1"]) := upd_same
            have s8 := s7.trans sq2
            generalize upd H7 q2 (.tup [.str "0", .str "1"]) = H8 at hq2 s8 ⊢
            clear sq2 nq2 s7
            refine ⟨q2, rfl, ⟨_, SqT.of hq2⟩, ?_⟩
            refine for_it (walk_tup (xs := [V.str "0", V.str "1"])) (fun i2 σ H9 => ∃ v4 v5 v6 v9 v10 v11 v12 v13 v14 v15 : Option V, σ = [some (.ref t), some (.ref tv), some (.ref tp), some (.int (longM ss : Nat)), v4, v5, v6, some (.ref Dd), some (.str (W d.w)), v9, v10, v11, v12, v13, v14, v15] ∧ Same H8 H9 ∧ ∀ j, j < i2 → KeptB ss v0 v1 (ds.map d3) (d3 d) (decide (j = 1))) ⟨_, _, _, _, _, _, _, _, _, _, rfl, Same.refl H8, fun j h => absurd h (Nat.not_lt_zero _)⟩ (fun i σ H9 _ h9 => by obtain ⟨_, _, _, _, _, _, _, _, _, _, _, s9, _⟩ := h9; exact SqT.of (s9 _ _ hq2)) ?_ ?_
            · rintro i2 x σ H9' H9 hi2 ⟨v4, v5, v6, v9, v10, v11, v12, v13, v14, v15, rfl, s9, hk2⟩ ⟨rfl, hx2⟩
              obtain ⟨hj2, rfl⟩ := bits_at hx2
              generalize ebb : decide (i2 = 1) = bb
              have ew : W d.w ++ W [bb] = W (d.w ++ [bb]) := W_cat d.w [bb]
              have el : (W d.w).length + (W [bb]).length ≤ sizeLine := by
                rw [W_len, W_len, List.length_cons, List.length_nil]; exact sl_len (by omega)
              have hll : (d.w ++ [bb]).length = d.w.length + 1 := by rw [List.length_append]; rfl
              refine ⟨_, rfl, _, rfl, _, _, rfl, rfl, el, ?_⟩
              rw [ew]
              have s89 := s8.trans s9
              refine ⟨_, rfl, by decide, by decide, for_it walk_range (fun i3 σ H10 => ∃ (y : List Bool) (v10 : Option V), σ = [some (.ref t), some (.ref tv), some (.ref tp), some (.int (longM ss : Nat)), v4, some (.str (W [bb])), v6, some (.ref Dd), some (.str (W d.w)), some (.str (W (d.w ++ [bb] ++ y))), v10, v11, v12, v13, v14, v15] ∧ Same H9 H10 ∧ Trn ss (d.w ++ [bb]) i3 y) ⟨[], _, by rw [List.append_nil]; rfl, Same.refl _, .start⟩ (fun _ _ _ _ _ => trivial) ?_ ?_⟩
              · rintro i3 x σ H10' H10 hi3 ⟨y, v10, rfl, s10, hT⟩ ⟨rfl, rfl⟩
                have hi40 : i3 < 40 := hi3
                have ly := hT.le
                have lly : (d.w ++ [bb] ++ y).length = d.w.length + 1 + y.length := by rw [List.length_append, hll]
                refine ⟨_, rfl, _, rfl, _, rfl, t, fl, _, ss, rfl, htoldL.same (s89.trans s10), by omega, ok.few, fun s hs => Nat.le_trans (ok.l9 s hs) (by decide), fun H11 s11 => ?_⟩
                refine ⟨_, _, rfl, rfl, by rw [W_len, W_len]; have := putL_len ss (d.w ++ [bb] ++ y); exact sl_len (by omega), ?_⟩
                rw [W_cat, List.append_assoc (d.w ++ [bb])]
                exact ⟨_, _, rfl, s10.trans s11, hT.next⟩
              rintro σ H10 ⟨y, v10, rfl, s10, hT⟩
              have hTd := hT.done ok.free l2
              have s810 := s89.trans s10
              have ly : y.length ≤ 40 := hT.le
              have lL : (d.w ++ [bb] ++ y).length = d.w.length + 1 + y.length := by rw [List.length_append, hll]
              have e1 : (W (d.w ++ [bb] ++ y)).length = d.w.length + 1 + y.length := by rw [W_len, lL]
              have l1 : (W (d.w ++ [bb] ++ y)).length ≤ sizeLine := by rw [e1]; exact sl_len (by omega)
              refine ⟨_, rfl, _, rfl, _, rfl, l1, _, rfl, _, _, rfl, rfl, _, _, rfl, _, rfl, _, rfl, l1, ?_⟩
              show gName 11 (.str (Txt.slice (W (d.w ++ [bb] ++ y)) (some (if (((W (d.w ++ [bb] ++ y)).length : Nat) : Int) - (longM ss : Nat) > 0 then (((W (d.w ++ [bb] ++ y)).length : Nat) : Int) - (longM ss : Nat) else 0)) none)) _ _ _
              rw [W_tail]
              have fail : ∀ H', Same HL H' → ¬ KeptB ss v0 v1 (ds.map d3) (d3 d) bb → H' Dd = some (.frz od (.dK (ds.map kv5))) ∧ Q (.bl false) (upd H' Dd (.dK (ds.map kv5))) := fun H' s' hn => fin false H' ⟨fun z => (nomatch z), fun z => absurd (z.2.2 (d3 d) (List.mem_map.mpr ⟨d, hdm, rfl⟩) bb) hn⟩ s'
              refine ⟨_, rfl, _, rfl, t, fl, _, ss, rfl, htoldL.same s810, by omega, ok.few, fun s hs => Nat.le_trans (ok.l9 s hs) (by decide), fun H11 s11 => ⟨rfl, _, rfl, ?_⟩⟩
              have s811 := s810.trans s11
              rcases hTd with ⟨hp0, hI⟩ | ⟨hp0, hno⟩
              rotate_left
              · refine iteNT (fun z => hp0 (W_inj (by rw [← W_nil]; exact V.str.inj z))) ?_
                refine fail H11 s811 ?_
                rintro ⟨y', _, _, hy', _⟩
                exact hno y' hy'
              refine iteNS (congrArg V.str (by rw [hp0, W_nil])) ?_
              have rdL : ∀ {H'}, Same HL H' → Rd H' Dd (.dK (ds.map kv5)) := fun {H'} s' => .inr ⟨od, s' _ _ hLD⟩
              by_cases hin : tl (longM ss) (d.w ++ [bb] ++ y) ∈ ds.map (·.w)
              rotate_left
              · have g1 : DGet H11 Dd (.str (W (tl (longM ss) (d.w ++ [bb] ++ y)))) none := .inl ⟨_, .inr (W _), rdL s811, rfl, (val5_out hin).symm⟩
                refine ⟨_, rfl, _, rfl, Dd, _, rfl, g1, _, rfl, iteT ?_⟩
                exact fail H11 s811 (kept_no hI hin)
              obtain ⟨e, he, ewe⟩ := List.mem_map.mp hin
              have hEe := hEL e he
              have g1 : DGet H11 Dd (.str (W (tl (longM ss) (d.w ++ [bb] ++ y)))) (some (.ref e.t)) := .inl ⟨_, .inr (W (tl (longM ss) (d.w ++ [bb] ++ y))), rdL s811, rfl, by rw [← ewe]; exact (val5_in nd he).symm⟩
              have g2 : DGet H11 Dd (.str (W d.w)) (some (.ref d.t)) := .inl ⟨_, .inr (W d.w), rdL s811, rfl, (val5_in nd hdm).symm⟩
              refine ⟨_, rfl, _, rfl, Dd, _, rfl, g1, _, rfl, iteF ?_⟩
              have z0 := hEd.q0
              have z9 := hEd.q9
              have y0 := hEe.q0
              have y9 := hEe.q9
              have dt := same_tup s811 hEd.ht
              have et := same_tup s811 hEe.ht
              have ht11 := same_tup s811 htvL
              have ld : (W d.w).length ≤ sizeLine := by rw [W_len]; exact sl_len (by omega)
              refine ⟨_, rfl, _, rfl, l1, _, rfl, _, rfl, ld, _, _, rfl, rfl, _, _, rfl, rfl, ?_⟩
              have n1 : (((W (d.w ++ [bb] ++ y)).length : Nat) : Int) - (((W d.w).length : Nat) : Int) - 1 = (y.length : Nat) := by
                rw [e1, W_len]; omega
              show gName 12 (.int ((((W (d.w ++ [bb] ++ y)).length : Nat) : Int) - (((W d.w).length : Nat) : Int) - 1)) _ _ _
              rw [n1]
              refine ⟨_, rfl, _, rfl, Dd, _, rfl, g2, d.t, _, _, _, rfl, rfl, dt, atI_nat (j := 0) rfl, _, rfl, _, rfl, Dd, _, rfl, g2, d.t, _, _, _, rfl, rfl, dt, atI_nat (j := 1) rfl, _, _, rfl, ?_⟩
              refine ⟨_, rfl, _, rfl, tv, _, _, _, rfl, rfl, ht11, atI_nat (j := 1) rfl, _, _, rfl, rfl, .inr ⟨by omega, by omega⟩, ?_⟩
              refine ⟨_, rfl, _, rfl, tv, _, _, _, rfl, rfl, ht11, atI_nat (j := 1) rfl, _, _, rfl, rfl, .inr ⟨by omega, by omega⟩, ?_⟩
              refine ⟨_, rfl, tv, _, _, _, rfl, rfl, ht11, atI_nat (j := 0) rfl, _, _, rfl, rfl, _, rfl, _, _, rfl, rfl, .inr ⟨by omega, by omega⟩, _, _, rfl, rfl, ?_⟩
              refine ⟨_, rfl, _, rfl, Dd, _, rfl, g1, e.t, _, _, _, rfl, rfl, et, atI_nat (j := 1) rfl, _, _, rfl, rfl, .inr ⟨by omega, by omega⟩, ?_⟩
              refine ⟨_, rfl, _, rfl, _, rfl, Dd, _, rfl, g1, e.t, _, _, _, rfl, rfl, et, atI_nat (j := 0) rfl, _, rfl, _, _, rfl, rfl, .inr ⟨by omega, by omega⟩, ?_⟩
              refine ⟨_, rfl, tv, _, _, _, rfl, rfl, ht11, atI_nat (j := 1) rfl, _, _, rfl, rfl, .inr ⟨by omega, by omega⟩, _, _, rfl, rfl, _, rfl, ?_⟩
              have kk := kept_of (v0 := v0) (v1 := v1) nd he hI ewe
              have emul : e.p * d.q * v1 = e.p * (d.q * v1) := Int.mul_assoc _ _ _
              by_cases c : (d.p * v1 + ((y.length : Nat) * v1 - v0) * d.q) * e.q ≤ e.p * (d.q * v1)
              · refine iteDF (by show ¬ e.p * d.q * v1 < (d.p * v1 + ((y.length : Nat) * v1 - v0) * d.q) * e.q; rw [emul]; omega) ?_
                refine ⟨_, _, _, _, _, _, _, _, _, _, rfl, s9.trans (s10.trans s11), fun j hj => ?_⟩
                by_cases cj : j = i2
                · rw [cj, ebb]
                  exact kk.mpr c
                · exact hk2 j (by omega)
              · refine iteDT (by show e.p * d.q * v1 < (d.p * v1 + ((y.length : Nat) * v1 - v0) * d.q) * e.q; rw [emul]; omega) ?_
                exact fail H11 s811 fun z => c (kk.mp z)
            · rintro σ H9 ⟨v4, v5, v6, v9, v10, v11, v12, v13, v14, v15, rfl, s9, hk2⟩
              refine ⟨_, _, _, _, _, _, _, _, _, _, _, rfl, s8.trans s9, fun j e hj he => ?_⟩
              by_cases cj : j = i
              · rw [cj, hd] at he
                cases he
                intro b
                cases b with
                | false => exact hk2 0 (by show 0 < 2; decide)
                | true => exact hk2 1 (by show 1 < 2; decide)
              · exact hks j e (by omega) he
          · rintro σ H7 ⟨v4, v5, v6, v8, v9, v10, v11, v12, v13, v14, v15, rfl, s7, hks⟩
            refine ⟨s7 _ _ hLD, ?_⟩
            refine k2 true _ ⟨fun _ => ⟨by rw [w_of]; exact nd, by rw [w_of]; exact h0, fun e he b => ?_⟩, fun _ => rfl⟩ (s6.trans (hLu s7))
            obtain ⟨d, hd, rfl⟩ := List.mem_map.mp he
            obtain ⟨j, hj⟩ := List.getElem?_of_mem hd
            exact hks j d (by rw [lkv]; exact (List.getElem?_eq_some_iff.mp hj).1) hj b
end
end U
set_option maxRecDepth 100000
set_option maxHeartbeats 4000000
namespace U
open PySem PySem.Spec PyProof.Rows
open L2 hiding Fun CX0 E0 pass0 Fun.binds
open C8 Lx SX StX
theorem call_repr_bool {X : Cx} : CallR X (.builtin "repr") (fun xs H Q => ∃ k, xs = [.bl k] ∧ Q (.str (if k then "True" else "False")) H) := by
  intro pins s σ H xs us Q I r h
  obtain ⟨k, rfl, q⟩ := h
  obtain ⟨u, rfl, rfl⟩ := vals1 r
  exact PySem.P.repr_of_bool ⟨.str _, H, I.tok _, ⟨_, rfl⟩, q⟩
theorem an_nil {H : Hp} : ∀ x ∈ ([] : List V), AnT H x := fun _ h => nomatch h
theorem an_cons {H : Hp} {x : V} {r : List V} (h : AnT H x) (t : ∀ y ∈ r, AnT H y) : ∀ y ∈ x :: r, AnT H y := fun y hy => (List.mem_cons.mp hy).elim (fun e => e ▸ h) (t y)
theorem an_app {H : Hp} {r s : List V} (h : ∀ y ∈ r, AnT H y) (t : ∀ y ∈ s, AnT H y) : ∀ y ∈ r ++ s, AnT H y := fun y hy => (List.mem_append.mp hy).elim (h y) (t y)
def GtL (m : Addr) (H : Hp) (vs : List V) : Prop := ∀ v ∈ vs, AnT H v ∨ v = .ref m
theorem gt_nil {m : Addr} {H : Hp} : GtL m H [] := fun _ h => nomatch h
theorem gt_cons {m : Addr} {H : Hp} {x : V} {r : List V} (h : AnT H x ∨ x = .ref m) (t : GtL m H r) : GtL m H (x :: r) := fun y hy => (List.mem_cons.mp hy).elim (fun e => e ▸ h) (t y)
theorem mkT {H : Hp} {p : Addr} {o : Obj} {xs : List V} (n : H p = none) (d : o.dict = none) (l : xs.length ≤ 1000) (h : ∀ x ∈ xs, AnT H x) : Same H (upd H p (.frz o (.tup xs))) ∧ TpX (upd H p (.frz o (.tup xs))) p xs ∧ AnT (upd H p (.frz o (.tup xs))) (.ref p) := ⟨same_upd n, .new d, tp_new n d l h⟩
theorem mkL {H : Hp} {p : Addr} {xs : List V} (n : H p = none) : Same H (upd H p (.lst xs)) ∧ AnT (upd H p (.lst xs)) (.ref p) := ⟨same_upd n, .ls upd_same⟩
structure LsG (m bx : Addr) (H : Hp) (L : Addr) (vs : List V) : Prop where
  ls : H L = some (.lst vs)
  ne : L ≠ bx
  gt : GtL m H vs
  len : vs.length ≤ 1000
theorem LsG.up {m bx L : Addr} {H H' : Hp} {vs : List V} (h : LsG m bx H L vs) (hb : Box H bx) (u : Up bx H H') : LsG m bx H' L vs := ⟨u.1 _ _ h.ls h.ne, h.ne, fun v hv => (h.gt v hv).imp (fun a => a.lk (LK.up hb u)) id, h.len⟩
theorem LsG.same {m bx L : Addr} {H H' : Hp} {vs : List V} (h : LsG m bx H L vs) (s : Same H H') : LsG m bx H' L vs := ⟨s _ _ h.ls, h.ne, fun v hv => (h.gt v hv).imp (fun a => a.same s) id, h.len⟩
theorem mkG {m bx : Addr} {H : Hp} {p : Addr} {xs : List V} (n : H p = none) (h : GtL m H xs) (hb : Box H bx) (l : xs.length ≤ 1000 := by decide) : Same H (upd H p (.lst xs)) ∧ LsG m bx (upd H p (.lst xs)) p xs :=
  ⟨same_upd n, upd_same, hb.ne n, fun v hv => (h v hv).imp (fun a => a.same (same_upd n)) id, l⟩
theorem catG {m bx L L2 c : Addr} {H : Hp} {vs ws : List V} (h : LsG m bx H L vs) (h2 : LsG m bx H L2 ws) (n : H c = none) (hb : Box H bx) (l : vs.length + ws.length ≤ 1000) : Same H (upd H c (.lst (vs ++ ws))) ∧ LsG m bx (upd H c (.lst (vs ++ ws))) c (vs ++ ws) :=
  ⟨same_upd n, upd_same, hb.ne n, fun v hv => ((List.mem_append.mp hv).elim (h.gt v) (h2.gt v)).imp (fun a => a.same (same_upd n)) id, by rw [List.length_append]; exact l⟩
structure Bn (C bx m t tv ev : Addr) (fl : List Bool) (ss ss0 : List Stf) (v0 v1 : Int) (evs : List V) (H : Hp) : Prop where
  box : Box H bx
  ru : RuAt C H m fl ss
  told : Told H t fl ss0
  val : TpX H tv [.int v0, .int v1]
  tE : TpX H ev evs
  aE : ∀ x ∈ evs, AnT H x
theorem TpX.lk {H H' : Hp} {a : Addr} {xs : List V} (h : TpX H a xs) (s : LK H H') : TpX H' a xs := by
  obtain ⟨o, h1, h2⟩ := h
  exact ⟨o, s.2 _ _ _ h1, h2⟩
theorem Bn.up {C bx m t tv ev : Addr} {fl : List Bool} {ss ss0 : List Stf} {v0 v1 : Int} {evs : List V} {H H' : Hp} (h : Bn C bx m t tv ev fl ss ss0 v0 v1 evs H) (u : Up bx H H') : Bn C bx m t tv ev fl ss ss0 v0 v1 evs H' :=
  ⟨u.2, h.ru.up h.box u, h.told.up h.box u, h.val.lk (LK.up h.box u), h.tE.lk (LK.up h.box u), fun x hx => (h.aE x hx).lk (LK.up h.box u)⟩
theorem Bn.same {C bx m t tv ev : Addr} {fl : List Bool} {ss ss0 : List Stf} {v0 v1 : Int} {evs : List V} {H H' : Hp} (h : Bn C bx m t tv ev fl ss ss0 v0 v1 evs H) (s : Same H H') : Bn C bx m t tv ev fl ss ss0 v0 v1 evs H' := h.up (Up.of_same h.box s)
theorem evslice {K : PySem.W.Frag} {H : Hp} {t : Addr} {xs : List V} {Q : VK} (ht : TpX H t xs) (nx : xs ≠ []) (k : ∀ p H', Same H H' → SqT K H' p (xs.take 1) → Q (.ref p) H') : rSlA K (.ref t) none (some 1) H Q := by
  have l : 0 < xs.length := List.length_pos_iff.mpr nx
  have e : cutV xs none (some 1) = xs.take 1 := by
    have h1 : HT.sIx xs.length xs.length (some (1 : Int)) = 1 := by
      show HT.sIx xs.length xs.length (some ((1 : Nat) : Int)) = 1
      rw [HT.sIx_nat, Nat.min_eq_left l]
    unfold cutV
    rw [HT.sIx_none, h1, List.drop_zero]
  refine ⟨t, xs, rfl, ht.sq, fun h => ?_, fun _ p np => k p _ (same_upd np) (SqT.of (by rw [upd_same, e]))⟩
  have h1 : xs.length = 1 := by
    have : HT.sIx xs.length xs.length (some ((1 : Nat) : Int)) = xs.length := h.2
    rw [HT.sIx_nat, Nat.min_eq_left l] at this
    exact this.symm
  exact k t H (Same.refl H) (by rw [List.take_of_length_le (by omega)]; exact ht.sq)
theorem kept_congr {ss ts : List Stf} (h : ∀ l, putM ss l = putM ts l) (hl : longM ss = longM ts) {v0 v1 : Int} {es : List (List Bool × Int × Int)} {e : List Bool × Int × Int} {b : Bool} (k : KeptB ss v0 v1 es e b) : KeptB ts v0 v1 es e b := by
  obtain ⟨x, P, Q, hx, hm, h9⟩ := k
  exact ⟨x, P, Q, hx.congr h, by rw [← hl]; exact hm, h9⟩
theorem hold_congr {ss ts : List Stf} (h : ∀ l, putM ss l = putM ts l) (hl : longM ss = longM ts) {v0 v1 : Int} {es : List (List Bool × Int × Int)} : HoldP ss v0 v1 es ↔ HoldP ts v0 v1 es :=
  ⟨fun z => ⟨z.1, z.2.1, fun e he b => kept_congr h hl (z.2.2 e he b)⟩, fun z => ⟨z.1, z.2.1, fun e he b => kept_congr (fun l => (h l).symm) hl.symm (z.2.2 e he b)⟩⟩
def wl38 : List V := [.str ""] ++ wdsV (wdsP 1) ++ wdsV (wdsP 2) ++ wdsV (wdsP 3)
def okW : V → Bool
  | .str z => decide (z.length ≤ 3) && scalT (.str z)
  | _ => false
theorem wl_ok : ∀ x ∈ wl38, okW x = true := List.all_eq_true.mp (by decide +kernel)
theorem wl_str {x : V} (h : x ∈ wl38) : ∃ z : Str, x = .str z ∧ z.length ≤ 3 ∧ scalT (.str z) = true := by
  have h2 := wl_ok x h
  clear h
  unfold okW at h2
  split at h2
  · rename_i z
    rw [Bool.and_eq_true, decide_eq_true_iff] at h2
    exact ⟨z, rfl, h2.1, h2.2⟩
  · cases h2
section
variable {P : Program} {w : World} {K : PySem.W.Frag} {mg : Str → Option Value} {base : Heap}
theorem sc_law : FnScope ["_law_script", "_law_k", "_law_box", "_law_turn", "_law_told", "_law_made_here", "_law_value_here", "_law_words_here", "_law_every", "_law_word_here", "_law_some", "_law_thing"] ["_law_script"] (fnScope s_law) := fnScope_by (by decide +kernel)
theorem ok_law {f C dE : Addr} {fd : FuncData} (F : Def K mg "law" s_law f fd) (T : Tx mg) (RT : RuT K C) (hE : ∀ H, SqT K H dE []) (IS_Rule : IsT K C) (kon_rule_tuple : PySem.W.kitOne K (.ref C) (.type "tuple") = some false)
    (c_l_seed : Cal P w K mg base 1 "_law_seed" (spSeed K) []) (c_l_one_of : Cal P w K mg base 2 "_law_one_of" spOneOf []) (c_l_words : Cal P w K mg base 1 "_law_words" spWordsP []) (c_l_rule : Cal P w K mg base 4 "_law_rule" spRule []) (c_l_made : Cal P w K mg base 7 "_law_made" (spMade C) []) (c_l_any : Cal P w K mg base 12 "_law_any" spAnyW []) (c_l_deep : Cal P w K mg base 1 "_law_deep" spDeepT []) (c_l_is_paper : Cal P w K mg base 3 "_law_is_paper" (spLPap K) [])
    (p_longest : Prp P w K mg base 1 C "longest" (spLongest C)) (c_rate_paper_holds : Cal P w K mg base 6 "rate_paper_holds" (spPapX K C) []) (m_Rule1 : Mak P w K mg base 5 "Rule" C (spRuInit K C) [.ref dE]) :
    FnOk P w K mg base CX0 13 f fd ["_law_script"] (spLaw K) := by
  refine fn0 F.fn sc_law (fun vs H Q E h => ?_) (fun cdv A outer s H vs Q E hr h => ?_)
  · obtain ⟨_, _, rfl, _⟩ := h; rfl
  · obtain ⟨a, ns, rfl, hS, hlen, k⟩ := h
    refine ⟨_, (pss_cons (ps_for PassesOwn.never rfl (pi_range1 (by rfl) T.b_range (pa_cons (pe_callB (call_max2 rfl) (by rfl) T.b_max (by decide +kernel) (pa_cons pe_int (pa_cons (pe_callB (call_min2 rfl) (by rfl) T.b_min (by decide +kernel) (pa_cons pe_int (pa_cons (pe_callB call_len_seq (by rfl) T.b_len (by decide +kernel) (pa_cons (pv 0) pa_nil)) pa_nil))) pa_nil))) pa_nil)) (pg_name (i := 1) sc_law.nd rfl (.inl rfl))
    (pss_cons (ps_set (i := 2) sc_law.nd rfl (.inl rfl) (pe_c c_l_seed hr (by decide) rfl (pa_cons (pv 0) (pa_cons (pv 1) pa_nil))))
    (pss_one (ps_for PassesOwn.never rfl (pi_range1 (by rfl) T.b_range (pa_cons pe_int pa_nil)) (pg_name (i := 3) sc_law.nd rfl (.inl rfl))
    (pss_cons (ps_set (i := 4) sc_law.nd rfl (.inl rfl) (pe_c c_l_rule hr (by decide) rfl (pa_cons (pv 2) (pa_cons pe_int (pa_cons pe_int pa_nil)))))
    (pss_cons (ps_asg (pe_tupF (pa_cons (pe_c c_l_made hr (by decide) rfl (pa_cons (pv 4) pa_nil)) (pa_cons (pe_c c_l_one_of hr (by decide) rfl (pa_cons (pv 2) (pa_cons (pe_lst (pa_cons (pe_tupF (pa_cons pe_int (pa_cons pe_int pa_nil))) (pa_cons (pe_tupF (pa_cons pe_int (pa_cons pe_int pa_nil))) (pa_cons (pe_tupF (pa_cons pe_int (pa_cons pe_int pa_nil))) (pa_cons (pe_tupF (pa_cons pe_int (pa_cons pe_int pa_nil))) pa_nil))))) pa_nil))) pa_nil))) (pg_tup rfl (pgs_cons (pg_name (i := 5) sc_law.nd rfl (.inr rfl)) (pgs_cons (pg_name (i := 6) sc_law.nd rfl (.inl rfl)) pgs_nil))))
    (pss_cons (ps_set (i := 7) sc_law.nd rfl (.inl rfl) (pe_op op_cat (pe_op op_cat (pe_op op_cat (pe_lst (pa_cons pe_str pa_nil)) (pe_c c_l_words hr (by decide) rfl (pa_cons pe_int pa_nil))) (pe_c c_l_words hr (by decide) rfl (pa_cons pe_int pa_nil))) (pe_c c_l_words hr (by decide) rfl (pa_cons pe_int pa_nil))))
    (pss_cons (ps_set (i := 8) sc_law.nd rfl (.inl rfl) (pe_callTy call_tupleF (by rfl) T.b_tuple (by decide +kernel) (pa_cons (pe_lc (own := [("_law_word_here", 9)]) (g := gName 9) (by rfl) sc_law.nd (pi_list (pv 7)) (blkOk_by (own := [("_law_word_here", 9)]) (N := ["_law_script", "_law_k", "_law_box", "_law_turn", "_law_told", "_law_made_here", "_law_value_here", "_law_words_here", "_law_every", "_law_word_here", "_law_some", "_law_thing"]) (sc := fnScope s_law) (by decide +kernel)) (fun _ _ _ _ _ => (pg_name (i := 9) sc_law.nd rfl (.inl rfl))) (fun _ _ _ _ _ => (pts_one (pt_cmpR op_le (pe_callB call_len_str (by rfl) T.b_len (by decide +kernel) (pa_cons (pv 9) pa_nil)) (pe_pr p_longest hr (by decide) (pv 5)) (nomark _)))) (fun _ _ _ _ _ => (pe_tupF (pa_cons (pv 9) (pa_cons (pe_tupF (pa_cons pe_int (pa_cons pe_int pa_nil))) pa_nil))))) pa_nil)))
    (pss_cons (ps_set (i := 10) sc_law.nd rfl (.inl rfl) (pe_lst (pa_cons (pe_tupF pa_nil) (pa_cons (pe_tupF (pa_cons (pe_tupF (pa_cons pe_str (pa_cons (pe_tupF (pa_cons pe_int (pa_cons pe_int pa_nil))) pa_nil))) pa_nil)) (pa_cons (pv 8) (pa_cons (pe_op op_catF (pv 8) (pe_slice sl_tupA (pv 8) po_none (po_some pe_int))) pa_nil))))))
    (pss_cons (ps_set (i := 10) sc_law.nd rfl (.inl rfl) (pe_op op_cat (pv 10) (pe_lst (pa_cons (pe_revT0F (pv 8)) (pa_cons (pe_tupF (pa_cons (pe_tupF (pa_cons pe_str (pa_cons pe_int pa_nil))) pa_nil)) pa_nil)))))
    (pss_cons (ps_set (i := 10) sc_law.nd rfl (.inl rfl) (pe_op op_cat (pv 10) (pe_lst (pa_cons (pe_tupF (pa_cons (pe_tupF (pa_cons pe_int (pa_cons (pe_tupF (pa_cons pe_int (pa_cons pe_int pa_nil))) pa_nil))) pa_nil)) (pa_cons (pe_tupF (pa_cons (pe_tupF (pa_cons pe_str (pa_cons (pe_tupF (pa_cons pe_int (pa_cons pe_int pa_nil))) pa_nil))) pa_nil)) (pa_cons (pe_tupF (pa_cons (pe_tupF (pa_cons pe_str (pa_cons (pe_tupF (pa_cons pe_int (pa_cons pe_int pa_nil))) pa_nil))) pa_nil)) pa_nil))))))
    (pss_cons (ps_set (i := 10) sc_law.nd rfl (.inl rfl) (pe_op op_cat (pv 10) (pe_lst (pa_cons (pe_tupF (pa_cons (pe_tupF (pa_cons pe_str (pa_cons (pe_tupF (pa_cons pe_int (pa_cons pe_bl pa_nil))) pa_nil))) pa_nil)) (pa_cons (pe_tupF (pa_cons (pe_tupF (pa_cons pe_str (pa_cons (pe_tupF (pa_cons pe_int (pa_cons pe_int pa_nil))) pa_nil))) pa_nil)) (pa_cons (pe_tupF (pa_cons (pe_tupF (pa_cons pe_str (pa_cons (pe_lst (pa_cons pe_int (pa_cons pe_int pa_nil))) pa_nil))) pa_nil)) pa_nil))))))
    (pss_cons (ps_set (i := 10) sc_law.nd rfl (.inl rfl) (pe_op op_cat (pv 10) (pe_lst (pa_cons (pe_lst (pa_cons (pe_tupF (pa_cons pe_str (pa_cons (pe_tupF (pa_cons pe_int (pa_cons pe_int pa_nil))) pa_nil))) pa_nil)) (pa_cons (pe_tupF (pa_cons (pe_tupF (pa_cons pe_str (pa_cons (pe_tupF (pa_cons pe_int (pa_cons pe_int pa_nil))) (pa_cons pe_int pa_nil)))) pa_nil)) (pa_cons (pe_tupF (pa_cons (pe_tupF (pa_cons pe_str (pa_cons (pe_tupF (pa_cons (pe_op op_sub pe_int pe_int) (pa_cons pe_int pa_nil))) pa_nil))) pa_nil)) pa_nil))))))
    (pss_cons (ps_set (i := 10) sc_law.nd rfl (.inl rfl) (pe_op op_cat (pv 10) (pe_lst (pa_cons (pe_c c_l_any hr (by decide) rfl (pa_cons (pv 2) (pa_cons pe_int pa_nil))) (pa_cons (pe_tupF (pa_cons (pe_c c_l_any hr (by decide) rfl (pa_cons (pv 2) (pa_cons pe_int pa_nil))) pa_nil)) (pa_cons (pe_tupF (pa_cons (pe_tupF (pa_cons pe_str (pa_cons (pe_c c_l_any hr (by decide) rfl (pa_cons (pv 2) (pa_cons pe_int pa_nil))) pa_nil))) pa_nil)) pa_nil))))))
    (pss_cons (ps_set (i := 10) sc_law.nd rfl (.inl rfl) (pe_op op_cat (pv 10) (pe_lst (pa_cons (pe_c0 c_l_deep hr (by decide) rfl) (pa_cons pe_non (pa_cons (pv 5) pa_nil))))))
    (pss_one (ps_for PassesOwn.never rfl (pi_list (pv 10)) (pg_name (i := 11) sc_law.nd rfl (.inl rfl))
    (pss_one (ps_if (pt_cmpR op_ne (pe_callB call_repr_bool (by rfl) T.b_repr (by decide +kernel) (pa_cons (pe_c c_rate_paper_holds hr (by decide) rfl (pa_cons (pv 5) (pa_cons (pv 6) (pa_cons (pv 11) pa_nil)))) pa_nil)) (pe_callB call_repr_bool (by rfl) T.b_repr (by decide +kernel) (pa_cons (pe_c c_l_is_paper hr (by decide) rfl (pa_cons (pv 4) (pa_cons (pv 6) (pa_cons (pv 11) pa_nil)))) pa_nil)) (nomark _)) (pss_one (ps_ret pe_bl)) pss_nil)))))))))))))))))))
    (pss_one (ps_ret (pe_cmpR op_isBl (pe_c c_rate_paper_holds hr (by decide) rfl (pa_cons (pe_mk m_Rule1 hr (by decide) rfl (pa_cons pe_str pa_nil)) (pa_cons (pe_tupF (pa_cons pe_int (pa_cons pe_int pa_nil))) (pa_cons (pe_tupF (pa_cons (pe_tupF (pa_cons pe_str (pa_cons (pe_tupF (pa_cons pe_int (pa_cons pe_int pa_nil))) pa_nil))) pa_nil)) pa_nil)))) pe_bl (nomark _))))), ?_⟩
    refine ⟨_, rfl, a, _, rfl, .inl hS, _, _, rfl, _, _, rfl, _, rfl, by split <;> split <;> omega, by rw [List.length_map]; split <;> split <;> omega, ?_⟩
    refine for_it walk_range (fun i σ H2 => ∃ v1 v2 v3 v4 v5 v6 v7 v8 v9 v10 v11 : Option V, σ = [some (.ref a), v1, v2, v3, v4, v5, v6, v7, v8, v9, v10, v11] ∧ Same H H2) ⟨_, _, _, _, _, _, _, _, _, _, _, rfl, Same.refl _⟩ (fun _ _ _ _ _ => trivial) ?_ ?_
    · rintro i x σ H2' H2 hi ⟨v1, v2, v3, v4, v5, v6, v7, v8, v9, v10, v11, rfl, s2⟩ ⟨rfl, rfl⟩
      refine ⟨_, rfl, _, rfl, a, ns, i, (by show [V.ref a, V.int (0 + (i : Int))] = _; rw [Int.zero_add]), s2.seq hS, fun bx H1 nb s1 hb => ?_⟩
      refine ⟨_, rfl, by decide, by decide, for_it walk_range (fun j σ H3 => ∃ v1 v3 v4 v5 v6 v7 v8 v9 v10 v11 : Option V, σ = [some (.ref a), v1, some (.ref bx), v3, v4, v5, v6, v7, v8, v9, v10, v11] ∧ Up bx H1 H3) ⟨_, _, _, _, _, _, _, _, _, _, rfl, Up.refl hb⟩ (fun _ _ _ _ _ => trivial) ?_ ?_⟩
      · rintro j y σ H3' H3 hj ⟨v1, v3, v4, v5, v6, v7, v8, v9, v10, v11, rfl, u3⟩ ⟨rfl, rfl⟩
        refine ⟨_, rfl, bx, 6, 3, rfl, u3.2, by decide, by decide, by decide, by decide, fun t fl ss0 H4 u4 told f2 f6 ss2 ok0 hO0 hlo => ?_⟩
        refine ⟨_, rfl, t, fl, ss0, rfl, told, ok0, hO0.ok, f2, by omega, fun m ss H5 s5 pm srt hR => ?_⟩
        have ok := ok0.perm pm.symm
        have hput := fun l => put_perm ok.free pm l
        have hlong := longM_perm pm
        have l2 : ss.length ≤ 2 := by rw [pm.length_eq]; exact ss2
        have u5 := u4.same s5
        have told5 := told.same s5
        refine ⟨_, rfl, by show 2 ≤ sizeLine; decide, fun w1 o1 n1 d1 => ⟨by show 2 ≤ sizeLine; decide, fun w2 o2 n2 d2 => ⟨by show 2 ≤ sizeLine; decide, fun w3 o3 n3 d3 => ⟨by show 2 ≤ sizeLine; decide, fun w4 o4 n4 d4 => ?_⟩⟩⟩⟩
        have x1 : TpX (upd H5 w1 (.frz o1 (.tup [.int 0, .int 1]))) w1 [.int 0, .int 1] := .new d1
        have q1 := same_upd (o := .frz o1 (.tup [.int 0, .int 1])) n1
        generalize upd H5 w1 (.frz o1 (.tup [.int 0, .int 1])) = G1 at x1 q1 n2 n3 n4 ⊢
        have x2 : TpX (upd G1 w2 (.frz o2 (.tup [.int 1, .int 2]))) w2 [.int 1, .int 2] := .new d2
        have q2 := same_upd (o := .frz o2 (.tup [.int 1, .int 2])) n2
        generalize upd G1 w2 (.frz o2 (.tup [.int 1, .int 2])) = G2 at x2 q2 n3 n4 ⊢
        have x3 : TpX (upd G2 w3 (.frz o3 (.tup [.int 1, .int 1]))) w3 [.int 1, .int 1] := .new d3
        have q3 := same_upd (o := .frz o3 (.tup [.int 1, .int 1])) n3
        generalize upd G2 w3 (.frz o3 (.tup [.int 1, .int 1])) = G3 at x3 q3 n4 ⊢
        have x4 : TpX (upd G3 w4 (.frz o4 (.tup [.int 4, .int 1]))) w4 [.int 4, .int 1] := .new d4
        have q4 := same_upd (o := .frz o4 (.tup [.int 4, .int 1])) n4
        generalize upd G3 w4 (.frz o4 (.tup [.int 4, .int 1])) = G4 at x4 q4 ⊢
        refine ⟨by show 4 ≤ sizeLine; decide, fun l nl => ?_⟩
        have q5 := same_upd (o := .lst [.ref w1, .ref w2, .ref w3, .ref w4]) nl
        have hl5 : upd G4 l (.lst [.ref w1, .ref w2, .ref w3, .ref w4]) l = some (.lst [.ref w1, .ref w2, .ref w3, .ref w4]) := upd_same
        have s05 : Same H5 _ := (((q1.trans q2).trans q3).trans q4).trans q5
        have bx5 := u5.2
        have bxl := ((bx5.same q1).same ((q2.trans q3).trans q4)).ne nl
        generalize upd G4 l (.lst [.ref w1, .ref w2, .ref w3, .ref w4]) = G5 at q5 hl5 s05 ⊢
        refine ⟨bx, l, _, rfl, bx5.same s05, hl5, bxl, by show 0 < 4; decide, by show 4 < 1000; decide, fun v G6 hv u6 => ?_⟩
        have hval : ∃ (tv : Addr) (qa qb : Int), v = .ref tv ∧ TpX G6 tv [.int qa, .int qb] ∧ 0 < qb ∧ qb < 1000000000 := by
          have lk := LK.up (bx5.same s05) u6
          simp only [List.mem_cons, List.not_mem_nil, or_false] at hv
          rcases hv with rfl | rfl | rfl | rfl
          · exact ⟨_, _, _, rfl, (x1.same (((q2.trans q3).trans q4).trans q5)).lk lk, by decide, by decide⟩
          · exact ⟨_, _, _, rfl, (x2.same ((q3.trans q4).trans q5)).lk lk, by decide, by decide⟩
          · exact ⟨_, _, _, rfl, (x3.same (q4.trans q5)).lk lk, by decide, by decide⟩
          · exact ⟨_, _, _, rfl, (x4.same q5).lk lk, by decide, by decide⟩
        obtain ⟨tv, qa, qb, rfl, hval, qb0, qb9⟩ := hval
        have u16 := (u5.same s05).trans u6
        have hR6 := (hR.same s05).up (bx5.same s05) u6
        have told6 := (told5.same s05).up (bx5.same s05) u6
        refine ⟨by show 2 ≤ sizeLine; decide, fun pw ow nw dw => ?_⟩
        have q7 := same_upd (o := .frz ow (.tup [.ref m, .ref tv])) nw
        have hw7 : TpX (upd G6 pw (.frz ow (.tup [.ref m, .ref tv]))) pw [.ref m, .ref tv] := .new dw
        generalize upd G6 pw (.frz ow (.tup [.ref m, .ref tv])) = H7 at q7 hw7 ⊢
        refine ⟨pw, _, rfl, hw7.sq, rfl, _, _, rfl, _, _, rfl, rfl, ?_⟩
        have u7 := u16.same q7
        have hR7 := hR6.same q7
        have told7 := told6.same q7
        have val7 := hval.same q7
        clear x1 x2 x3 x4 q1 q2 q3 q4 q5 hl5 s05 bxl hv n1 n2 n3 n4 nl d1 d2 d3 d4 hw7 nw dw
        refine ⟨by show 1 ≤ sizeLine; decide, fun y1 m1 => ?_⟩
        have r1 := same_upd (o := .lst [.str ""]) m1
        have z1 : upd H7 y1 (.lst [.str ""]) y1 = some (.lst [.str ""]) := upd_same
        generalize upd H7 y1 (.lst [.str ""]) = K1 at r1 z1 ⊢
        refine ⟨1, rfl, by decide, fun y2 K2 m2 r2 z2 => ?_⟩
        refine ⟨y1, y2, _, _, rfl, rfl, r2 _ _ z1, z2, by decide +kernel, fun y3 m3 => ?_⟩
        have r3 := same_upd (o := .lst ([.str ""] ++ wdsV (wdsP 1))) m3
        have z3 : upd K2 y3 (.lst ([.str ""] ++ wdsV (wdsP 1))) y3 = some (.lst ([.str ""] ++ wdsV (wdsP 1))) := upd_same
        generalize upd K2 y3 (.lst ([.str ""] ++ wdsV (wdsP 1))) = K3 at r3 z3 ⊢
        refine ⟨2, rfl, by decide, fun y4 K4 m4 r4 z4 => ?_⟩
        refine ⟨y3, y4, _, _, rfl, rfl, r4 _ _ z3, z4, by decide +kernel, fun y5 m5 => ?_⟩
        have r5 := same_upd (o := .lst ([.str ""] ++ wdsV (wdsP 1) ++ wdsV (wdsP 2))) m5
        have z5 : upd K4 y5 (.lst ([.str ""] ++ wdsV (wdsP 1) ++ wdsV (wdsP 2))) y5 = some (.lst ([.str ""] ++ wdsV (wdsP 1) ++ wdsV (wdsP 2))) := upd_same
        generalize upd K4 y5 (.lst ([.str ""] ++ wdsV (wdsP 1) ++ wdsV (wdsP 2))) = K5 at r5 z5 ⊢
        refine ⟨3, rfl, by decide, fun y6 K6 m6 r6 z6 => ?_⟩
        refine ⟨y5, y6, _, _, rfl, rfl, r6 _ _ z5, z6, by decide +kernel, fun y7 m7 => ?_⟩
        have r7 := same_upd (o := .lst ([.str ""] ++ wdsV (wdsP 1) ++ wdsV (wdsP 2) ++ wdsV (wdsP 3))) m7
        have z7 : upd K6 y7 (.lst ([.str ""] ++ wdsV (wdsP 1) ++ wdsV (wdsP 2) ++ wdsV (wdsP 3))) y7 = some (.lst wl38) := upd_same
        generalize upd K6 y7 (.lst ([.str ""] ++ wdsV (wdsP 1) ++ wdsV (wdsP 2) ++ wdsV (wdsP 3))) = H8 at r7 z7 ⊢
        have r17 := (((((r1.trans r2).trans r3).trans r4).trans r5).trans r6).trans r7
        clear r1 r2 r3 r4 r5 r6 r7 z1 z2 z3 z4 z5 z6 m1 m2 m3 m4 m5 m6 m7
        have u8 := u7.same r17
        have hR8 := hR7.same r17
        have told8 := told7.same r17
        have val8 := val7.same r17
        clear r17 u7 hR7 told7 val7 u16 hR6 told6 hval told5 u5
        refine ⟨_, rfl, y7, rfl, ⟨_, SqL.of z7⟩, fun D nD => ?_⟩
        refine lc_it (walk_list (xs := wl38)) (fun i H9 => Same H8 H9 ∧ ∃ vs : List V, H9 D = some (.lst vs) ∧ vs.length ≤ i ∧ (∀ v ∈ vs, AnT H9 v) ∧ (0 < i → vs ≠ [])) ⟨same_upd nD, [], upd_same, Nat.le_refl _, an_nil, fun h => absurd h (Nat.not_lt_zero _)⟩ (fun i H9 _ h9 => h9.1.seq (SqL.of z7)) ?_ ?_
        · rintro i9 x H9' H9 hi9 ⟨s9, vs, hD, lvs, av, ne⟩ ⟨rfl, hx⟩
          obtain ⟨z, rfl, lz, sz⟩ := wl_str (List.mem_of_getElem? hx)
          have hi15 : i9 < 15 := hi9
          obtain ⟨d9, t9, _, _, ha9, _⟩ := id (hR8.same s9)
          refine ⟨rfl, _, rfl, _, rfl, sl_len (by omega), _, rfl, m, d9, _, rfl, ha9, m, fl, ss, rfl, hR8.same s9, ok.few, fun s hs => Nat.le_trans (ok.l9 s hs) (by decide), fun H10 s10 => ⟨_, _, rfl, rfl, _, rfl, ?_⟩⟩
          have hD10 := s10 _ _ hD
          have av10 : ∀ v ∈ vs, AnT H10 v := fun v hv => (av v hv).same s10
          by_cases cl : z.length ≤ longM ss
          rotate_left
          · refine iteDF (by omega) ?_
            refine ⟨s9.trans s10, vs, hD10, by omega, av10, fun _ => ?_⟩
            by_cases c0 : 0 < i9
            · exact ne c0
            · have e0 : i9 = 0 := by omega
              subst e0
              have ez : V.str "" = V.str z := Option.some.inj hx
              rw [← V.str.inj ez] at cl
              exact absurd (Nat.zero_le _) cl
          · refine iteDT (by omega) ?_
            refine ⟨_, rfl, by show 2 ≤ sizeLine; decide, fun e1 o1 n1 d1 => ?_⟩
            obtain ⟨q1, _, a1⟩ := mkT (xs := [.int 0, .int 1]) n1 d1 (by show 2 ≤ 1000; decide) (an_cons (.sc rfl) (an_cons (.sc rfl) an_nil))
            generalize upd H10 e1 _ = H11 at q1 a1 ⊢
            refine ⟨by show 2 ≤ sizeLine; decide, fun e2 o2 n2 d2 => ?_⟩
            obtain ⟨q2, _, a2⟩ := mkT (xs := [.str z, .ref e1]) n2 d2 (by show 2 ≤ 1000; decide) (an_cons (.sc sz) (an_cons a1 an_nil))
            generalize upd H11 e2 _ = H12 at q2 a2 ⊢
            have q12 := q1.trans q2
            have hD12 := q12 _ _ hD10
            have lk : LK H12 (upd H12 D (.lst (vs ++ [.ref e2]))) := LK.lst (.inr ⟨_, hD12⟩)
            refine ⟨_, hD12, sl_lt (by omega), same_mut' ((s9.trans s10).trans q12) nD, vs ++ [.ref e2], upd_same, by rw [List.length_append]; show _ + 1 ≤ _; omega, fun v hv => ?_, fun _ => by simp⟩
            rcases List.mem_append.mp hv with hv | hv
            · exact ((av10 v hv).same q12).lk lk
            · rw [List.mem_singleton.mp hv]
              exact a2.lk lk
        · rintro H9 ⟨s9, evs, hD, lvs, av, ne⟩
          have nev : evs ≠ [] := ne (by decide +kernel)
          have lev : evs.length ≤ 15 := lvs
          refine ⟨D, _, rfl, SqL.of hD, fun ev o n d => ?_⟩
          obtain ⟨sE, htE, A⟩ := mkT n d (by omega) av
          have s8E := s9.trans sE
          have B : Bn C bx m t tv ev fl ss ss0 qa qb evs (upd H9 ev (.frz o (.tup evs))) := ⟨u8.2.same s8E, hR8.same s8E, told8.same s8E, val8.same s8E, htE, fun x hx => (av x hx).same sE⟩
          have U := u8.same s8E
          generalize upd H9 ev (.frz o (.tup evs)) = HE at htE A B U ⊢
          clear sE s8E hD ne s9 av nD z7 u8 hR8 told8 val8 o n d
          refine ⟨by show 0 ≤ sizeLine; decide, fun p_1 o_6 n_5 d_7 => ?_⟩
          obtain ⟨s_2, _, a_3⟩ := mkT (xs := []) n_5 d_7 (by show 0 ≤ 1000; decide) an_nil
          generalize upd _ p_1 _ = H_4 at s_2 a_3 ⊢
          replace A := A.same s_2
          replace U := U.same s_2
          replace B := B.same s_2
          refine ⟨by show 2 ≤ sizeLine; decide, fun p_8 o_13 n_12 d_14 => ?_⟩
          obtain ⟨s_9, _, a_10⟩ := mkT (xs := [.int 0, .int 1]) n_12 d_14 (by show 2 ≤ 1000; decide) (an_cons (.sc rfl) (an_cons (.sc rfl) an_nil))
          generalize upd _ p_8 _ = H_11 at s_9 a_10 ⊢
          replace A := A.same s_9
          replace a_3 := a_3.same s_9
          replace U := U.same s_9
          replace B := B.same s_9
          refine ⟨by show 2 ≤ sizeLine; decide, fun p_15 o_20 n_19 d_21 => ?_⟩
          obtain ⟨s_16, _, a_17⟩ := mkT (xs := [.str "", .ref p_8]) n_19 d_21 (by show 2 ≤ 1000; decide) (an_cons (.sc (by decide +kernel)) (an_cons a_10 an_nil))
          generalize upd _ p_15 _ = H_18 at s_16 a_17 ⊢
          replace A := A.same s_16
          replace a_3 := a_3.same s_16
          replace U := U.same s_16
          replace B := B.same s_16
          refine ⟨by show 1 ≤ sizeLine; decide, fun p_22 o_27 n_26 d_28 => ?_⟩
          obtain ⟨s_23, _, a_24⟩ := mkT (xs := [.ref p_15]) n_26 d_28 (by show 1 ≤ 1000; decide) (an_cons a_17 an_nil)
          generalize upd _ p_22 _ = H_25 at s_23 a_24 ⊢
          replace A := A.same s_23
          replace a_3 := a_3.same s_23
          replace U := U.same s_23
          replace B := B.same s_23
          refine ⟨_, rfl, ?_⟩
          refine ⟨_, rfl, _, rfl, _, rfl, evslice B.tE nev fun q_36 H_37 s_38 h_39 => ⟨ev, q_36, _, _, rfl, rfl, (B.same s_38).tE.sq, h_39, fun z => nev (List.take_eq_nil_iff.mp z |>.resolve_left (by decide)), by rw [List.length_take]; exact sl_len (by omega), fun z => absurd z nev, fun _ p_29 o_30 n_31 d_32 => ?_⟩⟩
          replace A := A.same s_38
          replace a_3 := a_3.same s_38
          replace a_24 := a_24.same s_38
          replace U := U.same s_38
          replace B := B.same s_38
          obtain ⟨s_33, _, a_34⟩ := mkT (xs := evs ++ evs.take 1) n_31 d_32 (by rw [List.length_append, List.length_take]; omega) (an_app B.aE fun x hx => B.aE x (List.mem_of_mem_take hx))
          generalize upd _ p_29 _ = H_35 at s_33 a_34 ⊢
          replace A := A.same s_33
          replace a_3 := a_3.same s_33
          replace a_24 := a_24.same s_33
          replace U := U.same s_33
          replace B := B.same s_33
          refine ⟨by show 4 ≤ sizeLine; decide, fun l_40 n_41 => ?_⟩
          obtain ⟨s_42, h_43⟩ := mkG (m := m) (xs := [.ref p_1, .ref p_22, .ref ev, .ref p_29]) n_41 (gt_cons (.inl a_3) (gt_cons (.inl a_24) (gt_cons (.inl A) (gt_cons (.inl a_34) gt_nil)))) B.box (by show 4 ≤ 1000; decide)
          generalize upd _ l_40 _ = H_44 at s_42 h_43 ⊢
          obtain ⟨ys_45, h_43, ln_46⟩ : ∃ ys, LsG m bx H_44 l_40 ys ∧ ys.length ≤ 4 := ⟨_, h_43, by show 4 ≤ 4; decide⟩
          replace A := A.same s_42
          replace U := U.same s_42
          replace B := B.same s_42
          refine ⟨_, rfl, ?_⟩
          refine ⟨_, rfl, ev, _, rfl, B.tE.sq, fun p_47 o_48 n_49 d_50 => ?_⟩
          obtain ⟨s_51, _, a_52⟩ := mkT (xs := evs.reverse) n_49 d_50 (by rw [List.length_reverse]; omega) fun x hx => B.aE x (List.mem_reverse.mp hx)
          generalize upd _ p_47 _ = H_53 at s_51 a_52 ⊢
          replace A := A.same s_51
          replace U := U.same s_51
          replace B := B.same s_51
          replace h_43 := h_43.same s_51
          refine ⟨by show 2 ≤ sizeLine; decide, fun p_54 o_59 n_58 d_60 => ?_⟩
          obtain ⟨s_55, _, a_56⟩ := mkT (xs := [.str "", .int 0]) n_58 d_60 (by show 2 ≤ 1000; decide) (an_cons (.sc (by decide +kernel)) (an_cons (.sc rfl) an_nil))
          generalize upd _ p_54 _ = H_57 at s_55 a_56 ⊢
          replace A := A.same s_55
          replace a_52 := a_52.same s_55
          replace U := U.same s_55
          replace B := B.same s_55
          replace h_43 := h_43.same s_55
          refine ⟨by show 1 ≤ sizeLine; decide, fun p_61 o_66 n_65 d_67 => ?_⟩
          obtain ⟨s_62, _, a_63⟩ := mkT (xs := [.ref p_54]) n_65 d_67 (by show 1 ≤ 1000; decide) (an_cons a_56 an_nil)
          generalize upd _ p_61 _ = H_64 at s_62 a_63 ⊢
          replace A := A.same s_62
          replace a_52 := a_52.same s_62
          replace U := U.same s_62
          replace B := B.same s_62
          replace h_43 := h_43.same s_62
          refine ⟨by show 2 ≤ sizeLine; decide, fun l_68 n_69 => ?_⟩
          obtain ⟨s_70, h_71⟩ := mkG (m := m) (xs := [.ref p_47, .ref p_61]) n_69 (gt_cons (.inl a_52) (gt_cons (.inl a_63) gt_nil)) B.box (by show 2 ≤ 1000; decide)
          generalize upd _ l_68 _ = H_72 at s_70 h_71 ⊢
          obtain ⟨ys_73, h_71, ln_74⟩ : ∃ ys, LsG m bx H_72 l_68 ys ∧ ys.length ≤ 2 := ⟨_, h_71, by show 2 ≤ 2; decide⟩
          replace A := A.same s_70
          replace U := U.same s_70
          replace B := B.same s_70
          replace h_43 := h_43.same s_70
          refine ⟨_, _, _, _, rfl, rfl, h_43.ls, h_71.ls, sl_len (by omega), fun l_75 n_76 => ?_⟩
          obtain ⟨s_77, h_78⟩ := catG h_43 h_71 n_76 B.box (by omega)
          generalize upd _ l_75 _ = H_79 at s_77 h_78 ⊢
          obtain ⟨ys_80, h_78, ln_81⟩ : ∃ ys, LsG m bx H_79 l_75 ys ∧ ys.length ≤ 6 := ⟨_, h_78, by rw [List.length_append]; omega⟩
          replace A := A.same s_77
          replace U := U.same s_77
          replace B := B.same s_77
          clear h_43 h_71 ln_46 ln_74
          refine ⟨_, rfl, ?_⟩
          refine ⟨by show 2 ≤ sizeLine; decide, fun p_82 o_87 n_86 d_88 => ?_⟩
          obtain ⟨s_83, _, a_84⟩ := mkT (xs := [.int 0, .int 1]) n_86 d_88 (by show 2 ≤ 1000; decide) (an_cons (.sc rfl) (an_cons (.sc rfl) an_nil))
          generalize upd _ p_82 _ = H_85 at s_83 a_84 ⊢
          replace A := A.same s_83
          replace U := U.same s_83
          replace B := B.same s_83
          replace h_78 := h_78.same s_83
          refine ⟨by show 2 ≤ sizeLine; decide, fun p_89 o_94 n_93 d_95 => ?_⟩
          obtain ⟨s_90, _, a_91⟩ := mkT (xs := [.int 0, .ref p_82]) n_93 d_95 (by show 2 ≤ 1000; decide) (an_cons (.sc rfl) (an_cons a_84 an_nil))
          generalize upd _ p_89 _ = H_92 at s_90 a_91 ⊢
          replace A := A.same s_90
          replace U := U.same s_90
          replace B := B.same s_90
          replace h_78 := h_78.same s_90
          refine ⟨by show 1 ≤ sizeLine; decide, fun p_96 o_101 n_100 d_102 => ?_⟩
          obtain ⟨s_97, _, a_98⟩ := mkT (xs := [.ref p_89]) n_100 d_102 (by show 1 ≤ 1000; decide) (an_cons a_91 an_nil)
          generalize upd _ p_96 _ = H_99 at s_97 a_98 ⊢
          replace A := A.same s_97
          replace U := U.same s_97
          replace B := B.same s_97
          replace h_78 := h_78.same s_97
          refine ⟨by show 2 ≤ sizeLine; decide, fun p_103 o_108 n_107 d_109 => ?_⟩
          obtain ⟨s_104, _, a_105⟩ := mkT (xs := [.int 0, .int 0]) n_107 d_109 (by show 2 ≤ 1000; decide) (an_cons (.sc rfl) (an_cons (.sc rfl) an_nil))
          generalize upd _ p_103 _ = H_106 at s_104 a_105 ⊢
          replace A := A.same s_104
          replace a_98 := a_98.same s_104
          replace U := U.same s_104
          replace B := B.same s_104
          replace h_78 := h_78.same s_104
          refine ⟨by show 2 ≤ sizeLine; decide, fun p_110 o_115 n_114 d_116 => ?_⟩
          obtain ⟨s_111, _, a_112⟩ := mkT (xs := [.str "", .ref p_103]) n_114 d_116 (by show 2 ≤ 1000; decide) (an_cons (.sc (by decide +kernel)) (an_cons a_105 an_nil))
          generalize upd _ p_110 _ = H_113 at s_111 a_112 ⊢
          replace A := A.same s_111
          replace a_98 := a_98.same s_111
          replace U := U.same s_111
          replace B := B.same s_111
          replace h_78 := h_78.same s_111
          refine ⟨by show 1 ≤ sizeLine; decide, fun p_117 o_122 n_121 d_123 => ?_⟩
          obtain ⟨s_118, _, a_119⟩ := mkT (xs := [.ref p_110]) n_121 d_123 (by show 1 ≤ 1000; decide) (an_cons a_112 an_nil)
          generalize upd _ p_117 _ = H_120 at s_118 a_119 ⊢
          replace A := A.same s_118
          replace a_98 := a_98.same s_118
          replace U := U.same s_118
          replace B := B.same s_118
          replace h_78 := h_78.same s_118
          refine ⟨by show 2 ≤ sizeLine; decide, fun p_124 o_129 n_128 d_130 => ?_⟩
          obtain ⟨s_125, _, a_126⟩ := mkT (xs := [.int 0, .int 1]) n_128 d_130 (by show 2 ≤ 1000; decide) (an_cons (.sc rfl) (an_cons (.sc rfl) an_nil))
          generalize upd _ p_124 _ = H_127 at s_125 a_126 ⊢
          replace A := A.same s_125
          replace a_98 := a_98.same s_125
          replace a_119 := a_119.same s_125
          replace U := U.same s_125
          replace B := B.same s_125
          replace h_78 := h_78.same s_125
          refine ⟨by show 2 ≤ sizeLine; decide, fun p_131 o_136 n_135 d_137 => ?_⟩
          obtain ⟨s_132, _, a_133⟩ := mkT (xs := [.str "2", .ref p_124]) n_135 d_137 (by show 2 ≤ 1000; decide) (an_cons (.sc (by decide +kernel)) (an_cons a_126 an_nil))
          generalize upd _ p_131 _ = H_134 at s_132 a_133 ⊢
          replace A := A.same s_132
          replace a_98 := a_98.same s_132
          replace a_119 := a_119.same s_132
          replace U := U.same s_132
          replace B := B.same s_132
          replace h_78 := h_78.same s_132
          refine ⟨by show 1 ≤ sizeLine; decide, fun p_138 o_143 n_142 d_144 => ?_⟩
          obtain ⟨s_139, _, a_140⟩ := mkT (xs := [.ref p_131]) n_142 d_144 (by show 1 ≤ 1000; decide) (an_cons a_133 an_nil)
          generalize upd _ p_138 _ = H_141 at s_139 a_140 ⊢
          replace A := A.same s_139
          replace a_98 := a_98.same s_139
          replace a_119 := a_119.same s_139
          replace U := U.same s_139
          replace B := B.same s_139
          replace h_78 := h_78.same s_139
          refine ⟨by show 3 ≤ sizeLine; decide, fun l_145 n_146 => ?_⟩
          obtain ⟨s_147, h_148⟩ := mkG (m := m) (xs := [.ref p_96, .ref p_117, .ref p_138]) n_146 (gt_cons (.inl a_98) (gt_cons (.inl a_119) (gt_cons (.inl a_140) gt_nil))) B.box (by show 3 ≤ 1000; decide)
          generalize upd _ l_145 _ = H_149 at s_147 h_148 ⊢
          obtain ⟨ys_150, h_148, ln_151⟩ : ∃ ys, LsG m bx H_149 l_145 ys ∧ ys.length ≤ 3 := ⟨_, h_148, by show 3 ≤ 3; decide⟩
          replace A := A.same s_147
          replace U := U.same s_147
          replace B := B.same s_147
          replace h_78 := h_78.same s_147
          refine ⟨_, _, _, _, rfl, rfl, h_78.ls, h_148.ls, sl_len (by omega), fun l_152 n_153 => ?_⟩
          obtain ⟨s_154, h_155⟩ := catG h_78 h_148 n_153 B.box (by omega)
          generalize upd _ l_152 _ = H_156 at s_154 h_155 ⊢
          obtain ⟨ys_157, h_155, ln_158⟩ : ∃ ys, LsG m bx H_156 l_152 ys ∧ ys.length ≤ 9 := ⟨_, h_155, by rw [List.length_append]; omega⟩
          replace A := A.same s_154
          replace U := U.same s_154
          replace B := B.same s_154
          clear h_78 h_148 ln_81 ln_151
          refine ⟨_, rfl, ?_⟩
          refine ⟨by show 2 ≤ sizeLine; decide, fun p_159 o_164 n_163 d_165 => ?_⟩
          obtain ⟨s_160, _, a_161⟩ := mkT (xs := [.int 0, .bl true]) n_163 d_165 (by show 2 ≤ 1000; decide) (an_cons (.sc rfl) (an_cons (.sc rfl) an_nil))
          generalize upd _ p_159 _ = H_162 at s_160 a_161 ⊢
          replace A := A.same s_160
          replace U := U.same s_160
          replace B := B.same s_160
          replace h_155 := h_155.same s_160
          refine ⟨by show 2 ≤ sizeLine; decide, fun p_166 o_171 n_170 d_172 => ?_⟩
          obtain ⟨s_167, _, a_168⟩ := mkT (xs := [.str "", .ref p_159]) n_170 d_172 (by show 2 ≤ 1000; decide) (an_cons (.sc (by decide +kernel)) (an_cons a_161 an_nil))
          generalize upd _ p_166 _ = H_169 at s_167 a_168 ⊢
          replace A := A.same s_167
          replace U := U.same s_167
          replace B := B.same s_167
          replace h_155 := h_155.same s_167
          refine ⟨by show 1 ≤ sizeLine; decide, fun p_173 o_178 n_177 d_179 => ?_⟩
          obtain ⟨s_174, _, a_175⟩ := mkT (xs := [.ref p_166]) n_177 d_179 (by show 1 ≤ 1000; decide) (an_cons a_168 an_nil)
          generalize upd _ p_173 _ = H_176 at s_174 a_175 ⊢
          replace A := A.same s_174
          replace U := U.same s_174
          replace B := B.same s_174
          replace h_155 := h_155.same s_174
          refine ⟨by show 2 ≤ sizeLine; decide, fun p_180 o_185 n_184 d_186 => ?_⟩
          obtain ⟨s_181, _, a_182⟩ := mkT (xs := [.int 2, .int 2]) n_184 d_186 (by show 2 ≤ 1000; decide) (an_cons (.sc rfl) (an_cons (.sc rfl) an_nil))
          generalize upd _ p_180 _ = H_183 at s_181 a_182 ⊢
          replace A := A.same s_181
          replace a_175 := a_175.same s_181
          replace U := U.same s_181
          replace B := B.same s_181
          replace h_155 := h_155.same s_181
          refine ⟨by show 2 ≤ sizeLine; decide, fun p_187 o_192 n_191 d_193 => ?_⟩
          obtain ⟨s_188, _, a_189⟩ := mkT (xs := [.str "", .ref p_180]) n_191 d_193 (by show 2 ≤ 1000; decide) (an_cons (.sc (by decide +kernel)) (an_cons a_182 an_nil))
          generalize upd _ p_187 _ = H_190 at s_188 a_189 ⊢
          replace A := A.same s_188
          replace a_175 := a_175.same s_188
          replace U := U.same s_188
          replace B := B.same s_188
          replace h_155 := h_155.same s_188
          refine ⟨by show 1 ≤ sizeLine; decide, fun p_194 o_199 n_198 d_200 => ?_⟩
          obtain ⟨s_195, _, a_196⟩ := mkT (xs := [.ref p_187]) n_198 d_200 (by show 1 ≤ 1000; decide) (an_cons a_189 an_nil)
          generalize upd _ p_194 _ = H_197 at s_195 a_196 ⊢
          replace A := A.same s_195
          replace a_175 := a_175.same s_195
          replace U := U.same s_195
          replace B := B.same s_195
          replace h_155 := h_155.same s_195
          refine ⟨by show 2 ≤ sizeLine; decide, fun p_201 n_205 => ?_⟩
          obtain ⟨s_202, a_203⟩ := mkL (xs := [.int 0, .int 1]) n_205
          generalize upd _ p_201 _ = H_204 at s_202 a_203 ⊢
          replace A := A.same s_202
          replace a_175 := a_175.same s_202
          replace a_196 := a_196.same s_202
          replace U := U.same s_202
          replace B := B.same s_202
          replace h_155 := h_155.same s_202
          refine ⟨by show 2 ≤ sizeLine; decide, fun p_206 o_211 n_210 d_212 => ?_⟩
          obtain ⟨s_207, _, a_208⟩ := mkT (xs := [.str "", .ref p_201]) n_210 d_212 (by show 2 ≤ 1000; decide) (an_cons (.sc (by decide +kernel)) (an_cons a_203 an_nil))
          generalize upd _ p_206 _ = H_209 at s_207 a_208 ⊢
          replace A := A.same s_207
          replace a_175 := a_175.same s_207
          replace a_196 := a_196.same s_207
          replace U := U.same s_207
          replace B := B.same s_207
          replace h_155 := h_155.same s_207
          refine ⟨by show 1 ≤ sizeLine; decide, fun p_213 o_218 n_217 d_219 => ?_⟩
          obtain ⟨s_214, _, a_215⟩ := mkT (xs := [.ref p_206]) n_217 d_219 (by show 1 ≤ 1000; decide) (an_cons a_208 an_nil)
          generalize upd _ p_213 _ = H_216 at s_214 a_215 ⊢
          replace A := A.same s_214
          replace a_175 := a_175.same s_214
          replace a_196 := a_196.same s_214
          replace U := U.same s_214
          replace B := B.same s_214
          replace h_155 := h_155.same s_214
          refine ⟨by show 3 ≤ sizeLine; decide, fun l_220 n_221 => ?_⟩
          obtain ⟨s_222, h_223⟩ := mkG (m := m) (xs := [.ref p_173, .ref p_194, .ref p_213]) n_221 (gt_cons (.inl a_175) (gt_cons (.inl a_196) (gt_cons (.inl a_215) gt_nil))) B.box (by show 3 ≤ 1000; decide)
          generalize upd _ l_220 _ = H_224 at s_222 h_223 ⊢
          obtain ⟨ys_225, h_223, ln_226⟩ : ∃ ys, LsG m bx H_224 l_220 ys ∧ ys.length ≤ 3 := ⟨_, h_223, by show 3 ≤ 3; decide⟩
          replace A := A.same s_222
          replace U := U.same s_222
          replace B := B.same s_222
          replace h_155 := h_155.same s_222
          refine ⟨_, _, _, _, rfl, rfl, h_155.ls, h_223.ls, sl_len (by omega), fun l_227 n_228 => ?_⟩
          obtain ⟨s_229, h_230⟩ := catG h_155 h_223 n_228 B.box (by omega)
          generalize upd _ l_227 _ = H_231 at s_229 h_230 ⊢
          obtain ⟨ys_232, h_230, ln_233⟩ : ∃ ys, LsG m bx H_231 l_227 ys ∧ ys.length ≤ 12 := ⟨_, h_230, by rw [List.length_append]; omega⟩
          replace A := A.same s_229
          replace U := U.same s_229
          replace B := B.same s_229
          clear h_155 h_223 ln_158 ln_226
          refine ⟨_, rfl, ?_⟩
          refine ⟨by show 2 ≤ sizeLine; decide, fun p_234 o_239 n_238 d_240 => ?_⟩
          obtain ⟨s_235, _, a_236⟩ := mkT (xs := [.int 0, .int 1]) n_238 d_240 (by show 2 ≤ 1000; decide) (an_cons (.sc rfl) (an_cons (.sc rfl) an_nil))
          generalize upd _ p_234 _ = H_237 at s_235 a_236 ⊢
          replace A := A.same s_235
          replace U := U.same s_235
          replace B := B.same s_235
          replace h_230 := h_230.same s_235
          refine ⟨by show 2 ≤ sizeLine; decide, fun p_241 o_246 n_245 d_247 => ?_⟩
          obtain ⟨s_242, _, a_243⟩ := mkT (xs := [.str "", .ref p_234]) n_245 d_247 (by show 2 ≤ 1000; decide) (an_cons (.sc (by decide +kernel)) (an_cons a_236 an_nil))
          generalize upd _ p_241 _ = H_244 at s_242 a_243 ⊢
          replace A := A.same s_242
          replace U := U.same s_242
          replace B := B.same s_242
          replace h_230 := h_230.same s_242
          refine ⟨by show 1 ≤ sizeLine; decide, fun p_248 n_252 => ?_⟩
          obtain ⟨s_249, a_250⟩ := mkL (xs := [.ref p_241]) n_252
          generalize upd _ p_248 _ = H_251 at s_249 a_250 ⊢
          replace A := A.same s_249
          replace U := U.same s_249
          replace B := B.same s_249
          replace h_230 := h_230.same s_249
          refine ⟨by show 2 ≤ sizeLine; decide, fun p_253 o_258 n_257 d_259 => ?_⟩
          obtain ⟨s_254, _, a_255⟩ := mkT (xs := [.int 0, .int 1]) n_257 d_259 (by show 2 ≤ 1000; decide) (an_cons (.sc rfl) (an_cons (.sc rfl) an_nil))
          generalize upd _ p_253 _ = H_256 at s_254 a_255 ⊢
          replace A := A.same s_254
          replace a_250 := a_250.same s_254
          replace U := U.same s_254
          replace B := B.same s_254
          replace h_230 := h_230.same s_254
          refine ⟨by show 3 ≤ sizeLine; decide, fun p_260 o_265 n_264 d_266 => ?_⟩
          obtain ⟨s_261, _, a_262⟩ := mkT (xs := [.str "", .ref p_253, .int 1]) n_264 d_266 (by show 3 ≤ 1000; decide) (an_cons (.sc (by decide +kernel)) (an_cons a_255 (an_cons (.sc rfl) an_nil)))
          generalize upd _ p_260 _ = H_263 at s_261 a_262 ⊢
          replace A := A.same s_261
          replace a_250 := a_250.same s_261
          replace U := U.same s_261
          replace B := B.same s_261
          replace h_230 := h_230.same s_261
          refine ⟨by show 1 ≤ sizeLine; decide, fun p_267 o_272 n_271 d_273 => ?_⟩
          obtain ⟨s_268, _, a_269⟩ := mkT (xs := [.ref p_260]) n_271 d_273 (by show 1 ≤ 1000; decide) (an_cons a_262 an_nil)
          generalize upd _ p_267 _ = H_270 at s_268 a_269 ⊢
          replace A := A.same s_268
          replace a_250 := a_250.same s_268
          replace U := U.same s_268
          replace B := B.same s_268
          replace h_230 := h_230.same s_268
          refine ⟨_, _, rfl, rfl, ?_⟩
          refine ⟨by show 2 ≤ sizeLine; decide, fun p_274 o_279 n_278 d_280 => ?_⟩
          obtain ⟨s_275, _, a_276⟩ := mkT (xs := [.int (0 - 3), .int 1]) n_278 d_280 (by show 2 ≤ 1000; decide) (an_cons (.sc rfl) (an_cons (.sc rfl) an_nil))
          generalize upd _ p_274 _ = H_277 at s_275 a_276 ⊢
          replace A := A.same s_275
          replace a_250 := a_250.same s_275
          replace a_269 := a_269.same s_275
          replace U := U.same s_275
          replace B := B.same s_275
          replace h_230 := h_230.same s_275
          refine ⟨by show 2 ≤ sizeLine; decide, fun p_281 o_286 n_285 d_287 => ?_⟩
          obtain ⟨s_282, _, a_283⟩ := mkT (xs := [.str "", .ref p_274]) n_285 d_287 (by show 2 ≤ 1000; decide) (an_cons (.sc (by decide +kernel)) (an_cons a_276 an_nil))
          generalize upd _ p_281 _ = H_284 at s_282 a_283 ⊢
          replace A := A.same s_282
          replace a_250 := a_250.same s_282
          replace a_269 := a_269.same s_282
          replace U := U.same s_282
          replace B := B.same s_282
          replace h_230 := h_230.same s_282
          refine ⟨by show 1 ≤ sizeLine; decide, fun p_288 o_293 n_292 d_294 => ?_⟩
          obtain ⟨s_289, _, a_290⟩ := mkT (xs := [.ref p_281]) n_292 d_294 (by show 1 ≤ 1000; decide) (an_cons a_283 an_nil)
          generalize upd _ p_288 _ = H_291 at s_289 a_290 ⊢
          replace A := A.same s_289
          replace a_250 := a_250.same s_289
          replace a_269 := a_269.same s_289
          replace U := U.same s_289
          replace B := B.same s_289
          replace h_230 := h_230.same s_289
          refine ⟨by show 3 ≤ sizeLine; decide, fun l_295 n_296 => ?_⟩
          obtain ⟨s_297, h_298⟩ := mkG (m := m) (xs := [.ref p_248, .ref p_267, .ref p_288]) n_296 (gt_cons (.inl a_250) (gt_cons (.inl a_269) (gt_cons (.inl a_290) gt_nil))) B.box (by show 3 ≤ 1000; decide)
          generalize upd _ l_295 _ = H_299 at s_297 h_298 ⊢
          obtain ⟨ys_300, h_298, ln_301⟩ : ∃ ys, LsG m bx H_299 l_295 ys ∧ ys.length ≤ 3 := ⟨_, h_298, by show 3 ≤ 3; decide⟩
          replace A := A.same s_297
          replace U := U.same s_297
          replace B := B.same s_297
          replace h_230 := h_230.same s_297
          refine ⟨_, _, _, _, rfl, rfl, h_230.ls, h_298.ls, sl_len (by omega), fun l_302 n_303 => ?_⟩
          obtain ⟨s_304, h_305⟩ := catG h_230 h_298 n_303 B.box (by omega)
          generalize upd _ l_302 _ = H_306 at s_304 h_305 ⊢
          obtain ⟨ys_307, h_305, ln_308⟩ : ∃ ys, LsG m bx H_306 l_302 ys ∧ ys.length ≤ 15 := ⟨_, h_305, by rw [List.length_append]; omega⟩
          replace A := A.same s_304
          replace U := U.same s_304
          replace B := B.same s_304
          clear h_230 h_298 ln_233 ln_301
          refine ⟨_, rfl, ?_⟩
          refine ⟨_, rfl, bx, 7, rfl, by decide, B.box, fun v_309 H_310 u_311 a_312 => ?_⟩
          have b_313 := B.box
          replace A := A.lk (LK.up b_313 u_311)
          replace U := U.trans u_311
          replace B := B.up u_311
          replace h_305 := h_305.up b_313 u_311
          refine ⟨_, rfl, bx, 6, rfl, by decide, B.box, fun v_314 H_315 u_316 a_317 => ?_⟩
          have b_318 := B.box
          replace A := A.lk (LK.up b_318 u_316)
          replace a_312 := a_312.lk (LK.up b_318 u_316)
          replace U := U.trans u_316
          replace B := B.up u_316
          replace h_305 := h_305.up b_318 u_316
          refine ⟨by show 1 ≤ sizeLine; decide, fun p_319 o_324 n_323 d_325 => ?_⟩
          obtain ⟨s_320, _, a_321⟩ := mkT (xs := [v_314]) n_323 d_325 (by show 1 ≤ 1000; decide) (an_cons a_317 an_nil)
          generalize upd _ p_319 _ = H_322 at s_320 a_321 ⊢
          replace A := A.same s_320
          replace a_312 := a_312.same s_320
          replace U := U.same s_320
          replace B := B.same s_320
          replace h_305 := h_305.same s_320
          refine ⟨_, rfl, bx, 5, rfl, by decide, B.box, fun v_326 H_327 u_328 a_329 => ?_⟩
          have b_330 := B.box
          replace A := A.lk (LK.up b_330 u_328)
          replace a_312 := a_312.lk (LK.up b_330 u_328)
          replace a_321 := a_321.lk (LK.up b_330 u_328)
          replace U := U.trans u_328
          replace B := B.up u_328
          replace h_305 := h_305.up b_330 u_328
          refine ⟨by show 2 ≤ sizeLine; decide, fun p_331 o_336 n_335 d_337 => ?_⟩
          obtain ⟨s_332, _, a_333⟩ := mkT (xs := [.str "", v_326]) n_335 d_337 (by show 2 ≤ 1000; decide) (an_cons (.sc (by decide +kernel)) (an_cons a_329 an_nil))
          generalize upd _ p_331 _ = H_334 at s_332 a_333 ⊢
          replace A := A.same s_332
          replace a_312 := a_312.same s_332
          replace a_321 := a_321.same s_332
          replace U := U.same s_332
          replace B := B.same s_332
          replace h_305 := h_305.same s_332
          refine ⟨by show 1 ≤ sizeLine; decide, fun p_338 o_343 n_342 d_344 => ?_⟩
          obtain ⟨s_339, _, a_340⟩ := mkT (xs := [.ref p_331]) n_342 d_344 (by show 1 ≤ 1000; decide) (an_cons a_333 an_nil)
          generalize upd _ p_338 _ = H_341 at s_339 a_340 ⊢
          replace A := A.same s_339
          replace a_312 := a_312.same s_339
          replace a_321 := a_321.same s_339
          replace U := U.same s_339
          replace B := B.same s_339
          replace h_305 := h_305.same s_339
          refine ⟨by show 3 ≤ sizeLine; decide, fun l_345 n_346 => ?_⟩
          obtain ⟨s_347, h_348⟩ := mkG (m := m) (xs := [v_309, .ref p_319, .ref p_338]) n_346 (gt_cons (.inl a_312) (gt_cons (.inl a_321) (gt_cons (.inl a_340) gt_nil))) B.box (by show 3 ≤ 1000; decide)
          generalize upd _ l_345 _ = H_349 at s_347 h_348 ⊢
          obtain ⟨ys_350, h_348, ln_351⟩ : ∃ ys, LsG m bx H_349 l_345 ys ∧ ys.length ≤ 3 := ⟨_, h_348, by show 3 ≤ 3; decide⟩
          replace A := A.same s_347
          replace U := U.same s_347
          replace B := B.same s_347
          replace h_305 := h_305.same s_347
          refine ⟨_, _, _, _, rfl, rfl, h_305.ls, h_348.ls, sl_len (by omega), fun l_352 n_353 => ?_⟩
          obtain ⟨s_354, h_355⟩ := catG h_305 h_348 n_353 B.box (by omega)
          generalize upd _ l_352 _ = H_356 at s_354 h_355 ⊢
          obtain ⟨ys_357, h_355, ln_358⟩ : ∃ ys, LsG m bx H_356 l_352 ys ∧ ys.length ≤ 18 := ⟨_, h_355, by rw [List.length_append]; omega⟩
          replace A := A.same s_354
          replace U := U.same s_354
          replace B := B.same s_354
          clear h_305 h_348 ln_308 ln_351
          refine ⟨_, rfl, ?_⟩
          refine ⟨rfl, fun v_359 H_360 s_361 a_362 => ?_⟩
          replace A := A.same s_361
          replace U := U.same s_361
          replace B := B.same s_361
          replace h_355 := h_355.same s_361
          refine ⟨_, rfl, ?_⟩
          refine ⟨by show 3 ≤ sizeLine; decide, fun l_363 n_364 => ?_⟩
          obtain ⟨s_365, h_366⟩ := mkG (m := m) (xs := [v_359, .non, .ref m]) n_364 (gt_cons (.inl a_362) (gt_cons (.inl (.sc rfl)) (gt_cons (.inr rfl) gt_nil))) B.box (by show 3 ≤ 1000; decide)
          generalize upd _ l_363 _ = H_367 at s_365 h_366 ⊢
          obtain ⟨ys_368, h_366, ln_369⟩ : ∃ ys, LsG m bx H_367 l_363 ys ∧ ys.length ≤ 3 := ⟨_, h_366, by show 3 ≤ 3; decide⟩
          replace A := A.same s_365
          replace U := U.same s_365
          replace B := B.same s_365
          replace h_355 := h_355.same s_365
          refine ⟨_, _, _, _, rfl, rfl, h_355.ls, h_366.ls, sl_len (by omega), fun l_370 n_371 => ?_⟩
          obtain ⟨s_372, h_373⟩ := catG h_355 h_366 n_371 B.box (by omega)
          generalize upd _ l_370 _ = H_374 at s_372 h_373 ⊢
          obtain ⟨ys_375, h_373, ln_376⟩ : ∃ ys, LsG m bx H_374 l_370 ys ∧ ys.length ≤ 21 := ⟨_, h_373, by rw [List.length_append]; omega⟩
          replace A := A.same s_372
          replace U := U.same s_372
          replace B := B.same s_372
          clear h_355 h_366 ln_358 ln_369
          have hLs := h_373
          refine ⟨_, rfl, l_370, rfl, ⟨_, SqL.of hLs.ls⟩, ?_⟩
          refine for_it (walk_list (xs := ys_375)) (fun i σ H9 => ∃ v1 v3 v7 v8 v9 v10 v11 : Option V, σ = [some (.ref a), v1, some (.ref bx), v3, some (.ref t), some (.ref m), some (.ref tv), v7, v8, v9, v10, v11] ∧ Same H_374 H9) ⟨_, _, _, _, _, _, _, rfl, Same.refl _⟩ (fun i σ H9 _ h9 => by obtain ⟨v1, v3, v7, v8, v9, v10, v11, rfl, h9⟩ := h9; exact h9.seq (SqL.of hLs.ls)) ?_ ?_
          · rintro i9 x σ H9' H9 hi9 ⟨v1, v3, v7, v8, v9, v10, v11, rfl, s9⟩ ⟨rfl, hx⟩
            have B9 := B.same s9
            have hP : ∃ r, PapR K H9 (longM ss) x r := by
              rcases hLs.gt x (List.mem_of_getElem? hx) with h | rfl
              · exact (h.same s9).pap
              · obtain ⟨d9, t9, _, _, ha9, _⟩ := id B9.ru
                exact ⟨none, .oth ⟨_, fun _ s => IS_Rule.ty (s _ _ ha9), kon_rule_tuple⟩⟩
            obtain ⟨r, hP⟩ := hP
            refine ⟨_, rfl, _, rfl, _, rfl, m, tv, x, fl, ss, qa, qb, r, rfl, B9.ru, ok, l2, B9.val.sq, qb0, qb9, hP, fun c H10 hc s10 => ⟨c, rfl, ?_⟩⟩
            refine ⟨_, rfl, _, rfl, _, rfl, t, tv, x, fl, ss0, qa, qb, r, rfl, (B9.same s10).told, ok0, ss2, (B9.same s10).val.sq, qb0, qb9, hlong ▸ hP.same s10, fun c' H11 hc' s11 => ⟨c', rfl, ?_⟩⟩
            have ec : c = c' := by
              have : c = true ↔ c' = true := hc.trans (Iff.trans ⟨fun ⟨es, e1, e2⟩ => ⟨es, e1, (hold_congr hput hlong).mp e2⟩, fun ⟨es, e1, e2⟩ => ⟨es, e1, (hold_congr hput hlong).mpr e2⟩⟩ hc'.symm)
              cases c <;> cases c' <;> first | rfl | exact absurd (this.mp rfl) (by decide) | exact absurd (this.mpr rfl) (by decide)
            subst ec
            refine ⟨rfl, _, rfl, iteBF (by simp) ?_⟩
            exact ⟨_, _, _, _, _, _, _, rfl, (s9.trans s10).trans s11⟩
          · rintro σ H9 ⟨v1, v3, v7, v8, v9, v10, v11, rfl, s9⟩
            exact ⟨_, _, _, _, _, _, _, _, _, _, rfl, (u3.trans U).same s9⟩
      · rintro σ H3 ⟨v1, v3, v4, v5, v6, v7, v8, v9, v10, v11, rfl, u3⟩
        exact ⟨_, _, _, _, _, _, _, _, _, _, _, rfl, fun c o e => u3.1 _ _ (s1 _ _ (s2 _ _ e)) (ne_of_none e (s2.free nb))⟩
    · rintro σ H2 ⟨v1, v2, v3, v4, v5, v6, v7, v8, v9, v10, v11, rfl, s2⟩
      have e1 : ("00" : Str) = W [false, false] := by decide +kernel
      have okn : StOk [] := ⟨by decide, (fun _ h => nomatch h), by decide, List.Pairwise.nil⟩
      have mk : ∀ {H : Hp} {R : Addr → Hp → Prop}, (∀ x H', Same H H' → RuAt C H' x [false, false] [] → R x H') → ∀ x dx, H x = none → H dx = none → dx ≠ x → spRuInit K C [.ref x, .str "00", .ref dE] (upd (upd H dx (.own x)) x (.ins C dx [])) (fun v H2 => v = .non ∧ R x H2) E := fun {H R} kk x dx nx ndx nex => by
        refine ⟨x, dx, dE, [false, false], [], fun _ => ([], false), (by rw [← e1]), upd_same, .inr (hE _), (fun _ h => nomatch h), okn, okR_nil, by decide, by decide, fun H3 ss3 keep pm srt hR3 => ⟨rfl, ?_⟩⟩
        have es : ss3 = [] := List.Perm.eq_nil pm
        subst es
        exact kk x H3 (fun c o e => keep c o (by rw [upd_ne (ne_of_none e nx), upd_ne (ne_of_none e ndx)]; exact e) (ne_of_none e nx)) hR3
      refine mk fun x1 H3 s3 hR3 => ?_
      refine ⟨by show 2 ≤ sizeLine; decide, fun p1 o1 n1 d1 => ?_⟩
      obtain ⟨q1, t1, _⟩ := mkT (xs := [.int 0, .int 1]) n1 d1 (by show 2 ≤ 1000; decide) (an_cons (.sc rfl) (an_cons (.sc rfl) an_nil))
      generalize upd H3 p1 _ = H4 at q1 t1 ⊢
      refine ⟨by show 2 ≤ sizeLine; decide, fun p2 o2 n2 d2 => ?_⟩
      obtain ⟨q2, t2, a2⟩ := mkT (xs := [.int 0, .int 1]) n2 d2 (by show 2 ≤ 1000; decide) (an_cons (.sc rfl) (an_cons (.sc rfl) an_nil))
      generalize upd H4 p2 _ = H5 at q2 t2 a2 ⊢
      refine ⟨by show 2 ≤ sizeLine; decide, fun p3 o3 n3 d3 => ?_⟩
      obtain ⟨q3, t3, a3⟩ := mkT (xs := [.str "", .ref p2]) n3 d3 (by show 2 ≤ 1000; decide) (an_cons (.sc (by decide +kernel)) (an_cons a2 an_nil))
      generalize upd H5 p3 _ = H6 at q3 t3 a3 ⊢
      refine ⟨by show 1 ≤ sizeLine; decide, fun p4 o4 n4 d4 => ?_⟩
      obtain ⟨q4, t4, _⟩ := mkT (xs := [.ref p3]) n4 d4 (by show 1 ≤ 1000; decide) (an_cons a3 an_nil)
      generalize upd H6 p4 _ = H7 at q4 t4 ⊢
      have hP : PapR K H7 (longM []) (.ref p4) (allO [entO (longM []) (.str "") (if (0 : Int) < 1 ∧ Nat.gcd (0 : Int).natAbs (1 : Int).natAbs = 1 then some (0, 1) else none)]) :=
        .tup t4 (by show 1 ≤ 1000; decide) (.cons (.pair (t3.same q4).sq (anyS_str (by decide +kernel) (by decide +kernel)) (.num (t2.same (q3.trans q4)).sq (by decide))) .nil)
      rw [show allO [entO (longM []) (.str "") (if (0 : Int) < 1 ∧ Nat.gcd (0 : Int).natAbs (1 : Int).natAbs = 1 then some (0, 1) else none)] = some [([], 0, 1)] by decide +kernel] at hP
      refine ⟨x1, p1, .ref p4, _, [], 0, 1, _, rfl, hR3.same (((q1.trans q2).trans q3).trans q4), okn, by decide, (t1.same ((q2.trans q3).trans q4)).sq, by decide, by decide, hP, fun c H8 hc s8 => ?_⟩
      have hh : HoldP [] 0 1 [([], 0, 1)] := ⟨by decide, by decide, fun e he b => by
        rw [List.mem_singleton.mp he]
        exact ⟨[], 0, 1, .stop rfl, by cases b <;> decide, by decide⟩⟩
      have ec : c = true := hc.mpr ⟨_, rfl, hh⟩
      subst ec
      exact ⟨_, _, rfl, rfl, k _⟩
end
end U
set_option maxRecDepth 100000
set_option maxHeartbeats 4000000
namespace U
open PySem PySem.Spec PyProof.Rows
open L2 hiding Fun CX0 E0 pass0 Fun.binds
open C8 Lx
theorem all_mk {l : PySem.W.OpenLaw} {w : World} {K : PySem.W.Frag} {h : Heap} {mg : Str → Option Value} {fa : Addr} (X : K.In h) (G : h.Ns mainGlobals mg) (hfa : mg "law" = some (.ref fa))
    {f_is_integer : Addr} {od_is_integer an_is_integer : Option Addr} {sl_is_integer : Array (Option Value)} {oc_is_integer kV_is_integer dc_is_integer pm_is_integer cd_is_integer ct_is_integer : Value}
    {f_is_sequence : Addr} {od_is_sequence an_is_sequence : Option Addr} {sl_is_sequence : Array (Option Value)} {oc_is_sequence kV_is_sequence dc_is_sequence pm_is_sequence cd_is_sequence ct_is_sequence : Value}
    {f_is_word : Addr} {od_is_word an_is_word : Option Addr} {sl_is_word : Array (Option Value)} {oc_is_word kV_is_word dc_is_word pm_is_word cd_is_word ct_is_word : Value}
    {f_is_bit : Addr} {od_is_bit an_is_bit : Option Addr} {sl_is_bit : Array (Option Value)} {oc_is_bit kV_is_bit dc_is_bit pm_is_bit cd_is_bit ct_is_bit : Value}
    {f_tail : Addr} {od_tail an_tail : Option Addr} {sl_tail : Array (Option Value)} {oc_tail kV_tail dc_tail pm_tail cd_tail ct_tail : Value}
    {f_common : Addr} {od_common an_common : Option Addr} {sl_common : Array (Option Value)} {oc_common kV_common dc_common pm_common cd_common ct_common : Value}
    {f_lowest : Addr} {od_lowest an_lowest : Option Addr} {sl_lowest : Array (Option Value)} {oc_lowest kV_lowest dc_lowest pm_lowest cd_lowest ct_lowest : Value}
    {f_is_value : Addr} {od_is_value an_is_value : Option Addr} {sl_is_value : Array (Option Value)} {oc_is_value kV_is_value dc_is_value pm_is_value cd_is_value ct_is_value : Value}
    {f_move : Addr} {od_move an_move : Option Addr} {sl_move : Array (Option Value)} {oc_move kV_move dc_move pm_move cd_move ct_move : Value}
    {f_is_at_most : Addr} {od_is_at_most an_is_at_most : Option Addr} {sl_is_at_most : Array (Option Value)} {oc_is_at_most kV_is_at_most dc_is_at_most pm_is_at_most cd_is_at_most ct_is_at_most : Value}
    {f_is_entry : Addr} {od_is_entry an_is_entry : Option Addr} {sl_is_entry : Array (Option Value)} {oc_is_entry kV_is_entry dc_is_entry pm_is_entry cd_is_entry ct_is_entry : Value}
    {f_is_kept : Addr} {od_is_kept an_is_kept : Option Addr} {sl_is_kept : Array (Option Value)} {oc_is_kept kV_is_kept dc_is_kept pm_is_kept cd_is_kept ct_is_kept : Value}
    {f_rate_paper_holds : Addr} {od_rate_paper_holds an_rate_paper_holds : Option Addr} {sl_rate_paper_holds : Array (Option Value)} {oc_rate_paper_holds kV_rate_paper_holds dc_rate_paper_holds pm_rate_paper_holds cd_rate_paper_holds ct_rate_paper_holds : Value}
    {f_is_stuff : Addr} {od_is_stuff an_is_stuff : Option Addr} {sl_is_stuff : Array (Option Value)} {oc_is_stuff kV_is_stuff dc_is_stuff pm_is_stuff cd_is_stuff ct_is_stuff : Value}
    {f_are_stuffs : Addr} {od_are_stuffs an_are_stuffs : Option Addr} {sl_are_stuffs : Array (Option Value)} {oc_are_stuffs kV_are_stuffs dc_are_stuffs pm_are_stuffs cd_are_stuffs ct_are_stuffs : Value}
    {f_l_seed : Addr} {od_l_seed an_l_seed : Option Addr} {sl_l_seed : Array (Option Value)} {oc_l_seed kV_l_seed dc_l_seed pm_l_seed cd_l_seed ct_l_seed : Value}
    {f_l_choose : Addr} {od_l_choose an_l_choose : Option Addr} {sl_l_choose : Array (Option Value)} {oc_l_choose kV_l_choose dc_l_choose pm_l_choose cd_l_choose ct_l_choose : Value}
    {f_l_one_of : Addr} {od_l_one_of an_l_one_of : Option Addr} {sl_l_one_of : Array (Option Value)} {oc_l_one_of kV_l_one_of dc_l_one_of pm_l_one_of cd_l_one_of ct_l_one_of : Value}
    {f_l_word : Addr} {od_l_word an_l_word : Option Addr} {sl_l_word : Array (Option Value)} {oc_l_word kV_l_word dc_l_word pm_l_word cd_l_word ct_l_word : Value}
    {f_l_words : Addr} {od_l_words an_l_words : Option Addr} {sl_l_words : Array (Option Value)} {oc_l_words kV_l_words dc_l_words pm_l_words cd_l_words ct_l_words : Value}
    {f_l_put : Addr} {od_l_put an_l_put : Option Addr} {sl_l_put : Array (Option Value)} {oc_l_put kV_l_put dc_l_put pm_l_put cd_l_put ct_l_put : Value}
    {f_l_is_rule : Addr} {od_l_is_rule an_l_is_rule : Option Addr} {sl_l_is_rule : Array (Option Value)} {oc_l_is_rule kV_l_is_rule dc_l_is_rule pm_l_is_rule cd_l_is_rule ct_l_is_rule : Value}
    {f_l_rule : Addr} {od_l_rule an_l_rule : Option Addr} {sl_l_rule : Array (Option Value)} {oc_l_rule kV_l_rule dc_l_rule pm_l_rule cd_l_rule ct_l_rule : Value}
    {f_l_made : Addr} {od_l_made an_l_made : Option Addr} {sl_l_made : Array (Option Value)} {oc_l_made kV_l_made dc_l_made pm_l_made cd_l_made ct_l_made : Value}
    {f_l_deep : Addr} {od_l_deep an_l_deep : Option Addr} {sl_l_deep : Array (Option Value)} {oc_l_deep kV_l_deep dc_l_deep pm_l_deep cd_l_deep ct_l_deep : Value}
    {f_l_leaf : Addr} {od_l_leaf an_l_leaf : Option Addr} {sl_l_leaf : Array (Option Value)} {oc_l_leaf kV_l_leaf dc_l_leaf pm_l_leaf cd_l_leaf ct_l_leaf : Value}
    {f_l_any : Addr} {od_l_any an_l_any : Option Addr} {sl_l_any : Array (Option Value)} {oc_l_any kV_l_any dc_l_any pm_l_any cd_l_any ct_l_any : Value}
    {f_l_is_paper : Addr} {od_l_is_paper an_l_is_paper : Option Addr} {sl_l_is_paper : Array (Option Value)} {oc_l_is_paper kV_l_is_paper dc_l_is_paper pm_l_is_paper cd_l_is_paper ct_l_is_paper : Value}
    {f_l_is_entry : Addr} {od_l_is_entry an_l_is_entry : Option Addr} {sl_l_is_entry : Array (Option Value)} {oc_l_is_entry kV_l_is_entry dc_l_is_entry pm_l_is_entry cd_l_is_entry ct_l_is_entry : Value}
    {f_l_common : Addr} {od_l_common an_l_common : Option Addr} {sl_l_common : Array (Option Value)} {oc_l_common kV_l_common dc_l_common pm_l_common cd_l_common ct_l_common : Value}
    {f_law : Addr} {od_law an_law : Option Addr} {sl_law : Array (Option Value)} {oc_law kV_law dc_law pm_law cd_law ct_law : Value}
    {C_Rule : Addr}
    {f_Rule_init : Addr} {od_Rule_init an_Rule_init : Option Addr} {sl_Rule_init : Array (Option Value)} {oc_Rule_init kV_Rule_init dc_Rule_init pm_Rule_init cd_Rule_init ct_Rule_init : Value}
    {dT_Rule_init : Addr} {dd_Rule_init : Option Addr} {dn_Rule_init : Nat} {ds_Rule_init : Array (Option Value)} {dE_R : Addr} {dde_R : Option Addr} {dne_R : Nat} {dse_R : Array (Option Value)}
    {f_Rule_put : Addr} {od_Rule_put an_Rule_put : Option Addr} {sl_Rule_put : Array (Option Value)} {oc_Rule_put kV_Rule_put dc_Rule_put pm_Rule_put cd_Rule_put ct_Rule_put : Value}
    {f_Rule_longest : Addr} {od_Rule_longest an_Rule_longest : Option Addr} {sl_Rule_longest : Array (Option Value)} {oc_Rule_longest kV_Rule_longest dc_Rule_longest pm_Rule_longest cd_Rule_longest ct_Rule_longest : Value}
    {p_Rule_longest : Addr} {pr_Rule_longest : List Value}
    {f_Rule_put_in : Addr} {od_Rule_put_in an_Rule_put_in : Option Addr} {sl_Rule_put_in : Array (Option Value)} {oc_Rule_put_in kV_Rule_put_in dc_Rule_put_in pm_Rule_put_in cd_Rule_put_in ct_Rule_put_in : Value}
    {f_Rule_is_endless : Addr} {od_Rule_is_endless an_Rule_is_endless : Option Addr} {sl_Rule_is_endless : Array (Option Value)} {oc_Rule_is_endless kV_Rule_is_endless dc_Rule_is_endless pm_Rule_is_endless cd_Rule_is_endless ct_Rule_is_endless : Value}
    {tB : Tok}
    (a_is_integer : PySem.W.nsIn K mainGlobals "is_integer" = some (some (.ref f_is_integer)))
    (l_is_integer : K.lookup f_is_integer = some ⟨oc_is_integer, od_is_integer, .func (PySem.W.fnOf "is_integer" "is_integer" (fnArgs s_is_integer) (fnBody s_is_integer) (fnScope s_is_integer) .none kV_is_integer dc_is_integer pm_is_integer an_is_integer cd_is_integer ct_is_integer), sl_is_integer⟩)
    (c_is_integer : PySem.W.codeIn K cd_is_integer "is_integer" = true)
    (k_is_integer : PySem.W.keepIn K (.ref f_is_integer) = true)
    (a_is_sequence : PySem.W.nsIn K mainGlobals "is_sequence" = some (some (.ref f_is_sequence)))
    (l_is_sequence : K.lookup f_is_sequence = some ⟨oc_is_sequence, od_is_sequence, .func (PySem.W.fnOf "is_sequence" "is_sequence" (fnArgs s_is_sequence) (fnBody s_is_sequence) (fnScope s_is_sequence) .none kV_is_sequence dc_is_sequence pm_is_sequence an_is_sequence cd_is_sequence ct_is_sequence), sl_is_sequence⟩)
    (c_is_sequence : PySem.W.codeIn K cd_is_sequence "is_sequence" = true)
    (k_is_sequence : PySem.W.keepIn K (.ref f_is_sequence) = true)
    (a_is_word : PySem.W.nsIn K mainGlobals "is_word" = some (some (.ref f_is_word)))
    (l_is_word : K.lookup f_is_word = some ⟨oc_is_word, od_is_word, .func (PySem.W.fnOf "is_word" "is_word" (fnArgs s_is_word) (fnBody s_is_word) (fnScope s_is_word) .none kV_is_word dc_is_word pm_is_word an_is_word cd_is_word ct_is_word), sl_is_word⟩)
    (c_is_word : PySem.W.codeIn K cd_is_word "is_word" = true)
    (k_is_word : PySem.W.keepIn K (.ref f_is_word) = true)
    (a_is_bit : PySem.W.nsIn K mainGlobals "is_bit" = some (some (.ref f_is_bit)))
    (l_is_bit : K.lookup f_is_bit = some ⟨oc_is_bit, od_is_bit, .func (PySem.W.fnOf "is_bit" "is_bit" (fnArgs s_is_bit) (fnBody s_is_bit) (fnScope s_is_bit) .none kV_is_bit dc_is_bit pm_is_bit an_is_bit cd_is_bit ct_is_bit), sl_is_bit⟩)
    (c_is_bit : PySem.W.codeIn K cd_is_bit "is_bit" = true)
    (k_is_bit : PySem.W.keepIn K (.ref f_is_bit) = true)
    (a_tail : PySem.W.nsIn K mainGlobals "tail" = some (some (.ref f_tail)))
    (l_tail : K.lookup f_tail = some ⟨oc_tail, od_tail, .func (PySem.W.fnOf "tail" "tail" (fnArgs s_tail) (fnBody s_tail) (fnScope s_tail) .none kV_tail dc_tail pm_tail an_tail cd_tail ct_tail), sl_tail⟩)
    (c_tail : PySem.W.codeIn K cd_tail "tail" = true)
    (k_tail : PySem.W.keepIn K (.ref f_tail) = true)
    (a_common : PySem.W.nsIn K mainGlobals "common" = some (some (.ref f_common)))
    (l_common : K.lookup f_common = some ⟨oc_common, od_common, .func (PySem.W.fnOf "common" "common" (fnArgs s_common) (fnBody s_common) (fnScope s_common) .none kV_common dc_common pm_common an_common cd_common ct_common), sl_common⟩)
    (c_common : PySem.W.codeIn K cd_common "common" = true)
    (k_common : PySem.W.keepIn K (.ref f_common) = true)
    (a_lowest : PySem.W.nsIn K mainGlobals "lowest" = some (some (.ref f_lowest)))
    (l_lowest : K.lookup f_lowest = some ⟨oc_lowest, od_lowest, .func (PySem.W.fnOf "lowest" "lowest" (fnArgs s_lowest) (fnBody s_lowest) (fnScope s_lowest) .none kV_lowest dc_lowest pm_lowest an_lowest cd_lowest ct_lowest), sl_lowest⟩)
    (c_lowest : PySem.W.codeIn K cd_lowest "lowest" = true)
    (k_lowest : PySem.W.keepIn K (.ref f_lowest) = true)
    (a_is_value : PySem.W.nsIn K mainGlobals "is_value" = some (some (.ref f_is_value)))
    (l_is_value : K.lookup f_is_value = some ⟨oc_is_value, od_is_value, .func (PySem.W.fnOf "is_value" "is_value" (fnArgs s_is_value) (fnBody s_is_value) (fnScope s_is_value) .none kV_is_value dc_is_value pm_is_value an_is_value cd_is_value ct_is_value), sl_is_value⟩)
    (c_is_value : PySem.W.codeIn K cd_is_value "is_value" = true)
    (k_is_value : PySem.W.keepIn K (.ref f_is_value) = true)
    (a_move : PySem.W.nsIn K mainGlobals "move" = some (some (.ref f_move)))
    (l_move : K.lookup f_move = some ⟨oc_move, od_move, .func (PySem.W.fnOf "move" "move" (fnArgs s_move) (fnBody s_move) (fnScope s_move) .none kV_move dc_move pm_move an_move cd_move ct_move), sl_move⟩)
    (c_move : PySem.W.codeIn K cd_move "move" = true)
    (k_move : PySem.W.keepIn K (.ref f_move) = true)
    (a_is_at_most : PySem.W.nsIn K mainGlobals "is_at_most" = some (some (.ref f_is_at_most)))
    (l_is_at_most : K.lookup f_is_at_most = some ⟨oc_is_at_most, od_is_at_most, .func (PySem.W.fnOf "is_at_most" "is_at_most" (fnArgs s_is_at_most) (fnBody s_is_at_most) (fnScope s_is_at_most) .none kV_is_at_most dc_is_at_most pm_is_at_most an_is_at_most cd_is_at_most ct_is_at_most), sl_is_at_most⟩)
    (c_is_at_most : PySem.W.codeIn K cd_is_at_most "is_at_most" = true)
    (k_is_at_most : PySem.W.keepIn K (.ref f_is_at_most) = true)
    (a_is_entry : PySem.W.nsIn K mainGlobals "is_entry" = some (some (.ref f_is_entry)))
    (l_is_entry : K.lookup f_is_entry = some ⟨oc_is_entry, od_is_entry, .func (PySem.W.fnOf "is_entry" "is_entry" (fnArgs s_is_entry) (fnBody s_is_entry) (fnScope s_is_entry) .none kV_is_entry dc_is_entry pm_is_entry an_is_entry cd_is_entry ct_is_entry), sl_is_entry⟩)
    (c_is_entry : PySem.W.codeIn K cd_is_entry "is_entry" = true)
    (k_is_entry : PySem.W.keepIn K (.ref f_is_entry) = true)
    (a_is_kept : PySem.W.nsIn K mainGlobals "is_kept" = some (some (.ref f_is_kept)))
    (l_is_kept : K.lookup f_is_kept = some ⟨oc_is_kept, od_is_kept, .func (PySem.W.fnOf "is_kept" "is_kept" (fnArgs s_is_kept) (fnBody s_is_kept) (fnScope s_is_kept) .none kV_is_kept dc_is_kept pm_is_kept an_is_kept cd_is_kept ct_is_kept), sl_is_kept⟩)
    (c_is_kept : PySem.W.codeIn K cd_is_kept "is_kept" = true)
    (k_is_kept : PySem.W.keepIn K (.ref f_is_kept) = true)
    (a_rate_paper_holds : PySem.W.nsIn K mainGlobals "rate_paper_holds" = some (some (.ref f_rate_paper_holds)))
    (l_rate_paper_holds : K.lookup f_rate_paper_holds = some ⟨oc_rate_paper_holds, od_rate_paper_holds, .func (PySem.W.fnOf "rate_paper_holds" "rate_paper_holds" (fnArgs s_rate_paper_holds) (fnBody s_rate_paper_holds) (fnScope s_rate_paper_holds) .none kV_rate_paper_holds dc_rate_paper_holds pm_rate_paper_holds an_rate_paper_holds cd_rate_paper_holds ct_rate_paper_holds), sl_rate_paper_holds⟩)
    (c_rate_paper_holds : PySem.W.codeIn K cd_rate_paper_holds "rate_paper_holds" = true)
    (k_rate_paper_holds : PySem.W.keepIn K (.ref f_rate_paper_holds) = true)
    (a_is_stuff : PySem.W.nsIn K mainGlobals "is_stuff" = some (some (.ref f_is_stuff)))
    (l_is_stuff : K.lookup f_is_stuff = some ⟨oc_is_stuff, od_is_stuff, .func (PySem.W.fnOf "is_stuff" "is_stuff" (fnArgs s_is_stuff) (fnBody s_is_stuff) (fnScope s_is_stuff) .none kV_is_stuff dc_is_stuff pm_is_stuff an_is_stuff cd_is_stuff ct_is_stuff), sl_is_stuff⟩)
    (c_is_stuff : PySem.W.codeIn K cd_is_stuff "is_stuff" = true)
    (k_is_stuff : PySem.W.keepIn K (.ref f_is_stuff) = true)
    (a_are_stuffs : PySem.W.nsIn K mainGlobals "are_stuffs" = some (some (.ref f_are_stuffs)))
    (l_are_stuffs : K.lookup f_are_stuffs = some ⟨oc_are_stuffs, od_are_stuffs, .func (PySem.W.fnOf "are_stuffs" "are_stuffs" (fnArgs s_are_stuffs) (fnBody s_are_stuffs) (fnScope s_are_stuffs) .none kV_are_stuffs dc_are_stuffs pm_are_stuffs an_are_stuffs cd_are_stuffs ct_are_stuffs), sl_are_stuffs⟩)
    (c_are_stuffs : PySem.W.codeIn K cd_are_stuffs "are_stuffs" = true)
    (k_are_stuffs : PySem.W.keepIn K (.ref f_are_stuffs) = true)
    (a_l_seed : PySem.W.nsIn K mainGlobals "_law_seed" = some (some (.ref f_l_seed)))
    (l_l_seed : K.lookup f_l_seed = some ⟨oc_l_seed, od_l_seed, .func (PySem.W.fnOf "_law_seed" "_law_seed" (fnArgs s_l_seed) (fnBody s_l_seed) (fnScope s_l_seed) .none kV_l_seed dc_l_seed pm_l_seed an_l_seed cd_l_seed ct_l_seed), sl_l_seed⟩)
    (c_l_seed : PySem.W.codeIn K cd_l_seed "_law_seed" = true)
    (k_l_seed : PySem.W.keepIn K (.ref f_l_seed) = true)
    (a_l_choose : PySem.W.nsIn K mainGlobals "_law_choose" = some (some (.ref f_l_choose)))
    (l_l_choose : K.lookup f_l_choose = some ⟨oc_l_choose, od_l_choose, .func (PySem.W.fnOf "_law_choose" "_law_choose" (fnArgs s_l_choose) (fnBody s_l_choose) (fnScope s_l_choose) .none kV_l_choose dc_l_choose pm_l_choose an_l_choose cd_l_choose ct_l_choose), sl_l_choose⟩)
    (c_l_choose : PySem.W.codeIn K cd_l_choose "_law_choose" = true)
    (k_l_choose : PySem.W.keepIn K (.ref f_l_choose) = true)
    (a_l_one_of : PySem.W.nsIn K mainGlobals "_law_one_of" = some (some (.ref f_l_one_of)))
    (l_l_one_of : K.lookup f_l_one_of = some ⟨oc_l_one_of, od_l_one_of, .func (PySem.W.fnOf "_law_one_of" "_law_one_of" (fnArgs s_l_one_of) (fnBody s_l_one_of) (fnScope s_l_one_of) .none kV_l_one_of dc_l_one_of pm_l_one_of an_l_one_of cd_l_one_of ct_l_one_of), sl_l_one_of⟩)
    (c_l_one_of : PySem.W.codeIn K cd_l_one_of "_law_one_of" = true)
    (k_l_one_of : PySem.W.keepIn K (.ref f_l_one_of) = true)
    (a_l_word : PySem.W.nsIn K mainGlobals "_law_word" = some (some (.ref f_l_word)))
    (l_l_word : K.lookup f_l_word = some ⟨oc_l_word, od_l_word, .func (PySem.W.fnOf "_law_word" "_law_word" (fnArgs s_l_word) (fnBody s_l_word) (fnScope s_l_word) .none kV_l_word dc_l_word pm_l_word an_l_word cd_l_word ct_l_word), sl_l_word⟩)
    (c_l_word : PySem.W.codeIn K cd_l_word "_law_word" = true)
    (k_l_word : PySem.W.keepIn K (.ref f_l_word) = true)
    (a_l_words : PySem.W.nsIn K mainGlobals "_law_words" = some (some (.ref f_l_words)))
    (l_l_words : K.lookup f_l_words = some ⟨oc_l_words, od_l_words, .func (PySem.W.fnOf "_law_words" "_law_words" (fnArgs s_l_words) (fnBody s_l_words) (fnScope s_l_words) .none kV_l_words dc_l_words pm_l_words an_l_words cd_l_words ct_l_words), sl_l_words⟩)
    (c_l_words : PySem.W.codeIn K cd_l_words "_law_words" = true)
    (k_l_words : PySem.W.keepIn K (.ref f_l_words) = true)
    (a_l_put : PySem.W.nsIn K mainGlobals "_law_put" = some (some (.ref f_l_put)))
    (l_l_put : K.lookup f_l_put = some ⟨oc_l_put, od_l_put, .func (PySem.W.fnOf "_law_put" "_law_put" (fnArgs s_l_put) (fnBody s_l_put) (fnScope s_l_put) .none kV_l_put dc_l_put pm_l_put an_l_put cd_l_put ct_l_put), sl_l_put⟩)
    (c_l_put : PySem.W.codeIn K cd_l_put "_law_put" = true)
    (k_l_put : PySem.W.keepIn K (.ref f_l_put) = true)
    (a_l_is_rule : PySem.W.nsIn K mainGlobals "_law_is_rule" = some (some (.ref f_l_is_rule)))
    (l_l_is_rule : K.lookup f_l_is_rule = some ⟨oc_l_is_rule, od_l_is_rule, .func (PySem.W.fnOf "_law_is_rule" "_law_is_rule" (fnArgs s_l_is_rule) (fnBody s_l_is_rule) (fnScope s_l_is_rule) .none kV_l_is_rule dc_l_is_rule pm_l_is_rule an_l_is_rule cd_l_is_rule ct_l_is_rule), sl_l_is_rule⟩)
    (c_l_is_rule : PySem.W.codeIn K cd_l_is_rule "_law_is_rule" = true)
    (k_l_is_rule : PySem.W.keepIn K (.ref f_l_is_rule) = true)
    (a_l_rule : PySem.W.nsIn K mainGlobals "_law_rule" = some (some (.ref f_l_rule)))
    (l_l_rule : K.lookup f_l_rule = some ⟨oc_l_rule, od_l_rule, .func (PySem.W.fnOf "_law_rule" "_law_rule" (fnArgs s_l_rule) (fnBody s_l_rule) (fnScope s_l_rule) .none kV_l_rule dc_l_rule pm_l_rule an_l_rule cd_l_rule ct_l_rule), sl_l_rule⟩)
    (c_l_rule : PySem.W.codeIn K cd_l_rule "_law_rule" = true)
    (k_l_rule : PySem.W.keepIn K (.ref f_l_rule) = true)
    (a_l_made : PySem.W.nsIn K mainGlobals "_law_made" = some (some (.ref f_l_made)))
    (l_l_made : K.lookup f_l_made = some ⟨oc_l_made, od_l_made, .func (PySem.W.fnOf "_law_made" "_law_made" (fnArgs s_l_made) (fnBody s_l_made) (fnScope s_l_made) .none kV_l_made dc_l_made pm_l_made an_l_made cd_l_made ct_l_made), sl_l_made⟩)
    (c_l_made : PySem.W.codeIn K cd_l_made "_law_made" = true)
    (k_l_made : PySem.W.keepIn K (.ref f_l_made) = true)
    (a_l_deep : PySem.W.nsIn K mainGlobals "_law_deep" = some (some (.ref f_l_deep)))
    (l_l_deep : K.lookup f_l_deep = some ⟨oc_l_deep, od_l_deep, .func (PySem.W.fnOf "_law_deep" "_law_deep" (fnArgs s_l_deep) (fnBody s_l_deep) (fnScope s_l_deep) .none kV_l_deep dc_l_deep pm_l_deep an_l_deep cd_l_deep ct_l_deep), sl_l_deep⟩)
    (c_l_deep : PySem.W.codeIn K cd_l_deep "_law_deep" = true)
    (k_l_deep : PySem.W.keepIn K (.ref f_l_deep) = true)
    (a_l_leaf : PySem.W.nsIn K mainGlobals "_law_leaf" = some (some (.ref f_l_leaf)))
    (l_l_leaf : K.lookup f_l_leaf = some ⟨oc_l_leaf, od_l_leaf, .func (PySem.W.fnOf "_law_leaf" "_law_leaf" (fnArgs s_l_leaf) (fnBody s_l_leaf) (fnScope s_l_leaf) .none kV_l_leaf dc_l_leaf pm_l_leaf an_l_leaf cd_l_leaf ct_l_leaf), sl_l_leaf⟩)
    (c_l_leaf : PySem.W.codeIn K cd_l_leaf "_law_leaf" = true)
    (k_l_leaf : PySem.W.keepIn K (.ref f_l_leaf) = true)
    (a_l_any : PySem.W.nsIn K mainGlobals "_law_any" = some (some (.ref f_l_any)))
    (l_l_any : K.lookup f_l_any = some ⟨oc_l_any, od_l_any, .func (PySem.W.fnOf "_law_any" "_law_any" (fnArgs s_l_any) (fnBody s_l_any) (fnScope s_l_any) .none kV_l_any dc_l_any pm_l_any an_l_any cd_l_any ct_l_any), sl_l_any⟩)
    (c_l_any : PySem.W.codeIn K cd_l_any "_law_any" = true)
    (k_l_any : PySem.W.keepIn K (.ref f_l_any) = true)
    (a_l_is_paper : PySem.W.nsIn K mainGlobals "_law_is_paper" = some (some (.ref f_l_is_paper)))
    (l_l_is_paper : K.lookup f_l_is_paper = some ⟨oc_l_is_paper, od_l_is_paper, .func (PySem.W.fnOf "_law_is_paper" "_law_is_paper" (fnArgs s_l_is_paper) (fnBody s_l_is_paper) (fnScope s_l_is_paper) .none kV_l_is_paper dc_l_is_paper pm_l_is_paper an_l_is_paper cd_l_is_paper ct_l_is_paper), sl_l_is_paper⟩)
    (c_l_is_paper : PySem.W.codeIn K cd_l_is_paper "_law_is_paper" = true)
    (k_l_is_paper : PySem.W.keepIn K (.ref f_l_is_paper) = true)
    (a_l_is_entry : PySem.W.nsIn K mainGlobals "_law_is_entry" = some (some (.ref f_l_is_entry)))
    (l_l_is_entry : K.lookup f_l_is_entry = some ⟨oc_l_is_entry, od_l_is_entry, .func (PySem.W.fnOf "_law_is_entry" "_law_is_entry" (fnArgs s_l_is_entry) (fnBody s_l_is_entry) (fnScope s_l_is_entry) .none kV_l_is_entry dc_l_is_entry pm_l_is_entry an_l_is_entry cd_l_is_entry ct_l_is_entry), sl_l_is_entry⟩)
    (c_l_is_entry : PySem.W.codeIn K cd_l_is_entry "_law_is_entry" = true)
    (k_l_is_entry : PySem.W.keepIn K (.ref f_l_is_entry) = true)
    (a_l_common : PySem.W.nsIn K mainGlobals "_law_common" = some (some (.ref f_l_common)))
    (l_l_common : K.lookup f_l_common = some ⟨oc_l_common, od_l_common, .func (PySem.W.fnOf "_law_common" "_law_common" (fnArgs s_l_common) (fnBody s_l_common) (fnScope s_l_common) .none kV_l_common dc_l_common pm_l_common an_l_common cd_l_common ct_l_common), sl_l_common⟩)
    (c_l_common : PySem.W.codeIn K cd_l_common "_law_common" = true)
    (k_l_common : PySem.W.keepIn K (.ref f_l_common) = true)
    (a_law : PySem.W.nsIn K mainGlobals "law" = some (some (.ref f_law)))
    (l_law : K.lookup f_law = some ⟨oc_law, od_law, .func (PySem.W.fnOf "law" "law" (fnArgs s_law) (fnBody s_law) (fnScope s_law) .none kV_law dc_law pm_law an_law cd_law ct_law), sl_law⟩)
    (c_law : PySem.W.codeIn K cd_law "law" = true)
    (k_law : PySem.W.keepIn K (.ref f_law) = true)
    (aC_Rule : PySem.W.nsIn K mainGlobals "Rule" = some (some (.ref C_Rule)))
    (pg_Rule : PySem.W.plainGet K C_Rule Str.empty = true)
    (hd_Rule : PySem.W.hasDictIn K C_Rule = true)
    (po_Rule : PySem.W.plainOver K C_Rule = true)
    (sa_Rule : PySem.W.findIn K (.ref C_Rule) "__setattr__" = some (some (.builtin "object.__setattr__")))
    (mk_Rule : PySem.W.makesIn K C_Rule = true)
    (kc_Rule : PySem.W.keepIn K (.ref C_Rule) = true)
    (n_Rule_flag : PySem.W.findIn K (.ref C_Rule) "flag" = some none)
    (n_Rule_stuffs : PySem.W.findIn K (.ref C_Rule) "stuffs" = some none)
    (a_Rule_init : PySem.W.findIn K (.ref C_Rule) "__init__" = some (some (.ref f_Rule_init)))
    (i_Rule_init : PySem.W.isFn K (.ref f_Rule_init) = true)
    (l_Rule_init : K.lookup f_Rule_init = some ⟨oc_Rule_init, od_Rule_init, .func (PySem.W.fnOf "__init__" "Rule.__init__" (fnArgs s_Rule_init) (fnBody s_Rule_init) (fnScope s_Rule_init) (.ref dT_Rule_init) kV_Rule_init dc_Rule_init pm_Rule_init an_Rule_init cd_Rule_init ct_Rule_init), sl_Rule_init⟩)
    (c_Rule_init : PySem.W.codeIn K cd_Rule_init "Rule.__init__" = true)
    (k_Rule_init : PySem.W.keepIn K (.ref f_Rule_init) = true)
    (dl_Rule_init : K.lookup dT_Rule_init = some ⟨.type "tuple", dd_Rule_init, .seq #[.ref dE_R] dn_Rule_init, ds_Rule_init⟩)
    (dlE_Rule : K.lookup dE_R = some ⟨.type "tuple", dde_R, .seq #[] dne_R, dse_R⟩)
    (a_Rule_put : PySem.W.findIn K (.ref C_Rule) "put" = some (some (.ref f_Rule_put)))
    (i_Rule_put : PySem.W.isFn K (.ref f_Rule_put) = true)
    (l_Rule_put : K.lookup f_Rule_put = some ⟨oc_Rule_put, od_Rule_put, .func (PySem.W.fnOf "put" "Rule.put" (fnArgs s_Rule_put) (fnBody s_Rule_put) (fnScope s_Rule_put) .none kV_Rule_put dc_Rule_put pm_Rule_put an_Rule_put cd_Rule_put ct_Rule_put), sl_Rule_put⟩)
    (c_Rule_put : PySem.W.codeIn K cd_Rule_put "Rule.put" = true)
    (k_Rule_put : PySem.W.keepIn K (.ref f_Rule_put) = true)
    (a_Rule_longest : PySem.W.findIn K (.ref C_Rule) "longest" = some (some (.ref p_Rule_longest)))
    (g_Rule_longest : PySem.W.specialIn K (.ref p_Rule_longest) "__get__" = some (some (.builtin "property.__get__")))
    (t_Rule_longest : PySem.W.takesIn K (.ref p_Rule_longest) = some true)
    (r_Rule_longest : PySem.W.recIn K p_Rule_longest "property" = some (.ref f_Rule_longest :: pr_Rule_longest))
    (l_Rule_longest : K.lookup f_Rule_longest = some ⟨oc_Rule_longest, od_Rule_longest, .func (PySem.W.fnOf "longest" "Rule.longest" (fnArgs s_Rule_longest) (fnBody s_Rule_longest) (fnScope s_Rule_longest) .none kV_Rule_longest dc_Rule_longest pm_Rule_longest an_Rule_longest cd_Rule_longest ct_Rule_longest), sl_Rule_longest⟩)
    (c_Rule_longest : PySem.W.codeIn K cd_Rule_longest "Rule.longest" = true)
    (a_Rule_put_in : PySem.W.findIn K (.ref C_Rule) "put_in" = some (some (.ref f_Rule_put_in)))
    (i_Rule_put_in : PySem.W.isFn K (.ref f_Rule_put_in) = true)
    (l_Rule_put_in : K.lookup f_Rule_put_in = some ⟨oc_Rule_put_in, od_Rule_put_in, .func (PySem.W.fnOf "put_in" "Rule.put_in" (fnArgs s_Rule_put_in) (fnBody s_Rule_put_in) (fnScope s_Rule_put_in) .none kV_Rule_put_in dc_Rule_put_in pm_Rule_put_in an_Rule_put_in cd_Rule_put_in ct_Rule_put_in), sl_Rule_put_in⟩)
    (c_Rule_put_in : PySem.W.codeIn K cd_Rule_put_in "Rule.put_in" = true)
    (k_Rule_put_in : PySem.W.keepIn K (.ref f_Rule_put_in) = true)
    (a_Rule_is_endless : PySem.W.findIn K (.ref C_Rule) "is_endless" = some (some (.ref f_Rule_is_endless)))
    (i_Rule_is_endless : PySem.W.isFn K (.ref f_Rule_is_endless) = true)
    (l_Rule_is_endless : K.lookup f_Rule_is_endless = some ⟨oc_Rule_is_endless, od_Rule_is_endless, .func (PySem.W.fnOf "is_endless" "Rule.is_endless" (fnArgs s_Rule_is_endless) (fnBody s_Rule_is_endless) (fnScope s_Rule_is_endless) .none kV_Rule_is_endless dc_Rule_is_endless pm_Rule_is_endless an_Rule_is_endless cd_Rule_is_endless ct_Rule_is_endless), sl_Rule_is_endless⟩)
    (c_Rule_is_endless : PySem.W.codeIn K cd_Rule_is_endless "Rule.is_endless" = true)
    (k_Rule_is_endless : PySem.W.keepIn K (.ref f_Rule_is_endless) = true)
    (mro_Rule : PySem.W.mroIn K C_Rule (.type "object") = some true)
    (cls_Rule : PySem.W.findIn K (.ref C_Rule) "__class__" = some (some (.builtin "object.__class__")))
    (clg_X : PySem.W.specialIn K (.builtin "object.__class__") "__get__" = some (some (.builtin "getset_descriptor.__get__")))
    (clt_X : PySem.W.takesIn K (.builtin "object.__class__") = some true)
    (kon_rt : PySem.W.kitOne K (.ref C_Rule) (.type "tuple") = some false)
    (gBITS : PySem.W.nsIn K mainGlobals "BITS" = some (some (.str "01" tB)))
    (z_len : PySem.W.nsIn K mainGlobals "len" = some none)
    (z_abs : PySem.W.nsIn K mainGlobals "abs" = some none)
    (z_int : PySem.W.nsIn K mainGlobals "int" = some none)
    (z_range : PySem.W.nsIn K mainGlobals "range" = some none)
    (z_max : PySem.W.nsIn K mainGlobals "max" = some none)
    (z_min : PySem.W.nsIn K mainGlobals "min" = some none)
    (z_enumerate : PySem.W.nsIn K mainGlobals "enumerate" = some none)
    (z_zip : PySem.W.nsIn K mainGlobals "zip" = some none)
    (z_dict : PySem.W.nsIn K mainGlobals "dict" = some none)
    (z_list : PySem.W.nsIn K mainGlobals "list" = some none)
    (z_tuple : PySem.W.nsIn K mainGlobals "tuple" = some none)
    (z_isinstance : PySem.W.nsIn K mainGlobals "isinstance" = some none)
    (z_bool : PySem.W.nsIn K mainGlobals "bool" = some none)
    (z_str : PySem.W.nsIn K mainGlobals "str" = some none)
    (z_all : PySem.W.nsIn K mainGlobals "all" = some none)
    (z_any : PySem.W.nsIn K mainGlobals "any" = some none)
    (z_sum : PySem.W.nsIn K mainGlobals "sum" = some none)
    (z_sorted : PySem.W.nsIn K mainGlobals "sorted" = some none)
    (z_repr : PySem.W.nsIn K mainGlobals "repr" = some none) :
    ∃ fd : FuncData, (∀ (s : Shared) (v : Value), BindsTo s fd ⟨[v], []⟩ [("_law_script", v)]) ∧ ∀ base : Heap, K.In base → base.Ns mainGlobals mg → FnOk l.prog w K mg base CX0 13 fa fd ["_law_script"] (spLaw K) := by
  have e : f_law = fa := Value.ref.inj (Option.some.inj ((PySem.W.mg_of X G a_law).symm.trans hfa))
  subst e
  have T : Tx mg := ⟨PySem.W.mg_none_of X G z_len, PySem.W.mg_none_of X G z_abs, PySem.W.mg_none_of X G z_int, PySem.W.mg_none_of X G z_range, PySem.W.mg_none_of X G z_max, PySem.W.mg_none_of X G z_min, PySem.W.mg_none_of X G z_enumerate, PySem.W.mg_none_of X G z_zip, PySem.W.mg_none_of X G z_dict, PySem.W.mg_none_of X G z_list, PySem.W.mg_none_of X G z_tuple, PySem.W.mg_none_of X G z_isinstance, PySem.W.mg_none_of X G z_bool, PySem.W.mg_none_of X G z_str, PySem.W.mg_none_of X G z_all, PySem.W.mg_none_of X G z_any, PySem.W.mg_none_of X G z_sum, PySem.W.mg_none_of X G z_sorted, PySem.W.mg_none_of X G z_repr⟩
  have F_is_integer : Def K mg "is_integer" s_is_integer f_is_integer (PySem.W.fnOf "is_integer" "is_integer" (fnArgs s_is_integer) (fnBody s_is_integer) (fnScope s_is_integer) .none kV_is_integer dc_is_integer pm_is_integer an_is_integer cd_is_integer ct_is_integer) := ⟨⟨_, _, _, _, _, _, _, _, _, _, rfl, l_is_integer, c_is_integer⟩, PySem.W.mg_of X G a_is_integer, k_is_integer⟩
  have b_is_integer := C8.Fun.binds (ps := ["value"]) F_is_integer.fn rfl fun _ _ _ _ _ _ us hl => match us, hl with | [_], _ => rfl
  have F_is_sequence : Def K mg "is_sequence" s_is_sequence f_is_sequence (PySem.W.fnOf "is_sequence" "is_sequence" (fnArgs s_is_sequence) (fnBody s_is_sequence) (fnScope s_is_sequence) .none kV_is_sequence dc_is_sequence pm_is_sequence an_is_sequence cd_is_sequence ct_is_sequence) := ⟨⟨_, _, _, _, _, _, _, _, _, _, rfl, l_is_sequence, c_is_sequence⟩, PySem.W.mg_of X G a_is_sequence, k_is_sequence⟩
  have b_is_sequence := C8.Fun.binds (ps := ["value"]) F_is_sequence.fn rfl fun _ _ _ _ _ _ us hl => match us, hl with | [_], _ => rfl
  have F_is_word : Def K mg "is_word" s_is_word f_is_word (PySem.W.fnOf "is_word" "is_word" (fnArgs s_is_word) (fnBody s_is_word) (fnScope s_is_word) .none kV_is_word dc_is_word pm_is_word an_is_word cd_is_word ct_is_word) := ⟨⟨_, _, _, _, _, _, _, _, _, _, rfl, l_is_word, c_is_word⟩, PySem.W.mg_of X G a_is_word, k_is_word⟩
  have b_is_word := C8.Fun.binds (ps := ["value"]) F_is_word.fn rfl fun _ _ _ _ _ _ us hl => match us, hl with | [_], _ => rfl
  have F_is_bit : Def K mg "is_bit" s_is_bit f_is_bit (PySem.W.fnOf "is_bit" "is_bit" (fnArgs s_is_bit) (fnBody s_is_bit) (fnScope s_is_bit) .none kV_is_bit dc_is_bit pm_is_bit an_is_bit cd_is_bit ct_is_bit) := ⟨⟨_, _, _, _, _, _, _, _, _, _, rfl, l_is_bit, c_is_bit⟩, PySem.W.mg_of X G a_is_bit, k_is_bit⟩
  have b_is_bit := C8.Fun.binds (ps := ["value"]) F_is_bit.fn rfl fun _ _ _ _ _ _ us hl => match us, hl with | [_], _ => rfl
  have F_tail : Def K mg "tail" s_tail f_tail (PySem.W.fnOf "tail" "tail" (fnArgs s_tail) (fnBody s_tail) (fnScope s_tail) .none kV_tail dc_tail pm_tail an_tail cd_tail ct_tail) := ⟨⟨_, _, _, _, _, _, _, _, _, _, rfl, l_tail, c_tail⟩, PySem.W.mg_of X G a_tail, k_tail⟩
  have b_tail := C8.Fun.binds (ps := ["line", "size"]) F_tail.fn rfl fun _ _ _ _ _ _ us hl => match us, hl with | [_, _], _ => rfl
  have F_common : Def K mg "common" s_common f_common (PySem.W.fnOf "common" "common" (fnArgs s_common) (fnBody s_common) (fnScope s_common) .none kV_common dc_common pm_common an_common cd_common ct_common) := ⟨⟨_, _, _, _, _, _, _, _, _, _, rfl, l_common, c_common⟩, PySem.W.mg_of X G a_common, k_common⟩
  have b_common := C8.Fun.binds (ps := ["p", "q"]) F_common.fn rfl fun _ _ _ _ _ _ us hl => match us, hl with | [_, _], _ => rfl
  have F_lowest : Def K mg "lowest" s_lowest f_lowest (PySem.W.fnOf "lowest" "lowest" (fnArgs s_lowest) (fnBody s_lowest) (fnScope s_lowest) .none kV_lowest dc_lowest pm_lowest an_lowest cd_lowest ct_lowest) := ⟨⟨_, _, _, _, _, _, _, _, _, _, rfl, l_lowest, c_lowest⟩, PySem.W.mg_of X G a_lowest, k_lowest⟩
  have b_lowest := C8.Fun.binds (ps := ["p", "q"]) F_lowest.fn rfl fun _ _ _ _ _ _ us hl => match us, hl with | [_, _], _ => rfl
  have F_is_value : Def K mg "is_value" s_is_value f_is_value (PySem.W.fnOf "is_value" "is_value" (fnArgs s_is_value) (fnBody s_is_value) (fnScope s_is_value) .none kV_is_value dc_is_value pm_is_value an_is_value cd_is_value ct_is_value) := ⟨⟨_, _, _, _, _, _, _, _, _, _, rfl, l_is_value, c_is_value⟩, PySem.W.mg_of X G a_is_value, k_is_value⟩
  have b_is_value := C8.Fun.binds (ps := ["value"]) F_is_value.fn rfl fun _ _ _ _ _ _ us hl => match us, hl with | [_], _ => rfl
  have F_move : Def K mg "move" s_move f_move (PySem.W.fnOf "move" "move" (fnArgs s_move) (fnBody s_move) (fnScope s_move) .none kV_move dc_move pm_move an_move cd_move ct_move) := ⟨⟨_, _, _, _, _, _, _, _, _, _, rfl, l_move, c_move⟩, PySem.W.mg_of X G a_move, k_move⟩
  have b_move := C8.Fun.binds (ps := ["rule", "standing", "bit"]) F_move.fn rfl fun _ _ _ _ _ _ us hl => match us, hl with | [_, _, _], _ => rfl
  have F_is_at_most : Def K mg "is_at_most" s_is_at_most f_is_at_most (PySem.W.fnOf "is_at_most" "is_at_most" (fnArgs s_is_at_most) (fnBody s_is_at_most) (fnScope s_is_at_most) .none kV_is_at_most dc_is_at_most pm_is_at_most an_is_at_most cd_is_at_most ct_is_at_most) := ⟨⟨_, _, _, _, _, _, _, _, _, _, rfl, l_is_at_most, c_is_at_most⟩, PySem.W.mg_of X G a_is_at_most, k_is_at_most⟩
  have b_is_at_most := C8.Fun.binds (ps := ["one", "two"]) F_is_at_most.fn rfl fun _ _ _ _ _ _ us hl => match us, hl with | [_, _], _ => rfl
  have F_is_entry : Def K mg "is_entry" s_is_entry f_is_entry (PySem.W.fnOf "is_entry" "is_entry" (fnArgs s_is_entry) (fnBody s_is_entry) (fnScope s_is_entry) .none kV_is_entry dc_is_entry pm_is_entry an_is_entry cd_is_entry ct_is_entry) := ⟨⟨_, _, _, _, _, _, _, _, _, _, rfl, l_is_entry, c_is_entry⟩, PySem.W.mg_of X G a_is_entry, k_is_entry⟩
  have b_is_entry := C8.Fun.binds (ps := ["rule", "value"]) F_is_entry.fn rfl fun _ _ _ _ _ _ us hl => match us, hl with | [_, _], _ => rfl
  have F_is_kept : Def K mg "is_kept" s_is_kept f_is_kept (PySem.W.fnOf "is_kept" "is_kept" (fnArgs s_is_kept) (fnBody s_is_kept) (fnScope s_is_kept) .none kV_is_kept dc_is_kept pm_is_kept an_is_kept cd_is_kept ct_is_kept) := ⟨⟨_, _, _, _, _, _, _, _, _, _, rfl, l_is_kept, c_is_kept⟩, PySem.W.mg_of X G a_is_kept, k_is_kept⟩
  have b_is_kept := C8.Fun.binds (ps := ["rule", "value", "heights", "here"]) F_is_kept.fn rfl fun _ _ _ _ _ _ us hl => match us, hl with | [_, _, _, _], _ => rfl
  have F_rate_paper_holds : Def K mg "rate_paper_holds" s_rate_paper_holds f_rate_paper_holds (PySem.W.fnOf "rate_paper_holds" "rate_paper_holds" (fnArgs s_rate_paper_holds) (fnBody s_rate_paper_holds) (fnScope s_rate_paper_holds) .none kV_rate_paper_holds dc_rate_paper_holds pm_rate_paper_holds an_rate_paper_holds cd_rate_paper_holds ct_rate_paper_holds) := ⟨⟨_, _, _, _, _, _, _, _, _, _, rfl, l_rate_paper_holds, c_rate_paper_holds⟩, PySem.W.mg_of X G a_rate_paper_holds, k_rate_paper_holds⟩
  have b_rate_paper_holds := C8.Fun.binds (ps := ["rule", "value", "paper"]) F_rate_paper_holds.fn rfl fun _ _ _ _ _ _ us hl => match us, hl with | [_, _, _], _ => rfl
  have F_is_stuff : Def K mg "is_stuff" s_is_stuff f_is_stuff (PySem.W.fnOf "is_stuff" "is_stuff" (fnArgs s_is_stuff) (fnBody s_is_stuff) (fnScope s_is_stuff) .none kV_is_stuff dc_is_stuff pm_is_stuff an_is_stuff cd_is_stuff ct_is_stuff) := ⟨⟨_, _, _, _, _, _, _, _, _, _, rfl, l_is_stuff, c_is_stuff⟩, PySem.W.mg_of X G a_is_stuff, k_is_stuff⟩
  have b_is_stuff := C8.Fun.binds (ps := ["value"]) F_is_stuff.fn rfl fun _ _ _ _ _ _ us hl => match us, hl with | [_], _ => rfl
  have F_are_stuffs : Def K mg "are_stuffs" s_are_stuffs f_are_stuffs (PySem.W.fnOf "are_stuffs" "are_stuffs" (fnArgs s_are_stuffs) (fnBody s_are_stuffs) (fnScope s_are_stuffs) .none kV_are_stuffs dc_are_stuffs pm_are_stuffs an_are_stuffs cd_are_stuffs ct_are_stuffs) := ⟨⟨_, _, _, _, _, _, _, _, _, _, rfl, l_are_stuffs, c_are_stuffs⟩, PySem.W.mg_of X G a_are_stuffs, k_are_stuffs⟩
  have b_are_stuffs := C8.Fun.binds (ps := ["value"]) F_are_stuffs.fn rfl fun _ _ _ _ _ _ us hl => match us, hl with | [_], _ => rfl
  have F_l_seed : Def K mg "_law_seed" s_l_seed f_l_seed (PySem.W.fnOf "_law_seed" "_law_seed" (fnArgs s_l_seed) (fnBody s_l_seed) (fnScope s_l_seed) .none kV_l_seed dc_l_seed pm_l_seed an_l_seed cd_l_seed ct_l_seed) := ⟨⟨_, _, _, _, _, _, _, _, _, _, rfl, l_l_seed, c_l_seed⟩, PySem.W.mg_of X G a_l_seed, k_l_seed⟩
  have b_l_seed := C8.Fun.binds (ps := ["_law_script", "_law_k"]) F_l_seed.fn rfl fun _ _ _ _ _ _ us hl => match us, hl with | [_, _], _ => rfl
  have F_l_choose : Def K mg "_law_choose" s_l_choose f_l_choose (PySem.W.fnOf "_law_choose" "_law_choose" (fnArgs s_l_choose) (fnBody s_l_choose) (fnScope s_l_choose) .none kV_l_choose dc_l_choose pm_l_choose an_l_choose cd_l_choose ct_l_choose) := ⟨⟨_, _, _, _, _, _, _, _, _, _, rfl, l_l_choose, c_l_choose⟩, PySem.W.mg_of X G a_l_choose, k_l_choose⟩
  have b_l_choose := C8.Fun.binds (ps := ["_law_box", "_law_many"]) F_l_choose.fn rfl fun _ _ _ _ _ _ us hl => match us, hl with | [_, _], _ => rfl
  have F_l_one_of : Def K mg "_law_one_of" s_l_one_of f_l_one_of (PySem.W.fnOf "_law_one_of" "_law_one_of" (fnArgs s_l_one_of) (fnBody s_l_one_of) (fnScope s_l_one_of) .none kV_l_one_of dc_l_one_of pm_l_one_of an_l_one_of cd_l_one_of ct_l_one_of) := ⟨⟨_, _, _, _, _, _, _, _, _, _, rfl, l_l_one_of, c_l_one_of⟩, PySem.W.mg_of X G a_l_one_of, k_l_one_of⟩
  have b_l_one_of := C8.Fun.binds (ps := ["_law_box", "_law_some"]) F_l_one_of.fn rfl fun _ _ _ _ _ _ us hl => match us, hl with | [_, _], _ => rfl
  have F_l_word : Def K mg "_law_word" s_l_word f_l_word (PySem.W.fnOf "_law_word" "_law_word" (fnArgs s_l_word) (fnBody s_l_word) (fnScope s_l_word) .none kV_l_word dc_l_word pm_l_word an_l_word cd_l_word ct_l_word) := ⟨⟨_, _, _, _, _, _, _, _, _, _, rfl, l_l_word, c_l_word⟩, PySem.W.mg_of X G a_l_word, k_l_word⟩
  have b_l_word := C8.Fun.binds (ps := ["_law_box", "_law_few", "_law_many"]) F_l_word.fn rfl fun _ _ _ _ _ _ us hl => match us, hl with | [_, _, _], _ => rfl
  have F_l_words : Def K mg "_law_words" s_l_words f_l_words (PySem.W.fnOf "_law_words" "_law_words" (fnArgs s_l_words) (fnBody s_l_words) (fnScope s_l_words) .none kV_l_words dc_l_words pm_l_words an_l_words cd_l_words ct_l_words) := ⟨⟨_, _, _, _, _, _, _, _, _, _, rfl, l_l_words, c_l_words⟩, PySem.W.mg_of X G a_l_words, k_l_words⟩
  have b_l_words := C8.Fun.binds (ps := ["_law_size"]) F_l_words.fn rfl fun _ _ _ _ _ _ us hl => match us, hl with | [_], _ => rfl
  have F_l_put : Def K mg "_law_put" s_l_put f_l_put (PySem.W.fnOf "_law_put" "_law_put" (fnArgs s_l_put) (fnBody s_l_put) (fnScope s_l_put) .none kV_l_put dc_l_put pm_l_put an_l_put cd_l_put ct_l_put) := ⟨⟨_, _, _, _, _, _, _, _, _, _, rfl, l_l_put, c_l_put⟩, PySem.W.mg_of X G a_l_put, k_l_put⟩
  have b_l_put := C8.Fun.binds (ps := ["_law_rule_here", "_law_line"]) F_l_put.fn rfl fun _ _ _ _ _ _ us hl => match us, hl with | [_, _], _ => rfl
  have F_l_is_rule : Def K mg "_law_is_rule" s_l_is_rule f_l_is_rule (PySem.W.fnOf "_law_is_rule" "_law_is_rule" (fnArgs s_l_is_rule) (fnBody s_l_is_rule) (fnScope s_l_is_rule) .none kV_l_is_rule dc_l_is_rule pm_l_is_rule an_l_is_rule cd_l_is_rule ct_l_is_rule) := ⟨⟨_, _, _, _, _, _, _, _, _, _, rfl, l_l_is_rule, c_l_is_rule⟩, PySem.W.mg_of X G a_l_is_rule, k_l_is_rule⟩
  have b_l_is_rule := C8.Fun.binds (ps := ["_law_rule_here"]) F_l_is_rule.fn rfl fun _ _ _ _ _ _ us hl => match us, hl with | [_], _ => rfl
  have F_l_rule : Def K mg "_law_rule" s_l_rule f_l_rule (PySem.W.fnOf "_law_rule" "_law_rule" (fnArgs s_l_rule) (fnBody s_l_rule) (fnScope s_l_rule) .none kV_l_rule dc_l_rule pm_l_rule an_l_rule cd_l_rule ct_l_rule) := ⟨⟨_, _, _, _, _, _, _, _, _, _, rfl, l_l_rule, c_l_rule⟩, PySem.W.mg_of X G a_l_rule, k_l_rule⟩
  have b_l_rule := C8.Fun.binds (ps := ["_law_box", "_law_widest", "_law_longest_one"]) F_l_rule.fn rfl fun _ _ _ _ _ _ us hl => match us, hl with | [_, _, _], _ => rfl
  have F_l_made : Def K mg "_law_made" s_l_made f_l_made (PySem.W.fnOf "_law_made" "_law_made" (fnArgs s_l_made) (fnBody s_l_made) (fnScope s_l_made) .none kV_l_made dc_l_made pm_l_made an_l_made cd_l_made ct_l_made) := ⟨⟨_, _, _, _, _, _, _, _, _, _, rfl, l_l_made, c_l_made⟩, PySem.W.mg_of X G a_l_made, k_l_made⟩
  have b_l_made := C8.Fun.binds (ps := ["_law_rule_here"]) F_l_made.fn rfl fun _ _ _ _ _ _ us hl => match us, hl with | [_], _ => rfl
  have F_l_deep : Def K mg "_law_deep" s_l_deep f_l_deep (PySem.W.fnOf "_law_deep" "_law_deep" (fnArgs s_l_deep) (fnBody s_l_deep) (fnScope s_l_deep) .none kV_l_deep dc_l_deep pm_l_deep an_l_deep cd_l_deep ct_l_deep) := ⟨⟨_, _, _, _, _, _, _, _, _, _, rfl, l_l_deep, c_l_deep⟩, PySem.W.mg_of X G a_l_deep, k_l_deep⟩
  have b_l_deep := C8.Fun.binds (ps := []) F_l_deep.fn rfl fun _ _ _ _ _ _ us hl => match us, hl with | [], _ => rfl
  have F_l_leaf : Def K mg "_law_leaf" s_l_leaf f_l_leaf (PySem.W.fnOf "_law_leaf" "_law_leaf" (fnArgs s_l_leaf) (fnBody s_l_leaf) (fnScope s_l_leaf) .none kV_l_leaf dc_l_leaf pm_l_leaf an_l_leaf cd_l_leaf ct_l_leaf) := ⟨⟨_, _, _, _, _, _, _, _, _, _, rfl, l_l_leaf, c_l_leaf⟩, PySem.W.mg_of X G a_l_leaf, k_l_leaf⟩
  have b_l_leaf := C8.Fun.binds (ps := ["_law_box"]) F_l_leaf.fn rfl fun _ _ _ _ _ _ us hl => match us, hl with | [_], _ => rfl
  have F_l_any : Def K mg "_law_any" s_l_any f_l_any (PySem.W.fnOf "_law_any" "_law_any" (fnArgs s_l_any) (fnBody s_l_any) (fnScope s_l_any) .none kV_l_any dc_l_any pm_l_any an_l_any cd_l_any ct_l_any) := ⟨⟨_, _, _, _, _, _, _, _, _, _, rfl, l_l_any, c_l_any⟩, PySem.W.mg_of X G a_l_any, k_l_any⟩
  have b_l_any := C8.Fun.binds (ps := ["_law_box", "_law_deep_here"]) F_l_any.fn rfl fun _ _ _ _ _ _ us hl => match us, hl with | [_, _], _ => rfl
  have F_l_is_paper : Def K mg "_law_is_paper" s_l_is_paper f_l_is_paper (PySem.W.fnOf "_law_is_paper" "_law_is_paper" (fnArgs s_l_is_paper) (fnBody s_l_is_paper) (fnScope s_l_is_paper) .none kV_l_is_paper dc_l_is_paper pm_l_is_paper an_l_is_paper cd_l_is_paper ct_l_is_paper) := ⟨⟨_, _, _, _, _, _, _, _, _, _, rfl, l_l_is_paper, c_l_is_paper⟩, PySem.W.mg_of X G a_l_is_paper, k_l_is_paper⟩
  have b_l_is_paper := C8.Fun.binds (ps := ["_law_told", "_law_value", "_law_paper"]) F_l_is_paper.fn rfl fun _ _ _ _ _ _ us hl => match us, hl with | [_, _, _], _ => rfl
  have F_l_is_entry : Def K mg "_law_is_entry" s_l_is_entry f_l_is_entry (PySem.W.fnOf "_law_is_entry" "_law_is_entry" (fnArgs s_l_is_entry) (fnBody s_l_is_entry) (fnScope s_l_is_entry) .none kV_l_is_entry dc_l_is_entry pm_l_is_entry an_l_is_entry cd_l_is_entry ct_l_is_entry) := ⟨⟨_, _, _, _, _, _, _, _, _, _, rfl, l_l_is_entry, c_l_is_entry⟩, PySem.W.mg_of X G a_l_is_entry, k_l_is_entry⟩
  have b_l_is_entry := C8.Fun.binds (ps := ["_law_one", "_law_size"]) F_l_is_entry.fn rfl fun _ _ _ _ _ _ us hl => match us, hl with | [_, _], _ => rfl
  have F_l_common : Def K mg "_law_common" s_l_common f_l_common (PySem.W.fnOf "_law_common" "_law_common" (fnArgs s_l_common) (fnBody s_l_common) (fnScope s_l_common) .none kV_l_common dc_l_common pm_l_common an_l_common cd_l_common ct_l_common) := ⟨⟨_, _, _, _, _, _, _, _, _, _, rfl, l_l_common, c_l_common⟩, PySem.W.mg_of X G a_l_common, k_l_common⟩
  have b_l_common := C8.Fun.binds (ps := ["_law_p", "_law_q"]) F_l_common.fn rfl fun _ _ _ _ _ _ us hl => match us, hl with | [_, _], _ => rfl
  have F_law : Def K mg "law" s_law f_law (PySem.W.fnOf "law" "law" (fnArgs s_law) (fnBody s_law) (fnScope s_law) .none kV_law dc_law pm_law an_law cd_law ct_law) := ⟨⟨_, _, _, _, _, _, _, _, _, _, rfl, l_law, c_law⟩, PySem.W.mg_of X G a_law, k_law⟩
  have b_law := C8.Fun.binds (ps := ["_law_script"]) F_law.fn rfl fun _ _ _ _ _ _ us hl => match us, hl with | [_], _ => rfl
  have CL_Rule : Cls K C_Rule := ⟨pg_Rule, hd_Rule, po_Rule, sa_Rule⟩
  have F_Rule_init : C8.Fun K "__init__" "Rule.__init__" s_Rule_init f_Rule_init (PySem.W.fnOf "__init__" "Rule.__init__" (fnArgs s_Rule_init) (fnBody s_Rule_init) (fnScope s_Rule_init) (.ref dT_Rule_init) kV_Rule_init dc_Rule_init pm_Rule_init an_Rule_init cd_Rule_init ct_Rule_init) := ⟨_, _, _, _, _, _, _, _, _, _, rfl, l_Rule_init, c_Rule_init⟩
  have FD_Rule_init : FunD K "__init__" "Rule.__init__" (fnArgs s_Rule_init) (fnBody s_Rule_init) (fnScope s_Rule_init) [.ref dE_R] [] f_Rule_init (PySem.W.fnOf "__init__" "Rule.__init__" (fnArgs s_Rule_init) (fnBody s_Rule_init) (fnScope s_Rule_init) (.ref dT_Rule_init) kV_Rule_init dc_Rule_init pm_Rule_init an_Rule_init cd_Rule_init ct_Rule_init) := ⟨⟨_, _, _, _, _, _, _, _, _, _, rfl, l_Rule_init, c_Rule_init, .inr ⟨List.cons_ne_nil _ _, _, _, _, _, rfl, dl_Rule_init, rfl, .cons rfl .nil⟩, .inl rfl⟩, k_Rule_init⟩
  obtain ⟨ds0_Rule_init, vd0_Rule_init, bd0_Rule_init⟩ := FD_Rule_init.binds1 (ps := ["self", "flag", "stuffs"]) 2 0 (List.cons_ne_nil _ _) rfl fun _ _ _ _ _ _ _ us its h1 h2 => match us, its, h1, h2 with | [_, _], [_], _, _ => ⟨_, rfl, rfl⟩
  obtain ⟨ds1_Rule_init, vd1_Rule_init, bd1_Rule_init⟩ := FD_Rule_init.binds1 (ps := ["self", "flag", "stuffs"]) 3 1 (List.cons_ne_nil _ _) rfl fun _ _ _ _ _ _ _ us its h1 h2 => match us, its, h1, h2 with | [_, _, _], [_], _, _ => ⟨_, rfl, rfl⟩
  have F_Rule_put : C8.Fun K "put" "Rule.put" s_Rule_put f_Rule_put (PySem.W.fnOf "put" "Rule.put" (fnArgs s_Rule_put) (fnBody s_Rule_put) (fnScope s_Rule_put) .none kV_Rule_put dc_Rule_put pm_Rule_put an_Rule_put cd_Rule_put ct_Rule_put) := ⟨_, _, _, _, _, _, _, _, _, _, rfl, l_Rule_put, c_Rule_put⟩
  have b_Rule_put := C8.Fun.binds (ps := ["self", "line"]) F_Rule_put rfl fun _ _ _ _ _ _ us hl => match us, hl with | [_, _], _ => rfl
  have F_Rule_longest : C8.Fun K "longest" "Rule.longest" s_Rule_longest f_Rule_longest (PySem.W.fnOf "longest" "Rule.longest" (fnArgs s_Rule_longest) (fnBody s_Rule_longest) (fnScope s_Rule_longest) .none kV_Rule_longest dc_Rule_longest pm_Rule_longest an_Rule_longest cd_Rule_longest ct_Rule_longest) := ⟨_, _, _, _, _, _, _, _, _, _, rfl, l_Rule_longest, c_Rule_longest⟩
  have b_Rule_longest := C8.Fun.binds (ps := ["self"]) F_Rule_longest rfl fun _ _ _ _ _ _ us hl => match us, hl with | [_], _ => rfl
  have F_Rule_put_in : C8.Fun K "put_in" "Rule.put_in" s_Rule_put_in f_Rule_put_in (PySem.W.fnOf "put_in" "Rule.put_in" (fnArgs s_Rule_put_in) (fnBody s_Rule_put_in) (fnScope s_Rule_put_in) .none kV_Rule_put_in dc_Rule_put_in pm_Rule_put_in an_Rule_put_in cd_Rule_put_in ct_Rule_put_in) := ⟨_, _, _, _, _, _, _, _, _, _, rfl, l_Rule_put_in, c_Rule_put_in⟩
  have b_Rule_put_in := C8.Fun.binds (ps := ["self", "line"]) F_Rule_put_in rfl fun _ _ _ _ _ _ us hl => match us, hl with | [_, _], _ => rfl
  have F_Rule_is_endless : C8.Fun K "is_endless" "Rule.is_endless" s_Rule_is_endless f_Rule_is_endless (PySem.W.fnOf "is_endless" "Rule.is_endless" (fnArgs s_Rule_is_endless) (fnBody s_Rule_is_endless) (fnScope s_Rule_is_endless) .none kV_Rule_is_endless dc_Rule_is_endless pm_Rule_is_endless an_Rule_is_endless cd_Rule_is_endless ct_Rule_is_endless) := ⟨_, _, _, _, _, _, _, _, _, _, rfl, l_Rule_is_endless, c_Rule_is_endless⟩
  have b_Rule_is_endless := C8.Fun.binds (ps := ["self"]) F_Rule_is_endless rfl fun _ _ _ _ _ _ us hl => match us, hl with | [_], _ => rfl
  refine ⟨PySem.W.fnOf "law" "law" (fnArgs s_law) (fnBody s_law) (fnScope s_law) .none kV_law dc_law pm_law an_law cd_law ct_law, fun s v => .of_eq rfl, fun base _ _ => ?_⟩
  have RT : RuT K C_Rule := ⟨CL_Rule, n_Rule_flag, n_Rule_stuffs⟩
  have hE : ∀ H, SqT K H dE_R [] := fun H => .inr ⟨_, _, _, dlE_Rule, rfl, rfl, (by show 0 ≤ sizeLine; decide), .nil⟩
  have IS_Rule : IsT K C_Rule := ⟨CL_Rule, cls_Rule, clg_X, clt_X, mro_Rule⟩
  have kon_rule_tuple := kon_rt
  have c_l_seed := cal_l_seed (P := l.prog) (w := w) (base := base) F_l_seed b_l_seed T
  have c_l_choose := cal_l_choose (P := l.prog) (w := w) (base := base) F_l_choose b_l_choose T
  have c_l_one_of := cal_l_one_of (P := l.prog) (w := w) (base := base) F_l_one_of b_l_one_of T c_l_choose
  have c_l_words := cal_l_words (P := l.prog) (w := w) (base := base) F_l_words b_l_words T
  have c_l_word := cal_l_word (P := l.prog) (w := w) (base := base) F_l_word b_l_word T c_l_choose c_l_one_of
  have c_l_put := cal_l_put (P := l.prog) (w := w) (base := base) F_l_put b_l_put T
  have c_l_is_rule := cal_l_is_rule (P := l.prog) (w := w) (base := base) F_l_is_rule b_l_is_rule T c_l_put
  have c_l_rule := cal_l_rule (P := l.prog) (w := w) (base := base) F_l_rule b_l_rule T c_l_choose c_l_one_of c_l_word c_l_is_rule
  have g_BITS := PySem.W.mg_of X G gBITS
  have c_is_word := cal_is_word (P := l.prog) (w := w) (base := base) F_is_word b_is_word T g_BITS
  have c_is_sequence := cal_is_sequence (P := l.prog) (w := w) (base := base) F_is_sequence b_is_sequence T
  have c_is_bit := cal_is_bit (P := l.prog) (w := w) (base := base) F_is_bit b_is_bit T c_is_word
  have c_is_stuff := cal_is_stuff (P := l.prog) (w := w) (base := base) F_is_stuff b_is_stuff T c_is_word c_is_bit
  have c_are_stuffs := cal_are_stuffs (P := l.prog) (w := w) (base := base) F_are_stuffs b_are_stuffs T c_is_sequence c_is_stuff
  have c_put := met_put (P := l.prog) (w := w) (base := base) F_Rule_put ⟨a_Rule_put, i_Rule_put, k_Rule_put⟩ b_Rule_put T RT
  have p_longest : Prp l.prog w K mg base 1 C_Rule "longest" (spLongest C_Rule) := ⟨_, _, _, _, CL_Rule, ⟨a_Rule_longest, g_Rule_longest, t_Rule_longest, ⟨_, r_Rule_longest⟩⟩, ok_longest F_Rule_longest T RT, b_Rule_longest⟩
  have c_tail := cal_tail (P := l.prog) (w := w) (base := base) F_tail b_tail T
  have c_put_in := met_put_in (P := l.prog) (w := w) (base := base) F_Rule_put_in ⟨a_Rule_put_in, i_Rule_put_in, k_Rule_put_in⟩ b_Rule_put_in T RT c_put p_longest c_tail
  have c_is_endless := met_is_endless (P := l.prog) (w := w) (base := base) F_Rule_is_endless ⟨a_Rule_is_endless, i_Rule_is_endless, k_Rule_is_endless⟩ b_Rule_is_endless T RT g_BITS c_put_in p_longest c_tail
  have M_Rule : Mk K C_Rule f_Rule_init := ⟨mk_Rule, a_Rule_init, i_Rule_init, kc_Rule⟩
  have i_ok_Rule := ok_Rule_init (P := l.prog) (w := w) (base := base) F_Rule_init T RT c_is_word c_are_stuffs c_is_endless
  have m_Rule2 : Mak l.prog w K mg base 5 "Rule" C_Rule (spRuInit K C_Rule) [] := ⟨_, _, _, _, M_Rule, i_ok_Rule, PySem.W.mg_of X G aC_Rule, bd1_Rule_init, vd1_Rule_init⟩
  have c_l_made := cal_l_made (P := l.prog) (w := w) (base := base) F_l_made b_l_made T m_Rule2
  have c_l_leaf := cal_l_leaf (P := l.prog) (w := w) (base := base) F_l_leaf b_l_leaf T c_l_one_of
  have c_l_any := cal_l_any (P := l.prog) (w := w) (base := base) F_l_any b_l_any T c_l_choose c_l_leaf
  have c_l_deep := cal_l_deep (P := l.prog) (w := w) (base := base) F_l_deep b_l_deep T
  have c_l_common := cal_l_common (P := l.prog) (w := w) (base := base) F_l_common b_l_common T
  have c_l_is_entry := cal_l_is_entry (P := l.prog) (w := w) (base := base) F_l_is_entry b_l_is_entry T c_l_common
  have c_l_is_paper := cal_l_is_paper (P := l.prog) (w := w) (base := base) F_l_is_paper b_l_is_paper T c_l_put c_l_is_entry
  have c_is_integer := cal_is_integer (P := l.prog) (w := w) (base := base) F_is_integer b_is_integer T
  have c_common := cal_common (P := l.prog) (w := w) (base := base) F_common b_common T
  have c_lowest := cal_lowest (P := l.prog) (w := w) (base := base) F_lowest b_lowest T c_common
  have c_is_value := cal_is_value (P := l.prog) (w := w) (base := base) F_is_value b_is_value T c_is_integer c_lowest
  have c_is_entry := cal_is_entry (P := l.prog) (w := w) (base := base) F_is_entry b_is_entry T RT c_is_word p_longest c_is_value
  have c_put_inX := met_put_inX (P := l.prog) (w := w) (base := base) F_Rule_put_in ⟨a_Rule_put_in, i_Rule_put_in, k_Rule_put_in⟩ b_Rule_put_in T RT c_put p_longest c_tail
  have c_move := cal_move (P := l.prog) (w := w) (base := base) F_move b_move T RT c_put_inX c_tail p_longest
  have c_is_at_most := cal_is_at_most (P := l.prog) (w := w) (base := base) F_is_at_most b_is_at_most T
  have c_is_kept := cal_is_kept (P := l.prog) (w := w) (base := base) F_is_kept b_is_kept T g_BITS c_move c_is_at_most
  have c_rate_paper_holds := cal_rate_paper_holds (P := l.prog) (w := w) (base := base) F_rate_paper_holds b_rate_paper_holds T c_is_entry c_is_kept
  have m_Rule1 : Mak l.prog w K mg base 5 "Rule" C_Rule (spRuInit K C_Rule) [.ref dE_R] := ⟨_, _, _, _, M_Rule, i_ok_Rule, PySem.W.mg_of X G aC_Rule, bd0_Rule_init, vd0_Rule_init⟩
  exact ok_law F_law T RT hE IS_Rule kon_rule_tuple c_l_seed c_l_one_of c_l_words c_l_rule c_l_made c_l_any c_l_deep c_l_is_paper p_longest c_rate_paper_holds m_Rule1
theorem walk {l : PySem.W.OpenLaw} {q : Program} {loose : List Str} {XP : (Str → Option Value) → Heap → Prop} {YP : World → Heap → Prop} {d : DefRec} {K : Params → PySem.W.Frag} (hn : l.most = some 63) (hdf : d.params.defaults = [])
    (hY : ∀ (w : World) (h : Heap), YP w h → (K w.params).In h)
    (F : ∀ (w : World) (mg : Str → Option Value) (fa : Addr) (h : Heap), (K w.params).In h → h.Ns mainGlobals mg → mg d.name = some (.ref fa) →
      ∃ fd : FuncData, (∀ (s : Shared) (u : Value), BindsTo s fd ⟨[u], []⟩ [("_law_script", u)]) ∧ ∀ base : Heap, (K w.params).In base → base.Ns mainGlobals mg → FnOk l.prog w (K w.params) mg base CX0 13 fa fd ["_law_script"] (spLaw (K w.params))) :
    PySem.W.WalkO q loose XP YP l.row.toRowW d [] (fun f vs => PySem.call f vs) :=
  L2.walk_of (n := 63) (k := 13) (x := "_law_script") (CX := fun _ => CX0) (sp := fun w => spLaw (K w.params)) hn (by decide) hdf ⟨rfl, by decide, by decide⟩ hY F (fun _ _ a ns hl _ hS => ⟨a, ns, rfl, hS, hl, fun _ => rfl⟩) fun _ _ _ _ _ z => z
end U
open PySem PySem.W PyProof.Rows
def PySem.W.Fast.tw17316617910746700939 : Unit := ()
def PySem.W.Fast.tw16336675405458593921 : Unit := ()
def PySem.W.Fast.tw15133696559621485611 : Unit := ()
def PySem.W.Fast.tw2850759066751907916 : Unit := ()
def PySem.W.Fast.tw16998839972575272552 : Unit := ()
def PySem.W.Fast.tw9826089399359242464 : Unit := ()
def PySem.W.Fast.tw15730100158794512252 : Unit := ()
def PySem.W.Fast.tw4704119484864485724 : Unit := ()
def PySem.W.Fast.tw10933928142745886729 : Unit := ()
def PySem.W.Fast.tw7139200094512009078 : Unit := ()
def PySem.W.Fast.tw7283901111786117165 : Unit := ()
def PySem.W.Fast.tw2870922473810784167 : Unit := ()
def PySem.W.Fast.tw15880262956306590025 : Unit := ()
def PySem.W.Fast.tw1583709979084529812 : Unit := ()
def PySem.W.Fast.tw17551148317183556340 : Unit := ()
def PySem.W.Fast.tw897734362595164482 : Unit := ()
def PySem.W.Fast.tw8951728167328648955 : Unit := ()
def PySem.W.Fast.tw9855931516442386071 : Unit := ()
def PySem.W.Fast.tw16382578459999225695 : Unit := ()
def PySem.W.Fast.tw1260900708612026975 : Unit := ()
def PySem.W.Fast.tw6614296968173696021 : Unit := ()
def PySem.W.Fast.tw4432300006847382448 : Unit := ()
def PySem.W.Fast.tw11882568770538612408 : Unit := ()
def PySem.W.Fast.tw1331327723092709734 : Unit := ()
def PySem.W.Fast.tw18360171684616756119 : Unit := ()
def PySem.W.Fast.tw11843418056083157057 : Unit := ()
def PySem.W.Fast.tw2766031896761788294 : Unit := ()
def PySem.W.Fast.tw1401831982764374891 : Unit := ()
def PySem.W.Fast.tw11518489972751785524 : Unit := ()
def PySem.W.Fast.tw4766710978363165065 : Unit := ()
def PySem.W.Fast.tw13427721528059455159 : Unit := ()
def PySem.W.Fast.tw18320915113879270608 : Unit := ()
def PySem.W.Fast.tw2644790009981933813 : Unit := ()
def PySem.W.Fast.tw3284254951656765482 : Unit := ()
def PySem.W.Fast.tw6117975864526078652 : Unit := ()
def PySem.W.Fast.tw10636149681529146893 : Unit := ()
def PySem.W.Fast.tw2312265144534252960 : Unit := ()
def PySem.W.Fast.tw13510754881989682009 : Unit := ()
def PySem.W.Fast.tw12380696446170434562 : Unit := ()
def PySem.W.Fast.tw10164263551833596959 : Unit := ()
def PySem.W.Fast.tw7204630826202765510 : Unit := ()
def PySem.W.Fast.tw8057968545840845163 : Unit := ()
def PySem.W.Fast.tw2048891030027453709 : Unit := ()
def PySem.W.Fast.tw7468117780844883734 : Unit := ()
def PySem.W.Fast.tw12250213760643390447 : Unit := ()
def PySem.W.Fast.tw12777018581546403484 : Unit := ()
def PySem.W.Fast.tw2202520612893618852 : Unit := ()
def PySem.W.Fast.tw14582626235852296839 : Unit := ()
def PySem.W.Fast.tw11578375393638381081 : Unit := ()
def PySem.W.Fast.tw12007421743930912536 : Unit := ()
def PySem.W.Fast.tw14032368114547846497 : Unit := ()
def PySem.W.Fast.tw3397395069267228209 : Unit := ()
def PySem.W.Fast.tw5737075997406912626 : Unit := ()
def PySem.W.Fast.tw7771163731126199214 : Unit := ()
def PySem.W.Fast.tw11652384256254862237 : Unit := ()
def PySem.W.Fast.tw6117545592975338141 : Unit := ()
def PySem.W.Fast.tw14976512798307035926 : Unit := ()
def PySem.W.Fast.tw14758964390300387671 : Unit := ()
def PySem.W.Fast.tw17958423531937157619 : Unit := ()
def PySem.W.Fast.tw11942055014817283259 : Unit := ()
def PySem.W.Fast.tw12758555832013865872 : Unit := ()
def PySem.W.Fast.tw16154766529889454070 : Unit := ()
def PySem.W.Fast.tw12208347876024264424 : Unit := ()
def PySem.W.Fast.tw8512492482766652300 : Unit := ()
def PySem.W.Fast.tw9583416944822169632 : Unit := ()
def PySem.W.Fast.tw520096039579580541 : Unit := ()
def PySem.W.Fast.tw15067056100348306601 : Unit := ()
def PySem.W.Fast.tw4862579556682889068 : Unit := ()
def PySem.W.Fast.tw13323543684787731484 : Unit := ()
def PySem.W.Fast.tw197050980923362837 : Unit := ()
def PySem.W.Fast.tw8907929132487679505 : Unit := ()
def PySem.W.Fast.tw17043311631754262973 : Unit := ()
def PySem.W.Fast.tw7140656102263645623 : Unit := ()
def PySem.W.Fast.tw5312768078382046399 : Unit := ()
def PySem.W.Fast.tw840615173450545624 : Unit := ()
def PySem.W.Fast.tw15667339055435330157 : Unit := ()
def PySem.W.Fast.tw18366588502448968717 : Unit := ()
def PySem.W.Fast.tw8558158828318290630 : Unit := ()
def PySem.W.Fast.tw3491961113285034921 : Unit := ()
def PySem.W.Fast.tw10519322261963169685 : Unit := ()
def PySem.W.Fast.tw18404691238815179416 : Unit := ()
def PySem.W.Fast.tw2488950193066544159 : Unit := ()
def PySem.W.Fast.tw7426986963367354133 : Unit := ()
def PySem.W.Fast.tw14111907495499664108 : Unit := ()
def PySem.W.Fast.tw18252748983814554524 : Unit := ()
def PySem.W.Fast.tw12235134889792810902 : Unit := ()
def PySem.W.Fast.tw7374873490378222169 : Unit := ()
def PySem.W.Fast.tw5446999411552106184 : Unit := ()
def PySem.W.Fast.tw10335877317270988747 : Unit := ()
def PySem.W.Fast.tw9472116262982235562 : Unit := ()
def PySem.W.Fast.tw4416362028019007350 : Unit := ()
def PySem.W.Fast.tw10243310251000258349 : Unit := ()
def PySem.W.Fast.tw4164690863901558935 : Unit := ()
def PySem.W.Fast.tw15903873864446559437 : Unit := ()
def PySem.W.Fast.tw7145023856588478895 : Unit := ()
def PySem.W.Fast.tw11933780166050430294 : Unit := ()
def PySem.W.Fast.tw13653771772439482655 : Unit := ()
def PySem.W.Fast.tw10963609922022379853 : Unit := ()
def PySem.W.Fast.tw2479778379123828965 : Unit := ()
def PySem.W.Fast.tw18040728847988913859 : Unit := ()
def PySem.W.Fast.tw6758043867776071041 : Unit := ()
def PySem.W.Fast.tw1779049868861109600 : Unit := ()
def PySem.W.Fast.tw18196928546614711052 : Unit := ()
def PySem.W.Fast.tw14939858138981317290 : Unit := ()
def PySem.W.Fast.tw11264046286407911121 : Unit := ()
def PySem.W.Fast.tw8829438388856354424 : Unit := ()
def PySem.W.Fast.tw13018670410367914575 : Unit := ()
def PySem.W.Fast.tw10423217779314621790 : Unit := ()
def PySem.W.Fast.tw7616518090718792998 : Unit := ()
def PySem.W.Fast.tw12046980011587520778 : Unit := ()
def PySem.W.Fast.tw14442525292593370712 : Unit := ()
def PySem.W.Fast.tw8305625179837450490 : Unit := ()
def PySem.W.Fast.tw5444898738019457742 : Unit := ()
def PySem.W.Fast.tw7214142732140578039 : Unit := ()
def PySem.W.Fast.tw15015204688739848360 : Unit := ()
def PySem.W.Fast.tw9701447041503029659 : Unit := ()
def PySem.W.Fast.tw14724099538842699319 : Unit := ()
def PySem.W.Fast.tw7844904705316632532 : Unit := ()
def PySem.W.Fast.tw10023441785227540439 : Unit := ()
def PySem.W.Fast.tw10837995609383836574 : Unit := ()
def PySem.W.Fast.tw15816451208805701908 : Unit := ()
def PySem.W.Fast.tw12284179976195903722 : Unit := ()
def PySem.W.Fast.tw13119941654492511641 : Unit := ()
def PySem.W.Fast.tw9024954641553812490 : Unit := ()
def PySem.W.Fast.tw17670617445618871359 : Unit := ()
def PySem.W.Fast.tw12073978509398901781 : Unit := ()
def PySem.W.Fast.tw1974915775453128561 : Unit := ()
def PySem.W.Fast.tw16025941526739942446 : Unit := ()
def PySem.W.Fast.tw8647072867581802730 : Unit := ()
def PySem.W.Fast.tw5165370369835015512 : Unit := ()
def PySem.W.Fast.tw15031848465373153471 : Unit := ()
def PySem.W.Fast.tw1105515364457524334 : Unit := ()
def PySem.W.Fast.tw7461907309037745598 : Unit := ()
def PySem.W.Fast.tw9335532129741319180 : Unit := ()
def PySem.W.Fast.tw1811093694330066618 : Unit := ()
def PySem.W.Fast.tw3748956451487520111 : Unit := ()
def PySem.W.Fast.tw1877641551365069453 : Unit := ()
def PySem.W.Fast.tw7262824741854389397 : Unit := ()
def PySem.W.Fast.tw9705019606614429091 : Unit := ()
def PySem.W.Fast.tw5170338452169729604 : Unit := ()
def PySem.W.Fast.tw5312562421089596805 : Unit := ()
def PySem.W.Fast.tw12878835190074286156 : Unit := ()
def PySem.W.Fast.tw5696192391604928905 : Unit := ()
def PySem.W.Fast.tw2838308089424154878 : Unit := ()
def PySem.W.Fast.tw10723001970319728239 : Unit := ()
def PySem.W.Fast.tw3794363962984465726 : Unit := ()
def PySem.W.Fast.tw5656294620249431210 : Unit := ()
def PySem.W.Fast.tw15880558169399785444 : Unit := ()
def PySem.W.Fast.tw4394120522369507562 : Unit := ()
def PySem.W.Fast.tw11757862864435227993 : Unit := ()
def PySem.W.Fast.tw9964566892939264227 : Unit := ()
def PySem.W.Fast.tw7432887434592552765 : Unit := ()
def PySem.W.Fast.tw11580168941948864754 : Unit := ()
def PySem.W.Fast.tw2567902039314077625 : Unit := ()
def PySem.W.Fast.tw2905430511763239995 : Unit := ()
def PySem.W.Fast.tw13517301856094903820 : Unit := ()
def PySem.W.Fast.tw13996152472411698691 : Unit := ()
def PySem.W.Fast.tw11832820570246472134 : Unit := ()
def PySem.W.Fast.tw4993766715499826068 : Unit := ()
def PySem.W.Fast.tw11542148452489299050 : Unit := ()
def PySem.W.Fast.tw3848077226540236681 : Unit := ()
def PySem.W.Fast.tw2214876424692236948 : Unit := ()
def PySem.W.Fast.tw13863440588851363844 : Unit := ()
def PySem.W.Fast.tw5428365553824649442 : Unit := ()
def PySem.W.Fast.tw1590402184263226320 : Unit := ()
def PySem.W.Fast.tw10113499722781936693 : Unit := ()
def PySem.W.Fast.tw10062670004069646650 : Unit := ()
def PySem.W.Fast.tw14143530807860310995 : Unit := ()
def PySem.W.Fast.tw47967864380450765 : Unit := ()
def PySem.W.Fast.tw1061934487916921472 : Unit := ()
def PySem.W.Fast.tw1165883444969367607 : Unit := ()
def PySem.W.Fast.tw12829498886011252283 : Unit := ()
def PySem.W.Fast.tw11208558819324649620 : Unit := ()
def PySem.W.Fast.tw12338136759211980381 : Unit := ()
def PySem.W.Fast.tw5532685082495386189 : Unit := ()
def PySem.W.Fast.tw4524553997285050910 : Unit := ()
def PySem.W.Fast.tw17640479579407912012 : Unit := ()
def PySem.W.Fast.tw3856480129351064756 : Unit := ()
def PySem.W.Fast.tw13271670542875034081 : Unit := ()
def PySem.W.Fast.tw14291853201945321684 : Unit := ()
def PySem.W.Fast.tw5124022211036498510 : Unit := ()
def PySem.W.Fast.tw1867096115948556889 : Unit := ()
def PySem.W.Fast.tw14777204246130842161 : Unit := ()
def PySem.W.Fast.tw11843303364214644732 : Unit := ()
def PySem.W.Fast.tw16872062151712544893 : Unit := ()
def PySem.W.Fast.tw12888481451281067235 : Unit := ()
def PySem.W.Fast.tw3942865188563302983 : Unit := ()
def PySem.W.Fast.tw8726916450885094344 : Unit := ()
def PySem.W.Fast.tw8189141369130494446 : Unit := ()
def PySem.W.Fast.tw12365978552180179541 : Unit := ()
def PySem.W.Fast.tw15270946022623102124 : Unit := ()
def PySem.W.Fast.tw3546420591786657591 : Unit := ()
def PySem.W.Fast.tw3043367810914113941 : Unit := ()
def PySem.W.Fast.tw1909603430729878535 : Unit := ()
def PySem.W.Fast.tw15920780762470116177 : Unit := ()
def PySem.W.Fast.tw12714964166953599044 : Unit := ()
def PySem.W.Fast.tw1518524517510892218 : Unit := ()
def PySem.W.Fast.tw15065410518442204238 : Unit := ()
def PySem.W.Fast.tw16519999092242171751 : Unit := ()
def PySem.W.Fast.tw18161849118055493648 : Unit := ()
def PySem.W.Fast.tw11726100749560919713 : Unit := ()
def PySem.W.Fast.tw2810655684041250670 : Unit := ()
def PySem.W.Fast.tw9345203817406796623 : Unit := ()
def PySem.W.Fast.tw8749480776668649042 : Unit := ()
def PySem.W.Fast.tw4696446248350460896 : Unit := ()
def PySem.W.Fast.tw1679985645990876540 : Unit := ()
def PySem.W.Fast.tw12529253370002252546 : Unit := ()
def PySem.W.Fast.tw17200647327993860358 : Unit := ()
def PySem.W.Fast.tw11755588838135498697 : Unit := ()
def PySem.W.Fast.tw9615441475843131194 : Unit := ()
def PySem.W.Fast.tw876576268197906103 : Unit := ()
def PySem.W.Fast.tw16994427006318949486 : Unit := ()
def PySem.W.Fast.tw4454089078901862905 : Unit := ()
def PySem.W.Fast.tw8861044315103638951 : Unit := ()
def PySem.W.Fast.tw4871354225654475479 : Unit := ()
def PySem.W.Fast.tw4646205099159225659 : Unit := ()
def PySem.W.Fast.tw13574420702597651266 : Unit := ()
def PySem.W.Fast.tw14823522174285312767 : Unit := ()
def PySem.W.Fast.tw8919563858870982157 : Unit := ()
def PySem.W.Fast.tw2991788833812239023 : Unit := ()
def PySem.W.Fast.tw17842931165647305732 : Unit := ()
def PySem.W.Fast.tw12507188931168943198 : Unit := ()
def PySem.W.Fast.tw6859127828141539771 : Unit := ()
def PySem.W.Fast.tw18198592991353370611 : Unit := ()
def PySem.W.Fast.tw13545078411625265131 : Unit := ()
def PySem.W.Fast.tw619800079333544607 : Unit := ()
def PySem.W.Fast.tw8245810931910587331 : Unit := ()
def PySem.W.Fast.tw6433685902156957855 : Unit := ()
def PySem.W.Fast.tw1941082035620065386 : Unit := ()
def PySem.W.Fast.tw6810473651047183064 : Unit := ()
def PySem.W.Fast.tw16976428309493923348 : Unit := ()
def PySem.W.Fast.tw1845461034129478198 : Unit := ()
def PySem.W.Fast.tw3901180124634642444 : Unit := ()
def PySem.W.Fast.tw7876619608798561335 : Unit := ()
def PySem.W.Fast.tw2628674929914028815 : Unit := ()
def PySem.W.Fast.tw5082213967773564295 : Unit := ()
def PySem.W.Fast.tw2413238438531735387 : Unit := ()
def PySem.W.Fast.tw7179779452751411045 : Unit := ()
def PySem.W.Fast.tw518250379825284817 : Unit := ()
def PySem.W.Fast.tw8461196005102419771 : Unit := ()
def PySem.W.Fast.tw7275674244012787507 : Unit := ()
def PySem.W.Fast.tw15540974288857491308 : Unit := ()
def PySem.W.Fast.tw13782387930238399845 : Unit := ()
def PySem.W.Fast.tw13536474188619587108 : Unit := ()
def PySem.W.Fast.tw14700071144253079308 : Unit := ()
def PySem.W.Fast.tw10764790540123761999 : Unit := ()
def PySem.W.Fast.tw16836733736524589064 : Unit := ()
def PySem.W.Fast.tw14917891573099408608 : Unit := ()
def PySem.W.Fast.tw5297233383906098177 : Unit := ()
def PySem.W.Fast.tw3947220777073807422 : Unit := ()
def PySem.W.Fast.tw1798598549435297194 : Unit := ()
def PySem.W.Fast.tw2650870936234225738 : Unit := ()
def PySem.W.Fast.tw15924079872470541099 : Unit := ()
def PySem.W.Fast.tw15669962423841725442 : Unit := ()
def PySem.W.Fast.tw14148028024821535143 : Unit := ()
def PySem.W.Fast.tw3037659519935368700 : Unit := ()
def PySem.W.Fast.tw4754533992748653866 : Unit := ()
def PySem.W.Fast.tw12043441436687044092 : Unit := ()
def PySem.W.Fast.tw11460266408176003887 : Unit := ()
def PySem.W.Fast.tw15032369690475586523 : Unit := ()
def PySem.W.Fast.tw18432681644900648030 : Unit := ()
def PySem.W.Fast.tw3954521630272799729 : Unit := ()
def PySem.W.Fast.tw14279175157274831141 : Unit := ()
def PySem.W.Fast.tw9699868151511229837 : Unit := ()
def PySem.W.Fast.tw11280594854632226836 : Unit := ()
def PySem.W.Fast.tw14628783232835336912 : Unit := ()
def PySem.W.Fast.tw4077177217544792685 : Unit := ()
def PySem.W.Fast.tw1373106651361217793 : Unit := ()
def PySem.W.Fast.tw2601972185419469500 : Unit := ()
def PySem.W.Fast.tw5333136400850914180 : Unit := ()
def PySem.W.Fast.tw12208022523144519184 : Unit := ()
def PySem.W.Fast.tw16227099792359482427 : Unit := ()
def PySem.W.Fast.tw9830560651537162668 : Unit := ()
def PySem.W.Fast.tw8273287682193573748 : Unit := ()
def PySem.W.Fast.tw17538575133595536348 : Unit := ()
def PySem.W.Fast.tw6789579769938235928 : Unit := ()
def PySem.W.Fast.tw4692350432553465781 : Unit := ()
def PySem.W.Fast.tw7635590672085096303 : Unit := ()
def PySem.W.Fast.tw16378819012697170243 : Unit := ()
def PySem.W.Fast.tw10109668809936645553 : Unit := ()
def PySem.W.Fast.tw3597348639277739534 : Unit := ()
def PySem.W.Fast.tw757509788543164870 : Unit := ()
def PySem.W.Fast.tw11166143293123158961 : Unit := ()
def PySem.W.Fast.tw15383605503578274082 : Unit := ()
def PySem.W.Fast.tw11770589649387721617 : Unit := ()
def PySem.W.Fast.tw4638570921235014358 : Unit := ()
def PySem.W.Fast.tw12091675492154899015 : Unit := ()
def PySem.W.Fast.tw16479494002320951412 : Unit := ()
def PySem.W.Fast.tw2260022580502413551 : Unit := ()
def PySem.W.Fast.tw10258433295821569092 : Unit := ()
def PySem.W.Fast.tw15257123222067524438 : Unit := ()
def PySem.W.Fast.tw13951365347019771772 : Unit := ()
def PySem.W.Fast.tw3853681192675121472 : Unit := ()
def PySem.W.Fast.tw6063070086111790476 : Unit := ()
def PySem.W.Fast.tw11564949359279441321 : Unit := ()
def PySem.W.Fast.tw8075340690299836449 : Unit := ()
def PySem.W.Fast.tw3469864918203046638 : Unit := ()
def PySem.W.Fast.tw7310753225250559156 : Unit := ()
def PySem.W.Fast.tw1418436586975723306 : Unit := ()
def PySem.W.Fast.tw13893256048168923755 : Unit := ()
def PySem.W.Fast.tw15266271354592582035 : Unit := ()
def PySem.W.Fast.tw9977553695692438710 : Unit := ()
def PySem.W.Fast.tw6020405611806659477 : Unit := ()
def PySem.W.Fast.tw17076454783627409367 : Unit := ()
def PySem.W.Fast.tw6868663344230622658 : Unit := ()
def PySem.W.Fast.tw3384193884962533537 : Unit := ()
def PySem.W.Fast.tw3871704866352089032 : Unit := ()
def PySem.W.Fast.tw6966805261767960146 : Unit := ()
def PySem.W.Fast.tw2348386634167347955 : Unit := ()
def PySem.W.Fast.tw1338949687700566745 : Unit := ()
def PySem.W.Fast.tw11073487773059764422 : Unit := ()
def PySem.W.Fast.tw8518726564803249208 : Unit := ()
def PySem.W.Fast.tw12893706174357705221 : Unit := ()
def PySem.W.Fast.tw9711213836423921926 : Unit := ()
def PySem.W.Fast.tw13965209373687224504 : Unit := ()
def PySem.W.Fast.tw17482592370392963165 : Unit := ()
def PySem.W.Fast.tw12944418040731716955 : Unit := ()
def PySem.W.Fast.tw8504824126620470255 : Unit := ()
def PySem.W.Fast.tw4168363114492808305 : Unit := ()
def PySem.W.Fast.tw248440123242345883 : Unit := ()
def PySem.W.Fast.tw16093032757721850685 : Unit := ()
def PySem.W.Fast.tw11714676376299423616 : Unit := ()
def PySem.W.Fast.tw1350655220891659684 : Unit := ()
def PySem.W.Fast.tw14375349811852068719 : Unit := ()
def PySem.W.Fast.tw13030438640149282700 : Unit := ()
def PySem.W.Fast.tw17586386479643849186 : Unit := ()
def PySem.W.Fast.tw698239089453790164 : Unit := ()
def PySem.W.Fast.tw1674906401085514935 : Unit := ()
def PySem.W.Fast.tw14113481727179393042 : Unit := ()
def PySem.W.Fast.tw4066296883128475920 : Unit := ()
def PySem.W.Fast.tw12553251753232453334 : Unit := ()
def PySem.W.Fast.tw17875701497354252657 : Unit := ()
def PySem.W.Fast.tw5954603471075898635 : Unit := ()
def PySem.W.Fast.tw16613749023286269181 : Unit := ()
def PySem.W.Fast.tw1930089702046689373 : Unit := ()
def PySem.W.Fast.tw13977823222240454901 : Unit := ()
def PySem.W.Fast.tw17614682490695472391 : Unit := ()
def PySem.W.Fast.tw11469684839623678938 : Unit := ()
def PySem.W.Fast.tw8827063422057721919 : Unit := ()
def PySem.W.Fast.tw1258378001515286027 : Unit := ()
def PySem.W.Fast.tw2892585525056248178 : Unit := ()
def PySem.W.Fast.tw15621772081817549953 : Unit := ()
def PySem.W.Fast.tw6400688313920135933 : Unit := ()
def PySem.W.Fast.tw7453401340409949466 : Unit := ()
def PySem.W.Fast.tw9086855818108266042 : Unit := ()
def PySem.W.Fast.tw1876835220321306634 : Unit := ()
def PySem.W.Fast.tw16828734854484667146 : Unit := ()
def PySem.W.Fast.tw14258278893889470542 : Unit := ()
def PySem.W.Fast.tw11661417817358530452 : Unit := ()
def PySem.W.Fast.tw5916644379204701826 : Unit := ()
def PySem.W.Fast.tw2819732424166155491 : Unit := ()
def PySem.W.Fast.tw15566548460696508264 : Unit := ()
def PySem.W.Fast.tw9716958980424851995 : Unit := ()
def PySem.W.Fast.tw16856021706843667879 : Unit := ()
def PySem.W.Fast.tw7581603872961802562 : Unit := ()
def PySem.W.Fast.tw7412074166014776195 : Unit := ()
def PySem.W.Fast.tw17161387323467874081 : Unit := ()
def PySem.W.Fast.tw10471519205318619738 : Unit := ()
def PySem.W.Fast.tw2598463397614793678 : Unit := ()
def PySem.W.Fast.tw3798980393530295319 : Unit := ()
def PySem.W.Fast.tw6687621017947487560 : Unit := ()
def PySem.W.Fast.tw14829726961012299198 : Unit := ()
def PySem.W.Fast.tw4337887126385085947 : Unit := ()
def PySem.W.Fast.tw15168234772281792049 : Unit := ()
def PySem.W.Fast.tw1357193221015156223 : Unit := ()
def PySem.W.Fast.tw7437385372727590238 : Unit := ()
def PySem.W.Fast.tw4921941001846098944 : Unit := ()
def PySem.W.Fast.tw6687351503048423998 : Unit := ()
def PySem.W.Fast.tw11159864261335981638 : Unit := ()
def PySem.W.Fast.tw6289877355114604872 : Unit := ()
def PySem.W.Fast.tw5291451838335248602 : Unit := ()
def PySem.W.Fast.tw933046991527476883 : Unit := ()
def PySem.W.Fast.tw17303146107029743201 : Unit := ()
def PySem.W.Fast.tw7979269073814204267 : Unit := ()
def PySem.W.Fast.tw3771218342230282242 : Unit := ()
def PySem.W.Fast.tw12555090597360443630 : Unit := ()
def PySem.W.Fast.tw9500600696847144273 : Unit := ()
def PySem.W.Fast.tw195084222955059712 : Unit := ()
def PySem.W.Fast.tw12321901657114772751 : Unit := ()
def PySem.W.Fast.tw15734937976022980677 : Unit := ()
def PySem.W.Fast.tw14619784480867147046 : Unit := ()
def PySem.W.Fast.tw6134736848567507187 : Unit := ()
def PySem.W.Fast.tw15408136081763246817 : Unit := ()
def PySem.W.Fast.tw1509455133068132449 : Unit := ()
def PySem.W.Fast.tw2225035427530458032 : Unit := ()
def PySem.W.Fast.tw11745731272707019702 : Unit := ()
def PySem.W.Fast.tw15834348522877480923 : Unit := ()
def PySem.W.Fast.tw16191627620509395495 : Unit := ()
def PySem.W.Fast.tw429020888799015619 : Unit := ()
def PySem.W.Fast.tw12867740754129298875 : Unit := ()
def PySem.W.Fast.tw12985022462199519847 : Unit := ()
def PySem.W.Fast.tw10645094580894238960 : Unit := ()
def PySem.W.Fast.tw2253678054927353346 : Unit := ()
def PySem.W.Fast.tw891817199701964401 : Unit := ()
def PySem.W.Fast.tw3255066052753317733 : Unit := ()
def PySem.W.Fast.tw9448245216451774248 : Unit := ()
def PySem.W.Fast.tw8767915017405515881 : Unit := ()
def PySem.W.Fast.tw10872398017675554560 : Unit := ()
def PySem.W.Fast.tw9872289725375030031 : Unit := ()
def PySem.W.Fast.tw8821820837687819008 : Unit := ()
def PySem.W.Fast.tw16436553007744560627 : Unit := ()
def PySem.W.Fast.tw2783282187872726981 : Unit := ()
def PySem.W.Fast.tw8445918241859371511 : Unit := ()
def PySem.W.Fast.tw17177588070310284173 : Unit := ()
def PySem.W.Fast.tw15482350449984885607 : Unit := ()
def PySem.W.Fast.tw17194242947020523657 : Unit := ()
def PySem.W.Fast.tw3875607647723798955 : Unit := ()
def PySem.W.Fast.tw2709396158102862494 : Unit := ()
def PySem.W.Fast.tw8089183966197754308 : Unit := ()
def PySem.W.Fast.tw13193705658288304153 : Unit := ()
def PySem.W.Fast.tw16685243143874048024 : Unit := ()
def PySem.W.Fast.tw6773611988729199861 : Unit := ()
def PySem.W.Fast.tw9042880965078186617 : Unit := ()
def PySem.W.Fast.tw10881013209341623283 : Unit := ()
def PySem.W.Fast.tw14294561423816613178 : Unit := ()
def PySem.W.Fast.tw9987549901647103882 : Unit := ()
def PySem.W.Fast.tw5539036977781792267 : Unit := ()
def PySem.W.Fast.tw1172596410136738396 : Unit := ()
def PySem.W.Fast.tw10570556284505079935 : Unit := ()
def PySem.W.Fast.tw12730280046763526093 : Unit := ()
def PySem.W.Fast.tw10112366498872125798 : Unit := ()
def PySem.W.Fast.tw17126439067226787826 : Unit := ()
def PySem.W.Fast.tw9165180586461375097 : Unit := ()
def PySem.W.Fast.tw17768349457306252736 : Unit := ()
def PySem.W.Fast.tw17783722488979004450 : Unit := ()
def PySem.W.Fast.tw3442784418268488564 : Unit := ()
def PySem.W.Fast.tw4291754994227943667 : Unit := ()
def PySem.W.Fast.tw17359004213465996126 : Unit := ()
def PySem.W.Fast.tw1375357161854174117 : Unit := ()
def PySem.W.Fast.tw13405015947823144231 : Unit := ()
def PySem.W.Fast.tw5064677007766115534 : Unit := ()
def PySem.W.Fast.tw4651017062165060959 : Unit := ()
def PySem.W.Fast.tw261347029158894671 : Unit := ()
def PySem.W.Fast.tw12358447866831125047 : Unit := ()
def PySem.W.Fast.tw3895082957976123851 : Unit := ()
def PySem.W.Fast.tw12128548852363565809 : Unit := ()
def PySem.W.Fast.tw12043649123406863002 : Unit := ()
def PySem.W.Fast.tw9818192753345189405 : Unit := ()
def PySem.W.Fast.tw14477153526294876992 : Unit := ()
def PySem.W.Fast.tw793917933815467085 : Unit := ()
def PySem.W.Fast.tw2351319791973402183 : Unit := ()
def PySem.W.Fast.tw2285653896682160820 : Unit := ()
def PySem.W.Fast.tw3035580363007073621 : Unit := ()
def PySem.W.Fast.tw13844838358767670952 : Unit := ()
def PySem.W.Fast.tw3710500203123276589 : Unit := ()
def PySem.W.Fast.tw11751930285629870422 : Unit := ()
def PySem.W.Fast.tw4885078586372408821 : Unit := ()
def PySem.W.Fast.tw13798372043979766370 : Unit := ()
def PySem.W.Fast.tw1912471034688614741 : Unit := ()
def PySem.W.Fast.tw8445493052699659547 : Unit := ()
def PySem.W.Fast.tw5792458901857373494 : Unit := ()
def PySem.W.Fast.tw12729621191100396350 : Unit := ()
def PySem.W.Fast.tw2280802781897105044 : Unit := ()
def PySem.W.Fast.tw18296599673341975144 : Unit := ()
def PySem.W.Fast.tw7148008202931793938 : Unit := ()
def PySem.W.Fast.tw9204072304711182160 : Unit := ()
def PySem.W.Fast.tw2905257190915479101 : Unit := ()
def PySem.W.Fast.tw11179332963142199666 : Unit := ()
def PySem.W.Fast.tw11084119180187375655 : Unit := ()
def PySem.W.Fast.tw11538816322250838358 : Unit := ()
def PySem.W.Fast.tw4513188811825979052 : Unit := ()
def PySem.W.Fast.tw15557717178782667238 : Unit := ()
def PySem.W.Fast.tw1972438771498611854 : Unit := ()
def PySem.W.Fast.tw16046869223564686563 : Unit := ()
def PySem.W.Fast.tw15053080334473687302 : Unit := ()
def PySem.W.Fast.tw9700595465092458338 : Unit := ()
def PySem.W.Fast.tw9866802965108155239 : Unit := ()
def PySem.W.Fast.tw11317762876583451253 : Unit := ()
def PySem.W.Fast.tw5899546434658496828 : Unit := ()
def PySem.W.Fast.tw16630257574969017415 : Unit := ()
def PySem.W.Fast.tw6297486646959795124 : Unit := ()
def PySem.W.Fast.tw6993517261082967138 : Unit := ()
def PySem.W.Fast.tw7736106061701583108 : Unit := ()
def PySem.W.Fast.tw9914661403753674544 : Unit := ()
def PySem.W.Fast.tw16106168442805456091 : Unit := ()
def PySem.W.Fast.tw15249267701656624465 : Unit := ()
def PySem.W.Fast.tw13999512489761116558 : Unit := ()
def PySem.W.Fast.tw5438524570456180595 : Unit := ()
def PySem.W.Fast.tw6692440635812945158 : Unit := ()
def PySem.W.Fast.tw17896921605471109456 : Unit := ()
def PySem.W.Fast.tw8997161021655925524 : Unit := ()
def PySem.W.Fast.tw5964019387458676474 : Unit := ()
def PySem.W.Fast.tw2492946511349002624 : Unit := ()
def PySem.W.Fast.tw17459029245276909393 : Unit := ()
def PySem.W.Fast.tw9637743929531510522 : Unit := ()
def PySem.W.Fast.tw15047233479301335713 : Unit := ()
def PySem.W.Fast.tw1289249454413227029 : Unit := ()
def PySem.W.Fast.tw9094052119718094887 : Unit := ()
def PySem.W.Fast.tw11086446701765976970 : Unit := ()
def PySem.W.Fast.tw6390291214023428299 : Unit := ()
def PySem.W.Fast.tw4354663720074731505 : Unit := ()
def PySem.W.Fast.tw8714106881136498085 : Unit := ()
def PySem.W.Fast.tw9157834786805976177 : Unit := ()
def PySem.W.Fast.tw11509035537948987267 : Unit := ()
def PySem.W.Fast.tw13557044234062119285 : Unit := ()
def PySem.W.Fast.tw2429743678388266643 : Unit := ()
def PySem.W.Fast.tw5376522754077350026 : Unit := ()
def PySem.W.Fast.tw11637704775790072995 : Unit := ()
def PySem.W.Fast.tw11294383506005499420 : Unit := ()
def PySem.W.Fast.tw14414949001206466863 : Unit := ()
def PySem.W.Fast.tw3151578384622264624 : Unit := ()
def PySem.W.Fast.tw18139857317530978507 : Unit := ()
def PySem.W.Fast.tw12712816642624504598 : Unit := ()
def PySem.W.Fast.tw1109015389901475917 : Unit := ()
def PySem.W.Fast.tw10171938385272872002 : Unit := ()
def PySem.W.Fast.tw7538571073954911668 : Unit := ()
def PySem.W.Fast.tw8080092681911342253 : Unit := ()
def PySem.W.Fast.tw5419565373551995275 : Unit := ()
def PySem.W.Fast.tw17148355107117890871 : Unit := ()
def PySem.W.Fast.tw1256000350736160573 : Unit := ()
def PySem.W.Fast.tw4741691726050578263 : Unit := ()
def PySem.W.Fast.tw7443716248974390066 : Unit := ()
def PySem.W.Fast.tw12758162597108533897 : Unit := ()
def PySem.W.Fast.tw14656234933525435089 : Unit := ()
def PySem.W.Fast.tw5300512015896197183 : Unit := ()
def PySem.W.Fast.tw8945559980925194729 : Unit := ()
def PySem.W.Fast.tw17718136761891257027 : Unit := ()
def PySem.W.Fast.tw12551874571281835417 : Unit := ()
def PySem.W.Fast.tw3820503749098405768 : Unit := ()
def PySem.W.Fast.tw484300298793473133 : Unit := ()
def PySem.W.Fast.tw16774116202890845727 : Unit := ()
def PySem.W.Fast.tw8375651848030453474 : Unit := ()
def PySem.W.Fast.tw1959805228042660918 : Unit := ()
def PySem.W.Fast.tw745424919542121712 : Unit := ()
def PySem.W.Fast.tw6010099300105982702 : Unit := ()
def PySem.W.Fast.tw5831268616254878946 : Unit := ()
def PySem.W.Fast.tw11705399946676968578 : Unit := ()
def PySem.W.Fast.tw5116007335322257686 : Unit := ()
def PySem.W.Fast.tw10734801338011303071 : Unit := ()
def PySem.W.Fast.tw5438870677559589080 : Unit := ()
def PySem.W.Fast.tw4890343090181292630 : Unit := ()
def PySem.W.Fast.tw8095967707553346505 : Unit := ()
def PySem.W.Fast.tw1753878882316181014 : Unit := ()
def PySem.W.Fast.tw2283965818041950823 : Unit := ()
def PySem.W.Fast.tw15306286115589130898 : Unit := ()
def PySem.W.Fast.tw16539053239239298451 : Unit := ()
def PySem.W.Fast.tw9038837800511013822 : Unit := ()
def PySem.W.Fast.tw1617149134832845768 : Unit := ()
def PySem.W.Fast.tw2151479957896150752 : Unit := ()
def PySem.W.Fast.tw7124878877740311871 : Unit := ()
def PySem.W.Fast.tw292965877946410406 : Unit := ()
def PySem.W.Fast.tw15476800274757132369 : Unit := ()
def PySem.W.Fast.tw14070233833931346692 : Unit := ()
def PySem.W.Fast.tw15284454275187222726 : Unit := ()
def PySem.W.Fast.tw14217718985967044147 : Unit := ()
def PySem.W.Fast.tw17812075618171637550 : Unit := ()
def PySem.W.Fast.tw17778871630361843601 : Unit := ()
def PySem.W.Fast.tw7790547544929515398 : Unit := ()
def PySem.W.Fast.tw8100580803030169981 : Unit := ()
def PySem.W.Fast.tw5632376014748257825 : Unit := ()
def PySem.W.Fast.tw10605898824587076470 : Unit := ()
def PySem.W.Fast.tw15071212241884261575 : Unit := ()
def PySem.W.Fast.tw6742889537373075082 : Unit := ()
def PySem.W.Fast.tw7218421465870261488 : Unit := ()
def PySem.W.Fast.tw12214887810448232610 : Unit := ()
def PySem.W.Fast.tw14506528371517194031 : Unit := ()
def PySem.W.Fast.tw18128746858714484387 : Unit := ()
def PySem.W.Fast.tw12715929095048575897 : Unit := ()
def PySem.W.Fast.tw16827709761630473440 : Unit := ()
def PySem.W.Fast.tw14114814395866944128 : Unit := ()
def PySem.W.Fast.tw2898223065203904182 : Unit := ()
def PySem.W.Fast.tw2311196499225661175 : Unit := ()
def PySem.W.Fast.tw15291310443624236622 : Unit := ()
def PySem.W.Fast.tw665639888501943105 : Unit := ()
def PySem.W.Fast.tw15280035324524129175 : Unit := ()
def PySem.W.Fast.tw18297857015781938602 : Unit := ()
def PySem.W.Fast.tw14114435640739138444 : Unit := ()
def PySem.W.Fast.tw6975507282252614362 : Unit := ()
def PySem.W.Fast.tw10150732062454896924 : Unit := ()
def PySem.W.Fast.tw12850294377839716996 : Unit := ()
def PySem.W.Fast.tw17285619096379140231 : Unit := ()
def PySem.W.Fast.tw14430852586156075931 : Unit := ()
def PySem.W.Fast.tw1155244044886703390 : Unit := ()
def PySem.W.Fast.tw9478820860217931481 : Unit := ()
def PySem.W.Fast.tw7594737674582049884 : Unit := ()
def PySem.W.Fast.tw17513883294007148458 : Unit := ()
def PySem.W.Fast.tw8681958241130751047 : Unit := ()
def PySem.W.Fast.tw8262892909664916633 : Unit := ()
def PySem.W.Fast.tw12307464173142236904 : Unit := ()
def PySem.W.Fast.tw4273038773762034620 : Unit := ()
def PySem.W.Fast.tw8646977195384647940 : Unit := ()
def PySem.W.Fast.tw36264913786842158 : Unit := ()
def PySem.W.Fast.tw7164506834433508267 : Unit := ()
def PySem.W.Fast.tw16886338133610085970 : Unit := ()
def PySem.W.Fast.tw18362554118158934749 : Unit := ()
def PySem.W.Fast.tw57189802333021946 : Unit := ()
def PySem.W.Fast.tw363890660653339439 : Unit := ()
def PySem.W.Fast.tw15127031524963448592 : Unit := ()
def PySem.W.Fast.tw11375711548890876631 : Unit := ()
def PySem.W.Fast.tw10619272521012397317 : Unit := ()
def PySem.W.Fast.tw11488591824786057626 : Unit := ()
def PySem.W.Fast.tw12636498257288763795 : Unit := ()
def PySem.W.Fast.tw1336154850700369112 : Unit := ()
def PySem.W.Fast.tw13898494493267364123 : Unit := ()
def PySem.W.Fast.tw5575133520684055818 : Unit := ()
def PySem.W.Fast.tw783674223864510435 : Unit := ()
def PySem.W.Fast.tw16971506270476133137 : Unit := ()
def PySem.W.Fast.tw7118583259445026236 : Unit := ()
def PySem.W.Fast.tw4124084224246389345 : Unit := ()
def PySem.W.Fast.tw14277215024352621857 : Unit := ()
def PySem.W.Fast.tw3886604094923613583 : Unit := ()
def PySem.W.Fast.tw8063796591337964672 : Unit := ()
def PySem.W.Fast.tw13525577404138780705 : Unit := ()
def PySem.W.Fast.tw15934807042244723409 : Unit := ()
def PySem.W.Fast.tw12585764914878329272 : Unit := ()
def PySem.W.Fast.tw9026558911391105098 : Unit := ()
def PySem.W.Fast.tw1998667891323435004 : Unit := ()
def PySem.W.Fast.tw15961975002418249579 : Unit := ()
def PySem.W.Fast.tw7530120154403518946 : Unit := ()
def PySem.W.Fast.tw5696834053695757290 : Unit := ()
def PySem.W.Fast.tw10106770993906043657 : Unit := ()
def PySem.W.Fast.tw14208161033612955808 : Unit := ()
def PySem.W.Fast.tw6196109446657084097 : Unit := ()
def PySem.W.Fast.tw13925814221151931008 : Unit := ()
def PySem.W.Fast.tw1507362301136546608 : Unit := ()
def PySem.W.Fast.tw6687206796858585013 : Unit := ()
def PySem.W.Fast.tw14837414429958986695 : Unit := ()
def PySem.W.Fast.tw603655611998831875 : Unit := ()
def PySem.W.Fast.tw9411099341507237619 : Unit := ()
def PySem.W.Fast.tw15773426691692688519 : Unit := ()
def PySem.W.Fast.tw4616157472221246653 : Unit := ()
def PySem.W.Fast.tw10554246526742100993 : Unit := ()
def PySem.W.Fast.tw10265600468298970321 : Unit := ()
def PySem.W.Fast.tw9211415901764560316 : Unit := ()
def PySem.W.Fast.tw12446623390806091718 : Unit := ()
def PySem.W.Fast.tw1491757143383080201 : Unit := ()
def PySem.W.Fast.tw7778394995521076990 : Unit := ()
def PySem.W.Fast.tw4213358910675454075 : Unit := ()
def PySem.W.Fast.tw7342532201223273043 : Unit := ()
def PySem.W.Fast.tw2015299254436967128 : Unit := ()
def PySem.W.Fast.tw3125433541891210734 : Unit := ()
def PySem.W.Fast.tw13074316074141796142 : Unit := ()
def PySem.W.Fast.tw14668541848990912940 : Unit := ()
def PySem.W.Fast.tw10635199122625185687 : Unit := ()
def PySem.W.Fast.tw11148656192813605505 : Unit := ()
def PySem.W.Fast.tw3670765203104302853 : Unit := ()
def PySem.W.Fast.tw17666228210061659029 : Unit := ()
def PySem.W.Fast.tw3539148336277976453 : Unit := ()
def PySem.W.Fast.tw14887537528403920372 : Unit := ()
def PySem.W.Fast.tw6523902731145684536 : Unit := ()
def PySem.W.Fast.tw740403859608010668 : Unit := ()
def PySem.W.Fast.tw7422408711549876235 : Unit := ()
def PySem.W.Fast.tw2825690899078308745 : Unit := ()
def PySem.W.Fast.tw6686720532780247341 : Unit := ()
def PySem.W.Fast.tw15838953432486129672 : Unit := ()
def PySem.W.Fast.tw386346300803594389 : Unit := ()
def PySem.W.Fast.tw6174000413495314967 : Unit := ()
def PySem.W.Fast.tw16567814368098534171 : Unit := ()
def PySem.W.Fast.tw4504162452057964173 : Unit := ()
def PySem.W.Fast.tw5869496995369608728 : Unit := ()
def PySem.W.Fast.tw14567430678578128628 : Unit := ()
def PySem.W.Fast.tw18378688368903906131 : Unit := ()
def PySem.W.Fast.tw17812409517558563738 : Unit := ()
def PySem.W.Fast.tw8323760914330537233 : Unit := ()
def PySem.W.Fast.tw440849481115597233 : Unit := ()
def PySem.W.Fast.tw14291188656203063587 : Unit := ()
def PySem.W.Fast.tw9133071867900478845 : Unit := ()
def PySem.W.Fast.tw9045704210262203814 : Unit := ()
def PySem.W.Fast.tw3664998197967800626 : Unit := ()
def PySem.W.Fast.tw9891600134379337145 : Unit := ()
def PySem.W.Fast.tw16262353075831814284 : Unit := ()
def PySem.W.Fast.tw9154369923857809279 : Unit := ()
def PySem.W.Fast.tw30498979332843119 : Unit := ()
def PySem.W.Fast.tw9754202030332304763 : Unit := ()
def PySem.W.Fast.tw6399178154471557199 : Unit := ()
def PySem.W.Fast.tw13734852193770335747 : Unit := ()
def PySem.W.Fast.tw6694621765736537025 : Unit := ()
def PySem.W.Fast.tw6123470565226751263 : Unit := ()
def PySem.W.Fast.tw5890454225569512586 : Unit := ()
def PySem.W.Fast.tw11098433389306815258 : Unit := ()
def PySem.W.Fast.tw721645746641633863 : Unit := ()
def PySem.W.Fast.tw5804878063306529334 : Unit := ()
def PySem.W.Fast.tw3328721942416954731 : Unit := ()
def PySem.W.Fast.tw5351222652815720452 : Unit := ()
def PySem.W.Fast.tw10310359385729810001 : Unit := ()
def PySem.W.Fast.tw1389841992273410554 : Unit := ()
def PySem.W.Fast.tw10075594620121767815 : Unit := ()
def PySem.W.Fast.tw862146324087816676 : Unit := ()
def PySem.W.Fast.tw6321922957126184796 : Unit := ()
def PySem.W.Fast.tw6736132350493171516 : Unit := ()
def PySem.W.Fast.tw4451567315918296414 : Unit := ()
def PySem.W.Fast.tw15236873664473545798 : Unit := ()
def PySem.W.Fast.tw9159070640453482302 : Unit := ()
def PySem.W.Fast.tw6156428906543355138 : Unit := ()
def PySem.W.Fast.tw5099176628532191993 : Unit := ()
def PySem.W.Fast.tw13671355810091990045 : Unit := ()
def PySem.W.Fast.tw10730725474948442812 : Unit := ()
def PySem.W.Fast.tw14171489805495866684 : Unit := ()
def PySem.W.Fast.tw1468961754321356288 : Unit := ()
def PySem.W.Fast.tw10284105734297521382 : Unit := ()
def PySem.W.Fast.tw12964219573704039441 : Unit := ()
def PySem.W.Fast.tw5299751046348107851 : Unit := ()
def PySem.W.Fast.tw14580260881452959359 : Unit := ()
def PySem.W.Fast.tw6170389194408870783 : Unit := ()
def PySem.W.Fast.tw15826711072690217375 : Unit := ()
def PySem.W.Fast.tw5530683225294367393 : Unit := ()
def PySem.W.Fast.tw15628331662959867053 : Unit := ()
def PySem.W.Fast.tw4831237613501417731 : Unit := ()
def PySem.W.Fast.tw11490989238477384495 : Unit := ()
def PySem.W.Fast.tw5716080553126663634 : Unit := ()
def PySem.W.Fast.tw17274803597847996898 : Unit := ()
def PySem.W.Fast.tw7289675149177994023 : Unit := ()
def PySem.W.Fast.tw13704842017847918461 : Unit := ()
def PySem.W.Fast.tw10501656162940943578 : Unit := ()
def PySem.W.Fast.tw14794221068386887496 : Unit := ()
def PySem.W.Fast.tw6726039341580224690 : Unit := ()
def PySem.W.Fast.tw9539535229418726364 : Unit := ()
def PySem.W.Fast.tw11605931400767661367 : Unit := ()
def PySem.W.Fast.tw2961263677000464816 : Unit := ()
def PySem.W.Fast.tw3258840967315825181 : Unit := ()
def PySem.W.Fast.tw8810590890670247626 : Unit := ()
def PySem.W.Fast.tw15825262862928169604 : Unit := ()
def PySem.W.Fast.tw5492063499189557553 : Unit := ()
def PySem.W.Fast.tw16646219486530565275 : Unit := ()
def PySem.W.Fast.tw5457038438711819830 : Unit := ()
def PySem.W.Fast.tw16843796037870992686 : Unit := ()
def PySem.W.Fast.tw1930779656401483678 : Unit := ()
def PySem.W.Fast.tw7106464563559585642 : Unit := ()
def PySem.W.Fast.tw3699415386050527755 : Unit := ()
def PySem.W.Fast.tw5557782650788317876 : Unit := ()
def PySem.W.Fast.tw3035415021957387485 : Unit := ()
def PySem.W.Fast.tw2364281490992278869 : Unit := ()
def PySem.W.Fast.tw2304203549038199653 : Unit := ()
def PySem.W.Fast.tw4455770387339978668 : Unit := ()
def PySem.W.Fast.tw12833078074651356026 : Unit := ()
def PySem.W.Fast.tw10704415391443867366 : Unit := ()
def PySem.W.Fast.tw502868537211263160 : Unit := ()
def PySem.W.Fast.tw4379250134371462772 : Unit := ()
def PySem.W.Fast.tw11161109072285269849 : Unit := ()
def PySem.W.Fast.tw2109145778210922553 : Unit := ()
def PySem.W.Fast.tw5820964868778354514 : Unit := ()
def PySem.W.Fast.tw3163719494306204096 : Unit := ()
def PySem.W.Fast.tw1516594896136428242 : Unit := ()
def PySem.W.Fast.tw1448684241123914039 : Unit := ()
def PySem.W.Fast.tw4655528873802872525 : Unit := ()
def PySem.W.Fast.tw2304910611587227 : Unit := ()
def PySem.W.Fast.tw4052141123701138690 : Unit := ()
def PySem.W.Fast.tw8639948142264685263 : Unit := ()
def PySem.W.Fast.tw8969635533149233384 : Unit := ()
def PySem.W.Fast.tw6051455482513184339 : Unit := ()
def PySem.W.Fast.tw16532960959125436961 : Unit := ()
def PySem.W.Fast.tw9018251692970330116 : Unit := ()
def PySem.W.Fast.tw9301941963432944166 : Unit := ()
def PySem.W.Fast.tw214303093486232245 : Unit := ()
def PySem.W.Fast.tw8714032198768692413 : Unit := ()
def PySem.W.Fast.tw6846339884232261721 : Unit := ()
def PySem.W.Fast.tw8083578483693392197 : Unit := ()
def PySem.W.Fast.tw7958624663409569275 : Unit := ()
def PySem.W.Fast.tw17172612553544327781 : Unit := ()
def PySem.W.Fast.tw1005775246931399361 : Unit := ()
def PySem.W.Fast.tw7519292667110513881 : Unit := ()
def PySem.W.Fast.tw9118204701145218554 : Unit := ()
def PySem.W.Fast.tw13026747305214042366 : Unit := ()
def PySem.W.Fast.tw4903051097379263713 : Unit := ()
def PySem.W.Fast.tw12734520544188781728 : Unit := ()
def PySem.W.Fast.tw16217899774249180791 : Unit := ()
def PySem.W.Fast.tw7403177931130886356 : Unit := ()
def PySem.W.Fast.tw15285133330468358358 : Unit := ()
def PySem.W.Fast.tw7815895494590570529 : Unit := ()
def PySem.W.Fast.tw12572037838624983644 : Unit := ()
def PySem.W.Fast.tw2455064457017511109 : Unit := ()
def PySem.W.Fast.tw4693222485824994156 : Unit := ()
def PySem.W.Fast.tw10727494480206510393 : Unit := ()
def PySem.W.Fast.tw4196451881290053028 : Unit := ()
def PySem.W.Fast.tw15756178008577057305 : Unit := ()
def PySem.W.Fast.tw6148454028414689899 : Unit := ()
def PySem.W.Fast.tw107148774512037072 : Unit := ()
def PySem.W.Fast.tw6257955778250999820 : Unit := ()
def PySem.W.Fast.tw11147477914323638004 : Unit := ()
def PySem.W.Fast.tw6070695507079521085 : Unit := ()
def PySem.W.Fast.tw18312790741238432192 : Unit := ()
def PySem.W.Fast.tw8405531193909844291 : Unit := ()
def PySem.W.Fast.tw13334449139729467154 : Unit := ()
def PySem.W.Fast.tw7181075267593908969 : Unit := ()
def PySem.W.Fast.tw16501106321515463068 : Unit := ()
def PySem.W.Fast.tw2886275127686131357 : Unit := ()
def PySem.W.Fast.tw13377824839225269961 : Unit := ()
def PySem.W.Fast.tw1646128320265672549 : Unit := ()
def PySem.W.Fast.tw8091087881517592006 : Unit := ()
def PySem.W.Fast.tw13769771357093013709 : Unit := ()
def PySem.W.Fast.tw15167028366848473723 : Unit := ()
def PySem.W.Fast.tw16648416555054708492 : Unit := ()
def PySem.W.Fast.tw369700485947447622 : Unit := ()
def PySem.W.Fast.tw14690337264300137675 : Unit := ()
def PySem.W.Fast.tw2753498190418277295 : Unit := ()
def PySem.W.Fast.tw12365323742374716882 : Unit := ()
def PySem.W.Fast.tw4396785363547991008 : Unit := ()
def PySem.W.Fast.tw3349634674429816289 : Unit := ()
def PySem.W.Fast.tw7864481918997843020 : Unit := ()
def PySem.W.Fast.tw10195453100850935626 : Unit := ()
def PySem.W.Fast.tw1184735279473715642 : Unit := ()
def PySem.W.Fast.tw13119309213811857773 : Unit := ()
def PySem.W.Fast.tw18362958154613693873 : Unit := ()
def PySem.W.Fast.tw15475587916195279078 : Unit := ()
def PySem.W.Fast.tw5431816829877674748 : Unit := ()
def PySem.W.Fast.tw16621984366689165926 : Unit := ()
def PySem.W.Fast.tw13889401786652863529 : Unit := ()
def PySem.W.Fast.tw16870016058248896272 : Unit := ()
def PySem.W.Fast.tw10684092099626134226 : Unit := ()
def PySem.W.Fast.tw3596140871101108346 : Unit := ()
def PySem.W.Fast.tw12377306794824203577 : Unit := ()
def PySem.W.Fast.tw11702938832706792099 : Unit := ()
def PySem.W.Fast.tw11231129131412694760 : Unit := ()
def PySem.W.Fast.tw5372127846580492675 : Unit := ()
def PySem.W.Fast.tw5701321317444988569 : Unit := ()
def PySem.W.Fast.tw3333891838170861913 : Unit := ()
def PySem.W.Fast.tw753398057700286946 : Unit := ()
def PySem.W.Fast.tw269310056964542683 : Unit := ()
def PySem.W.Fast.tw14883204051248904355 : Unit := ()
def PySem.W.Fast.tw12155970888719425709 : Unit := ()
def PySem.W.Fast.tw6663631792024273460 : Unit := ()
def PySem.W.Fast.tw13926125995752605129 : Unit := ()
def PySem.W.Fast.tw15497202223620988481 : Unit := ()
def PySem.W.Fast.tw12495016080722663529 : Unit := ()
def PySem.W.Fast.tw8199920689872077390 : Unit := ()
def PySem.W.Fast.tw4292131127811623929 : Unit := ()
def PySem.W.Fast.tw16304278041603472464 : Unit := ()
def PySem.W.Fast.tw480193208031257099 : Unit := ()
def PySem.W.Fast.tw18078182737676820916 : Unit := ()
def PySem.W.Fast.tw7247339416506740378 : Unit := ()
def PySem.W.Fast.tw15696015893126569280 : Unit := ()
def PySem.W.Fast.tw3341743257923514043 : Unit := ()
def PySem.W.Fast.tw2271432423213174880 : Unit := ()
def PySem.W.Fast.tw8042356024983220445 : Unit := ()
def PySem.W.Fast.tw1855005241711704105 : Unit := ()
def PySem.W.Fast.tw2066094345319320596 : Unit := ()
def PySem.W.Fast.tw1683245077285754731 : Unit := ()
def PySem.W.Fast.tw4691530843843412716 : Unit := ()
def PySem.W.Fast.tw11381219363259079374 : Unit := ()
def PySem.W.Fast.tw12415895618707249997 : Unit := ()
def PySem.W.Fast.tw5416179577628223945 : Unit := ()
def PySem.W.Fast.tw7081647083194495733 : Unit := ()
def PySem.W.Fast.tw14546037095513797474 : Unit := ()
def PySem.W.Fast.tw6676493910004866342 : Unit := ()
def PySem.W.Fast.tw5190094536456031603 : Unit := ()
def PySem.W.Fast.tw10440728688965933401 : Unit := ()
def PySem.W.Fast.tw1584523119450935782 : Unit := ()
def PySem.W.Fast.tw2800665349868396230 : Unit := ()
def PySem.W.Fast.tw15034175218404125200 : Unit := ()
def PySem.W.Fast.tw9859276213950839739 : Unit := ()
def PySem.W.Fast.tw6764108409797112712 : Unit := ()
def PySem.W.Fast.tw17794901428996622113 : Unit := ()
def PySem.W.Fast.tw7311371776730948454 : Unit := ()
def PySem.W.Fast.tw9921537149576496909 : Unit := ()
def PySem.W.Fast.tw9903771366306047456 : Unit := ()
def PySem.W.Fast.tw11208623957859994573 : Unit := ()
def PySem.W.Fast.tw2379161912682240305 : Unit := ()
def PySem.W.Fast.tw6041264991196005018 : Unit := ()
def PySem.W.Fast.tw2636957303658062401 : Unit := ()
def PySem.W.Fast.tw11160497033298135219 : Unit := ()
def PySem.W.Fast.tw9597997811148570788 : Unit := ()
def PySem.W.Fast.tw2150797122547914246 : Unit := ()
def PySem.W.Fast.tw505368542187401971 : Unit := ()
def PySem.W.Fast.tw16493956563175491797 : Unit := ()
def PySem.W.Fast.tw1896560703740073322 : Unit := ()
def PySem.W.Fast.tw7744382741672468772 : Unit := ()
def PySem.W.Fast.tw5035919493907448857 : Unit := ()
def PySem.W.Fast.tw4002186178200635939 : Unit := ()
def PySem.W.Fast.tw3974094797638977916 : Unit := ()
def PySem.W.Fast.tw5960774738914051990 : Unit := ()
def PySem.W.Fast.tw11035021468952928046 : Unit := ()
def PySem.W.Fast.tw14425912485804793810 : Unit := ()
def PySem.W.Fast.tw16445078802082733905 : Unit := ()
def PySem.W.Fast.tw15642684592784620115 : Unit := ()
def PySem.W.Fast.tw1950506897693870067 : Unit := ()
def PySem.W.Fast.tw1717077521817204158 : Unit := ()
def PySem.W.Fast.tw17955692339640741455 : Unit := ()
def PySem.W.Fast.tw7188912714677074935 : Unit := ()
def PySem.W.Fast.tw1111223142216053815 : Unit := ()
def PySem.W.Fast.tw9755282682105609738 : Unit := ()
def PySem.W.Fast.tw13134052953619056650 : Unit := ()
def PySem.W.Fast.tw5142381934941524389 : Unit := ()
def PySem.W.Fast.tw4048773436475022522 : Unit := ()
def PySem.W.Fast.tw17678398421660206910 : Unit := ()
def PySem.W.Fast.tw5190340866376496365 : Unit := ()
def PySem.W.Fast.tw15251252799108707305 : Unit := ()
def PySem.W.Fast.tw7015222638104478291 : Unit := ()
def PySem.W.Fast.tw1099671306128294956 : Unit := ()
def PySem.W.Fast.tw15606686609086259553 : Unit := ()
def PySem.W.Fast.tw15281334998908327450 : Unit := ()
def PySem.W.Fast.tw9750443796947911675 : Unit := ()
def PySem.W.Fast.tw2494680518067641875 : Unit := ()
def PySem.W.Fast.tw15641538690705906347 : Unit := ()
def PySem.W.Fast.tw8208475352781811035 : Unit := ()
def PySem.W.Fast.tw4971707682430888178 : Unit := ()
def PySem.W.Fast.tw7000749530598753981 : Unit := ()
def PySem.W.Fast.tw13367490587541166943 : Unit := ()
def PySem.W.Fast.tw17045882458836821696 : Unit := ()
def PySem.W.Fast.tw310708406320545992 : Unit := ()
def PySem.W.Fast.tw30183034494637609 : Unit := ()
def PySem.W.Fast.tw5469535905450621870 : Unit := ()
def PySem.W.Fast.tw11056889394857009567 : Unit := ()
def PySem.W.Fast.tw12165425924259118647 : Unit := ()
def PySem.W.Fast.tw14079318729919645582 : Unit := ()
def PySem.W.Fast.tw11920034651625530709 : Unit := ()
def PySem.W.Fast.tw5173219823641396986 : Unit := ()
def PySem.W.Fast.tw6215657907880514900 : Unit := ()
def PySem.W.Fast.tw7124313885386244096 : Unit := ()
def PySem.W.Fast.tw526961123229648126 : Unit := ()
def PySem.W.Fast.tw17672866038503683501 : Unit := ()
def PySem.W.Fast.tw10761106883166292929 : Unit := ()
def PySem.W.Fast.tw1015447495869420629 : Unit := ()
def PySem.W.Fast.tw725693075211222959 : Unit := ()
def PySem.W.Fast.tw2428826853828344622 : Unit := ()
def PySem.W.Fast.tw15353473770242524500 : Unit := ()
def PySem.W.Fast.tw3857839247054683521 : Unit := ()
def PySem.W.Fast.tw2082508292745487915 : Unit := ()
def PySem.W.Fast.tw4593664103753712194 : Unit := ()
def PySem.W.Fast.tw1326700752854136832 : Unit := ()
def PySem.W.Fast.tw6203246017903336213 : Unit := ()
def PySem.W.Fast.tw8257334516527836940 : Unit := ()
def PySem.W.Fast.tw14589186892330050066 : Unit := ()
def PySem.W.Fast.tw990916410835760874 : Unit := ()
def PySem.W.Fast.tw16578028879634890844 : Unit := ()
def PySem.W.Fast.tw13315882580821502511 : Unit := ()
def PySem.W.Fast.tw10076919335742015467 : Unit := ()
def PySem.W.Fast.tw11831402338570217360 : Unit := ()
def PySem.W.Fast.tw15501391306434857783 : Unit := ()
def PySem.W.Fast.tw511034687395269449 : Unit := ()
def PySem.W.Fast.tw10301715405137042538 : Unit := ()
def PySem.W.Fast.tw1401781775786089081 : Unit := ()
def PySem.W.Fast.tw13617218741086202251 : Unit := ()
def PySem.W.Fast.tw8613264204292913747 : Unit := ()
def PySem.W.Fast.tw9874835148167124992 : Unit := ()
def PySem.W.Fast.tw10682479089492982313 : Unit := ()
def PySem.W.Fast.tw9920507524998234434 : Unit := ()
def PySem.W.Fast.tw17922425369912417475 : Unit := ()
def PySem.W.Fast.tw11363258522822124832 : Unit := ()
def PySem.W.Fast.tw18120762195182546003 : Unit := ()
def PySem.W.Fast.tw9543546539455184932 : Unit := ()
def PySem.W.Fast.tw15465515845330268564 : Unit := ()
def PySem.W.Fast.tw4038993220318289482 : Unit := ()
def PySem.W.Fast.tw14051459223054013281 : Unit := ()
def PySem.W.Fast.tw12661016972696858400 : Unit := ()
def PySem.W.Fast.tw3354605174035632217 : Unit := ()
def PySem.W.Fast.tw1628353296259054506 : Unit := ()
def PySem.W.Fast.tw4224728167461186695 : Unit := ()
def PySem.W.Fast.tw357219754676201400 : Unit := ()
def PySem.W.Fast.tw804066220460113486 : Unit := ()
def PySem.W.Fast.tw7914906043261817625 : Unit := ()
def PySem.W.Fast.tw18066960802314597626 : Unit := ()
def PySem.W.Fast.tw5686717513594734074 : Unit := ()
def PySem.W.Fast.tw12355413043496796251 : Unit := ()
def PySem.W.Fast.tw7501660467893848761 : Unit := ()
def PySem.W.Fast.tw16170017028704803290 : Unit := ()
def PySem.W.Fast.tw3754713770676592397 : Unit := ()
def PySem.W.Fast.tw3562818417836657530 : Unit := ()
def PySem.W.Fast.tw17685572306175543204 : Unit := ()
def PySem.W.Fast.tw3390184872593776512 : Unit := ()
def PySem.W.Fast.tw12554131220842889362 : Unit := ()
def PySem.W.Fast.tw10562721895686311354 : Unit := ()
def PySem.W.Fast.tw1994907606851477324 : Unit := ()
def PySem.W.Fast.tw17966541194762622572 : Unit := ()
def PySem.W.Fast.tw18261746341507265543 : Unit := ()
def PySem.W.Fast.tw9428179010992267388 : Unit := ()
def PySem.W.Fast.tw13769557409897485983 : Unit := ()
def PySem.W.Fast.tw8793624429649415501 : Unit := ()
def PySem.W.Fast.tw17066227630478708401 : Unit := ()
def PySem.W.Fast.tw3265943213989571535 : Unit := ()
def PySem.W.Fast.tw11314390368837645542 : Unit := ()
def PySem.W.Fast.tw1011342353347296552 : Unit := ()
def PySem.W.Fast.tw4723455608270876600 : Unit := ()
def PySem.W.Fast.tw57378085206774590 : Unit := ()
def PySem.W.Fast.tw16878851995031095489 : Unit := ()
def PySem.W.Fast.tw3450534854838245667 : Unit := ()
def PySem.W.Fast.tw14701458348787621144 : Unit := ()
def PySem.W.Fast.tw11345017465417373033 : Unit := ()
def PySem.W.Fast.tw8394248252268692686 : Unit := ()
def PySem.W.Fast.tw12057468746496159047 : Unit := ()
def PySem.W.Fast.tw10559313435763549428 : Unit := ()
def PySem.W.Fast.tw11109966687803843416 : Unit := ()
def PySem.W.Fast.tw16470896001218115650 : Unit := ()
def PySem.W.Fast.tw7770124630806361755 : Unit := ()
def PySem.W.Fast.tw12682306151275670106 : Unit := ()
def PySem.W.Fast.tw10237987922815864693 : Unit := ()
def PySem.W.Fast.tw2639741357658462871 : Unit := ()
def PySem.W.Fast.tw13305918722295154068 : Unit := ()
def PySem.W.Fast.tw3724922716887358931 : Unit := ()
def PySem.W.Fast.tw1296951185720580900 : Unit := ()
def PySem.W.Fast.tw1982532611105484212 : Unit := ()
def PySem.W.Fast.tw4726017944383811616 : Unit := ()
def PySem.W.Fast.tw12787651692779756651 : Unit := ()
def PySem.W.Fast.tw2501410287479359937 : Unit := ()
def PySem.W.Fast.tw5669883047832769933 : Unit := ()
def PySem.W.Fast.tw17315134818977795672 : Unit := ()
def PySem.W.Fast.tw6242337792873298823 : Unit := ()
def PySem.W.Fast.tw4138386772483420109 : Unit := ()
def PySem.W.Fast.tw7661354903981388561 : Unit := ()
def PySem.W.Fast.tw17297943885227016717 : Unit := ()
def PySem.W.Fast.tw11424544322025125579 : Unit := ()
def PySem.W.Fast.tw4048087366382975551 : Unit := ()
def PySem.W.Fast.tw8337118287070531601 : Unit := ()
def PySem.W.Fast.tw4933681124362952140 : Unit := ()
def PySem.W.Fast.tw13306693553945033862 : Unit := ()
def PySem.W.Fast.tw1891882532144073098 : Unit := ()
def PySem.W.Fast.tw17954832350608300930 : Unit := ()
def PySem.W.Fast.tw15162847697246837914 : Unit := ()
def PySem.W.Fast.tw11309769511564088140 : Unit := ()
def PySem.W.Fast.tw15369667529049067221 : Unit := ()
def PySem.W.Fast.tw1807183590868341361 : Unit := ()
def PySem.W.Fast.tw4784772297781655139 : Unit := ()
def PySem.W.Fast.tw781868492638884838 : Unit := ()
def PySem.W.Fast.tw17475657568374784957 : Unit := ()
def PySem.W.Fast.tw9321300071986669940 : Unit := ()
def PySem.W.Fast.tw1651094522893957610 : Unit := ()
def PySem.W.Fast.tw8495915760500272266 : Unit := ()
def PySem.W.Fast.tw17004538730391091679 : Unit := ()
def PySem.W.Fast.tw844411348782146158 : Unit := ()
def PySem.W.Fast.tw11626570319228802590 : Unit := ()
def PySem.W.Fast.tw14339217418077218517 : Unit := ()
def PySem.W.Fast.tw16392678482838407261 : Unit := ()
def PySem.W.Fast.tw7914391338080116899 : Unit := ()
def PySem.W.Fast.tw16887348858422219601 : Unit := ()
def PySem.W.Fast.tw1386888549272134179 : Unit := ()
def PySem.W.Fast.tw13049153962326611651 : Unit := ()
def PySem.W.Fast.tw17924511025819195255 : Unit := ()
def PySem.W.Fast.tw1574610095238249124 : Unit := ()
def PySem.W.Fast.tw12185484262831478245 : Unit := ()
def PySem.W.Fast.tw13695175482976917317 : Unit := ()
def PySem.W.Fast.tw4703972643839348259 : Unit := ()
def PySem.W.Fast.tw1761444173424544819 : Unit := ()
def PySem.W.Fast.tw4777177862934330828 : Unit := ()
def PySem.W.Fast.tw10768684911341890336 : Unit := ()
def PySem.W.Fast.tw9293731604821251514 : Unit := ()
def PySem.W.Fast.tw12718611843111096377 : Unit := ()
def PySem.W.Fast.tw11872590847308592521 : Unit := ()
def PySem.W.Fast.tw9524147316836587645 : Unit := ()
def PySem.W.Fast.tw14919343242887085818 : Unit := ()
def PySem.W.Fast.tw4920903728610389489 : Unit := ()
def PySem.W.Fast.tw6857831433565787820 : Unit := ()
def PySem.W.Fast.tw185365860609812280 : Unit := ()
def PySem.W.Fast.tw5935241983835188109 : Unit := ()
def PySem.W.Fast.tw3609390311933535072 : Unit := ()
def PySem.W.Fast.tw773126360489982905 : Unit := ()
def PySem.W.Fast.tw9079261268720593827 : Unit := ()
def PySem.W.Fast.tw15875974729182888111 : Unit := ()
def PySem.W.Fast.tw4171387052271937214 : Unit := ()
def PySem.W.Fast.tw9717297532592044926 : Unit := ()
def PySem.W.Fast.tw275548130782561960 : Unit := ()
def PySem.W.Fast.tw15157081518666660951 : Unit := ()
def PySem.W.Fast.tw11156167011584702265 : Unit := ()
def PySem.W.Fast.tw6782625845286325014 : Unit := ()
def PySem.W.Fast.tw8094991010221220223 : Unit := ()
def PySem.W.Fast.tw4448494729457192929 : Unit := ()
def PySem.W.Fast.tw4852246826586681441 : Unit := ()
def PySem.W.Fast.tw3325374393609570237 : Unit := ()
def PySem.W.Fast.tw10085611100363449237 : Unit := ()
def PySem.W.Fast.tw14456282386021440711 : Unit := ()
def PySem.W.Fast.tw5386864259465231508 : Unit := ()
def PySem.W.Fast.tw9821973518819851738 : Unit := ()
def PySem.W.Fast.tw12144937737209941773 : Unit := ()
def PySem.W.Fast.tw12059080562009843856 : Unit := ()
def PySem.W.Fast.tw11270184344436656204 : Unit := ()
def PySem.W.Fast.tw3017143603525880965 : Unit := ()
def PySem.W.Fast.tw14858520155025712202 : Unit := ()
def PySem.W.Fast.tw3087917378575994823 : Unit := ()
def PySem.W.Fast.tw14795298722850756043 : Unit := ()
def PySem.W.Fast.tw15521196580934971516 : Unit := ()
def PySem.W.Fast.tw12487348852901457328 : Unit := ()
def PySem.W.Fast.tw10692450685221270612 : Unit := ()
def PySem.W.Fast.tw1581453990456008841 : Unit := ()
def PySem.W.Fast.tw11109504493361902972 : Unit := ()
def PySem.W.Fast.tw13352839856460441530 : Unit := ()
def PySem.W.Fast.tw8614684768612026345 : Unit := ()
def PySem.W.Fast.tw17227652847599340707 : Unit := ()
def PySem.W.Fast.tw1273548378007769848 : Unit := ()
def PySem.W.Fast.tw1848184407970509084 : Unit := ()
def PySem.W.Fast.tw14389317233820633160 : Unit := ()
def PySem.W.Fast.tw3839492735388180563 : Unit := ()
def PySem.W.Fast.tw15699870147962936560 : Unit := ()
def PySem.W.Fast.tw12732296026928818548 : Unit := ()
def PySem.W.Fast.tw8447226159762109422 : Unit := ()
def PySem.W.Fast.tw16264238072440389292 : Unit := ()
def PySem.W.Fast.tw15914260484623312326 : Unit := ()
def PySem.W.Fast.tw13329752662305540332 : Unit := ()
def PySem.W.Fast.tw17232309453257799927 : Unit := ()
def PySem.W.Fast.tw1263498072763978206 : Unit := ()
def PySem.W.Fast.tw11389351146234074818 : Unit := ()
def PySem.W.Fast.tw18099438612927579752 : Unit := ()
def PySem.W.Fast.tw6477753362597479143 : Unit := ()
def PySem.W.Fast.tw6154959115871549491 : Unit := ()
def PySem.W.Fast.tw6377383885724729456 : Unit := ()
def PySem.W.Fast.tw9435219147921604128 : Unit := ()
def PySem.W.Fast.tw4161661234459932777 : Unit := ()
def PySem.W.Fast.tw15973296587512509683 : Unit := ()
def PySem.W.Fast.tw6969980661281829695 : Unit := ()
def PySem.W.Fast.tw4888206544694835096 : Unit := ()
def PySem.W.Fast.tw6361455570387271529 : Unit := ()
def PySem.W.Fast.tw12471941202649922422 : Unit := ()
def PySem.W.Fast.tw8105847680631898222 : Unit := ()
def PySem.W.Fast.tw3876045611888701091 : Unit := ()
def PySem.W.Fast.tw6265242709830413246 : Unit := ()
def PySem.W.Fast.tw11345891419853938177 : Unit := ()
def PySem.W.Fast.tw296902464959576021 : Unit := ()
def PySem.W.Fast.tw14179624411425021803 : Unit := ()
def PySem.W.Fast.tw5750923427130164264 : Unit := ()
def PySem.W.Fast.tw14868500983468344393 : Unit := ()
def PySem.W.Fast.tw4871406705354454093 : Unit := ()
def PySem.W.Fast.tw3604987220412827610 : Unit := ()
def PySem.W.Fast.tw3623930772182854879 : Unit := ()
def PySem.W.Fast.tw14985323427505931153 : Unit := ()
def PySem.W.Fast.tw10372453294806362666 : Unit := ()
def PySem.W.Fast.tw17149748010680019663 : Unit := ()
def PySem.W.Fast.tw14156363215508953690 : Unit := ()
def PySem.W.Fast.tw16475494181171766096 : Unit := ()
def PySem.W.Fast.tw809131065254636954 : Unit := ()
def PySem.W.Fast.tw13643785604882811638 : Unit := ()
def PySem.W.Fast.tw9690770667426870494 : Unit := ()
def PySem.W.Fast.tw17138490105311971073 : Unit := ()
def PySem.W.Fast.tw15072143769101018156 : Unit := ()
def PySem.W.Fast.tw2613407692380303414 : Unit := ()
def PySem.W.Fast.tw646535468527044430 : Unit := ()
def PySem.W.Fast.tw17037934171949536651 : Unit := ()
def PySem.W.Fast.tw4593552981942207513 : Unit := ()
def PySem.W.Fast.tw1054354033087292296 : Unit := ()
def PySem.W.Fast.tw6947764848434961687 : Unit := ()
def PySem.W.Fast.tw13753631409376579890 : Unit := ()
def PySem.W.Fast.tw9033315622269491151 : Unit := ()
def PySem.W.Fast.tw3628451596357102995 : Unit := ()
def PySem.W.Fast.tw14878914982247053495 : Unit := ()
def PySem.W.Fast.tw14022175455030337276 : Unit := ()
def PySem.W.Fast.tw5302183327098988878 : Unit := ()
def PySem.W.Fast.tw407708978608795570 : Unit := ()
def PySem.W.Fast.tw233592711557620517 : Unit := ()
def PySem.W.Fast.tw11095773370914546369 : Unit := ()
def PySem.W.Fast.tw250578823654740548 : Unit := ()
def PySem.W.Fast.tw3463638851680227393 : Unit := ()
def PySem.W.Fast.tw11422791520712335842 : Unit := ()
def PySem.W.Fast.tw9612044249335757495 : Unit := ()
def PySem.W.Fast.tw647855668817097649 : Unit := ()
def PySem.W.Fast.tw1530481191697460956 : Unit := ()
def PySem.W.Fast.tw3493884931827062872 : Unit := ()
def PySem.W.Fast.tw4786056601700824600 : Unit := ()
def PySem.W.Fast.tw14664675544207321962 : Unit := ()
def PySem.W.Fast.tw16538034513877332600 : Unit := ()
def PySem.W.Fast.tw2971330653926045111 : Unit := ()
def PySem.W.Fast.tw1814608156089491625 : Unit := ()
def PySem.W.Fast.tw16533261824015843360 : Unit := ()
def PySem.W.Fast.tw5731836265288972224 : Unit := ()
def PySem.W.Fast.tw4695891119965863007 : Unit := ()
def PySem.W.Fast.tw1760164628722297736 : Unit := ()
def PySem.W.Fast.tw9721178884262194036 : Unit := ()
def PySem.W.Fast.tw2217399505335593369 : Unit := ()
def PySem.W.Fast.tw2315983836298903350 : Unit := ()
def PySem.W.Fast.tw17394102422649212549 : Unit := ()
def PySem.W.Fast.tw13248323632879566993 : Unit := ()
def PySem.W.Fast.tw11693716896645684646 : Unit := ()
def PySem.W.Fast.tw7890063030860039939 : Unit := ()
def PySem.W.Fast.tw11231636874453071050 : Unit := ()
def PySem.W.Fast.tw6004270871277344759 : Unit := ()
def PySem.W.Fast.tw901496137083583099 : Unit := ()
def PySem.W.Fast.tw17313418151114080102 : Unit := ()
def PySem.W.Fast.tw17840394065542217073 : Unit := ()
def PySem.W.Fast.tw12769994634684008400 : Unit := ()
def PySem.W.Fast.tw12022867523896118218 : Unit := ()
def PySem.W.Fast.tw1443053421455487241 : Unit := ()
def PySem.W.Fast.tw395647870029663989 : Unit := ()
def PySem.W.Fast.tw1429066160948764053 : Unit := ()
def PySem.W.Fast.tw11032217503875183750 : Unit := ()
def PySem.W.Fast.tw13708884005021572489 : Unit := ()
def PySem.W.Fast.tw847404472814960030 : Unit := ()
def PySem.W.Fast.tw14797308698429944842 : Unit := ()
def PySem.W.Fast.tw12398223824672034416 : Unit := ()
def PySem.W.Fast.tw15965960641158455192 : Unit := ()
def PySem.W.Fast.tw13919230261995255175 : Unit := ()
def PySem.W.Fast.tw7504908137647322263 : Unit := ()
def PySem.W.Fast.tw16863893314241640841 : Unit := ()
def PySem.W.Fast.tw1256683222817259305 : Unit := ()
def PySem.W.Fast.tw10035717574019257678 : Unit := ()
def PySem.W.Fast.tw2265591358125377769 : Unit := ()
def PySem.W.Fast.tw11557005209897938154 : Unit := ()
def PySem.W.Fast.tw8677275924679175535 : Unit := ()
def PySem.W.Fast.tw2435882832730121411 : Unit := ()
def PySem.W.Fast.tw15275802900020223178 : Unit := ()
def PySem.W.Fast.tw14415059520946699773 : Unit := ()
def PySem.W.Fast.tw11103134330305802627 : Unit := ()
def PySem.W.Fast.tw15788022237751311248 : Unit := ()
def PySem.W.Fast.tw3485302149447608460 : Unit := ()
def PySem.W.Fast.tw3205553815776110382 : Unit := ()
def PySem.W.Fast.tw13277105213290641061 : Unit := ()
def PySem.W.Fast.tw5362970806669107554 : Unit := ()
def PySem.W.Fast.tw9874141566784125820 : Unit := ()
def PySem.W.Fast.tw12730683558294239539 : Unit := ()
def PySem.W.Fast.tw3140092982644878056 : Unit := ()
def PySem.W.Fast.tw16617997774910816363 : Unit := ()
def PySem.W.Fast.tw5560900181377661603 : Unit := ()
def PySem.W.Fast.tw8410312082533181970 : Unit := ()
def PySem.W.Fast.tw5990093437108101098 : Unit := ()
def PySem.W.Fast.tw13879208573497660676 : Unit := ()
def PySem.W.Fast.tw4640667497454802314 : Unit := ()
def PySem.W.Fast.tw16807355858299802507 : Unit := ()
def PySem.W.Fast.tw18440196947405675767 : Unit := ()
def PySem.W.Fast.tw7969264953264568205 : Unit := ()
def PySem.W.Fast.tw11916955981030139198 : Unit := ()
def PySem.W.Fast.tw12848362266261865830 : Unit := ()
def PySem.W.Fast.tw18101990222668369202 : Unit := ()
def PySem.W.Fast.tw14140673883341959351 : Unit := ()
def PySem.W.Fast.tw13595014991544807454 : Unit := ()
def PySem.W.Fast.tw9913423596158084230 : Unit := ()
def PySem.W.Fast.tw4608869415871052710 : Unit := ()
def PySem.W.Fast.tw7473341044183715523 : Unit := ()
def PySem.W.Fast.tw4503807324414396067 : Unit := ()
def PySem.W.Fast.tw13930542106258271794 : Unit := ()
def PySem.W.Fast.tw16548543786643884438 : Unit := ()
def PySem.W.Fast.tw12187239790417487690 : Unit := ()
def PySem.W.Fast.tw12114261211032395310 : Unit := ()
def PySem.W.Fast.tw6495895326563132423 : Unit := ()
def PySem.W.Fast.tw16748160895794862128 : Unit := ()
def PySem.W.Fast.tw3283058491474312030 : Unit := ()
def PySem.W.Fast.tw7941729690937881156 : Unit := ()
def PySem.W.Fast.tw15810528284613811761 : Unit := ()
def PySem.W.Fast.tw15246222945073925808 : Unit := ()
def PySem.W.Fast.tw4293019829730409666 : Unit := ()
def PySem.W.Fast.tw10347638099273995953 : Unit := ()
def PySem.W.Fast.tw12435856446674624942 : Unit := ()
def PySem.W.Fast.tw7541896490698094421 : Unit := ()
def PySem.W.Fast.tw1468506558395028135 : Unit := ()
def PySem.W.Fast.tw10538763724245766748 : Unit := ()
def PySem.W.Fast.tw15996806075708354217 : Unit := ()
def PySem.W.Fast.tw9881664611903141107 : Unit := ()
def PySem.W.Fast.tw11985331632911343609 : Unit := ()
def PySem.W.Fast.tw616195407492197339 : Unit := ()
def PySem.W.Fast.tw7177142885146830735 : Unit := ()
def PySem.W.Fast.tw8077260529196720698 : Unit := ()
def PySem.W.Fast.tw9867760549049999314 : Unit := ()
def PySem.W.Fast.tw6924250533783401052 : Unit := ()
def PySem.W.Fast.tw17527965476521151934 : Unit := ()
def PySem.W.Fast.tw686687748920499666 : Unit := ()
def PySem.W.Fast.tw993667118595403269 : Unit := ()
def PySem.W.Fast.tw10119989119189652332 : Unit := ()
def PySem.W.Fast.tw10515040353887159833 : Unit := ()
def PySem.W.Fast.tw1848214615284586733 : Unit := ()
def PySem.W.Fast.tw17538283619126296075 : Unit := ()
def PySem.W.Fast.tw14644274412454520944 : Unit := ()
def PySem.W.Fast.tw7823851202665783696 : Unit := ()
def PySem.W.Fast.tw3536779722111306344 : Unit := ()
def PySem.W.Fast.tw15593814402626490388 : Unit := ()
def PySem.W.Fast.tw16757407513873008083 : Unit := ()
def PySem.W.Fast.tw17079248103211876156 : Unit := ()
def PySem.W.Fast.tw9353102121080545654 : Unit := ()
def PySem.W.Fast.tw2543570395097121766 : Unit := ()
def PySem.W.Fast.tw10733114821915702431 : Unit := ()
def PySem.W.Fast.tw14677403282642198343 : Unit := ()
def PySem.W.Fast.tw8517883533815110711 : Unit := ()
def PySem.W.Fast.tw16600395493707533055 : Unit := ()
def PySem.W.Fast.tw2035986472650513604 : Unit := ()
def PySem.W.Fast.tw17493994544988165577 : Unit := ()
def PySem.W.Fast.tw17023390877472402317 : Unit := ()
def PySem.W.Fast.tw13997777091046948799 : Unit := ()
def PySem.W.Fast.tw12863840742528369361 : Unit := ()
def PySem.W.Fast.tw10395137249492587299 : Unit := ()
def PySem.W.Fast.tw18409106846281275632 : Unit := ()
def PySem.W.Fast.tw14900867717493277909 : Unit := ()
def PySem.W.Fast.tw13594498801403386300 : Unit := ()
def PySem.W.Fast.tw15806986963162759908 : Unit := ()
def PySem.W.Fast.tw13690312194444262947 : Unit := ()
def PySem.W.Fast.tw7246540421472557179 : Unit := ()
def PySem.W.Fast.tw15712911209821687918 : Unit := ()
def PySem.W.Fast.tw10891630973736520753 : Unit := ()
def PySem.W.Fast.tw13392639966024364824 : Unit := ()
def PySem.W.Fast.tw939600335065203866 : Unit := ()
def PySem.W.Fast.tw4471436698933697592 : Unit := ()
def PySem.W.Fast.tw5614152332993278201 : Unit := ()
def PySem.W.Fast.tw8521376773680911662 : Unit := ()
def PySem.W.Fast.tw102876063308042116 : Unit := ()
def PySem.W.Fast.tw510557736144790191 : Unit := ()
def PySem.W.Fast.tw1382202989839995878 : Unit := ()
def PySem.W.Fast.tw1993633047025126139 : Unit := ()
def PySem.W.Fast.tw15328681617622247256 : Unit := ()
def PySem.W.Fast.tw9661970409185837137 : Unit := ()
def PySem.W.Fast.tw17236780501068210716 : Unit := ()
def PySem.W.Fast.tw17611066053365556489 : Unit := ()
def PySem.W.Fast.tw194412857405641949 : Unit := ()
def PySem.W.Fast.tw1816208467934766484 : Unit := ()
def PySem.W.Fast.tw5961098185254874548 : Unit := ()
def PySem.W.Fast.tw18388122860171910137 : Unit := ()
def PySem.W.Fast.tw5075870942207784962 : Unit := ()
def PySem.W.Fast.tw3477047105136446888 : Unit := ()
def PySem.W.Fast.tw16634368212118281751 : Unit := ()
def PySem.W.Fast.tw6440876209725467234 : Unit := ()
def PySem.W.Fast.tw5642253402814671670 : Unit := ()
def PySem.W.Fast.tw9087528300518080337 : Unit := ()
def PySem.W.Fast.tw6671168431274044578 : Unit := ()
def PySem.W.Fast.tw17693714783110856497 : Unit := ()
def PySem.W.Fast.tw8591023172813520245 : Unit := ()
def PySem.W.Fast.tw11014092618452633323 : Unit := ()
def PySem.W.Fast.tw8165704271146148179 : Unit := ()
def PySem.W.Fast.tw8306573208620795891 : Unit := ()
def PySem.W.Fast.tw10712573684656134944 : Unit := ()
def PySem.W.Fast.tw7733324242562029424 : Unit := ()
def PySem.W.Fast.tw11418676744953461792 : Unit := ()
def PySem.W.Fast.tw1780517042441538668 : Unit := ()
def PySem.W.Fast.tw8792568456480739046 : Unit := ()
def PySem.W.Fast.tw4747004964362728045 : Unit := ()
def PySem.W.Fast.tw6174078039380584063 : Unit := ()
def PySem.W.Fast.tw5938500373287375901 : Unit := ()
def PySem.W.Fast.tw4437386487702375766 : Unit := ()
def PySem.W.Fast.tw15868236032464165742 : Unit := ()
def PySem.W.Fast.tw8668217406009858882 : Unit := ()
def PySem.W.Fast.tw3114667672815291353 : Unit := ()
def PySem.W.Fast.tw15596974156179142299 : Unit := ()
def PySem.W.Fast.tw5983070697907933519 : Unit := ()
def PySem.W.Fast.tw14058952359881159057 : Unit := ()
def PySem.W.Fast.tw8853002116397153577 : Unit := ()
def PySem.W.Fast.tw2537203954403771678 : Unit := ()
def PySem.W.Fast.tw9523025821672157411 : Unit := ()
def PySem.W.Fast.tw1607626437994345430 : Unit := ()
def PySem.W.Fast.tw3834395133839508340 : Unit := ()
def PySem.W.Fast.tw15111593572829554116 : Unit := ()
def PySem.W.Fast.tw1840871427183198974 : Unit := ()
def PySem.W.Fast.tw16934037251156475844 : Unit := ()
def PySem.W.Fast.tw8194820650442303702 : Unit := ()
def PySem.W.Fast.tw904074973712363366 : Unit := ()
def PySem.W.Fast.tw4971738917447083874 : Unit := ()
def PySem.W.Fast.tw6777680714379225684 : Unit := ()
def PySem.W.Fast.tw12545601470444642175 : Unit := ()
def PySem.W.Fast.tw16948393460532520005 : Unit := ()
def PySem.W.Fast.tw16662202147329877730 : Unit := ()
def PySem.W.Fast.tw14949493216676933450 : Unit := ()
def PySem.W.Fast.tw10021564527305621865 : Unit := ()
def PySem.W.Fast.tw3962951879464210505 : Unit := ()
def PySem.W.Fast.tw2635265047098354271 : Unit := ()
def PySem.W.Fast.tw15882677175526979917 : Unit := ()
def PySem.W.Fast.tw726367151578636641 : Unit := ()
def PySem.W.Fast.tw9796376631570464553 : Unit := ()
def PySem.W.Fast.tw2055738874871076586 : Unit := ()
def PySem.W.Fast.tw8957147796167265978 : Unit := ()
def PySem.W.Fast.tw11113604951404276760 : Unit := ()
def PySem.W.Fast.tw1145982457285306109 : Unit := ()
def PySem.W.Fast.tw11790550017434359383 : Unit := ()
def PySem.W.Fast.tw9078176262597118 : Unit := ()
def PySem.W.Fast.tw1545256794940388496 : Unit := ()
def PySem.W.Fast.tw4193967693180419925 : Unit := ()
def PySem.W.Fast.tw13127218890025721925 : Unit := ()
def PySem.W.Fast.tw324286858054990515 : Unit := ()
def PySem.W.Fast.tw4616127311167420684 : Unit := ()
def PySem.W.Fast.tw1744446961208695210 : Unit := ()
def PySem.W.Fast.tw15329268315266086553 : Unit := ()
def PySem.W.Fast.tw16325717513378008032 : Unit := ()
def PySem.W.Fast.tw259349619191214620 : Unit := ()
def PySem.W.Fast.tw1507012527321265635 : Unit := ()
def PySem.W.Fast.tw8010755703157787697 : Unit := ()
def PySem.W.Fast.tw15701106734061497942 : Unit := ()
def PySem.W.Fast.tw14771140684602849929 : Unit := ()
def PySem.W.Fast.tw7317685573185860762 : Unit := ()
def PySem.W.Fast.tw8213272680942346020 : Unit := ()
def PySem.W.Fast.tw16918402012103315206 : Unit := ()
def PySem.W.Fast.tw4525358635427786425 : Unit := ()
def PySem.W.Fast.tw1806148791006466829 : Unit := ()
def PySem.W.Fast.tw10601289463463516894 : Unit := ()
def PySem.W.Fast.tw5975563004349835751 : Unit := ()
def PySem.W.Fast.tw1638893131668729028 : Unit := ()
def PySem.W.Fast.tw2477471753544160474 : Unit := ()
def PySem.W.Fast.tw8863555409826799736 : Unit := ()
def PySem.W.Fast.tw12321965893556954763 : Unit := ()
def PySem.W.Fast.tw15889907141291047412 : Unit := ()
def PySem.W.Fast.tw10643227742466864129 : Unit := ()
def PySem.W.Fast.tw5411924539406583251 : Unit := ()
def PySem.W.Fast.tw6141227409755378895 : Unit := ()
def PySem.W.Fast.tw16691121424478857239 : Unit := ()
def PySem.W.Fast.tw13167874639118475206 : Unit := ()
def PySem.W.Fast.tw5068167584502623694 : Unit := ()
def PySem.W.Fast.tw17772748029204448942 : Unit := ()
def PySem.W.Fast.tw5325467621653831711 : Unit := ()
def PySem.W.Fast.tw8914210331679588504 : Unit := ()
def PySem.W.Fast.tw15692149667565206882 : Unit := ()
def PySem.W.Fast.tw11438448126467174339 : Unit := ()
def PySem.W.Fast.tw11298542902143094512 : Unit := ()
def PySem.W.Fast.tw13029674765382743050 : Unit := ()
def PySem.W.Fast.tw6359748000782208561 : Unit := ()
def PySem.W.Fast.tw15642834077235467205 : Unit := ()
def PySem.W.Fast.tw4120029622902544264 : Unit := ()
def PySem.W.Fast.tw16568702616841313894 : Unit := ()
def PySem.W.Fast.tw3435676665182760366 : Unit := ()
def PySem.W.Fast.tw12193531584777298981 : Unit := ()
def PySem.W.Fast.tw3092658220310104625 : Unit := ()
def PySem.W.Fast.tw9268012064048567250 : Unit := ()
def PySem.W.Fast.tw7882449200551828559 : Unit := ()
def PySem.W.Fast.tw9793926079907082011 : Unit := ()
def PySem.W.Fast.tw4358893703352934072 : Unit := ()
def PySem.W.Fast.tw8035107109793209717 : Unit := ()
def PySem.W.Fast.tw5845181317192325313 : Unit := ()
def PySem.W.Fast.tw18319017768573021072 : Unit := ()
def PySem.W.Fast.tw10158782825839807321 : Unit := ()
def PySem.W.Fast.tw12843200932135632653 : Unit := ()
def PySem.W.Fast.tw4411717068111776294 : Unit := ()
def PySem.W.Fast.tw8275431381541674624 : Unit := ()
def PySem.W.Fast.tw12005175998965945111 : Unit := ()
def PySem.W.Fast.tw16245928940954294828 : Unit := ()
def PySem.W.Fast.tw18204919994492583073 : Unit := ()
def PySem.W.Fast.tw12529164128582455480 : Unit := ()
def PySem.W.Fast.tw1574314541111326259 : Unit := ()
def PySem.W.Fast.tw4987651112284179137 : Unit := ()
def PySem.W.Fast.tw1971116958652835940 : Unit := ()
def PySem.W.Fast.tw14208832020935232094 : Unit := ()
def PySem.W.Fast.tw2454420931238099216 : Unit := ()
def PySem.W.Fast.tw6075769614336888012 : Unit := ()
def PySem.W.Fast.tw4519224283722757999 : Unit := ()
def PySem.W.Fast.tw1919462108808845653 : Unit := ()
def PySem.W.Fast.tw14111219890813398317 : Unit := ()
def PySem.W.Fast.tw11491203582735525672 : Unit := ()
def PySem.W.Fast.tw1320208400459032960 : Unit := ()
def PySem.W.Fast.tw13957945897765853102 : Unit := ()
def PySem.W.Fast.tw14377107360364191518 : Unit := ()
def PySem.W.Fast.tw11851855171991757541 : Unit := ()
def PySem.W.Fast.tw11397787824943088251 : Unit := ()
def PySem.W.Fast.tw10153804981378621919 : Unit := ()
def PySem.W.Fast.tw12550150237437453882 : Unit := ()
def PySem.W.Fast.tw18169424234601593696 : Unit := ()
def PySem.W.Fast.tw8049114874751762296 : Unit := ()
def PySem.W.Fast.tw9144286483048391293 : Unit := ()
def PySem.W.Fast.tw9147642510836231368 : Unit := ()
def PySem.W.Fast.tw5106235214085986523 : Unit := ()
def PySem.W.Fast.tw8996741192467490366 : Unit := ()
def PySem.W.Fast.tw10413934927756194386 : Unit := ()
def PySem.W.Fast.tw6320781285465227552 : Unit := ()
def PySem.W.Fast.tw15675205216903323710 : Unit := ()
def PySem.W.Fast.tw9308882138872134608 : Unit := ()
def PySem.W.Fast.tw3868067316887099671 : Unit := ()
def PySem.W.Fast.tw2563711653754137800 : Unit := ()
def PySem.W.Fast.tw659487349689776654 : Unit := ()
def PySem.W.Fast.tw12682798628897957472 : Unit := ()
def PySem.W.Fast.tw8647957096605537036 : Unit := ()
def PySem.W.Fast.tw15783775021403709916 : Unit := ()
def PySem.W.Fast.tw16301314443483819129 : Unit := ()
def PySem.W.Fast.tw2283167230152467240 : Unit := ()
def PySem.W.Fast.tw369032316495366338 : Unit := ()
def PySem.W.Fast.tw4104555396685326045 : Unit := ()
def PySem.W.Fast.tw5726705497445749671 : Unit := ()
def PySem.W.Fast.tw2283266452569456530 : Unit := ()
def PySem.W.Fast.tw2863749028654103513 : Unit := ()
def PySem.W.Fast.tw14427369282984763575 : Unit := ()
def PySem.W.Fast.tw9294024332904158466 : Unit := ()
def PySem.W.Fast.tw942843604412669878 : Unit := ()
def PySem.W.Fast.tw5105706356456475208 : Unit := ()
def PySem.W.Fast.tw11685794621837805809 : Unit := ()
def PySem.W.Fast.tw11142296116352593272 : Unit := ()
def PySem.W.Fast.tw1883864392615226555 : Unit := ()
def PySem.W.Fast.tw4734929743034998262 : Unit := ()
def PySem.W.Fast.tw7143734938087253134 : Unit := ()
def PySem.W.Fast.tw1319362108867810917 : Unit := ()
def PySem.W.Fast.tw12072469654164070626 : Unit := ()
def PySem.W.Fast.tw16867330073447671617 : Unit := ()
def PySem.W.Fast.tw4307981133679971907 : Unit := ()
def PySem.W.Fast.tw15537715847347906532 : Unit := ()
def PySem.W.Fast.tw16623719283905931093 : Unit := ()
def PySem.W.Fast.tw8059240368270860789 : Unit := ()
def PySem.W.Fast.tw5225515426476765293 : Unit := ()
def PySem.W.Fast.tw6630172467046507797 : Unit := ()
def PySem.W.Fast.tw17957048109722707714 : Unit := ()
def PySem.W.Fast.tw900770574652564361 : Unit := ()
def PySem.W.Fast.tw4701362375742839370 : Unit := ()
def PySem.W.Fast.tw9629272109738483907 : Unit := ()
def PySem.W.Fast.tw13122120423594241386 : Unit := ()
def PySem.W.Fast.tw731112200017100553 : Unit := ()
def PySem.W.Fast.tw13523895383105741774 : Unit := ()
def PySem.W.Fast.tw12194303398756286851 : Unit := ()
def PySem.W.Fast.tw11767019837316881214 : Unit := ()
def PySem.W.Fast.tw1693032521146401177 : Unit := ()
def PySem.W.Fast.tw15860327106726363537 : Unit := ()
def PySem.W.Fast.tw8116235451763471956 : Unit := ()
def PySem.W.Fast.tw1527822303975717930 : Unit := ()
def PySem.W.Fast.tw6348853976796698873 : Unit := ()
def PySem.W.Fast.tw4444430352199697272 : Unit := ()
def PySem.W.Fast.tw8459764139131976938 : Unit := ()
def PySem.W.Fast.tw14214071169767712956 : Unit := ()
def PySem.W.Fast.tw7326352269176755569 : Unit := ()
def PySem.W.Fast.tw18315853310811514068 : Unit := ()
def PySem.W.Fast.tw8576054258896199736 : Unit := ()
def PySem.W.Fast.tw7600025121404754796 : Unit := ()
def PySem.W.Fast.tw1344679943919134103 : Unit := ()
def PySem.W.Fast.tw16832235217982470522 : Unit := ()
def PySem.W.Fast.tw12416493032242398110 : Unit := ()
def PySem.W.Fast.tw12002517947364460267 : Unit := ()
def PySem.W.Fast.tw8156635979434656561 : Unit := ()
def PySem.W.Fast.tw11398818887128958972 : Unit := ()
def PySem.W.Fast.tw4858839580452499353 : Unit := ()
def PySem.W.Fast.tw2881221175262512923 : Unit := ()
def PySem.W.Fast.tw4753445454239515340 : Unit := ()
def PySem.W.Fast.tw3205325009866700698 : Unit := ()
def PySem.W.Fast.tw17274838995693020479 : Unit := ()
def PySem.W.Fast.tw9063811974930619744 : Unit := ()
def PySem.W.Fast.tw15385778957044483014 : Unit := ()
def PySem.W.Fast.tw5420916959010107267 : Unit := ()
def PySem.W.Fast.tw17231070774197047182 : Unit := ()
def PySem.W.Fast.tw13124892278952061424 : Unit := ()
def PySem.W.Fast.tw12392750287750815721 : Unit := ()
def PySem.W.Fast.tw1279995402829879697 : Unit := ()
def PySem.W.Fast.tw16258448094066981728 : Unit := ()
def PySem.W.Fast.tw7215949704704194571 : Unit := ()
def PySem.W.Fast.tw8688601914156009726 : Unit := ()
def PySem.W.Fast.tw16719163670918115759 : Unit := ()
def PySem.W.Fast.tw10707329833855385767 : Unit := ()
def PySem.W.Fast.tw3863882298988346707 : Unit := ()
def PySem.W.Fast.tw9578860113447610181 : Unit := ()
def PySem.W.Fast.tw2458660222831037644 : Unit := ()
def PySem.W.Fast.tw14416132823934971001 : Unit := ()
def PySem.W.Fast.tw15317149302760895533 : Unit := ()
def PySem.W.Fast.tw7469258195769829299 : Unit := ()
def PySem.W.Fast.tw6716221856229193536 : Unit := ()
def PySem.W.Fast.tw8121306913130797568 : Unit := ()
def PySem.W.Fast.tw7257690510223175794 : Unit := ()
def PySem.W.Fast.tw8601149883085909519 : Unit := ()
def PySem.W.Fast.tw10590952964507450441 : Unit := ()
def PySem.W.Fast.tw12935665426050697381 : Unit := ()
def PySem.W.Fast.tw1455501582961707349 : Unit := ()
def PySem.W.Fast.tw3791837382975431810 : Unit := ()
def PySem.W.Fast.tw6758115869773613975 : Unit := ()
def PySem.W.Fast.tw2331957206054098167 : Unit := ()
def PySem.W.Fast.tw8126381915077520187 : Unit := ()
def PySem.W.Fast.tw3794635813916985525 : Unit := ()
def PySem.W.Fast.tw14710809504161312203 : Unit := ()
def PySem.W.Fast.tw16173574036398057992 : Unit := ()
def PySem.W.Fast.tw11725347185262390459 : Unit := ()
def PySem.W.Fast.tw9586851710715918366 : Unit := ()
def PySem.W.Fast.tw2413350824757503122 : Unit := ()
def PySem.W.Fast.tw4437696145851372976 : Unit := ()
def PySem.W.Fast.tw6601754889051271189 : Unit := ()
def PySem.W.Fast.tw17473348838518643557 : Unit := ()
def PySem.W.Fast.tw11575420219290820194 : Unit := ()
def PySem.W.Fast.tw15341389162341221974 : Unit := ()
def PySem.W.Fast.tw12873940997338041608 : Unit := ()
def PySem.W.Fast.tw16667501742463483082 : Unit := ()
def PySem.W.Fast.tw4086272842423637383 : Unit := ()
def PySem.W.Fast.tw17314772976380749154 : Unit := ()
def PySem.W.Fast.tw18366101433984161140 : Unit := ()
def PySem.W.Fast.tw17650666198132618486 : Unit := ()
def PySem.W.Fast.tw3119948909782261459 : Unit := ()
def PySem.W.Fast.tw12568830015747318403 : Unit := ()
def PySem.W.Fast.tw12303997533572913763 : Unit := ()
def PySem.W.Fast.tw14415437170663168671 : Unit := ()
def PySem.W.Fast.tw15014917144144949524 : Unit := ()
def PySem.W.Fast.tw11240770162081512691 : Unit := ()
def PySem.W.Fast.tw418402045503290949 : Unit := ()
def PySem.W.Fast.tw4281757491742021267 : Unit := ()
def PySem.W.Fast.tw3446291009976627241 : Unit := ()
def PySem.W.Fast.tw552754506531144068 : Unit := ()
def PySem.W.Fast.tw5869810535035380600 : Unit := ()
def PySem.W.Fast.tw12000655800919525557 : Unit := ()
def PySem.W.Fast.tw1663883385750046166 : Unit := ()
def PySem.W.Fast.tw15185252211925151098 : Unit := ()
def PySem.W.Fast.tw10397252897732129583 : Unit := ()
def PySem.W.Fast.tw1310773233183182990 : Unit := ()
def PySem.W.Fast.tw4438336820476716076 : Unit := ()
def PySem.W.Fast.tw10048450825779270714 : Unit := ()
def PySem.W.Fast.tw6523764999318695298 : Unit := ()
def PySem.W.Fast.tw2428745810476254496 : Unit := ()
def PySem.W.Fast.tw7520771211788976444 : Unit := ()
def PySem.W.Fast.tw2292071202241960818 : Unit := ()
def PySem.W.Fast.tw9009382072821664497 : Unit := ()
def PySem.W.Fast.tw14181452113728149843 : Unit := ()
def PySem.W.Fast.tw6989844046107691302 : Unit := ()
def PySem.W.Fast.tw17983272487145051 : Unit := ()
def PySem.W.Fast.tw16084004796824701433 : Unit := ()
def PySem.W.Fast.tw1228556477751248260 : Unit := ()
def PySem.W.Fast.tw9717415992741815504 : Unit := ()
def PySem.W.Fast.tw9293152282299483881 : Unit := ()
def PySem.W.Fast.tw3623189344960005332 : Unit := ()
def PySem.W.Fast.tw163391971176941079 : Unit := ()
def PySem.W.Fast.tw7243475642125082315 : Unit := ()
def PySem.W.Fast.tw5864766055663980586 : Unit := ()
def PySem.W.Fast.tw11499353567273791412 : Unit := ()
def PySem.W.Fast.tw3325092347486579603 : Unit := ()
def PySem.W.Fast.tw11549466766875704989 : Unit := ()
def PySem.W.Fast.tw13674750598199954284 : Unit := ()
def PySem.W.Fast.tw362367602287968722 : Unit := ()
def PySem.W.Fast.tw7811514403224552393 : Unit := ()
def PySem.W.Fast.tw15592436987924431140 : Unit := ()
def PySem.W.Fast.tw5868439981991286029 : Unit := ()
def PySem.W.Fast.tw12558440608986114498 : Unit := ()
def PySem.W.Fast.tw17136312267885903551 : Unit := ()
def PySem.W.Fast.tw9179574551442627925 : Unit := ()
def PySem.W.Fast.tw9884253482643158727 : Unit := ()
def PySem.W.Fast.tw14683075725011911798 : Unit := ()
def PySem.W.Fast.tw8628773634086078531 : Unit := ()
def PySem.W.Fast.tw14386678808838200102 : Unit := ()
def PySem.W.Fast.tw15083213649450793461 : Unit := ()
def PySem.W.Fast.tw15880846461300481564 : Unit := ()
def PySem.W.Fast.tw15400030337992938049 : Unit := ()
def PySem.W.Fast.tw8084487872962208997 : Unit := ()
def PySem.W.Fast.tw4298106610278658211 : Unit := ()
def PySem.W.Fast.tw3439049240910527361 : Unit := ()
def PySem.W.Fast.tw9325519876538577832 : Unit := ()
def PySem.W.Fast.tw17580861585754071884 : Unit := ()
def PySem.W.Fast.tw7182965961691750744 : Unit := ()
def PySem.W.Fast.tw6072299590314159611 : Unit := ()
def PySem.W.Fast.tw2296221655714417602 : Unit := ()
def PySem.W.Fast.tw2860043018851892800 : Unit := ()
def PySem.W.Fast.tw14657429696215505732 : Unit := ()
def PySem.W.Fast.tw923798554595920815 : Unit := ()
def PySem.W.Fast.tw1799407593305000669 : Unit := ()
def PySem.W.Fast.tw8271973257752471307 : Unit := ()
def PySem.W.Fast.tw16936955098666517174 : Unit := ()
def PySem.W.Fast.tw8749367094849205370 : Unit := ()
def PySem.W.Fast.tw11526325233089833623 : Unit := ()
def PySem.W.Fast.tw11282089629113693310 : Unit := ()
def PySem.W.Fast.tw10008625585125659130 : Unit := ()
def PySem.W.Fast.tw15382239113505665874 : Unit := ()
def PySem.W.Fast.tw6053513209818102357 : Unit := ()
def PySem.W.Fast.tw17860221146074394731 : Unit := ()
def PySem.W.Fast.tw8452663578633964501 : Unit := ()
def PySem.W.Fast.tw5639133703361294536 : Unit := ()
def PySem.W.Fast.tw10981815884800330049 : Unit := ()
def PySem.W.Fast.tw17326515324132952466 : Unit := ()
def PySem.W.Fast.tw12804420010401204480 : Unit := ()
def PySem.W.Fast.tw11403456332770800383 : Unit := ()
def PySem.W.Fast.tw4979059295100731889 : Unit := ()
def PySem.W.Fast.tw15933069233522000887 : Unit := ()
def PySem.W.Fast.tw6673444839595975546 : Unit := ()
def PySem.W.Fast.tw7552987115431415888 : Unit := ()
def PySem.W.Fast.tw10393813367868757334 : Unit := ()
def PySem.W.Fast.tw14864392074498032974 : Unit := ()
def PySem.W.Fast.tw12834851232613143300 : Unit := ()
def PySem.W.Fast.tw6117454736670056658 : Unit := ()
def PySem.W.Fast.tw16996639285154778157 : Unit := ()
def PySem.W.Fast.tw11058279859291283671 : Unit := ()
def PySem.W.Fast.tw16045124424052169709 : Unit := ()
def PySem.W.Fast.tw5555714493945249265 : Unit := ()
def PySem.W.Fast.tw6192172654552680983 : Unit := ()
def PySem.W.Fast.tw8097941192295377825 : Unit := ()
def PySem.W.Fast.tw11994642873328813412 : Unit := ()
def PySem.W.Fast.tw6478173487830365647 : Unit := ()
def PySem.W.Fast.tw8085590719618061438 : Unit := ()
def PySem.W.Fast.tw15263662279331993182 : Unit := ()
def PySem.W.Fast.tw11016396194123483690 : Unit := ()
def PySem.W.Fast.tw349687811730666302 : Unit := ()
def PySem.W.Fast.tw13331917984493474216 : Unit := ()
def PySem.W.Fast.tw16026117803952165797 : Unit := ()
def PySem.W.Fast.tw2837147664560395005 : Unit := ()
def PySem.W.Fast.tw14807139546046881963 : Unit := ()
def PySem.W.Fast.tw16092065564863171997 : Unit := ()
def PySem.W.Fast.tw40543643203923570 : Unit := ()
def PySem.W.Fast.tw1894626876014350071 : Unit := ()
def PySem.W.Fast.tw10882827184717044354 : Unit := ()
def PySem.W.Fast.tw16622205506688434108 : Unit := ()
def PySem.W.Fast.tw17321478772062984232 : Unit := ()
def PySem.W.Fast.tw13014730255508726717 : Unit := ()
def PySem.W.Fast.tw4469988571356010088 : Unit := ()
def PySem.W.Fast.tw17236278628356377923 : Unit := ()
def PySem.W.Fast.tw8104531572180306209 : Unit := ()
def PySem.W.Fast.tw12731261016346139313 : Unit := ()
def PySem.W.Fast.tw14197132334533484144 : Unit := ()
def PySem.W.Fast.tw986710567254817496 : Unit := ()
def PySem.W.Fast.tw12625418289419800209 : Unit := ()
def PySem.W.Fast.tw12672410499123984367 : Unit := ()
def PySem.W.Fast.tw10377412117409545620 : Unit := ()
def PySem.W.Fast.tw13754051283731392985 : Unit := ()
def PySem.W.Fast.tw4863373876222567445 : Unit := ()
def PySem.W.Fast.tw4594582834522637847 : Unit := ()
def PySem.W.Fast.tw5611327049460715404 : Unit := ()
def PySem.W.Fast.tw1817854880575674049 : Unit := ()
def PySem.W.Fast.tw11537437363991626986 : Unit := ()
def PySem.W.Fast.tw11858373554685607662 : Unit := ()
def PySem.W.Fast.tw9437034276278712501 : Unit := ()
def PySem.W.Fast.tw5540265892835094876 : Unit := ()
def PySem.W.Fast.tw5046127530451467148 : Unit := ()
def PySem.W.Fast.tw17914468260706130094 : Unit := ()
def PySem.W.Fast.tw4575522094216039620 : Unit := ()
def PySem.W.Fast.tw896168560891686365 : Unit := ()
def PySem.W.Fast.tw7932637185783300483 : Unit := ()
def PySem.W.Fast.tw15777216867428337339 : Unit := ()
def PySem.W.Fast.tw2536870117233415375 : Unit := ()
def PySem.W.Fast.tw7508180780349264510 : Unit := ()
def PySem.W.Fast.tw9495432677398901439 : Unit := ()
def PySem.W.Fast.tw7296479367822973148 : Unit := ()
def PySem.W.Fast.tw13382257327670623575 : Unit := ()
def PySem.W.Fast.tw1463897303752335921 : Unit := ()
def PySem.W.Fast.tw13919531619590069378 : Unit := ()
def PySem.W.Fast.tw3586194783929976329 : Unit := ()
def PySem.W.Fast.tw5323097954098624569 : Unit := ()
def PySem.W.Fast.tw13366591291296357008 : Unit := ()
def PySem.W.Fast.tw9707933736667978239 : Unit := ()
def PySem.W.Fast.tw16863517763908411326 : Unit := ()
def PySem.W.Fast.tw15125083705879189347 : Unit := ()
def PySem.W.Fast.tw13527272879855777889 : Unit := ()
def PySem.W.Fast.tw5759213982800277387 : Unit := ()
def PySem.W.Fast.tw10719773936229846961 : Unit := ()
def PySem.W.Fast.tw2864601726499850730 : Unit := ()
def PySem.W.Fast.tw13495333897992866598 : Unit := ()
def PySem.W.Fast.tw9574789039355306873 : Unit := ()
def PySem.W.Fast.tw15290651278346257124 : Unit := ()
def PySem.W.Fast.tw13960826957999010440 : Unit := ()
def PySem.W.Fast.tw865090026588582870 : Unit := ()
def PySem.W.Fast.tw15686092714016756405 : Unit := ()
def PySem.W.Fast.tw3436642242516070942 : Unit := ()
def PySem.W.Fast.tw7319166356892160930 : Unit := ()
def PySem.W.Fast.tw14982471549852288828 : Unit := ()
def PySem.W.Fast.tw1356937332688637494 : Unit := ()
def PySem.W.Fast.tw15520724989382593189 : Unit := ()
def PySem.W.Fast.tw2507031986102841045 : Unit := ()
def PySem.W.Fast.tw4995575610293372001 : Unit := ()
def PySem.W.Fast.tw2035083954704947047 : Unit := ()
def PySem.W.Fast.tw12283161487667602622 : Unit := ()
def PySem.W.Fast.tw3459295146260438706 : Unit := ()
def PySem.W.Fast.tw2405876253713709685 : Unit := ()
def PySem.W.Fast.tw17361906288559990204 : Unit := ()
def PySem.W.Fast.tw11686136731312659677 : Unit := ()
def PySem.W.Fast.tw767348873165259225 : Unit := ()
def PySem.W.Fast.tw18088591623825787346 : Unit := ()
def PySem.W.Fast.tw16239432731936328049 : Unit := ()
def PySem.W.Fast.tw11420495664493449108 : Unit := ()
def PySem.W.Fast.tw5540756732442540727 : Unit := ()
def PySem.W.Fast.tw221633415550082276 : Unit := ()
def PySem.W.Fast.tw12332376011608940493 : Unit := ()
def PySem.W.Fast.tw1149014599918122068 : Unit := ()
def PySem.W.Fast.tw5195933496907073112 : Unit := ()
def PySem.W.Fast.tw12036412413724693398 : Unit := ()
def PySem.W.Fast.tw2958532763530857231 : Unit := ()
def PySem.W.Fast.tw16483260658148940553 : Unit := ()
def PySem.W.Fast.tw10038142770366206011 : Unit := ()
def PySem.W.Fast.tw207025089833820852 : Unit := ()
def PySem.W.Fast.tw11333549378779737636 : Unit := ()
def PySem.W.Fast.tw45922831319471938 : Unit := ()
def PySem.W.Fast.tw9173959387518298254 : Unit := ()
def PySem.W.Fast.tw15419621266907131062 : Unit := ()
def PySem.W.Fast.tw3867275635483711459 : Unit := ()
def PySem.W.Fast.tw17320636531617118013 : Unit := ()
def PySem.W.Fast.tw11795086941158700274 : Unit := ()
def PySem.W.Fast.tw18065793518004811364 : Unit := ()
def PySem.W.Fast.tw7054779867396701089 : Unit := ()
def PySem.W.Fast.tw4334953883616767354 : Unit := ()
def PySem.W.Fast.tw17179934269216042487 : Unit := ()
def PySem.W.Fast.tw14440986678718370879 : Unit := ()
def PySem.W.Fast.tw9704147024899990418 : Unit := ()
def PySem.W.Fast.tw3220143667801497693 : Unit := ()
def PySem.W.Fast.tw6696532129335792246 : Unit := ()
def PySem.W.Fast.tw10630801050587856892 : Unit := ()
def PySem.W.Fast.tw10714862322979573550 : Unit := ()
def PySem.W.Fast.tw8783798608346335701 : Unit := ()
def PySem.W.Fast.tw14265432080516021620 : Unit := ()
def PySem.W.Fast.tw15414320464831313990 : Unit := ()
def PySem.W.Fast.tw10801973725904988439 : Unit := ()
def PySem.W.Fast.tw8496374271548383653 : Unit := ()
def PySem.W.Fast.tw8681217796068611448 : Unit := ()
def PySem.W.Fast.tw13101654052040224630 : Unit := ()
def PySem.W.Fast.tw4277119126528747961 : Unit := ()
def PySem.W.Fast.tw2925501189784332889 : Unit := ()
def PySem.W.Fast.tw1978736411769171050 : Unit := ()
def PySem.W.Fast.tw17375032312635159708 : Unit := ()
def PySem.W.Fast.tw13696880588864597357 : Unit := ()
def PySem.W.Fast.tw3001838712995515743 : Unit := ()
def PySem.W.Fast.tw1351831318557077681 : Unit := ()
def PySem.W.Fast.tw5203416459345370573 : Unit := ()
def PySem.W.Fast.tw1520707584500645642 : Unit := ()
def PySem.W.Fast.tw5009487237453515573 : Unit := ()
def PySem.W.Fast.tw636408717025755827 : Unit := ()
def PySem.W.Fast.tw2925084802971300544 : Unit := ()
def PySem.W.Fast.tw9195307604423418454 : Unit := ()
def PySem.W.Fast.tw16447755999881791620 : Unit := ()
def PySem.W.Fast.tw11340380593636659571 : Unit := ()
def PySem.W.Fast.tw9519850643307171522 : Unit := ()
def PySem.W.Fast.tw18104663883902677166 : Unit := ()
def PySem.W.Fast.tw15983191553710549662 : Unit := ()
def PySem.W.Fast.tw5246251567942883918 : Unit := ()
def PySem.W.Fast.tw4800759778204054926 : Unit := ()
def PySem.W.Fast.tw11627175002087845610 : Unit := ()
def PySem.W.Fast.tw6739097600955881295 : Unit := ()
def PySem.W.Fast.tw300352561261905133 : Unit := ()
def PySem.W.Fast.tw4648209277976701225 : Unit := ()
def PySem.W.Fast.tw5420429684618934488 : Unit := ()
def PySem.W.Fast.tw18033906507546183356 : Unit := ()
def PySem.W.Fast.tw17980284243595515051 : Unit := ()
def PySem.W.Fast.tw749445132116325718 : Unit := ()
def PySem.W.Fast.tw5037836385624427567 : Unit := ()
def PySem.W.Fast.tw5661284548917657670 : Unit := ()
def PySem.W.Fast.tw2816268950870076315 : Unit := ()
def PySem.W.Fast.tw11706865506783586081 : Unit := ()
def PySem.W.Fast.tw15156548153954925643 : Unit := ()
def PySem.W.Fast.tw16279536349965397684 : Unit := ()
def PySem.W.Fast.tw7247490091757603798 : Unit := ()
def PySem.W.Fast.tw16760532293559617758 : Unit := ()
def PySem.W.Fast.tw13837998283269547760 : Unit := ()
def PySem.W.Fast.tw12183139794738835858 : Unit := ()
def PySem.W.Fast.tw18033067972481696376 : Unit := ()
def PySem.W.Fast.tw892407590578955166 : Unit := ()
def PySem.W.Fast.tw56173254367249423 : Unit := ()
def PySem.W.Fast.tw3903061382620023240 : Unit := ()
def PySem.W.Fast.tw13866682231142133616 : Unit := ()
def PySem.W.Fast.tw18216375641283289943 : Unit := ()
def PySem.W.Fast.tw5455759158941450708 : Unit := ()
def PySem.W.Fast.tw10308493002112192368 : Unit := ()
def PySem.W.Fast.tw6924064377786364178 : Unit := ()
def PySem.W.Fast.tw14401050866895819578 : Unit := ()
def PySem.W.Fast.tw3464199987865827410 : Unit := ()
def PySem.W.Fast.tw13271160330037169139 : Unit := ()
def PySem.W.Fast.tw16037601667124220178 : Unit := ()
def PySem.W.Fast.tw14836670627978363032 : Unit := ()
def PySem.W.Fast.tw14173121955591773161 : Unit := ()
def PySem.W.Fast.tw7505764784096860118 : Unit := ()
def PySem.W.Fast.tw3771590593156651134 : Unit := ()
def PySem.W.Fast.tw5363866234047829004 : Unit := ()
def PySem.W.Fast.tw397334754962789220 : Unit := ()
def PySem.W.Fast.tw2287959905748615270 : Unit := ()
def PySem.W.Fast.tw16853836138823598083 : Unit := ()
def PySem.W.Fast.tw11570639057706581256 : Unit := ()
def PySem.W.Fast.tw16637966620154918154 : Unit := ()
def PySem.W.Fast.tw17309368782840029919 : Unit := ()
def PySem.W.Fast.tw8519618213145137908 : Unit := ()
def PySem.W.Fast.tw8273260719263825832 : Unit := ()
def PySem.W.Fast.tw6879096253898356641 : Unit := ()
def PySem.W.Fast.tw15452655822871627007 : Unit := ()
def PySem.W.Fast.tw10695887533831496644 : Unit := ()
def PySem.W.Fast.tw8609524838583927274 : Unit := ()
def PySem.W.Fast.tw17403779258120681612 : Unit := ()
def PySem.W.Fast.tw7789745740161677039 : Unit := ()
def PySem.W.Fast.tw6988335314670354248 : Unit := ()
def PySem.W.Fast.tw6533139659735650712 : Unit := ()
def PySem.W.Fast.tw3214961693325865103 : Unit := ()
def PySem.W.Fast.tw16287310881326471811 : Unit := ()
def PySem.W.Fast.tw3364162555263862220 : Unit := ()
def PySem.W.Fast.tw13572109996865168361 : Unit := ()
def PySem.W.Fast.tw12676730847608553898 : Unit := ()
def PySem.W.Fast.tw11742246748398825311 : Unit := ()
def PySem.W.Fast.tw979542371268218724 : Unit := ()
def PySem.W.Fast.tw4278070258756010935 : Unit := ()
def PySem.W.Fast.tw10702132521950316712 : Unit := ()
def PySem.W.Fast.tw7524047502018047199 : Unit := ()
def PySem.W.Fast.tw15753859415132991119 : Unit := ()
def PySem.W.Fast.tw15118227753324246580 : Unit := ()
def PySem.W.Fast.tw10827806037916792287 : Unit := ()
def PySem.W.Fast.tw16277236261120271782 : Unit := ()
def PySem.W.Fast.tw2122576898458666274 : Unit := ()
def PySem.W.Fast.tw16155895199943421308 : Unit := ()
def PySem.W.Fast.tw12063181650042204078 : Unit := ()
def PySem.W.Fast.tw18241916739120370613 : Unit := ()
def PySem.W.Fast.tw16036383432753647117 : Unit := ()
def PySem.W.Fast.tw14049615321207112222 : Unit := ()
def PySem.W.Fast.tw2706142209158757640 : Unit := ()
def PySem.W.Fast.tw3950687527684155283 : Unit := ()
def PySem.W.Fast.tw12082656579007735284 : Unit := ()
def PySem.W.Fast.tw2853595259686767099 : Unit := ()
def PySem.W.Fast.tw13782799116829648256 : Unit := ()
def PySem.W.Fast.tw1128525018165088757 : Unit := ()
def PySem.W.Fast.tw6150218381202876495 : Unit := ()
def PySem.W.Fast.tw7752430328959695906 : Unit := ()
def PySem.W.Fast.tw5730926504674297709 : Unit := ()
def PySem.W.Fast.tw10042579766885334913 : Unit := ()
def PySem.W.Fast.tw7781790812072333423 : Unit := ()
def PySem.W.Fast.tw6633289236814960362 : Unit := ()
def PySem.W.Fast.tw8390444903938849287 : Unit := ()
def PySem.W.Fast.tw13866660907522672297 : Unit := ()
def PySem.W.Fast.tw2024430460866019872 : Unit := ()
def PySem.W.Fast.tw3082528155482331547 : Unit := ()
def PySem.W.Fast.tw9706068856856790839 : Unit := ()
def PySem.W.Fast.tw14321084047730011334 : Unit := ()
def PySem.W.Fast.tw2573937500897486472 : Unit := ()
def PySem.W.Fast.tw12224655621220284054 : Unit := ()
def PySem.W.Fast.tw9245182283536088219 : Unit := ()
def PySem.W.Fast.tw13467197166764359661 : Unit := ()
def PySem.W.Fast.tw587921127730193385 : Unit := ()
def PySem.W.Fast.tw7983718801443564224 : Unit := ()
def PySem.W.Fast.tw12275633348406828139 : Unit := ()
def PySem.W.Fast.tw6195372383343185998 : Unit := ()
def PySem.W.Fast.tw13728844077177600458 : Unit := ()
def PySem.W.Fast.tw7687162761439930530 : Unit := ()
def PySem.W.Fast.tw13584888052090167141 : Unit := ()
def PySem.W.Fast.tw10278572310323166961 : Unit := ()
def PySem.W.Fast.tw8056850019795491684 : Unit := ()
def PySem.W.Fast.tw10805505376163895962 : Unit := ()
def PySem.W.Fast.tw4616555735087659942 : Unit := ()
def PySem.W.Fast.tw2004005152690077155 : Unit := ()
def PySem.W.Fast.tw4081120032622767250 : Unit := ()
def PySem.W.Fast.tw6473977301101183564 : Unit := ()
def PySem.W.Fast.tw13136943807762770966 : Unit := ()
def PySem.W.Fast.tw14975351328544658071 : Unit := ()
def PySem.W.Fast.tw835725108502770308 : Unit := ()
def PySem.W.Fast.tw17903446810849674072 : Unit := ()
def PySem.W.Fast.tw17171004109130491322 : Unit := ()
def PySem.W.Fast.tw16467036948985625015 : Unit := ()
def PySem.W.Fast.tw14564146831164718212 : Unit := ()
def PySem.W.Fast.tw6939215947722316719 : Unit := ()
def PySem.W.Fast.tw9563680717874198280 : Unit := ()
def PySem.W.Fast.tw18261517674451581983 : Unit := ()
def PySem.W.Fast.tw1606563730059416613 : Unit := ()
def PySem.W.Fast.tw8288982932917221996 : Unit := ()
def PySem.W.Fast.tw925926295052008248 : Unit := ()
def PySem.W.Fast.tw12932662246869219622 : Unit := ()
def PySem.W.Fast.tw7186301879546695817 : Unit := ()
def PySem.W.Fast.tw16750679334771162504 : Unit := ()
def PySem.W.Fast.tw1396412826059006595 : Unit := ()
def PySem.W.Fast.tw10258962195557414555 : Unit := ()
def PySem.W.Fast.tw2728902628474545034 : Unit := ()
def PySem.W.Fast.tw8630978858759597205 : Unit := ()
def PySem.W.Fast.tw17265914115542497296 : Unit := ()
def PySem.W.Fast.tw9087461947070775096 : Unit := ()
def PySem.W.Fast.tw2402786200956166517 : Unit := ()
def PySem.W.Fast.tw17404540035426107709 : Unit := ()
def PySem.W.Fast.tw17169473506435970576 : Unit := ()
def PySem.W.Fast.tw10035882143967354244 : Unit := ()
def PySem.W.Fast.tw4514128680270205937 : Unit := ()
def PySem.W.Fast.tw10392773185749332231 : Unit := ()
def PySem.W.Fast.tw6047836473586773117 : Unit := ()
def PySem.W.Fast.tw11284978790483416099 : Unit := ()
def PySem.W.Fast.tw622818028927254135 : Unit := ()
def PySem.W.Fast.tw4394641527191085350 : Unit := ()
def PySem.W.Fast.tw4739324145574909765 : Unit := ()
def PySem.W.Fast.tw8800956512745198666 : Unit := ()
def PySem.W.Fast.tw15725274931446918418 : Unit := ()
def PySem.W.Fast.tw2408977090628493069 : Unit := ()
def PySem.W.Fast.tw59198726257477240 : Unit := ()
def PySem.W.Fast.tw15616313229038577792 : Unit := ()
def PySem.W.Fast.tw13878818936967347336 : Unit := ()
def PySem.W.Fast.tw2977180877552772322 : Unit := ()
def PySem.W.Fast.tw18179993788235751402 : Unit := ()
def PySem.W.Fast.tw1604500679776058891 : Unit := ()
def PySem.W.Fast.tw3412364520292437530 : Unit := ()
def PySem.W.Fast.tw14383168964347649125 : Unit := ()
def PySem.W.Fast.tw18310023330907271562 : Unit := ()
def PySem.W.Fast.tw736783007718455360 : Unit := ()
def PySem.W.Fast.tw15787149775005950586 : Unit := ()
def PySem.W.Fast.tw10014955799941901317 : Unit := ()
def PySem.W.Fast.tw12685972913194910967 : Unit := ()
def PySem.W.Fast.tw6721186006010809024 : Unit := ()
def PySem.W.Fast.tw603184546370474449 : Unit := ()
def PySem.W.Fast.tw7470085696246349091 : Unit := ()
def PySem.W.Fast.tw16270791824821159893 : Unit := ()
def PySem.W.Fast.tw12793182440661455280 : Unit := ()
def PySem.W.Fast.tw12237871917197096758 : Unit := ()
def PySem.W.Fast.tw10416179738344785003 : Unit := ()
def PySem.W.Fast.tw2089259639919868531 : Unit := ()
def PySem.W.Fast.tw7618386956853057432 : Unit := ()
def PySem.W.Fast.tw15904159739993764293 : Unit := ()
def PySem.W.Fast.tw3660103627355771566 : Unit := ()
def PySem.W.Fast.tw15260144054316517714 : Unit := ()
def PySem.W.Fast.tw11321536273853793871 : Unit := ()
def PySem.W.Fast.tw11696067006206291340 : Unit := ()
def PySem.W.Fast.tw8770845734959481022 : Unit := ()
def PySem.W.Fast.tw10114671621783558774 : Unit := ()
def PySem.W.Fast.tw17625036023877958485 : Unit := ()
def PySem.W.Fast.tw1289959060529802234 : Unit := ()
def PySem.W.Fast.tw15339037381458577946 : Unit := ()
def PySem.W.Fast.tw4580593171286745024 : Unit := ()
def PySem.W.Fast.tw8096652959322981337 : Unit := ()
def PySem.W.Fast.tw7411376444496692663 : Unit := ()
def PySem.W.Fast.tw4313256858140443884 : Unit := ()
def PySem.W.Fast.tw3198744476363021454 : Unit := ()
def PySem.W.Fast.tw13543716136350113437 : Unit := ()
def PySem.W.Fast.tw10642659990903911233 : Unit := ()
def PySem.W.Fast.tw9996011899256488271 : Unit := ()
def PySem.W.Fast.tw15157092561821973021 : Unit := ()
def PySem.W.Fast.tw7863097909187397608 : Unit := ()
def PySem.W.Fast.tw11106409115321496574 : Unit := ()
def PySem.W.Fast.tw3554852273544910868 : Unit := ()
def PySem.W.Fast.tw353637199807305390 : Unit := ()
def PySem.W.Fast.tw12084485463015188223 : Unit := ()
def PySem.W.Fast.tw17195859139728235473 : Unit := ()
def PySem.W.Fast.tw3955666918029809056 : Unit := ()
def PySem.W.Fast.tw7064108475037318615 : Unit := ()
def PySem.W.Fast.tw2781108829460494866 : Unit := ()
def PySem.W.Fast.tw14231166580934641639 : Unit := ()
def PySem.W.Fast.tw13586836726682193496 : Unit := ()
def PySem.W.Fast.tw11759409634481297683 : Unit := ()
def PySem.W.Fast.tw8280281152891508743 : Unit := ()
def PySem.W.Fast.tw9012856341358276195 : Unit := ()
def PySem.W.Fast.tw6419977495863062723 : Unit := ()
def PySem.W.Fast.tw14681286464979667286 : Unit := ()
def PySem.W.Fast.tw7235251187126632952 : Unit := ()
def PySem.W.Fast.tw1979105165626530803 : Unit := ()
def PySem.W.Fast.tw5152493994004233243 : Unit := ()
def PySem.W.Fast.tw3156732032887955606 : Unit := ()
def PySem.W.Fast.tw10761242060981970997 : Unit := ()
def PySem.W.Fast.tw1576062338762040402 : Unit := ()
def PySem.W.Fast.tw13508907232001131623 : Unit := ()
def PySem.W.Fast.tw3409957875063209585 : Unit := ()
def PySem.W.Fast.tw1315383464987710556 : Unit := ()
def PySem.W.Fast.tw14065673251803850368 : Unit := ()
def PySem.W.Fast.tw6146466329638381826 : Unit := ()
def PySem.W.Fast.tw17479464033467289976 : Unit := ()
def PySem.W.Fast.tw6995259973164854722 : Unit := ()
def PySem.W.Fast.tw5940752177470985401 : Unit := ()
def PySem.W.Fast.tw1210585991478325244 : Unit := ()
def PySem.W.Fast.tw14889643240080236144 : Unit := ()
def PySem.W.Fast.tw17509730833895915235 : Unit := ()
def PySem.W.Fast.tw11323332918904134599 : Unit := ()
def PySem.W.Fast.tw18401017774703331506 : Unit := ()
def PySem.W.Fast.tw511739901327515302 : Unit := ()
def PySem.W.Fast.tw3790848186892048494 : Unit := ()
def PySem.W.Fast.tw5552354880369891706 : Unit := ()
def PySem.W.Fast.tw14072389809252654793 : Unit := ()
def PySem.W.Fast.tw2885198078353168532 : Unit := ()
def PySem.W.Fast.tw10898705748120737675 : Unit := ()
def PySem.W.Fast.tw15560648643734716540 : Unit := ()
def PySem.W.Fast.tw7163513375688802681 : Unit := ()
def PySem.W.Fast.tw7562734964514643799 : Unit := ()
def PySem.W.Fast.tw4399135422819202347 : Unit := ()
def PySem.W.Fast.tw3026421176897364531 : Unit := ()
def PySem.W.Fast.tw14957450967338901320 : Unit := ()
def PySem.W.Fast.tw9077258578003862025 : Unit := ()
def PySem.W.Fast.tw5052463367935000275 : Unit := ()
def PySem.W.Fast.tw15878749485994722120 : Unit := ()
def PySem.W.Fast.tw15892040091069392868 : Unit := ()
def PySem.W.Fast.tw10043563437678598996 : Unit := ()
def PySem.W.Fast.tw3225586459556301867 : Unit := ()
def PySem.W.Fast.tw15592693157425595458 : Unit := ()
def PySem.W.Fast.tw16521075132548375087 : Unit := ()
def PySem.W.Fast.tw2458908134997530400 : Unit := ()
def PySem.W.Fast.tw6954201577193302278 : Unit := ()
def PySem.W.Fast.tw14209571115959619439 : Unit := ()
def PySem.W.Fast.tw8163424543441683879 : Unit := ()
def PySem.W.Fast.tw13590552520525208507 : Unit := ()
def PySem.W.Fast.tw10013432690966843340 : Unit := ()
def PySem.W.Fast.tw18167185284587174512 : Unit := ()
def PySem.W.Fast.tw8215650891151867468 : Unit := ()
def PySem.W.Fast.tw8076722824929853750 : Unit := ()
def PySem.W.Fast.tw15023724790867503791 : Unit := ()
def PySem.W.Fast.tw8610404584982550149 : Unit := ()
def PySem.W.Fast.tw5449814290194314624 : Unit := ()
def PySem.W.Fast.tw2729770804127174031 : Unit := ()
def PySem.W.Fast.tw17637522726260628269 : Unit := ()
def PySem.W.Fast.tw5541903188436231716 : Unit := ()
def PySem.W.Fast.tw14778962443296528871 : Unit := ()
def PySem.W.Fast.tw6527019879987492929 : Unit := ()
def PySem.W.Fast.tw17711363491335294087 : Unit := ()
def PySem.W.Fast.tw10068696065236280909 : Unit := ()
def PySem.W.Fast.tw13330322154306516804 : Unit := ()
def PySem.W.Fast.tw4479684555076239580 : Unit := ()
def PySem.W.Fast.tw5979602363817751206 : Unit := ()
def PySem.W.Fast.tw2508574815506801120 : Unit := ()
def PySem.W.Fast.tw9271500589205914719 : Unit := ()
def PySem.W.Fast.tw2305365430739518484 : Unit := ()
def PySem.W.Fast.tw16710376139245446291 : Unit := ()
def PySem.W.Fast.tw6462608497305851585 : Unit := ()
def PySem.W.Fast.tw15259377651148583394 : Unit := ()
def PySem.W.Fast.tw1394260805466990686 : Unit := ()
def PySem.W.Fast.tw965593316500745738 : Unit := ()
def PySem.W.Fast.tw935244819645686616 : Unit := ()
def PySem.W.Fast.tw10186846383268722013 : Unit := ()
def PySem.W.Fast.tw8918122034473655095 : Unit := ()
def PySem.W.Fast.tw2324426696240709029 : Unit := ()
def PySem.W.Fast.tw731870878730013293 : Unit := ()
def PySem.W.Fast.tw6665228558612023770 : Unit := ()
def PySem.W.Fast.tw3069888072019464024 : Unit := ()
def PySem.W.Fast.tw11408555314612865175 : Unit := ()
def PySem.W.Fast.tw10430869088305185171 : Unit := ()
def PySem.W.Fast.tw16736614624821388436 : Unit := ()
def PySem.W.Fast.tw6212921026665738538 : Unit := ()
def PySem.W.Fast.tw17926952312819604561 : Unit := ()
def PySem.W.Fast.tw18440903967823705506 : Unit := ()
def PySem.W.Fast.tw16872061033419024174 : Unit := ()
def PySem.W.Fast.tw4620997898653788606 : Unit := ()
def PySem.W.Fast.tw14315789890197057258 : Unit := ()
def PySem.W.Fast.tw10947315813496766741 : Unit := ()
def PySem.W.Fast.tw2670891612061995514 : Unit := ()
def PySem.W.Fast.tw12154621398000498423 : Unit := ()
def PySem.W.Fast.tw4820574264460391372 : Unit := ()
def PySem.W.Fast.tw3461474934851630578 : Unit := ()
def PySem.W.Fast.tw15539687939687427548 : Unit := ()
def PySem.W.Fast.tw2119846107637621206 : Unit := ()
def PySem.W.Fast.tw2563985153853077959 : Unit := ()
def PySem.W.Fast.tw13871867588857873700 : Unit := ()
def PySem.W.Fast.tw234667812750033592 : Unit := ()
def PySem.W.Fast.tw16258631845804284992 : Unit := ()
def PySem.W.Fast.tw7767056721656687992 : Unit := ()
def PySem.W.Fast.tw16550937329493992808 : Unit := ()
def PySem.W.Fast.tw9136960373694914060 : Unit := ()
def PySem.W.Fast.tw17657544013271597746 : Unit := ()
def PySem.W.Fast.tw602548301644818973 : Unit := ()
def PySem.W.Fast.tw12811678935833893658 : Unit := ()
def PySem.W.Fast.tw6864547147874395369 : Unit := ()
def PySem.W.Fast.tw12700659200215863062 : Unit := ()
def PySem.W.Fast.tw3652431820152590899 : Unit := ()
def PySem.W.Fast.tw15623653277796710364 : Unit := ()
def PySem.W.Fast.tw5793169526879104038 : Unit := ()
def PySem.W.Fast.tw2718972399581312412 : Unit := ()
def PySem.W.Fast.tw17226584746280996388 : Unit := ()
def PySem.W.Fast.tw18255329143437678719 : Unit := ()
def PySem.W.Fast.tw8204223314940471910 : Unit := ()
def PySem.W.Fast.tw7136905497821812385 : Unit := ()
def PySem.W.Fast.tw16256949309388510370 : Unit := ()
def PySem.W.Fast.tw11288987417427971963 : Unit := ()
def PySem.W.Fast.tw2833174989270882131 : Unit := ()
def PySem.W.Fast.tw11913549483536353978 : Unit := ()
def PySem.W.Fast.tw14012419569245542196 : Unit := ()
def PySem.W.Fast.tw13162154422721224031 : Unit := ()
def PySem.W.Fast.tw12887131045014073645 : Unit := ()
def PySem.W.Fast.tw399826396101619664 : Unit := ()
def PySem.W.Fast.tw11945833362819357577 : Unit := ()
def PySem.W.Fast.tw9120022034276293146 : Unit := ()
def PySem.W.Fast.tw12298180300301675632 : Unit := ()
def PySem.W.Fast.tw4954664951237923728 : Unit := ()
def PySem.W.Fast.tw8932976325837866528 : Unit := ()
def PySem.W.Fast.tw17167692121375318590 : Unit := ()
def PySem.W.Fast.tw13551765807762863970 : Unit := ()
def PySem.W.Fast.tw6276139283110630590 : Unit := ()
def PySem.W.Fast.tw3610584449069048905 : Unit := ()
def PySem.W.Fast.tw16223110450021870142 : Unit := ()
def PySem.W.Fast.tw13699696217803093949 : Unit := ()
def PySem.W.Fast.tw14267084401678427115 : Unit := ()
def PySem.W.Fast.tw741101693432126314 : Unit := ()
def PySem.W.Fast.tw9185110536737085562 : Unit := ()
def PySem.W.Fast.tw13849744235358558745 : Unit := ()
def PySem.W.Fast.tw16964810869591864015 : Unit := ()
def PySem.W.Fast.tw17698992187432902508 : Unit := ()
def PySem.W.Fast.tw12605190234986286269 : Unit := ()
def PySem.W.Fast.tw4159049958027572643 : Unit := ()
def PySem.W.Fast.tw11709406606482444815 : Unit := ()
def PySem.W.Fast.tw1064295795433971725 : Unit := ()
def PySem.W.Fast.tw2751647222356487445 : Unit := ()
def PySem.W.Fast.tw206972384774087515 : Unit := ()
def PySem.W.Fast.tw18203260539984403877 : Unit := ()
def PySem.W.Fast.tw2875774644450120936 : Unit := ()
def PySem.W.Fast.tw5059022393728927953 : Unit := ()
def PySem.W.Fast.tw10786093905271132016 : Unit := ()
def PySem.W.Fast.tw9461968312122925228 : Unit := ()
def PySem.W.Fast.tw2470997554944475053 : Unit := ()
def PySem.W.Fast.tw6677037189225892161 : Unit := ()
def PySem.W.Fast.tw6738479108604904350 : Unit := ()
def PySem.W.Fast.tw2930388573857389508 : Unit := ()
def PySem.W.Fast.tw11572083529916608761 : Unit := ()
def PySem.W.Fast.tw12971401809299736389 : Unit := ()
def PySem.W.Fast.tw17183427568475538962 : Unit := ()
def PySem.W.Fast.tw10059136160597596457 : Unit := ()
def PySem.W.Fast.tw608308003310164919 : Unit := ()
def PySem.W.Fast.tw5874609865959196096 : Unit := ()
def PySem.W.Fast.tw9986708487038135363 : Unit := ()
def PySem.W.Fast.tw16005235996327525382 : Unit := ()
def PySem.W.Fast.tw10841488178467661362 : Unit := ()
def PySem.W.Fast.tw4481528044963857245 : Unit := ()
def PySem.W.Fast.tw5381420232584997649 : Unit := ()
def PySem.W.Fast.tw5626565790759169505 : Unit := ()
def PySem.W.Fast.tw11373487030126056088 : Unit := ()
def PySem.W.Fast.tw18196058264034864423 : Unit := ()
def PySem.W.Fast.tw5522441263911846185 : Unit := ()
def PySem.W.Fast.tw18388058922554044318 : Unit := ()
def PySem.W.Fast.tw4983372461521633234 : Unit := ()
def PySem.W.Fast.tw2521972101509930775 : Unit := ()
def PySem.W.Fast.tw15331782456239274546 : Unit := ()
def PySem.W.Fast.tw17745845943647374998 : Unit := ()
def PySem.W.Fast.tw18222378892015281160 : Unit := ()
def PySem.W.Fast.tw4678712929377755515 : Unit := ()
def PySem.W.Fast.tw12715000839313073582 : Unit := ()
def PySem.W.Fast.tw14155723235063616171 : Unit := ()
def PySem.W.Fast.tw6690705193197291744 : Unit := ()
def PySem.W.Fast.tw4504191911167718329 : Unit := ()
def PySem.W.Fast.tw402321718884923145 : Unit := ()
def PySem.W.Fast.tw10344687321835025025 : Unit := ()
def PySem.W.Fast.tw14237334308060939239 : Unit := ()
def PySem.W.Fast.tw12889822274886016628 : Unit := ()
def PySem.W.Fast.tw10735632527495401698 : Unit := ()
def PySem.W.Fast.tw4478866856859500387 : Unit := ()
def PySem.W.Fast.tw4621762005993438038 : Unit := ()
def PySem.W.Fast.tw12585262148117276238 : Unit := ()
def PySem.W.Fast.tw13196274787986345058 : Unit := ()
def PySem.W.Fast.tw4656700690207685346 : Unit := ()
def PySem.W.Fast.tw7318903737660396948 : Unit := ()
def PySem.W.Fast.tw2497253916505007130 : Unit := ()
def PySem.W.Fast.tw15524392136703527178 : Unit := ()
def PySem.W.Fast.tw12667131354606181921 : Unit := ()
def PySem.W.Fast.tw8148990357149968322 : Unit := ()
def PySem.W.Fast.tw10416176424566028256 : Unit := ()
def PySem.W.Fast.tw15163709946452959678 : Unit := ()
def PySem.W.Fast.tw810187250407929619 : Unit := ()
def PySem.W.Fast.tw6675255570646960716 : Unit := ()
def PySem.W.Fast.tw13525453544755265660 : Unit := ()
def PySem.W.Fast.tw1388527690845700412 : Unit := ()
def PySem.W.Fast.tw3308291761165829601 : Unit := ()
def PySem.W.Fast.tw15442887585205447398 : Unit := ()
def PySem.W.Fast.tw10289325005358765602 : Unit := ()
def PySem.W.Fast.tw212583816564558398 : Unit := ()
def PySem.W.Fast.tw3600807907093392399 : Unit := ()
def PySem.W.Fast.tw12804883763049414384 : Unit := ()
def PySem.W.Fast.tw13541708694656472052 : Unit := ()
def PySem.W.Fast.tw17728940160428152237 : Unit := ()
def PySem.W.Fast.tw13742942305582142707 : Unit := ()
def PySem.W.Fast.tw8845814459069520352 : Unit := ()
def PySem.W.Fast.tw1862280337626754372 : Unit := ()
def PySem.W.Fast.tw5791741217934226071 : Unit := ()
def PySem.W.Fast.tw18297517629483804821 : Unit := ()
def PySem.W.Fast.tw10244353966170114089 : Unit := ()
def PySem.W.Fast.tw17017849487850533192 : Unit := ()
def PySem.W.Fast.tw3911137089297138504 : Unit := ()
def PySem.W.Fast.tw16067524578211132480 : Unit := ()
def PySem.W.Fast.tw4513535106894472081 : Unit := ()
def PySem.W.Fast.tw12922950845587833938 : Unit := ()
def PySem.W.Fast.tw15389862916472079797 : Unit := ()
def PySem.W.Fast.tw5154911418330804890 : Unit := ()
def PySem.W.Fast.tw4467381233272045611 : Unit := ()
def PySem.W.Fast.tw17192413835480210142 : Unit := ()
def PySem.W.Fast.tw18179804861689997655 : Unit := ()
def PySem.W.Fast.tw18174884228160417526 : Unit := ()
def PySem.W.Fast.tw13263825640233763735 : Unit := ()
def PySem.W.Fast.tw6745856184240063789 : Unit := ()
def PySem.W.Fast.tw11747273746371159544 : Unit := ()
def PySem.W.Fast.tw6623400378644811598 : Unit := ()
def PySem.W.Fast.tw2007142287815312208 : Unit := ()
def PySem.W.Fast.tw15328077713424027175 : Unit := ()
def PySem.W.Fast.tw1025910926777287488 : Unit := ()
def PySem.W.Fast.tw7169027432654072982 : Unit := ()
def PySem.W.Fast.tw1712307286830751911 : Unit := ()
def PySem.W.Fast.tw4363678415667944285 : Unit := ()
def PySem.W.Fast.tw1045271525482365014 : Unit := ()
def PySem.W.Fast.tw3835680276580185315 : Unit := ()
def PySem.W.Fast.tw1481615791070907513 : Unit := ()
def PySem.W.Fast.tw3825262260371831782 : Unit := ()
def PySem.W.Fast.tw6699040447404354999 : Unit := ()
def PySem.W.Fast.tw5268197884962370083 : Unit := ()
def PySem.W.Fast.tw11500473136496523495 : Unit := ()
def PySem.W.Fast.tw15649330830441875040 : Unit := ()
def PySem.W.Fast.tw12512268232111316310 : Unit := ()
def PySem.W.Fast.tw13301705098715179565 : Unit := ()
def PySem.W.Fast.tw7628460206209104278 : Unit := ()
def PySem.W.Fast.tw10444546732814428820 : Unit := ()
def PySem.W.Fast.tw8273821384422110275 : Unit := ()
def PySem.W.Fast.tw15238744693632363132 : Unit := ()
def PySem.W.Fast.tw12414790025509167513 : Unit := ()
def PySem.W.Fast.tw8087051162983480001 : Unit := ()
def PySem.W.Fast.tw12785563862576613751 : Unit := ()
def PySem.W.Fast.tw10052963154521265913 : Unit := ()
def PySem.W.Fast.tw14604683402444006507 : Unit := ()
def PySem.W.Fast.tw13069521086837862490 : Unit := ()
def PySem.W.Fast.tw8642270640341122442 : Unit := ()
def PySem.W.Fast.tw16188543743708228666 : Unit := ()
def PySem.W.Fast.tw9700165839895205846 : Unit := ()
def PySem.W.Fast.tw16062619550744209585 : Unit := ()
def PySem.W.Fast.tw4602971115447641986 : Unit := ()
def PySem.W.Fast.tw11248491294756416520 : Unit := ()
def PySem.W.Fast.tw15088147252816210681 : Unit := ()
def PySem.W.Fast.tw16346952565988445166 : Unit := ()
def PySem.W.Fast.tw5709634125910193895 : Unit := ()
def PySem.W.Fast.tw8523905492227760874 : Unit := ()
def PySem.W.Fast.tw5319125491536212833 : Unit := ()
def PySem.W.Fast.tw9171827858482121072 : Unit := ()
def PySem.W.Fast.tw5828157063488133444 : Unit := ()
def PySem.W.Fast.tw10520291666587223760 : Unit := ()
def PySem.W.Fast.tw4374261138532736219 : Unit := ()
def PySem.W.Fast.tw1064340682340890968 : Unit := ()
def PySem.W.Fast.tw8449203946613658371 : Unit := ()
def PySem.W.Fast.tw14623799931739910076 : Unit := ()
def PySem.W.Fast.tw11354626133903861439 : Unit := ()
def PySem.W.Fast.tw14370100326335218077 : Unit := ()
def PySem.W.Fast.tw16148371100753872096 : Unit := ()
def PySem.W.Fast.tw544837528014617338 : Unit := ()
def PySem.W.Fast.tw4652427391684442095 : Unit := ()
def PySem.W.Fast.tw15209991194966679570 : Unit := ()
def PySem.W.Fast.tw2141679223090320344 : Unit := ()
def PySem.W.Fast.tw1147625769062659155 : Unit := ()
def PySem.W.Fast.tw1101242292218304565 : Unit := ()
def PySem.W.Fast.tw17753449511507793888 : Unit := ()
def PySem.W.Fast.tw14371413143101840885 : Unit := ()
def PySem.W.Fast.tw11108878350504755795 : Unit := ()
def PySem.W.Fast.tw961173170248060650 : Unit := ()
def PySem.W.Fast.tw8764405691570113809 : Unit := ()
def PySem.W.Fast.tw13816720391754749493 : Unit := ()
def PySem.W.Fast.tw17883209187853127872 : Unit := ()
def PySem.W.Fast.tw13294007266108421305 : Unit := ()
def PySem.W.Fast.tw8817378569813790225 : Unit := ()
def PySem.W.Fast.tw10358634157401985623 : Unit := ()
def PySem.W.Fast.tw7451609280931656575 : Unit := ()
def PySem.W.Fast.tw4198486857068837015 : Unit := ()
def PySem.W.Fast.tw6887617122891094667 : Unit := ()
def PySem.W.Fast.tw3043015757846321592 : Unit := ()
def PySem.W.Fast.tw11428523005119511180 : Unit := ()
def PySem.W.Fast.tw17174887770266653128 : Unit := ()
def PySem.W.Fast.tw2832910466468621228 : Unit := ()
def PySem.W.Fast.tw7886167248496192288 : Unit := ()
def PySem.W.Fast.tw14356200528829620410 : Unit := ()
def PySem.W.Fast.tw5757131290048616480 : Unit := ()
def PySem.W.Fast.tw14091002973827055078 : Unit := ()
def PySem.W.Fast.tw1570350268320888775 : Unit := ()
def PySem.W.Fast.tw17479361593377414315 : Unit := ()
def PySem.W.Fast.tw4286152154369569173 : Unit := ()
def PySem.W.Fast.tw17888738748717080459 : Unit := ()
def PySem.W.Fast.tw1375891405595611583 : Unit := ()
def PySem.W.Fast.tw1245540445607845109 : Unit := ()
def PySem.W.Fast.tw8826826786053993133 : Unit := ()
def PySem.W.Fast.tw12398509890132195803 : Unit := ()
def PySem.W.Fast.tw17952800148226415200 : Unit := ()
def PySem.W.Fast.tw14580289493352668075 : Unit := ()
def PySem.W.Fast.tw690640940679852568 : Unit := ()
def PySem.W.Fast.tw12653706966093665676 : Unit := ()
def PySem.W.Fast.tw8121864687984003431 : Unit := ()
def PySem.W.Fast.tw9744285220903214858 : Unit := ()
def PySem.W.Fast.tw10245505970127316039 : Unit := ()
def PySem.W.Fast.tw9859005442337071331 : Unit := ()
def PySem.W.Fast.tw12325317167655003981 : Unit := ()
def PySem.W.Fast.tw9164394076872284205 : Unit := ()
def PySem.W.Fast.tw16705062097804866488 : Unit := ()
def PySem.W.Fast.tw2337502819020192177 : Unit := ()
def PySem.W.Fast.tw18247891367331627242 : Unit := ()
def PySem.W.Fast.tw12577488048930558822 : Unit := ()
def PySem.W.Fast.tw15012359469865637334 : Unit := ()
def PySem.W.Fast.tw16334142255056969951 : Unit := ()
def PySem.W.Fast.tw12671998297874983372 : Unit := ()
def PySem.W.Fast.tw16798942212074824013 : Unit := ()
def PySem.W.Fast.tw3841214087720251162 : Unit := ()
def PySem.W.Fast.tw3549554591299979639 : Unit := ()
def PySem.W.Fast.tw3358145503068836651 : Unit := ()
def PySem.W.Fast.tw14670258319490190092 : Unit := ()
def PySem.W.Fast.tw6607337196899205423 : Unit := ()
def PySem.W.Fast.tw15922398550863224139 : Unit := ()
def PySem.W.Fast.tw766555981763854589 : Unit := ()
def PySem.W.Fast.tw17795063638698778622 : Unit := ()
def PySem.W.Fast.tw3637866696112864078 : Unit := ()
def PySem.W.Fast.tw17193493413413303775 : Unit := ()
def PySem.W.Fast.tw9762488885556882907 : Unit := ()
def PySem.W.Fast.tw14001086195898070337 : Unit := ()
def PySem.W.Fast.tw525544533598201074 : Unit := ()
def PySem.W.Fast.tw5828261597745645129 : Unit := ()
def PySem.W.Fast.tw16379152174456296116 : Unit := ()
def PySem.W.Fast.tw7680351638201048854 : Unit := ()
def PySem.W.Fast.tw5196475001080155384 : Unit := ()
def PySem.W.Fast.tw1432702487540778747 : Unit := ()
def PySem.W.Fast.tw10870588556984890505 : Unit := ()
def PySem.W.Fast.tw4696639905334078156 : Unit := ()
def PySem.W.Fast.tw15490807361965475696 : Unit := ()
def PySem.W.Fast.tw14235093809930695152 : Unit := ()
def PySem.W.Fast.tw10274736556910620592 : Unit := ()
def PySem.W.Fast.tw12794345988552398491 : Unit := ()
def PySem.W.Fast.tw10629957775939572323 : Unit := ()
def PySem.W.Fast.tw9987493760261011632 : Unit := ()
def PySem.W.Fast.tw14530657340796447640 : Unit := ()
def PySem.W.Fast.tw15555125680152378829 : Unit := ()
def PySem.W.Fast.tw13978661805122623977 : Unit := ()
def PySem.W.Fast.tw1888903220550959492 : Unit := ()
def PySem.W.Fast.tw14919454957728850818 : Unit := ()
def PySem.W.Fast.tw10907764645094203074 : Unit := ()
def PySem.W.Fast.tw8348472037764763073 : Unit := ()
def PySem.W.Fast.tw16303273056990094507 : Unit := ()
def PySem.W.Fast.tw10827805004537850482 : Unit := ()
def PySem.W.Fast.tw18187267636906573034 : Unit := ()
def PySem.W.Fast.tw4919846361743717225 : Unit := ()
def PySem.W.Fast.tw841956099432252837 : Unit := ()
def PySem.W.Fast.tw16453987547041727086 : Unit := ()
def PySem.W.Fast.tw16865601107750348296 : Unit := ()
def PySem.W.Fast.tw7549791534882850033 : Unit := ()
def PySem.W.Fast.tw8138051011977148186 : Unit := ()
def PySem.W.Fast.tw12494571959677370579 : Unit := ()
def PySem.W.Fast.tw1726121693993008701 : Unit := ()
def PySem.W.Fast.tw18070805441359164486 : Unit := ()
def PySem.W.Fast.tw11164476423191824813 : Unit := ()
def PySem.W.Fast.tw9202210191017033653 : Unit := ()
def PySem.W.Fast.tw15080709688479250842 : Unit := ()
def PySem.W.Fast.tw9343869878582349074 : Unit := ()
def PySem.W.Fast.tw14939557185221258780 : Unit := ()
def PySem.W.Fast.tw6042666203470558107 : Unit := ()
def PySem.W.Fast.tw8562846261697344210 : Unit := ()
def PySem.W.Fast.tw11695850840827575404 : Unit := ()
def PySem.W.Fast.tw16607200838179774585 : Unit := ()
def PySem.W.Fast.tw7661815596121044924 : Unit := ()
def PySem.W.Fast.tw12062932246820158065 : Unit := ()
def PySem.W.Fast.tw3508959552161064499 : Unit := ()
def PySem.W.Fast.tw659134512798186742 : Unit := ()
def PySem.W.Fast.tw8103371436998285616 : Unit := ()
def PySem.W.Fast.tw3974349207396883892 : Unit := ()
def PySem.W.Fast.tw12351623671442957750 : Unit := ()
def PySem.W.Fast.tw11075985220753282734 : Unit := ()
def PySem.W.Fast.tw14494140553441483228 : Unit := ()
def PySem.W.Fast.tw10812635941632882032 : Unit := ()
def PySem.W.Fast.tw4167899098309676664 : Unit := ()
def PySem.W.Fast.tw6592135974628881588 : Unit := ()
def PySem.W.Fast.tw7671519600658652848 : Unit := ()
def PySem.W.Fast.tw501925596489974406 : Unit := ()
def PySem.W.Fast.tw6191986194864165480 : Unit := ()
def PySem.W.Fast.tw7715078898139337263 : Unit := ()
def PySem.W.Fast.tw12073618932353809770 : Unit := ()
def PySem.W.Fast.tw16748801721215520130 : Unit := ()
def PySem.W.Fast.tw4538097699393608115 : Unit := ()
def PySem.W.Fast.tw14011244592892030361 : Unit := ()
def PySem.W.Fast.tw9789045928871405508 : Unit := ()
def PySem.W.Fast.tw3601282500345360648 : Unit := ()
def PySem.W.Fast.tw3303266625908343260 : Unit := ()
def PySem.W.Fast.tw1526186684001102150 : Unit := ()
def PySem.W.Fast.tw4198813585895636473 : Unit := ()
def PySem.W.Fast.tw558887666713397552 : Unit := ()
def PySem.W.Fast.tw8341496540823508567 : Unit := ()
def PySem.W.Fast.tw12388631944269498223 : Unit := ()
def PySem.W.Fast.tw16260364351927582960 : Unit := ()
def PySem.W.Fast.tw5212916365466169875 : Unit := ()
def PySem.W.Fast.tw10727192459360476680 : Unit := ()
def PySem.W.Fast.tw13804248790532556131 : Unit := ()
def PySem.W.Fast.tw14986695719290475869 : Unit := ()
def PySem.W.Fast.tw14332059045952131996 : Unit := ()
def PySem.W.Fast.tw1751532154455259653 : Unit := ()
def PySem.W.Fast.tw10155812459474545888 : Unit := ()
def PySem.W.Fast.tw15742491475702065591 : Unit := ()
def PySem.W.Fast.tw15154493138806812009 : Unit := ()
def PySem.W.Fast.tw5054416849818467480 : Unit := ()
def PySem.W.Fast.tw7804254364260816511 : Unit := ()
def PySem.W.Fast.tw7571440782643132006 : Unit := ()
def PySem.W.Fast.tw1183613578696125010 : Unit := ()
def PySem.W.Fast.tw3045340006838414131 : Unit := ()
def PySem.W.Fast.tw9974888451347547581 : Unit := ()
def PySem.W.Fast.tw3498730523775937456 : Unit := ()
def PySem.W.Fast.tw14458374189289531497 : Unit := ()
def PySem.W.Fast.tw13514514687863022076 : Unit := ()
def PySem.W.Fast.tw355418568124159888 : Unit := ()
def PySem.W.Fast.tw18391094021842756753 : Unit := ()
def PySem.W.Fast.tw14998362062463986668 : Unit := ()
def PySem.W.Fast.tw1509092142773091937 : Unit := ()
def PySem.W.Fast.tw17282793779924550144 : Unit := ()
def PySem.W.Fast.tw13031294568788541765 : Unit := ()
def PySem.W.Fast.tw294629180987865202 : Unit := ()
def PySem.W.Fast.tw1568995921191690427 : Unit := ()
def PySem.W.Fast.tw5075845411059363455 : Unit := ()
def PySem.W.Fast.tw11191701467863784445 : Unit := ()
def PySem.W.Fast.tw7227682787254766203 : Unit := ()
def PySem.W.Fast.tw10270559658439312688 : Unit := ()
def PySem.W.Fast.tw10140904655344495078 : Unit := ()
def PySem.W.Fast.tw5129429145792668287 : Unit := ()
def PySem.W.Fast.tw17404283897477525501 : Unit := ()
def PySem.W.Fast.tw11060382317591702184 : Unit := ()
def PySem.W.Fast.tw12314521684234437015 : Unit := ()
def PySem.W.Fast.tw16010698811542164569 : Unit := ()
def PySem.W.Fast.tw2554092592687819023 : Unit := ()
def PySem.W.Fast.tw16251088088874971317 : Unit := ()
def PySem.W.Fast.tw3403042500964245047 : Unit := ()
def PySem.W.Fast.tw13170033334386151444 : Unit := ()
def PySem.W.Fast.tw2287408551977358929 : Unit := ()
def PySem.W.Fast.tw13870281372121005037 : Unit := ()
def PySem.W.Fast.tw6028000632810394446 : Unit := ()
def PySem.W.Fast.tw8787755059547983160 : Unit := ()
def PySem.W.Fast.tw6165815802473331298 : Unit := ()
def PySem.W.Fast.tw4092262156175724394 : Unit := ()
def PySem.W.Fast.tw5178818066097840195 : Unit := ()
def PySem.W.Fast.tw13620899575267121450 : Unit := ()
def PySem.W.Fast.tw17220406357293188187 : Unit := ()
def PySem.W.Fast.tw565831470214126009 : Unit := ()
def PySem.W.Fast.tw3586560365770527040 : Unit := ()
def PySem.W.Fast.tw16547770628149394460 : Unit := ()
def PySem.W.Fast.tw12099915050264221401 : Unit := ()
def PySem.W.Fast.tw1728576387584989939 : Unit := ()
def PySem.W.Fast.tw4382916671427029341 : Unit := ()
def PySem.W.Fast.tw14828832206291802667 : Unit := ()
def PySem.W.Fast.tw391248147416170153 : Unit := ()
def PySem.W.Fast.tw2869799465416607031 : Unit := ()
def PySem.W.Fast.tw2133547309769531746 : Unit := ()
def PySem.W.Fast.tw6860827990441968061 : Unit := ()
def PySem.W.Fast.tw5920189742059568174 : Unit := ()
def PySem.W.Fast.tw10465902521658052291 : Unit := ()
def PySem.W.Fast.tw16199138883460620967 : Unit := ()
def PySem.W.Fast.tw18068862130338050688 : Unit := ()
def PySem.W.Fast.tw14301633122763064100 : Unit := ()
def PySem.W.Fast.tw11588279246655056225 : Unit := ()
def PySem.W.Fast.tw7656954869959886757 : Unit := ()
def PySem.W.Fast.tw11021812981215621302 : Unit := ()
def PySem.W.Fast.tw8636480415695422738 : Unit := ()
def PySem.W.Fast.tw4266306360625900707 : Unit := ()
def PySem.W.Fast.tw11778556245279742637 : Unit := ()
def PySem.W.Fast.tw14994873187954742854 : Unit := ()
def PySem.W.Fast.tw12711304291314234032 : Unit := ()
def PySem.W.Fast.tw8285760750852239948 : Unit := ()
def PySem.W.Fast.tw9330947481400329664 : Unit := ()
def PySem.W.Fast.tw4623216544914660422 : Unit := ()
def PySem.W.Fast.tw9357990317733725264 : Unit := ()
def PySem.W.Fast.tw4961115031519566343 : Unit := ()
def PySem.W.Fast.tw15578627461480248207 : Unit := ()
def PySem.W.Fast.tw12130928605063313431 : Unit := ()
def PySem.W.Fast.tw8414100944906228030 : Unit := ()
def PySem.W.Fast.tw5416560219182264488 : Unit := ()
def PySem.W.Fast.tw10160111817413338141 : Unit := ()
def PySem.W.Fast.tw2381668990666286399 : Unit := ()
def PySem.W.Fast.tw15628124061218530719 : Unit := ()
def PySem.W.Fast.tw17598393058899737097 : Unit := ()
def PySem.W.Fast.tw3304569660006806462 : Unit := ()
def PySem.W.Fast.tw17007830484422658232 : Unit := ()
def PySem.W.Fast.tw9217284246346578969 : Unit := ()
def PySem.W.Fast.tw8631002882581413265 : Unit := ()
def PySem.W.Fast.tw1479463978416601660 : Unit := ()
def PySem.W.Fast.tw7932076239940554413 : Unit := ()
def PySem.W.Fast.tw9972092180116692527 : Unit := ()
def PySem.W.Fast.tw18446408693488802951 : Unit := ()
def PySem.W.Fast.tw7098964772310689061 : Unit := ()
def PySem.W.Fast.tw10688137427191401453 : Unit := ()
def PySem.W.Fast.tw13067646848877815229 : Unit := ()
def PySem.W.Fast.tw940643052472032810 : Unit := ()
def PySem.W.Fast.tw10075576484518916725 : Unit := ()
def PySem.W.Fast.tw3519783352127337224 : Unit := ()
def PySem.W.Fast.tw14042554849606709375 : Unit := ()
def PySem.W.Fast.tw3653955426251318825 : Unit := ()
def PySem.W.Fast.tw15269418904496867758 : Unit := ()
def PySem.W.Fast.tw15574649066058957988 : Unit := ()
def PySem.W.Fast.tw16962495460425122692 : Unit := ()
def PySem.W.Fast.tw17251003570378856883 : Unit := ()
def PySem.W.Fast.tw16661586144938150274 : Unit := ()
def PySem.W.Fast.tw678229562800022642 : Unit := ()
def PySem.W.Fast.tw8724508396581195880 : Unit := ()
def PySem.W.Fast.tw6146995183772012098 : Unit := ()
def PySem.W.Fast.tw4044540900623898557 : Unit := ()
def PySem.W.Fast.tw17582705386364524728 : Unit := ()
def PySem.W.Fast.tw16455228052927628152 : Unit := ()
def PySem.W.Fast.tw15171821062697174324 : Unit := ()
def PySem.W.Fast.tw7081943238143949885 : Unit := ()
def PySem.W.Fast.tw607439748855765712 : Unit := ()
def PySem.W.Fast.tw4478474228695113337 : Unit := ()
def PySem.W.Fast.tw17375343219702648919 : Unit := ()
def PySem.W.Fast.tw13284329675957335827 : Unit := ()
def PySem.W.Fast.tw11430097106264151433 : Unit := ()
def PySem.W.Fast.tw7495425932128758796 : Unit := ()
def PySem.W.Fast.tw2989695798979501232 : Unit := ()
def PySem.W.Fast.tw5874866470329523447 : Unit := ()
def PySem.W.Fast.tw2241477279416499182 : Unit := ()
def PySem.W.Fast.tw6865192682074727112 : Unit := ()
def PySem.W.Fast.tw8510005670384758992 : Unit := ()
def PySem.W.Fast.tw12845875771576432371 : Unit := ()
def PySem.W.Fast.tw10730323053725275897 : Unit := ()
def PySem.W.Fast.tw14908374671440079740 : Unit := ()
def PySem.W.Fast.tw3946382982756748984 : Unit := ()
def PySem.W.Fast.tw17224049565693478397 : Unit := ()
def PySem.W.Fast.tw15862454997832222452 : Unit := ()
def PySem.W.Fast.tw10945774271811710406 : Unit := ()
def PySem.W.Fast.tw6937248253448979626 : Unit := ()
def PySem.W.Fast.tw4477601632135669519 : Unit := ()
def PySem.W.Fast.tw18304121562805463450 : Unit := ()
def PySem.W.Fast.tw10806703302856120235 : Unit := ()
def PySem.W.Fast.tw3751208138276795819 : Unit := ()
def PySem.W.Fast.tw16996110253221445518 : Unit := ()
def PySem.W.Fast.tw5445566252279354441 : Unit := ()
def PySem.W.Fast.tw12462539854335129245 : Unit := ()
def PySem.W.Fast.tw11396993171830532088 : Unit := ()
def PySem.W.Fast.tw17260322253523232084 : Unit := ()
def PySem.W.Fast.tw3449037545092365278 : Unit := ()
def PySem.W.Fast.tw12068706244675992623 : Unit := ()
def PySem.W.Fast.tw4802591154704799395 : Unit := ()
def PySem.W.Fast.tw9352642365520649052 : Unit := ()
def PySem.W.Fast.tw7400875763495083739 : Unit := ()
def PySem.W.Fast.tw926191027948657628 : Unit := ()
def PySem.W.Fast.tw11821393889237645347 : Unit := ()
def PySem.W.Fast.tw4254622746544702019 : Unit := ()
def PySem.W.Fast.tw8393663467174605013 : Unit := ()
def PySem.W.Fast.tw4440316500931012871 : Unit := ()
def PySem.W.Fast.tw18351009494827264930 : Unit := ()
def PySem.W.Fast.tw4507495608184058378 : Unit := ()
def PySem.W.Fast.tw9103881905994465487 : Unit := ()
def PySem.W.Fast.tw1431317996874658192 : Unit := ()
def PySem.W.Fast.tw17546759848314486965 : Unit := ()
def PySem.W.Fast.tw8727357597267693702 : Unit := ()
def PySem.W.Fast.tw10013638992889092078 : Unit := ()
def PySem.W.Fast.tw2269609815673304871 : Unit := ()
def PySem.W.Fast.tw14001622064354263484 : Unit := ()
def PySem.W.Fast.tw18090283303849158059 : Unit := ()
def PySem.W.Fast.tw16360318897751576077 : Unit := ()
def PySem.W.Fast.tw7158879147806248067 : Unit := ()
def PySem.W.Fast.tw15300279124673998538 : Unit := ()
def PySem.W.Fast.tw9389564885942064451 : Unit := ()
def PySem.W.Fast.tw11113137814693344253 : Unit := ()
def PySem.W.Fast.tw2214632073009677806 : Unit := ()
def PySem.W.Fast.tw3200078047154239099 : Unit := ()
def PySem.W.Fast.tw17545351953330742075 : Unit := ()
def PySem.W.Fast.tw12877262285541120928 : Unit := ()
def PySem.W.Fast.tw3744093193273966533 : Unit := ()
def PySem.W.Fast.tw9724364776588355453 : Unit := ()
def PySem.W.Fast.tw5853735448067521548 : Unit := ()
def PySem.W.Fast.tw16842247008579509601 : Unit := ()
def PySem.W.Fast.tw2321780242752006621 : Unit := ()
def PySem.W.Fast.tw394764823299463252 : Unit := ()
def PySem.W.Fast.tw5002369182265835265 : Unit := ()
def PySem.W.Fast.tw12148082868952947559 : Unit := ()
def PySem.W.Fast.tw11184742127490966171 : Unit := ()
def PySem.W.Fast.tw13913172639424766619 : Unit := ()
def PySem.W.Fast.tw4808529350377397618 : Unit := ()
def PySem.W.Fast.tw11091221045959237286 : Unit := ()
def PySem.W.Fast.tw9977372223274819914 : Unit := ()
def PySem.W.Fast.tw937127569774524566 : Unit := ()
def PySem.W.Fast.tw1601336430330938376 : Unit := ()
def PySem.W.Fast.tw746854958608548161 : Unit := ()
def PySem.W.Fast.tw15955730447673818092 : Unit := ()
def PySem.W.Fast.tw623070801150182571 : Unit := ()
def PySem.W.Fast.tw15028226689352465311 : Unit := ()
def PySem.W.Fast.tw3161046914585019422 : Unit := ()
def PySem.W.Fast.tw6144084751676860787 : Unit := ()
def PySem.W.Fast.tw11691277231305071717 : Unit := ()
def PySem.W.Fast.tw18297122184449764418 : Unit := ()
def PySem.W.Fast.tw8092028917283688247 : Unit := ()
def PySem.W.Fast.tw6202529688910672862 : Unit := ()
def PySem.W.Fast.tw985760240969712575 : Unit := ()
def PySem.W.Fast.tw12210463407639446201 : Unit := ()
def PySem.W.Fast.tw912588556537452784 : Unit := ()
def PySem.W.Fast.tw14710525854212244608 : Unit := ()
def PySem.W.Fast.tw12984467481932675139 : Unit := ()
def PySem.W.Fast.tw12295361655295822353 : Unit := ()
def PySem.W.Fast.tw1068824779812262385 : Unit := ()
def PySem.W.Fast.tw18362737208292663731 : Unit := ()
def PySem.W.Fast.tw7165274528198941711 : Unit := ()
def PySem.W.Fast.tw7777573523821531390 : Unit := ()
def PySem.W.Fast.tw7700423453844440966 : Unit := ()
def PySem.W.Fast.tw11159723534227754375 : Unit := ()
def PySem.W.Fast.tw10687421399191492961 : Unit := ()
def PySem.W.Fast.tw5148380387764424189 : Unit := ()
def PySem.W.Fast.tw7708773044954987638 : Unit := ()
def PySem.W.Fast.tw8608703288346078042 : Unit := ()
def PySem.W.Fast.tw12098530511914165874 : Unit := ()
def PySem.W.Fast.tw8368923296270963974 : Unit := ()
def PySem.W.Fast.tw5775853798744951006 : Unit := ()
def PySem.W.Fast.tw13775518646072055057 : Unit := ()
def PySem.W.Fast.tw15906493386577417013 : Unit := ()
def PySem.W.Fast.tw6909407877050066324 : Unit := ()
def PySem.W.Fast.tw13032127501382805006 : Unit := ()
def PySem.W.Fast.tw3333101204960647134 : Unit := ()
def PySem.W.Fast.tw17125731185008346319 : Unit := ()
def PySem.W.Fast.tw15917411556913006187 : Unit := ()
def PySem.W.Fast.tw14961254440886190215 : Unit := ()
def PySem.W.Fast.tw4076172757171213920 : Unit := ()
def PySem.W.Fast.tw9224254496778926708 : Unit := ()
def PySem.W.Fast.tw6633612202937344078 : Unit := ()
def PySem.W.Fast.tw11036500284885515361 : Unit := ()
def PySem.W.Fast.tw2138669017335386163 : Unit := ()
def PySem.W.Fast.tw14495040530876499605 : Unit := ()
def PySem.W.Fast.tw4007658933879357193 : Unit := ()
def PySem.W.Fast.tw4456818508869246473 : Unit := ()
def PySem.W.Fast.tw14170850214495855559 : Unit := ()
def PySem.W.Fast.tw1380204961554971599 : Unit := ()
def PySem.W.Fast.tw1242197352182085760 : Unit := ()
def PySem.W.Fast.tw2225792369920336605 : Unit := ()
def PySem.W.Fast.tw6247518768655400811 : Unit := ()
def PySem.W.Fast.tw13403789288252292605 : Unit := ()
def PySem.W.Fast.tw18013548572763883650 : Unit := ()
def PySem.W.Fast.tw4608386487784636088 : Unit := ()
def PySem.W.Fast.tw11680386175853057339 : Unit := ()
def PySem.W.Fast.tw18103517889661551668 : Unit := ()
def PySem.W.Fast.tw15730585638542019982 : Unit := ()
def PySem.W.Fast.tw8703215225119982421 : Unit := ()
def PySem.W.Fast.tw17513272436465868705 : Unit := ()
def PySem.W.Fast.tw10774623280895101155 : Unit := ()
def PySem.W.Fast.tw10002812751057187411 : Unit := ()
def PySem.W.Fast.tw15864594907632666020 : Unit := ()
def PySem.W.Fast.tw12905053539145770002 : Unit := ()
def PySem.W.Fast.tw10930552735015945677 : Unit := ()
def PySem.W.Fast.tw1652930306945502316 : Unit := ()
def PySem.W.Fast.tw15903973714354982727 : Unit := ()
def PySem.W.Fast.tw14941656629816804854 : Unit := ()
def PySem.W.Fast.tw10095471445839073022 : Unit := ()
def PySem.W.Fast.tw13157928714378316298 : Unit := ()
def PySem.W.Fast.tw2743480423992468817 : Unit := ()
def PySem.W.Fast.tw6673441553971626204 : Unit := ()
def PySem.W.Fast.tw5056164566902852495 : Unit := ()
def PySem.W.Fast.tw17079033792901128678 : Unit := ()
def PySem.W.Fast.tw8887855917842575907 : Unit := ()
def PySem.W.Fast.tw10219982757111362501 : Unit := ()
def PySem.W.Fast.tw3911606832772757390 : Unit := ()
def PySem.W.Fast.tw8278366194131393863 : Unit := ()
def PySem.W.Fast.tw2294753169648248663 : Unit := ()
def PySem.W.Fast.tw572829331365351708 : Unit := ()
def PySem.W.Fast.tw10722336456560930536 : Unit := ()
def PySem.W.Fast.tw6081706177870256146 : Unit := ()
def PySem.W.Fast.tw9003603439743969465 : Unit := ()
def PySem.W.Fast.tw13537835128587132438 : Unit := ()
def PySem.W.Fast.tw11170007432525481100 : Unit := ()
def PySem.W.Fast.tw16861627900976977765 : Unit := ()
def PySem.W.Fast.tw16709816921406429168 : Unit := ()
def PySem.W.Fast.tw275249813154957990 : Unit := ()
def PySem.W.Fast.tw11916709250277606659 : Unit := ()
def PySem.W.Fast.tw17730595512188073166 : Unit := ()
def PySem.W.Fast.tw10986822589341665756 : Unit := ()
def PySem.W.Fast.tw1410798649571171873 : Unit := ()
def PySem.W.Fast.tw10155060479859205032 : Unit := ()
def PySem.W.Fast.tw16368823900171396476 : Unit := ()
def PySem.W.Fast.tw4627153090428585004 : Unit := ()
def PySem.W.Fast.tw9544069126689800344 : Unit := ()
def PySem.W.Fast.tw7534837897260833893 : Unit := ()
def PySem.W.Fast.tw1795337802822337367 : Unit := ()
def PySem.W.Fast.tw14023965104899376807 : Unit := ()
def PySem.W.Fast.tw15516498442466581677 : Unit := ()
def PySem.W.Fast.tw11448745730567468170 : Unit := ()
def PySem.W.Fast.tw13073498940515953025 : Unit := ()
def PySem.W.Fast.tw9204335419416155430 : Unit := ()
def PySem.W.Fast.tw8409790896921575583 : Unit := ()
def PySem.W.Fast.tw5596053256170462533 : Unit := ()
def PySem.W.Fast.tw15944012889594142822 : Unit := ()
def PySem.W.Fast.tw5334035278346519892 : Unit := ()
def PySem.W.Fast.tw13896426541144623271 : Unit := ()
def PySem.W.Fast.tw4134264993919195270 : Unit := ()
def PySem.W.Fast.tw6477971291622016641 : Unit := ()
def PySem.W.Fast.tw6831253724787968265 : Unit := ()
def PySem.W.Fast.tw8685088959323724947 : Unit := ()
def PySem.W.Fast.tw13318686984292534030 : Unit := ()
def PySem.W.Fast.tw3563435433713227906 : Unit := ()
def PySem.W.Fast.tw2082711307947753434 : Unit := ()
def PySem.W.Fast.tw8611985707796517149 : Unit := ()
def PySem.W.Fast.tw16479395214151683756 : Unit := ()
def PySem.W.Fast.tw10632883236380212206 : Unit := ()
def PySem.W.Fast.tw17713248747901839013 : Unit := ()
def PySem.W.Fast.tw4164780339197222825 : Unit := ()
def PySem.W.Fast.tw758722086238774434 : Unit := ()
def PySem.W.Fast.tw17852047832885386913 : Unit := ()
def PySem.W.Fast.tw17078084437251008470 : Unit := ()
def PySem.W.Fast.tw3581542575737753691 : Unit := ()
def PySem.W.Fast.tw10511622278941823875 : Unit := ()
def PySem.W.Fast.tw5073458899987629127 : Unit := ()
def PySem.W.Fast.tw17978265697864648472 : Unit := ()
def PySem.W.Fast.tw10309035839901289474 : Unit := ()
def PySem.W.Fast.tw13819922147640304168 : Unit := ()
def PySem.W.Fast.tw1997206172620815345 : Unit := ()
def PySem.W.Fast.tw5410537782018057537 : Unit := ()
def PySem.W.Fast.tw7282889119879504214 : Unit := ()
def PySem.W.Fast.tw18057947474033930608 : Unit := ()
def PySem.W.Fast.tw6081504086456913273 : Unit := ()
def PySem.W.Fast.tw1663771331176773330 : Unit := ()
def PySem.W.Fast.tw1192858140075105193 : Unit := ()
def PySem.W.Fast.tw8567725462331087579 : Unit := ()
def PySem.W.Fast.tw5555665646034044752 : Unit := ()
def PySem.W.Fast.tw9246319583034891157 : Unit := ()
def PySem.W.Fast.tw13642927688551373886 : Unit := ()
def PySem.W.Fast.tw840008372202507114 : Unit := ()
def PySem.W.Fast.tw10453066572451271744 : Unit := ()
def PySem.W.Fast.tw6230258006788607389 : Unit := ()
def PySem.W.Fast.tw17088712462140351297 : Unit := ()
def PySem.W.Fast.tw5921889785744790560 : Unit := ()
def PySem.W.Fast.tw13702158265076796742 : Unit := ()
def PySem.W.Fast.tw10524584209337260473 : Unit := ()
def PySem.W.Fast.tw16333066463668998663 : Unit := ()
def PySem.W.Fast.tw181290894532402329 : Unit := ()
def PySem.W.Fast.tw7942634819927243932 : Unit := ()
def PySem.W.Fast.tw134129010827242675 : Unit := ()
def PySem.W.Fast.tw1190496222929957092 : Unit := ()
def PySem.W.Fast.tw12592416103160082681 : Unit := ()
def PySem.W.Fast.tw17858275767524237127 : Unit := ()
def PySem.W.Fast.tw10168650187107863589 : Unit := ()
def PySem.W.Fast.tw10171298439528401164 : Unit := ()
def PySem.W.Fast.tw13593767386732732951 : Unit := ()
def PySem.W.Fast.tw17970746158248283256 : Unit := ()
def PySem.W.Fast.tw17620876453247866357 : Unit := ()
def PySem.W.Fast.tw4382318840921810886 : Unit := ()
def PySem.W.Fast.tw3828765622406485046 : Unit := ()
def PySem.W.Fast.tw6840553902793640006 : Unit := ()
def PySem.W.Fast.tw7767543991782948628 : Unit := ()
def PySem.W.Fast.tw7031875956666849646 : Unit := ()
def PySem.W.Fast.tw17347254913646629944 : Unit := ()
def PySem.W.Fast.tw16894593246954582488 : Unit := ()
def PySem.W.Fast.tw11264114996402367086 : Unit := ()
def PySem.W.Fast.tw13650935717571882882 : Unit := ()
def PySem.W.Fast.tw7505260535121265681 : Unit := ()
def PySem.W.Fast.tw13246168972901589316 : Unit := ()
def PySem.W.Fast.tw11986099745868838770 : Unit := ()
def PySem.W.Fast.tw2088656842226561730 : Unit := ()
def PySem.W.Fast.tw17910164995490351511 : Unit := ()
def PySem.W.Fast.tw807352825603327401 : Unit := ()
def PySem.W.Fast.tw1482436673495227856 : Unit := ()
def PySem.W.Fast.tw17689075873451280184 : Unit := ()
def PySem.W.Fast.tw14584741902663306063 : Unit := ()
def PySem.W.Fast.tw4406375640483737706 : Unit := ()
def PySem.W.Fast.tw11885978834322988232 : Unit := ()
def PySem.W.Fast.tw6650032875499804163 : Unit := ()
def PySem.W.Fast.tw9059180376138731004 : Unit := ()
def PySem.W.Fast.tw1668688443452374313 : Unit := ()
def PySem.W.Fast.tw5177744875403254976 : Unit := ()
def PySem.W.Fast.tw10743270294588568717 : Unit := ()
def PySem.W.Fast.tw16117067548326727881 : Unit := ()
def PySem.W.Fast.tw13977199927720797904 : Unit := ()
def PySem.W.Fast.tw2647148016437235779 : Unit := ()
def PySem.W.Fast.tw14309565746809327777 : Unit := ()
def PySem.W.Fast.tw8388134399994854677 : Unit := ()
def PySem.W.Fast.tw17348228604396178819 : Unit := ()
def PySem.W.Fast.tw6231841177530905892 : Unit := ()
def PySem.W.Fast.tw15002198534141009150 : Unit := ()
def PySem.W.Fast.tw18426439984283832086 : Unit := ()
def PySem.W.Fast.tw11723215791041539516 : Unit := ()
def PySem.W.Fast.tw9128562367445404620 : Unit := ()
def PySem.W.Fast.tw2726223077804514589 : Unit := ()
def PySem.W.Fast.tw17421191539707100702 : Unit := ()
def PySem.W.Fast.tw247097602530458774 : Unit := ()
def PySem.W.Fast.tw15130372556733240165 : Unit := ()
def PySem.W.Fast.tw5230457324246183021 : Unit := ()
def PySem.W.Fast.tw6170227871137542483 : Unit := ()
def PySem.W.Fast.tw13034225152739700193 : Unit := ()
def PySem.W.Fast.tw9690393983598254517 : Unit := ()
def PySem.W.Fast.tw15872645563632519670 : Unit := ()
def PySem.W.Fast.tw7668103952500743637 : Unit := ()
def PySem.W.Fast.tw16599588605988778412 : Unit := ()
def PySem.W.Fast.tw10010857826995794074 : Unit := ()
def PySem.W.Fast.tw10252337384268188665 : Unit := ()
def PySem.W.Fast.tw11004836296125041865 : Unit := ()
def PySem.W.Fast.tw14698362893844267661 : Unit := ()
def PySem.W.Fast.tw10179247558226066250 : Unit := ()
def PySem.W.Fast.tw2911207663325191329 : Unit := ()
def PySem.W.Fast.tw12803118244903450219 : Unit := ()
def PySem.W.Fast.tw3855037908152528162 : Unit := ()
def PySem.W.Fast.tw16793235137882139208 : Unit := ()
def PySem.W.Fast.tw10356669804951370398 : Unit := ()
def PySem.W.Fast.tw14484469466528941024 : Unit := ()
def PySem.W.Fast.tw17311980889919138831 : Unit := ()
def PySem.W.Fast.tw15545555219557035404 : Unit := ()
def PySem.W.Fast.tw11851218727292557481 : Unit := ()
def PySem.W.Fast.tw14358147453985448926 : Unit := ()
def PySem.W.Fast.tw11182011705066417059 : Unit := ()
def PySem.W.Fast.tw7533036620915615498 : Unit := ()
def PySem.W.Fast.tw1260170609143399751 : Unit := ()
def PySem.W.Fast.tw1232202399748163170 : Unit := ()
def PySem.W.Fast.tw3846041485675709046 : Unit := ()
def PySem.W.Fast.tw7411837258242563385 : Unit := ()
def PySem.W.Fast.tw6194716895053228063 : Unit := ()
def PySem.W.Fast.tw12317129015479810972 : Unit := ()
def PySem.W.Fast.tw4679467106781970343 : Unit := ()
def PySem.W.Fast.tw1208470623649954604 : Unit := ()
def PySem.W.Fast.tw9065007862541557460 : Unit := ()
def PySem.W.Fast.tw12676908550344195902 : Unit := ()
def PySem.W.Fast.tw15256887077766289221 : Unit := ()
def PySem.W.Fast.tw432453525595635534 : Unit := ()
def PySem.W.Fast.tw1285811257149273030 : Unit := ()
def PySem.W.Fast.tw3940384768971637870 : Unit := ()
def PySem.W.Fast.tw5912726575551865682 : Unit := ()
def PySem.W.Fast.tw9344753499344635203 : Unit := ()
def PySem.W.Fast.tw7350287439371421833 : Unit := ()
def PySem.W.Fast.tw9636254282064240749 : Unit := ()
def PySem.W.Fast.tw13121238955395409114 : Unit := ()
def PySem.W.Fast.tw13964002548318101166 : Unit := ()
def PySem.W.Fast.tw7326309964393144812 : Unit := ()
def PySem.W.Fast.tw13161763787787261378 : Unit := ()
def PySem.W.Fast.tw4735614683422091023 : Unit := ()
def PySem.W.Fast.tw13224036670297015413 : Unit := ()
def PySem.W.Fast.tw14570811486090979326 : Unit := ()
def PySem.W.Fast.tw13434940161834090625 : Unit := ()
def PySem.W.Fast.tw12729331339459044897 : Unit := ()
def PySem.W.Fast.tw7886166377204504932 : Unit := ()
def PySem.W.Fast.tw3398347699505617195 : Unit := ()
def PySem.W.Fast.tw17832577667741891553 : Unit := ()
def PySem.W.Fast.tw2997890967154733125 : Unit := ()
def PySem.W.Fast.tw10971406141645564699 : Unit := ()
def PySem.W.Fast.tw12745967471691557331 : Unit := ()
def PySem.W.Fast.tw18308510026897892066 : Unit := ()
def PySem.W.Fast.tw5416661963379359364 : Unit := ()
def PySem.W.Fast.tw7772972130863302831 : Unit := ()
def PySem.W.Fast.tw13546742905034705468 : Unit := ()
def PySem.W.Fast.tw5622013532377667452 : Unit := ()
def PySem.W.Fast.tw9257533386873245335 : Unit := ()
def PySem.W.Fast.tw2684412252929607821 : Unit := ()
def PySem.W.Fast.tw3665990129072552288 : Unit := ()
def PySem.W.Fast.tw14579339125445018238 : Unit := ()
def PySem.W.Fast.tw17984335239193852053 : Unit := ()
def PySem.W.Fast.tw4410102277952819933 : Unit := ()
def PySem.W.Fast.tw16464161343103323688 : Unit := ()
def PySem.W.Fast.tw13362880786853756933 : Unit := ()
def PySem.W.Fast.tw3720006732116036874 : Unit := ()
def PySem.W.Fast.tw2238701623775465424 : Unit := ()
def PySem.W.Fast.tw17149781277551325547 : Unit := ()
def PySem.W.Fast.tw5168923302087660970 : Unit := ()
def PySem.W.Fast.tw3759697707921677797 : Unit := ()
def PySem.W.Fast.tw13218344598948476387 : Unit := ()
def PySem.W.Fast.tw1514990507646895118 : Unit := ()
def PySem.W.Fast.tw7801490907909945120 : Unit := ()
def PySem.W.Fast.tw4905263168170610699 : Unit := ()
def PySem.W.Fast.tw17797064758038594428 : Unit := ()
def PySem.W.Fast.tw13071222810300109526 : Unit := ()
def PySem.W.Fast.tw6726571231301920275 : Unit := ()
def PySem.W.Fast.tw15458683601073287903 : Unit := ()
def PySem.W.Fast.tw10302389037007478582 : Unit := ()
def PySem.W.Fast.tw18332329963352895286 : Unit := ()
def PySem.W.Fast.tw14439687441990214746 : Unit := ()
def PySem.W.Fast.tw2499981828856794641 : Unit := ()
def PySem.W.Fast.tw14597589439921715202 : Unit := ()
def PySem.W.Fast.tw10868036052888277652 : Unit := ()
def PySem.W.Fast.tw5264650517877552429 : Unit := ()
def PySem.W.Fast.tw3022689233200679723 : Unit := ()
def PySem.W.Fast.tw7255189188061001571 : Unit := ()
def PySem.W.Fast.tw8696009391031483590 : Unit := ()
def PySem.W.Fast.tw17070190174557596728 : Unit := ()
def PySem.W.Fast.tw11408837798031027257 : Unit := ()
def PySem.W.Fast.tw4666077253699133665 : Unit := ()
def PySem.W.Fast.tw15205891568160297592 : Unit := ()
def PySem.W.Fast.tw7843029715301197615 : Unit := ()
def PySem.W.Fast.tw13731849860352519696 : Unit := ()
def PySem.W.Fast.tw11705932354287934860 : Unit := ()
def PySem.W.Fast.tw8360362327637206382 : Unit := ()
def PySem.W.Fast.tw15071081126073676871 : Unit := ()
def PySem.W.Fast.tw11852117683430641033 : Unit := ()
def PySem.W.Fast.tw5361794736236649775 : Unit := ()
def PySem.W.Fast.tw2781705524018364825 : Unit := ()
def PySem.W.Fast.tw8500346855820725391 : Unit := ()
def PySem.W.Fast.tw8403123390349793063 : Unit := ()
def PySem.W.Fast.tw9342347077723650774 : Unit := ()
def PySem.W.Fast.tw11667367913633419986 : Unit := ()
def PySem.W.Fast.tw6600423012125904562 : Unit := ()
def PySem.W.Fast.tw17549415121098418450 : Unit := ()
def PySem.W.Fast.tw9575682001151716340 : Unit := ()
def PySem.W.Fast.tw9248159067264643029 : Unit := ()
def PySem.W.Fast.tw4352500380346760923 : Unit := ()
def PySem.W.Fast.tw11684338746408506080 : Unit := ()
def PySem.W.Fast.tw11827585202180889252 : Unit := ()
def PySem.W.Fast.tw10595114111891565416 : Unit := ()
def PySem.W.Fast.tw15308893331471710150 : Unit := ()
def PySem.W.Fast.tw8552646070116984569 : Unit := ()
def PySem.W.Fast.tw11203952003549604249 : Unit := ()
def PySem.W.Fast.tw6772419136991179978 : Unit := ()
def PySem.W.Fast.tw16877163615114784293 : Unit := ()
def PySem.W.Fast.tw2183851649757684847 : Unit := ()
def PySem.W.Fast.tw15922928123617380606 : Unit := ()
def PySem.W.Fast.tw6753547889972633432 : Unit := ()
def PySem.W.Fast.tw12914937700834333129 : Unit := ()
def PySem.W.Fast.tw5914683533605810233 : Unit := ()
def PySem.W.Fast.tw12238362931990754278 : Unit := ()
def PySem.W.Fast.tw14114419153057027522 : Unit := ()
def PySem.W.Fast.tw450860101320448167 : Unit := ()
def PySem.W.Fast.tw17962594821417535697 : Unit := ()
def PySem.W.Fast.tw595190756770806049 : Unit := ()
def PySem.W.Fast.tw3314994229458575912 : Unit := ()
def PySem.W.Fast.tw302584034563584652 : Unit := ()
def PySem.W.Fast.tw2318747013080690122 : Unit := ()
def PySem.W.Fast.tw2121764836990205038 : Unit := ()
def PySem.W.Fast.tw10576545465385378978 : Unit := ()
def PySem.W.Fast.tw18311999461324177955 : Unit := ()
def PySem.W.Fast.tw5633226458021402169 : Unit := ()
def PySem.W.Fast.tw14829420168719183759 : Unit := ()
def PySem.W.Fast.tw10605962134046903323 : Unit := ()
def PySem.W.Fast.tw1908287582271395686 : Unit := ()
def PySem.W.Fast.tw7276559131839102380 : Unit := ()
def PySem.W.Fast.tw11326745941062249085 : Unit := ()
def PySem.W.Fast.tw11904313177654391805 : Unit := ()
def PySem.W.Fast.tw5827031538759679271 : Unit := ()
def PySem.W.Fast.tw4224287974349154046 : Unit := ()
def PySem.W.Fast.tw5475423287510793921 : Unit := ()
def PySem.W.Fast.tw14236167435925588412 : Unit := ()
def PySem.W.Fast.tw6477569165266558929 : Unit := ()
def PySem.W.Fast.tw13053233385551900664 : Unit := ()
def PySem.W.Fast.tw1229013936257219578 : Unit := ()
def PySem.W.Fast.tw6175278116484958409 : Unit := ()
def PySem.W.Fast.tw9114408623891621443 : Unit := ()
def PySem.W.Fast.tw10088411019881485144 : Unit := ()
def PySem.W.Fast.tw10944331526587251995 : Unit := ()
def PySem.W.Fast.tw18191257882493645015 : Unit := ()
def PySem.W.Fast.tw13403409158151142722 : Unit := ()
def PySem.W.Fast.tw13006220257965622278 : Unit := ()
def PySem.W.Fast.tw8722189972472388410 : Unit := ()
def PySem.W.Fast.tw3723322266818340741 : Unit := ()
def PySem.W.Fast.tw13980851983873915015 : Unit := ()
def PySem.W.Fast.tw754532153567193477 : Unit := ()
def PySem.W.Fast.tw13813787316934828544 : Unit := ()
def PySem.W.Fast.tw12091193452431554596 : Unit := ()
def PySem.W.Fast.tw12083422161216345498 : Unit := ()
def PySem.W.Fast.tw12790857975233102495 : Unit := ()
def PySem.W.Fast.tw4124204260999055412 : Unit := ()
def PySem.W.Fast.tw16229295065826051805 : Unit := ()
def PySem.W.Fast.tw17980835209638881912 : Unit := ()
def PySem.W.Fast.tw18042897129328788394 : Unit := ()
def PySem.W.Fast.tw10872021647719882145 : Unit := ()
def PySem.W.Fast.tw12641988223549404665 : Unit := ()
def PySem.W.Fast.tw17572375257107537493 : Unit := ()
def PySem.W.Fast.tw2174448398911587774 : Unit := ()
def PySem.W.Fast.tw13345579052890088368 : Unit := ()
def PySem.W.Fast.tw5423434680018616119 : Unit := ()
def PySem.W.Fast.tw8211866696941403880 : Unit := ()
def PySem.W.Fast.tw9512383065067588864 : Unit := ()
def PySem.W.Fast.tw9740876117257345353 : Unit := ()
def PySem.W.Fast.tw1935048024046472315 : Unit := ()
def PySem.W.Fast.tw7020009737214177991 : Unit := ()
def PySem.W.Fast.tw16272224815075310179 : Unit := ()
def PySem.W.Fast.tw13326249791432887423 : Unit := ()
def PySem.W.Fast.tw3144288892923714546 : Unit := ()
def PySem.W.Fast.tw9827008672259038338 : Unit := ()
def PySem.W.Fast.tw3271304657895777648 : Unit := ()
def PySem.W.Fast.tw6632439751519888880 : Unit := ()
def PySem.W.Fast.tw13137143000592013323 : Unit := ()
def PySem.W.Fast.tw5576853916679852517 : Unit := ()
def PySem.W.Fast.tw3960790169586791243 : Unit := ()
def PySem.W.Fast.tw12608700808080531189 : Unit := ()
def PySem.W.Fast.tw4355293307035320265 : Unit := ()
def PySem.W.Fast.tw100665235197972342 : Unit := ()
def PySem.W.Fast.tw18030490237843371618 : Unit := ()
def PySem.W.Fast.tw8904785199153594638 : Unit := ()
def PySem.W.Fast.tw13370097108391096068 : Unit := ()
def PySem.W.Fast.tw1102980254976831860 : Unit := ()
def PySem.W.Fast.tw5188968647952573347 : Unit := ()
def PySem.W.Fast.tw10707717547975191641 : Unit := ()
def PySem.W.Fast.tw15779525053229962 : Unit := ()
def PySem.W.Fast.tw13886868084090058579 : Unit := ()
def PySem.W.Fast.tw17364618571653348056 : Unit := ()
def PySem.W.Fast.tw13524572572300152409 : Unit := ()
def PySem.W.Fast.tw12636029442327984246 : Unit := ()
def PySem.W.Fast.tw6105455614450621591 : Unit := ()
def PySem.W.Fast.tw10179016100946746890 : Unit := ()
def PySem.W.Fast.tw18042054197468499007 : Unit := ()
def PySem.W.Fast.tw18075989887507991177 : Unit := ()
def PySem.W.Fast.tw2678650705304546095 : Unit := ()
def PySem.W.Fast.tw10496603276994972311 : Unit := ()
def PySem.W.Fast.tw6824820451437305334 : Unit := ()
def PySem.W.Fast.tw6969982730009989161 : Unit := ()
def PySem.W.Fast.tw8983019291000025427 : Unit := ()
def PySem.W.Fast.tw3026751628352424378 : Unit := ()
def PySem.W.Fast.tw6027102605104448365 : Unit := ()
def PySem.W.Fast.tw10532949939643437764 : Unit := ()
def PySem.W.Fast.tw16362305878029520401 : Unit := ()
def PySem.W.Fast.tw13111577126615899905 : Unit := ()
def PySem.W.Fast.tw13429748820977963121 : Unit := ()
def PySem.W.Fast.tw4152651395827823518 : Unit := ()
def PySem.W.Fast.tw6852674596294156497 : Unit := ()
def PySem.W.Fast.tw2544933573631738776 : Unit := ()
def PySem.W.Fast.tw10618351180337297519 : Unit := ()
def PySem.W.Fast.tw1902527665301166141 : Unit := ()
def PySem.W.Fast.tw13198388872904909946 : Unit := ()
def PySem.W.Fast.tw1775200355227149954 : Unit := ()
def PySem.W.Fast.tw8876474988421656949 : Unit := ()
def PySem.W.Fast.tw4579824240725195283 : Unit := ()
def PySem.W.Fast.tw8763959252421323723 : Unit := ()
def PySem.W.Fast.tw7915754549853449663 : Unit := ()
def PySem.W.Fast.tw4304674758094159529 : Unit := ()
def PySem.W.Fast.tw5127043652962652461 : Unit := ()
def PySem.W.Fast.tw569683119188018455 : Unit := ()
def PySem.W.Fast.tw6090023936391791725 : Unit := ()
def PySem.W.Fast.tw10505282065056794438 : Unit := ()
def PySem.W.Fast.tw9731053752201548206 : Unit := ()
def PySem.W.Fast.tw846401940118766206 : Unit := ()
def PySem.W.Fast.tw17424491454182141812 : Unit := ()
def PySem.W.Fast.tw9541357651630379116 : Unit := ()
def PySem.W.Fast.tw16692374357873433641 : Unit := ()
def PySem.W.Fast.tw4019623621045728363 : Unit := ()
def PySem.W.Fast.tw1904146942809565884 : Unit := ()
def PySem.W.Fast.tw13389333130359360884 : Unit := ()
def PySem.W.Fast.tw5611878758670648209 : Unit := ()
def PySem.W.Fast.tw1664495964334022072 : Unit := ()
def PySem.W.Fast.tw10845672304412930129 : Unit := ()
def PySem.W.Fast.tw4169432148183517198 : Unit := ()
def PySem.W.Fast.tw14743468369231989674 : Unit := ()
def PySem.W.Fast.tw4921975647939369878 : Unit := ()
def PySem.W.Fast.tw8410867091974664578 : Unit := ()
def PySem.W.Fast.tw3660680651111579698 : Unit := ()
def PySem.W.Fast.tw8944112892565001379 : Unit := ()
def PySem.W.Fast.tw1294794938978151009 : Unit := ()
def PySem.W.Fast.tw15724519051446992862 : Unit := ()
def PySem.W.Fast.tw15722246193596363481 : Unit := ()
def PySem.W.Fast.tw13287433997091577366 : Unit := ()
def PySem.W.Fast.tw6782302490164974902 : Unit := ()
def PySem.W.Fast.tw10173635006435384130 : Unit := ()
def PySem.W.Fast.tw5486267836846143354 : Unit := ()
def PySem.W.Fast.tw13417962568757531368 : Unit := ()
def PySem.W.Fast.tw6556898818793768577 : Unit := ()
def PySem.W.Fast.tw14770337590618459381 : Unit := ()
def PySem.W.Fast.tw7991729693840777366 : Unit := ()
def PySem.W.Fast.tw9987760676482304898 : Unit := ()
def PySem.W.Fast.tw11552619419461681243 : Unit := ()
def PySem.W.Fast.tw1311733161864934600 : Unit := ()
def PySem.W.Fast.tw1654088513204584131 : Unit := ()
def PySem.W.Fast.tw1675013050317296438 : Unit := ()
def PySem.W.Fast.tw9440919829588701747 : Unit := ()
def PySem.W.Fast.tw9497126874868799308 : Unit := ()
def PySem.W.Fast.tw3497653350653402044 : Unit := ()
def PySem.W.Fast.tw2115660384827992240 : Unit := ()
def PySem.W.Fast.tw11952991058371250056 : Unit := ()
def PySem.W.Fast.tw14619585385587369865 : Unit := ()
def PySem.W.Fast.tw5690370161477874948 : Unit := ()
def PySem.W.Fast.tw5151089639584680499 : Unit := ()
def PySem.W.Fast.tw15150635414916634792 : Unit := ()
def PySem.W.Fast.tw7180406286750323104 : Unit := ()
def PySem.W.Fast.tw14587267691446208224 : Unit := ()
def PySem.W.Fast.tw10495480956212962855 : Unit := ()
def PySem.W.Fast.tw3725787467231711718 : Unit := ()
def PySem.W.Fast.tw12329658052496379094 : Unit := ()
def PySem.W.Fast.tw2155787491153463696 : Unit := ()
def PySem.W.Fast.tw7204479682721731966 : Unit := ()
def PySem.W.Fast.tw14307698925318237316 : Unit := ()
def PySem.W.Fast.tw4912170602029784338 : Unit := ()
def PySem.W.Fast.tw12027989928782477782 : Unit := ()
def PySem.W.Fast.tw7413446414180066583 : Unit := ()
def PySem.W.Fast.tw290409575538899438 : Unit := ()
def PySem.W.Fast.tw2690043401385169648 : Unit := ()
def PySem.W.Fast.tw15157678352419329632 : Unit := ()
def PySem.W.Fast.tw16001758106807084424 : Unit := ()
def PySem.W.Fast.tw11211371623731881538 : Unit := ()
def PySem.W.Fast.tw3882372221399205840 : Unit := ()
def PySem.W.Fast.tw13596987801747568537 : Unit := ()
def PySem.W.Fast.tw17481988871240303459 : Unit := ()
def PySem.W.Fast.tw11348853424956777668 : Unit := ()
def PySem.W.Fast.tw3150294816908261995 : Unit := ()
def PySem.W.Fast.tw7613656903466164280 : Unit := ()
def PySem.W.Fast.tw5251738708500119993 : Unit := ()
def PySem.W.Fast.tw14862766463328858575 : Unit := ()
def PySem.W.Fast.tw4509751527528047038 : Unit := ()
def PySem.W.Fast.tw8254813858416632294 : Unit := ()
def PySem.W.Fast.tw4181292837920284592 : Unit := ()
def PySem.W.Fast.tw618216946263477435 : Unit := ()
def PySem.W.Fast.tw10901444139091912788 : Unit := ()
def PySem.W.Fast.tw7551812188503809616 : Unit := ()
def PySem.W.Fast.tw12327412642715242834 : Unit := ()
def PySem.W.Fast.tw13001431064627600312 : Unit := ()
def PySem.W.Fast.tw2584189714063710202 : Unit := ()
def PySem.W.Fast.tw17461271226793703810 : Unit := ()
def PySem.W.Fast.tw8638962017819959565 : Unit := ()
def PySem.W.Fast.tw15909501195021653663 : Unit := ()
def PySem.W.Fast.tw17320086395626199864 : Unit := ()
def PySem.W.Fast.tw2526967869319791520 : Unit := ()
def PySem.W.Fast.tw15921272916620440739 : Unit := ()
def PySem.W.Fast.tw14289033681848353405 : Unit := ()
def PySem.W.Fast.tw4038490834107843873 : Unit := ()
def PySem.W.Fast.tw10828729367218933831 : Unit := ()
def PySem.W.Fast.tw1427908067650315492 : Unit := ()
def PySem.W.Fast.tw6244255609303011827 : Unit := ()
def PySem.W.Fast.tw6168138294149806067 : Unit := ()
def PySem.W.Fast.tw2392368833073798592 : Unit := ()
def PySem.W.Fast.tw5033697220550708442 : Unit := ()
def PySem.W.Fast.tw15325359358894903372 : Unit := ()
def PySem.W.Fast.tw3628672572375313147 : Unit := ()
def PySem.W.Fast.tw2175579592667252440 : Unit := ()
def PySem.W.Fast.tw15595802975863105741 : Unit := ()
def PySem.W.Fast.tw4670806606241033556 : Unit := ()
def PySem.W.Fast.tw6548111863721507784 : Unit := ()
def PySem.W.Fast.tw13506595237218744677 : Unit := ()
def PySem.W.Fast.tw4003841331037468700 : Unit := ()
def PySem.W.Fast.tw15291556061652948097 : Unit := ()
def PySem.W.Fast.tw5104783917053614289 : Unit := ()
def PySem.W.Fast.tw4959742771780594757 : Unit := ()
def PySem.W.Fast.tw837286023650980112 : Unit := ()
def PySem.W.Fast.tw963479533600470747 : Unit := ()
def PySem.W.Fast.tw13481811505305092487 : Unit := ()
def PySem.W.Fast.tw4601531249808103686 : Unit := ()
def PySem.W.Fast.tw5484011711721999294 : Unit := ()
def PySem.W.Fast.tw5206904678193285781 : Unit := ()
def PySem.W.Fast.tw16398896909341473247 : Unit := ()
def PySem.W.Fast.tw3027408832893849792 : Unit := ()
def PySem.W.Fast.tw2315073228097013365 : Unit := ()
def PySem.W.Fast.tw3595991601340743034 : Unit := ()
def PySem.W.Fast.tw4535025476918157062 : Unit := ()
def PySem.W.Fast.tw12552321312298647016 : Unit := ()
def PySem.W.Fast.tw16144823251900278529 : Unit := ()
def PySem.W.Fast.tw6393861609083874918 : Unit := ()
def PySem.W.Fast.tw3144894809180505273 : Unit := ()
def PySem.W.Fast.tw5550612336501564052 : Unit := ()
def PySem.W.Fast.tw16893737928348794275 : Unit := ()
def PySem.W.Fast.tw3355553535727024572 : Unit := ()
def PySem.W.Fast.tw3339192122145559014 : Unit := ()
def PySem.W.Fast.tw4194092997476785443 : Unit := ()
def PySem.W.Fast.tw14037872495710491555 : Unit := ()
def PySem.W.Fast.tw4754439765294234431 : Unit := ()
def PySem.W.Fast.tw8503882889195633803 : Unit := ()
def PySem.W.Fast.tw383437504534940413 : Unit := ()
def PySem.W.Fast.tw10092064698086178932 : Unit := ()
def PySem.W.Fast.tw16775923938585516840 : Unit := ()
def PySem.W.Fast.tw11039496992437486417 : Unit := ()
def PySem.W.Fast.tw5975008722504941402 : Unit := ()
def PySem.W.Fast.tw16973725511370059210 : Unit := ()
def PySem.W.Fast.tw12487115842989763710 : Unit := ()
def PySem.W.Fast.tw16083465852705157282 : Unit := ()
def PySem.W.Fast.tw5788382007763486792 : Unit := ()
def PySem.W.Fast.tw1575196813795004471 : Unit := ()
def PySem.W.Fast.tw3660370302255721402 : Unit := ()
def PySem.W.Fast.tw17268574601207503037 : Unit := ()
def PySem.W.Fast.tw10532204294893416375 : Unit := ()
def PySem.W.Fast.tw3525142259200222392 : Unit := ()
def PySem.W.Fast.tw3251558585673432412 : Unit := ()
def PySem.W.Fast.tw7486406732728170541 : Unit := ()
def PySem.W.Fast.tw498321856435497717 : Unit := ()
def PySem.W.Fast.tw9034326892272367651 : Unit := ()
def PySem.W.Fast.tw1056141933349714907 : Unit := ()
def PySem.W.Fast.tw3019227023706623896 : Unit := ()
def PySem.W.Fast.tw10429131462716356918 : Unit := ()
def PySem.W.Fast.tw1464332534078692433 : Unit := ()
def PySem.W.Fast.tw17334893046089618862 : Unit := ()
def PySem.W.Fast.tw10562057480501311070 : Unit := ()
def PySem.W.Fast.tw13403268152436689562 : Unit := ()
def PySem.W.Fast.tw4630226685928507802 : Unit := ()
def PySem.W.Fast.tw12690421310528560729 : Unit := ()
def PySem.W.Fast.tw14513581942812212167 : Unit := ()
def PySem.W.Fast.tw4539844444513799156 : Unit := ()
def PySem.W.Fast.tw4819927335914830506 : Unit := ()
def PySem.W.Fast.tw1118536938365068551 : Unit := ()
def PySem.W.Fast.tw12443890506487988200 : Unit := ()
def PySem.W.Fast.tw5219486410324257227 : Unit := ()
def PySem.W.Fast.tw703153089895475660 : Unit := ()
def PySem.W.Fast.tw8558120241746393968 : Unit := ()
def PySem.W.Fast.tw14368961897688776470 : Unit := ()
def PySem.W.Fast.tw1584992001706632599 : Unit := ()
def PySem.W.Fast.tw988233675634472767 : Unit := ()
def PySem.W.Fast.tw15645988469997452892 : Unit := ()
def PySem.W.Fast.tw17885829901617964670 : Unit := ()
def PySem.W.Fast.tw3013317168591946581 : Unit := ()
def PySem.W.Fast.tw1168283269994910905 : Unit := ()
def PySem.W.Fast.tw5607849020148031233 : Unit := ()
def PySem.W.Fast.tw10805077635902510622 : Unit := ()
def PySem.W.Fast.tw13665997057248808019 : Unit := ()
def PySem.W.Fast.tw18414252669978656448 : Unit := ()
def PySem.W.Fast.tw8375041811735302661 : Unit := ()
def PySem.W.Fast.tw13854340185506860771 : Unit := ()
def PySem.W.Fast.tw9550717963393208289 : Unit := ()
def PySem.W.Fast.tw9279685788002404325 : Unit := ()
def PySem.W.Fast.tw12425338776049136129 : Unit := ()
def PySem.W.Fast.tw15901325149820400452 : Unit := ()
def PySem.W.Fast.tw9195943445420831454 : Unit := ()
def PySem.W.Fast.tw17210075996109485735 : Unit := ()
def PySem.W.Fast.tw3205015281664489942 : Unit := ()
def PySem.W.Fast.tw16395882186259032620 : Unit := ()
def PySem.W.Fast.tw5409284162644700750 : Unit := ()
def PySem.W.Fast.tw17413555046119991691 : Unit := ()
def PySem.W.Fast.tw6957708309767774388 : Unit := ()
def PySem.W.Fast.tw7440488533148087655 : Unit := ()
def PySem.W.Fast.tw17476441555359069618 : Unit := ()
def PySem.W.Fast.tw6350412293431858529 : Unit := ()
def PySem.W.Fast.tw8187724400615357062 : Unit := ()
def PySem.W.Fast.tw504539454289115119 : Unit := ()
def PySem.W.Fast.tw17995317549655277617 : Unit := ()
def PySem.W.Fast.tw14934061227440857108 : Unit := ()
def PySem.W.Fast.tw10358219250435866339 : Unit := ()
def PySem.W.Fast.tw8045381974519717413 : Unit := ()
def PySem.W.Fast.tw12052805499338104099 : Unit := ()
def PySem.W.Fast.tw9292743451972817507 : Unit := ()
def PySem.W.Fast.tw11639691591420443919 : Unit := ()
def PySem.W.Fast.tw1772227861810707872 : Unit := ()
def PySem.W.Fast.tw6827904747584021389 : Unit := ()
def PySem.W.Fast.tw12541916818062956521 : Unit := ()
def PySem.W.Fast.tw5070196458866825136 : Unit := ()
def PySem.W.Fast.tw12521264989779755040 : Unit := ()
def PySem.W.Fast.tw3940067991269444313 : Unit := ()
def PySem.W.Fast.tw14500842952446266163 : Unit := ()
def PySem.W.Fast.tw7366361582446568582 : Unit := ()
def PySem.W.Fast.tw5902743354978258582 : Unit := ()
def PySem.W.Fast.tw17663851075042982384 : Unit := ()
def PySem.W.Fast.tw12410976596681458995 : Unit := ()
def PySem.W.Fast.tw7941683870307012107 : Unit := ()
def PySem.W.Fast.tw15606670250162522236 : Unit := ()
def PySem.W.Fast.tw2088988841099050646 : Unit := ()
def PySem.W.Fast.tw15489829555455538599 : Unit := ()
def PySem.W.Fast.tw3241112345454794819 : Unit := ()
def PySem.W.Fast.tw13009865932608836436 : Unit := ()
def PySem.W.Fast.tw5769534017468983366 : Unit := ()
def PySem.W.Fast.tw8827504993223400003 : Unit := ()
def PySem.W.Fast.tw5611790169569270706 : Unit := ()
def PySem.W.Fast.tw8821242999309211282 : Unit := ()
def PySem.W.Fast.tw3335481502022962798 : Unit := ()
def PySem.W.Fast.tw14446325046505226381 : Unit := ()
def PySem.W.Fast.tw17104843292078877527 : Unit := ()
def PySem.W.Fast.tw8673001060594445847 : Unit := ()
def PySem.W.Fast.tw5881619516256505387 : Unit := ()
def PySem.W.Fast.tw3721032833488261582 : Unit := ()
def PySem.W.Fast.tw5757826160901132640 : Unit := ()
def PySem.W.Fast.tw10234869456183030098 : Unit := ()
def PySem.W.Fast.tw14930455904324314299 : Unit := ()
def PySem.W.Fast.tw18084692104625217184 : Unit := ()
def PySem.W.Fast.tw1670429243737243569 : Unit := ()
def PySem.W.Fast.tw5079595536932930016 : Unit := ()
def PySem.W.Fast.tw18346053766390600751 : Unit := ()
def PySem.W.Fast.tw12717873725087185634 : Unit := ()
def PySem.W.Fast.tw163805339569843799 : Unit := ()
def PySem.W.Fast.tw4752145732601392654 : Unit := ()
def PySem.W.Fast.tw3970616728142113791 : Unit := ()
def PySem.W.Fast.tw1598884125455007927 : Unit := ()
def PySem.W.Fast.tw756270376339749519 : Unit := ()
def PySem.W.Fast.tw7566970480019391561 : Unit := ()
def PySem.W.Fast.tw16633312927514415208 : Unit := ()
def PySem.W.Fast.tw16128715687901264494 : Unit := ()
def PySem.W.Fast.tw1946543891285071601 : Unit := ()
def PySem.W.Fast.tw13618179151664856305 : Unit := ()
def PySem.W.Fast.tw6772942578714147409 : Unit := ()
def PySem.W.Fast.tw6707267976654772407 : Unit := ()
def PySem.W.Fast.tw3494045745272853403 : Unit := ()
def PySem.W.Fast.tw10088711413375543715 : Unit := ()
def PySem.W.Fast.tw16959237593723017448 : Unit := ()
def PySem.W.Fast.tw5308972972077161154 : Unit := ()
def PySem.W.Fast.tw17879868960251181201 : Unit := ()
def PySem.W.Fast.tw11186120788833554998 : Unit := ()
def PySem.W.Fast.tw6521364247615442636 : Unit := ()
def PySem.W.Fast.tw1258347294179768629 : Unit := ()
def PySem.W.Fast.tw14495834328207502567 : Unit := ()
def PySem.W.Fast.tw6541629805910947139 : Unit := ()
def PySem.W.Fast.tw10433636189586204316 : Unit := ()
def PySem.W.Fast.tw18263916774233424843 : Unit := ()
def PySem.W.Fast.tw4613485398030383344 : Unit := ()
def PySem.W.Fast.tw12344959770065417195 : Unit := ()
def PySem.W.Fast.tw11661514363294824418 : Unit := ()
def PySem.W.Fast.tw11610798924748572105 : Unit := ()
def PySem.W.Fast.tw9060329889756545254 : Unit := ()
def PySem.W.Fast.tw17401477365213385146 : Unit := ()
def PySem.W.Fast.tw1531060176466540612 : Unit := ()
def PySem.W.Fast.tw540338711360298360 : Unit := ()
def PySem.W.Fast.tw2662174562003967379 : Unit := ()
def PySem.W.Fast.tw17195340187497774716 : Unit := ()
def PySem.W.Fast.tw9905426281498408929 : Unit := ()
def PySem.W.Fast.tw9803261708715423018 : Unit := ()
def PySem.W.Fast.tw5130193805167914192 : Unit := ()
def PySem.W.Fast.tw2355365255784804817 : Unit := ()
def PySem.W.Fast.tw7901981231801877163 : Unit := ()
def PySem.W.Fast.tw13556690337145378045 : Unit := ()
def PySem.W.Fast.tw10911544641542377675 : Unit := ()
def PySem.W.Fast.tw3997601862521875667 : Unit := ()
def PySem.W.Fast.tw221328285966605114 : Unit := ()
def PySem.W.Fast.tw5850387396967766232 : Unit := ()
def PySem.W.Fast.tw13717191587494796673 : Unit := ()
def PySem.W.Fast.tw10948304532376834236 : Unit := ()
def PySem.W.Fast.tw18379287401532361442 : Unit := ()
def PySem.W.Fast.tw16862272521855948427 : Unit := ()
def PySem.W.Fast.tw4300572140290267345 : Unit := ()
def PySem.W.Fast.tw984700797995463100 : Unit := ()
def PySem.W.Fast.tw14450477528407429929 : Unit := ()
def PySem.W.Fast.tw15095946852890969179 : Unit := ()
def PySem.W.Fast.tw5500318476871659053 : Unit := ()
def PySem.W.Fast.tw8628979450464914835 : Unit := ()
def PySem.W.Fast.tw5900756737186735024 : Unit := ()
def PySem.W.Fast.tw14707846492177217773 : Unit := ()
def PySem.W.Fast.tw7608568493837185642 : Unit := ()
def PySem.W.Fast.tw9492627439748787170 : Unit := ()
def PySem.W.Fast.tw13080121606811284237 : Unit := ()
def PySem.W.Fast.tw4046450578765865299 : Unit := ()
def PySem.W.Fast.tw4700875381190173442 : Unit := ()
def PySem.W.Fast.tw8836228280285121030 : Unit := ()
def PySem.W.Fast.tw7844457301307321177 : Unit := ()
def PySem.W.Fast.tw13197934381843923734 : Unit := ()
def PySem.W.Fast.tw15398682676446525862 : Unit := ()
def PySem.W.Fast.tw11475391045512262457 : Unit := ()
def PySem.W.Fast.tw6073995852085263827 : Unit := ()
def PySem.W.Fast.tw3929583695788530340 : Unit := ()
def PySem.W.Fast.tw10757927606628856525 : Unit := ()
def PySem.W.Fast.tw3222908360632589194 : Unit := ()
def PySem.W.Fast.tw1363112826968006131 : Unit := ()
def PySem.W.Fast.tw6224215253595876609 : Unit := ()
def PySem.W.Fast.tw10444094771637132535 : Unit := ()
def PySem.W.Fast.tw2655195773720801986 : Unit := ()
def PySem.W.Fast.tw9721727225028225313 : Unit := ()
def PySem.W.Fast.tw17071702669307775811 : Unit := ()
def PySem.W.Fast.tw11106494762053791509 : Unit := ()
def PySem.W.Fast.tw9391290446112788313 : Unit := ()
def PySem.W.Fast.tw164734484661711116 : Unit := ()
def PySem.W.Fast.tw13890621720982936399 : Unit := ()
def PySem.W.Fast.tw9783200940925782554 : Unit := ()
def PySem.W.Fast.tw12989860471881207657 : Unit := ()
def PySem.W.Fast.tw7179438523471137359 : Unit := ()
def PySem.W.Fast.tw1055361169592388143 : Unit := ()
def PySem.W.Fast.tw8589189969605825862 : Unit := ()
def PySem.W.Fast.tw16009086840596498629 : Unit := ()
def PySem.W.Fast.tw12953686951147107316 : Unit := ()
def PySem.W.Fast.tw3888505728335483726 : Unit := ()
def PySem.W.Fast.tw15653040695758925848 : Unit := ()
def PySem.W.Fast.tw15574804295273535219 : Unit := ()
def PySem.W.Fast.tw9182415495092837549 : Unit := ()
def PySem.W.Fast.tw4711133694596725553 : Unit := ()
def PySem.W.Fast.tw13113201946246863852 : Unit := ()
def PySem.W.Fast.tw1682077239048957763 : Unit := ()
def PySem.W.Fast.tw15296566772101201283 : Unit := ()
def PySem.W.Fast.tw9415873410855868232 : Unit := ()
def PySem.W.Fast.tw17569789492732654134 : Unit := ()
def PySem.W.Fast.tw4911359768702220964 : Unit := ()
def PySem.W.Fast.tw4081265596180996568 : Unit := ()
def PySem.W.Fast.tw3153371930691731905 : Unit := ()
def PySem.W.Fast.tw4856210075953439588 : Unit := ()
def PySem.W.Fast.tw15501938054461647858 : Unit := ()
def PySem.W.Fast.tw12605068874999737659 : Unit := ()
def PySem.W.Fast.tw14170681219667842541 : Unit := ()
def PySem.W.Fast.tw9412843854551018233 : Unit := ()
def PySem.W.Fast.tw5554530947723051487 : Unit := ()
def PySem.W.Fast.tw10356576312425985803 : Unit := ()
def PySem.W.Fast.tw4306635569499220045 : Unit := ()
def PySem.W.Fast.tw1822758817824120015 : Unit := ()
def PySem.W.Fast.tw18053892394979012943 : Unit := ()
def PySem.W.Fast.tw6943309939729077671 : Unit := ()
def PySem.W.Fast.tw16751871024545949937 : Unit := ()
def PySem.W.Fast.tw16694104164552735351 : Unit := ()
def PySem.W.Fast.tw3590151198818627218 : Unit := ()
def PySem.W.Fast.tw8514352114484121702 : Unit := ()
def PySem.W.Fast.tw13518202899794124893 : Unit := ()
def PySem.W.Fast.tw12444486911452125801 : Unit := ()
def PySem.W.Fast.tw1159730452019607672 : Unit := ()
def PySem.W.Fast.tw6674977033578452454 : Unit := ()
def PySem.W.Fast.tw7928733232135973168 : Unit := ()
def PySem.W.Fast.tw17080620573791626536 : Unit := ()
def PySem.W.Fast.tw16596236594253169807 : Unit := ()
def PySem.W.Fast.tw17221770249018234299 : Unit := ()
def PySem.W.Fast.tw5226088228683613451 : Unit := ()
def PySem.W.Fast.tw3843004403376924042 : Unit := ()
def PySem.W.Fast.tw8212637882520357226 : Unit := ()
def PySem.W.Fast.tw3468697749078681523 : Unit := ()
def PySem.W.Fast.tw16984712302791080673 : Unit := ()
def PySem.W.Fast.tw6491067827267640372 : Unit := ()
def PySem.W.Fast.tw8138928079096038028 : Unit := ()
def PySem.W.Fast.tw9417140173639390558 : Unit := ()
def PySem.W.Fast.tw3727745353366618194 : Unit := ()
def PySem.W.Fast.tw4065204961771624033 : Unit := ()
def PySem.W.Fast.tw3533811880969792786 : Unit := ()
def PySem.W.Fast.tw13610784544707461015 : Unit := ()
def PySem.W.Fast.tw4875452720058866598 : Unit := ()
def PySem.W.Fast.tw10276119849512043325 : Unit := ()
def PySem.W.Fast.tw17531043670503686835 : Unit := ()
def PySem.W.Fast.tw11279604530566172177 : Unit := ()
def PySem.W.Fast.tw17556246027218703978 : Unit := ()
def PySem.W.Fast.tw2338041759338286589 : Unit := ()
def PySem.W.Fast.tw12338526419519942017 : Unit := ()
def PySem.W.Fast.tw9486691036764196219 : Unit := ()
def PySem.W.Fast.tw979387422788316874 : Unit := ()
def PySem.W.Fast.tw6744632065698745026 : Unit := ()
def PySem.W.Fast.tw13805498452320397280 : Unit := ()
def PySem.W.Fast.tw12460395026210452277 : Unit := ()
def PySem.W.Fast.tw4392993878898989889 : Unit := ()
def PySem.W.Fast.tw17978906425533558174 : Unit := ()
def PySem.W.Fast.tw10214417453862446690 : Unit := ()
def PySem.W.Fast.tw15448511551256781420 : Unit := ()
def PySem.W.Fast.tw13806794802816596425 : Unit := ()
def PySem.W.Fast.tw17940080509741044011 : Unit := ()
def PySem.W.Fast.tw5875867485520781827 : Unit := ()
def PySem.W.Fast.tw11853419797235611049 : Unit := ()
def PySem.W.Fast.tw14064804006330968412 : Unit := ()
def PySem.W.Fast.tw2293722888174564320 : Unit := ()
def PySem.W.Fast.tw13236244022895392226 : Unit := ()
def PySem.W.Fast.tw12786657455164526492 : Unit := ()
def PySem.W.Fast.tw6536913424360063738 : Unit := ()
def PySem.W.Fast.tw11951017442999614980 : Unit := ()
def PySem.W.Fast.tw12601276146216151821 : Unit := ()
def PySem.W.Fast.tw10928614155983089506 : Unit := ()
def PySem.W.Fast.tw10468551723146139804 : Unit := ()
def PySem.W.Fast.tw11265848577228342730 : Unit := ()
def PySem.W.Fast.tw2348170938905806906 : Unit := ()
def PySem.W.Fast.tw1460064537558468628 : Unit := ()
def PySem.W.Fast.tw6857976085180641357 : Unit := ()
def PySem.W.Fast.tw10638600290984737401 : Unit := ()
def PySem.W.Fast.tw2689210139446040348 : Unit := ()
def PySem.W.Fast.tw5013561244125801279 : Unit := ()
def PySem.W.Fast.tw8809585937729480332 : Unit := ()
def PySem.W.Fast.tw5570516624122068412 : Unit := ()
def PySem.W.Fast.tw7688228883576636862 : Unit := ()
def PySem.W.Fast.tw301354345335166616 : Unit := ()
def PySem.W.Fast.tw7142280619222816420 : Unit := ()
def PySem.W.Fast.tw5603833450137798685 : Unit := ()
def PySem.W.Fast.tw1440732019463407179 : Unit := ()
def PySem.W.Fast.tw11896606074429764688 : Unit := ()
def PySem.W.Fast.tw7260398598605879105 : Unit := ()
def PySem.W.Fast.tw3494553864526827393 : Unit := ()
def PySem.W.Fast.tw15282273562294649414 : Unit := ()
def PySem.W.Fast.tw1199929783661970953 : Unit := ()
def PySem.W.Fast.tw8966926750645942578 : Unit := ()
def PySem.W.Fast.tw6917752657051209666 : Unit := ()
namespace U
open PySem PySem.W
def hkLive (x : Obj) : Option Obj := match x with
  | ⟨_, _, .freed, _⟩ => none
  | o => some o
theorem hkLive_get {h : Heap} {a : Addr} {x : Obj} (q : h.objs[a]? = some x) : h.get? a = hkLive x := by
  unfold Heap.get?
  rw [q]
  obtain ⟨c, d, dt, sl⟩ := x
  cases dt <;> rfl
noncomputable def hkScan (l : List Obj) : Nat → List Nat → List (Option Obj) :=
  @List.rec Obj (fun _ => Nat → List Nat → List (Option Obj)) (fun _ as => as.map fun _ => none)
    (fun x _ ih k as => @List.rec Nat (fun _ => List (Option Obj)) [] (fun a t _ => @Bool.rec (fun _ => List (Option Obj)) (ih (k + 1) (a :: t)) (hkLive x :: ih (k + 1) t) (Nat.beq a k)) as) l
theorem hkScan_nil (k : Nat) (as : List Nat) : hkScan [] k as = as.map fun _ => none := rfl
theorem hkScan_cons0 (x : Obj) (l : List Obj) (k : Nat) : hkScan (x :: l) k [] = [] := rfl
theorem hkScan_cons (x : Obj) (l : List Obj) (k a : Nat) (t : List Nat) : hkScan (x :: l) k (a :: t) = if a = k then hkLive x :: hkScan l (k + 1) t else hkScan l (k + 1) (a :: t) := by
  show @Bool.rec (fun _ => List (Option Obj)) (hkScan l (k + 1) (a :: t)) (hkLive x :: hkScan l (k + 1) t) (Nat.beq a k) = _
  cases h : Nat.beq a k with
  | true => rw [if_pos (Nat.eq_of_beq_eq_true h)]
  | false => rw [if_neg (Nat.ne_of_beq_eq_false h)]
theorem hkScan_at : ∀ (l : List Obj) (k : Nat) (as : List Nat) (i a : Nat) (o : Obj), as[i]? = some a → (hkScan l k as)[i]? = some (some o) → k ≤ a ∧ ∃ y, l[a - k]? = some y ∧ hkLive y = some o
  | [], k, as, i, a, o, h1, h2 => by
    rw [hkScan_nil, List.getElem?_map, h1] at h2
    cases h2
  | x :: l, k, [], i, a, o, h1, h2 => by simp at h1
  | x :: l, k, b :: t, i, a, o, h1, h2 => by
    rw [hkScan_cons] at h2
    have up : ∀ {as : List Nat} {j : Nat}, as[j]? = some a → (hkScan l (k + 1) as)[j]? = some (some o) → k ≤ a ∧ ∃ y, (x :: l)[a - k]? = some y ∧ hkLive y = some o := fun g1 g2 => by
      obtain ⟨q1, y, q2, q3⟩ := hkScan_at l (k + 1) _ _ a o g1 g2
      refine ⟨by omega, y, ?_, q3⟩
      rw [show a - k = (a - (k + 1)) + 1 by omega, List.getElem?_cons_succ]
      exact q2
    split at h2
    · rename_i hb
      cases i with
      | zero =>
        rw [List.getElem?_cons_zero] at h1 h2
        cases h1
        subst hb
        exact ⟨Nat.le_refl _, x, by rw [Nat.sub_self]; rfl, Option.some.inj h2⟩
      | succ j =>
        rw [List.getElem?_cons_succ] at h1 h2
        exact up h1 h2
    · exact up h1 h2
theorem hk_of {K : Params → Frag} {as : List Addr} (e : ∀ P, as = (K P).map (·.1)) (w : World) (s : Shared) (x : hkScan s.heap.objs.toList 0 as = (K w.params).map fun p => some p.2) : InK K w s.heap := by
  refine InK.of e w s ?_
  refine List.ext_getElem? fun i => ?_
  have ei : as[i]? = ((K w.params)[i]?).map (·.1) := by rw [e w.params, List.getElem?_map]
  have xi : (hkScan s.heap.objs.toList 0 as)[i]? = ((K w.params)[i]?).map (fun p => some p.2) := by rw [x, List.getElem?_map]
  rw [List.getElem?_map, List.getElem?_map]
  cases hp : (K w.params)[i]? with
  | none => rw [hp] at ei; rw [ei]; rfl
  | some p =>
    rw [hp] at ei xi
    rw [ei]
    obtain ⟨_, y, q, hy⟩ := hkScan_at _ 0 as i p.1 p.2 ei xi
    rw [Nat.sub_zero, Array.getElem?_toList] at q
    show some (s.heap.get? p.1) = some (some p.2)
    rw [hkLive_get q, hy]
noncomputable def hkHook (K : Params → Frag) (as : List Addr) (e : ∀ P, as = (K P).map (·.1)) : Hook :=
  ⟨List (Option Obj), fun s => hkScan s.heap.objs.toList 0 as, fun w => (K w.params).map fun p => some p.2, InK K, hk_of e, InK.keeps⟩
theorem hkIn_of {K : Params → Frag} {as : List Addr} {e : ∀ P, as = (K P).map (·.1)} {w : World} {h : Heap} (Y : (hkHook K as e).says w h) : (K w.params).In h := Y
end U
local macro_rules | `(tactic| o_head ($_:ident $k $a $e)) => `(tactic| o_head (@U.hkHook $k $a (by as_aux_lemma => exact $e)))
set_option maxRecDepth 100000 in
set_option maxHeartbeats 0 in
theorem PySem.Challenge.cw_unseenflips_k38_any_values_as_rate_paper_holds : PySem.Challenge.rw_unseenflips_k38_any_values_as_rate_paper.Holds := by
  w_on; o_law; k_head; (case hw => w_witness2)
  k_fill
  refine U.walk (l := PySem.Challenge.rw_unseenflips_k38_any_values_as_rate_paper) rfl rfl (fun w h Y => U.hkIn_of Y) ?F
  case F =>
    intro w mg fa h KX G hmg
    refine' U.all_mk KX G hmg ?a_is_integer ?l_is_integer ?c_is_integer ?k_is_integer ?a_is_sequence ?l_is_sequence ?c_is_sequence ?k_is_sequence ?a_is_word ?l_is_word ?c_is_word ?k_is_word ?a_is_bit ?l_is_bit ?c_is_bit ?k_is_bit ?a_tail ?l_tail ?c_tail ?k_tail ?a_common ?l_common ?c_common ?k_common ?a_lowest ?l_lowest ?c_lowest ?k_lowest ?a_is_value ?l_is_value ?c_is_value ?k_is_value ?a_move ?l_move ?c_move ?k_move ?a_is_at_most ?l_is_at_most ?c_is_at_most ?k_is_at_most ?a_is_entry ?l_is_entry ?c_is_entry ?k_is_entry ?a_is_kept ?l_is_kept ?c_is_kept ?k_is_kept ?a_rate_paper_holds ?l_rate_paper_holds ?c_rate_paper_holds ?k_rate_paper_holds ?a_is_stuff ?l_is_stuff ?c_is_stuff ?k_is_stuff ?a_are_stuffs ?l_are_stuffs ?c_are_stuffs ?k_are_stuffs ?a_l_seed ?l_l_seed ?c_l_seed ?k_l_seed ?a_l_choose ?l_l_choose ?c_l_choose ?k_l_choose ?a_l_one_of ?l_l_one_of ?c_l_one_of ?k_l_one_of ?a_l_word ?l_l_word ?c_l_word ?k_l_word ?a_l_words ?l_l_words ?c_l_words ?k_l_words ?a_l_put ?l_l_put ?c_l_put ?k_l_put ?a_l_is_rule ?l_l_is_rule ?c_l_is_rule ?k_l_is_rule ?a_l_rule ?l_l_rule ?c_l_rule ?k_l_rule ?a_l_made ?l_l_made ?c_l_made ?k_l_made ?a_l_deep ?l_l_deep ?c_l_deep ?k_l_deep ?a_l_leaf ?l_l_leaf ?c_l_leaf ?k_l_leaf ?a_l_any ?l_l_any ?c_l_any ?k_l_any ?a_l_is_paper ?l_l_is_paper ?c_l_is_paper ?k_l_is_paper ?a_l_is_entry ?l_l_is_entry ?c_l_is_entry ?k_l_is_entry ?a_l_common ?l_l_common ?c_l_common ?k_l_common ?a_law ?l_law ?c_law ?k_law ?aC_Rule ?pg_Rule ?hd_Rule ?po_Rule ?sa_Rule ?mk_Rule ?kc_Rule ?n_Rule_flag ?n_Rule_stuffs ?a_Rule_init ?i_Rule_init ?l_Rule_init ?c_Rule_init ?k_Rule_init ?dl_Rule_init ?dlE_Rule ?a_Rule_put ?i_Rule_put ?l_Rule_put ?c_Rule_put ?k_Rule_put ?a_Rule_longest ?g_Rule_longest ?t_Rule_longest ?r_Rule_longest ?l_Rule_longest ?c_Rule_longest ?a_Rule_put_in ?i_Rule_put_in ?l_Rule_put_in ?c_Rule_put_in ?k_Rule_put_in ?a_Rule_is_endless ?i_Rule_is_endless ?l_Rule_is_endless ?c_Rule_is_endless ?k_Rule_is_endless ?mro_Rule ?cls_Rule ?clg_X ?clt_X ?kon_rt ?gBITS ?z_len ?z_abs ?z_int ?z_range ?z_max ?z_min ?z_enumerate ?z_zip ?z_dict ?z_list ?z_tuple ?z_isinstance ?z_bool ?z_str ?z_all ?z_any ?z_sum ?z_sorted ?z_repr
    (case a_is_integer => k_is)
    (case l_is_integer => k_is)
    (case c_is_integer => k_is)
    (case k_is_integer => k_is)
    (case a_is_sequence => k_is)
    (case l_is_sequence => k_is)
    (case c_is_sequence => k_is)
    (case k_is_sequence => k_is)
    (case a_is_word => k_is)
    (case l_is_word => k_is)
    (case c_is_word => k_is)
    (case k_is_word => k_is)
    (case a_is_bit => k_is)
    (case l_is_bit => k_is)
    (case c_is_bit => k_is)
    (case k_is_bit => k_is)
    (case a_tail => k_is)
    (case l_tail => k_is)
    (case c_tail => k_is)
    (case k_tail => k_is)
    (case a_common => k_is)
    (case l_common => k_is)
    (case c_common => k_is)
    (case k_common => k_is)
    (case a_lowest => k_is)
    (case l_lowest => k_is)
    (case c_lowest => k_is)
    (case k_lowest => k_is)
    (case a_is_value => k_is)
    (case l_is_value => k_is)
    (case c_is_value => k_is)
    (case k_is_value => k_is)
    (case a_move => k_is)
    (case l_move => k_is)
    (case c_move => k_is)
    (case k_move => k_is)
    (case a_is_at_most => k_is)
    (case l_is_at_most => k_is)
    (case c_is_at_most => k_is)
    (case k_is_at_most => k_is)
    (case a_is_entry => k_is)
    (case l_is_entry => k_is)
    (case c_is_entry => k_is)
    (case k_is_entry => k_is)
    (case a_is_kept => k_is)
    (case l_is_kept => k_is)
    (case c_is_kept => k_is)
    (case k_is_kept => k_is)
    (case a_rate_paper_holds => k_is)
    (case l_rate_paper_holds => k_is)
    (case c_rate_paper_holds => k_is)
    (case k_rate_paper_holds => k_is)
    (case a_is_stuff => k_is)
    (case l_is_stuff => k_is)
    (case c_is_stuff => k_is)
    (case k_is_stuff => k_is)
    (case a_are_stuffs => k_is)
    (case l_are_stuffs => k_is)
    (case c_are_stuffs => k_is)
    (case k_are_stuffs => k_is)
    (case a_l_seed => k_is)
    (case l_l_seed => k_is)
    (case c_l_seed => k_is)
    (case k_l_seed => k_is)
    (case a_l_choose => k_is)
    (case l_l_choose => k_is)
    (case c_l_choose => k_is)
    (case k_l_choose => k_is)
    (case a_l_one_of => k_is)
    (case l_l_one_of => k_is)
    (case c_l_one_of => k_is)
    (case k_l_one_of => k_is)
    (case a_l_word => k_is)
    (case l_l_word => k_is)
    (case c_l_word => k_is)
    (case k_l_word => k_is)
    (case a_l_words => k_is)
    (case l_l_words => k_is)
    (case c_l_words => k_is)
    (case k_l_words => k_is)
    (case a_l_put => k_is)
    (case l_l_put => k_is)
    (case c_l_put => k_is)
    (case k_l_put => k_is)
    (case a_l_is_rule => k_is)
    (case l_l_is_rule => k_is)
    (case c_l_is_rule => k_is)
    (case k_l_is_rule => k_is)
    (case a_l_rule => k_is)
    (case l_l_rule => k_is)
    (case c_l_rule => k_is)
    (case k_l_rule => k_is)
    (case a_l_made => k_is)
    (case l_l_made => k_is)
    (case c_l_made => k_is)
    (case k_l_made => k_is)
    (case a_l_deep => k_is)
    (case l_l_deep => k_is)
    (case c_l_deep => k_is)
    (case k_l_deep => k_is)
    (case a_l_leaf => k_is)
    (case l_l_leaf => k_is)
    (case c_l_leaf => k_is)
    (case k_l_leaf => k_is)
    (case a_l_any => k_is)
    (case l_l_any => k_is)
    (case c_l_any => k_is)
    (case k_l_any => k_is)
    (case a_l_is_paper => k_is)
    (case l_l_is_paper => k_is)
    (case c_l_is_paper => k_is)
    (case k_l_is_paper => k_is)
    (case a_l_is_entry => k_is)
    (case l_l_is_entry => k_is)
    (case c_l_is_entry => k_is)
    (case k_l_is_entry => k_is)
    (case a_l_common => k_is)
    (case l_l_common => k_is)
    (case c_l_common => k_is)
    (case k_l_common => k_is)
    (case a_law => k_is)
    (case l_law => k_is)
    (case c_law => k_is)
    (case k_law => k_is)
    (case aC_Rule => k_is)
    (case pg_Rule => k_is)
    (case hd_Rule => k_is)
    (case po_Rule => k_is)
    (case sa_Rule => k_is)
    (case mk_Rule => k_is)
    (case kc_Rule => k_is)
    (case n_Rule_flag => k_is)
    (case n_Rule_stuffs => k_is)
    (case a_Rule_init => k_is)
    (case i_Rule_init => k_is)
    (case l_Rule_init => k_is)
    (case c_Rule_init => k_is)
    (case k_Rule_init => k_is)
    (case dl_Rule_init => k_is)
    (case dlE_Rule => k_is)
    (case a_Rule_put => k_is)
    (case i_Rule_put => k_is)
    (case l_Rule_put => k_is)
    (case c_Rule_put => k_is)
    (case k_Rule_put => k_is)
    (case a_Rule_longest => k_is)
    (case g_Rule_longest => k_is)
    (case t_Rule_longest => k_is)
    (case r_Rule_longest => k_is)
    (case l_Rule_longest => k_is)
    (case c_Rule_longest => k_is)
    (case a_Rule_put_in => k_is)
    (case i_Rule_put_in => k_is)
    (case l_Rule_put_in => k_is)
    (case c_Rule_put_in => k_is)
    (case k_Rule_put_in => k_is)
    (case a_Rule_is_endless => k_is)
    (case i_Rule_is_endless => k_is)
    (case l_Rule_is_endless => k_is)
    (case c_Rule_is_endless => k_is)
    (case k_Rule_is_endless => k_is)
    (case mro_Rule => k_is)
    (case cls_Rule => k_is)
    (case clg_X => k_is)
    (case clt_X => k_is)
    (case kon_rt => kernel_rfl)
    (case gBITS => k_is)
    (case z_len => k_is)
    (case z_abs => k_is)
    (case z_int => k_is)
    (case z_range => k_is)
    (case z_max => k_is)
    (case z_min => k_is)
    (case z_enumerate => k_is)
    (case z_zip => k_is)
    (case z_dict => k_is)
    (case z_list => k_is)
    (case z_tuple => k_is)
    (case z_isinstance => k_is)
    (case z_bool => k_is)
    (case z_str => k_is)
    (case z_all => k_is)
    (case z_any => k_is)
    (case z_sum => k_is)
    (case z_sorted => k_is)
    (case z_repr => k_is)
#print axioms PySem.Challenge.cw_unseenflips_k38_any_values_as_rate_paper_holds