import PyProof.Rows.All
import Wide.All
import OpenK.AllK
import Wide.FinOn
import HandS.ForMost
import HandS.Codes
import HandS.FStr
import HandS.IsInst
import HandS.Star
import HandS.TupAny
import HandS.Style
import HandS.Walk
import KE.GoesEnum
import KE.GoesNew
import HandS.Property
import HandS.Defaults
import HandS.ClsMeth
import HandS.MakeKw
import KE.GoesZip
import HandS.SortOrd
import HandS.SortRule
import HandS.OwnEq
import HandS.CallLocal
import KE.KCallOwn
import HandS.ExcInit
import HandS.Nested
import HandS.TryOnly
import KE.KExcSuper
import HandS.ExcOwn
import HandS.ExcIs
import KE.KDictPairs
import HandS.ExcField
import PySem.Challenge.RW_unseenflips_k03_rules_refused
set_option Elab.async false
set_option linter.all false
set_option maxRecDepth 100000
set_option maxHeartbeats 4000000
namespace Lx
open PySem PySem.Spec PyProof.Rows L2
def ItES (x : Str) : It := ⟨fun i _ => i < x.cps.size, fun i H v H' => ∃ T c, v = .ref T ∧ H T = none ∧ H' = upd H T (.tup [.int (i : Nat), .str ⟨#[c]⟩]) ∧ x.cps[i]? = some c, fun i _ => x.cps.size ≤ i⟩
theorem turn_enumS {P : Program} {w : World} {K : PySem.W.Frag} {elts : List Expr} {kk : Nat} {tpos : Pos} (x : Str) (t : Tok) (e it : Addr) :
    Turn P w K (.Tuple elts kk tpos) (ItES x) [e, it] e (fun i h => (∃ old, IsEnum h e it ((i : Nat) : Int) old) ∧ h.IsStrIter it (strIterType x) x t i ∧ e ≠ it ∧ i ≤ x.cps.size) where
  mem := by simp
  obj := fun i h st b hb => by
    obtain ⟨⟨old, he⟩, ⟨o, ho, hc, hd⟩, _⟩ := st
    have e' : b = e ∨ b = it := by simpa using hb
    rcases e' with z | z
    · rw [z]; exact ⟨_, he, fun v q => nomatch q⟩
    · rw [z]; exact ⟨o, ho, fun v q => by rw [hd] at q; cases q⟩
  keep := fun i h h' st k => by
    obtain ⟨⟨old, he⟩, ⟨o, ho, r⟩, hne⟩ := st
    exact ⟨⟨old, k e (by simp) _ he⟩, ⟨o, k it (by simp) o ho, r⟩, hne⟩
  item := by
    intro X hP hw hK hc i pins s σ H E I hf st hg
    subst hP hw hK
    obtain ⟨⟨old, he⟩, hit, hne, _⟩ := st
    have hlt : i < x.cps.size := hg
    have hel : e < s.heap.objs.size := Heap.lt_size he
    have hil : it < s.heap.objs.size := by obtain ⟨_, q, _⟩ := hit; exact Heap.lt_size q
    have hh : X.A.in1.handled = none := I.ok.hd hc
    refine wpAny_pyNext_enum_itemC (Draws.text hh it x t) he hit hlt hne (by simpa using hne) fun v h' tk hP ho hit' hT hsz hk => ?_
    obtain ⟨c, u, hcx, rfl⟩ := hP
    refine ⟨_, rfl, wpAny_letOwnedTupleGo_enum (s := { s with heap := h', toks := tk + 1 }) ho fun h'' he' sb => ?_⟩
    have hT2 : h''.get? s.heap.objs.size = some { cls := .type "tuple", data := .seq #[.int i tk, .str ⟨#[c]⟩ u] } := (sb.2 _ (Nat.ne_of_gt hel)).trans hT
    have new : ObjOk X.prog X.w (upd H s.heap.objs.size (.tup [.int (i : Nat), .str ⟨#[c]⟩])) h'' s.heap.objs.size (.tup [.int (i : Nat), .str ⟨#[c]⟩]) :=
      ⟨by show 2 ≤ sizeLine; decide, [.int i tk, .str ⟨#[c]⟩ u], .cons ⟨_, rfl⟩ (.cons ⟨_, rfl⟩ .nil), ⟨_, hT2, rfl, _, rfl⟩⟩
    have I1 : Inv X pins σ (upd H s.heap.objs.size (.tup [.int (i : Nat), .str ⟨#[c]⟩])) { s with heap := h'', toks := tk + 1 } :=
      I.turnedNew (ch := [e, it]) (fun b ob hb q => (sb.2 b (fun z => hb (by simp [z]))).trans (hk b ob (fun z => hb (by simp [z])) (fun z => hb (by simp [z])) q)) hf (Nat.le_refl _) new
    refine ⟨.ref s.heap.objs.size, _, I1, rfl, ⟨_, c, rfl, I.hok.fresh (Nat.le_refl _), rfl, hcx⟩, ⟨⟨.str ⟨#[c]⟩ u, ?_⟩, ?_, hne, hlt⟩, fun b hb => ?_⟩
    · have e1 : ((i + 1 : Nat) : Int) = (i : Int) + 1 := by omega
      rw [e1]; exact he'
    · obtain ⟨o, ho', r⟩ := hit'
      exact ⟨o, (sb.2 it (Ne.symm hne)).trans ho', r⟩
    · have hb' : b < s.heap.objs.size := by
        have e' : b = e ∨ b = it := by simpa using hb
        rcases e' with z | z
        · rw [z]; exact hel
        · rw [z]; exact hil
      rw [upd_ne (Nat.ne_of_lt hb')]
      exact (hf b hb).1
  done := by
    intro X hP hw hK hc i pins s σ H E I hf st hg
    subst hP hw hK
    obtain ⟨⟨old, he⟩, hit, hne, hle⟩ := st
    have hge : x.cps.size ≤ i := hg
    have hi : i = x.cps.size := Nat.le_antisymm hle hge
    subst hi
    have hh : X.A.in1.handled = none := I.ok.hd hc
    obtain ⟨f0, f1, f2, f3, f4, f5⟩ := hf it (by simp)
    exact wpAny_pyNext_enum_endD (Draws.text hh it x t) he hit fun h' eb => ⟨rfl, I.turned (t' := s.toks) (fun b o hb q => eb b o hb q) f0 f1 f3 f4 f5⟩
  self := fun A i s Q E st h => let ⟨⟨_, he⟩, _⟩ := st; wpAny_pyIter_enum he h
def iEnumS (ta : TA) : TI := fun σ H R => ta σ H fun vs H1 => ∃ x, vs = [.str x] ∧ R (ItES x) H1
theorem pi_enumS {X : Cx} {e : Expr} {ta : TA} {p pos tpos : Pos} {elts : List Expr} {kk : Nat} (hg : Gl X "enumerate") (hm : X.mg "enumerate" = none) (ha : PA X [e] ta) (hs : starEach [e] X.env = [(false, eval e X.env)] := by rfl) :
    PI X (.Tuple elts kk tpos) (.Call (.Name "enumerate" p) [e] [] pos) (iEnumS ta) := by
  refine ⟨fun pins s σ H R I h => ?_⟩
  refine Call_ (ld_blt I hg hm boot_enumerate (PyProof.Rows.callWith_type1 (thn (ha.run pos pins s σ H _ I h) fun us s1 ⟨vs, H1, I1, r1, q1⟩ => ?_) hs rfl))
  obtain ⟨x, ex, q⟩ := q1
  subst ex
  cases r1 with
  | cons r rr =>
    cases rr
    obtain ⟨t, rfl⟩ := r
    refine call_enumerate_str fun h' he hit hsz hk => wpAny_pyIter_enum he ?_
    have I2 : Inv X pins σ H1 { s1 with heap := h' } := I1.kept (t' := s1.toks) hk
    refine ⟨s1.heap.objs.size + 1, [s1.heap.objs.size + 1, s1.heap.objs.size], _, _, H1, rfl, I2, turn_enumS x t (s1.heap.objs.size + 1) s1.heap.objs.size, ⟨⟨.none, he⟩, hit, Nat.succ_ne_self _, Nat.zero_le _⟩, fun b hb => ?_, q⟩
    have e' : b = s1.heap.objs.size + 1 ∨ b = s1.heap.objs.size := by simpa using hb
    have hle : s1.heap.objs.size ≤ b := by
      rcases e' with z | z
      · rw [z]; exact Nat.le_add_right _ _
      · rw [z]; exact Nat.le_refl _
    exact I1.fpOk hle (I1.hok.fresh hle)
def ItET (K : PySem.W.Frag) (a : Addr) : It :=
  ⟨fun i H => ∃ (xs : List V) (x : V), SqT K H a xs ∧ xs[i]? = some x, fun i H v H' => ∃ T x, v = .ref T ∧ H T = none ∧ H' = upd H T (.tup [.int (i : Nat), x]) ∧ ∀ xs, SqT K H a xs → xs[i]? = some x, fun i H => ∃ xs : List V, SqT K H a xs ∧ xs.length ≤ i⟩
theorem meets_enumerate_newT (l : Addr) (items : Array Value) (n : Nat) (dct : Option Addr) (sl : Array (Option Value)) :
    Meets (Builtin.«enumerate.__new__» ⟨[.type "enumerate", .ref l], []⟩) (fun _ R s => s.heap.get? l = some { cls := .type "tuple", dict := dct, data := .seq items n, slots := sl } ∧
      R (.ok (.ret (.ref (s.heap.push { cls := .type "tuple_iterator", data := .fields #[.ref l, .int 0 0] }).objs.size)))
        { s with heap := (s.heap.push { cls := .type "tuple_iterator", data := .fields #[.ref l, .int 0 0] }).push { cls := .type "enumerate", data := .fields #[.none, .bool false, .ref s.heap.objs.size, rawInt 0, .none, .none] } }) :=
  .of_wp fun prog w A R s h => by
    obtain ⟨hp, g, d, tk, os⟩ := s; obtain ⟨hl, h⟩ := h
    have hsub := sub_enumerate
    have hL : Heap.IsTuple (Shared.heap ⟨hp, g, d, tk, os⟩) l items := ⟨_, hl, rfl, n, rfl⟩
    wp_walk using AutoSeq1.wpAny_loadPart' hl
    refine wpAny_stack_any fun st => wpAny_pure ?_
    split
    · rename_i c _ _ _ _ _
      cases (c == Value.type "enumerate")
      · wp_walk using AutoSeq1.wpAny_loadPart' hl, wpAny_pyIter_tuple hL
        exact ⟨_, rfl, h⟩
      · wp_walk using AutoSeq1.wpAny_loadPart' hl, wpAny_pyIter_tuple hL
        exact ⟨_, rfl, h⟩
    · wp_walk using AutoSeq1.wpAny_loadPart' hl, wpAny_pyIter_tuple hL
      exact ⟨_, rfl, h⟩
theorem call_enumerate_tup {prog : Program} {w : World} {A : Around} {E : Value → Shared → Prop} {s : Shared} {l : Addr} {items : Array Value} {Q : Value → Shared → Prop} (hL : s.heap.IsTuple l items)
    (h : ∀ h', IsEnum h' (s.heap.objs.size + 1) s.heap.objs.size 0 .none → h'.IsTupleIter s.heap.objs.size l 0 → h'.objs.size = s.heap.objs.size + 2 →
      (∀ b o, s.heap.get? b = some o → h'.get? b = some o) → Q (.ref (s.heap.objs.size + 1)) { s with heap := h' }) :
    wpAny (model prog w) A (call (.type "enumerate") [.ref l]) Q E s := by
  obtain ⟨⟨c, dct, dt, sl⟩, hl, hc, n, hd⟩ := hL
  replace hc : c = .type "tuple" := hc
  replace hd : dt = .seq items n := hd
  subst hc hd
  refine callType_new F.called_enumerate (by decide) (F.typeCall_enumerate_1 _) (F.newCall_enumerate_1 _) (fun obj => F.args_object_init_2 obj _) F.entry_enumerate_new
    (meets_enumerate_newT l items n dct sl) ⟨hl, ?_⟩
  have hz : (s.heap.push { cls := .type "tuple_iterator", data := .fields #[.ref l, .int 0 0] }).objs.size = s.heap.objs.size + 1 := Heap.size_push ..
  show _ ∧ _
  rw [hz]
  have he : IsEnum ((s.heap.push { cls := .type "tuple_iterator", data := .fields #[.ref l, .int 0 0] }).push
      { cls := .type "enumerate", data := .fields #[.none, .bool false, .ref s.heap.objs.size, rawInt 0, .none, .none] }) (s.heap.objs.size + 1) s.heap.objs.size 0 .none := by
    have := Heap.get?_push_size (s.heap.push { cls := .type "tuple_iterator", data := .fields #[.ref l, .int 0 0] })
      (o := { cls := .type "enumerate", data := .fields #[.none, .bool false, .ref s.heap.objs.size, rawInt 0, .none, .none] }) rfl
    rw [hz] at this; exact this
  refine ⟨⟨_, he, rfl⟩, h _ he ⟨_, Heap.get?_push_of_some _ (Heap.get?_push_size _ rfl), rfl, rfl⟩ (by rw [Heap.size_push, hz]) fun b o x => Heap.get?_push_of_some _ (Heap.get?_push_of_some _ x)⟩
theorem turn_enumT {P : Program} {w : World} {K : PySem.W.Frag} {elts : List Expr} {kk : Nat} {tpos : Pos} (a e it : Addr) :
    Turn P w K (.Tuple elts kk tpos) (ItET K a) [e, it] e (fun i h => (∃ old, IsEnum h e it ((i : Nat) : Int) old) ∧ h.IsTupleIter it a i ∧ e ≠ it ∧ a ≠ it ∧ a ≠ e) where
  mem := by simp
  obj := fun i h st b hb => by
    obtain ⟨⟨old, he⟩, ⟨o, ho, hc, hd⟩, _⟩ := st
    have e' : b = e ∨ b = it := by simpa using hb
    rcases e' with z | z
    · rw [z]; exact ⟨_, he, fun v q => nomatch q⟩
    · rw [z]; exact ⟨o, ho, fun v q => by rw [hd] at q; cases q⟩
  keep := fun i h h' st k => by
    obtain ⟨⟨old, he⟩, ⟨o, ho, r⟩, hne⟩ := st
    exact ⟨⟨old, k e (by simp) _ he⟩, ⟨o, k it (by simp) o ho, r⟩, hne⟩
  item := by
    intro X hP hw hK hc i pins s σ H E I hf st hg
    subst hP hw hK
    obtain ⟨⟨old, he⟩, hit, hne, hai, hae⟩ := st
    obtain ⟨xs, x, hq, hx⟩ := hg
    obtain ⟨its, rv, p, hz⟩ := I.tuple hq
    obtain ⟨u, hu, ru⟩ := rv.get hx
    have hel : e < s.heap.objs.size := Heap.lt_size he
    have hil : it < s.heap.objs.size := by obtain ⟨_, q, _⟩ := hit; exact Heap.lt_size q
    have hh : X.A.in1.handled = none := I.ok.hd hc
    have pT : s.heap.IsTuple a its.toArray := p
    have hlt : i < its.toArray.size := by
      have := (List.getElem?_eq_some_iff.mp hu).1
      simpa using this
    refine wpAny_pyNext_enum_itemC (Draws.tuple hh it a hai its.toArray) he ⟨hit, pT⟩ hlt hne (by simp [hne, Ne.symm hae]) fun v h' tk hP ho hit' hT hsz hk => ?_
    have ev : v = u := by
      have hP' : its.toArray[i]? = some v := hP
      rw [List.getElem?_toArray, hu] at hP'
      exact (Option.some.inj hP').symm
    subst ev
    refine ⟨_, rfl, wpAny_letOwnedTupleGo_enum (s := { s with heap := h', toks := tk + 1 }) ho fun h'' he' sb => ?_⟩
    have hT2 : h''.get? s.heap.objs.size = some { cls := .type "tuple", data := .seq #[.int i tk, v] } := (sb.2 _ (Nat.ne_of_gt hel)).trans hT
    have new : ObjOk X.prog X.w (upd H s.heap.objs.size (.tup [.int (i : Nat), x])) h'' s.heap.objs.size (.tup [.int (i : Nat), x]) :=
      ⟨by show 2 ≤ sizeLine; decide, [.int i tk, v], .cons ⟨_, rfl⟩ (.cons ru .nil), ⟨_, hT2, rfl, _, rfl⟩⟩
    have I1 : Inv X pins σ (upd H s.heap.objs.size (.tup [.int (i : Nat), x])) { s with heap := h'', toks := tk + 1 } :=
      I.turnedNew (ch := [e, it]) (fun b ob hb q => (sb.2 b (fun z => hb (by simp [z]))).trans (hk b ob (fun z => hb (by simp [z])) (fun z => hb (by simp [z])) q)) hf (Nat.le_refl _) new
    refine ⟨.ref s.heap.objs.size, _, I1, rfl, ⟨_, x, rfl, I.hok.fresh (Nat.le_refl _), rfl, fun ys hy => by rw [I.tuple_inj hy hq]; exact hx⟩, ⟨⟨v, ?_⟩, ?_, hne, hai, hae⟩, fun b hb => ?_⟩
    · have e1 : ((i + 1 : Nat) : Int) = (i : Int) + 1 := by omega
      rw [e1]; exact he'
    · obtain ⟨⟨o, ho', r⟩, _⟩ := hit'
      exact ⟨o, (sb.2 it (Ne.symm hne)).trans ho', r⟩
    · have hb' : b < s.heap.objs.size := by
        have e' : b = e ∨ b = it := by simpa using hb
        rcases e' with z | z
        · rw [z]; exact hel
        · rw [z]; exact hil
      rw [upd_ne (Nat.ne_of_lt hb')]
      exact (hf b hb).1
  done := by
    intro X hP hw hK hc i pins s σ H E I hf st hg
    subst hP hw hK
    obtain ⟨⟨old, he⟩, hit, hne, hai, hae⟩ := st
    obtain ⟨xs, hq, hx⟩ := hg
    obtain ⟨its, rv, p, hz⟩ := I.tuple hq
    have hl := rv.length
    have pT : s.heap.IsTuple a its.toArray := p
    have hh : X.A.in1.handled = none := I.ok.hd hc
    obtain ⟨f0, f1, f2, f3, f4, f5⟩ := hf it (by simp)
    have D : Draws X.prog X.w X.A.in1 it [it, a] i (fun _ _ => True) (fun j h => j = i ∧ h.IsTupleIter it a i ∧ h.IsTuple a its.toArray) :=
      { live := fun _ _ st => let ⟨o, ho, _⟩ := st.2.1; ⟨o, ho⟩
        frame := fun _ _ _ st hk => ⟨st.1, st.2.1.at fun o e => hk it (by simp) o e, st.2.2.at fun o e => hk a (by simp) o e⟩
        item := fun j s Q E hj st hQ => absurd st.1 (Nat.ne_of_lt hj)
        done := fun s Q E st hE => wpAny_nextOf_tuple_end hh st.2.1 st.2.2 (by simp; omega) hE }
    exact wpAny_pyNext_enum_endD D he ⟨rfl, hit, pT⟩ fun h' eb => ⟨rfl, I.turned (t' := s.toks) (fun b o hb q => eb b o hb q) f0 f1 f3 f4 f5⟩
  self := fun A i s Q E st h => let ⟨⟨_, he⟩, _⟩ := st; wpAny_pyIter_enum he h
def iEnumT (K : PySem.W.Frag) (ta : TA) : TI := fun σ H R => ta σ H fun vs H1 => ∃ a xs, vs = [.ref a] ∧ SqT K H1 a xs ∧ R (ItET K a) H1
theorem pi_enumT {X : Cx} {e : Expr} {ta : TA} {p pos tpos : Pos} {elts : List Expr} {kk : Nat} (hg : Gl X "enumerate") (hm : X.mg "enumerate" = none) (ha : PA X [e] ta) (hs : starEach [e] X.env = [(false, eval e X.env)] := by rfl) :
    PI X (.Tuple elts kk tpos) (.Call (.Name "enumerate" p) [e] [] pos) (iEnumT X.K ta) := by
  refine ⟨fun pins s σ H R I h => ?_⟩
  refine Call_ (ld_blt I hg hm boot_enumerate (PyProof.Rows.callWith_type1 (thn (ha.run pos pins s σ H _ I h) fun us s1 ⟨vs, H1, I1, r1, q1⟩ => ?_) hs rfl))
  obtain ⟨a, xs, ex, hq, q⟩ := q1
  subst ex
  cases r1 with
  | cons r rr =>
    cases rr
    cases r
    obtain ⟨its, rv, p', hz⟩ := I1.tuple hq
    have pT : s1.heap.IsTuple a its.toArray := p'
    have hlt : a < s1.heap.objs.size := by obtain ⟨o, ho, _⟩ := pT; exact Heap.lt_size ho
    refine call_enumerate_tup pT fun h' he hit hsz hk => wpAny_pyIter_enum he ?_
    have I2 : Inv X pins σ H1 { s1 with heap := h' } := I1.kept (t' := s1.toks) hk
    refine ⟨s1.heap.objs.size + 1, [s1.heap.objs.size + 1, s1.heap.objs.size], _, _, H1, rfl, I2, turn_enumT a (s1.heap.objs.size + 1) s1.heap.objs.size, ⟨⟨.none, he⟩, hit, Nat.succ_ne_self _, Nat.ne_of_lt hlt, Nat.ne_of_lt (Nat.lt_succ_of_lt hlt)⟩, fun b hb => ?_, q⟩
    have e' : b = s1.heap.objs.size + 1 ∨ b = s1.heap.objs.size := by simpa using hb
    have hle : s1.heap.objs.size ≤ b := by
      rcases e' with z | z
      · rw [z]; exact Nat.le_add_right _ _
      · rw [z]; exact Nat.le_refl _
    exact I1.fpOk hle (I1.hok.fresh hle)
def iEnumQ (K : PySem.W.Frag) (ta : TA) : TI := fun σ H R => iEnum K ta σ H R ∨ iEnumT K ta σ H R
theorem pi_enumQ {X : Cx} {e : Expr} {ta : TA} {p pos tpos : Pos} {elts : List Expr} {kk : Nat} (hg : Gl X "enumerate") (hm : X.mg "enumerate" = none) (ha : PA X [e] ta) (hs : starEach [e] X.env = [(false, eval e X.env)] := by rfl) :
    PI X (.Tuple elts kk tpos) (.Call (.Name "enumerate" p) [e] [] pos) (iEnumQ X.K ta) := by
  refine ⟨fun pins s σ H R I h => ?_⟩
  rcases h with h | h
  · exact (pi_enum hg hm ha hs).run pins s σ H R I h
  · exact (pi_enumT hg hm ha hs).run pins s σ H R I h
theorem walk_enumT {K : PySem.W.Frag} {a : Addr} {xs : List V} : Walk (ItET K a) xs.length (fun H => SqT K H a xs) (YPair (fun i => some (.int (i : Nat))) (fun i => xs[i]?)) := by
  refine ⟨fun i _ hi q => ⟨xs, xs[i], q, by simp [hi]⟩, fun _ q => ⟨xs, q, Nat.le_refl _⟩, fun i H v H' _ q y => ?_⟩
  obtain ⟨T, x, h1, h2, h3, h4⟩ := y
  exact ⟨T, .int (i : Nat), x, h1, h2, h3, rfl, h4 xs q⟩
theorem walk_enumS {x : Str} : Walk (ItES x) x.cps.size (fun _ => True) (fun i H v H' => ∃ T c, v = .ref T ∧ H T = none ∧ H' = upd H T (.tup [.int (i : Nat), .str ⟨#[c]⟩]) ∧ x.cps[i]? = some c) :=
  ⟨fun _ _ hi _ => hi, fun _ _ => Nat.le_refl _, fun _ _ _ _ _ _ y => y⟩
end Lx
set_option maxRecDepth 100000
set_option maxHeartbeats 4000000
namespace Lx
open PySem PySem.Spec PyProof.Rows L2
def ItTup (n : Nat) (f : Nat → List V → Prop) : It :=
  ⟨fun i _ => i < n, fun i H v H' => ∃ T xs, v = .ref T ∧ H T = none ∧ H' = upd H T (.tup xs) ∧ f i xs, fun i _ => n ≤ i⟩
theorem turn_tuples {P : Program} {w : World} {K : PySem.W.Frag} {elts : List Expr} {kk : Nat} {tpos : Pos} {it : Addr} {fp wr : List Addr} {n : Nat} {Pt : Nat → Array Value → Prop} {St : Nat → Heap → Prop} {Mid : Nat → Addr → Heap → Prop} {f : Nat → List V → Prop}
    (Wk : ∀ A : Around, A.in1.handled = none → WalksT P w A it fp wr n Pt St Mid) (hrel : ∀ i vals, Pt i vals → ∃ xs, Vals xs vals.toList ∧ f i xs ∧ xs.length ≤ 8)
    (hobj : ∀ i h, St i h → ∀ b ∈ fp, ∃ o, h.get? b = some o ∧ ∀ v, o.data ≠ .cell v) (hmem : it ∈ fp)
    (hself : ∀ (A : Around) (i : Nat) (s : Shared) (Q : Value → Shared → Prop) (E : Value → Shared → Prop), St i s.heap → Q (.ref it) s → wpAny (model P w) A (pyIter (.ref it)) Q E s) :
    Turn P w K (.Tuple elts kk tpos) (ItTup n f) fp it (fun i h => St i h ∧ i ≤ n) where
  mem := hmem
  obj := fun i h st => hobj i h st.1
  keep := fun i h h' st k => ⟨(Wk {} rfl).frame i h h' st.1 k, st.2⟩
  item := by
    intro X hP hw hK hc i pins s σ H E I hf st hg
    subst hP hw hK
    have hh : X.A.in1.handled = none := I.ok.hd hc
    have hlt : i < n := hg
    refine (GoesN.ofWalksT (elts := elts) (k := kk) (pos := tpos) (Wk X.A hh)).goes i s _ _ hlt st.1 fun v h' tk hY st' hk htk => ?_
    obtain ⟨T, vals, rfl, hnew, hPt, hT⟩ := hY
    obtain ⟨xs, rv, hfx, hl⟩ := hrel i vals hPt
    have new : ObjOk X.prog X.w (upd H T (.tup xs)) h' T (.tup xs) := ⟨Nat.le_trans hl (by decide), vals.toList, rv, by rw [Array.toArray_toList]; exact hT⟩
    have I1 : Inv X pins σ (upd H T (.tup xs)) { s with heap := h', toks := tk } :=
      I.turnedNew (ch := fp) (fun b ob hb q => hk b ob (fun z => hb ((Wk X.A hh).sub b z)) q) hf hnew new
    refine ⟨.ref T, _, I1, rfl, ⟨T, xs, rfl, I.hok.fresh hnew, rfl, hfx⟩, ⟨st', hlt⟩, fun b hb => ?_⟩
    have hb' : b < s.heap.objs.size := by obtain ⟨o, ho, _⟩ := hobj i _ st.1 b hb; exact Heap.lt_size ho
    rw [upd_ne (Nat.ne_of_lt (Nat.lt_of_lt_of_le hb' hnew))]
    exact (hf b hb).1
  done := by
    intro X hP hw hK hc i pins s σ H E I hf st hg
    subst hP hw hK
    have hh : X.A.in1.handled = none := I.ok.hd hc
    have hge : n ≤ i := hg
    have hi : i = n := Nat.le_antisymm st.2 hge
    subst hi
    refine (Wk X.A hh).done s _ _ st.1 fun h' tk hk => ⟨rfl, ?_⟩
    exact I.turnedL (ch := fp) (fun c o hb q => hk c o (fun z => hb ((Wk X.A hh).sub c z)) q) hf
  self := fun A i s Q E st h => hself A i s Q E st.1 h
theorem walk_tuples {n : Nat} {f : Nat → List V → Prop} : Walk (ItTup n f) n (fun _ => True) (fun i H v H' => ∃ T xs, v = .ref T ∧ H T = none ∧ H' = upd H T (.tup xs) ∧ f i xs) :=
  ⟨fun _ _ hi _ => hi, fun _ _ => Nat.le_refl _, fun _ _ _ _ _ _ y => y⟩
def zipF (x y : Str) : Nat → List V → Prop := fun i xs => ∃ c d, x.cps[i]? = some c ∧ y.cps[i]? = some d ∧ xs = [.str ⟨#[c]⟩, .str ⟨#[d]⟩]
def iZipS (ta : TA) : TI := fun σ H R => ta σ H fun vs H1 => ∃ x y, vs = [.str x, .str y] ∧ R (ItTup (min x.cps.size y.cps.size) (zipF x y)) H1
theorem pi_zipS {X : Cx} {e e2 : Expr} {ta : TA} {p pos tpos : Pos} {elts : List Expr} {kk : Nat} (hg : Gl X "zip") (hm : X.mg "zip" = none) (ha : PA X [e, e2] ta)
    (hs : starEach [e, e2] X.env = (false, eval e X.env) :: starEach [e2] X.env := by rfl) (hpl : (backTo pos (starEach [e2] X.env)).any (·.1) = false := by rfl) :
    PI X (.Tuple elts kk tpos) (.Call (.Name "zip" p) [e, e2] [] pos) (iZipS ta) := by
  refine ⟨fun pins s σ H R I h => ?_⟩
  refine Call_ (ld_blt I hg hm PyProof.Rows.boot_zip (PyProof.Rows.callWith_type1 (thn (ha.run pos pins s σ H _ I h) fun us s1 ⟨vs, H1, I1, r1, q1⟩ => ?_) hs hpl))
  obtain ⟨x, y, ex, q⟩ := q1
  subst ex
  cases r1 with
  | cons r rr =>
    cases rr with
    | cons r' rr =>
      cases rr
      obtain ⟨t, rfl⟩ := r
      obtain ⟨t', rfl⟩ := r'
      refine zip_begins2 (begins_text x t) (begins_text y t') trivial trivial fun h' hz hTI hTO h1 h2 hsz hk => wpAny_pyIter_zip hz ?_
      have I2 : Inv X pins σ H1 { s1 with heap := h' } := I1.kept (t' := s1.toks) hk
      have sep := zip_sep2 (N := s1.heap.objs.size) (fp1 := []) (fp2 := []) (fun b hb => nomatch hb) (fun b hb => nomatch hb)
      have tn := turn_tuples (P := X.prog) (w := X.w) (K := X.K) (elts := elts) (kk := kk) (tpos := tpos) (f := zipF x y)
        (fun A hh => WalksT.zipD2 sep (Draws.text (prog := X.prog) (w := X.w) hh s1.heap.objs.size x t) (Draws.text (prog := X.prog) (w := X.w) hh (s1.heap.objs.size + 1) y t'))
        (fun i vals hv => by
          obtain ⟨x1, x2, ⟨c, u, hc, rfl⟩, ⟨d, u', hd, rfl⟩, rfl⟩ := hv
          exact ⟨[.str ⟨#[c]⟩, .str ⟨#[d]⟩], .cons ⟨_, rfl⟩ (.cons ⟨_, rfl⟩ .nil), ⟨c, d, hc, hd, rfl⟩, by show 2 ≤ 8; decide⟩)
        (fun i h st b hb => by
          obtain ⟨z1, z2, ⟨a1, a2, z3⟩, ⟨o1, e1, _, d1⟩, ⟨o2, e2, _, d2⟩⟩ := st
          have e' : b = s1.heap.objs.size + 4 ∨ b = s1.heap.objs.size + 2 ∨ b = s1.heap.objs.size + 3 ∨ b = s1.heap.objs.size ∨ b = s1.heap.objs.size + 1 := by simpa using hb
          rcases e' with q | q | q | q | q
          · rw [q]; exact ⟨_, z1, fun v q => nomatch q⟩
          · rw [q]; exact ⟨_, z2, fun v q => nomatch q⟩
          · rw [q]; exact ⟨_, z3, fun v q => nomatch q⟩
          · rw [q]; exact ⟨o1, e1, fun v q => by rw [d1] at q; cases q⟩
          · rw [q]; exact ⟨o2, e2, fun v q => by rw [d2] at q; cases q⟩)
        (by simp) (fun A i s Q E st h => wpAny_pyIter_zip st.1 h)
      refine ⟨s1.heap.objs.size + 4, _, _, _, H1, rfl, I2, tn, ⟨⟨hz, hTI, ⟨_, _, hTO⟩, ⟨_, h1, rfl, rfl⟩, ⟨_, h2, rfl, rfl⟩⟩, Nat.zero_le _⟩, fun c hcm => ?_, q⟩
      have e' : c = s1.heap.objs.size + 4 ∨ c = s1.heap.objs.size + 2 ∨ c = s1.heap.objs.size + 3 ∨ c = s1.heap.objs.size ∨ c = s1.heap.objs.size + 1 := by simpa using hcm
      have hle : s1.heap.objs.size ≤ c := by
        rcases e' with z | z | z | z | z
        · rw [z]; exact Nat.le_add_right _ _
        · rw [z]; exact Nat.le_add_right _ _
        · rw [z]; exact Nat.le_add_right _ _
        · rw [z]; exact Nat.le_refl _
        · rw [z]; exact Nat.le_add_right _ _
      exact I1.fpOk hle (I1.hok.fresh hle)
section
variable {X : Cx}
theorem op_rep_str : OpR X (binaryOp .Mult) (fun x y H Q => ∃ (z : Str) (n : Int), x = .str z ∧ y = .int n ∧ n < 2 ^ 20 ∧ -(2 ^ 20) < n ∧ z.length * n.toNat ≤ 100000 ∧ Q (.str (Txt.mul z n)) H) := by
  intro pins s σ H x y u v Q I rx ry h
  obtain ⟨z, n, rfl, rfl, h1, h2, h3, q⟩ := h
  obtain ⟨t, rfl⟩ := rx
  obtain ⟨t', rfl⟩ := ry
  refine SB.mul ⟨?_, fun a b => ?_, fun a b => ?_⟩ fun t' k => ⟨.str (Txt.mul z n), H, I.tok _, ⟨_, rfl⟩, q⟩
  · rw [decide_eq_false (by omega), decide_eq_false (by omega)]; rfl
  · have e1 : ((z.length : Int)) ≤ 100000 := by
      have : z.length * 1 ≤ z.length * n.toNat := Nat.mul_le_mul_left _ (by omega)
      omega
    have e2 : (100000 : Int) ≤ (2 ^ 63 - 1) / n := by
      refine (Int.le_ediv_iff_mul_le (by omega)).mpr ?_
      omega
    omega
  · show decide (z.length * n.toNat > sizeLine) = false
    exact decide_eq_false (Nat.not_lt.mpr (Nat.le_trans h3 (by decide)))
end
open C8 in
theorem pe_mk0 {X : Cx} {k j : Nat} {C : Addr} {x : Str} {sp : Sp} {dvs : List V} {p pos : Pos} (c : Mak X.prog X.w X.K X.mg X.base k x C sp dvs) (hr : Room j X.A) (hk : k + 1 ≤ j) (hg : Gl X x) (hdb : (x == ("__debug__" : Str)) = false := by decide) :
    PE X (.Call (.Name x p) [] [] pos) (tMake C sp dvs C8.E0 tNil) := by
  obtain ⟨f, fd, ps, ds, M, F, hm, b, d⟩ := c.ex
  exact pe_make0 M F (hr.mono hk) hg hm b d C8.pass0 hdb
open C8 in
theorem pe_c0 {X : Cx} {k j : Nat} {x : Str} {sp : Sp} {dvs : List V} {p pos : Pos} (c : Cal X.prog X.w X.K X.mg X.base k x sp dvs) (hr : Room j X.A) (hk : k ≤ j) (hg : Gl X x) (hdb : (x == ("__debug__" : Str)) = false := by decide) :
    PE X (.Call (.Name x p) [] [] pos) (tCall sp dvs C8.E0 tNil) := by
  obtain ⟨f, fd, ps, ds, F, hm, kp, b, d⟩ := c.ex
  exact pe_call0 F (hr.mono hk) hg hm kp b d C8.pass0 hdb
structure Prp (P : Program) (w : World) (K : PySem.W.Frag) (mg : Str → Option Value) (base : Heap) (k : Nat) (C : Addr) (m : Str) (sp : Sp) : Prop where
  ex : ∃ (p f : Addr) (fd : FuncData) (ps : List Str), Cls K C ∧ PropOf K C m p f ∧ FnOk P w K mg base C8.CX0 k f fd ps sp ∧ Binds K fd ps []
theorem pe_pr {X : Cx} {k j : Nat} {C : Addr} {m : Str} {sp : Sp} {e : Expr} {ta : TE} {pos : Pos} (c : Prp X.prog X.w X.K X.mg X.base k C m sp) (hr : Room j X.A) (hk : k + 1 ≤ j) (he : PE X e ta) (hab : attributeBase e m X.env (eval e X.env) = eval e X.env := by rfl) :
    PE X (.Attribute e m pos) (tProp C sp [] C8.E0 ta) := by
  obtain ⟨p, f, fd, ps, hc, hp, F, b⟩ := c.ex
  exact pe_prop he hc hp F (hr.mono hk) b .nil C8.pass0 hab
end Lx
set_option maxRecDepth 100000
set_option maxHeartbeats 4000000
namespace SrT
open PySem PyProof.Rows SrtO
def IsTT (h : Heap) (v : Value) (x y : Str) : Prop := ∃ a o t u n, v = .ref a ∧ h.get? a = some o ∧ o.cls = .type "tuple" ∧ o.data = .seq #[.str x t, .str y u] n
theorem IsTT.keeps {h h' : Heap} {v : Value} {x y : Str} (p : IsTT h v x y) (k : ∀ b o, h.get? b = some o → o.cls = .type "tuple" → h'.get? b = some o) : IsTT h' v x y := by
  obtain ⟨a, o, t, u, n, e, ho, hc, hd⟩ := p
  exact ⟨a, o, t, u, n, e, k _ _ ho hc, hc, hd⟩
def lexT (p q : Str × Str) : Bool := if p.1 = q.1 then decide (p.2.cps.toList < q.2.cps.toList) else decide (p.1.cps.toList < q.1.cps.toList)
theorem str_of {a b : Str} (h : a.cps.toList = b.cps.toList) : a = b := TL.ext_tl h
theorem tri {a b : Str} (h1 : ¬ a.cps.toList < b.cps.toList) (h2 : ¬ b.cps.toList < a.cps.toList) : a = b :=
  str_of (List.le_antisymm (List.not_lt.mp h2) (List.not_lt.mp h1))
theorem lexT_no {p q : Str × Str} : lexT p q = false ↔ q.1.cps.toList < p.1.cps.toList ∨ (p.1 = q.1 ∧ ¬ p.2.cps.toList < q.2.cps.toList) := by
  unfold lexT
  by_cases e : p.1 = q.1
  · rw [if_pos e, decide_eq_false_iff_not]
    constructor
    · intro h; exact .inr ⟨e, h⟩
    · rintro (h | h)
      · rw [e] at h; exact absurd h (List.lt_irrefl _)
      · exact h.2
  · rw [if_neg e, decide_eq_false_iff_not]
    constructor
    · intro h
      by_cases c : q.1.cps.toList < p.1.cps.toList
      · exact .inl c
      · exact absurd (tri h c) e
    · rintro (h | h)
      · exact List.lt_asymm h
      · exact absurd h.1 e
theorem lexT_yes {p q : Str × Str} : lexT p q = true ↔ p.1.cps.toList < q.1.cps.toList ∨ (p.1 = q.1 ∧ p.2.cps.toList < q.2.cps.toList) := by
  unfold lexT
  by_cases e : p.1 = q.1
  · rw [if_pos e, decide_eq_true_eq]
    constructor
    · intro h; exact .inr ⟨e, h⟩
    · rintro (h | h)
      · rw [e] at h; exact absurd h (List.lt_irrefl _)
      · exact h.2
  · rw [if_neg e, decide_eq_true_eq]
    constructor
    · intro h; exact .inl h
    · rintro (h | h)
      · exact h
      · exact absurd h.1 e
theorem swo_T {α : Type} (k : α → Str × Str) : Swo fun v u => lexT (k v) (k u) := by
  refine ⟨fun x y h => ?_, fun x y z h1 h2 => ?_⟩
  · rcases lexT_yes.mp h with a | ⟨a, b⟩
    · exact lexT_no.mpr (.inl a)
    · exact lexT_no.mpr (.inr ⟨a.symm, List.lt_asymm b⟩)
  · refine lexT_no.mpr ?_
    rcases lexT_no.mp h1 with a | ⟨a, b⟩ <;> rcases lexT_no.mp h2 with c | ⟨c, d⟩
    · exact .inl (List.lt_trans a c)
    · rw [← c] at a; exact .inl a
    · rw [a] at c; exact .inl c
    · refine .inr ⟨c.trans a, fun hz => ?_⟩
      by_cases e : (k y).2.cps.toList < (k x).2.cps.toList
      · exact b e
      · by_cases g : (k z).2 = (k y).2
        · rw [g] at hz; exact b hz
        · by_cases i : (k y).2.cps.toList < (k z).2.cps.toList
          · exact b (List.lt_trans i hz)
          · exact g (tri d i)
section
variable {prog : Program} {w : World} {A : Around} {E : Value → Shared → Prop} {s : Shared}
theorem tt_cmp {vs : List Value} {k : Value → Str × Str} (hp : ∀ v ∈ vs, IsTT s.heap v (k v).1 (k v).2) : Cmp prog w A s (tuples' true) (fun p => p.1 ∈ vs) (lt2 fun v u => lexT (k v) (k u)) := by
  intro p q hm hm'
  have h1 := hp _ hm
  have h2 := hp _ hm'
  show wpAny (model prog w) A (keyLt' (tuples' true) p.1 q.1) (fun r s' => s' = s ∧ r = lexT (k p.1) (k q.1)) (fun _ _ => False) s
  unfold lexT
  generalize (k p.1).1 = x at h1 ⊢
  generalize (k p.1).2 = y at h1 ⊢
  generalize (k q.1).1 = x' at h2 ⊢
  generalize (k q.1).2 = y' at h2 ⊢
  obtain ⟨a, o, t, u, n, e, ho, hc, hd⟩ := h1
  obtain ⟨a', o', t', u', n', e', ho', hc', hd'⟩ := h2
  rw [e, e']
  refine PySem.W.kat_lt ho hd ho' hd' ?_
  show PySem.W.KatLex prog w A true (decide (2 < 2)) _ [(.str x t, .str x' t'), (.str y u, .str y' u')] 0 s
  refine PySem.W.kat_cons (SeqAt.EqAt.str_str x t x' t' prog w _ _ ?_)
  refine PySem.W.kat_go (fun e1 => ?_) (fun e1 => ?_)
  · have ex : x = x' := by simpa using e1
    refine PySem.W.kat_yes (PySem.W.kat_cons (SeqAt.EqAt.str_str y u y' u' prog w _ _ ?_))
    refine PySem.W.kat_go (fun e2 => ?_) (fun e2 => ?_)
    · have ey : y = y' := by simpa using e2
      have e3 : (if x = x' then decide (y.cps.toList < y'.cps.toList) else decide (x.cps.toList < x'.cps.toList)) = false := by
        rw [if_pos ex, ey]
        exact decide_eq_false (List.lt_irrefl _)
      exact PySem.W.kat_yes (PySem.W.kat_nil ⟨rfl, e3.symm⟩)
    · have e3 : (if x = x' then decide (y.cps.toList < y'.cps.toList) else decide (x.cps.toList < x'.cps.toList)) = decide (y.cps.toList < y'.cps.toList) := if_pos ex
      refine PySem.W.kat_no (PySem.W.kat_one _ _ (PyProof.Rows.lt_str ?_))
      exact (show s = s ∧ decide (y.cps.toList < y'.cps.toList) = (if x = x' then decide (y.cps.toList < y'.cps.toList) else decide (x.cps.toList < x'.cps.toList)) from ⟨rfl, e3.symm⟩)
  · have ex : ¬ x = x' := by simpa using e1
    have e3 : (if x = x' then decide (y.cps.toList < y'.cps.toList) else decide (x.cps.toList < x'.cps.toList)) = decide (x.cps.toList < x'.cps.toList) := if_neg ex
    exact PySem.W.kat_no (oneLt_str ⟨rfl, e3.symm⟩)
theorem firsts_T {h : Heap} : ∀ {vs : List Value}, (∀ v ∈ vs, ∃ x y, IsTT h v x y) → ∃ fs : List Value, PySem.W.KatTups h vs fs ∧ fs.length = vs.length ∧ ∀ f ∈ fs, ∃ x t, f = Value.str x t
  | [], _ => ⟨[], PySem.W.KatTups.nil, rfl, fun _ hm => by simp at hm⟩
  | v :: vs, hp => by
    obtain ⟨fs, h1, h2, h3⟩ := firsts_T (vs := vs) fun v' hm => hp v' (List.mem_cons_of_mem _ hm)
    obtain ⟨x, y, a, o, t, u, n, e, ho, hc, hd⟩ := hp v (List.mem_cons_self ..)
    subst e
    refine ⟨.str x t :: fs, PySem.W.KatTups.cons ho hc hd rfl h1, by rw [List.length_cons, List.length_cons, h2], fun f hm => ?_⟩
    rcases List.mem_cons.mp hm with rfl | hm
    · exact ⟨x, t, rfl⟩
    · exact h3 f hm
theorem tt_sortable {a : Addr} {vs : List Value} {k : Value → Str × Str} (h0 : 0 < vs.length) (hp : ∀ v ∈ vs, IsTT s.heap v (k v).1 (k v).2) (ha : ∀ o, s.heap.get? a = some o → o.cls ≠ .type "tuple") : SortableO prog w A s a vs fun v u => lexT (k v) (k u) := by
  intro h' keep
  have hp' : ∀ v ∈ vs, IsTT h' v (k v).1 (k v).2 := fun v hm => (hp v hm).keeps fun b o e c => keep b o (fun z => by subst z; exact ha o e c) e
  obtain ⟨fs, h1, h2, h3⟩ := firsts_T fun v hm => ⟨_, _, hp' v hm⟩
  refine ⟨tuples' true, fun Q E hq => ?_, tt_cmp hp'⟩
  refine PySem.W.kat_kind (T := .type "str") h1 (by omega) (fun f hm => ?_) (by rfl) ?_
  · obtain ⟨x, t, rfl⟩ := h3 f hm
    exact PySem.W.Looks.now
  · have e : (Value.type "str" != Value.type "tuple") = true := by first | decide +kernel | rfl | decide
    rw [e]
    exact hq
theorem collect_tup {l : Addr} {vs : List Value} {Q : List Value → Shared → Prop} (hl : s.heap.IsTuple l vs.toArray)
    (h : Q vs { s with heap := (s.heap.push (seqObj "list" #[] 0)).update s.heap.objs.size (Obj.mapSeq (· ++ vs.toArray)) }) (hsz : vs.length ≤ sizeLine) :
    wpAny (model prog w) A (collect (.ref l)) Q E s := by
  obtain ⟨o, ho, hc, n, hd⟩ := id hl
  unfold collect
  refine wpAny_bind (wpAny_runValue (codeAny_builtin entry_proto_collect' ?_))
  show wpAny _ _ (do again (.builtin "list.__iadd__" ⟨[← newList [], .ref l], []⟩)) _ _ s
  refine wpAny_bind (wpAny_newList (wpAny_pure ⟨Code.quiet_builtin _ (by decide +kernel), codeAny_builtin entry_list_iadd' ?_⟩))
  show wpAny _ _ (Builtin.List.listExtendWith (.ref s.heap.objs.size) (.ref l) (.ref s.heap.objs.size)) _ _ { s with heap := s.heap.push (seqObj "list" #[] 0) }
  unfold Builtin.List.listExtendWith
  have ho' : (s.heap.push (seqObj "list" #[] 0)).get? l = some o := Heap.get?_push_of_some _ ho
  refine wpAny_bind (wpAny_typeOf (T := "tuple") ⟨o, ho', hc⟩ ?_)
  have ht : (Value.type "tuple" == Value.type "tuple") = true := by rfl
  rw [if_pos (by rw [ht]; simp)]
  refine wpAny_bind (listItems_at ho' hd ?_)
  refine wpAny_bind (listItems_at (xs := #[]) (n := 0) (Heap.get?_push_size _ rfl) rfl ?_)
  rw [if_neg (by simp)]
  refine wpAny_bind (listUpdate_at (xs := #[]) (n := 0) (Heap.get?_push_size _ rfl) rfl ?_ (Nat.zero_le _) (by show (#[] ++ vs.toArray).size ≤ sizeLine + 1; simp only [Array.size_append, List.size_toArray, List.length_nil]; omega))
  refine wpAny_pure ?_
  show wpAny (model prog w) A (do
      let o ← load s.heap.objs.size
      match o.data with
      | .seq xs _ => pure xs.toList
      | _ => unsupported "internal:collect") Q E { s with heap := (s.heap.push (seqObj "list" #[] 0)).update s.heap.objs.size (Obj.mapSeq (· ++ vs.toArray)) }
  refine wpAny_bind (wpAny_load (get?_update_seq (Heap.get?_push_size _ rfl) _) ?_)
  show wpAny _ _ (pure ((#[] : Array Value) ++ vs.toArray).toList) Q E _
  rw [show ((#[] : Array Value) ++ vs.toArray).toList = vs by simp]
  exact wpAny_pure h
theorem sorted_col {x : Value} {vs : List Value} {ltv : Value → Value → Bool} {Q : Value → Shared → Prop} (O : Swo ltv)
    (hcol : ∀ (A : Around) (E : Value → Shared → Prop) (Q : List Value → Shared → Prop), Q vs { s with heap := (s.heap.push (seqObj "list" #[] 0)).update s.heap.objs.size (Obj.mapSeq (· ++ vs.toArray)) } → wpAny (model prog w) A (collect x) Q E s) (hz : vs.length ≤ sizeLine)
    (hS : 2 ≤ vs.length → ∀ (h₁ : Heap) (a : Addr), h₁.get? a = some (seqObj "list" vs.toArray 0) → (∀ b o, s.heap.get? b = some o → b ≠ a ∧ h₁.get? b = some o) → SortableO prog w A.in1.in1 { s with heap := h₁ } a vs ltv)
    (h : ∀ out : List Value, Srtd ltv out → Stb ltv out vs → Q (.ref (s.heap.objs.size + 1)) { s with heap := sortedAll s.heap vs out.toArray }) :
    wpAny (model prog w) A (call (.builtin "sorted") [x]) Q E s := by
  refine Calls.call_function_entry kind_sorted plain_sorted entry_sorted (args_sorted1 _) ?_
  unfold Builtin.«sorted»
  refine wpAny_bind (m := checkCount "sorted" 1 1 _) (wpAny_pure ?_)
  refine wpAny_bind (hcol _ _ _ ?_)
  refine wpAny_bind (wpAny_newList ?_ hz)
  have hsz : ((s.heap.push (seqObj "list" #[] 0)).update s.heap.objs.size (Obj.mapSeq (· ++ vs.toArray))).objs.size = s.heap.objs.size + 1 := by
    rw [Heap.size_update, size_push']
  have hoL : (((s.heap.push (seqObj "list" #[] 0)).update s.heap.objs.size (Obj.mapSeq (· ++ vs.toArray))).push (seqObj "list" vs.toArray 0)).get? (s.heap.objs.size + 1) = some (seqObj "list" vs.toArray 0) := by
    rw [← hsz]; exact Heap.get?_push_size _ rfl
  have keep : ∀ b o, s.heap.get? b = some o → b ≠ s.heap.objs.size + 1 ∧ (((s.heap.push (seqObj "list" #[] 0)).update s.heap.objs.size (Obj.mapSeq (· ++ vs.toArray))).push (seqObj "list" vs.toArray 0)).get? b = some o := fun b o q => by
    have hlt : b < s.heap.objs.size := Heap.lt_size q
    refine ⟨Nat.ne_of_lt (Nat.lt_succ_of_lt hlt), Heap.get?_push_of_some _ ?_⟩
    rw [Heap.get?_update_ne _ _ _ _ (Nat.ne_of_lt hlt)]
    exact Heap.get?_push_of_some _ q
  show wpAny _ _ _ _ _ { s with heap := ((s.heap.push (seqObj "list" #[] 0)).update s.heap.objs.size (Obj.mapSeq (· ++ vs.toArray))).push (seqObj "list" vs.toArray 0) }
  rw [hsz]
  refine wpAny_bind (wpAny_holding (wpAny_call_entry slot_list_sort ⟨_, hoL, rfl⟩ entry_list_sort (list_sort_ord O hoL hz (fun h2 => hS h2 _ _ hoL keep) fun out hs hb => ⟨_, rfl, ?_⟩) (args_list_sort _)))
  exact wpAny_pure ⟨_, rfl, h out hs hb⟩
end
end SrT
namespace Lx
open PySem PySem.Spec PyProof.Rows L2
def rSortedT (K : PySem.W.Frag) : List V → Hp → VK → Prop := fun vs H Q => ∃ (a : Addr) (ps : List Addr) (k : Addr → Str × Str), vs = [V.ref a] ∧ (SqL K H a (ps.map V.ref) ∨ SqT K H a (ps.map V.ref)) ∧ (∀ t ∈ ps, H t = some (.tup [.str (k t).1, .str (k t).2])) ∧
  ∀ (qs : List Addr) p, SrtO.Srtd (fun x y => SrT.lexT (k x) (k y)) qs → qs.Perm ps → H p = none → Q (.ref p) (upd H p (.lst (qs.map V.ref)))
section
variable {X : Cx}
theorem cr_sortedT : CallR X (.builtin "sorted") (rSortedT X.K) := by
  intro pins s σ H vs us Q I r h
  obtain ⟨a, ps, k, rfl, hs, hx, q⟩ := h
  obtain ⟨u, rfl, ru⟩ := vals1 r
  obtain rfl : u = Value.ref a := ru
  have com : ∀ its : List Value, Vals (ps.map V.ref) its → its.length ≤ sizeLine → (∀ (A : Around) (E : Value → Shared → Prop) (Q : List Value → Shared → Prop), Q its { s with heap := (s.heap.push (seqObj "list" #[] 0)).update s.heap.objs.size (Obj.mapSeq (· ++ its.toArray)) } → wpAny (model X.prog X.w) A (collect (.ref a)) Q E s) →
      wpAny (model X.prog X.w) X.A (call (.builtin "sorted") [Value.ref a]) (EP X pins σ Q) X.xe s := by
    intro its rv hz hcol
    have ei : its = ps.map Value.ref := by
      clear hcol hz hx q hs
      induction ps generalizing its with
      | nil => cases rv; rfl
      | cons x l ih =>
        cases rv with
        | cons h1 h2 =>
          rw [List.map_cons, ← ih _ h2]
          congr 1
    subst ei
    have hp : ∀ v ∈ ps.map Value.ref, SrT.IsTT s.heap v (match v with | .ref t => k t | _ => ("", "")).1 (match v with | .ref t => k t | _ => ("", "")).2 := by
      intro v hv
      obtain ⟨t, ht, rfl⟩ := List.mem_map.mp hv
      obtain ⟨_, its2, r2, o, ho, hc, n, hd⟩ := I.hok _ _ (hx t ht)
      obtain ⟨u1, u2, rfl, ri, rj⟩ := vals2 r2
      obtain ⟨t1, rfl⟩ := ri
      obtain ⟨t2, rfl⟩ := rj
      exact ⟨t, o, t1, t2, n, rfl, ho, hc, hd⟩
    refine SrT.sorted_col (SrT.swo_T fun v : Value => match v with | .ref t => k t | _ => ("", "")) hcol hz (fun h2 h₁ b hb kk => ?_) fun out h1 h2 => ?_
    · refine SrT.tt_sortable (s := { s with heap := h₁ }) (by omega) (fun v hm => (hp v hm).keeps fun b o e _ => (kk b o e).2) fun o e => ?_
      have e' : some o = some (seqObj "list" (ps.map Value.ref).toArray 0) := e.symm.trans hb
      cases e'
      intro c
      exact absurd (Value.type.inj c) (by decide)
    · obtain ⟨qs, rfl⟩ : ∃ qs : List Addr, out = qs.map Value.ref := by
        have hm : ∀ v ∈ out, ∃ t, v = Value.ref t := fun v hv => by
          obtain ⟨t, _, e⟩ := List.mem_map.mp (h2.perm.mem_iff.mp hv)
          exact ⟨t, e.symm⟩
        clear h1 h2
        induction out with
        | nil => exact ⟨[], rfl⟩
        | cons v r ih =>
          obtain ⟨t, rfl⟩ := hm v List.mem_cons_self
          obtain ⟨qs, rfl⟩ := ih fun v hv => hm v (List.mem_cons_of_mem _ hv)
          exact ⟨t :: qs, rfl⟩
      have perm : qs.Perm ps := by
        have h3 := h2.perm.map (fun v : Value => match v with | .ref t => t | _ => 0)
        rw [List.map_map, List.map_map] at h3
        have ef : ((fun v : Value => match v with | .ref t => t | _ => 0) ∘ Value.ref) = id := by funext t; rfl
        rw [ef, List.map_id, List.map_id] at h3
        exact h3
      have srt : SrtO.Srtd (fun x y => SrT.lexT (k x) (k y)) qs := List.pairwise_map.mp h1
      obtain ⟨n, hn⟩ := PyProof.Rows.sortedAll_at s.heap (ps.map Value.ref) (qs.map Value.ref).toArray
      have hd : s.heap.objs.size ≤ s.heap.objs.size + 1 := Nat.le_succ _
      have rq : Vals (qs.map V.ref) (qs.map Value.ref) := by
        clear h1 h2 perm srt hn
        induction qs with
        | nil => exact .nil
        | cons x l ih => exact .cons rfl ih
      refine ⟨.ref (s.heap.objs.size + 1), upd H (s.heap.objs.size + 1) (.lst (qs.map V.ref)), I.laid (t' := s.toks) (fun b o e => PyProof.Rows.sortedAll_old e) hd ⟨?_, _, n, rq, hn⟩, rfl, q qs _ srt perm (I.hok.fresh hd)⟩
      rw [List.length_map, perm.length_eq, ← List.length_map (f := Value.ref)]
      exact hz
  rcases hs with hs | hs
  · obtain ⟨its, rv, hl, hz⟩ := I.list hs
    exact com its rv (by rw [← rv.length]; exact hz) fun A E Q h => collect_list hl.isList h (by rw [← rv.length]; exact hz)
  · obtain ⟨its, rv, hl, hz⟩ := I.tuple hs
    exact com its rv (by rw [← rv.length]; exact hz) fun A E Q h => SrT.collect_tup (show s.heap.IsTuple a its.toArray from hl) h (by rw [← rv.length]; exact hz)
def iSeq (K : PySem.W.Frag) (tl : TE) : TI := fun σ H R => iList K tl σ H R ∨ iTup K tl σ H R
theorem pi_seq {tg l : Expr} {tl : TE} (hl : PE X l tl) : PI X tg l (iSeq X.K tl) := by
  refine ⟨fun pins s σ H R I h => ?_⟩
  rcases h with h | h
  · exact (pi_list hl).run pins s σ H R I h
  · exact (pi_tup hl).run pins s σ H R I h
theorem ty_list {K : PySem.W.Frag} {H : Hp} {a : Addr} {xs : List V} (h : SqL K H a xs) : TyX K H (.ref a) (.type "list") := by
  rcases h with (h | ⟨o, h⟩) | ⟨o, its, n, hk, hc, _⟩
  · exact .base (.lst h)
  · exact .base (.frz h)
  · exact .kList hk hc
theorem ty_tup {K : PySem.W.Frag} {H : Hp} {a : Addr} {xs : List V} (h : SqT K H a xs) : TyX K H (.ref a) (.type "tuple") := by
  rcases h with (h | ⟨o, h⟩) | ⟨o, its, n, hk, hc, _⟩
  · exact .base (.tup h)
  · exact .fTuple h
  · exact .kTuple hk hc
theorem same_tup {K : PySem.W.Frag} {H H' : Hp} {a : Addr} {xs : List V} (e : Same H H') (h : SqT K H a xs) : SqT K H' a xs := by
  rcases h with (h | ⟨o, h⟩) | h
  · exact .inl (.inl (e _ _ h))
  · exact .inl (.inr ⟨o, e _ _ h⟩)
  · exact .inr h
def Sq (K : PySem.W.Frag) (H : Hp) (a : Addr) (xs : List V) : Prop := SqL K H a xs ∨ SqT K H a xs
theorem Sq.same {K : PySem.W.Frag} {H H' : Hp} {a : Addr} {xs : List V} (h : Sq K H a xs) (e : Same H H') : Sq K H' a xs := h.elim (fun h => .inl (e.seq h)) (fun h => .inr (same_tup e h))
end
end Lx
set_option maxRecDepth 100000
set_option maxHeartbeats 4000000
namespace Lx
open PySem PySem.Spec PyProof.Rows L2
section
variable {X : Cx} {k j : Nat} {C : Addr} {sp : Sp}
theorem run_sub {CX : CXT} {f : Addr} {fd : FuncData} {ps : List Str} {A : Around} {pins : List (Addr × Obj)} {σ : L2.St} {H : Hp} {s : Shared} {Q : VK} {E : XK} {us : List Value} {vs : List V} (F : FnOk X.prog X.w X.K X.mg X.base CX k f fd ps sp) (sb : Sub X k A) (hb : Binds X.K fd ps [])
    (hx : Passes CX X E) (I : Inv X pins σ H s) (r : Vals vs us) (h : sp vs H Q E) : wpAny (model X.prog X.w) A (call (.ref f) us) (EP X pins σ Q) X.xe s := by
  have e0 : Env0 X.prog X.w X.K X.mg X.base A X.stack s H := by
    have e := I.env0
    exact ⟨by rw [sb.fr]; exact e.frames, e.mod, e.bs, e.bsz, e.funs, e.frf, e.hok, e.bare⟩
  have hl : (us ++ []).length = ps.length := by rw [List.append_nil, ← r.length]; exact F.len _ _ _ _ h
  refine wpAny_call (codeAny_mono (F.run A X.stack s H ⟨us, []⟩ us vs Q E sb.room e0 (by have := hb s us I.kIn hl; simpa using this) r h) fun r s' hq => ?_)
  cases r with
  | error e => exact hx pins σ H s e s' I hq
  | ok fl =>
    cases fl with
    | ret w => exact I.after hq
    | next => exact False.elim hq
    | brk => exact False.elim hq
    | cont => exact False.elim hq
theorem vals_nil {ds : List Value} (h : Vals [] ds) : ds = [] := by cases h; rfl
theorem sub_in2 {A : Around} (hr : Room j A) (hk : k + 2 ≤ j) (hf : A.frames = X.A.frames) : Sub X k A.in1.in1 := by
  have s : Sub X (k + 2) A := ⟨hr.mono hk, hf⟩
  exact s.in1.in1
def rStrO (C : Addr) (sp : Sp) : List V → Hp → VK → Prop := fun xs H Q => ∃ a dx fs, xs = [.ref a] ∧ H a = some (.ins C dx fs) ∧ sp [.ref a] H (fun v H' => ∃ z, v = .str z ∧ Q (.str z) H') C8.E0
theorem call_str_own (c : C8.Met X.prog X.w X.K X.mg X.base k C "__str__" sp []) (hr : Room j X.A) (hk : k + 2 ≤ j) : CallR X (.type "str") (rStrO C sp) := by
  intro pins s σ H xs us Q I rv h
  obtain ⟨a, dx, fs, rfl, ha, hsp⟩ := h
  obtain ⟨f, fd, ps, ds, _, me, F, b, d⟩ := c.ex
  obtain rfl := vals_nil d
  cases rv with
  | cons r rr =>
    cases rr
    cases r
    obtain ⟨mA, J, _⟩ := ins_get I.hok ha
    obtain ⟨od, J, _⟩ := J.look
    have sb : Sub X k X.A.in1.in1 := sub_in2 hr hk rfl
    refine PySem.W.kso_call sb.room.units0 I.kIn J me.at_ me.fn (wpAny_mono (run_sub (vs := [.ref a]) F sb b C8.pass0 I (.cons rfl .nil) hsp) (fun u s' q => ?_) fun _ _ x => x)
    obtain ⟨v, H', I', ru, z, ez, q⟩ := q
    subst ez
    obtain ⟨t, rfl⟩ := ru
    exact ⟨.str z, H', I', ⟨t, rfl⟩, q⟩
def rLenO (C : Addr) (sp : Sp) : List V → Hp → VK → Prop := fun xs H Q => ∃ a dx fs, xs = [.ref a] ∧ H a = some (.ins C dx fs) ∧ sp [.ref a] H (fun v H' => ∃ n : Int, v = .int n ∧ 0 ≤ n ∧ n < 2 ^ 63 ∧ Q (.int n) H') C8.E0
theorem call_len_own (c : C8.Met X.prog X.w X.K X.mg X.base k C "__len__" sp []) (hr : Room j X.A) (hk : k + 2 ≤ j) : CallR X (.builtin "len") (rLenO C sp) := by
  intro pins s σ H xs us Q I rv h
  obtain ⟨a, dx, fs, rfl, ha, hsp⟩ := h
  obtain ⟨f, fd, ps, ds, _, me, F, b, d⟩ := c.ex
  obtain rfl := vals_nil d
  cases rv with
  | cons r rr =>
    cases rr
    cases r
    obtain ⟨mA, J, _⟩ := ins_get I.hok ha
    obtain ⟨od, J, _⟩ := J.look
    have sb : Sub X k X.A.in1 := (show Sub X (k + 1) X.A from ⟨hr.mono (by omega), rfl⟩).in1
    obtain ⟨m, hF⟩ := I.fr
    refine PySem.W.len_K hF I.ok.mod.kin J me.at_ me.fn (wpAny_mono (run_sub (vs := [.ref a]) F sb b C8.pass0 I (.cons rfl .nil) hsp) (fun u s' q => ?_) fun _ _ x => x)
    obtain ⟨v, H', I', ru, z, ez, h0, h1, q⟩ := q
    subst ez
    obtain ⟨t, rfl⟩ := ru
    exact ⟨⟨h0, h1⟩, .int z, H', I'.tok _, ⟨_, rfl⟩, q⟩
def rEqO (C : Addr) (sp : Sp) : R2 := fun x y H Q => ∃ a b dx dy fs gs, x = .ref a ∧ y = .ref b ∧ H a = some (.ins C dx fs) ∧ H b = some (.ins C dy gs) ∧ sp [.ref a, .ref b] H (fun v H' => ∃ t : Bool, v = .bl t ∧ Q (.bl t) H') C8.E0
theorem op_eqOwn (c : C8.Met X.prog X.w X.K X.mg X.base k C "__eq__" sp []) (hr : Room j X.A) (hk : k ≤ j) : OpR X (compareOp .Eq) (rEqO C sp) := by
  intro pins s σ H x y v u Q I rx ry h
  obtain ⟨a, b, dx, dy, fs, gs, rfl, rfl, ha, hb, hsp⟩ := h
  obtain ⟨f, fd, ps, ds, _, me, F, bn, d⟩ := c.ex
  obtain rfl := vals_nil d
  cases rx
  cases ry
  obtain ⟨mA, J, _⟩ := ins_get I.hok ha
  obtain ⟨mB, J', _⟩ := ins_get I.hok hb
  obtain ⟨od, J, _⟩ := J.look
  obtain ⟨od', J', _⟩ := J'.look
  obtain ⟨m, hF⟩ := I.fr
  have sb : Sub X k X.A := ⟨hr.mono hk, rfl⟩
  show wpAny (model X.prog X.w) X.A (richCompare .Eq (.ref a) (.ref b)) (EP X pins σ Q) X.xe s
  refine PySem.W.cmp_K (op := .Eq) (tb := .ref C) sb.room.units0 hF I.ok.mod.kin J J'.type (by simp [PySem.W.notFirst]) me.at_ me.fn ?_
  refine wpAny_mono (run_sub (vs := [.ref a, .ref b]) F sb bn C8.pass0 I (.cons rfl (.cons rfl .nil)) hsp) (fun u s' q => ?_) fun _ _ x => x
  obtain ⟨v, H', I', ru, t, ez, q⟩ := q
  subst ez
  cases (show u = Value.bool t from ru)
  exact ⟨.bl t, H', I', rfl, q⟩
end
structure NeT (K : PySem.W.Frag) (C : Addr) : Prop where
  mro : PySem.W.mroIn K C (.type "object") = some true
  ne : PySem.W.findIn K (.ref C) "__ne__" = some (some (.builtin "object.__ne__"))
section
open PySem.W
variable {M : Model} {prog : Program} {w : World} {A : Around} {E : Value → Shared → Prop} {s : Shared} {K : PySem.W.Frag} {x C f : Addr} {ox : Obj} {od : Option Obj} {b tb : Value}
theorem ifBound_bltn {name : Str} {id : String} {args : List Value} {Q : Option Value → Shared → Prop} (X : K.In s.heap) (I : PySem.W.InstAt s.heap x ox C od) (hs : PySem.W.findIn K (.ref C) name = some (some (.builtin id)))
    (hb : ∀ self, bindSpecial (.builtin id) self = pure (.builtin id, [self])) (h : wpAny M A (call (.builtin id) (.ref x :: args)) (fun v => Q (some v)) E s) : wpAny M A (callSpecialIfBound? (.ref x) name args) Q E s := by
  simp only [callSpecialIfBound?, bindSpecialIfBound?]
  refine wpAny_holding (wpAny_bind (wpAny_bind (wpAny_bind (I.type.here ((PySem.W.looks_findIn X hs).here ?_)))))
  refine wpAny_bind (wpAny_askSetting (wpAny_ite ?_))
  have fin : wpAny M A (call (.builtin id) ([.ref x] ++ args) >>= fun v => pure (some v)) Q E s := wpAny_bind (wpAny_mono h (fun v s' h' => wpAny_pure h') fun _ _ h' => h')
  split
  · exact wpAny_bind (wpAny_of_eq (hb _) (wpAny_pure (by exact fin)))
  · exact wpAny_tryCatch (wpAny_bind (wpAny_of_eq (hb _) (wpAny_pure (by exact fin))))
theorem ne_tree {Q : Fin → Shared → Prop} (hu : A.units < cLine) (X : K.In s.heap) (I : PySem.W.InstAt s.heap x ox C od) (he : PySem.W.findIn K (.ref C) "__eq__" = some (some (.ref f))) (hf : PySem.W.isFn K (.ref f) = true)
    (h : wpAny M A (call (.ref f) [.ref x, b]) (fun v s' => ∃ t : Bool, v = .bool t ∧ Q (.done (.ret (.bool (!t)))) s') E s) : wpAny M A (Builtin.«object.__ne__» ⟨[.ref x, b], []⟩) Q E s := by
  unfold Builtin.«object.__ne__»
  refine wpAny_bind (m := slotArgs "__ne__" 1 _) (wpAny_pure ?_)
  refine wpAny_bind (m := cRoomFor _ _) (wpAny_cRoomFor hu ?_)
  refine wpAny_bind (m := callSpecialIfBound? (.ref x) (Str.ofString "__eq__") _) (ifBound_K X I he hf (wpAny_mono h (fun r s' hr => ?_) fun _ _ y => y))
  obtain ⟨t, rfl, q⟩ := hr
  exact wpAny_bind (wpAny_truthy_bool (wpAny_pure q))
theorem cmp_neK {Q : Value → Shared → Prop} (hu : A.units < cLine) (hu1 : A.in1.units < cLine) (X : K.In s.heap) (I : PySem.W.InstAt s.heap x ox C od) (hb : Looks (model prog w) s.heap (typeOf b) tb) (hn : PySem.W.notFirst K C tb = true) (N : NeT K C)
    (he : PySem.W.findIn K (.ref C) "__eq__" = some (some (.ref f))) (hf : PySem.W.isFn K (.ref f) = true)
    (h : wpAny (model prog w) A.in1 (call (.ref f) [.ref x, b]) (fun v s' => ∃ t : Bool, v = .bool t ∧ Q (.bool (!t)) s') E s) : wpAny (model prog w) A (richCompare .NotEq (.ref x) b) Q E s := by
  have one : wpAny (model prog w) A (tryCompare (.ref x) (cmpInfo .NotEq).2.1 b) (fun r s' => ∃ v, r = some v ∧ Q v s') E s := by
    unfold tryCompare
    refine wpAny_bind (ifBound_bltn X I N.ne F.cmp_object.ne.bind ?_)
    refine wpAny_call (codeAny_call_builtin F.cmp_object.ne.plain F.cmpEntry_ne (PySem.W.check_slot F.cmpKind_ne F.cmpSplit_ne (I.type.andThen (PySem.W.looks_mroIn X N.mro)) (F.cmpArgs_ne _ _) (ne_tree hu1 X I he hf (wpAny_mono h (fun v s' hv => ?_) fun _ _ e => e))))
    obtain ⟨t, rfl, q⟩ := hv
    exact ⟨t, rfl, wpAny_pure ⟨_, rfl, q⟩⟩
  unfold richCompare
  simp only [oneThing_ref]
  refine wpAny_holding (wpAny_bind (wpAny_cRoomFor hu ?_))
  refine wpAny_bind (I.type.here (wpAny_bind (hb.here ?_)))
  split
  · rename_i q
    have e : subIn K tb (.ref C) = some false := by
      rcases Bool.or_eq_true_iff.mp hn with e | e
      · rw [beq_iff_eq.mp e] at q; simp at q
      · exact beq_iff_eq.mp e
    refine wpAny_bind ((looks_subIn X e).here ?_)
    simp only [Bool.false_eq_true, if_false]
    refine wpAny_bind (wpAny_mono one (fun r s' z => ?_) fun _ _ e => e)
    obtain ⟨v, rfl, hq⟩ := z
    exact wpAny_pure hq
  · refine wpAny_bind (wpAny_pure ?_)
    simp only [Bool.false_eq_true, if_false]
    refine wpAny_bind (wpAny_mono one (fun r s' z => ?_) fun _ _ e => e)
    obtain ⟨v, rfl, hq⟩ := z
    exact wpAny_pure hq
end
section
variable {X : Cx} {k j i : Nat} {C : Addr} {sp : Sp} {x y : Str} {dvs : List V} {p pos : Pos} {e : Expr} {es : List Expr} {t : TA}
def rNeO (C : Addr) (sp : Sp) : R2 := fun x y H Q => ∃ a b dx dy fs gs, x = .ref a ∧ y = .ref b ∧ H a = some (.ins C dx fs) ∧ H b = some (.ins C dy gs) ∧ sp [.ref a, .ref b] H (fun v H' => ∃ t : Bool, v = .bl t ∧ Q (.bl (!t)) H') C8.E0
theorem op_neOwn (c : C8.Met X.prog X.w X.K X.mg X.base k C "__eq__" sp []) (N : NeT X.K C) (hr : Room j X.A) (hk : k + 1 ≤ j) : OpR X (compareOp .NotEq) (rNeO C sp) := by
  intro pins s σ H x y v u Q I rx ry h
  obtain ⟨a, b, dx, dy, fs, gs, rfl, rfl, ha, hb, hsp⟩ := h
  obtain ⟨f, fd, ps, ds, _, me, F, bn, d⟩ := c.ex
  obtain rfl := vals_nil d
  cases rx
  cases ry
  obtain ⟨mA, J, _⟩ := ins_get I.hok ha
  obtain ⟨mB, J', _⟩ := ins_get I.hok hb
  obtain ⟨od, J, _⟩ := J.look
  obtain ⟨od', J', _⟩ := J'.look
  have sb1 : Sub X (k + 1) X.A := ⟨hr.mono hk, rfl⟩
  have sb := sb1.in1
  show wpAny (model X.prog X.w) X.A (richCompare .NotEq (.ref a) (.ref b)) (EP X pins σ Q) X.xe s
  refine cmp_neK (tb := .ref C) sb1.room.units0 sb.room.units0 I.kIn J J'.type (by simp [PySem.W.notFirst]) N me.at_ me.fn ?_
  refine wpAny_mono (run_sub (vs := [.ref a, .ref b]) F sb bn C8.pass0 I (.cons rfl (.cons rfl .nil)) hsp) (fun u s' q => ?_) fun _ _ x => x
  obtain ⟨v, H', I', ru, t, ez, q⟩ := q
  subst ez
  cases (show u = Value.bool t from ru)
  exact ⟨t, rfl, .bl (!t), H', I', rfl, q⟩
def tMakeL (i : Nat) (C : Addr) (sp : Sp) (dvs : List V) (t : TA) : TE := fun σ H Q => σ[i]? = some (some (.ref C)) ∧ tMake C sp dvs C8.E0 t σ H Q
theorem pe_mkL (i : Nat) (c : C8.Mak X.prog X.w X.K X.mg X.base k y C sp dvs) (hr : Room j X.A) (hk : k + 1 ≤ j) (ha : PA X (e :: es) t) (hN : X.N[i]? = some x := by rfl) (hv : Vis X.env.scope x := by first | exact Or.inl rfl | exact Or.inr (Or.inl rfl) | exact Or.inr (Or.inr rfl))
    (hdb : (x == ("__debug__" : Str)) = false := by decide) (hcd : (x == ("__classdict__" : Str)) = false := by decide)
    (he : starEach (e :: es) X.env = (false, eval e X.env) :: starEach es X.env := by rfl) (hpl : (backTo pos (starEach es X.env)).any (·.1) = false := by rfl) : PE X (.Call (.Name x p) (e :: es) [] pos) (tMakeL i C sp dvs t) := by
  obtain ⟨f, fd, ps, ds, M, F, hm, b, d⟩ := c.ex
  refine ⟨fun pins s σ H Q I h => ?_⟩
  obtain ⟨hs, ht⟩ := h
  refine wpAny_Call_Name_kw (thn ((pe_var (pos := p) hN hv hdb hcd).run pins s σ H (fun v H1 => v = .ref C ∧ H1 = H) I ⟨.ref C, hs, rfl, rfl⟩) fun u s1 ⟨v, H1, I1, r1, q1⟩ => ?_)
  obtain ⟨rfl, rfl⟩ := q1
  cases r1
  refine PySem.W.callWith_K (h₀ := X.base) I.ok.mod.kin M.kp (thn (ha.run pos pins s1 σ _ _ I1 ht) fun us s2 ⟨vs, H2, I2, r, q⟩ => ⟨I2.kIn, ?_⟩) he hpl
  exact run_make M F (hr.mono hk) b d C8.pass0 I2 r q
theorem pe_mkL0 (i : Nat) (c : C8.Mak X.prog X.w X.K X.mg X.base k y C sp dvs) (hr : Room j X.A) (hk : k + 1 ≤ j) (hN : X.N[i]? = some x := by rfl) (hv : Vis X.env.scope x := by first | exact Or.inl rfl | exact Or.inr (Or.inl rfl) | exact Or.inr (Or.inr rfl))
    (hdb : (x == ("__debug__" : Str)) = false := by decide) (hcd : (x == ("__classdict__" : Str)) = false := by decide) : PE X (.Call (.Name x p) [] [] pos) (tMakeL i C sp dvs tNil) := by
  obtain ⟨f, fd, ps, ds, M, F, hm, b, d⟩ := c.ex
  refine ⟨fun pins s σ H Q I h => ?_⟩
  obtain ⟨hs, ht⟩ := h
  refine wpAny_Call_Name_kw (thn ((pe_var (pos := p) hN hv hdb hcd).run pins s σ H (fun v H1 => v = .ref C ∧ H1 = H) I ⟨.ref C, hs, rfl, rfl⟩) fun u s1 ⟨v, H1, I1, r1, q1⟩ => ?_)
  obtain ⟨rfl, rfl⟩ := q1
  cases r1
  exact PySem.W.callWith_K0 I1.kIn M.kp (run_make (us := []) M F (hr.mono hk) b d C8.pass0 I1 .nil ht)
structure CMt (P : Program) (w : World) (K : PySem.W.Frag) (mg : Str → Option Value) (base : Heap) (k : Nat) (x : Str) (C : Addr) (m : Str) (sp : Sp) : Prop where
  ex : ∃ (mc : Value) (p g : Addr) (fd : FuncData) (ps : List Str), mg x = some (.ref C) ∧ ClX.CRead K C mc ∧ ClX.CMet K C mc m p g ∧ FnOk P w K mg base C8.CX0 k g fd ps sp ∧ Binds K fd ps []
theorem pe_cm {m : Str} {apos : Pos} {pl : Sem Bool} (c : CMt X.prog X.w X.K X.mg X.base k x C m sp) (hr : Room j X.A) (hk : k ≤ j) (hg : Gl X x) (ha : PA X (e :: es) t) (hdb : (x == ("__debug__" : Str)) = false := by decide)
    (hst : starEach (e :: es) X.env = (false, eval e X.env) :: starEach es X.env := by rfl) (hpl : (backTo pos (starEach es X.env)).any (·.1) = false := by rfl)
    (ht : eval (.Call (.Attribute (.Name x p) m apos) (e :: es) [] pos) X.env = (do
      let ov ← eval (.Name x p) X.env
      standAt apos.atName
      let (f, first) ← holding [ov] (getMethod ov m pl)
      callWith pos f first (backTo pos (starEach (e :: es) X.env)) (backToKw pos (keywordEach [] X.env))) := by rfl) :
    PE X (.Call (.Attribute (.Name x p) m apos) (e :: es) [] pos) (ClX.tCMeth C sp C8.E0 (tC (.ref C)) t) := by
  obtain ⟨mc, q, g, fd, ps, hm, r, cm, F, b⟩ := c.ex
  exact ClX.pe_cmeth (pe_glob (v := .ref C) hg hm rfl hdb) r cm (F.raw b .nil |>.imp fun vs H Q E h => by rw [List.append_nil]; exact h) (hr.mono hk) C8.pass0 ha hst hpl ht
end
structure IsT (K : PySem.W.Frag) (C : Addr) : Prop where
  cl : Cls K C
  ha : PySem.W.findIn K (.ref C) "__class__" = some (some (.builtin "object.__class__"))
  hn : PySem.W.specialIn K (.builtin "object.__class__") "__get__" = some (some (.builtin "getset_descriptor.__get__"))
  ht : PySem.W.takesIn K (.builtin "object.__class__") = some true
  hm : PySem.W.mroIn K C (.type "object") = some true
theorem IsT.ty {K : PySem.W.Frag} {C a dx : Addr} {H : Hp} {fs : List (Str × V)} (I : IsT K C) (e : H a = some (.ins C dx fs)) : TyX K H (.ref a) (.ref C) := .base (.ins e I.cl I.ha I.hn I.ht I.hm)
theorem IsT.one {K : PySem.W.Frag} {C : Addr} (_ : IsT K C) : PySem.W.kitOne K (.ref C) (.ref C) = some true := by
  unfold PySem.W.kitOne
  rw [if_pos (beq_self_eq_true _)]
def tJn (ts : List TE) : TE := fun σ H Q => tJs ts Str.empty σ H fun out H1 => Q (.str out) H1
theorem pe_jn {X : Cx} {v1 v2 : Expr} {rest : List Expr} {ts : List TE} {pos : Pos} (h : PJ X (v1 :: v2 :: rest) ts) : PE X (.JoinedStr (v1 :: v2 :: rest) pos) (tJn ts) := pe_joined h
end Lx
set_option maxRecDepth 100000
set_option maxHeartbeats 4000000
namespace Lx
open PySem PySem.Spec PyProof.Rows L2
def rNeL (K : PySem.W.Frag) : R2 := fun x y H Q => ∃ a b xs, x = .ref a ∧ y = .ref b ∧ SqL K H a xs ∧ SqL K H b [] ∧ Q (.bl (!decide (xs = []))) H
theorem op_neL {X : Cx} {j : Nat} (hr : Room j X.A) : OpR X (compareOp .NotEq) (rNeL X.K) := by
  intro pins s σ H x y v u Q I rx ry hq
  obtain ⟨a, b, xs, rfl, rfl, ha, hb, q⟩ := hq
  cases rx
  cases ry
  obtain ⟨its, r, e, z⟩ := I.list ha
  obtain ⟨its2, r2, e2, z2⟩ := I.list hb
  have h0 : its2 = [] := by
    have := r2.length
    exact List.eq_nil_of_length_eq_zero this.symm
  subst h0
  show wpAny (model X.prog X.w) X.A (richCompare .NotEq (.ref a) (.ref b)) (EP X pins σ Q) X.xe s
  by_cases c : xs = []
  · subst c
    have h1 : its = [] := List.eq_nil_of_length_eq_zero r.length.symm
    subst h1
    refine SeqAt.RcNeAt.lists (e := fun _ => true) e.isList e2.isList rfl hr.units0 (fun j h1 _ => absurd h1 (Nat.not_lt_zero _)) _ _ _ _ ?_
    exact ⟨.bl _, H, I, rfl, q⟩
  · have hz : (its.toArray.size != ([] : List Value).toArray.size) = true := by
      rw [List.size_toArray, ← r.length]
      cases xs with
      | nil => exact absurd rfl c
      | cons _ _ => rfl
    refine SeqAt.RcNeAt.lists_lengths e.isList e2.isList hz hr.units0 _ _ _ _ ?_
    rw [decide_eq_false c] at q
    exact ⟨.bl _, H, I, rfl, q⟩
end Lx
set_option maxRecDepth 100000
set_option maxHeartbeats 4000000
namespace ExS
open PySem PySem.Spec PyProof.Rows L2 NdefX
def spXI (C : Addr) (fld : Str) : Sp := fun vs H Q _ => ∃ (a : Addr) (v : V), vs = [.ref a, v] ∧ H a = some (exo a C none) ∧
  ∀ dx, H dx = none → dx ≠ a → Q .non (upd (upd H dx (exd dx [(fld, v)])) a (exo a C (some dx)))
theorem call_mw {X : Cx} {pins : List (Addr × Obj)} {σ : L2.St} {H : Hp} {s : Shared} {a C u : Addr} {us : List Value} {Q : Value → Shared → Prop} {E : Value → Shared → Prop} {A : Around}
    (T : OexC X.K C) (I : Inv X pins σ H s) (e : H a = some (exo a C none)) (hu : s.heap.get? u = some (PySem.W.kxs_mw "ValueError.__init__" a)) (hl : us.length ≤ sizeLine) (h : ∀ s', Inv X pins σ H s' → Q .none s') :
    wpAny (model X.prog X.w) A (call (.ref u) us) Q E s := by
  obtain ⟨nm, q, N, bs, bm, sn, sub, ab, col, dd, k0, k1, k2, k3, k5, hC, hbm⟩ := T.cls
  obtain ⟨t1, ho⟩ := exo_at I.hok e
  obtain ⟨hp, g, d, t, os⟩ := s
  have fin : ∀ h' : Heap, (∀ b o, b ≠ a → hp.get? b = some o → h'.get? b = some o) → h'.get? a = some (PySem.W.excObj C hp.objs.size none .none) → Q .none ⟨h', g, d, t, os⟩ := fun h' k hx => by
    have J := I.write (t' := t) (x := a) (e := a) (o := exo a C none) (by rw [e]; exact True.intro) (.inl rfl) k ⟨_, hx⟩ (exo_ok hx)
    have eu : upd H a (exo a C none) = H := funext fun b => by
      by_cases hb : b = a
      · rw [hb, upd_same, e]
      · rw [upd_ne hb]
    rw [eu] at J
    exact h _ J
  refine wpAny_call (codeAny_of_tree ?_)
  show wpAny _ A.in1 (callAny (.ref u) ⟨us, []⟩) _ _ _
  simp only [callAny]
  refine wpAny_bind (wpAny_load hu ?_)
  simp only [PySem.W.kxs_mw, show (Value.type "method-wrapper" == Value.type "method" || Value.type "method-wrapper" == Value.type "builtin_function_or_method" || Value.type "method-wrapper" == Value.type "method-wrapper") = true by decide, if_true]
  refine PySem.W.KFB.if_so (by decide) ?_
  refine wpAny_bind (PySem.W.check_bound_init F.excBase_ValueError.toExcCallFacts (I.kIn _ _ hC) ho rfl ?_)
  refine wpAny_bind (wpAny_pure (wpAny_pure ?_))
  refine ⟨plainId_quiet F.excBase_ValueError.init.plain _, codeAny_builtin F.excBase_ValueError.initEntry ?_⟩
  exact PySem.W.exc_init_tree (cls := .ref C) (t0 := t1) (dv := none) (c2 := .none) (c3 := .none) (b4 := .bool false) ho hl fun h' k hx _ => fin h' k hx
def Body2 (self word fld text : Str) (body : List Stmt) : Prop := ∃ (p0 p1 p2 p3 p4 p5 p6 p7 p8 p9 p10 : Pos) (j : Nat), body = [.Expr (.Call (.Attribute (.Call (.Name "super" p0) [] [] p1) "__init__" p2) [.Constant (.str text) j p3, .Name word p4] [] p5) p6, .Assign [.Attribute (.Name self p7) fld p8] (.Name word p9) p10] ∧ (p2.endLine == p5.line) = true
theorem eval_sup {o : Expr} {name : Str} {apos pos : Pos} {e1 e2 : Expr} {env : Env} (hl : (apos.endLine == pos.line) = true) (h1 : starEach [e1, e2] env = [(false, eval e1 env), (false, eval e2 env)]) :
    eval (.Call (.Attribute o name apos) [e1, e2] [] pos) env = (do
      let ov ← attributeBase o name env (eval o env)
      standAt apos.atName
      let (f, first) ← holding [ov] (getMethod ov name (do return (← importBound o env).getD true))
      callWith pos f first (backTo pos (starEach [e1, e2] env)) []) := by
  have hp : methodCallPos true o env apos pos = pure pos := by unfold methodCallPos; rw [hl]; rfl
  show (do
    let ov ← attributeBase o name env (eval o env)
    standAt apos.atName
    methodCall o name apos pos env ov 2 (backTo pos (starEach [e1, e2] env)) []) = _
  rw [h1]
  have hm : ∀ ov, methodCall o name apos pos env ov 2 (backTo pos [(false, eval e1 env), (false, eval e2 env)]) [] = (do
      let (f, first) ← holding [ov] (getMethod ov name (do return (← importBound o env).getD true))
      callWith pos f first (backTo pos [(false, eval e1 env), (false, eval e2 env)]) []) := fun ov => by
    unfold methodCall
    have hf : methodCallForm 2 (backTo pos [(false, eval e1 env), (false, eval e2 env)]) [] = true := rfl
    rw [hf, hp]
    rfl
  simp only [hm]
structure ExF (P : Program) (K : PySem.W.Frag) (mg : Str → Option Value) (C : Addr) (fld : Str) (f cc cda : Addr) (file : Str) : Prop where
  T : OexC K C
  no : PySem.W.findIn K (.ref C) fld = some none
  cell : ∃ cl cld csl, K.lookup cc = some ⟨cl, cld, .cell (some (.ref C)), csl⟩
  code : ∃ ccl cdd vs ccs tf, K.lookup cda = some ⟨ccl, cdd, .fields vs, ccs⟩ ∧ vs[2]? = some (.str file tf)
  file : ((P.main.file : Str) == file) = true
  top : (P.main.scope.names.lookup ("super" : Str)).isSome = false
  sub : PySem.W.mroIn K C (.ref C) = some true
  sup : mg "super" = none
  opq : PySem.W.nsIn K cStatics "thirdparty.any" = some none
  ini : PySem.W.ks_superIn K C C "__init__" = some (some (.builtin "ValueError.__init__"))
  ve : PySem.W.subIn K (.ref C) (.type "ValueError") = some true
theorem fn_exc {P : Program} {w : World} {K : PySem.W.Frag} {mg : Str → Option Value} {base : Heap} {C f cc cda : Addr} {name qual self word fld text file : Str} {params : Arguments} {body : List Stmt} {scope : Scope} {dV kV doc pm ct oc : Value} {an od : Option Addr} {osl : Array (Option Value)} {ar : Arg} {k : Nat}
    (X : ExF P K mg C fld f cc cda file) (lk : K.lookup f = some ⟨oc, od, .func (PySem.W.fnX name qual params body scope [("__class__", cc)] dV kV doc pm an (.ref cda) ct), osl⟩) (hcd : PySem.W.codeIn K (.ref cda) qual = true)
    (S : NScope [self, word, "__class__"] [self, word] ["__class__"] scope) (hks : scope.names.lookup ("super" : Str) = some .globalImplicit) (hp : (params.posonlyargs ++ params.args).head? = some ar) (har : ar.arg = self) (hb2 : Body2 self word fld text body) (hd0 : (self == ("__debug__" : Str)) = false) (hd1 : (word == ("__debug__" : Str)) = false) (hc0 : (self == ("__classdict__" : Str)) = false) (hc1 : (word == ("__classdict__" : Str)) = false) :
    FnOk P w K mg base CX0 (k + 1) f (PySem.W.fnX name qual params body scope [("__class__", cc)] dV kV doc pm an (.ref cda) ct) [self, word] (spXI C fld) := by
  refine ⟨fun vs H Q E h => by obtain ⟨_, _, rfl, _⟩ := h; rfl, fun A outer s H args us vs Q E hr e0 hb r hsp => ?_⟩
  obtain ⟨a, v, rfl, ha, kk⟩ := hsp
  obtain ⟨u1, rfl, rv⟩ : ∃ u1, us = [.ref a, u1] ∧ RelV v u1 := by
    cases r with
    | @cons _ u0 _ ur ra rr =>
      obtain rfl : u0 = Value.ref a := ra
      cases rr with
      | @cons _ u1 _ ur2 rv rn =>
        cases rn
        exact ⟨u1, rfl, rv⟩
  have KX : K.In s.heap := e0.mod.kin.keeps fun b o e => (e0.bs b o e).1
  have lim : s.heap.NoLimit := e0.mod.nolimit.keeps fun b o e => (e0.bs b o e).1
  obtain ⟨cl, cld, csl, lcc⟩ := X.cell
  obtain ⟨ccl, cdd, cvs, ccs, tf, lcd, hvs⟩ := X.code
  refine codeAny_call_function hr.depth (KX _ _ lk) rfl S.co S.gen rfl (PySem.W.codeRec_of KX hcd) (hb _ _ _ _ ?_)
  refine wpAny_newFunctionEnv S.nocell (fun ⟨n, _⟩ hy => S.par n (List.of_mem_zip hy).1) (fun h₁ hns hsb => ⟨lim.fresh _ hsb, ?_⟩) S.kind
  show codeAny _ _ (.func body (PySem.W.envX qual scope s.heap.objs.size f (.ref cda) [("__class__", cc)])) _ _
  refine ks_codeAny_funcAt ?_
  have kp : ∀ b o, s.heap.get? b = some o → h₁.get? b = some o := fun b o e => hsb.extBut b o (Nat.ne_of_lt (Heap.lt_size e)) (Heap.get?_push_of_some _ e)
  have hcb := e0.bs _ _ (e0.mod.kin _ _ lcc)
  have C0 : CellsAt [("__class__", cc)] ["__class__"] [some (.ref C)] s.heap H := by
    have one : ∀ y c, ([("__class__", cc)] : List (Str × Addr)).lookup y = some c → y = "__class__" ∧ c = cc := fun y c e => by
      rw [List.lookup_cons] at e
      split at e
      · rename_i z
        exact ⟨eq_of_beq z, (Option.some.inj e).symm⟩
      · cases e
    refine ⟨rfl, fun y c e => ?_, fun x y c e1 e2 => (one x c e1).1.trans (one y c e2).1.symm, fun i y e => ?_⟩
    · rw [(one y c e).2]
      exact ⟨hcb.2, _, _, hcb.1, rfl⟩
    · match i, e with
      | 0, e =>
        rw [← Option.some.inj e]
        exact ⟨cc, rfl, fun v hv => ⟨.ref C, by cases hv; exact rfl, _, hcb.1, rfl⟩⟩
  have I : Inv (ncx CX0 P w K mg base [self, word, "__class__"] ⟨name, qual, params, body, scope, [("__class__", cc)], cda⟩ f A outer s H E) [] (startF [self, word, "__class__"] [.ref a, v] [some (.ref C)]) H { s with heap := h₁, toks := s.toks + ([self, word].zip [Value.ref a, u1]).length } :=
    inv_startN (F := ⟨name, qual, params, body, scope, [("__class__", cc)], cda⟩) S hr.hd e0 rfl r C0 hns kp
  have KX1 : K.In h₁ := KX.keeps kp
  obtain ⟨p0, p1, p2, p3, p4, p5, p6, p7, p8, p9, p10, j, rfl, hline⟩ := hb2
  have hkc : scope.names.lookup ("__class__" : Str) = some .free := S.frk _ (List.mem_singleton.mpr rfl)
  have hself : scope.names.lookup self = some .local := S.par _ List.mem_cons_self
  have hword : scope.names.lookup word = some .local := S.par _ (List.mem_cons_of_mem _ List.mem_cons_self)
  obtain ⟨nm, q, N, bs, bm, sn, sub, ab, col, dd, k0, k1, k2, k3, k5, hC, hbm⟩ := X.T.cls
  have hcl : PySem.W.clsIn K C = some { name := nm, bases := bs, mro := .ref C :: bm, ns := N, qualname := q, hasDict := true, slotNames := sn, subclasses := sub, abstract := ab, collection := col, hasDel := false } := by unfold PySem.W.clsIn; rw [hC] <;> rfl
  obtain ⟨t1, hoa⟩ := exo_at I.hok ha
  obtain ⟨mb, b1, b2⟩ := I.mod.blt
  have boot : bootBuiltins "super" = some (.type "super") := by first | boot_by_name | rfl | kernel_rfl
  have hne : a ≠ C := fun z => by
    have := KX1 _ _ hC
    rw [← z, hoa] at this
    cases this
  refine ks_wpAt_execs_cons (ks_wpAt_Expr_any (ks_wpAt_MethodCall ?_ (eval_sup hline rfl)) I.quiet rfl)
  refine ks_wpAt_super_base (f := f) (cc := cda) hks hkc (by decide) rfl (KX1 _ _ lk) rfl hp rfl (KX1 _ _ lcd) rfl hvs X.file X.top ?_
  refine PySem.W.ks_loadName_global I.ok.kind hks (Calls.loadGlobal_builtin (I.mod.glob.keeps I.bk) X.sup (b1.keeps I.bk) ((b2 _ (by decide)).trans boot) ⟨rfl, ?_⟩)
  refine wpAny_loadName_free I.ok.kind hkc rfl ⟨_, kp _ _ hcb.1, rfl⟩ ?_
  rw [har]
  have ndp : [self, word].Nodup := (List.nodup_append.mp (show ([self, word] ++ [("__class__" : Str)]).Nodup from S.nd)).1
  refine wpAny_loadName_local I.ok.kind hself hns (zip_look (i := 0) ndp rfl rfl) ?_
  refine ks_wpAny_isType_cls (KX1 _ _ hC) rfl ⟨rfl, ?_⟩
  refine ks_wpAny_call_super (KX1 _ _ hC) rfl hoa rfl (fun c z => by cases z) (PySem.W.looks_mroIn KX1 X.sub) (fun h2 e2 kq => ?_)
  have I2 := I.kept (h' := h2) (t' := s.toks + ([self, word].zip [Value.ref a, u1]).length) kq
  have KX2 : K.In h2 := KX1.keeps kq
  have hoa2 := kq _ _ hoa
  have hal : PySem.W.alongIn K "__init__" (((Value.ref C :: bm).dropWhile (· != .ref C)).drop 1) = some (some (.builtin "ValueError.__init__")) := by
    have := X.ini
    unfold PySem.W.ks_superIn at this
    rw [hcl] at this
    exact this
  have IA : PySem.W.InstAt h2 a (PySem.W.excObj C t1 none .none) C none := ⟨hoa2, rfl, rfl, trivial⟩
  refine PySem.W.kxs_getMethod PySem.W.kxs_ValueError (l₀ := .ref C :: bm) e2 (PySem.W.looks_opaque KX2 X.opq) ?_ rfl KX2 hal (IA.type.andThen (PySem.W.looks_subIn KX2 X.ve)) hne (by decide) ?_
  · exact fun A Q E s k q => wpAny_bind ((PySem.W.looks_clsIn KX2 hcl) A _ E s k (wpAny_pure q))
  have kp3 : ∀ b o, h2.get? b = some o → (h2.push (PySem.W.kxs_mw "ValueError.__init__" a)).get? b = some o := fun b o e => Heap.get?_push_of_some _ e
  have I3 := I2.kept (h' := h2.push (PySem.W.kxs_mw "ValueError.__init__" a)) (t' := s.toks + ([self, word].zip [Value.ref a, u1]).length + 1) kp3
  have hu3 : (h2.push (PySem.W.kxs_mw "ValueError.__init__" a)).get? h2.objs.size = some (PySem.W.kxs_mw "ValueError.__init__" a) := Heap.get?_push_at rfl rfl
  have I4 := I3.pins_of (pins' := [(h2.objs.size, PySem.W.kxs_mw "ValueError.__init__" a)]) fun p hp => by
    rw [List.mem_singleton.mp hp]
    exact ⟨hu3, I2.hok.fresh (Nat.le_refl _), (Nat.ne_of_lt I2.lt).symm, I2.nofs (Nat.le_refl _), fun v z => by cases z⟩
  have pw : PE (ncx CX0 P w K mg base [self, word, "__class__"] ⟨name, qual, params, [.Expr (.Call (.Attribute (.Call (.Name "super" p0) [] [] p1) "__init__" p2) [.Constant (.str text) j p3, .Name word p4] [] p5) p6, .Assign [.Attribute (.Name self p7) fld p8] (.Name word p9) p10], scope, [("__class__", cc)], cda⟩ f A outer s H E) (.Name word p4) (tVar 1) := pe_var rfl (.inl hword) hd1 hc1
  have pa := pa_cons (pe_str (x := text) (j := j) (pos := p3)) (pa_cons pw pa_nil)
  refine PySem.W.kxs_callWith (i := "ValueError.__init__") (x := a) rfl (PySem.Calls.evalArgs_plain (thn (pa.run p5 _ _ _ _ (fun vs H1 => vs = [.str text, v] ∧ H1 = H) I4 ⟨v, rfl, rfl, rfl⟩) fun ws s5 h5 => ?_))
  obtain ⟨vs5, H5, I5, r5, rfl, rfl⟩ := h5
  have hu5 := (I5.pin _ (List.mem_append_right _ (List.mem_singleton.mpr rfl))).1
  have l5 : ws.length ≤ sizeLine := by
    have := Paired.length r5
    rw [← this]
    show 2 ≤ sizeLine
    decide
  refine ⟨hu5, ?_⟩
  refine call_mw X.T (I5.pins_of (pins' := []) fun p hp => absurd hp (by exact List.not_mem_nil)) ha hu5 l5 fun s6 I6 => ?_
  have pself : PE (ncx CX0 P w K mg base [self, word, "__class__"] ⟨name, qual, params, [.Expr (.Call (.Attribute (.Call (.Name "super" p0) [] [] p1) "__init__" p2) [.Constant (.str text) j p3, .Name word p4] [] p5) p6, .Assign [.Attribute (.Name self p7) fld p8] (.Name word p9) p10], scope, [("__class__", cc)], cda⟩ f A outer s H5 E) (.Name self p7) (tVar 0) := pe_var rfl (.inl hself) hd0 hc0
  have pword : PE (ncx CX0 P w K mg base [self, word, "__class__"] ⟨name, qual, params, [.Expr (.Call (.Attribute (.Call (.Name "super" p0) [] [] p1) "__init__" p2) [.Constant (.str text) j p3, .Name word p4] [] p5) p6, .Assign [.Attribute (.Name self p7) fld p8] (.Name word p9) p10], scope, [("__class__", cc)], cda⟩ f A outer s H5 E) (.Name word p9) (tVar 1) := pe_var rfl (.inl hword) hd1 hc1
  have st := pss_one (ps_ost (f := fld) (p' := p8) (pos := p10) pself pword)
  refine wpAt_of_wpAny (wpAny_mono (st.run [] s6 _ H5 { nx := fun _ H' => Q .non H', rt := Q } I6 ⟨v, rfl, .ref a, rfl, a, C, rfl, X.T, X.no, .inl ⟨ha, fun dx n ne => kk dx n ne⟩⟩) (fun fl s7 hs => ?_) fun e s' hs => hs)
  cases fl with
  | ret u =>
    obtain ⟨v7, σ7, H7, J, r7, q7⟩ := hs
    exact ⟨v7, H7, J.os, J.bare, J.base, J.hok, r7, q7⟩
  | next =>
    obtain ⟨σ7, H7, J, q7⟩ := hs
    exact ⟨.non, H7, J.os, J.bare, J.base, J.hok, rfl, q7⟩
  | brk =>
    obtain ⟨_, _, _, q7⟩ := hs
    exact False.elim q7
  | cont =>
    obtain ⟨_, _, _, q7⟩ := hs
    exact False.elim q7
end ExS
set_option maxRecDepth 100000
set_option maxHeartbeats 4000000
namespace ExS
open PySem PySem.Spec PyProof.Rows L2
structure XMk (P : Program) (w : World) (K : PySem.W.Frag) (mg : Str → Option Value) (base : Heap) (k : Nat) (x : Str) (C : Addr) (fld : Str) : Prop where
  ex : ∃ (fI : Addr) (fd : FuncData) (ps : List Str), OexC K C ∧ PySem.W.findIn K (.ref C) "__init__" = some (some (.ref fI)) ∧ PySem.W.typeIn K (.ref fI) = some (.type "function") ∧ FnOk P w K mg base L2.CX0 k fI fd ps (spXI C fld) ∧ Binds K fd ps [] ∧ mg x = some (.ref C)
section
variable {X : Cx} {x fld : Str} {C : Addr} {k j : Nat} {p pos : Pos} {e : Expr} {es : List Expr} {ta : TA}
theorem pmk_x (c : XMk X.prog X.w X.K X.mg X.base k x C fld) (hr : Room j X.A) (hk : k + 1 ≤ j) (hg : Gl X x) (ha : PA X (e :: es) ta)
    (hdb : (x == ("__debug__" : Str)) = false := by decide) (he : starEach (e :: es) X.env = (false, eval e X.env) :: starEach es X.env := by rfl) (hpl : (backTo pos (starEach es X.env)).any (·.1) = false := by rfl) :
    PMk X (.Call (.Name x p) (e :: es) [] pos) (tMkO C (spXI C fld) [] ta) := by
  obtain ⟨fI, fd, ps, T, iC, tI, F, b, hm⟩ := c.ex
  exact pmk_oex T iC tI F (hr.mono hk) b .nil L2.pass0 hg hm ha hdb he hpl
end
theorem exo_exd {a C d : Addr} {o : Option Addr} {fs : List (Str × V)} {H : Hp} (h1 : H a = some (exo a C o)) (h2 : H d = none) : d ≠ a := fun z => by
  rw [z, h1] at h2
  cases h2
theorem rd_x {C : Addr} {fld : Str} {H1 : Hp} {v : V} {Q : XK} (k : ∀ d H', Same H1 H' → H1 d = none → H' d = some (.xd [(fld, v)]) → Q (.ref C) (some d) H') :
    [v].length ≤ 1000 ∧ ∀ a, H1 a = none → spXI C fld (.ref a :: ([v] ++ [])) (upd H1 a (exo a C none)) (fun w H2 => w = .non ∧ ∃ (d : Addr) (fs : List (Str × V)), H2 a = some (exo a C (some d)) ∧ H2 d = some (exd d fs) ∧ H1 d = none ∧ Q (.ref C) (some d) (upd (del H2 a) d (.xd fs))) (fun _ _ _ => False) := by
  refine ⟨by show 1 ≤ 1000; decide, fun a na => ⟨a, v, rfl, upd_same, fun dx nd ne => ⟨rfl, dx, [(fld, v)], upd_same, by rw [upd_ne ne, upd_same], ?_, ?_⟩⟩⟩
  · rw [upd_ne ne] at nd
    exact nd
  · rw [upd_ne ne] at nd
    refine k dx _ (fun b o e => ?_) nd upd_same
    have b1 : b ≠ a := ne_of_none e na
    have b2 : b ≠ dx := ne_of_none e nd
    rw [upd_ne b2, del_ne b1, upd_ne b1, upd_ne b2, upd_ne b1]
    exact e
theorem takes0 {X : Cx} : L2.Takes X (fun _ _ _ _ => False) := fun _ _ ⟨_, _, _, _, _, _, _, _, _, _, _, _, _, _, _, _, w⟩ => w.elim
structure MakX (P : Program) (w : World) (K : PySem.W.Frag) (mg : Str → Option Value) (base : Heap) (k : Nat) (x : Str) (C : Addr) (sp : Sp) (dvs : List V) : Prop where
  ex : ∃ (f : Addr) (fd : FuncData) (ps : List Str) (ds : List Value), Mk K C f ∧ FnOk P w K mg base (L2.CX P w) k f fd ps sp ∧ mg x = some (.ref C) ∧ Binds K fd ps ds ∧ Vals dvs ds
def tMakeS (C : Addr) (sp : Sp) (dvs : List V) (E : L2.St → XK) (t : TA) : TE := fun σ H Q => t σ H fun vs H1 => ∀ x dx, H1 x = none → H1 dx = none → dx ≠ x →
  sp (.ref x :: (vs ++ dvs)) (upd (upd H1 dx (.own x)) x (.ins C dx [])) (fun v H2 => v = .non ∧ Q (.ref x) H2) (E σ)
section
variable {X : Cx} {x : Str} {C : Addr} {k j : Nat} {p pos : Pos} {e : Expr} {es : List Expr} {t : TA} {sp : Sp} {dvs : List V} {W : WX}
theorem pe_mkT (c : MakX X.prog X.w X.K X.mg X.base k x C sp dvs) (hr : Room j X.A) (hk : k + 1 ≤ j) (tk : Takes X W) (hg : Gl X x) (ha : PA X (e :: es) t)
    (hdb : (x == ("__debug__" : Str)) = false := by decide) (he : starEach (e :: es) X.env = (false, eval e X.env) :: starEach es X.env := by rfl) (hpl : (backTo pos (starEach es X.env)).any (·.1) = false := by rfl) :
    PE X (.Call (.Name x p) (e :: es) [] pos) (tMakeS C sp dvs (WE W) t) := by
  obtain ⟨f, fd, ps, ds, M, F, hm, b, d⟩ := c.ex
  refine ⟨fun pins s σ H Q I h => wpAny_Call_Name_kw (ld_glob I hg hm ?_ hdb)⟩
  refine PySem.W.callWith_K (h₀ := X.base) I.ok.mod.kin M.kp (thn (ha.run pos pins s σ H _ I h) fun us s1 ⟨vs, H1, I1, r, q⟩ => ⟨I1.kIn, ?_⟩) he hpl
  have q1 := q (s1.heap.objs.size + 1) s1.heap.objs.size (I1.hok.fresh (Nat.le_succ _)) (I1.hok.fresh (Nat.le_refl _)) (Nat.ne_of_lt (Nat.lt_succ_self _))
  have J := Inv.made (C := C) I1
  have rr : Vals (V.ref (s1.heap.objs.size + 1) :: (vs ++ dvs)) (Value.ref (s1.heap.objs.size + 1) :: (us ++ ds)) := .cons rfl (r.append d)
  have len : (Value.ref (s1.heap.objs.size + 1) :: us ++ ds).length = ps.length := (rr.length).symm.trans (F.len _ _ _ _ q1)
  have go := F.run (X.A.under (.builtin "type.__call__" ⟨.ref C :: us, []⟩)) X.stack _ _ ⟨Value.ref (s1.heap.objs.size + 1) :: us, []⟩ _ _ _ _ ((hr.mono hk).make C us []) (J.env0.make C us []) (b _ (Value.ref (s1.heap.objs.size + 1) :: us) J.kIn len) rr q1
  refine wpAny_call (make_map (f := f) I1.kIn M.makes M.init (beq_iff_eq.mp M.fn) (codeAny_mono go fun res s2 hres => ?_))
  match res, hres with
  | .error er, hres => exact passAt tk σ pins _ _ er s2 J hres
  | .ok (.ret u), hres =>
    obtain ⟨v, H2, J2, rv, ev, q2⟩ := J.after hres
    subst ev
    exact ⟨rv, V.ref (s1.heap.objs.size + 1), H2, J2, rfl, q2⟩
  | .ok .next, hres => exact False.elim hres
  | .ok .brk, hres => exact False.elim hres
  | .ok .cont, hres => exact False.elim hres
end
section
variable {P : Program} {w : World} {K : PySem.W.Frag} {mg : Str → Option Value} {base : Heap}
theorem fnR {x qual : Str} {st : Stmt} {f : Addr} {fd : FuncData} {N ps : List Str} {k : Nat} {sp : Sp} (F : C8.Fun K x qual st f fd) (S : FnScope N ps (C8.fnScope st)) (len : ∀ vs H Q E, sp vs H Q E → vs.length = ps.length)
    (hbody : ∀ (cdv : Value) (A : Around) (outer : List Env) (s : Shared) (H : Hp) (vs : List V) (Q : VK) (E : XK), Room k (A.deeper (envOfC qual (C8.fnScope st) s.heap.objs.size f cdv)) → sp vs H Q E →
      ∃ t, PSs (cxOf (L2.CX P w) P w K mg base N qual (C8.fnScope st) f cdv A outer s H E) (C8.fnBody st) t ∧ t { nx := fun _ H' => Q .non H', rt := Q } (start N vs) H) : FnOk P w K mg base (L2.CX P w) (k + 1) f fd ps sp := by
  obtain ⟨oc, od, dV, kV, doc, pm, an, cdv, ct, osl, rfl, lk, hcd⟩ := F.ex
  exact fn_of lk hcd S len fun A outer s H vs Q E hr hsp => hbody cdv A outer s H vs Q E hr hsp
end
end ExS
set_option maxRecDepth 100000
set_option maxHeartbeats 4000000
namespace ExS
open PySem PySem.Spec PyProof.Rows L2 NdefX
def spXI0 (C : Addr) : Sp := fun vs H Q _ => ∃ a : Addr, vs = [.ref a] ∧ H a = some (exo a C none) ∧ Q .non H
def Body1 (text : Str) (body : List Stmt) : Prop := ∃ (p0 p1 p2 p3 p5 p6 : Pos) (j : Nat), body = [.Expr (.Call (.Attribute (.Call (.Name "super" p0) [] [] p1) "__init__" p2) [.Constant (.str text) j p3] [] p5) p6] ∧ (p2.endLine == p5.line) = true
theorem eval_sup1 {o : Expr} {name : Str} {apos pos : Pos} {e1 : Expr} {env : Env} (hl : (apos.endLine == pos.line) = true) (h1 : starEach [e1] env = [(false, eval e1 env)]) :
    eval (.Call (.Attribute o name apos) [e1] [] pos) env = (do
      let ov ← attributeBase o name env (eval o env)
      standAt apos.atName
      let (f, first) ← holding [ov] (getMethod ov name (do return (← importBound o env).getD true))
      callWith pos f first (backTo pos (starEach [e1] env)) []) := by
  have hp : methodCallPos true o env apos pos = pure pos := by unfold methodCallPos; rw [hl]; rfl
  show (do
    let ov ← attributeBase o name env (eval o env)
    standAt apos.atName
    methodCall o name apos pos env ov 1 (backTo pos (starEach [e1] env)) []) = _
  rw [h1]
  have hm : ∀ ov, methodCall o name apos pos env ov 1 (backTo pos [(false, eval e1 env)]) [] = (do
      let (f, first) ← holding [ov] (getMethod ov name (do return (← importBound o env).getD true))
      callWith pos f first (backTo pos [(false, eval e1 env)]) []) := fun ov => by
    unfold methodCall
    have hf : methodCallForm 1 (backTo pos [(false, eval e1 env)]) [] = true := rfl
    rw [hf, hp]
    rfl
  simp only [hm]
theorem fn_exc0 {P : Program} {w : World} {K : PySem.W.Frag} {mg : Str → Option Value} {base : Heap} {C f cc cda : Addr} {name qual self fld text file : Str} {params : Arguments} {body : List Stmt} {scope : Scope} {dV kV doc pm ct oc : Value} {an od : Option Addr} {osl : Array (Option Value)} {ar : Arg} {k : Nat}
    (X : ExF P K mg C fld f cc cda file) (lk : K.lookup f = some ⟨oc, od, .func (PySem.W.fnX name qual params body scope [("__class__", cc)] dV kV doc pm an (.ref cda) ct), osl⟩) (hcd : PySem.W.codeIn K (.ref cda) qual = true)
    (S : NScope [self, "__class__"] [self] ["__class__"] scope) (hks : scope.names.lookup ("super" : Str) = some .globalImplicit) (hp : (params.posonlyargs ++ params.args).head? = some ar) (har : ar.arg = self) (hb2 : Body1 text body) :
    FnOk P w K mg base CX0 (k + 1) f (PySem.W.fnX name qual params body scope [("__class__", cc)] dV kV doc pm an (.ref cda) ct) [self] (spXI0 C) := by
  refine ⟨fun vs H Q E h => by obtain ⟨_, rfl, _⟩ := h; rfl, fun A outer s H args us vs Q E hr e0 hb r hsp => ?_⟩
  obtain ⟨a, rfl, ha, kk⟩ := hsp
  obtain rfl : us = [.ref a] := by
    cases r with
    | @cons _ u0 _ ur ra rr =>
      obtain rfl : u0 = Value.ref a := ra
      cases rr
      rfl
  have KX : K.In s.heap := e0.mod.kin.keeps fun b o e => (e0.bs b o e).1
  have lim : s.heap.NoLimit := e0.mod.nolimit.keeps fun b o e => (e0.bs b o e).1
  obtain ⟨cl, cld, csl, lcc⟩ := X.cell
  obtain ⟨ccl, cdd, cvs, ccs, tf, lcd, hvs⟩ := X.code
  refine codeAny_call_function hr.depth (KX _ _ lk) rfl S.co S.gen rfl (PySem.W.codeRec_of KX hcd) (hb _ _ _ _ ?_)
  refine wpAny_newFunctionEnv S.nocell (fun ⟨n, _⟩ hy => S.par n (List.of_mem_zip hy).1) (fun h₁ hns hsb => ⟨lim.fresh _ hsb, ?_⟩) S.kind
  show codeAny _ _ (.func body (PySem.W.envX qual scope s.heap.objs.size f (.ref cda) [("__class__", cc)])) _ _
  refine ks_codeAny_funcAt ?_
  have kp : ∀ b o, s.heap.get? b = some o → h₁.get? b = some o := fun b o e => hsb.extBut b o (Nat.ne_of_lt (Heap.lt_size e)) (Heap.get?_push_of_some _ e)
  have hcb := e0.bs _ _ (e0.mod.kin _ _ lcc)
  have C0 : CellsAt [("__class__", cc)] ["__class__"] [some (.ref C)] s.heap H := by
    have one : ∀ y c, ([("__class__", cc)] : List (Str × Addr)).lookup y = some c → y = "__class__" ∧ c = cc := fun y c e => by
      rw [List.lookup_cons] at e
      split at e
      · rename_i z
        exact ⟨eq_of_beq z, (Option.some.inj e).symm⟩
      · cases e
    refine ⟨rfl, fun y c e => ?_, fun x y c e1 e2 => (one x c e1).1.trans (one y c e2).1.symm, fun i y e => ?_⟩
    · rw [(one y c e).2]
      exact ⟨hcb.2, _, _, hcb.1, rfl⟩
    · match i, e with
      | 0, e =>
        rw [← Option.some.inj e]
        exact ⟨cc, rfl, fun v hv => ⟨.ref C, by cases hv; exact rfl, _, hcb.1, rfl⟩⟩
  have I : Inv (ncx CX0 P w K mg base [self, "__class__"] ⟨name, qual, params, body, scope, [("__class__", cc)], cda⟩ f A outer s H E) [] (startF [self, "__class__"] [.ref a] [some (.ref C)]) H { s with heap := h₁, toks := s.toks + ([self].zip [Value.ref a]).length } :=
    inv_startN (F := ⟨name, qual, params, body, scope, [("__class__", cc)], cda⟩) S hr.hd e0 rfl r C0 hns kp
  have KX1 : K.In h₁ := KX.keeps kp
  obtain ⟨p0, p1, p2, p3, p5, p6, j, rfl, hline⟩ := hb2
  have hkc : scope.names.lookup ("__class__" : Str) = some .free := S.frk _ (List.mem_singleton.mpr rfl)
  have hself : scope.names.lookup self = some .local := S.par _ List.mem_cons_self
  obtain ⟨nm, q, N, bs, bm, sn, sub, ab, col, dd, k0, k1, k2, k3, k5, hC, hbm⟩ := X.T.cls
  have hcl : PySem.W.clsIn K C = some { name := nm, bases := bs, mro := .ref C :: bm, ns := N, qualname := q, hasDict := true, slotNames := sn, subclasses := sub, abstract := ab, collection := col, hasDel := false } := by unfold PySem.W.clsIn; rw [hC] <;> rfl
  obtain ⟨t1, hoa⟩ := exo_at I.hok ha
  obtain ⟨mb, b1, b2⟩ := I.mod.blt
  have boot : bootBuiltins "super" = some (.type "super") := by first | boot_by_name | rfl | kernel_rfl
  have hne : a ≠ C := fun z => by
    have := KX1 _ _ hC
    rw [← z, hoa] at this
    cases this
  refine ks_wpAt_execs_cons (ks_wpAt_Expr_any (ks_wpAt_MethodCall ?_ (eval_sup1 hline rfl)) I.quiet rfl)
  refine ks_wpAt_super_base (f := f) (cc := cda) hks hkc (by decide) rfl (KX1 _ _ lk) rfl hp rfl (KX1 _ _ lcd) rfl hvs X.file X.top ?_
  refine PySem.W.ks_loadName_global I.ok.kind hks (Calls.loadGlobal_builtin (I.mod.glob.keeps I.bk) X.sup (b1.keeps I.bk) ((b2 _ (by decide)).trans boot) ⟨rfl, ?_⟩)
  refine wpAny_loadName_free I.ok.kind hkc rfl ⟨_, kp _ _ hcb.1, rfl⟩ ?_
  rw [har]
  have ndp : [self].Nodup := (List.nodup_append.mp (show ([self] ++ [("__class__" : Str)]).Nodup from S.nd)).1
  refine wpAny_loadName_local I.ok.kind hself hns (zip_look (i := 0) ndp rfl rfl) ?_
  refine ks_wpAny_isType_cls (KX1 _ _ hC) rfl ⟨rfl, ?_⟩
  refine ks_wpAny_call_super (KX1 _ _ hC) rfl hoa rfl (fun c z => by cases z) (PySem.W.looks_mroIn KX1 X.sub) (fun h2 e2 kq => ?_)
  have I2 := I.kept (h' := h2) (t' := s.toks + ([self].zip [Value.ref a]).length) kq
  have KX2 : K.In h2 := KX1.keeps kq
  have hoa2 := kq _ _ hoa
  have hal : PySem.W.alongIn K "__init__" (((Value.ref C :: bm).dropWhile (· != .ref C)).drop 1) = some (some (.builtin "ValueError.__init__")) := by
    have := X.ini
    unfold PySem.W.ks_superIn at this
    rw [hcl] at this
    exact this
  have IA : PySem.W.InstAt h2 a (PySem.W.excObj C t1 none .none) C none := ⟨hoa2, rfl, rfl, trivial⟩
  refine PySem.W.kxs_getMethod PySem.W.kxs_ValueError (l₀ := .ref C :: bm) e2 (PySem.W.looks_opaque KX2 X.opq) ?_ rfl KX2 hal (IA.type.andThen (PySem.W.looks_subIn KX2 X.ve)) hne (by decide) ?_
  · exact fun A Q E s k q => wpAny_bind ((PySem.W.looks_clsIn KX2 hcl) A _ E s k (wpAny_pure q))
  have kp3 : ∀ b o, h2.get? b = some o → (h2.push (PySem.W.kxs_mw "ValueError.__init__" a)).get? b = some o := fun b o e => Heap.get?_push_of_some _ e
  have I3 := I2.kept (h' := h2.push (PySem.W.kxs_mw "ValueError.__init__" a)) (t' := s.toks + ([self].zip [Value.ref a]).length + 1) kp3
  have hu3 : (h2.push (PySem.W.kxs_mw "ValueError.__init__" a)).get? h2.objs.size = some (PySem.W.kxs_mw "ValueError.__init__" a) := Heap.get?_push_at rfl rfl
  have I4 := I3.pins_of (pins' := [(h2.objs.size, PySem.W.kxs_mw "ValueError.__init__" a)]) fun p hp => by
    rw [List.mem_singleton.mp hp]
    exact ⟨hu3, I2.hok.fresh (Nat.le_refl _), (Nat.ne_of_lt I2.lt).symm, I2.nofs (Nat.le_refl _), fun v z => by cases z⟩
  have pa := pa_cons (pe_str (X := ncx CX0 P w K mg base [self, "__class__"] ⟨name, qual, params, [.Expr (.Call (.Attribute (.Call (.Name "super" p0) [] [] p1) "__init__" p2) [.Constant (.str text) j p3] [] p5) p6], scope, [("__class__", cc)], cda⟩ f A outer s H E) (x := text) (j := j) (pos := p3)) pa_nil
  refine PySem.W.kxs_callWith (i := "ValueError.__init__") (x := a) rfl (PySem.Calls.evalArgs_plain (thn (pa.run p5 _ _ _ _ (fun vs H1 => vs = [.str text] ∧ H1 = H) I4 ⟨rfl, rfl⟩) fun ws s5 h5 => ?_))
  obtain ⟨vs5, H5, I5, r5, rfl, rfl⟩ := h5
  have hu5 := (I5.pin _ (List.mem_append_right _ (List.mem_singleton.mpr rfl))).1
  have l5 : ws.length ≤ sizeLine := by
    have := Paired.length r5
    rw [← this]
    show 1 ≤ sizeLine
    decide
  refine ⟨hu5, ?_⟩
  refine call_mw X.T (I5.pins_of (pins' := []) fun p hp => absurd hp (by exact List.not_mem_nil)) ha hu5 l5 fun s6 I6 => ?_
  have st := pss_nil (X := ncx CX0 P w K mg base [self, "__class__"] ⟨name, qual, params, [.Expr (.Call (.Attribute (.Call (.Name "super" p0) [] [] p1) "__init__" p2) [.Constant (.str text) j p3] [] p5) p6], scope, [("__class__", cc)], cda⟩ f A outer s H5 E)
  refine wpAt_of_wpAny (wpAny_mono (st.run [] s6 _ H5 { nx := fun _ H' => Q .non H', rt := Q } I6 kk) (fun fl s7 hs => ?_) fun e s' hs => hs)
  cases fl with
  | ret u =>
    obtain ⟨v7, σ7, H7, J, r7, q7⟩ := hs
    exact ⟨v7, H7, J.os, J.bare, J.base, J.hok, r7, q7⟩
  | next =>
    obtain ⟨σ7, H7, J, q7⟩ := hs
    exact ⟨.non, H7, J.os, J.bare, J.base, J.hok, rfl, q7⟩
  | brk =>
    obtain ⟨_, _, _, q7⟩ := hs
    exact False.elim q7
  | cont =>
    obtain ⟨_, _, _, q7⟩ := hs
    exact False.elim q7
theorem mk_endN {X : Cx} {pins : List (Addr × Obj)} {σ : L2.St} {H1 H2 : Hp} {Q : XK} {hp hp2 h2 : Heap} {g1 g2 : Array GenState} {d1 d2 : Drawn} {t1 t2 : Nat} {os1 os2 : OsState} {a C : Addr} (T : Raises X (.ref C)) (I1 : Inv X pins σ H1 ⟨hp, g1, d1, t1, os1⟩)
    (ha : hp.objs.size ≤ a) (k : ∀ b o, hp.get? b = some o → hp2.get? b = some o) (un : Un (frs X.stack) [] (upd H1 a (exo a C none)) H2 hp2 h2) (hok : HOk X.prog X.w H2 h2) (ho : os2 = os1) (hb : AllBare g2)
    (ea : H2 a = some (exo a C none)) (q : Q (.ref C) none (del H2 a)) : MkP X pins σ Q (.ref a) ⟨h2, g2, d2, t2, os2⟩ := by
  obtain ⟨t0, hoe⟩ := exo_at hok ea
  have hn : H1 a = none := I1.hok.fresh ha
  obtain ⟨G, g1', g2'⟩ := restrict h2 fun b => decide (b ≠ a)
  have gk : ∀ b, b ≠ a → G.get? b = h2.get? b := fun b hb => g1' b (decide_eq_true hb)
  have ge : G.get? a = none := g2' a (by simp)
  have nha : ∀ {b : Addr} {o : Obj}, hp.get? b = some o → b ≠ a := fun {b o} z => Nat.ne_of_lt (Nat.lt_of_lt_of_le (Heap.lt_size z) ha)
  have up : ∀ {b : Addr}, b ≠ a → H1 b = none → upd H1 a (exo a C none) b = none := fun {b} hb n => by rw [upd_ne hb]; exact n
  have U : Un (frs X.stack) [] H1 (del H2 a) hp G := {
    keep := fun b o z n hf hx => by
      rw [gk b (nha z)]
      exact un.keep b o (k b o z) (up (nha z) n) hf hx
    slot := fun b o z n hf hx => by
      rw [gk b (nha z)]
      exact un.slot b o (k b o z) (up (nha z) n) hf hx
    free := fun b o z n hx => by
      rw [del_ne (nha z)]
      exact un.free b o (k b o z) (up (nha z) n) hx
    there := fun b o z hx => by
      rw [gk b (nha z)]
      exact un.there b o (k b o z) hx
    tups := fun b xs z => by
      rw [del_ne (ne_of_none z hn)]
      exact un.tups b xs (by rw [upd_ne (ne_of_none z hn)]; exact z)
    frzs := fun b o v z => by
      rw [del_ne (ne_of_none z hn)]
      exact un.frzs b o v (by rw [upd_ne (ne_of_none z hn)]; exact z)
    tbls := fun b ps z => by
      rw [del_ne (ne_of_none z hn)]
      exact un.tbls b ps (by rw [upd_ne (ne_of_none z hn)]; exact z) }
  have hok3 : HOk X.prog X.w (del H2 a) G := fun b o z => by
    have hba : b ≠ a := fun e => by
      rw [e, del_same] at z
      cases z
    rw [del_ne hba] at z
    have noa : ∀ {c : Addr}, H2 c = some (.own b) → c ≠ a := fun {c} hc => at_ne ea hc exo_own
    exact (hok b o z).stay (fun c v hc y => by
        have hca : c ≠ a := by
          rcases hc with hc | hc
          · rw [hc]
            exact hba
          · exact noa hc
        rw [gk c hca]
        exact y)
      (fun c hc => by rw [del_ne (noa hc)]; exact hc) (fun c xs hc => by rw [del_ne (at_ne ea hc exo_tup)]; exact hc)
  have J : Inv X pins σ (del H2 a) ⟨G, g2, d2, t2, os2⟩ := I1.call' (ch := []) ho U hok3 hb (fun b z => absurd z (by simp))
  refine ⟨a, _, _, ⟨G, g2, d2, t2, os2⟩, _, .ref C, none, rfl, J, fun b o z => ?_, ge, hoe, ⟨rfl, rfl⟩, rfl, rfl, del_same, rfl, hb, T, q⟩
  by_cases hba : b = a
  · have z : G.get? b = some o := z
    rw [hba, ge] at z
    cases z
  · exact (gk b hba).symm.trans z
structure XMk0 (P : Program) (w : World) (K : PySem.W.Frag) (mg : Str → Option Value) (base : Heap) (k : Nat) (x : Str) (C : Addr) : Prop where
  ex : ∃ (fI : Addr) (fd : FuncData) (ps : List Str), OexC K C ∧ PySem.W.findIn K (.ref C) "__init__" = some (some (.ref fI)) ∧ PySem.W.typeIn K (.ref fI) = some (.type "function") ∧ FnOk P w K mg base L2.CX0 k fI fd ps (spXI0 C) ∧ Binds K fd ps [] ∧ mg x = some (.ref C)
theorem pmk_x0 {X : Cx} {x : Str} {C : Addr} {k j : Nat} {p pos : Pos} (c : XMk0 X.prog X.w X.K X.mg X.base k x C) (hr : Room j X.A) (hk : k + 1 ≤ j) (hg : Gl X x) (hdb : (x == ("__debug__" : Str)) = false := by decide) :
    PMk X (.Call (.Name x p) [] [] pos) (fun _ H Q => Q (.ref C) none H) := by
  obtain ⟨fI, fd, ps, T, iC, tI, F1, hb, hm⟩ := c.ex
  intro pins s σ H Q I h
  obtain ⟨nm, q, N, bs, bm, sn, sub, ab, col, dd, k0, k1, k2, k3, k5, hC, hbm⟩ := T.cls
  refine wpAny_Call_Name_kw (ld_glob I hg hm ?_ hdb)
  refine PySem.W.callWith_K0 I.kIn T.kC ?_
  show wpAny _ _ (call (.ref C) []) _ _ _
  obtain ⟨hp, g, dr, tk, os⟩ := s
  have hsz : hp.objs.size ≤ hp.objs.size + 1 := Nat.le_succ _
  have hn : H (hp.objs.size + 1) = none := I.hok.fresh hsz
  have hq : spXI0 C [.ref (hp.objs.size + 1)] (upd H (hp.objs.size + 1) (exo (hp.objs.size + 1) C none)) (fun v H2 => v = .non ∧ H2 = upd H (hp.objs.size + 1) (exo (hp.objs.size + 1) C none)) (fun _ _ _ => False) := ⟨_, rfl, upd_same, rfl, rfl⟩
  have kk : ∀ b o, hp.get? b = some o → ((hp.push (PySem.W.kdv_tup [])).push (PySem.HandSPX.excO C hp.objs.size)).get? b = some o := fun b o e => Heap.get?_push_of_some _ (Heap.get?_push_of_some _ e)
  have hget : ((hp.push (PySem.W.kdv_tup [])).push (PySem.HandSPX.excO C hp.objs.size)).get? (hp.objs.size + 1) = some (PySem.HandSPX.excO C hp.objs.size) := by heap_get
  have I2 : Inv X pins σ (upd H (hp.objs.size + 1) (exo (hp.objs.size + 1) C none)) ⟨(hp.push (PySem.W.kdv_tup [])).push (PySem.HandSPX.excO C hp.objs.size), g, dr, tk, os⟩ :=
    I.laid (t' := tk) (a := hp.objs.size + 1) (o := exo (hp.objs.size + 1) C none) (h' := (hp.push (PySem.W.kdv_tup [])).push (PySem.HandSPX.excO C hp.objs.size)) kk hsz (exo_ok hget)
  have r2 : Vals [V.ref (hp.objs.size + 1)] [Value.ref (hp.objs.size + 1)] := .cons rfl .nil
  have hl : ([Value.ref (hp.objs.size + 1)] ++ []).length = ps.length := by
    have e := r2.length
    rw [F1.len _ _ _ _ hq] at e
    exact e.symm
  refine wpAny_call (PySem.HandSPX.call_own F.excBase_ValueError (fun Y => PySem.HandSPX.refsVE_contains Y bm hbm) (I.kIn _ _ hC) (PySem.W.looks_findIn I.kIn iC) (fun self => PySem.W.bind_fn I.kIn self tI) (Nat.zero_le _) ?_)
  refine codeAny_mono (F1.run _ X.stack _ _ ⟨Value.ref (hp.objs.size + 1) :: [], []⟩ [Value.ref (hp.objs.size + 1)] _ _ (fun _ _ _ => False) ((hr.mono hk).make C [] []) (I2.env0.make C [] []) (hb _ [Value.ref (hp.objs.size + 1)] I2.kIn hl) r2 hq) fun r s' hq' => ?_
  cases r with
  | error er => exact L2.pass0 pins σ _ _ er s' I2 hq'
  | ok fl =>
    cases fl with
    | ret u =>
      obtain ⟨v, H2, os2, bare2, un2, hok2, rv, ev, eH⟩ := hq'
      subst ev
      subst eH
      obtain ⟨h2, g2, d2, t2, os'⟩ := s'
      refine ⟨rv, mk_endN (raises_own T.exC T.tyC) I hsz kk un2 hok2 os2 bare2 upd_same ?_⟩
      have e : del (upd H (hp.objs.size + 1) (exo (hp.objs.size + 1) C none)) (hp.objs.size + 1) = H := funext fun b => by
        by_cases hb : b = hp.objs.size + 1
        · rw [hb, del_same, hn]
        · rw [del_ne hb, upd_ne hb]
      rw [e]
      exact h
    | next => exact False.elim hq'
    | brk => exact False.elim hq'
    | cont => exact False.elim hq'
structure MetT (P : Program) (w : World) (K : PySem.W.Frag) (mg : Str → Option Value) (base : Heap) (k : Nat) (C : Addr) (m : Str) (sp : Sp) : Prop where
  ex : ∃ (f : Addr) (fd : FuncData) (ps : List Str), Cls K C ∧ Meth K C m f ∧ FnOk P w K mg base (L2.CX P w) k f fd ps sp ∧ Binds K fd ps []
def tMethS (C : Addr) (m : Str) (sp : Sp) (E : L2.St → XK) (ta : TE) (t : TA) : TE := fun σ H Q => ta σ H fun x H1 => ∃ (a dx : Addr) (fs : List (Str × V)), x = .ref a ∧ H1 a = some (.ins C dx fs) ∧ fs.lookup m = none ∧ t σ H1 fun vs H2 => sp (.ref a :: vs) H2 Q (E σ)
theorem pe_mtT {X : Cx} {k j : Nat} {C : Addr} {m : Str} {sp : Sp} {pos apos : Pos} {e o : Expr} {es : List Expr} {ta : TE} {t : TA} {W : WX} {pl : Sem Bool} (c : MetT X.prog X.w X.K X.mg X.base k C m sp) (hr : Room j X.A) (hk : k ≤ j) (tk : Takes X W) (he : PE X o ta) (ha : PA X (e :: es) t)
    (hst : starEach (e :: es) X.env = (false, eval e X.env) :: starEach es X.env := by rfl) (hpl : (backTo pos (starEach es X.env)).any (·.1) = false := by rfl)
    (ht : eval (.Call (.Attribute o m apos) (e :: es) [] pos) X.env = (do
      let ov ← eval o X.env
      standAt apos.atName
      let (f, first) ← holding [ov] (getMethod ov m pl)
      callWith pos f first (backTo pos (starEach (e :: es) X.env)) (backToKw pos (keywordEach [] X.env))) := by rfl) :
    PE X (.Call (.Attribute o m apos) (e :: es) [] pos) (tMethS C m sp (WE W) ta t) := by
  obtain ⟨f, fd, ps, hc, hm, F, b⟩ := c.ex
  refine ⟨fun pins s σ H Q I h => ?_⟩
  refine PySem.W.methodCall_KW (pl := pl) (thn (he.run pins s σ H _ I h) fun u s1 ⟨x, H1, I1, rx, a, dx, fs, ex, ea, l, q⟩ => ?_) ht
  subst ex
  obtain rfl : u = Value.ref a := rx
  refine getmeth_ok I1 ea hc hm l ?_
  refine PySem.W.callWith_K (first := [.ref a]) (h₀ := X.base) I.ok.mod.kin hm.kp (thn (ha.run pos pins s1 σ H1 _ I1 q) fun us s2 ⟨vs, H2, I2, r, q2⟩ => ⟨I2.kIn, ?_⟩) hst hpl
  exact (run_fnS (us := .ref a :: us) (vs := .ref a :: vs) F (hr.mono hk) b (passAt tk σ) I2 (.cons rfl r) q2)
end ExS
set_option maxRecDepth 100000
set_option maxHeartbeats 4000000
namespace PySem.W
open PySem PySem.Spec PySem.Calls PyProof.Rows
section
variable {prog : Program} {w : World} {A : Around} {E : Value → Shared → Prop} {s : Shared} {K : Frag} {x D : Addr} {ox : Obj} {od : Option Obj}
theorem findObj_dataD {C : Addr} {name : Str} {a g : Value} (hc : (clsIn K C).isSome = true) (ha : findIn K (.ref C) name = some (some a)) (hg : specialIn K a "__get__" = some (some g)) (ht : takesIn K a = some true) : findObj K C od name = some (.bind g a) := by
  obtain ⟨cd, hc⟩ := Option.isSome_iff_exists.mp hc
  unfold findObj
  rw [hc, Option.bind_some, ha, Option.bind_some]
  simp [hg, ht]
theorem class_of_err {Q : Option Value → Shared → Prop} (T : L2.ExcC K D) (X : K.In s.heap) (I : InstAt s.heap x ox D od) (h : Q (some (.ref D)) { s with toks := s.toks + 1 }) : wpAny (model prog w) A (getAttr? (.ref x) "__class__") Q E s := by
  have hf : findObj K D od "__class__" = some (.bind (.builtin "getset_descriptor.__get__") (.builtin "object.__class__")) := findObj_dataD (by obtain ⟨cd, hc, _⟩ := any_some T.hd; rw [hc]; rfl) T.ha T.hn T.ht
  obtain ⟨hp, g, d, t, os⟩ := s
  have L0 := I.type (M := model prog w)
  have L1 := looks_findIn (M := model prog w) X T.hg
  have L2 := looks_findIn (M := model prog w) X T.hk
  have L3 := looks_find (M := model prog w) X I hf
  have sub : Looks (model prog w) hp (isInstance (.ref x) (.type "BaseException")) true := L0.andThen (looks_subIn X T.hs)
  have n2 : (Value.builtin "BaseException.__getattribute__" == Value.builtin "object.__getattribute__") = false := by decide +kernel
  have n1 : (onTheHeap (Value.ref D) && Value.builtin "BaseException.__getattribute__" == Value.builtin "object.__getattribute__") = false := by rw [n2]; rfl
  have n0 : (false && onTheHeap (Value.builtin "BaseException.__getattribute__")) = false := rfl
  unfold getAttr? getAttrBy? getAttrBy
  refine wpAny_bind (wpAny_mkText (wpAny_bind (wpAny_attempt (wpAny_holding (wpAny_bind (L0.at (wpAny_bind (L1.at ?_))))))))
  show wpAny _ _ (if (onTheHeap (Value.ref D) && Value.builtin "BaseException.__getattribute__" == Value.builtin "object.__getattribute__") = true then _ else _) _ _ _
  rw [n1, if_neg Bool.false_ne_true]
  unfold getAttrByItsOwn hookBefore
  refine wpAny_bind ?_
  rw [if_pos (show onTheHeap (Value.ref D) = true from rfl)]
  refine L2.at ?_
  refine wpAny_bind (wpAny_attempt (wpAny_holding ?_))
  unfold callGetattribute
  rw [n0, if_neg Bool.false_ne_true]
  unfold boundAndCalled
  rw [PySem.F.excAttr_ValueError.ga.bind (.ref x)]
  refine wpAny_bind (wpAny_pure ?_)
  show wpAny _ _ (call (.builtin "BaseException.__getattribute__") [.ref x, .str "__class__" t]) _ _ _
  refine wpAny_call (codeAny_call_builtin PySem.F.excAttr_ValueError.ga.plain PySem.F.entry_bexc_ga ?_)
  refine @check_slot (model prog w) _ _ ⟨hp, g, d, t + 1, os⟩ "BaseException.__getattribute__" "BaseException" "__getattribute__" (.ref x) [.str "__class__" t] [] _ (by decide +kernel) (by decide +kernel) sub (PySem.F.args_bexc_ga (.ref x) (.str "__class__" t)) ?_
  unfold Builtin.«object.__getattribute__»
  refine wpAny_bind (wpAny_of_eq (a := ((Value.ref x : Value), [Value.str "__class__" t])) (by first | rfl | (simp only [slotArgs]; rfl)) ?_)
  refine wpAny_bind (wpAny_pure (wpAny_bind (L0.at (wpAny_bind (L3.at ?_)))))
  show wpAny _ _ (holding [Value.builtin "object.__class__"] (call (.builtin "getset_descriptor.__get__") [.builtin "object.__class__", .ref x, .ref D]) >>= ret) _ _ _
  refine wpAny_bind (wpAny_holding (wpAny_call (class_get (s := ⟨hp, g, d, t + 1, os⟩) (ox := ox) (od := od) X I T.hm ?_)))
  refine wpAny_pure ?_
  show wpAny _ _ (handedOut (.ref D)) _ _ _
  rw [handedOut_of (v := .ref D) rfl]
  first
    | exact wpAny_pure (wpAny_pure h)
    | exact wpAny_pure h
    | exact wpAny_pure (wpAny_bind (wpAny_pure (wpAny_pure h)))
theorem kitx_err (T : L2.ExcC K D) : KitX K (.ref x) (.ref D) (fun h => InstAt h x ox D od) where
  ty := fun _ _ _ I => I.type
  it := fun _ _ X _ => by
    obtain ⟨cdD, hcD, _⟩ := any_some T.hd
    unfold clsIn at hcD
    split at hcD
    · rename_i c' d' cd' sl' ho
      intro A' Q' E' s' k q
      unfold isType loadHead
      exact wpAny_bind (wpAny_loadPart (k _ _ (X _ _ ho)) (wpAny_pure q))
    · cases hcD
  ne := fun h tp dd its n sl X htp => by
    obtain ⟨cdD, hcD, _⟩ := any_some T.hd
    refine Bool.eq_false_iff.mpr fun q => ?_
    have e : D = tp := Value.ref.inj (beq_iff_eq.mp q)
    subst e
    unfold clsIn at hcD
    split at hcD
    · rename_i c' d' cd' sl' ho
      have z := (X _ _ ho).symm.trans htp
      cases z
    · cases hcD
  ca := fun X I k => class_of_err T X I k
end
end PySem.W
namespace ExS
open PySem PySem.Spec PyProof.Rows L2
def rIsD (K : PySem.W.Frag) (a : Addr) (cls : Value) (d : Option Addr) : List V → Hp → VK → Prop := fun xs H Q => ∃ (D dd : Addr) (fs : List (Str × V)) (c : V) (cv : Value) (b : Bool), xs = [.ref a, c] ∧ cls = .ref D ∧ d = some dd ∧ H dd = some (.xd fs) ∧ ExcC K D ∧ ClsV c cv ∧ PySem.W.kitOne K (.ref D) cv = some b ∧ Q (.bl b) H
theorem call_isD {X : Cx} {a : Addr} {cls : Value} {d : Option Addr} {oe : Obj} {pn : List (Addr × Obj)} (hz : Zc cls d oe) (hf : ∃ vs, oe.data = .fields vs) : CallR (X.suite a ((a, oe) :: pn)) (.builtin "isinstance") (rIsD X.K a cls d) := by
  intro pins s σ H xs us Q I r h
  obtain ⟨D, dd, fs, c, cv, b, rfl, rfl, rfl, ea, T, hcv, e, q⟩ := h
  obtain ⟨u1, u2, rfl, rx, rt⟩ := vals2 r
  have ec := hcv.eq rt
  subst ec
  obtain rfl : u1 = Value.ref a := rx
  obtain ⟨ha, _⟩ := I.pin (a, oe) (List.mem_append.mpr (.inl List.mem_cons_self))
  obtain ⟨vs, hd⟩ := hf
  have hx : ObjOk X.prog X.w H s.heap dd (.xd fs) := I.hok dd _ ea
  obtain ⟨mA, hns, hr⟩ := hx
  obtain ⟨od, ho, hl⟩ := lookIn_ns hns
  have J : PySem.W.InstAt s.heap a oe D (some od) := ⟨ha, hz.1, by unfold PySem.W.notCls; rw [hd] <;> rfl, by rw [hz.2]; exact ho⟩
  exact PySem.W.kia_one (PySem.W.kitx_err T) I.kIn J e (fun z => nomatch z) fun tk => ⟨.bl b, H, I.kept (t' := tk) fun _ _ z => z, rfl, q⟩
end ExS
set_option maxRecDepth 100000
set_option maxHeartbeats 4000000
namespace U
open PySem PySem.Spec PyProof.Rows
open L2 hiding Fun CX0 E0 pass0 Fun.binds
open C8 Lx SX StX
def TpX (H : Hp) (a : Addr) (xs : List V) : Prop := ∃ o : Obj, H a = some (.frz o (.tup xs)) ∧ o.dict = none
theorem TpX.same {H H' : Hp} {a : Addr} {xs : List V} (h : TpX H a xs) (s : Same H H') : TpX H' a xs := by
  obtain ⟨o, h1, h2⟩ := h
  exact ⟨o, s _ _ h1, h2⟩
theorem TpX.sq {K : PySem.W.Frag} {H : Hp} {a : Addr} {xs : List V} (h : TpX H a xs) : SqT K H a xs := by
  obtain ⟨o, h1, _⟩ := h
  exact .inl (.inr ⟨o, h1⟩)
theorem TpX.new {H : Hp} {a : Addr} {xs : List V} {o : Obj} (h : o.dict = none) : TpX (upd H a (.frz o (.tup xs))) a xs := ⟨o, upd_same, h⟩
section
variable {X : Cx} {es : List Expr} {t : TA} {pos : Pos}
def tTupF (t : TA) : TE := fun σ H Q => t σ H fun xs H1 => xs.length ≤ sizeLine ∧ ∀ (p : Addr) (o : Obj), H1 p = none → o.dict = none → Q (.ref p) (upd H1 p (.frz o (.tup xs)))
theorem pe_tupF {x1} (h : PA X es t) : PE X (.Tuple es x1 pos) (tTupF t) := by
  refine ⟨fun pins s σ H Q I hq => ?_⟩
  refine wpAny_Tuple_spliced (thn (h.run pos pins s σ H _ I hq) fun us s1 ⟨xs, H1, I1, r, z, q⟩ => ⟨by rw [← r.length]; exact z, ?_⟩)
  have hf : H1 s1.heap.objs.size = none := I1.hok.fresh (Nat.le_refl _)
  have hg : (s1.heap.push { cls := .type "tuple", data := .seq us.toArray }).get? s1.heap.objs.size = some { cls := .type "tuple", data := .seq us.toArray } := Heap.get?_push_size _ rfl
  refine ⟨.ref s1.heap.objs.size, upd H1 s1.heap.objs.size (.frz { cls := .type "tuple", data := .seq us.toArray } (.tup xs)), I1.laid (t' := s1.toks) (fun b u e => Heap.get?_push_of_some _ e) (Nat.le_refl _) ?_, rfl, q _ _ hf rfl⟩
  exact ⟨hg, z, us, r, ⟨_, hg, rfl, _, rfl⟩⟩
def rCatF (K : PySem.W.Frag) : R2 := fun x y H Q => ∃ a b xs ys, x = .ref a ∧ y = .ref b ∧ SqT K H a xs ∧ SqT K H b ys ∧ ys ≠ [] ∧ xs.length + ys.length ≤ sizeLine ∧
  (xs = [] → Q (.ref b) H) ∧ (xs ≠ [] → ∀ (p : Addr) (o : Obj), H p = none → o.dict = none → Q (.ref p) (upd H p (.frz o (.tup (xs ++ ys)))))
theorem op_catF : OpR X (binaryOp .Add) (rCatF X.K) := by
  intro pins s σ H x y v u Q I rx ry h
  obtain ⟨a, b, xs, ys, rfl, rfl, ha, hb, hy, hz, q0, q2⟩ := h
  cases rx
  cases ry
  obtain ⟨its, r1, p1, _⟩ := I.tuple ha
  obtain ⟨its2, r2, p2, _⟩ := I.tuple hb
  by_cases hx : xs = []
  · subst hx
    cases r1
    exact cat_tup0 p1 p2 ⟨.ref b, H, I, rfl, q0 rfl⟩
  · refine HT.cat_tup p1 p2 (fun z => hx (r1.nil_iff.mp z)) (fun z => absurd (r2.nil_iff.mp z) hy) (fun z => ?_) (by rw [← r1.length, ← r2.length]; exact hz)
    have hg : (s.heap.push { cls := .type "tuple", data := .seq (its ++ its2).toArray }).get? s.heap.objs.size = some { cls := .type "tuple", data := .seq (its ++ its2).toArray } := Heap.get?_push_size _ rfl
    refine ⟨.ref s.heap.objs.size, _, I.laid (t' := s.toks) (o := .frz { cls := .type "tuple", data := .seq (its ++ its2).toArray } (.tup (xs ++ ys))) (fun b ob q => Heap.get?_push_of_some _ q) (Nat.le_refl _) ?_, rfl, q2 hx _ _ (I.hok.fresh (Nat.le_refl _)) rfl⟩
    exact ⟨hg, by rw [List.length_append]; exact hz, _, r1.append r2, ⟨_, hg, rfl, _, rfl⟩⟩
theorem call_tupleF : CallR X (.type "tuple") (fun xs H Q => ∃ p ys, xs = [.ref p] ∧ SqL X.K H p ys ∧ ∀ (l : Addr) (o : Obj), H l = none → o.dict = none → Q (.ref l) (upd H l (.frz o (.tup ys)))) := by
  intro pins s σ H xs us Q I r h
  obtain ⟨p, ys, rfl, hq, q⟩ := h
  obtain ⟨u, rfl, rx⟩ := vals1 r
  cases rx
  obtain ⟨its, r', pl, hz⟩ := I.list hq
  have hlen := r'.length
  refine call_tuple_list pl.isList (fun h' kp => ?_) (by simp only [List.size_toArray] <;> omega)
  have I1 : Inv X pins σ H { s with heap := h' } := I.kept (t' := s.toks) kp
  have hg : (h'.push { cls := .type "tuple", data := .seq its.toArray }).get? h'.objs.size = some { cls := .type "tuple", data := .seq its.toArray } := Heap.get?_push_size _ rfl
  have I2 : Inv X pins σ (upd H h'.objs.size (.frz { cls := .type "tuple", data := .seq its.toArray } (.tup ys))) { s with heap := h'.push { cls := .type "tuple", data := .seq its.toArray } } :=
    I1.laid (t' := s.toks) (fun b o e => Heap.get?_push_of_some _ e) (Nat.le_refl _) (show ObjOk X.prog X.w _ _ _ (.frz _ (.tup ys)) from ⟨hg, hz, its, r', ⟨_, hg, rfl, _, rfl⟩⟩)
  exact ⟨.ref h'.objs.size, _, I2, rfl, q _ _ (I1.hok.fresh (Nat.le_refl _)) rfl⟩
theorem pairs_ofF {pins : List (Addr × Obj)} {σ : L2.St} {H : Hp} {s : Shared} (I : Inv X pins σ H s) : ∀ {ps : List Addr} {kvs : List (Key × V)}, Paired (fun p kv => SqT X.K H p [kV kv.1, kv.2]) ps kvs →
    ∃ (prs : List (Key × Value)) (pvs : List (Value × Value)), KV kvs prs ∧ prs.length = ps.length ∧ pvs.length = ps.length ∧ ∀ (j : Nat) (k v : Value), pvs[j]? = some (k, v) → ∃ (b : Addr) (key : Key), ps[j]? = some b ∧ IsTup s.heap b #[k, v] ∧ prs[j]? = some (key, v) ∧ keyIs key k = true
  | _, _, .nil => ⟨[], [], .nil, rfl, rfl, fun j k v e => by simp at e⟩
  | _, _, .cons (a := p) (b := kv) h t => by
    obtain ⟨prs, pvs, r, hl, hl2, hp⟩ := pairs_ofF I t
    obtain ⟨its, rv, ht, _⟩ := I.tuple h
    obtain ⟨u, y, ei, ru, ry⟩ := vals2 rv
    subst ei
    refine ⟨(kv.1, y) :: prs, (u, y) :: pvs, .cons ⟨rfl, ry⟩ r, by rw [List.length_cons, List.length_cons, hl], by rw [List.length_cons, List.length_cons, hl2], fun j k v e => ?_⟩
    cases j with
    | zero =>
      have e' : (u, y) = (k, v) := Option.some.inj e
      cases e'
      exact ⟨p, kv.1, rfl, ht, rfl, kV_is (P := X.prog) (w := X.w) ru⟩
    | succ j =>
      obtain ⟨b, key, e1, e2, e3, e4⟩ := hp j k v (by simpa using e)
      exact ⟨b, key, by simpa using e1, e2, by simpa using e3, e4⟩
def rDictF (K : PySem.W.Frag) : List V → Hp → VK → Prop := fun xs H Q => ∃ (a : Addr) (ps : List Addr) (kvs : List (Key × V)), xs = [.ref a] ∧ TpX H a (ps.map V.ref) ∧ Paired (fun p kv => SqT K H p [kV kv.1, kv.2]) ps kvs ∧
    ∀ p, H p = none → Q (.ref p) (upd H p (.dK (mergeK [] kvs)))
theorem call_dictF (hcalm : X.calm = true) : CallR X (.type "dict") (rDictF X.K) := by
  intro pins s σ H xs us Q I r q
  obtain ⟨a, ps, kvs, ex, ⟨o, hq, hd0⟩, hp, q⟩ := q
  subst ex
  obtain ⟨u, eu, rx⟩ := vals1 r
  subst eu
  cases rx
  obtain ⟨hg, hz, its, rv, o2, hg2, hc, n, hd⟩ := I.hok _ _ hq
  rw [hg] at hg2
  cases hg2
  have ei := refs_at rv
  subst ei
  rw [List.length_map] at hz
  obtain ⟨prs, pvs, rel, hl, hl2, hpr⟩ := pairs_ofF I hp
  have hit : PairItems s.heap (ps.map Value.ref).toArray (fun j => ps.getD j 0) pvs := ⟨by simp [hl2], fun j k v e => by
    obtain ⟨b, key, e1, e2, e3, e4⟩ := hpr j k v e
    have eb : ps.getD j 0 = b := by rw [List.getD_eq_getElem?_getD, e1]; rfl
    refine ⟨by simp [e1, eb], .inl ?_⟩
    show s.heap.IsTuple (ps.getD j 0) #[k, v]
    rw [eb]
    exact e2⟩
  refine PySem.call_dict_pairs (knd := mixKind X.prog X.w) (kvs := prs) (PairArg.tuple a (ps.map Value.ref).toArray (fun j => ps.getD j 0) pvs) (I.ok.hd hcalm) ⟨⟨o, n, hg, hc, hd0, hd⟩, hit⟩ ⟨by rw [hl, hl2], fun i key v e => ?_⟩ (by rw [hl2]; exact hz) fun h' tk hd' k => ?_
  · obtain ⟨b, kk, e1, e2, e3, e4⟩ := hpr i key v e
    exact ⟨kk, e3, e4⟩
  · have hm : (s.heap.objs.size == sysModules) = false := beq_eq_false_iff_ne.mpr (Nat.ne_of_gt I.big)
    have hlen : (mergeK [] kvs).length ≤ sizeLine := by
      refine Nat.le_trans (length_mergeK kvs []) ?_
      rw [List.length_nil, Nat.zero_add, rel.length, hl]
      exact hz
    exact ⟨.ref s.heap.objs.size, upd H s.heap.objs.size (.dK (mergeK [] kvs)), I.laid (t' := tk) (fun b o e => k b o (fun z => nomatch z) e) (Nat.le_refl _) (show ObjOk X.prog X.w _ _ _ (.dK (mergeK [] kvs)) from ⟨hlen, hm, merged [] prs, KV.merge rel .nil, hd'⟩), rfl, q _ (I.hok.fresh (Nat.le_refl _))⟩
end
end U
set_option maxRecDepth 100000
set_option maxHeartbeats 4000000
namespace U
open PySem PySem.Spec PyProof.Rows
open L2 hiding Fun CX0 E0 pass0 Fun.binds
open C8 Lx SX
def bt (b : Bool) : Nat := if b then 49 else 48
def W (l : List Bool) : Str := S (l.map bt)
theorem bt_inj : ∀ {a b : Bool}, bt a = bt b → a = b := by decide
theorem map_bt_inj : ∀ {a b : List Bool}, a.map bt = b.map bt → a = b
  | [], [], _ => rfl
  | [], _ :: _, h => by simp at h
  | _ :: _, [], h => by simp at h
  | x :: l, y :: m, h => by
    rw [List.map_cons, List.map_cons] at h
    injection h with h1 h2
    rw [bt_inj h1, map_bt_inj h2]
theorem W_inj {a b : List Bool} (h : W a = W b) : a = b := map_bt_inj (S_inj h)
theorem W_eq {a b : List Bool} : (W a = W b) ↔ a = b := ⟨W_inj, fun h => by rw [h]⟩
theorem W_len (a : List Bool) : (W a).length = a.length := by unfold W; rw [S_len, List.length_map]
theorem W_size (a : List Bool) : (W a).cps.size = a.length := by unfold W; simp
theorem W_cat (a b : List Bool) : W a ++ W b = W (a ++ b) := by unfold W; rw [S_cat, List.map_append]
theorem W_nil : ("" : Str) = W [] := by decide +kernel
theorem W_0 : ("0" : Str) = W [false] := by decide +kernel
theorem W_1 : ("1" : Str) = W [true] := by decide +kernel
theorem W_get {a : List Bool} {i : Nat} {c : Nat} (h : (W a).cps[i]? = some c) : ∃ b, a[i]? = some b ∧ c = bt b := by
  unfold W S at h
  rw [List.getElem?_toArray, List.getElem?_map] at h
  cases e : a[i]? with
  | none => rw [e] at h; cases h
  | some b => rw [e] at h; exact ⟨b, rfl, (Option.some.inj h).symm⟩
theorem W_bit (b : Bool) : (⟨#[bt b]⟩ : Str) = W [b] := rfl
theorem W_tl (a : List Bool) : (W a).cps.toList = a.map bt := rfl
theorem joinL_nil : ∀ ys : List (List Nat), TL.joinL [] ys = ys.flatten
  | [] => rfl
  | [p] => by simp [TL.joinL]
  | p :: q :: r => by
    show p ++ ([] ++ TL.joinL [] (q :: r)) = _
    rw [List.nil_append, joinL_nil (q :: r)]
    rfl
theorem join_W (ls : List (List Bool)) : Txt.join "" (ls.map W) = W ls.flatten := by
  have e : (ls.map W) = (ls.map (·.map bt)).map S := by rw [List.map_map]; rfl
  have e2 : ("" : Str) = S [] := by decide +kernel
  rw [e, e2, join_S, joinL_nil]
  unfold W
  rw [List.map_flatten]
theorem join_bits (l : List Bool) : Txt.join "" (l.map fun b => W [b]) = W l := by
  have e : (l.map fun b => W [b]) = (l.map fun b => [b]).map W := by rw [List.map_map]; rfl
  rw [e, join_W]
  congr 1
  induction l with
  | nil => rfl
  | cons b r ih => simp [ih]
theorem sum_lens : ∀ ls : List (List Bool), ((ls.map W).map (·.length)).sum = (ls.map (·.length)).sum
  | [] => rfl
  | l :: r => by
    rw [List.map_cons, List.map_cons, List.map_cons, List.sum_cons, List.sum_cons, W_len, sum_lens r]
theorem sl_len {n : Nat} (h : n ≤ 100000) : n ≤ sizeLine := Nat.le_trans h (by decide)
theorem sl_lt {n : Nat} (h : n < 100000) : n < sizeLine := Nat.lt_of_lt_of_le h (by decide)
def bitsV (l : List Bool) : List V := (l.map fun b => W [b]).map V.str
theorem lens_bits (l : List Bool) : ((l.map fun b => W [b]).map (·.length)).sum = l.length := by
  induction l with
  | nil => rfl
  | cons b r ih => rw [List.map_cons, List.map_cons, List.sum_cons, ih, W_len, List.length_cons]; simp only [List.length_cons, List.length_nil]; omega
theorem bitsV_len (l : List Bool) : (bitsV l).length = l.length := by unfold bitsV; rw [List.length_map, List.length_map]
theorem bitsV_snoc (l : List Bool) (b : Bool) : bitsV l ++ [V.str (W [b])] = bitsV (l ++ [b]) := by unfold bitsV; simp
theorem mem2 {v : V} (h : v ∈ ([.str "0", .str "1"] : List V)) : ∃ b : Bool, v = .str (W [b]) := by
  rcases List.mem_cons.mp h with rfl | h
  · exact ⟨false, by rw [W_0]⟩
  · rcases List.mem_cons.mp h with rfl | h
    · exact ⟨true, by rw [W_1]⟩
    · cases h
theorem empty_len : ("" : Str).length = 0 := by decide +kernel
theorem q_dec {c : Prop} [Decidable c] {Q : VK} {H : Hp} (hc : c) (h : Q (.bl true) H) : Q (.bl (decide c)) H := by rw [decide_eq_true hc]; exact h
theorem q_ndec {c : Prop} [Decidable c] {Q : VK} {H : Hp} (hc : ¬ c) (h : Q (.bl false) H) : Q (.bl (decide c)) H := by rw [decide_eq_false hc]; exact h
theorem iteDT {c A B : Prop} [Decidable c] (hc : c) (h : A) : if decide c = true then A else B := by rw [decide_eq_true hc]; exact iteT h
theorem iteDF {c A B : Prop} [Decidable c] (hc : ¬ c) (h : B) : if decide c = true then A else B := by rw [decide_eq_false hc]; exact iteF h
theorem iteNT {c A B : Prop} [Decidable c] (hc : ¬ c) (h : A) : if (!decide c) = true then A else B := by rw [decide_eq_false hc]; exact iteT h
theorem iteBT {b : Bool} {A B : Prop} (hc : b = true) (h : A) : if b = true then A else B := by rw [hc]; exact iteT h
theorem iteBF {b : Bool} {A B : Prop} (hc : b = false) (h : B) : if b = true then A else B := by rw [hc]; exact iteF h
def oW : Option (List Bool) → V
  | none => .non
  | some x => .str (W x)
theorem W_drop {a : List Bool} {i : Int} (h : 0 ≤ i) : Txt.slice (W a) (some i) none = W (a.drop i.toNat) := by
  unfold W; rw [slice_from h, List.map_drop]
theorem W_take {a : List Bool} {i : Int} (h : 0 ≤ i) : Txt.slice (W a) none (some i) = W (a.take i.toNat) := by
  unfold W; rw [slice_to h, List.map_take]
theorem repl_succ (l : List Bool) (n : Nat) : (List.replicate (n + 1) l).flatten = l ++ (List.replicate n l).flatten := by rw [List.replicate_succ]; rfl
theorem foldl_app : ∀ (n : Nat) (a b : Array Nat), ((List.replicate n a).foldl (· ++ ·) b).toList = b.toList ++ (List.replicate n a.toList).flatten
  | 0, a, b => by simp
  | n + 1, a, b => by
    rw [List.replicate_succ, List.foldl_cons, foldl_app n a (b ++ a), List.replicate_succ, List.flatten_cons, Array.toList_append, List.append_assoc]
theorem mul_W {l : List Bool} {n : Nat} (h : 1 ≤ n) : Txt.mul (W l) (n : Int) = W (List.replicate n l).flatten := by
  refine TL.ext_tl ?_
  unfold Txt.mul
  rw [if_neg (by omega)]
  by_cases c : (((n : Int) == 1) || (W l).length == 0) = true
  · rw [if_pos c]
    simp only [Bool.or_eq_true, beq_iff_eq] at c
    rcases c with c | c
    · have : n = 1 := by omega
      subst this
      simp
    · rw [W_len] at c
      have : l = [] := List.length_eq_zero_iff.mp c
      subst this
      rw [show (List.replicate n ([] : List Bool)).flatten = [] by simp]
  · rw [if_neg c]
    show ((List.replicate (n : Int).toNat (W l).cps).foldl (· ++ ·) #[]).toList = _
    rw [foldl_app, Int.toNat_natCast]
    show [] ++ (List.replicate n (l.map bt)).flatten = ((List.replicate n l).flatten).map bt
    rw [List.map_flatten, List.map_replicate, List.nil_append]
end U
set_option maxRecDepth 100000
set_option maxHeartbeats 4000000
namespace U
abbrev Stf := List Bool × Bool
def putM (ss : List Stf) (l : List Bool) : Option Bool := (ss.find? fun s => s.1.isSuffixOf l).map (·.2)
inductive Ins (ss : List Stf) : List Bool → List Bool → Prop
  | stop {l : List Bool} : putM ss l = none → Ins ss l []
  | more {l x : List Bool} {b : Bool} : putM ss l = some b → Ins ss (l ++ [b]) x → Ins ss l (b :: x)
inductive Reach (ss : List Stf) : List Bool → Prop
  | nil : Reach ss []
  | next {l x : List Bool} {b : Bool} : Reach ss l → Ins ss (l ++ [b]) x → Reach ss (l ++ [b] ++ x)
def OkR (ss : List Stf) : Prop := ∀ l, Reach ss l → ∀ b, ∃ x, Ins ss (l ++ [b]) x
def OkN (n : Nat) (ss : List Stf) : Prop := ∀ l, Reach ss l → ∀ b, ∃ x, Ins ss (l ++ [b]) x ∧ x.length ≤ n
abbrev OkS (ss : List Stf) : Prop := OkN 19 ss
theorem OkN.ok {n : Nat} {ss : List Stf} (h : OkN n ss) : OkR ss := fun l r b => by
  obtain ⟨x, hx, _⟩ := h l r b
  exact ⟨x, hx⟩
theorem OkN.mono {n m : Nat} {ss : List Stf} (h : OkN n ss) (hn : n ≤ m) : OkN m ss := fun l r b => by
  obtain ⟨x, hx, h1⟩ := h l r b
  exact ⟨x, hx, Nat.le_trans h1 hn⟩
def tl (n : Nat) (l : List Bool) : List Bool := l.drop (l.length - n)
theorem tl_len (n : Nat) (l : List Bool) : (tl n l).length = min n l.length := by unfold tl; rw [List.length_drop]; omega
theorem tl_le (n : Nat) (l : List Bool) : (tl n l).length ≤ n := by rw [tl_len]; omega
theorem tl_id {n : Nat} {l : List Bool} (h : l.length ≤ n) : tl n l = l := by
  unfold tl
  rw [show l.length - n = 0 by omega, List.drop_zero]
theorem tl_tl {a b : Nat} (h : a ≤ b) (l : List Bool) : tl a (tl b l) = tl a l := by
  unfold tl
  rw [List.drop_drop, List.length_drop]
  congr 1
  omega
theorem tl_of {a b : Nat} (h : a ≤ b) {l m : List Bool} (e : tl b l = tl b m) : tl a l = tl a m := by rw [← tl_tl h l, e, tl_tl h m]
theorem tl_snoc0 (n : Nat) (l : List Bool) (b : Bool) : tl (n + 1) (l ++ [b]) = tl n l ++ [b] := by
  unfold tl
  rw [List.length_append, List.length_cons, List.length_nil, List.drop_append]
  have e : l.length + (0 + 1) - (n + 1) = l.length - n := by omega
  rw [e, show l.length - n - l.length = 0 by omega]
  rfl
theorem tl_zero (l : List Bool) : tl 0 l = [] := by unfold tl; rw [List.drop_eq_nil_iff]; omega
theorem tl_snoc {n : Nat} {l m : List Bool} {b : Bool} (e : tl n l = tl n m) : tl n (l ++ [b]) = tl n (m ++ [b]) := by
  cases n with
  | zero => rw [tl_zero, tl_zero]
  | succ n => rw [tl_snoc0, tl_snoc0, tl_of (Nat.le_succ n) e]
theorem tl_app {n : Nat} {l m : List Bool} (e : tl n l = tl n m) : ∀ x : List Bool, tl n (l ++ x) = tl n (m ++ x)
  | [] => by rw [List.append_nil, List.append_nil]; exact e
  | b :: x => by
    have := tl_app (tl_snoc (b := b) e) x
    rw [List.append_assoc, List.append_assoc] at this
    exact this
theorem suf_iff {p l : List Bool} : p.isSuffixOf l = true ↔ p = tl p.length l := by
  rw [List.isSuffixOf_iff_suffix, List.suffix_iff_eq_drop]
  rfl
theorem suf_tl {L : Nat} {p l m : List Bool} (h : p.length ≤ L) (e : tl L l = tl L m) : p.isSuffixOf l = p.isSuffixOf m := by
  rw [Bool.eq_iff_iff, suf_iff, suf_iff, tl_of h e]
theorem put_tl {L : Nat} {l m : List Bool} (e : tl L l = tl L m) : ∀ {ss : List Stf}, (∀ s ∈ ss, s.1.length ≤ L) → putM ss l = putM ss m
  | [], _ => rfl
  | s :: r, h => by
    have ih := put_tl e (ss := r) fun s hs => h s (List.mem_cons_of_mem _ hs)
    have es := suf_tl (h s List.mem_cons_self) e
    unfold putM at ih ⊢
    rw [List.find?_cons, List.find?_cons, es]
    cases s.1.isSuffixOf m with
    | true => rfl
    | false => exact ih
theorem Ins.tl {ss : List Stf} {L : Nat} (hL : ∀ s ∈ ss, s.1.length ≤ L) {l x : List Bool} (h : Ins ss l x) : ∀ {m}, tl L l = tl L m → Ins ss m x := by
  induction h with
  | stop h => intro m e; exact .stop (by rw [← put_tl e hL]; exact h)
  | more h _ ih => intro m e; exact .more (by rw [← put_tl e hL]; exact h) (ih (tl_snoc e))
theorem Ins.det {ss : List Stf} {l x : List Bool} (h : Ins ss l x) : ∀ {y}, Ins ss l y → x = y := by
  induction h with
  | stop h =>
    intro y hy
    cases hy with
    | stop _ => rfl
    | more h2 _ => rw [h] at h2; cases h2
  | more h _ ih =>
    intro y hy
    cases hy with
    | stop h2 => rw [h] at h2; cases h2
    | more h2 hx =>
      rw [h] at h2
      cases h2
      rw [ih hx]
theorem Ins.end {ss : List Stf} {l x : List Bool} (h : Ins ss l x) : putM ss (l ++ x) = none := by
  induction h with
  | stop h => rw [List.append_nil]; exact h
  | more _ _ ih => rw [List.append_assoc] at ih; exact ih
theorem Ins.drop {ss : List Stf} {l x : List Bool} (h : Ins ss l x) : ∀ {i}, i ≤ x.length → Ins ss (l ++ x.take i) (x.drop i) := by
  induction h with
  | stop h => intro i hi; rw [List.take_nil, List.drop_nil, List.append_nil]; exact .stop h
  | more h hx ih =>
    intro i hi
    cases i with
    | zero => rw [List.take_zero, List.append_nil, List.drop_zero]; exact .more h hx
    | succ i =>
      have := ih (i := i) (by rw [List.length_cons] at hi; omega)
      rw [List.append_assoc] at this
      exact this
theorem Ins.at {ss : List Stf} {l x : List Bool} (h : Ins ss l x) {i : Nat} {b : Bool} (hb : x[i]? = some b) : putM ss (l ++ x.take i) = some b := by
  have hi := (List.getElem?_eq_some_iff.mp hb).1
  have h2 := h.drop (Nat.le_of_lt hi)
  rw [List.drop_eq_getElem_cons hi] at h2
  cases h2 with
  | more h3 _ => rw [h3, ← hb, List.getElem?_eq_getElem hi]
theorem Ins.apart {ss : List Stf} {L : Nat} (hL : ∀ s ∈ ss, s.1.length ≤ L) {l x : List Bool} (h : Ins ss l x) {i j : Nat} (hi : i ≤ x.length) (hj : j ≤ x.length) (e : U.tl L (l ++ x.take i) = U.tl L (l ++ x.take j)) : i = j := by
  have := congrArg List.length (((h.drop hi).tl hL e).det (h.drop hj))
  rw [List.length_drop, List.length_drop] at this
  omega
def allW : Nat → List (List Bool)
  | 0 => [[]]
  | n + 1 => [] :: ((allW n).map (false :: ·) ++ (allW n).map (true :: ·))
theorem allW_len : ∀ n, (allW n).length + 1 = 2 ^ (n + 1)
  | 0 => rfl
  | n + 1 => by
    have := allW_len n
    show ([] :: ((allW n).map (false :: ·) ++ (allW n).map (true :: ·))).length + 1 = _
    rw [List.length_cons, List.length_append, List.length_map, List.length_map, Nat.pow_succ]
    omega
theorem mem_allW : ∀ {n : Nat} {w : List Bool}, w.length ≤ n → w ∈ allW n
  | 0, [], _ => List.mem_cons_self
  | 0, _ :: _, h => by rw [List.length_cons] at h; omega
  | n + 1, [], _ => List.mem_cons_self
  | n + 1, b :: w, h => by
    have := mem_allW (n := n) (w := w) (by rw [List.length_cons] at h; omega)
    refine List.mem_cons_of_mem _ (List.mem_append.mpr ?_)
    cases b with
    | false => exact .inl (List.mem_map_of_mem this)
    | true => exact .inr (List.mem_map_of_mem this)
theorem nodup_le {α : Type} [DecidableEq α] : ∀ {l m : List α}, l.Nodup → (∀ x ∈ l, x ∈ m) → l.length ≤ m.length
  | [], _, _, _ => Nat.zero_le _
  | x :: r, m, hn, hs => by
    have hx := hs x List.mem_cons_self
    have hn' := List.nodup_cons.mp hn
    have h2 := nodup_le (l := r) (m := m.erase x) hn'.2 fun y hy => by
      have hne : y ≠ x := fun e => hn'.1 (e ▸ hy)
      exact (List.mem_erase_of_ne hne).mpr (hs y (List.mem_cons_of_mem _ hy))
    rw [List.length_erase_of_mem hx] at h2
    have := List.length_pos_of_mem hx
    rw [List.length_cons]
    omega
theorem words_le {ws : List (List Bool)} {n : Nat} (hn : ws.Nodup) (hl : ∀ w ∈ ws, w.length ≤ n) : ws.length + 1 ≤ 2 ^ (n + 1) := by
  have := nodup_le hn fun w hw => mem_allW (hl w hw)
  have := allW_len n
  omega
theorem Ins.len {ss : List Stf} {L : Nat} (hL : ∀ s ∈ ss, s.1.length ≤ L) {l x : List Bool} (h : Ins ss l x) : x.length + 1 ≤ 2 ^ (L + 1) := by
  have := words_le (ws := (List.range x.length).map fun i => U.tl L (l ++ x.take i)) (n := L) (by
    rw [List.nodup_iff_pairwise_ne, List.pairwise_map]
    refine List.Pairwise.imp_of_mem ?_ List.nodup_range
    intro a b ha hb hne e
    have ha' := List.mem_range.mp ha
    have hb' := List.mem_range.mp hb
    exact hne (h.apart hL (Nat.le_of_lt ha') (Nat.le_of_lt hb') e)) (fun w hw => by
      obtain ⟨i, _, rfl⟩ := List.mem_map.mp hw
      exact tl_le _ _)
  rw [List.length_map, List.length_range] at this
  exact this
def SufFree (ss : List Stf) : Prop := ss.Pairwise fun a b => ¬ a.1 <:+ b.1 ∧ ¬ b.1 <:+ a.1
theorem SufFree.ne {ss : List Stf} (h : SufFree ss) {a b : Stf} (ha : a ∈ ss) (hb : b ∈ ss) (n : a ≠ b) : ¬ a.1 <:+ b.1 := by
  unfold SufFree at h
  induction ss with
  | nil => cases ha
  | cons s r ih =>
    obtain ⟨h1, h2⟩ := List.pairwise_cons.mp h
    rcases List.mem_cons.mp ha with ea | ha'
    · rcases List.mem_cons.mp hb with eb | hb'
      · exact absurd (ea.trans eb.symm) n
      · rw [ea]; exact (h1 _ hb').1
    · rcases List.mem_cons.mp hb with eb | hb'
      · rw [eb]; exact (h1 _ ha').2
      · exact ih h2 ha' hb'
theorem put_iff {ss : List Stf} (h : SufFree ss) {l : List Bool} {b : Bool} : putM ss l = some b ↔ ∃ p, (p, b) ∈ ss ∧ p <:+ l := by
  unfold putM
  constructor
  · intro e
    obtain ⟨s, hs, rfl⟩ := Option.map_eq_some_iff.mp e
    exact ⟨s.1, List.mem_of_find?_eq_some hs, List.isSuffixOf_iff_suffix.mp (List.find?_some (p := fun s : Stf => s.1.isSuffixOf l) hs)⟩
  · rintro ⟨p, hm, hp⟩
    cases e : ss.find? fun s => s.1.isSuffixOf l with
    | none =>
      have := List.find?_eq_none.mp e _ hm
      exact absurd (List.isSuffixOf_iff_suffix.mpr hp) this
    | some s =>
      have hs := List.mem_of_find?_eq_some e
      have hq : s.1 <:+ l := List.isSuffixOf_iff_suffix.mp (List.find?_some (p := fun s : Stf => s.1.isSuffixOf l) e)
      by_cases n : s = (p, b)
      · rw [n]; rfl
      · rcases List.suffix_or_suffix_of_suffix hq hp with z | z
        · exact absurd z (h.ne hs hm n)
        · exact absurd z (h.ne hm hs (Ne.symm n))
theorem SufFree.perm {ss ts : List Stf} (h : SufFree ss) (p : ss.Perm ts) : SufFree ts := by
  unfold SufFree at h ⊢
  exact (List.Perm.pairwise_iff (fun ⟨a, b⟩ => ⟨b, a⟩) p).mp h
theorem put_perm {ss ts : List Stf} (h : SufFree ss) (p : ss.Perm ts) (l : List Bool) : putM ss l = putM ts l := by
  refine Option.ext fun b => ?_
  rw [put_iff h, put_iff (h.perm p)]
  constructor
  · rintro ⟨q, hm, hq⟩; exact ⟨q, p.mem_iff.mp hm, hq⟩
  · rintro ⟨q, hm, hq⟩; exact ⟨q, p.mem_iff.mpr hm, hq⟩
theorem Ins.congr {ss ts : List Stf} (h : ∀ l, putM ss l = putM ts l) {l x : List Bool} (i : Ins ss l x) : Ins ts l x := by
  induction i with
  | stop e => exact .stop (by rw [← h]; exact e)
  | more e _ ih => exact .more (by rw [← h]; exact e) ih
theorem Reach.congr {ss ts : List Stf} (h : ∀ l, putM ss l = putM ts l) {l : List Bool} (r : Reach ss l) : Reach ts l := by
  induction r with
  | nil => exact .nil
  | next _ i ih => exact .next ih (i.congr h)
theorem OkR.congr {ss ts : List Stf} (h : ∀ l, putM ss l = putM ts l) (o : OkR ss) : OkR ts := fun l r b => by
  obtain ⟨x, hx⟩ := o l (r.congr fun l => (h l).symm) b
  exact ⟨x, hx.congr h⟩
def stP (ss : List Stf) (l : List Bool) : List Bool := match putM ss l with
  | none => l
  | some b => l ++ [b]
def itP (ss : List Stf) : Nat → List Bool → List Bool
  | 0, l => l
  | n + 1, l => itP ss n (stP ss l)
theorem itP_succ (ss : List Stf) : ∀ (n : Nat) (l : List Bool), itP ss (n + 1) l = stP ss (itP ss n l)
  | 0, _ => rfl
  | n + 1, l => itP_succ ss n (stP ss l)
theorem itP_stop {ss : List Stf} {l : List Bool} (h : putM ss l = none) : ∀ n, itP ss n l = l
  | 0 => rfl
  | n + 1 => by
    show itP ss n (stP ss l) = l
    have e : stP ss l = l := by unfold stP; rw [h]
    rw [e, itP_stop h n]
theorem itP_add (ss : List Stf) : ∀ (i j : Nat) (l : List Bool), itP ss (i + j) l = itP ss j (itP ss i l)
  | 0, j, l => by rw [Nat.zero_add]; rfl
  | i + 1, j, l => by rw [show i + 1 + j = (i + j) + 1 by omega]; exact itP_add ss i j (stP ss l)
theorem itP_rest {ss : List Stf} {i n : Nat} {l : List Bool} (h : putM ss (itP ss i l) = none) (hi : i ≤ n) : itP ss n l = itP ss i l := by
  rw [show n = i + (n - i) by omega, itP_add, itP_stop h]
theorem itP_or (ss : List Stf) : ∀ (n : Nat) (l : List Bool), (itP ss n l).length = l.length + n ∨ ∃ x, Ins ss l x ∧ itP ss n l = l ++ x
  | 0, l => .inl rfl
  | n + 1, l => by
    cases e : putM ss l with
    | none => exact .inr ⟨[], .stop e, by rw [itP_stop e, List.append_nil]⟩
    | some b =>
      have es : stP ss l = l ++ [b] := by unfold stP; rw [e]
      show (itP ss n (stP ss l)).length = _ ∨ ∃ x, Ins ss l x ∧ itP ss n (stP ss l) = l ++ x
      rw [es]
      rcases itP_or ss n (l ++ [b]) with h | ⟨x, h1, h2⟩
      · left; rw [h, List.length_append, List.length_cons, List.length_nil]; omega
      · exact .inr ⟨b :: x, .more e h1, by rw [h2, List.append_assoc]; rfl⟩
theorem itP_le (ss : List Stf) : ∀ (n : Nat) (l : List Bool), l.length ≤ (itP ss n l).length ∧ (itP ss n l).length ≤ l.length + n
  | 0, l => ⟨Nat.le_refl _, Nat.le_refl _⟩
  | n + 1, l => by
    have h := itP_le ss n (stP ss l)
    have e : l.length ≤ (stP ss l).length ∧ (stP ss l).length ≤ l.length + 1 := by
      unfold stP
      cases putM ss l with
      | none => exact ⟨Nat.le_refl _, Nat.le_succ _⟩
      | some b => show l.length ≤ (l ++ [b]).length ∧ (l ++ [b]).length ≤ _; rw [List.length_append, List.length_cons, List.length_nil]; omega
    show l.length ≤ (itP ss n (stP ss l)).length ∧ (itP ss n (stP ss l)).length ≤ _
    omega
theorem okS_of {ss : List Stf} (kn : List (List Bool)) (hL : ∀ s ∈ ss, s.1.length ≤ 5) (h0 : [] ∈ kn) (hc : ∀ w ∈ kn, ∀ b, (itP ss 24 (w ++ [b])).length ≤ w.length + 20 ∧ tl 5 (itP ss 24 (w ++ [b])) ∈ kn) : OkS ss := by
  have hx : ∀ w ∈ kn, ∀ b, ∃ x, Ins ss (w ++ [b]) x ∧ tl 5 (w ++ [b] ++ x) ∈ kn ∧ x.length ≤ 19 := fun w hw b => by
    obtain ⟨h1, h2⟩ := hc w hw b
    rcases itP_or ss 24 (w ++ [b]) with h | ⟨x, hi, e⟩
    · rw [h, List.length_append, List.length_cons, List.length_nil] at h1; omega
    · rw [e] at h2 h1; exact ⟨x, hi, h2, by rw [List.length_append, List.length_append, List.length_cons, List.length_nil] at h1; omega⟩
  have hr : ∀ l, Reach ss l → ∃ w ∈ kn, tl 5 w = tl 5 l := fun l r => by
    induction r with
    | nil => exact ⟨[], h0, rfl⟩
    | @next l x b r i ih =>
      obtain ⟨w, hw, e⟩ := ih
      obtain ⟨y, hy, hm, _⟩ := hx w hw b
      have e2 := tl_snoc (b := b) e
      have ey := (hy.tl hL e2).det i
      subst ey
      exact ⟨_, hm, by rw [tl_tl (Nat.le_refl 5)]; exact tl_app e2 y⟩
  intro l r b
  obtain ⟨w, hw, e⟩ := hr l r
  obtain ⟨y, hy, _, h19⟩ := hx w hw b
  exact ⟨y, hy.tl hL (tl_snoc e), h19⟩
theorem okS_dec {ss : List Stf} (hL : (ss.all fun s => decide (s.1.length ≤ 5)) = true) (h : ((allW 5).all fun w => [false, true].all fun b => decide ((itP ss 24 (w ++ [b])).length ≤ w.length + 20)) = true) : OkS ss := by
  refine okS_of (allW 5) (fun s hs => of_decide_eq_true (List.all_eq_true.mp hL s hs)) (mem_allW (by decide)) fun w hw b => ⟨?_, mem_allW (tl_le _ _)⟩
  have := List.all_eq_true.mp (List.all_eq_true.mp h w hw) b (by cases b <;> decide)
  exact of_decide_eq_true this
theorem okS_11 : OkS [([true, true], false)] := okS_dec (by decide +kernel) (by decide +kernel)
theorem okS_001 : OkS [([false, false, true], true)] := okS_dec (by decide +kernel) (by decide +kernel)
theorem okS_1 : OkS [([true], false)] := okS_dec (by decide +kernel) (by decide +kernel)
theorem okS_00 : OkS [([false, false], true)] := okS_dec (by decide +kernel) (by decide +kernel)
theorem okS_nil : OkS [] := okS_dec (by decide +kernel) (by decide +kernel)
theorem okR_nil : OkR [] := okS_nil.ok
theorem OkN.congr {n : Nat} {ss ts : List Stf} (h : ∀ l, putM ss l = putM ts l) (o : OkN n ss) : OkN n ts := fun l r b => by
  obtain ⟨x, hx, hl⟩ := o l (r.congr fun l => (h l).symm) b
  exact ⟨x, hx.congr h, hl⟩
inductive Body (ss : List Stf) : List Bool → List Bool → Prop
  | nil : Body ss [] []
  | snoc {m l x : List Bool} {b : Bool} : Body ss m l → Ins ss (l ++ [b]) x → Body ss (m ++ [b]) (l ++ [b] ++ x)
theorem Body.reach {ss : List Stf} {m l : List Bool} (h : Body ss m l) : Reach ss l := by
  induction h with
  | nil => exact .nil
  | snoc _ i ih => exact .next ih i
theorem Body.congr {ss ts : List Stf} (h : ∀ l, putM ss l = putM ts l) {m l : List Bool} (b : Body ss m l) : Body ts m l := by
  induction b with
  | nil => exact .nil
  | snoc _ i ih => exact .snoc ih (i.congr h)
theorem body_steps {N : Nat} {ss : List Stf} (o : OkN N ss) (m : List Bool) : ∃ f : Nat → List Bool, f 0 = [] ∧ (∀ i b, m[i]? = some b → ∃ x, Ins ss (f i ++ [b]) x ∧ x.length ≤ N ∧ f (i + 1) = f i ++ [b] ++ x) ∧ (∀ i, i ≤ m.length → Body ss (m.take i) (f i) ∧ (f i).length ≤ (N + 1) * i) := by
  have step : ∀ (n : Nat) (hn : n ≤ m.length), ∃ f : Nat → List Bool, f 0 = [] ∧ (∀ i b, i < n → m[i]? = some b → ∃ x, Ins ss (f i ++ [b]) x ∧ x.length ≤ N ∧ f (i + 1) = f i ++ [b] ++ x) ∧ (∀ i, i ≤ n → Body ss (m.take i) (f i) ∧ (f i).length ≤ (N + 1) * i) := by
    intro n
    induction n with
    | zero => exact fun _ => ⟨fun _ => [], rfl, fun i b h => absurd h (Nat.not_lt_zero _), fun i h => by rw [Nat.le_zero.mp h, List.take_zero]; exact ⟨.nil, Nat.le_refl _⟩⟩
    | succ n ih =>
      intro hn
      obtain ⟨f, h0, h1, h2⟩ := ih (by omega)
      have hb : m[n]? = some m[n] := List.getElem?_eq_getElem (by omega)
      obtain ⟨hB, hl⟩ := h2 n (Nat.le_refl _)
      obtain ⟨x, hx, hx19⟩ := o (f n) hB.reach m[n]
      refine ⟨fun i => if i = n + 1 then f n ++ [m[n]] ++ x else f i, ?_, fun i b hi hb' => ?_, fun i hi => ?_⟩
      · show (if 0 = n + 1 then _ else f 0) = []
        rw [if_neg (by omega), h0]
      · show ∃ y, Ins ss ((if i = n + 1 then _ else f i) ++ [b]) y ∧ _ ∧ (if i + 1 = n + 1 then f n ++ [m[n]] ++ x else f (i + 1)) = (if i = n + 1 then f n ++ [m[n]] ++ x else f i) ++ [b] ++ y
        rw [if_neg (show ¬ i = n + 1 by omega)]
        by_cases e : i = n
        · subst e
          rw [hb] at hb'
          cases hb'
          rw [if_pos rfl]
          exact ⟨x, hx, hx19, rfl⟩
        · rw [if_neg (by omega)]
          exact h1 i b (by omega) hb'
      · show Body ss (m.take i) (if i = n + 1 then _ else f i) ∧ (if i = n + 1 then f n ++ [m[n]] ++ x else f i).length ≤ (N + 1) * i
        by_cases e : i = n + 1
        · subst e
          rw [if_pos rfl, List.take_add_one, hb]
          refine ⟨.snoc hB hx, ?_⟩
          rw [List.length_append, List.length_append, List.length_cons, List.length_nil, Nat.mul_add]
          omega
        · rw [if_neg e]
          exact h2 i (by omega)
  obtain ⟨f, h0, h1, h2⟩ := step m.length (Nat.le_refl _)
  exact ⟨f, h0, fun i b hb => h1 i b (List.getElem?_eq_some_iff.mp hb).1 hb, h2⟩
theorem Ins.itP {ss : List Stf} {l x : List Bool} (h : Ins ss l x) : ∀ n, itP ss n l = l ++ x.take n := by
  induction h with
  | stop h => intro n; rw [itP_stop h, List.take_nil, List.append_nil]
  | @more l x b h _ ih =>
    intro n
    cases n with
    | zero => rw [List.take_zero, List.append_nil]; rfl
    | succ n =>
      have es : stP ss l = l ++ [b] := by unfold stP; rw [h]
      show U.itP ss n (stP ss l) = _
      rw [es, ih n, List.append_assoc]
      rfl
theorem ins_of_itP {ss : List Stf} {l y : List Bool} {j : Nat} (h : itP ss j l = l ++ y) (hn : putM ss (l ++ y) = none) (hj : y.length = j) : Ins ss l y := by
  rcases itP_or ss (j + 1) l with c | ⟨x, hx, e⟩
  · rw [itP_succ, h] at c
    unfold stP at c
    rw [hn] at c
    have c' : (l ++ y).length = l.length + (j + 1) := c
    rw [List.length_append] at c'
    omega
  · rw [itP_succ, h] at e
    unfold stP at e
    rw [hn] at e
    have e' : l ++ y = l ++ x := e
    rw [List.append_cancel_left e']
    exact hx
def bodyF (ss : List Stf) (m : List Bool) : List Bool := m.foldl (fun l b => itP ss 40 (l ++ [b])) []
theorem Body.isF {ss : List Stf} (o : OkN 39 ss) {m l : List Bool} (h : Body ss m l) : l = bodyF ss m := by
  induction h with
  | nil => rfl
  | @snoc m l x b hb hi ih =>
    obtain ⟨y, hy, h39⟩ := o l hb.reach b
    have e := hi.det hy
    subst e
    unfold bodyF
    rw [List.foldl_append]
    show _ = itP ss 40 (bodyF ss m ++ [b])
    rw [← ih, hi.itP, List.take_of_length_le (by omega)]
theorem body_ex {ss : List Stf} (o : OkN 39 ss) (m : List Bool) : Body ss m (bodyF ss m) := by
  obtain ⟨f, _, _, h⟩ := body_steps o m
  have := (h m.length (Nat.le_refl _)).1
  rw [List.take_length] at this
  rw [← this.isF o]
  exact this
end U
set_option maxRecDepth 100000
set_option maxHeartbeats 4000000
namespace U
open PySem PySem.Spec PyProof.Rows L2
def top (i : Nat) : Stmt := PySem.Challenge.pw_unseenflips_k03_rules_refused.main.body.getD i (.Pass ⟨0, 0, 0, 0⟩)
abbrev s_wall : Stmt := top 0
abbrev s_InvalidRule_init : Stmt := inClass (top 3) 0
abbrev s_InvalidCheck_init : Stmt := inClass (top 4) 0
abbrev s_InvalidText_init : Stmt := inClass (top 5) 0
abbrev s_is_sequence : Stmt := top 8
abbrev s_is_word : Stmt := top 9
abbrev s_is_bit : Stmt := top 10
abbrev s_tail : Stmt := top 11
abbrev s_is_stuff : Stmt := top 13
abbrev s_are_stuffs : Stmt := top 14
abbrev s_stuff_in : Stmt := top 15
abbrev s_Rule_init : Stmt := inClass (top 16) 0
abbrev s_Rule_read : Stmt := inClass (top 16) 1
abbrev s_Rule_longest : Stmt := inClass (top 16) 2
abbrev s_Rule_swapped : Stmt := inClass (top 16) 3
abbrev s_Rule_put : Stmt := inClass (top 16) 4
abbrev s_Rule_put_in : Stmt := inClass (top 16) 5
abbrev s_Rule_is_endless : Stmt := inClass (top 16) 6
abbrev s_Rule_len : Stmt := inClass (top 16) 7
abbrev s_Rule_iter : Stmt := inClass (top 16) 8
abbrev s_Rule_eq : Stmt := inClass (top 16) 9
abbrev s_Rule_str : Stmt := inClass (top 16) 10
abbrev s_l_seed : Stmt := top 18
abbrev s_l_choose : Stmt := top 19
abbrev s_l_one_of : Stmt := top 20
abbrev s_l_word : Stmt := top 21
abbrev s_l_put : Stmt := top 22
abbrev s_l_is_rule : Stmt := top 23
abbrev s_l_rule : Stmt := top 24
abbrev s_l_deep : Stmt := top 25
abbrev s_l_leaf : Stmt := top 26
abbrev s_l_any : Stmt := top 27
abbrev s_l_is_word : Stmt := top 28
abbrev s_l_is_stuff : Stmt := top 29
abbrev s_l_due : Stmt := top 30
abbrev s_l_heard : Stmt := top 31
abbrev s_law : Stmt := top 32
structure Tx (mg : Str → Option Value) : Prop where
  b_len : mg "len" = none
  b_abs : mg "abs" = none
  b_int : mg "int" = none
  b_range : mg "range" = none
  b_max : mg "max" = none
  b_min : mg "min" = none
  b_enumerate : mg "enumerate" = none
  b_zip : mg "zip" = none
  b_dict : mg "dict" = none
  b_list : mg "list" = none
  b_tuple : mg "tuple" = none
  b_isinstance : mg "isinstance" = none
  b_bool : mg "bool" = none
  b_str : mg "str" = none
  b_all : mg "all" = none
  b_any : mg "any" = none
  b_sum : mg "sum" = none
  b_sorted : mg "sorted" = none
  b_repr : mg "repr" = none
end U
set_option maxRecDepth 100000
set_option maxHeartbeats 4000000
namespace U
open PySem PySem.Spec PyProof.Rows
open L2 hiding Fun CX0 E0 pass0 Fun.binds
open C8 Lx
local macro_rules | `(tactic| walk_at "g") => `(tactic| repeat (first | (refine ⟨_, rfl, ?_⟩) | (refine ⟨_, _, rfl, rfl, ?_⟩) | (refine ⟨rfl, ?_⟩) | (refine .inl ⟨_, rfl, ?_⟩)))
def Box (H : Hp) (b : Addr) : Prop := ∃ x y : Int, H b = some (.lst [.int x, .int y])
def Up (b : Addr) (H H' : Hp) : Prop := (∀ c o, H c = some o → c ≠ b → H' c = some o) ∧ Box H' b
theorem Box.same {b : Addr} {H H' : Hp} (h : Box H b) (y : Same H H') : Box H' b := by obtain ⟨i, j, e⟩ := h; exact ⟨i, j, y _ _ e⟩
theorem Up.refl {b : Addr} {H : Hp} (h : Box H b) : Up b H H := ⟨fun _ _ e _ => e, h⟩
theorem Up.trans {b : Addr} {H H1 H2 : Hp} (x : Up b H H1) (y : Up b H1 H2) : Up b H H2 := ⟨fun c o e n => y.1 c o (x.1 c o e n) n, y.2⟩
theorem Up.same {b : Addr} {H H1 H2 : Hp} (x : Up b H H1) (y : Same H1 H2) : Up b H H2 := ⟨fun c o e n => y c o (x.1 c o e n), x.2.same y⟩
theorem Up.of_same {b : Addr} {H H2 : Hp} (h : Box H b) (y : Same H H2) : Up b H H2 := (Up.refl h).same y
theorem same_upd {H : Hp} {p : Addr} {o : HO} (h : H p = none) : Same H (upd H p o) := fun b x e => by
  rw [upd_ne (ne_of_none e h)]
  exact e
theorem same_mut' {H H1 : Hp} {p : Addr} {o : HO} (s : Same H H1) (n : H p = none) : Same H (upd H1 p o) := fun c u e => by
  rw [upd_ne (ne_of_none e n)]
  exact s _ _ e
theorem Box.ne {H : Hp} {b p : Addr} (h : Box H b) (n : H p = none) : p ≠ b := by
  obtain ⟨i, j, e⟩ := h
  intro z
  rw [z, e] at n
  cases n
theorem Box.neT {H : Hp} {b p : Addr} {xs : List V} (h : Box H b) (n : H p = some (.tup xs)) : p ≠ b := by
  obtain ⟨i, j, e⟩ := h
  intro z
  rw [z, e] at n
  cases n
theorem Up.mut {b : Addr} {H H1 : Hp} {p : Addr} {o : HO} (x : Up b H H1) (h : H p = none) (n : p ≠ b) : Up b H (upd H1 p o) :=
  ⟨fun c u e nc => by rw [upd_ne (ne_of_none e h)]; exact x.1 c u e nc, by obtain ⟨i, j, e⟩ := x.2; exact ⟨i, j, by rw [upd_ne (Ne.symm n)]; exact e⟩⟩
theorem Up.free {b : Addr} {H H1 : Hp} {p : Addr} (x : Up b H H1) (h : H1 p = none) : H p = none := by
  cases e : H p with
  | none => rfl
  | some o =>
    by_cases n : p = b
    · obtain ⟨i, j, e2⟩ := x.2
      rw [n, e2] at h
      cases h
    · rw [x.1 p o e n] at h
      cases h
def NL (H H' : Hp) : Prop := ∀ c o, H c = some o → (∀ xs, o ≠ .lst xs) → H' c = some o
theorem NL.refl (H : Hp) : NL H H := fun _ _ e _ => e
theorem NL.trans {H H1 H2 : Hp} (a : NL H H1) (b : NL H1 H2) : NL H H2 := fun c o e n => b c o (a c o e n) n
theorem NL.of {H H' : Hp} (s : Same H H') : NL H H' := fun c o e _ => s c o e
theorem Up.nl {b : Addr} {H H' : Hp} (hb : Box H b) (u : Up b H H') : NL H H' := fun c o e n => u.1 c o e fun z => by
  obtain ⟨i, j, hb⟩ := hb
  rw [z, hb] at e
  exact n _ (Option.some.inj e).symm
theorem nl_upd {H : Hp} {q : Addr} {xs : List V} {o : HO} (h : H q = some (.lst xs)) : NL H (upd H q o) := fun c u e n => by
  have nq : c ≠ q := fun z => by
    rw [z, h] at e
    exact n _ (Option.some.inj e).symm
  rw [upd_ne nq]
  exact e
theorem NL.tup {H H' : Hp} {a : Addr} {xs : List V} (n : NL H H') (h : H a = some (.tup xs)) : H' a = some (.tup xs) := n _ _ h fun _ z => by cases z
theorem NL.ins {H H' : Hp} {a C dx : Addr} {fs : List (Str × V)} (n : NL H H') (h : H a = some (.ins C dx fs)) : H' a = some (.ins C dx fs) := n _ _ h fun _ z => by cases z
def spSeed (K : PySem.W.Frag) : Sp := fun vs H Q _ => ∃ (a : Addr) (ns : List Int) (k : Nat), vs = [.ref a, .int k] ∧ SqL K H a (ns.map V.int) ∧
  ∀ p H', H p = none → Same H H' → Box H' p → Q (.ref p) H'
def spChoose : Sp := fun vs H Q _ => ∃ (b : Addr) (m : Int), vs = [.ref b, .int m] ∧ Box H b ∧ 0 < m ∧ m < 1073741824 ∧
  ∀ (d : Int) H', 0 ≤ d → d < m → Up b H H' → Q (.int d) H'
def spOneOf : Sp := fun vs H Q _ => ∃ (b l : Addr) (xs : List V), vs = [.ref b, .ref l] ∧ Box H b ∧ H l = some (.lst xs) ∧ l ≠ b ∧ 0 < xs.length ∧ xs.length < 1000 ∧
  ∀ (v : V) H', v ∈ xs → Up b H H' → Q v H'
theorem cell_at {ns : List Int} {k : Int} (h0 : 0 ≤ k) (h1 : k < ns.length) : ∃ z, atI (ns.map V.int) k = some (V.int z) := by
  obtain ⟨j, rfl⟩ := Int.eq_ofNat_of_zero_le h0
  have h2 : j < ns.length := by omega
  exact ⟨ns[j], atI_nat (by simp [h2])⟩
section
variable {P : Program} {w : World} {K : PySem.W.Frag} {mg : Str → Option Value} {base : Heap}
theorem sc_l_choose : FnScope ["_law_box", "_law_many", "_law_digit", "_law_raw"] ["_law_box", "_law_many"] (fnScope s_l_choose) := fnScope_by (by decide +kernel)
theorem cal_l_choose {f : Addr} {fd : FuncData} (F : Def K mg "_law_choose" s_l_choose f fd) (b : Binds K fd ["_law_box", "_law_many"] []) (T : Tx mg) : Cal P w K mg base 1 "_law_choose" spChoose [] := by
  refine cal0 F b .nil sc_l_choose (fun vs H Q E h => ?_) (fun cdv A outer s H vs Q E hr h => ?_)
  · obtain ⟨_, _, rfl, _⟩ := h; rfl
  · obtain ⟨bx, m, rfl, ⟨x, y, hb⟩, m0, m1, k⟩ := h
    refine ⟨_, (pss_cons (ps_if (pt_cmpR op_gt (pe_ix ix_list (pv 0) pe_int (fun _ _ => rfl)) pe_int (nomark _)) (pss_cons (ps_set (i := 2) sc_l_choose.nd rfl (.inl rfl) (pe_op op_mod (pe_callTy call_int1 (by rfl) T.b_int (by decide +kernel) (pa_cons (pe_ix ix_list (pv 0) pe_int (fun _ _ => rfl)) pa_nil)) (pv 1)))
    (pss_cons (ps_asg (pe_op op_fdiv (pe_ix ix_list (pv 0) pe_int (fun _ _ => rfl)) (pv 1)) (pg_sub (pv 0) pe_int set_list))
    (pss_one (ps_ret (pv 2))))) pss_nil)
    (pss_cons (ps_set (i := 3) sc_l_choose.nd rfl (.inl rfl) (pe_op op_mod (pe_callTy call_int1 (by rfl) T.b_int (by decide +kernel) (pa_cons (pe_op op_add (pe_op op_mul (pe_ix ix_list (pv 0) pe_int (fun _ _ => rfl)) pe_int) pe_int) pa_nil)) pe_int))
    (pss_cons (ps_asg (pe_op op_add (pe_op op_mod (pe_callTy call_int1 (by rfl) T.b_int (by decide +kernel) (pa_cons (pe_op op_add (pe_op op_mul (pv 3) pe_int) pe_int) pa_nil)) pe_int) pe_int) (pg_sub (pv 0) pe_int set_list))
    (pss_one (ps_ret (pe_op op_mod (pe_callTy call_int1 (by rfl) T.b_int (by decide +kernel) (pa_cons (pe_op op_fdiv (pe_op op_add (pe_op op_mul (pv 3) pe_int) (pe_ix ix_list (pv 0) pe_int (fun _ _ => rfl))) pe_int) pa_nil)) (pv 1))))))), ?_⟩
    have up : ∀ x' y' : Int, Up bx H (upd H bx (.lst [.int x', .int y'])) := fun x' y' => ⟨fun c o e n => by rw [upd_ne n]; exact e, _, _, upd_same⟩
    refine ⟨_, rfl, bx, _, _, _, rfl, rfl, SqL.of hb, atI_nat (j := 0) rfl, _, _, rfl, rfl, _, rfl, ?_⟩
    refine ite2 (fun h1 => ?_) (fun h1 => ?_)
    · refine ⟨_, rfl, bx, _, _, _, rfl, rfl, SqL.of hb, atI_nat (j := 0) rfl, .inl ⟨_, rfl, _, rfl, _, _, rfl, rfl, m0, ?_⟩⟩
      refine ⟨_, rfl, bx, _, _, _, rfl, rfl, SqL.of hb, atI_nat (j := 0) rfl, _, rfl, _, _, rfl, rfl, ⟨m0, m1⟩, _, rfl, bx, _, _, 0, rfl, rfl, hb, rfl, ?_⟩
      exact ⟨_, rfl, k _ _ (Int.emod_nonneg _ (by omega)) (Int.emod_lt_of_pos _ m0) (up _ _)⟩
    · refine ⟨_, rfl, bx, _, _, _, rfl, rfl, SqL.of hb, atI_nat (j := 1) rfl, _, _, rfl, rfl, .inr ⟨by decide, by decide⟩, _, _, rfl, rfl, .inl ⟨_, rfl, _, _, rfl, rfl, (by show (0 : Int) < 2147483563; decide), ?_⟩⟩
      refine ⟨_, rfl, _, _, rfl, rfl, .inr ⟨by decide, by decide⟩, _, _, rfl, rfl, .inl ⟨_, rfl, _, _, rfl, rfl, (by show (0 : Int) < 2147483629; decide), _, _, rfl, rfl, _, rfl, bx, _, _, 1, rfl, rfl, hb, rfl, ?_⟩⟩
      refine ⟨_, rfl, _, _, rfl, rfl, .inr ⟨by decide, by decide⟩, _, rfl, bx, _, _, _, rfl, rfl, SqL.of upd_same, atI_nat (j := 1) rfl, _, _, rfl, rfl, _, _, rfl, rfl, ⟨by decide, by decide⟩, .inl ⟨_, rfl, _, rfl, _, _, rfl, rfl, m0, ?_⟩⟩
      exact k _ _ (Int.emod_nonneg _ (by omega)) (Int.emod_lt_of_pos _ m0) (up _ _)
theorem sc_l_seed : FnScope ["_law_script", "_law_k", "_law_cell"] ["_law_script", "_law_k"] (fnScope s_l_seed) := fnScope_by (by decide +kernel)
theorem cal_l_seed {f : Addr} {fd : FuncData} (F : Def K mg "_law_seed" s_l_seed f fd) (b : Binds K fd ["_law_script", "_law_k"] []) (T : Tx mg) : Cal P w K mg base 1 "_law_seed" (spSeed K) [] := by
  refine cal0 F b .nil sc_l_seed (fun vs H Q E h => ?_) (fun cdv A outer s H vs Q E hr h => ?_)
  · obtain ⟨_, _, _, rfl, _⟩ := h; rfl
  · obtain ⟨a, ns, n, rfl, hS, k⟩ := h
    refine ⟨_, (pss_cons (ps_set (i := 2) sc_l_seed.nd rfl (.inl rfl) (pe_op op_add (pe_op op_mul pe_int (pv 1)) pe_int))
    (pss_cons (ps_if (pt_cmpR op_lt (pv 1) (pe_callB call_len_seq (by rfl) T.b_len (by decide +kernel) (pa_cons (pv 0) pa_nil)) (nomark _)) (pss_one (ps_set (i := 2) sc_l_seed.nd rfl (.inl rfl) (pe_callB call_abs (by rfl) T.b_abs (by decide +kernel) (pa_cons (pe_ix ix_list (pv 0) (pv 1) (fun _ _ => rfl)) pa_nil)))) (pss_one (ps_if (pt_cmpR op_gt (pe_callB call_len_seq (by rfl) T.b_len (by decide +kernel) (pa_cons (pv 0) pa_nil)) pe_int (nomark _)) (pss_one (ps_set (i := 2) sc_l_seed.nd rfl (.inl rfl) (pe_op op_add (pv 2) (pe_op op_mul (pe_op op_mod (pe_callTy call_int1 (by rfl) T.b_int (by decide +kernel) (pa_cons (pe_callB call_abs (by rfl) T.b_abs (by decide +kernel) (pa_cons (pe_ix ix_list (pv 0) (pe_op op_mod (pe_callTy call_int1 (by rfl) T.b_int (by decide +kernel) (pa_cons (pv 1) pa_nil)) (pe_callB call_len_seq (by rfl) T.b_len (by decide +kernel) (pa_cons (pv 0) pa_nil))) (fun _ _ => rfl)) pa_nil)) pa_nil)) pe_int) pe_int)))) pss_nil)))
    (pss_one (ps_ret (pe_lst (pa_cons (pe_ifExp (pt_cmpR op_ge (pv 2) (pe_op op_pow pe_int pe_int) (nomark _)) (pv 2) pe_int) (pa_cons (pe_op op_add (pe_op op_mod (pe_callTy call_int1 (by rfl) T.b_int (by decide +kernel) (pa_cons (pe_op op_add (pe_op op_mul (pe_op op_mod (pe_callTy call_int1 (by rfl) T.b_int (by decide +kernel) (pa_cons (pv 2) pa_nil)) pe_int) pe_int) (pe_op op_mul pe_int (pv 1))) pa_nil)) pe_int) pe_int) pa_nil))))))), ?_⟩
    have fin : ∀ z : Int, tRet (tLst (tCons (tIf (tTest (tOp (rI0 fun i j => V.bl (decide (j ≤ i))) (tVar 2) (tOp (rI CPow fun i j => V.int (i ^ j.toNat)) (tC (V.int 10)) (tC (V.int 18))))) (tVar 2) (tC (V.int 0))) (tCons (tOp (rI0 fun i j => V.int (i + j)) (tOp (rI (fun _ j => 0 < j) fun i j => V.int (i % j)) (tCB (fun xs H Q => (∃ i, xs = [V.int i] ∧ Q (V.int i) H) ∨ ∃ k, xs = [V.bl k] ∧ Q (V.int (if k = true then 1 else 0)) H) (tCons (tOp (rI0 fun i j => V.int (i + j)) (tOp (rI CMul fun i j => V.int (i * j)) (tOp (rI (fun _ j => 0 < j) fun i j => V.int (i % j)) (tCB (fun xs H Q => (∃ i, xs = [V.int i] ∧ Q (V.int i) H) ∨ ∃ k, xs = [V.bl k] ∧ Q (V.int (if k = true then 1 else 0)) H) (tCons (tVar 2) tNil)) (tC (V.int 2147483629))) (tC (V.int 48271))) (tOp (rI CMul fun i j => V.int (i * j)) (tC (V.int 39019)) (tVar 1))) tNil)) (tC (V.int 2147483629))) (tC (V.int 1))) tNil))) { nx := fun _ H' => Q .non H', rt := Q } [some (.ref a), some (.int n), some (.int z)] H := by
      intro z
      refine ⟨_, rfl, _, _, rfl, rfl, ⟨by decide, by decide, by decide⟩, _, _, rfl, rfl, _, rfl, ?_⟩
      refine ite2 (fun h1 => ?_) (fun h1 => ?_)
      all_goals
        first
          | refine ⟨_, rfl, _, rfl, .inl ⟨_, rfl, _, _, rfl, rfl, (by show (0 : Int) < 2147483629; decide), _, _, rfl, rfl, .inr ⟨by decide, by decide⟩, _, rfl, _, _, rfl, rfl, .inl ⟨by decide, by decide⟩, _, _, rfl, rfl, .inl ⟨_, rfl, _, _, rfl, rfl, (by show (0 : Int) < 2147483629; decide), _, _, rfl, rfl, ?_⟩⟩⟩
          | refine ⟨_, rfl, .inl ⟨_, rfl, _, _, rfl, rfl, (by show (0 : Int) < 2147483629; decide), _, _, rfl, rfl, .inr ⟨by decide, by decide⟩, _, rfl, _, _, rfl, rfl, .inl ⟨by decide, by decide⟩, _, _, rfl, rfl, .inl ⟨_, rfl, _, _, rfl, rfl, (by show (0 : Int) < 2147483629; decide), _, _, rfl, rfl, ?_⟩⟩⟩
        exact ⟨by show 2 ≤ sizeLine; decide, fun p hp => k p _ hp (same_upd hp) ⟨_, _, upd_same⟩⟩
    refine ⟨_, rfl, _, _, rfl, rfl, .inl ⟨by decide, by decide⟩, _, _, rfl, rfl, ?_⟩
    refine ⟨_, rfl, _, rfl, a, _, rfl, .inl hS, _, _, rfl, rfl, _, rfl, ?_⟩
    refine ite2 (fun h1 => ?_) (fun h1 => ?_)
    · have h2 : (n : Int) < ((ns.map V.int).length : Int) := of_decide_eq_true h1
      rw [List.length_map] at h2
      obtain ⟨z, hz⟩ := cell_at (ns := ns) (by omega : (0 : Int) ≤ n) h2
      refine ⟨_, rfl, _, rfl, a, _, _, _, rfl, rfl, hS, hz, _, rfl, ?_⟩
      exact fin _
    · refine ⟨_, rfl, a, _, rfl, .inl hS, _, _, rfl, rfl, _, rfl, ?_⟩
      refine ite2 (fun h3 => ?_) (fun h3 => ?_)
      · have h4 : (0 : Int) < ((ns.map V.int).length : Int) := of_decide_eq_true h3
        have h5 := h4
        rw [List.length_map] at h5
        obtain ⟨z, hz⟩ := cell_at (ns := ns) (k := (n : Int) % ((ns.map V.int).length : Int)) (Int.emod_nonneg _ (by omega)) (by have := Int.emod_lt_of_pos (n : Int) h4; rw [List.length_map] at this ⊢; exact this)
        refine ⟨_, rfl, _, rfl, _, rfl, .inl ⟨_, rfl, _, rfl, a, _, rfl, .inl hS, _, _, rfl, rfl, h4, a, _, _, _, rfl, rfl, hS, hz, _, rfl, .inl ⟨_, rfl, _, _, rfl, rfl, (by show (0 : Int) < 2147483629; decide), _, _, rfl, rfl, .inr ⟨by decide, by decide⟩, _, _, rfl, rfl, ?_⟩⟩⟩
        exact fin _
      · exact fin _
theorem sc_l_one_of : FnScope ["_law_box", "_law_some"] ["_law_box", "_law_some"] (fnScope s_l_one_of) := fnScope_by (by decide +kernel)
theorem cal_l_one_of {f : Addr} {fd : FuncData} (F : Def K mg "_law_one_of" s_l_one_of f fd) (b : Binds K fd ["_law_box", "_law_some"] []) (T : Tx mg) (c_l_choose : Cal P w K mg base 1 "_law_choose" spChoose []) : Cal P w K mg base 2 "_law_one_of" spOneOf [] := by
  refine cal0 F b .nil sc_l_one_of (fun vs H Q E h => ?_) (fun cdv A outer s H vs Q E hr h => ?_)
  · obtain ⟨_, _, _, rfl, _⟩ := h; rfl
  · obtain ⟨bx, l, xs, rfl, hb, hl, nl, x0, x1, k⟩ := h
    refine ⟨_, (pss_one (ps_ret (pe_ix ix_list (pv 1) (pe_c c_l_choose hr (by decide) rfl (pa_cons (pv 0) (pa_cons (pe_callB call_len_seq (by rfl) T.b_len (by decide +kernel) (pa_cons (pv 1) pa_nil)) pa_nil))) (fun _ _ => rfl)))), ?_⟩
    refine ⟨_, rfl, _, rfl, _, rfl, l, _, rfl, .inl (SqL.of hl), bx, _, rfl, hb, by omega, by omega, fun d H' d0 d1 u => ?_⟩
    obtain ⟨j, rfl⟩ := Int.eq_ofNat_of_zero_le d0
    have hj : j < xs.length := by omega
    have g : xs[j]? = some xs[j] := by simp [hj]
    exact ⟨l, xs, _, xs[j], rfl, rfl, SqL.of (u.1 l _ hl nl), atI_nat g, k _ _ (List.getElem_mem hj) u⟩
end
end U
set_option maxRecDepth 100000
set_option maxHeartbeats 4000000
namespace U
open PySem PySem.Spec PyProof.Rows
open L2 hiding Fun CX0 E0 pass0 Fun.binds
open C8 Lx SX
def isW (z : Str) : Bool := z.cps.toList.all fun c => decide (c ∈ ("01" : Str).cps.toList)
theorem isW_W (l : List Bool) : isW (W l) = true := by
  unfold isW
  rw [W_tl, List.all_map, List.all_eq_true]
  intro b _
  cases b <;> decide +kernel
def spIsWord (K : PySem.W.Frag) : Sp := fun vs H Q _ => ∃ x, vs = [x] ∧ ((∃ z : Str, x = .str z ∧ z.length ≤ 100000 ∧ ∀ H', Same H H' → Q (.bl (isW z)) H') ∨
  (∃ t, TyX K H x t ∧ PySem.W.kitOne K t (.type "str") = some false ∧ Q (.bl false) H))
theorem spIsWord.word {K : PySem.W.Frag} {H : Hp} {Q : VK} {E : XK} {l : List Bool} (hl : l.length ≤ 100000) (k : ∀ H', Same H H' → Q (.bl true) H') : spIsWord K [.str (W l)] H Q E :=
  ⟨_, rfl, .inl ⟨_, rfl, by rw [W_len]; exact hl, fun H' s => by rw [isW_W]; exact k H' s⟩⟩
section
variable {P : Program} {w : World} {K : PySem.W.Frag} {mg : Str → Option Value} {base : Heap}
theorem sc_is_word : FnScope ["value", "sign"] ["value"] (fnScope s_is_word) := fnScope_by (by decide +kernel)
theorem cal_is_word {f : Addr} {fd : FuncData} {tB : Tok} (F : Def K mg "is_word" s_is_word f fd) (b : Binds K fd ["value"] []) (T : Tx mg) (g_BITS : mg "BITS" = some (.str "01" tB)) : Cal P w K mg base 1 "is_word" (spIsWord K) [] := by
  refine cal0 F b .nil sc_is_word (fun vs H Q E h => ?_) (fun cdv A outer s H vs Q E hr h => ?_)
  · obtain ⟨_, rfl, _⟩ := h; rfl
  · obtain ⟨_, rfl, h⟩ := h
    refine ⟨_, (pss_one (ps_ret (pe_and (pe_callB call_isi (by rfl) T.b_isinstance (by decide +kernel) (pa_cons (pv 0) (pa_cons (pe_bltn (v := .ty "str") (u := .type "str") (by rfl) T.b_str (by decide +kernel) rfl) pa_nil))) (pe_one (pe_callB (cr_all rfl) (by rfl) T.b_all (by decide +kernel) (pa_cons (pe_lc (own := [("sign", 1)]) (g := gName 1) (by rfl) sc_is_word.nd (pi_str (pv 0)) (blkOk_by (own := [("sign", 1)]) (N := ["value", "sign"]) (sc := fnScope s_is_word) (by decide +kernel)) (fun _ _ _ _ _ => (pg_name (i := 1) sc_is_word.nd rfl (.inl rfl))) (fun _ _ _ _ _ => pts_nil) (fun _ _ _ _ _ => (pe_cmpR op_in_sign (pv 1) (pe_glob (v := .str "01") (by rfl) g_BITS ⟨_, rfl⟩) (by with_unfolding_all rfl)))) pa_nil)))))), ?_⟩
    rcases h with ⟨z, rfl, hz, k⟩ | ⟨t, ht, hk, k⟩
    · refine ⟨_, rfl, _, _, _, _, true, rfl, .ty _, .base (.str z), kit_ty (by decide +kernel), _, rfl, ?_⟩
      refine ⟨_, rfl, z, rfl, fun D nD => ?_⟩
      refine lc_it walk_str (fun i H2 => Same H H2 ∧ H2 D = some (.lst (((z.cps.toList.take i).map fun c => decide (c ∈ ("01" : Str).cps.toList)).map V.bl))) ⟨same_upd nD, upd_same⟩ (fun _ _ _ _ => trivial) ?_ ?_
      · rintro i x H2 H3 hi ⟨s2, hD⟩ ⟨rfl, c, hc, rfl⟩
        refine ⟨rfl, ?_⟩
        refine ⟨_, rfl, c, _, rfl, rfl, _, hD, ?_, ?_, ?_⟩
        · rw [List.length_map, List.length_map, List.length_take]
          have e : z.length = z.cps.toList.length := TL.len_tl z
          exact sl_lt (by have : z.cps.size = z.cps.toList.length := by simp
                          omega)
        · intro c' o e
          rw [upd_ne (ne_of_none e nD)]
          exact s2 _ _ e
        · have hc' : z.cps.toList[i]? = some c := by rw [Array.getElem?_toList]; exact hc
          rw [upd_same, List.take_add_one, hc']
          simp
      · rintro H2 ⟨s2, hD⟩
        have e : z.cps.toList.take z.cps.size = z.cps.toList := List.take_of_length_le (by simp)
        rw [e] at hD
        refine ⟨D, _, rfl, SqL.of hD, ?_⟩
        have e2 : (List.map (fun c => decide (c ∈ ("01" : Str).cps.toList)) z.cps.toList).all id = isW z := by
          unfold isW
          rw [List.all_map]
          rfl
        rw [e2]
        exact k H2 s2
    · exact ⟨_, rfl, _, _, _, _, false, rfl, .ty _, ht, hk, _, rfl, k⟩
end
end U
set_option maxRecDepth 100000
set_option maxHeartbeats 4000000
namespace U
open PySem PySem.Spec PyProof.Rows
open L2 hiding Fun CX0 E0 pass0 Fun.binds
open C8 Lx SX
def AnyS (K : PySem.W.Frag) (H : Hp) (x : V) : Prop := (∃ z : Str, x = .str z ∧ z.length ≤ 10000 ∧ PyData.strOk z = true) ∨ ((∀ z, x ≠ .str z) ∧ ∃ t, PySem.W.kitOne K t (.type "str") = some false ∧ ∀ H', Same H H' → TyX K H' x t)
theorem AnyS.same {K : PySem.W.Frag} {H H' : Hp} {x : V} (h : AnyS K H x) (s : Same H H') : AnyS K H' x := by
  rcases h with h | ⟨h1, t, h2, h3⟩
  · exact .inl h
  · exact .inr ⟨h1, t, h2, fun H2 s2 => h3 H2 (s.trans s2)⟩
def AnyU (K : PySem.W.Frag) (b : Addr) (H : Hp) (x : V) : Prop := ∀ H', Up b H H' → AnyS K H' x
theorem AnyU.up {K : PySem.W.Frag} {b : Addr} {H H' : Hp} {x : V} (h : AnyU K b H x) (u : Up b H H') : AnyU K b H' x := fun H2 u2 => h H2 (u.trans u2)
theorem AnyU.now {K : PySem.W.Frag} {b : Addr} {H : Hp} {x : V} (h : AnyU K b H x) (hb : Box H b) : AnyS K H x := h H (Up.refl hb)
theorem anyS_str {K : PySem.W.Frag} {H : Hp} {z : Str} (h : z.length ≤ 10000) (o : PyData.strOk z = true) : AnyS K H (.str z) := .inl ⟨z, rfl, h, o⟩
theorem anyS_non {K : PySem.W.Frag} {H : Hp} : AnyS K H .non := .inr ⟨(fun _ z => by cases z), _, kit_ty (by decide +kernel), fun _ _ => .base .non⟩
theorem anyS_bl {K : PySem.W.Frag} {H : Hp} (x : Bool) : AnyS K H (.bl x) := .inr ⟨(fun _ z => by cases z), _, kit_ty (by decide +kernel), fun _ _ => .base (.bl x)⟩
theorem anyS_int {K : PySem.W.Frag} {H : Hp} (i : Int) : AnyS K H (.int i) := .inr ⟨(fun _ z => by cases z), _, kit_ty (by decide +kernel), fun _ _ => .base (.int i)⟩
theorem anyS_lst {K : PySem.W.Frag} {H : Hp} {a : Addr} {xs : List V} (e : H a = some (.lst xs)) : AnyS K H (.ref a) := .inr ⟨(fun _ z => by cases z), _, kit_ty (by decide +kernel), fun _ s => .base (.lst (s _ _ e))⟩
theorem anyS_tup {K : PySem.W.Frag} {H : Hp} {a : Addr} {xs : List V} (e : H a = some (.tup xs)) : AnyS K H (.ref a) := .inr ⟨(fun _ z => by cases z), _, kit_ty (by decide +kernel), fun _ s => .base (.tup (s _ _ e))⟩
theorem anyU_str {K : PySem.W.Frag} {b : Addr} {H : Hp} {z : Str} (h : z.length ≤ 10000) (o : PyData.strOk z = true) : AnyU K b H (.str z) := fun _ _ => anyS_str h o
theorem anyU_lst {K : PySem.W.Frag} {b : Addr} {H : Hp} {a : Addr} {xs : List V} (e : H a = some (.lst xs)) (n : a ≠ b) : AnyU K b H (.ref a) := fun _ u => anyS_lst (u.1 _ _ e n)
theorem anyU_tup {K : PySem.W.Frag} {b : Addr} {H : Hp} {a : Addr} {xs : List V} (hb : Box H b) (e : H a = some (.tup xs)) : AnyU K b H (.ref a) := fun _ u => anyS_tup (u.1 _ _ e (hb.neT e))
def wordB : V → Bool
  | .str z => isW z
  | _ => false
theorem AnyS.no {K : PySem.W.Frag} {H : Hp} {x : V} (h : ∀ z, x ≠ .str z) : wordB x = false := by
  unfold wordB
  split
  · exact absurd rfl (h _)
  · rfl
theorem spIsWord.any {K : PySem.W.Frag} {H : Hp} {Q : VK} {E : XK} {x : V} (h : AnyS K H x) (k : ∀ H', Same H H' → Q (.bl (wordB x)) H') : spIsWord K [x] H Q E := by
  rcases h with ⟨z, rfl, hz, _⟩ | ⟨h1, t, h2, h3⟩
  · exact ⟨_, rfl, .inl ⟨z, rfl, by omega, k⟩⟩
  · refine ⟨_, rfl, .inr ⟨t, h3 H (Same.refl H), h2, ?_⟩⟩
    have := k H (Same.refl H)
    rw [AnyS.no (K := K) (H := H) h1] at this
    exact this
def unW (z : Str) : List Bool := z.cps.toList.map fun c => decide (c = 49)
theorem isW_un {z : Str} (h : isW z = true) : z = W (unW z) := by
  refine TL.ext_tl ?_
  have e : TL.tl (W (unW z)) = (unW z).map bt := W_tl _
  rw [e]
  unfold unW
  rw [List.map_map]
  unfold isW at h
  rw [List.all_eq_true] at h
  have e2 : TL.tl z = z.cps.toList := rfl
  rw [e2]
  have key : ∀ l : List Nat, (∀ c ∈ l, decide (c ∈ ("01" : Str).cps.toList) = true) → l = l.map (bt ∘ fun c => decide (c = 49)) := fun l => by
    induction l with
    | nil => intro _; rfl
    | cons c r ih =>
      intro hl
      rw [List.map_cons, ← ih fun u hu => hl u (List.mem_cons_of_mem _ hu)]
      have hc := of_decide_eq_true (hl c List.mem_cons_self)
      have e0 : ("01" : Str).cps.toList = [48, 49] := by decide +kernel
      rw [e0] at hc
      congr 1
      rcases List.mem_cons.mp hc with rfl | hc
      · rfl
      · rw [List.mem_singleton.mp hc]; rfl
  exact key _ h
theorem wordB_W {l : List Bool} : wordB (.str (W l)) = true := isW_W l
theorem wordB_some {x : V} (h : wordB x = true) : ∃ l, x = .str (W l) := by
  unfold wordB at h
  split at h
  · rename_i z
    exact ⟨unW z, by rw [← isW_un h]⟩
  · cases h
end U
set_option maxRecDepth 100000
set_option maxHeartbeats 4000000
namespace Lx
open PySem PySem.Spec PyProof.Rows L2
theorem Sq.of_same {K : PySem.W.Frag} {H H' : Hp} {a : Addr} {xs : List V} (h : Sq K H a xs) (e : Same H H') : Sq K H' a xs := h.same e
theorem iSeq_var {K : PySem.W.Frag} {i : Nat} {σ : L2.St} {H : Hp} {R : It → Hp → Prop} {a : Addr} {xs : List V} (hv : σ[i]? = some (some (.ref a))) (hS : Sq K H a xs)
    (h : ∀ (J : It) (G : Hp → Prop), (∀ H', Same H H' → G H') → Walk J xs.length G (YAt xs) → R J H) : iSeq K (tVar i) σ H R := by
  rcases hS with hS | hS
  · exact .inl ⟨_, hv, a, rfl, ⟨xs, hS⟩, h _ _ (fun H' s => s.seq hS) walk_list⟩
  · exact .inr ⟨_, hv, a, rfl, ⟨xs, hS⟩, h _ _ (fun H' s => same_tup s hS) walk_tup⟩
theorem iEnumQ_var {K : PySem.W.Frag} {i : Nat} {σ : L2.St} {H : Hp} {R : It → Hp → Prop} {a : Addr} {xs : List V} (hv : σ[i]? = some (some (.ref a))) (hS : Sq K H a xs)
    (h : ∀ (J : It) (G : Hp → Prop), (∀ H', Same H H' → G H') → Walk J xs.length G (YPair (fun i => some (.int (i : Nat))) (fun i => xs[i]?)) → R J H) : iEnumQ K (tCons (tVar i) tNil) σ H R := by
  rcases hS with hS | hS
  · exact .inl ⟨_, hv, a, xs, rfl, hS, h _ _ (fun H' s => s.seq hS) walk_enum⟩
  · exact .inr ⟨_, hv, a, xs, rfl, hS, h _ _ (fun H' s => same_tup s hS) walk_enumT⟩
theorem cut_whole {xs : List V} {lo hi : Option Int} (h1 : HT.sIx xs.length 0 lo = 0) (h2 : HT.sIx xs.length xs.length hi = xs.length) : cutV xs lo hi = xs := by
  unfold cutV
  rw [h1, h2, List.drop_zero, Nat.sub_zero, List.take_length]
theorem slQ_of {K : PySem.W.Frag} {H : Hp} {Q : VK} {a : Addr} {xs : List V} {lo hi : Option Int} (hS : Sq K H a xs) (h : ∀ p H', Same H H' → Sq K H' p (cutV xs lo hi) → Q (.ref p) H') : rSlL K (.ref a) lo hi H Q ∨ rSlA K (.ref a) lo hi H Q := by
  rcases hS with hS | hS
  · exact .inl ⟨a, xs, rfl, hS, fun p hp => h p _ (fun b x e => by rw [upd_ne (ne_of_none e hp)]; exact e) (.inl (SqL.of upd_same))⟩
  · refine .inr ⟨a, xs, rfl, hS, fun c => h a H (Same.refl H) ?_, fun _ p hp => h p _ (fun b x e => by rw [upd_ne (ne_of_none e hp)]; exact e) (.inr (SqT.of upd_same))⟩
    rw [cut_whole c.1 c.2]
    exact .inr hS
theorem Sq.star {K : PySem.W.Frag} {H : Hp} {a : Addr} {xs : List V} (h : Sq K H a xs) : SqT K H a xs ∨ SqL K H a xs := h.elim .inr .inl
end Lx
namespace U
open PySem PySem.Spec PyProof.Rows
open L2 hiding Fun CX0 E0 pass0 Fun.binds
open C8 Lx SX StX
theorem W_ends (l p : List Bool) : Txt.endswith (W l) (W p) = p.isSuffixOf l := by
  unfold Txt.endswith
  rw [PySem.StrLaws.subAt_eq, W_len, W_len, W_tl, W_tl, ← List.map_drop, ← List.map_take, Bool.eq_iff_iff, List.isSuffixOf_iff_suffix, Bool.and_eq_true, decide_eq_true_eq, beq_iff_eq]
  constructor
  · rintro ⟨h1, h2⟩
    have h3 := map_bt_inj h2
    rw [List.take_of_length_le (by rw [List.length_drop]; omega)] at h3
    rw [← h3]
    exact List.drop_suffix _ _
  · intro h
    have hl := h.length_le
    refine ⟨by omega, ?_⟩
    rw [List.take_of_length_le (by rw [List.length_drop]; omega), ← List.suffix_iff_eq_drop.mp h]
theorem W_tail (l : List Bool) (n : Nat) : Txt.slice (W l) (some (if (((W l).length : Nat) : Int) - (n : Int) > 0 then (((W l).length : Nat) : Int) - (n : Int) else 0)) none = W (tl n l) := by
  rw [W_drop (by split <;> omega)]
  congr 1
  unfold tl
  rw [W_len]
  congr 1
  split <;> omega
def StV (H : Hp) (kb : Addr → Stf) (ps : List Addr) : Prop := ∀ t ∈ ps, H t = some (.tup [.str (W (kb t).1), .str (W [(kb t).2])])
theorem StV.same {H H' : Hp} {kb : Addr → Stf} {ps : List Addr} (h : StV H kb ps) (e : Same H H') : StV H' kb ps := fun t ht => e _ _ (h t ht)
theorem StV.nl {H H' : Hp} {kb : Addr → Stf} {ps : List Addr} (h : StV H kb ps) (e : NL H H') : StV H' kb ps := fun t ht => e.tup (h t ht)
theorem StV.perm {H : Hp} {kb : Addr → Stf} {ps qs : List Addr} (h : StV H kb ps) (p : qs.Perm ps) : StV H kb qs := fun t ht => h t (p.mem_iff.mp ht)
def ruF (f : List Bool) (t : Addr) : List (Str × V) := putF "stuffs" (.ref t) (putF "flag" (.str (W f)) [])
theorem fs_ne : ¬ (("flag" : Str) = "stuffs") := by decide +kernel
theorem ruF_flag (f : List Bool) (t : Addr) : (ruF f t).lookup ("flag" : Str) = some (.str (W f)) := by
  unfold ruF
  rw [lookup_putF, if_neg fs_ne, lookup_putF, if_pos rfl]
theorem ruF_stuffs (f : List Bool) (t : Addr) : (ruF f t).lookup ("stuffs" : Str) = some (.ref t) := by
  unfold ruF
  rw [lookup_putF, if_pos rfl]
theorem ruF_no (f : List Bool) (t : Addr) {m : Str} (h1 : ¬ m = "stuffs") (h2 : ¬ m = "flag") : (ruF f t).lookup m = none := by
  unfold ruF
  rw [lookup_putF, if_neg h1, lookup_putF, if_neg h2]
  all_goals rfl
def RuAt (C : Addr) (H : Hp) (a : Addr) (f : List Bool) (ss : List Stf) : Prop :=
  ∃ dx t ps kb, H a = some (.ins C dx (ruF f t)) ∧ H t = some (.tup (ps.map V.ref)) ∧ StV H kb ps ∧ ss = ps.map kb
theorem RuAt.same {C : Addr} {H H' : Hp} {a : Addr} {f : List Bool} {ss : List Stf} (h : RuAt C H a f ss) (e : Same H H') : RuAt C H' a f ss := by
  obtain ⟨dx, t, ps, kb, h1, h2, h3, h4⟩ := h
  exact ⟨dx, t, ps, kb, e _ _ h1, e _ _ h2, h3.same e, h4⟩
theorem RuAt.nl {C : Addr} {H H' : Hp} {a : Addr} {f : List Bool} {ss : List Stf} (h : RuAt C H a f ss) (e : NL H H') : RuAt C H' a f ss := by
  obtain ⟨dx, t, ps, kb, h1, h2, h3, h4⟩ := h
  exact ⟨dx, t, ps, kb, e.ins h1, e.tup h2, h3.nl e, h4⟩
def longM (ss : List Stf) : Nat := ss.foldr (fun s m => max s.1.length m) 0
theorem longM_le : ∀ {ss : List Stf} {s : Stf}, s ∈ ss → s.1.length ≤ longM ss
  | x :: r, s, h => by
    show s.1.length ≤ max x.1.length (longM r)
    rcases List.mem_cons.mp h with e | h
    · rw [e]; omega
    · have := longM_le h; omega
theorem longM_max : ∀ {ss : List Stf} {n : Nat}, (∀ s ∈ ss, s.1.length ≤ n) → longM ss ≤ n
  | [], _, _ => Nat.zero_le _
  | x :: r, n, h => by
    have := longM_max (ss := r) fun s hs => h s (List.mem_cons_of_mem _ hs)
    have := h x List.mem_cons_self
    show max x.1.length (longM r) ≤ n
    omega
theorem longM_perm {ss ts : List Stf} (p : ss.Perm ts) : longM ss = longM ts :=
  Nat.le_antisymm (longM_max fun s hs => longM_le (p.mem_iff.mp hs)) (longM_max fun s hs => longM_le (p.mem_iff.mpr hs))
theorem longM_is {ss : List Stf} {m : Int} (hm : m ∈ (0 : Int) :: ss.map fun s => (s.1.length : Int)) (hx : ∀ y ∈ (0 : Int) :: ss.map fun s => (s.1.length : Int), y ≤ m) : m = (longM ss : Nat) := by
  have h0 := hx 0 List.mem_cons_self
  have h1 : longM ss ≤ m.toNat := longM_max fun s hs => by
    have := hx _ (List.mem_cons_of_mem _ (List.mem_map_of_mem (f := fun s : Stf => (s.1.length : Int)) hs))
    omega
  rcases List.mem_cons.mp hm with e | h
  · omega
  · obtain ⟨s, hs, rfl⟩ := List.mem_map.mp h
    have := longM_le hs
    omega
def oB : Option Bool → V
  | none => .non
  | some b => .str (W [b])
theorem oB_non (o : Option Bool) : decide (oB o = .non) = o.isNone := by
  cases o with
  | none => exact decide_eq_true rfl
  | some b => exact decide_eq_false (fun z => by cases z)
structure RuT (K : PySem.W.Frag) (C : Addr) : Prop where
  cl : Cls K C
  nF : NoAttr K C "flag"
  nS : NoAttr K C "stuffs"
def spIsSeq (K : PySem.W.Frag) : Sp := fun vs H Q _ => ∃ a xs, vs = [.ref a] ∧ Sq K H a xs ∧ ∀ H', Same H H' → Q (.bl true) H'
def spIsBit : Sp := fun vs H Q _ => ∃ b, vs = [.str (W [b])] ∧ ∀ H', Same H H' → Q (.bl true) H'
def spIsStuff : Sp := fun vs H Q _ => ∃ (t : Addr) (p : List Bool) (b : Bool), vs = [.ref t] ∧ H t = some (.tup [.str (W p), .str (W [b])]) ∧ p ≠ [] ∧ p.length ≤ 1000 ∧ ∀ H', Same H H' → Q (.bl true) H'
def spTail : Sp := fun vs H Q _ => ∃ (l : List Bool) (n : Nat), vs = [.str (W l), .int n] ∧ l.length ≤ 100000 ∧ Q (.str (W (tl n l))) H
def spLongest (C : Addr) : Sp := fun vs H Q _ => ∃ (a : Addr) (f : List Bool) (ss : List Stf), vs = [.ref a] ∧ RuAt C H a f ss ∧ ss.length ≤ 1000 ∧ (∀ s ∈ ss, s.1.length ≤ 1000) ∧ ∀ H', Same H H' → Q (.int (longM ss : Nat)) H'
def spPut (C : Addr) : Sp := fun vs H Q _ => ∃ (a : Addr) (f : List Bool) (ss : List Stf) (l : List Bool), vs = [.ref a, .str (W l)] ∧ RuAt C H a f ss ∧ ∀ H', Same H H' → Q (oB (putM ss l)) H'
section
variable {P : Program} {w : World} {K : PySem.W.Frag} {mg : Str → Option Value} {base : Heap}
theorem sc_is_sequence : FnScope ["value"] ["value"] (fnScope s_is_sequence) := fnScope_by (by decide +kernel)
theorem cal_is_sequence {f : Addr} {fd : FuncData} (F : Def K mg "is_sequence" s_is_sequence f fd) (b : Binds K fd ["value"] []) (T : Tx mg) : Cal P w K mg base 1 "is_sequence" (spIsSeq K) [] := by
  refine cal0 F b .nil sc_is_sequence (fun vs H Q E h => ?_) (fun cdv A outer s H vs Q E hr h => ?_)
  · obtain ⟨_, _, rfl, _⟩ := h; rfl
  · obtain ⟨a, xs, rfl, hS, k⟩ := h
    refine ⟨_, (pss_one (ps_ret (pe_callB call_isiT (by rfl) T.b_isinstance (by decide +kernel) (pa_cons (pv 0) (pa_cons (pe_tup (pa_cons (pe_bltn (v := .ty "list") (u := .type "list") (by rfl) T.b_list (by decide +kernel) rfl) (pa_cons (pe_bltn (v := .ty "tuple") (u := .type "tuple") (by rfl) T.b_tuple (by decide +kernel) rfl) pa_nil))) pa_nil))))), ?_⟩
    refine ⟨_, rfl, by show 2 ≤ sizeLine; decide, fun tp htp => ?_⟩
    have hS' := hS.same (same_upd (o := .tup [.ty "list", .ty "tuple"]) htp)
    rcases hS' with hS' | hS'
    · exact ⟨_, tp, _, _, _, true, rfl, upd_same, .cons (.ty _) (.cons (.ty _) .nil), ty_list hS', by first | exact kit_any (by decide +kernel) | rfl | decide +kernel, k _ (same_upd htp)⟩
    · exact ⟨_, tp, _, _, _, true, rfl, upd_same, .cons (.ty _) (.cons (.ty _) .nil), ty_tup hS', by first | exact kit_any (by decide +kernel) | rfl | decide +kernel, k _ (same_upd htp)⟩
theorem sc_is_bit : FnScope ["value"] ["value"] (fnScope s_is_bit) := fnScope_by (by decide +kernel)
theorem cal_is_bit {f : Addr} {fd : FuncData} (F : Def K mg "is_bit" s_is_bit f fd) (b : Binds K fd ["value"] []) (T : Tx mg) (c_is_word : Cal P w K mg base 1 "is_word" (spIsWord K) []) : Cal P w K mg base 2 "is_bit" spIsBit [] := by
  refine cal0 F b .nil sc_is_bit (fun vs H Q E h => ?_) (fun cdv A outer s H vs Q E hr h => ?_)
  · obtain ⟨_, rfl, _⟩ := h; rfl
  · obtain ⟨x, rfl, k⟩ := h
    refine ⟨_, (pss_one (ps_ret (pe_and (pe_c c_is_word hr (by decide) rfl (pa_cons (pv 0) pa_nil)) (pe_one (pe_cmpR op_eq (pe_callB call_len_str (by rfl) T.b_len (by decide +kernel) (pa_cons (pv 0) pa_nil)) pe_int (nomark _)))))), ?_⟩
    have l1 : (W [x]).length = 1 := W_len _
    refine ⟨_, rfl, _, rfl, .inl ⟨_, rfl, by rw [l1]; decide, fun H1 s1 => ⟨_, rfl, iteBT (isW_W _) ?_⟩⟩⟩
    refine ⟨_, rfl, _, rfl, by rw [l1]; decide, ?_⟩
    rw [l1]
    exact ⟨rfl, q_dec (Q := Q) rfl (k H1 s1)⟩
theorem sc_is_stuff : FnScope ["value"] ["value"] (fnScope s_is_stuff) := fnScope_by (by decide +kernel)
theorem cal_is_stuff {f : Addr} {fd : FuncData} (F : Def K mg "is_stuff" s_is_stuff f fd) (b : Binds K fd ["value"] []) (T : Tx mg) (c_is_word : Cal P w K mg base 1 "is_word" (spIsWord K) []) (c_is_bit : Cal P w K mg base 2 "is_bit" spIsBit []) : Cal P w K mg base 3 "is_stuff" spIsStuff [] := by
  refine cal0 F b .nil sc_is_stuff (fun vs H Q E h => ?_) (fun cdv A outer s H vs Q E hr h => ?_)
  · obtain ⟨_, _, _, rfl, _⟩ := h; rfl
  · obtain ⟨t, p, x, rfl, ht, hp, hl, k⟩ := h
    refine ⟨_, (pss_cons (ps_if (PW.pt (pw_or (pt_not (pt_val (pe_callB call_isi (by rfl) T.b_isinstance (by decide +kernel) (pa_cons (pv 0) (pa_cons (pe_bltn (v := .ty "tuple") (u := .type "tuple") (by rfl) T.b_tuple (by decide +kernel) rfl) pa_nil))))) (pw_or1 (pt_cmpR op_ne (pe_callB call_len_seq (by rfl) T.b_len (by decide +kernel) (pa_cons (pv 0) pa_nil)) pe_int (nomark _))))) (pss_one (ps_ret pe_bl)) pss_nil)
    (pss_one (ps_ret (pe_and (pe_c c_is_word hr (by decide) rfl (pa_cons (pe_ix ix_tup (pv 0) pe_int (fun _ _ => rfl)) pa_nil)) (pe_and (pe_cmpR op_gt (pe_callB call_len_str (by rfl) T.b_len (by decide +kernel) (pa_cons (pe_ix ix_tup (pv 0) pe_int (fun _ _ => rfl)) pa_nil)) pe_int (nomark _)) (pe_one (pe_c c_is_bit hr (by decide) rfl (pa_cons (pe_ix ix_tup (pv 0) pe_int (fun _ _ => rfl)) pa_nil)))))))), ?_⟩
    have lp : (W p).length ≤ sizeLine := by rw [W_len]; exact sl_len (by omega)
    refine ⟨_, rfl, _, _, _, _, true, rfl, .ty _, .base (.tup ht), kit_ty (by decide +kernel), _, rfl, ?_⟩
    refine ⟨_, rfl, t, _, rfl, .inr (SqT.of ht), rfl, _, rfl, iteNS rfl ?_⟩
    refine ⟨_, rfl, t, _, 0, _, rfl, rfl, SqT.of ht, rfl, _, rfl, .inl ⟨_, rfl, by rw [W_len]; omega, fun H1 s1 => ⟨_, rfl, iteBT (isW_W _) ?_⟩⟩⟩
    have ht1 := s1 _ _ ht
    refine ⟨_, rfl, t, _, 0, _, rfl, rfl, SqT.of ht1, rfl, _, rfl, lp, ?_⟩
    refine ⟨_, _, rfl, rfl, _, rfl, iteDT ?_ ?_⟩
    · rw [W_len]
      have : p.length ≠ 0 := fun z => hp (List.length_eq_zero_iff.mp z)
      omega
    · refine ⟨_, rfl, t, _, 1, _, rfl, rfl, SqT.of ht1, rfl, x, rfl, fun H2 s2 => k H2 (s1.trans s2)⟩
theorem sc_tail : FnScope ["line", "size"] ["line", "size"] (fnScope s_tail) := fnScope_by (by decide +kernel)
theorem cal_tail {f : Addr} {fd : FuncData} (F : Def K mg "tail" s_tail f fd) (b : Binds K fd ["line", "size"] []) (T : Tx mg) : Cal P w K mg base 1 "tail" spTail [] := by
  refine cal0 F b .nil sc_tail (fun vs H Q E h => ?_) (fun cdv A outer s H vs Q E hr h => ?_)
  · obtain ⟨_, _, rfl, _⟩ := h; rfl
  · obtain ⟨l, n, rfl, hl, k⟩ := h
    refine ⟨_, (pss_one (ps_ret (pe_slice sl_txt (pv 0) (po_some (pe_callB (call_max2 rfl) (by rfl) T.b_max (by decide +kernel) (pa_cons pe_int (pa_cons (pe_op op_sub (pe_callB call_len_str (by rfl) T.b_len (by decide +kernel) (pa_cons (pv 0) pa_nil)) (pv 1)) pa_nil)))) po_none))), ?_⟩
    have lw : (W l).length ≤ sizeLine := by rw [W_len]; exact sl_len (by omega)
    refine ⟨_, rfl, _, rfl, _, rfl, lw, _, rfl, _, _, rfl, rfl, _, _, rfl, _, rfl, _, rfl, lw, ?_⟩
    rw [W_tail]
    exact k
theorem sc_Rule_longest : FnScope ["self", "pattern", "bit"] ["self"] (fnScope s_Rule_longest) := fnScope_by (by decide +kernel)
theorem ok_longest {f C : Addr} {fd : FuncData} (F : C8.Fun K "longest" "Rule.longest" s_Rule_longest f fd) (T : Tx mg) (RT : RuT K C) : FnOk P w K mg base CX0 1 f fd ["self"] (spLongest C) := by
  refine fn0 F sc_Rule_longest (fun vs H Q E h => ?_) (fun cdv A outer s H vs Q E hr h => ?_)
  · obtain ⟨_, _, _, rfl, _⟩ := h; rfl
  · obtain ⟨a, fl, ss, rfl, ⟨dx, t, ps, kb, ha, ht, hs, rfl⟩, hn, hl, k⟩ := h
    refine ⟨_, (pss_one (ps_ret (pe_callB (cr_max rfl) (by rfl) T.b_max (by decide +kernel) (pa_cons (pe_lst (pa_cons pe_int (pa_star (pe_lc (own := [("pattern", 1), ("bit", 2)]) (g := gTup K 2 (gCons (gName 1) (gCons (gName 2) gNil))) (by rfl) sc_Rule_longest.nd (pi_tup (pe_fld (pv 0) rfl)) (blkOk_by (own := [("pattern", 1), ("bit", 2)]) (N := ["self", "pattern", "bit"]) (sc := fnScope s_Rule_longest) (by decide +kernel)) (fun _ _ _ _ _ => (pg_tup rfl (pgs_cons (pg_name (i := 1) sc_Rule_longest.nd rfl (.inl rfl)) (pgs_cons (pg_name (i := 2) sc_Rule_longest.nd rfl (.inl rfl)) pgs_nil)))) (fun _ _ _ _ _ => pts_nil) (fun _ _ _ _ _ => (pe_callB call_len_str (by rfl) T.b_len (by decide +kernel) (pa_cons (pv 1) pa_nil)))) pa_nil))) pa_nil)))), ?_⟩
    refine ⟨_, rfl, a, C, dx, _, _, rfl, ha, RT.cl, RT.nS, ruF_stuffs _ _, t, rfl, ⟨_, SqT.of ht⟩, fun D nD => ?_⟩
    refine lc_it (walk_tup (xs := ps.map V.ref)) (fun i H2 => Same H H2 ∧ H2 D = some (.lst ((((ps.take i).map kb).map fun s => (s.1.length : Int)).map V.int))) ⟨same_upd nD, upd_same⟩ (fun i H2 _ h2 => SqT.of (h2.1 _ _ ht)) ?_ ?_
    · rintro i x H2 H3 hi ⟨s2, hD⟩ ⟨rfl, hx⟩
      rw [List.getElem?_map] at hx
      obtain ⟨q, hq, rfl⟩ := Option.map_eq_some_iff.mp hx
      have hqm : q ∈ ps := List.mem_of_getElem? hq
      have lq : (kb q).1.length ≤ 1000 := hl _ (List.mem_map_of_mem hqm)
      refine ⟨q, _, rfl, SqT.of (s2 _ _ (hs q hqm)), rfl, ?_⟩
      refine ⟨_, _, rfl, _, _, rfl, rfl, rfl, ?_⟩
      refine ⟨_, rfl, _, rfl, by rw [W_len]; exact sl_len (by omega), _, hD, ?_, ?_, ?_⟩
      · rw [List.length_map] at hi
        rw [List.length_map, List.length_map, List.length_map, List.length_take]
        rw [List.length_map] at hn
        exact sl_lt (by omega)
      · intro c' o e
        rw [upd_ne (ne_of_none e nD)]
        exact s2 _ _ e
      · rw [upd_same, List.take_add_one, hq, W_len]
        simp
    · rintro H2 ⟨s2, hD⟩
      rw [List.length_map, List.take_length] at hD
      refine ⟨D, _, rfl, .inr (SqL.of hD), ?_⟩
      have hn' : ps.length ≤ 1000 := by rw [List.length_map] at hn; exact hn
      refine ⟨?_, fun p hp => ?_⟩
      · simp only [List.length_cons, List.length_append, List.length_map, List.length_nil]
        exact sl_len (by omega)
      · refine ⟨p, (0 : Int) :: (ps.map kb).map fun s => (s.1.length : Int), rfl, ?_, by rw [List.length_cons]; omega, fun m hm hx => ?_⟩
        · refine SqL.of (upd_same.trans ?_)
          simp
        · rw [longM_is hm hx]
          exact k _ (s2.trans (same_upd hp))
theorem sc_Rule_put : FnScope ["self", "line", "pattern", "bit"] ["self", "line"] (fnScope s_Rule_put) := fnScope_by (by decide +kernel)
theorem met_put {f C : Addr} {fd : FuncData} (F : C8.Fun K "put" "Rule.put" s_Rule_put f fd) (me : Meth K C "put" f) (b : Binds K fd ["self", "line"] []) (T : Tx mg) (RT : RuT K C) : Met P w K mg base 1 C "put" (spPut C) [] := by
  refine met0 RT.cl me F b sc_Rule_put (fun vs H Q E h => ?_) (fun cdv A outer s H vs Q E hr h => ?_)
  · obtain ⟨_, _, _, _, rfl, _⟩ := h; rfl
  · obtain ⟨a, fl, ss, l, rfl, ⟨dx, t, ps, kb, ha, ht, hs, rfl⟩, k⟩ := h
    refine ⟨_, (pss_cons (ps_for PassesOwn.never rfl (pi_tup (pe_fld (pv 0) rfl)) (pg_tup rfl (pgs_cons (pg_name (i := 2) sc_Rule_put.nd rfl (.inl rfl)) (pgs_cons (pg_name (i := 3) sc_Rule_put.nd rfl (.inl rfl)) pgs_nil)))
    (pss_one (ps_if (pt_val (pe_m1 PySem.F.slot_str_endswith PySem.F.type_str_endswith mt_endswith (pv 1) (pv 2))) (pss_one (ps_ret (pv 3))) pss_nil)))
    (pss_one (ps_ret pe_non))), ?_⟩
    refine ⟨_, rfl, a, C, dx, _, _, rfl, ha, RT.cl, RT.nS, ruF_stuffs _ _, t, rfl, ⟨_, SqT.of ht⟩, ?_⟩
    refine for_it (walk_tup (xs := ps.map V.ref)) (fun i σ H2 => ∃ v2 v3 : Option V, σ = [some (.ref a), some (.str (W l)), v2, v3] ∧ H2 = H ∧ ∀ j q, j < i → ps[j]? = some q → (kb q).1.isSuffixOf l = false) ⟨none, none, rfl, rfl, fun j q hj => absurd hj (Nat.not_lt_zero _)⟩ (fun i σ H2 _ h2 => by obtain ⟨_, _, _, rfl, _⟩ := h2; exact SqT.of ht) ?_ ?_
    · rintro i x σ H2 H3 hi ⟨v2, v3, rfl, rfl, hno⟩ ⟨rfl, hx⟩
      rw [List.getElem?_map] at hx
      obtain ⟨q, hq, rfl⟩ := Option.map_eq_some_iff.mp hx
      have hqm : q ∈ ps := List.mem_of_getElem? hq
      refine ⟨q, _, rfl, SqT.of (hs q hqm), rfl, ?_⟩
      refine ⟨_, _, rfl, _, _, rfl, rfl, ?_⟩
      refine ⟨_, rfl, ⟨_, rfl⟩, _, rfl, _, _, rfl, rfl, _, rfl, ?_⟩
      rw [W_ends]
      cases e : (kb q).1.isSuffixOf l with
      | true =>
        refine ⟨_, rfl, ?_⟩
        have ep : putM (ps.map kb) l = some (kb q).2 := by
          have hf : (ps.map kb).find? (fun s => s.1.isSuffixOf l) = some (kb q) := by
            rw [List.find?_eq_some_iff_getElem]
            have hi' := (List.getElem?_eq_some_iff.mp hq)
            obtain ⟨hi1, hi2⟩ := hi'
            refine ⟨e, i, by rw [List.length_map]; exact hi1, by rw [List.getElem_map, hi2], fun j hj => ?_⟩
            rw [List.getElem_map]
            have := hno j ps[j] hj (List.getElem?_eq_getElem _)
            rw [this]
            rfl
          unfold putM
          rw [hf]
          rfl
        have := k _ (Same.refl _)
        rw [ep] at this
        exact this
      | false =>
        refine ⟨_, _, rfl, rfl, fun j q' hj hq' => ?_⟩
        by_cases ej : j = i
        · subst ej
          rw [hq] at hq'
          cases hq'
          exact e
        · exact hno j q' (by omega) hq'
    · rintro σ H2 ⟨v2, v3, rfl, rfl, hno⟩
      have ep : putM (ps.map kb) l = none := by
        have hf : (ps.map kb).find? (fun s => s.1.isSuffixOf l) = none := by
          rw [List.find?_eq_none]
          intro s hs'
          obtain ⟨q, hq, rfl⟩ := List.mem_map.mp hs'
          obtain ⟨j, hj⟩ := List.getElem?_of_mem hq
          have := hno j q (by rw [List.length_map]; exact (List.getElem?_eq_some_iff.mp hj).1) hj
          rw [this]
          decide
        unfold putM
        rw [hf]
        rfl
      have := k _ (Same.refl _)
      rw [ep] at this
      exact this
end
end U
set_option maxRecDepth 100000
set_option maxHeartbeats 4000000
namespace U
open PySem PySem.Spec PyProof.Rows
open L2 hiding Fun CX0 E0 pass0 Fun.binds
open C8 Lx SX StX
theorem sf_at {ps : List Addr} {kb : Addr → Stf} {i : Nat} {q : Addr} (h : SufFree (ps.map kb)) (hq : ps[i]? = some q) : ∀ q' ∈ ps.take i ++ ps.drop (i + 1), ¬ (kb q').1 <:+ (kb q).1 := by
  obtain ⟨hi, rfl⟩ := List.getElem?_eq_some_iff.mp hq
  have e : ps = ps.take i ++ ps[i] :: ps.drop (i + 1) := by rw [← List.drop_eq_getElem_cons hi, List.take_append_drop]
  unfold SufFree at h
  rw [List.pairwise_map] at h
  generalize ps.take i = A at e ⊢
  generalize ps.drop (i + 1) = B at e ⊢
  generalize ps[i] = q at e ⊢
  rw [e, List.pairwise_append, List.pairwise_cons] at h
  obtain ⟨_, ⟨h2, _⟩, h3⟩ := h
  intro q' hq'
  rcases List.mem_append.mp hq' with m | m
  · exact (h3 q' m q List.mem_cons_self).1
  · exact (h2 q' m).2
theorem cut_to {xs : List V} {i : Nat} (h : i < xs.length) : cutV xs none (some (i : Int)) = xs.take i := by
  unfold cutV
  rw [HT.sIx_none, HT.sIx_nat, List.drop_zero, Nat.sub_zero, Nat.min_eq_left (Nat.le_of_lt h)]
theorem cut_from {xs : List V} {i : Nat} (h : i < xs.length) : cutV xs (some ((i : Int) + 1)) none = xs.drop (i + 1) := by
  unfold cutV
  rw [HT.sIx_none, show ((i : Int) + 1) = ((i + 1 : Nat) : Int) by omega, HT.sIx_nat, Nat.min_eq_left (by omega), List.take_of_length_le (by rw [List.length_drop]; omega)]
structure StOk (ss : List Stf) : Prop where
  few : ss.length ≤ 1000
  pos : ∀ s ∈ ss, s.1 ≠ []
  long : longM ss ≤ 9
  free : SufFree ss
theorem StOk.l9 {ss : List Stf} (h : StOk ss) : ∀ s ∈ ss, s.1.length ≤ 9 := fun s hs => Nat.le_trans (longM_le hs) h.long
theorem StOk.perm {ss ts : List Stf} (h : StOk ss) (p : ss.Perm ts) : StOk ts := ⟨by rw [← p.length_eq]; exact h.few, fun s hs => h.pos s (p.mem_iff.mpr hs), by rw [← longM_perm p]; exact h.long, h.free.perm p⟩
def spAre (K : PySem.W.Frag) : Sp := fun vs H Q _ => ∃ (a : Addr) (ps : List Addr) (kb : Addr → Stf), vs = [.ref a] ∧ Sq K H a (ps.map V.ref) ∧ StV H kb ps ∧ StOk (ps.map kb) ∧ ∀ H', Same H H' → Q (.bl true) H'
def spPutIn (C : Addr) : Sp := fun vs H Q _ => ∃ (a : Addr) (f : List Bool) (ss : List Stf) (l x : List Bool), vs = [.ref a, .str (W l)] ∧ RuAt C H a f ss ∧ ss.length ≤ 1000 ∧ longM ss ≤ 9 ∧ l.length ≤ 50000 ∧ Ins ss l x ∧ ∀ H', Same H H' → Q (.str (W x)) H'
def spEndless (C : Addr) : Sp := fun vs H Q _ => ∃ (a : Addr) (f : List Bool) (ss : List Stf), vs = [.ref a] ∧ RuAt C H a f ss ∧ ss.length ≤ 1000 ∧ longM ss ≤ 9 ∧ OkR ss ∧ ∀ H', Same H H' → Q (.bl false) H'
def kst (ws : List (List Bool)) : List (Key × V) := ws.map fun w => (Sum.inr (W w), V.bl true)
theorem val_in {ws : List (List Bool)} {w : List Bool} (h : w ∈ ws) : valV (kst ws) (Sum.inr (W w)) = some (.bl true) := by
  unfold valV kst
  induction ws with
  | nil => cases h
  | cons x r ih =>
    rw [List.map_cons, List.find?_cons]
    by_cases e : x = w
    · rw [e, decide_eq_true rfl]; rfl
    · rw [decide_eq_false (fun z => e (W_inj (Sum.inr.inj z)))]
      rcases List.mem_cons.mp h with z | h
      · exact absurd z.symm e
      · exact ih h
theorem val_out {ws : List (List Bool)} {w : List Bool} (h : ¬ w ∈ ws) : valV (kst ws) (Sum.inr (W w)) = none := by
  unfold valV kst
  have : (ws.map fun w => ((Sum.inr (W w) : Key), V.bl true)).find? (fun kv => decide (kv.1 = Sum.inr (W w))) = none := by
    rw [List.find?_eq_none]
    intro kv hk
    obtain ⟨x, hx, rfl⟩ := List.mem_map.mp hk
    rw [decide_eq_true_eq]
    intro z
    exact h (W_inj (Sum.inr.inj z) ▸ hx)
  rw [this]
  rfl
theorem put_out {ws : List (List Bool)} {w : List Bool} (h : ¬ w ∈ ws) : putK (kst ws) (Sum.inr (W w)) (.bl true) = kst (ws ++ [w]) := by
  have e : ((kst ws).any fun kv => decide (kv.1 = Sum.inr (W w))) = false := by
    rw [List.any_eq_false]
    intro kv hk
    unfold kst at hk
    obtain ⟨x, hx, rfl⟩ := List.mem_map.mp hk
    rw [decide_eq_true_eq]
    intro z
    exact h (W_inj (Sum.inr.inj z) ▸ hx)
  unfold putK
  rw [e]
  unfold kst
  rw [List.map_append]
  rfl
section
variable {P : Program} {w : World} {K : PySem.W.Frag} {mg : Str → Option Value} {base : Heap}
theorem sc_are_stuffs : FnScope ["value", "one", "at", "stuff", "rest", "pattern", "bit"] ["value"] (fnScope s_are_stuffs) := fnScope_by (by decide +kernel)
theorem cal_are_stuffs {f : Addr} {fd : FuncData} (F : Def K mg "are_stuffs" s_are_stuffs f fd) (b : Binds K fd ["value"] []) (T : Tx mg) (c_is_sequence : Cal P w K mg base 1 "is_sequence" (spIsSeq K) []) (c_is_stuff : Cal P w K mg base 3 "is_stuff" spIsStuff []) : Cal P w K mg base 4 "are_stuffs" (spAre K) [] := by
  refine cal0 F b .nil sc_are_stuffs (fun vs H Q E h => ?_) (fun cdv A outer s H vs Q E hr h => ?_)
  · obtain ⟨_, _, _, rfl, _⟩ := h; rfl
  · obtain ⟨a, ps, kb, rfl, hS, hs, ok, k⟩ := h
    refine ⟨_, (pss_cons (ps_if (PW.pt (pw_or (pt_not (pt_val (pe_c c_is_sequence hr (by decide) rfl (pa_cons (pv 0) pa_nil)))) (pw_or1 (pt_not (pt_val (pe_callB (cr_all rfl) (by rfl) T.b_all (by decide +kernel) (pa_cons (pe_lc (own := [("one", 1)]) (g := gName 1) (by rfl) sc_are_stuffs.nd (pi_seq (pv 0)) (blkOk_by (own := [("one", 1)]) (N := ["value", "one", "at", "stuff", "rest", "pattern", "bit"]) (sc := fnScope s_are_stuffs) (by decide +kernel)) (fun _ _ _ _ _ => (pg_name (i := 1) sc_are_stuffs.nd rfl (.inl rfl))) (fun _ _ _ _ _ => pts_nil) (fun _ _ _ _ _ => (pe_c c_is_stuff hr (by decide) rfl (pa_cons (pv 1) pa_nil)))) pa_nil))))))) (pss_one (ps_ret pe_bl)) pss_nil)
    (pss_cons (ps_for PassesOwn.never rfl (pi_enumQ (by rfl) T.b_enumerate (pa_cons (pv 0) pa_nil)) (pg_tup rfl (pgs_cons (pg_name (i := 2) sc_are_stuffs.nd rfl (.inl rfl)) (pgs_cons (pg_name (i := 3) sc_are_stuffs.nd rfl (.inr rfl)) pgs_nil)))
    (pss_cons (ps_set (i := 4) sc_are_stuffs.nd rfl (.inl rfl) (pe_lst (pa_star (pe_slice (SlR.or sl_list sl_tupA) (pv 0) po_none (po_some (pv 2))) (pa_star (pe_slice (SlR.or sl_list sl_tupA) (pv 0) (po_some (pe_op op_add (pv 2) pe_int)) po_none) pa_nil))))
    (pss_one (ps_if (pt_val (pe_callB (cr_any rfl) (by rfl) T.b_any (by decide +kernel) (pa_cons (pe_lc (own := [("pattern", 5), ("bit", 6)]) (g := gTup K 2 (gCons (gName 5) (gCons (gName 6) gNil))) (by rfl) sc_are_stuffs.nd (pi_list (pv 4)) (blkOk_by (own := [("pattern", 5), ("bit", 6)]) (N := ["value", "one", "at", "stuff", "rest", "pattern", "bit"]) (sc := fnScope s_are_stuffs) (by decide +kernel)) (fun _ _ _ _ _ => (pg_tup rfl (pgs_cons (pg_name (i := 5) sc_are_stuffs.nd rfl (.inl rfl)) (pgs_cons (pg_name (i := 6) sc_are_stuffs.nd rfl (.inl rfl)) pgs_nil)))) (fun _ _ _ _ _ => pts_nil) (fun _ _ _ _ _ => (pe_m1 PySem.F.slot_str_endswith PySem.F.type_str_endswith mt_endswith (pe_ix (show IxR _ (rIxT K) from ix_tup) (pv 3) pe_int (fun _ _ => rfl)) (pv 5)))) pa_nil))) (pss_one (ps_ret pe_bl)) pss_nil))))
    (pss_one (ps_ret pe_bl)))), ?_⟩
    have hn : ps.length ≤ 1000 := by have := ok.few; rw [List.length_map] at this; exact this
    refine ⟨_, rfl, a, _, rfl, hS, fun H1 s1 => ⟨_, rfl, ?_⟩⟩
    have hS1 := hS.same s1
    refine iSeq_var rfl hS1 fun J G hG wk D nD => ?_
    refine lc_it wk (fun i H2 => Same H1 H2 ∧ H2 D = some (.lst ((List.replicate i true).map V.bl))) ⟨same_upd nD, upd_same⟩ (fun i H2 _ h2 => hG _ h2.1) ?_ ?_
    · rintro i x H2 H3 hi ⟨s2, hD⟩ ⟨rfl, hx⟩
      rw [List.getElem?_map] at hx
      obtain ⟨q, hq, rfl⟩ := Option.map_eq_some_iff.mp hx
      have hqm : q ∈ ps := List.mem_of_getElem? hq
      have mk : kb q ∈ ps.map kb := List.mem_map_of_mem hqm
      rw [List.length_map] at hi
      refine ⟨rfl, ?_⟩
      refine ⟨_, rfl, q, (kb q).1, (kb q).2, rfl, (s1.trans s2) _ _ (hs q hqm), ok.pos _ mk, Nat.le_trans (ok.l9 _ mk) (by decide), fun H4 s4 => ⟨_, s4 _ _ hD, ?_, ?_, ?_⟩⟩
      · rw [List.length_map, List.length_replicate]; exact sl_lt (by omega)
      · intro c' o e
        rw [upd_ne (ne_of_none e nD)]
        exact (s2.trans s4) _ _ e
      · rw [upd_same, List.replicate_succ', List.map_append]; rfl
    · rintro H2 ⟨s2, hD⟩
      refine ⟨D, _, rfl, SqL.of hD, _, rfl, ?_⟩
      have et : (List.replicate (ps.map V.ref).length true).all id = true := by simp
      rw [et]
      have hS2 := hS1.same s2
      have s02 := s1.trans s2
      refine iEnumQ_var rfl hS2 fun J G hG wk => ?_
      refine for_it wk (fun i σ H3 => ∃ v1 v2 v3 v4 v5 v6 : Option V, σ = [some (.ref a), v1, v2, v3, v4, v5, v6] ∧ Same H2 H3) ⟨none, none, none, none, none, none, rfl, Same.refl _⟩ (fun i σ H3 _ h3 => by obtain ⟨_, _, _, _, _, _, _, s3⟩ := h3; exact hG _ s3) ?_ ?_
      · rintro i x σ H3 H4 hi ⟨v1, v2, v3, v4, v5, v6, rfl, s3⟩ ⟨T', y1, y2, rfl, nT, rfl, h1, h2⟩
        cases h1
        replace h2 : (ps.map V.ref)[i]? = some y2 := h2
        rw [List.getElem?_map] at h2
        obtain ⟨q, hq, rfl⟩ := Option.map_eq_some_iff.mp h2
        have hqm : q ∈ ps := List.mem_of_getElem? hq
        refine ⟨T', _, rfl, SqT.of upd_same, rfl, _, _, rfl, _, _, rfl, rfl, ?_⟩
        have s4 : Same H2 (upd H3 T' (.tup [.int (i : Nat), .ref q])) := s3.trans (same_upd nT)
        generalize upd H3 T' (.tup [.int (i : Nat), .ref q]) = H4 at s4
        have hS4 := hS2.same s4
        refine ⟨_, rfl, _, rfl, _, rfl, slQ_of hS4 fun p1 H5 s5 h5 => ⟨p1, _, rfl, h5.star, ?_⟩⟩
        refine ⟨_, rfl, _, rfl, _, _, rfl, rfl, _, rfl, slQ_of (hS4.same s5) fun p2 H6 s6 h6 => ⟨p2, _, rfl, h6.star, ?_⟩⟩
        have el : cutV (ps.map V.ref) none (some ((i : Nat) : Int)) ++ (cutV (ps.map V.ref) (some (((i : Nat) : Int) + 1)) none ++ []) = (ps.take i ++ ps.drop (i + 1)).map V.ref := by
          rw [cut_to hi, cut_from hi, List.append_nil, List.map_append, List.map_take, List.map_drop]
        refine ⟨?_, fun R nR => ?_⟩
        · show (cutV (ps.map V.ref) none (some ((i : Nat) : Int)) ++ (cutV (ps.map V.ref) (some (((i : Nat) : Int) + 1)) none ++ [])).length ≤ sizeLine
          rw [el, List.length_map, List.length_append, List.length_take, List.length_drop]
          exact sl_len (by omega)
        · have hR : upd H6 R (.lst (cutV (ps.map V.ref) none (some ((i : Nat) : Int)) ++ (cutV (ps.map V.ref) (some (((i : Nat) : Int) + 1)) none ++ []))) R = some (.lst ((ps.take i ++ ps.drop (i + 1)).map V.ref)) := by rw [upd_same, el]
          have s7 : Same H2 (upd H6 R (.lst (cutV (ps.map V.ref) none (some ((i : Nat) : Int)) ++ (cutV (ps.map V.ref) (some (((i : Nat) : Int) + 1)) none ++ [])))) := ((s4.trans s5).trans s6).trans (same_upd nR)
          show gName 4 _ _ (upd H6 R (.lst (cutV (ps.map V.ref) none (some ((i : Nat) : Int)) ++ (cutV (ps.map V.ref) (some (((i : Nat) : Int) + 1)) none ++ [])))) _
          generalize upd H6 R (.lst (cutV (ps.map V.ref) none (some ((i : Nat) : Int)) ++ (cutV (ps.map V.ref) (some (((i : Nat) : Int) + 1)) none ++ []))) = H7 at hR s7 ⊢
          refine ⟨_, rfl, R, rfl, ⟨_, SqL.of hR⟩, fun D2 nD2 => ?_⟩
          have ne := sf_at ok.free hq
          have hlen : (ps.take i ++ ps.drop (i + 1)).length ≤ 1000 := by
            rw [List.length_append, List.length_take, List.length_drop]; omega
          have hsub : ∀ q' ∈ ps.take i ++ ps.drop (i + 1), q' ∈ ps := fun q' hq' => by
            rcases List.mem_append.mp hq' with m | m
            · exact List.mem_of_mem_take m
            · exact List.mem_of_mem_drop m
          generalize ps.take i ++ ps.drop (i + 1) = rs at hR ne hlen hsub
          refine lc_it (walk_list (xs := rs.map V.ref)) (fun j H8 => Same H7 H8 ∧ H8 D2 = some (.lst ((List.replicate j false).map V.bl))) ⟨same_upd nD2, upd_same⟩ (fun j H8 _ h8 => h8.1.seq (SqL.of hR)) ?_ ?_
          · rintro j x H8 H9 hj ⟨s8, hD2⟩ ⟨rfl, hx⟩
            rw [List.getElem?_map] at hx
            obtain ⟨q', hq', rfl⟩ := Option.map_eq_some_iff.mp hx
            have hm' : q' ∈ rs := List.mem_of_getElem? hq'
            rw [List.length_map] at hj
            have s28 := s02.trans (s7.trans s8)
            refine ⟨q', _, rfl, SqT.of (s28 _ _ (hs q' (hsub _ hm'))), rfl, _, _, rfl, _, _, rfl, rfl, rfl, ?_⟩
            refine ⟨_, rfl, q, _, 0, _, rfl, rfl, SqT.of (s28 _ _ (hs q hqm)), rfl, ⟨_, rfl⟩, _, rfl, _, _, rfl, rfl, _, hD2, ?_, ?_, ?_⟩
            · rw [List.length_map, List.length_replicate]; exact sl_lt (by omega)
            · intro c' o e
              rw [upd_ne (ne_of_none e nD2)]
              exact s8 _ _ e
            · have ef : Txt.endswith (W (kb q).1) (W (kb q').1) = false := by
                rw [W_ends]
                cases e : (kb q').1.isSuffixOf (kb q).1 with
                | false => rfl
                | true => exact absurd (List.isSuffixOf_iff_suffix.mp e) (ne q' hm')
              rw [upd_same, ef, List.replicate_succ', List.map_append]
              rfl
          · rintro H8 ⟨s8, hD2⟩
            refine ⟨D2, _, rfl, SqL.of hD2, _, rfl, ?_⟩
            have et : (List.replicate (rs.map V.ref).length false).any id = false := by simp
            rw [et]
            exact ⟨_, _, _, _, _, _, rfl, s7.trans s8⟩
      · rintro σ H3 ⟨v1, v2, v3, v4, v5, v6, rfl, s3⟩
        exact k H3 (s02.trans s3)
end
end U
set_option maxRecDepth 100000
set_option maxHeartbeats 4000000
namespace U
open PySem PySem.Spec PyProof.Rows
open L2 hiding Fun CX0 E0 pass0 Fun.binds
open C8 Lx SX StX
theorem p10 {n : Nat} (h : n ≤ 9) : 2 ^ (n + 1) ≤ 1024 := Nat.le_trans (Nat.pow_le_pow_right (by decide) (show n + 1 ≤ 10 by omega)) (by decide)
section
variable {P : Program} {w : World} {K : PySem.W.Frag} {mg : Str → Option Value} {base : Heap}
theorem sc_Rule_put_in : FnScope ["self", "line", "found", "known", "bit", "standing"] ["self", "line"] (fnScope s_Rule_put_in) := fnScope_by (by decide +kernel)
theorem met_put_in {f C : Addr} {fd : FuncData} (F : C8.Fun K "put_in" "Rule.put_in" s_Rule_put_in f fd) (me : Meth K C "put_in" f) (b : Binds K fd ["self", "line"] []) (T : Tx mg) (RT : RuT K C)
    (c_put : Met P w K mg base 1 C "put" (spPut C) []) (p_longest : Prp P w K mg base 1 C "longest" (spLongest C)) (c_tail : Cal P w K mg base 1 "tail" spTail []) : Met P w K mg base 3 C "put_in" (spPutIn C) [] := by
  refine met0 RT.cl me F b sc_Rule_put_in (fun vs H Q E h => ?_) (fun cdv A outer s H vs Q E hr h => ?_)
  · obtain ⟨_, _, _, _, _, rfl, _⟩ := h; rfl
  · obtain ⟨a, fl, ss, l, x, rfl, hR, hn, h9, hl, hI, k⟩ := h
    refine ⟨_, (pss_cons (ps_par (i := 2) (j := 3) (by rfl) sc_Rule_put_in.nd rfl rfl (by decide) rfl rfl (pa_cons pe_str (pa_cons pe_dnewK pa_nil)) (by rfl))
    (pss_cons (ps_set (i := 4) sc_Rule_put_in.nd rfl (.inl rfl) (pe_mt (pl := _) c_put hr (by decide) (pv 0) (pa_cons (pv 1) pa_nil)))
    (pss_cons (ps_while PassesOwn.never (pt_cmpR op_notN (pv 4) pe_non (nomark _))
    (pss_cons (ps_set (i := 5) sc_Rule_put_in.nd rfl (.inl rfl) (pe_c c_tail hr (by decide) rfl (pa_cons (pe_op op_add_str (pv 1) (pv 2)) (pa_cons (pe_pr p_longest hr (by decide) (pv 0)) pa_nil))))
    (pss_cons (ps_if (pt_cmp (pc_din (hu_of hr) (pv 5) (pv 3))) (pss_one (ps_ret pe_non)) pss_nil)
    (pss_cons (ps_dput (hu_of hr) (pv 3) (pv 5) pe_bl rfl)
    (pss_cons (ps_aug (i := 2) sc_Rule_put_in.nd rfl (.inl rfl) (pv 4) iop_add_str)
    (pss_one (ps_set (i := 4) sc_Rule_put_in.nd rfl (.inl rfl) (pe_mt (pl := _) c_put hr (by decide) (pv 0) (pa_cons (pe_op op_add_str (pv 1) (pv 2)) pa_nil)))))))))
    (pss_one (ps_ret (pv 2)))))), ?_⟩
    have hL : ∀ s ∈ ss, s.1.length ≤ longM ss := fun s hs => longM_le hs
    have hx : x.length ≤ 1024 := by have := hI.len hL; have := p10 h9; omega
    have hat : ∀ {H2 : Hp}, Same H H2 → ∃ dx t, H2 a = some (.ins C dx (ruF fl t)) := fun s2 => by
      obtain ⟨dx, t, _, _, ha, _⟩ := hR.same s2
      exact ⟨dx, t, ha⟩
    refine fun D nD => ⟨_, _, rfl, ?_⟩
    have s1 : Same H (upd H D (.dK [])) := same_upd nD
    have hD1 : upd H D (.dK []) D = some (.dK []) := upd_same
    generalize upd H D (.dK []) = H1 at s1 hD1
    obtain ⟨dx, t, ha⟩ := hat s1
    refine ⟨_, rfl, a, dx, _, rfl, ha, ruF_no _ _ (by decide +kernel) (by decide +kernel), _, rfl, a, fl, ss, l, rfl, hR.same s1, fun H2 s2 => ?_⟩
    refine ⟨fun m σ H3 => ∃ (j : Nat) (v5 : Option V), j + m = x.length ∧ σ = [some (.ref a), some (.str (W l)), some (.str (W (x.take j))), some (.ref D), some (oB (putM ss (l ++ x.take j))), v5] ∧ Same H H3 ∧ H3 D = some (.dK (kst ((List.range j).map fun i => tl (longM ss) (l ++ x.take i)))),
      ⟨x.length, 0, none, by omega, by rw [List.take_zero, List.append_nil, ← W_nil]; rfl, s1.trans s2, s2 _ _ hD1⟩, ?_⟩
    rintro m σ H3 ⟨j, v5, hj, rfl, s3, hD3⟩
    refine ⟨_, rfl, rfl, _, rfl, ?_⟩
    rw [oB_non]
    by_cases hlt : j < x.length
    · have hb : x[j]? = some x[j] := List.getElem?_eq_getElem hlt
      have hput := hI.at hb
      rw [hput]
      have lx : (x.take j).length ≤ 1024 := by rw [List.length_take]; omega
      have e1 : (W l).length = l.length := W_len l
      have e2 : (W (x.take j)).length = (x.take j).length := W_len _
      refine ⟨fun σ' H' => ∃ m', m' < m ∧ ∃ (j : Nat) (v5 : Option V), j + m' = x.length ∧ σ' = [some (.ref a), some (.str (W l)), some (.str (W (x.take j))), some (.ref D), some (oB (putM ss (l ++ x.take j))), v5] ∧ Same H H' ∧ H' D = some (.dK (kst ((List.range j).map fun i => tl (longM ss) (l ++ x.take i)))), fun _ _ h => h, ?_⟩
      obtain ⟨dx3, t3, ha3⟩ := hat s3
      refine ⟨_, rfl, _, rfl, _, _, rfl, rfl, by rw [e1, e2]; exact sl_len (by omega), _, rfl, a, dx3, _, rfl, ha3, a, fl, ss, rfl, hR.same s3, hn, fun s hs => Nat.le_trans (longM_le hs) (by omega), fun H4 s4 => ?_⟩
      refine ⟨l ++ x.take j, longM ss, by rw [← W_cat]; rfl, by rw [List.length_append]; omega, ?_⟩
      have hD4 := s4 _ _ hD3
      have nin : ¬ tl (longM ss) (l ++ x.take j) ∈ (List.range j).map fun i => tl (longM ss) (l ++ x.take i) := fun hm => by
        obtain ⟨i, hi, e⟩ := List.mem_map.mp hm
        have hi' := List.mem_range.mp hi
        have := hI.apart hL (Nat.le_of_lt (Nat.lt_trans hi' hlt)) (Nat.le_of_lt hlt) e
        omega
      refine ⟨_, rfl, _, rfl, D, _, rfl, DGet.k (k := .inr (W (tl (longM ss) (l ++ x.take j)))) hD4, _, rfl, iteBF (by rw [val_out nin]; rfl) ?_⟩
      refine ⟨_, rfl, _, rfl, D, _, rfl, DPut.k (k := .inr (W (tl (longM ss) (l ++ x.take j)))) hD4 (by unfold kst; rw [List.length_map, List.length_map, List.length_range]; exact sl_lt (by omega)), ?_⟩
      rw [put_out nin]
      have et : x.take (j + 1) = x.take j ++ [x[j]] := by rw [List.take_add_one, hb]; rfl
      have ek : ((List.range j).map fun i => tl (longM ss) (l ++ x.take i)) ++ [tl (longM ss) (l ++ x.take j)] = (List.range (j + 1)).map fun i => tl (longM ss) (l ++ x.take i) := by
        rw [List.range_succ, List.map_append]; rfl
      rw [ek]
      have s5 : Same H (upd H4 D (.dK (kst ((List.range (j + 1)).map fun i => tl (longM ss) (l ++ x.take i))))) := fun c o e => by
        rw [upd_ne (ne_of_none e nD)]
        exact (s3.trans s4) _ _ e
      have hD5 : upd H4 D (.dK (kst ((List.range (j + 1)).map fun i => tl (longM ss) (l ++ x.take i)))) D = some (.dK (kst ((List.range (j + 1)).map fun i => tl (longM ss) (l ++ x.take i)))) := upd_same
      generalize upd H4 D (.dK (kst ((List.range (j + 1)).map fun i => tl (longM ss) (l ++ x.take i)))) = H5 at s5 hD5
      have e3 : (W [x[j]]).length = 1 := W_len _
      refine ⟨_, rfl, _, rfl, _, _, rfl, rfl, by rw [e2, e3]; exact sl_len (by omega), ?_⟩
      rw [W_cat, ← et]
      have e4 : (W (x.take (j + 1))).length = (x.take (j + 1)).length := W_len _
      obtain ⟨dx5, t5, ha5⟩ := hat s5
      refine ⟨_, rfl, a, dx5, _, rfl, ha5, ruF_no _ _ (by decide +kernel) (by decide +kernel), _, rfl, _, rfl, _, _, rfl, rfl, by rw [e1, e4, et, List.length_append]; exact sl_len (by simp only [List.length_cons, List.length_nil]; omega), ?_⟩
      refine ⟨a, fl, ss, l ++ x.take (j + 1), by rw [← W_cat]; rfl, hR.same s5, fun H6 s6 => ?_⟩
      exact ⟨m - 1, by omega, j + 1, _, by omega, rfl, s5.trans s6, s6 _ _ hD5⟩
    · have hj' : j = x.length := by omega
      subst hj'
      rw [List.take_length, hI.end]
      exact ⟨_, rfl, k H3 s3⟩
end
end U
set_option maxRecDepth 100000
set_option maxHeartbeats 4000000
namespace U
open PySem PySem.Spec PyProof.Rows
open L2 hiding Fun CX0 E0 pass0 Fun.binds
open C8 Lx SX StX
structure Bfs (ss : List Stf) (H H2 : Hp) (q d : Addr) (ws : List (List Bool)) : Prop where
  same : Same H H2
  wait : H2 q = some (.lst (ws.map fun w => V.str (W w)))
  known : H2 d = some (.dK (kst ws))
  nodup : ws.Nodup
  short : ∀ w ∈ ws, w.length ≤ longM ss
  reach : ∀ w ∈ ws, ∃ l, Reach ss l ∧ tl (longM ss) l = w
theorem Bfs.on {ss : List Stf} {H H2 H3 : Hp} {q d : Addr} {ws : List (List Bool)} (b : Bfs ss H H2 q d ws) (s : Same H2 H3) : Bfs ss H H3 q d ws :=
  ⟨b.same.trans s, s _ _ b.wait, s _ _ b.known, b.nodup, b.short, b.reach⟩
theorem Bfs.few {ss : List Stf} {H H2 : Hp} {q d : Addr} {ws : List (List Bool)} (b : Bfs ss H H2 q d ws) : ws.length + 1 ≤ 2 ^ (longM ss + 1) := words_le b.nodup b.short
def key (s : Stf) : Str × Str := (W s.1, W [s.2])
def SortedS (ss : List Stf) : Prop := SrtO.Srtd (fun x y => SrT.lexT (key x) (key y)) ss
def spRuInit (K : PySem.W.Frag) (C : Addr) : Sp := fun vs H Q _ => ∃ (a dx s : Addr) (f : List Bool) (ps : List Addr) (kb : Addr → Stf), vs = [.ref a, .str (W f), .ref s] ∧ H a = some (.ins C dx []) ∧ Sq K H s (ps.map V.ref) ∧ StV H kb ps ∧ StOk (ps.map kb) ∧ OkR (ps.map kb) ∧ 2 ≤ f.length ∧ f.length ≤ 1000 ∧
  ∀ H' ss, (∀ b o, H b = some o → b ≠ a → H' b = some o) → ss.Perm (ps.map kb) → SortedS ss → RuAt C H' a f ss → Q .non H'
theorem pwS {qs : List Addr} {kb : Addr → Stf} (h : SrtO.Srtd (fun x y => SrT.lexT (key (kb x)) (key (kb y))) qs) : SortedS (qs.map kb) := List.pairwise_map.mpr h
section
variable {P : Program} {w : World} {K : PySem.W.Frag} {mg : Str → Option Value} {base : Heap}
theorem sc_Rule_is_endless : FnScope ["self", "waiting", "known", "at", "bit", "line", "more", "standing"] ["self"] (fnScope s_Rule_is_endless) := fnScope_by (by decide +kernel)
theorem met_is_endless {f C : Addr} {fd : FuncData} {tB : Tok} (F : C8.Fun K "is_endless" "Rule.is_endless" s_Rule_is_endless f fd) (me : Meth K C "is_endless" f) (b : Binds K fd ["self"] []) (T : Tx mg) (RT : RuT K C) (g_BITS : mg "BITS" = some (.str "01" tB))
    (c_put_in : Met P w K mg base 3 C "put_in" (spPutIn C) []) (p_longest : Prp P w K mg base 1 C "longest" (spLongest C)) (c_tail : Cal P w K mg base 1 "tail" spTail []) : Met P w K mg base 4 C "is_endless" (spEndless C) [] := by
  refine met0 RT.cl me F b sc_Rule_is_endless (fun vs H Q E h => ?_) (fun cdv A outer s H vs Q E hr h => ?_)
  · obtain ⟨_, _, _, rfl, _⟩ := h; rfl
  · obtain ⟨a, fl, ss, rfl, hR, hn, h9, hO, k⟩ := h
    refine ⟨_, (pss_cons (ps_par3 (i := 1) (j := 2) (l := 3) (by rfl) sc_Rule_is_endless.nd rfl rfl rfl (by decide) (by decide) (by decide) rfl rfl rfl (pa_cons (pe_lst (pa_cons pe_str pa_nil)) (pa_cons (pe_disp (pps_cons pe_str pe_bl pps_nil) (by rfl) (by rfl) (fun z => by cases z) (by decide)) (pa_cons pe_int pa_nil))) (by rfl))
    (pss_cons (ps_while PassesOwn.never (pt_cmpR op_lt (pv 3) (pe_callB call_len_seq (by rfl) T.b_len (by decide +kernel) (pa_cons (pv 1) pa_nil)) (nomark _))
    (pss_cons (ps_for PassesOwn.never rfl (pi_str (pe_glob (v := .str "01") (by rfl) g_BITS ⟨_, rfl⟩)) (pg_name (i := 4) sc_Rule_is_endless.nd rfl (.inl rfl))
    (pss_cons (ps_set (i := 5) sc_Rule_is_endless.nd rfl (.inl rfl) (pe_op op_add_str (pe_ix ix_list (pv 1) (pv 3) (fun _ _ => rfl)) (pv 4)))
    (pss_cons (ps_set (i := 6) sc_Rule_is_endless.nd rfl (.inl rfl) (pe_mt (pl := _) c_put_in hr (by decide) (pv 0) (pa_cons (pv 5) pa_nil)))
    (pss_cons (ps_if (pt_cmpR op_isN (pv 6) pe_non (nomark _)) (pss_one (ps_ret pe_bl)) pss_nil)
    (pss_cons (ps_set (i := 7) sc_Rule_is_endless.nd rfl (.inl rfl) (pe_c c_tail hr (by decide) rfl (pa_cons (pe_op op_add_str (pv 5) (pv 6)) (pa_cons (pe_pr p_longest hr (by decide) (pv 0)) pa_nil))))
    (pss_one (ps_if (pt_cmp (pc_dnotin (hu_of hr) (pv 7) (pv 2))) (pss_cons (ps_dput (hu_of hr) (pv 2) (pv 7) pe_bl rfl)
    (pss_one (ps_expr (pe_bm PySem.F.plainAttrs_list PySem.F.slot_list_append PySem.F.type_list_append mt_append (pv 1) (pa_cons (pv 7) pa_nil))))) pss_nil)))))))
    (pss_one (ps_aug (i := 3) sc_Rule_is_endless.nd rfl (.inl rfl) pe_int ip_add))))
    (pss_one (ps_ret pe_bl)))), ?_⟩
    have hL : ∀ s ∈ ss, s.1.length ≤ longM ss := fun s hs => longM_le hs
    have hpw := p10 h9
    have hat : ∀ {H2 : Hp}, Same H H2 → ∃ dx t, H2 a = some (.ins C dx (ruF fl t)) := fun s2 => by
      obtain ⟨dx, t, _, _, ha, _⟩ := hR.same s2
      exact ⟨dx, t, ha⟩
    refine ⟨by show 1 ≤ sizeLine; decide, fun q nq d nd => ⟨upd_same, [(.inr "", .bl true)], rfl, by decide, _, _, _, rfl, ?_⟩⟩
    have nqd : q ≠ d := fun z => by rw [← z, upd_same] at nd; cases nd
    have b0 : Bfs ss H (upd (upd (upd H q (.lst [.str ""])) d (.dK [])) d (.dK (mergeK [] [(.inr "", .bl true)]))) q d [[]] := by
      refine ⟨fun c o e => ?_, ?_, ?_, ?_, ?_, ?_⟩
      · have n1 := ne_of_none e nq
        have n2 : c ≠ d := fun z => by rw [z] at e n1; rw [upd_ne n1, e] at nd; cases nd
        rw [upd_ne n2, upd_ne n2, upd_ne n1]
        exact e
      · rw [upd_ne nqd, upd_ne nqd, upd_same, W_nil]; rfl
      · rw [upd_same, W_nil]; rfl
      · simp
      · intro w hw; rw [List.mem_singleton.mp hw]; exact Nat.zero_le _
      · intro w hw; rw [List.mem_singleton.mp hw]; exact ⟨[], .nil, by unfold tl; rw [List.drop_nil]⟩
    have nq0 : H q = none := nq
    have nd0 : H d = none := by
      cases e : H d with
      | none => rfl
      | some o => rw [upd_ne (Ne.symm nqd), e] at nd; cases nd
    generalize upd (upd (upd H q (.lst [.str ""])) d (.dK [])) d (.dK (mergeK [] [(.inr "", .bl true)])) = H1 at b0
    refine ⟨fun m σ H2 => ∃ (n : Nat) (ws : List (List Bool)) (v4 v5 v6 v7 : Option V), σ = [some (.ref a), some (.ref q), some (.ref d), some (.int n), v4, v5, v6, v7] ∧ Bfs ss H H2 q d ws ∧ n ≤ ws.length ∧ m + n = 2 ^ (longM ss + 1),
      ⟨2 ^ (longM ss + 1), 0, [[]], none, none, none, none, rfl, b0, Nat.zero_le _, by omega⟩, ?_⟩
    rintro m σ H2 ⟨n, ws, v4, v5, v6, v7, rfl, B2, hn2, hm⟩
    have few2 := B2.few
    refine ⟨_, rfl, _, rfl, q, _, rfl, .inl (SqL.of B2.wait), _, _, rfl, rfl, _, rfl, ?_⟩
    rw [List.length_map]
    by_cases hlt : n < ws.length
    · refine iteDT (by omega) ?_
      refine ⟨fun σ' H' => ∃ m', m' < m ∧ ∃ (n : Nat) (ws : List (List Bool)) (v4 v5 v6 v7 : Option V), σ' = [some (.ref a), some (.ref q), some (.ref d), some (.int n), v4, v5, v6, v7] ∧ Bfs ss H H' q d ws ∧ n ≤ ws.length ∧ m' + n = 2 ^ (longM ss + 1), fun _ _ h => h, ?_⟩
      refine ⟨_, rfl, for_it walk_str (fun i σ H3 => ∃ (ws : List (List Bool)) (v4 v5 v6 v7 : Option V), σ = [some (.ref a), some (.ref q), some (.ref d), some (.int n), v4, v5, v6, v7] ∧ Bfs ss H H3 q d ws ∧ n < ws.length) ⟨ws, _, _, _, _, rfl, B2, hlt⟩ (fun _ _ _ _ _ => trivial) ?_ ?_⟩
      · rintro i x σ H3 H3' hi ⟨ws, v4, v5, v6, v7, rfl, B3, hlt3⟩ ⟨rfl, c, hc, rfl⟩
        have e01 : ("01" : Str) = W [false, true] := by decide +kernel
        rw [e01] at hc
        obtain ⟨bb, _, rfl⟩ := W_get hc
        have hw : (ws.map fun w => V.str (W w))[n]? = some (.str (W ws[n])) := by rw [List.getElem?_map, List.getElem?_eq_getElem hlt3]; rfl
        have hmem : ws[n] ∈ ws := List.getElem_mem hlt3
        generalize ws[n] = w0 at hw hmem
        have hs0 := B3.short _ hmem
        have few3 := B3.few
        obtain ⟨l0, hr0, rfl⟩ := B3.reach _ hmem
        obtain ⟨y, hy⟩ := hO l0 hr0 bb
        have ht0 : tl (longM ss) l0 = tl (longM ss) (tl (longM ss) l0) := (tl_tl (Nat.le_refl _) _).symm
        have hy' := hy.tl hL (tl_snoc (b := bb) ht0)
        have hyl := hy.len hL
        have hnx : tl (longM ss) (l0 ++ [bb] ++ y) = tl (longM ss) (tl (longM ss) l0 ++ [bb] ++ y) := tl_app (tl_snoc (b := bb) ht0) y
        have hrn : Reach ss (l0 ++ [bb] ++ y) := .next hr0 hy
        generalize tl (longM ss) l0 = w0 at *
        have ew : W w0 ++ (⟨#[bt bb]⟩ : Str) = W (w0 ++ [bb]) := W_cat w0 [bb]
        have el : (W w0).length + (⟨#[bt bb]⟩ : Str).length ≤ sizeLine := by
          have e1 : (W w0).length = w0.length := W_len _
          have e2 : (⟨#[bt bb]⟩ : Str).length = 1 := W_len [bb]
          rw [e1, e2]; exact sl_len (by omega)
        refine ⟨_, rfl, _, rfl, q, _, _, _, rfl, rfl, SqL.of B3.wait, atI_nat hw, _, rfl, _, _, rfl, rfl, el, ?_⟩
        rw [ew]
        obtain ⟨dx3, t3, ha3⟩ := hat B3.same
        have hl1 : (w0 ++ [bb]).length ≤ 10 := by rw [List.length_append, List.length_cons, List.length_nil]; omega
        refine ⟨_, rfl, a, dx3, _, rfl, ha3, ruF_no _ _ (by decide +kernel) (by decide +kernel), _, rfl, a, fl, ss, w0 ++ [bb], y, rfl, hR.same B3.same, hn, h9, by omega, hy', fun H4 s4 => ?_⟩
        have B4 := B3.on s4
        refine ⟨_, rfl, rfl, _, rfl, iteDF (fun z => by cases z) ?_⟩
        obtain ⟨dx4, t4, ha4⟩ := hat B4.same
        have e3 : (W (w0 ++ [bb])).length = (w0 ++ [bb]).length := W_len _
        have e4 : (W y).length = y.length := W_len _
        refine ⟨_, rfl, _, rfl, _, _, rfl, rfl, by rw [e3, e4]; exact sl_len (by omega), _, rfl, a, dx4, _, rfl, ha4, a, fl, ss, rfl, hR.same B4.same, hn, fun s hs => Nat.le_trans (longM_le hs) (by omega), fun H5 s5 => ?_⟩
        have B5 := B4.on s5
        refine ⟨w0 ++ [bb] ++ y, longM ss, by rw [← W_cat (w0 ++ [bb]) y]; rfl, by rw [List.length_append]; omega, ?_⟩
        refine ⟨_, rfl, _, rfl, d, _, rfl, DGet.k (k := .inr (W (tl (longM ss) (w0 ++ [bb] ++ y)))) B5.known, _, rfl, ?_⟩
        by_cases hin : tl (longM ss) (w0 ++ [bb] ++ y) ∈ ws
        · refine iteBF (by rw [val_in hin]; rfl) ?_
          exact ⟨ws, _, _, _, _, rfl, B5, hlt3⟩
        · refine iteBT (by rw [val_out hin]; rfl) ?_
          refine ⟨_, rfl, _, rfl, d, _, rfl, DPut.k (k := .inr (W (tl (longM ss) (w0 ++ [bb] ++ y)))) B5.known (by unfold kst; rw [List.length_map]; exact sl_lt (by omega)), ?_⟩
          rw [put_out hin]
          have hW6 : upd H5 d (.dK (kst (ws ++ [tl (longM ss) (w0 ++ [bb] ++ y)]))) q = some (.lst (ws.map fun w => V.str (W w))) := by rw [upd_ne nqd]; exact B5.wait
          refine ⟨_, rfl, .inl ⟨rfl, _, SqL.of hW6⟩, _, rfl, q, _, _, rfl, rfl, hW6, by rw [List.length_map]; exact sl_lt (by omega), ?_⟩
          refine ⟨ws ++ [tl (longM ss) (w0 ++ [bb] ++ y)], _, _, _, _, rfl, ⟨fun c o e => ?_, ?_, ?_, ?_, ?_, ?_⟩, ?_⟩
          · rw [upd_ne (ne_of_none e nq0), upd_ne (ne_of_none e nd0)]
            exact B5.same _ _ e
          · rw [upd_same, List.map_append]; rfl
          · rw [upd_ne (Ne.symm nqd), upd_same]
          · rw [List.nodup_append]
            refine ⟨B5.nodup, by simp, fun u hu v hv e => ?_⟩
            rw [List.mem_singleton.mp hv] at e
            exact hin (e ▸ hu)
          · intro u hu
            rcases List.mem_append.mp hu with m | m
            · exact B5.short _ m
            · rw [List.mem_singleton.mp m]; exact tl_le _ _
          · intro u hu
            rcases List.mem_append.mp hu with m | m
            · exact B5.reach _ m
            · rw [List.mem_singleton.mp m]; exact ⟨_, hrn, hnx⟩
          · rw [List.length_append]; omega
      · rintro σ H3 ⟨ws, v4, v5, v6, v7, rfl, B3, hlt3⟩
        refine ⟨_, rfl, _, _, rfl, rfl, ?_⟩
        refine ⟨m - 1, by omega, n + 1, ws, _, _, _, _, rfl, B3, hlt3, by omega⟩
    · refine iteDF (by omega) ?_
      exact k H2 B2.same
theorem sc_Rule_init : FnScope ["self", "flag", "stuffs"] ["self", "flag", "stuffs"] (fnScope s_Rule_init) := fnScope_by (by decide +kernel)
theorem ok_Rule_init {f C : Addr} {fd : FuncData} (F : C8.Fun K "__init__" "Rule.__init__" s_Rule_init f fd) (T : Tx mg) (RT : RuT K C) (c_is_word : Cal P w K mg base 1 "is_word" (spIsWord K) []) (c_are_stuffs : Cal P w K mg base 4 "are_stuffs" (spAre K) []) (c_is_endless : Met P w K mg base 4 C "is_endless" (spEndless C) []) :
    FnOk P w K mg base CX0 5 f fd ["self", "flag", "stuffs"] (spRuInit K C) := by
  refine fn0 F sc_Rule_init (fun vs H Q E h => ?_) (fun cdv A outer s H vs Q E hr h => ?_)
  · obtain ⟨_, _, _, _, _, _, rfl, _⟩ := h; rfl
  · obtain ⟨a, dx, sq, fl, ps, kb, rfl, ha, hS, hs, ok, hO, h2, hl, k⟩ := h
    refine ⟨_, (pss_cons (ps_if (PW.pt (pw_or (pt_not (pt_val (pe_c c_is_word hr (by decide) rfl (pa_cons (pv 1) pa_nil)))) (pw_or1 (pt_cmpR op_lt (pe_callB call_len_str (by rfl) T.b_len (by decide +kernel) (pa_cons (pv 1) pa_nil)) pe_int (nomark _))))) (pss_one ps_never) pss_nil)
    (pss_cons (ps_if (pt_not (pt_val (pe_c c_are_stuffs hr (by decide) rfl (pa_cons (pv 2) pa_nil)))) (pss_one ps_never) pss_nil)
    (pss_cons (ps_fld (pv 0) (pv 1) rfl)
    (pss_cons (ps_fld (pv 0) (pe_callTy call_tuple_of (by rfl) T.b_tuple (by decide +kernel) (pa_cons (pe_callB cr_sortedT (by rfl) T.b_sorted (by decide +kernel) (pa_cons (pv 2) pa_nil)) pa_nil)) rfl)
    (pss_one (ps_if (pt_val (pe_mt0 (pl := _) c_is_endless hr (by decide) (pv 0))) (pss_one ps_never) pss_nil)))))), ?_⟩
    have lf : (W fl).length = fl.length := W_len fl
    refine ⟨_, rfl, _, rfl, .inl ⟨_, rfl, by rw [lf]; omega, fun H1 s1 => ⟨_, rfl, iteBF (by rw [isW_W]; rfl) ?_⟩⟩⟩
    refine ⟨_, rfl, _, rfl, by rw [lf]; exact sl_len (by omega), _, _, rfl, rfl, _, rfl, iteDF (by rw [lf]; omega) ?_⟩
    refine ⟨_, rfl, sq, ps, kb, rfl, hS.same s1, hs.same s1, ok, fun H2 s2 => ⟨_, rfl, ?_⟩⟩
    have s02 := s1.trans s2
    have ha2 := s02 _ _ ha
    refine ⟨_, rfl, _, rfl, a, C, dx, _, rfl, ha2, RT.cl, RT.nF, by decide, ?_⟩
    have keep3 : ∀ c o, H c = some o → c ≠ a → upd H2 a (.ins C dx (putF "flag" (.str (W fl)) [])) c = some o := fun c o e n => by rw [upd_ne n]; exact s02 _ _ e
    have ha3 : upd H2 a (.ins C dx (putF "flag" (.str (W fl)) [])) a = some (.ins C dx (putF "flag" (.str (W fl)) [])) := upd_same
    have hs3 : StV (upd H2 a (.ins C dx (putF "flag" (.str (W fl)) []))) kb ps := fun t ht => keep3 _ _ (hs t ht) (ne_of (hs t ht) ha (by intro z; cases z))
    have hS3 : SqL K (upd H2 a (.ins C dx (putF "flag" (.str (W fl)) []))) sq (ps.map V.ref) ∨ SqT K (upd H2 a (.ins C dx (putF "flag" (.str (W fl)) []))) sq (ps.map V.ref) := by
      rcases hS with ((h | ⟨o, h⟩) | h) | ((h | ⟨o, h⟩) | h)
      · exact .inl (.inl (.inl (keep3 _ _ h (ne_of h ha (by intro z; cases z)))))
      · exact .inl (.inl (.inr ⟨o, keep3 _ _ h (ne_of h ha (by intro z; cases z))⟩))
      · exact .inl (.inr h)
      · exact .inr (.inl (.inl (keep3 _ _ h (ne_of h ha (by intro z; cases z)))))
      · exact .inr (.inl (.inr ⟨o, keep3 _ _ h (ne_of h ha (by intro z; cases z))⟩))
      · exact .inr (.inr h)
    generalize upd H2 a (.ins C dx (putF "flag" (.str (W fl)) [])) = H3 at keep3 ha3 hs3 hS3
    refine ⟨_, rfl, sq, ps, fun t => key (kb t), rfl, hS3, fun t ht => hs3 t ht, fun qs p1 srt prm n1 => ?_⟩
    refine ⟨p1, _, rfl, .inl ⟨SqL.of upd_same, fun p2 n2 => ?_⟩⟩
    have s5 : Same H3 (upd (upd H3 p1 (.lst (qs.map V.ref))) p2 (.tup (qs.map V.ref))) := (same_upd n1).trans (same_upd n2)
    have hT5 : upd (upd H3 p1 (.lst (qs.map V.ref))) p2 (.tup (qs.map V.ref)) p2 = some (.tup (qs.map V.ref)) := upd_same
    generalize upd (upd H3 p1 (.lst (qs.map V.ref))) p2 (.tup (qs.map V.ref)) = H5 at s5 hT5
    have ha5 := s5 _ _ ha3
    refine ⟨_, rfl, a, C, dx, _, rfl, ha5, RT.cl, RT.nS, by show 1 < 1000; decide, ?_⟩
    have na2 : p2 ≠ a := ne_of hT5 ha5 (by intro z; cases z)
    have keep6 : ∀ c o, H3 c = some o → c ≠ a → upd H5 a (.ins C dx (putF "stuffs" (.ref p2) (putF "flag" (.str (W fl)) []))) c = some o := fun c o e n => by rw [upd_ne n]; exact s5 _ _ e
    have ha6 : upd H5 a (.ins C dx (putF "stuffs" (.ref p2) (putF "flag" (.str (W fl)) []))) a = some (.ins C dx (ruF fl p2)) := upd_same
    have hT6 : upd H5 a (.ins C dx (putF "stuffs" (.ref p2) (putF "flag" (.str (W fl)) []))) p2 = some (.tup (qs.map V.ref)) := by rw [upd_ne na2]; exact hT5
    generalize upd H5 a (.ins C dx (putF "stuffs" (.ref p2) (putF "flag" (.str (W fl)) []))) = H6 at keep6 ha6 hT6
    have hs6 : StV H6 kb qs := StV.perm (fun t ht => keep6 _ _ (hs3 t ht) (ne_of (hs3 t ht) ha3 (by intro z; cases z))) prm
    have pm : (qs.map kb).Perm (ps.map kb) := prm.map kb
    have hR6 : RuAt C H6 a fl (qs.map kb) := ⟨dx, p2, qs, kb, ha6, hT6, hs6, rfl⟩
    have ok6 := ok.perm pm.symm
    refine ⟨_, rfl, a, dx, _, rfl, ha6, ruF_no _ _ (by decide +kernel) (by decide +kernel), a, fl, qs.map kb, rfl, hR6, ok6.few, ok6.long, hO.congr fun l => put_perm ok.free pm.symm l, fun H7 s7 => ⟨_, rfl, ?_⟩⟩
    exact k H7 (qs.map kb) (fun c o e n => s7 _ _ (keep6 _ _ (keep3 _ _ e n) n)) pm (pwS srt) (hR6.same s7)
end
end U
set_option maxRecDepth 100000
set_option maxHeartbeats 4000000
namespace U
open PySem PySem.Spec PyProof.Rows
open L2 hiding Fun CX0 E0 pass0 Fun.binds
open C8 Lx SX StX
inductive PutX (ss : List Stf) (l : List Bool) : List Bool → Prop
  | nil : PutX ss l []
  | snoc {y : List Bool} {b : Bool} : PutX ss l y → putM ss (l ++ y) = some b → PutX ss l (y ++ [b])
theorem PutX.ins {ss : List Stf} {l y : List Bool} (h : PutX ss l y) : ∀ {x}, Ins ss (l ++ y) x → Ins ss l (y ++ x) := by
  induction h with
  | nil => intro x hx; rw [List.append_nil] at hx; exact hx
  | @snoc y b hp hb ih =>
    intro x hx
    rw [← List.append_assoc] at hx
    have := ih (.more hb hx)
    rw [List.append_assoc]
    exact this
theorem PutX.pre {ss : List Stf} {l y : List Bool} (h : PutX ss l y) : ∀ {x}, Ins ss l x → ∃ z, x = y ++ z ∧ Ins ss (l ++ y) z := by
  induction h with
  | nil => intro x hx; exact ⟨x, rfl, by rw [List.append_nil]; exact hx⟩
  | @snoc y b hp hb ih =>
    intro x hx
    obtain ⟨z, rfl, hz⟩ := ih hx
    cases hz with
    | stop h => rw [hb] at h; cases h
    | @more _ z' b' h1 h2 =>
      rw [hb] at h1
      cases Option.some.inj h1
      exact ⟨z', by simp, by rw [← List.append_assoc]; exact h2⟩
def OutR (ss : List Stf) (l : List Bool) (o : Option (List Bool)) : Prop := (∀ x, o = some x → Ins ss l x) ∧ (o = none → ∀ x, ¬ Ins ss l x)
theorem oWx_non (o : Option (List Bool)) : decide (oW o = .non) = o.isNone := by
  cases o with
  | none => exact decide_eq_true rfl
  | some _ => exact decide_eq_false (fun z => by cases z)
def spPutInX (C : Addr) : Sp := fun vs H Q _ => ∃ (a : Addr) (f : List Bool) (ss : List Stf) (l : List Bool), vs = [.ref a, .str (W l)] ∧ RuAt C H a f ss ∧ ss.length ≤ 1000 ∧ longM ss ≤ 9 ∧ l.length ≤ 40000 ∧ ∀ o H', OutR ss l o → Same H H' → Q (oW o) H'
def spEndlessX (C : Addr) : Sp := fun vs H Q _ => ∃ (a : Addr) (f : List Bool) (ss : List Stf), vs = [.ref a] ∧ RuAt C H a f ss ∧ ss.length ≤ 1000 ∧ longM ss ≤ 9 ∧ ∀ b H', (b = true ↔ ¬ OkR ss) → Same H H' → Q (.bl b) H'
section
variable {P : Program} {w : World} {K : PySem.W.Frag} {mg : Str → Option Value} {base : Heap}
theorem met_put_inX {f C : Addr} {fd : FuncData} (F : C8.Fun K "put_in" "Rule.put_in" s_Rule_put_in f fd) (me : Meth K C "put_in" f) (b : Binds K fd ["self", "line"] []) (T : Tx mg) (RT : RuT K C)
    (c_put : Met P w K mg base 1 C "put" (spPut C) []) (p_longest : Prp P w K mg base 1 C "longest" (spLongest C)) (c_tail : Cal P w K mg base 1 "tail" spTail []) : Met P w K mg base 3 C "put_in" (spPutInX C) [] := by
  refine met0 RT.cl me F b sc_Rule_put_in (fun vs H Q E h => ?_) (fun cdv A outer s H vs Q E hr h => ?_)
  · obtain ⟨_, _, _, _, rfl, _⟩ := h; rfl
  · obtain ⟨a, fl, ss, l, rfl, hR, hn, h9, hl, k⟩ := h
    refine ⟨_, (pss_cons (ps_par (i := 2) (j := 3) (by rfl) sc_Rule_put_in.nd rfl rfl (by decide) rfl rfl (pa_cons pe_str (pa_cons pe_dnewK pa_nil)) (by rfl))
    (pss_cons (ps_set (i := 4) sc_Rule_put_in.nd rfl (.inl rfl) (pe_mt (pl := _) c_put hr (by decide) (pv 0) (pa_cons (pv 1) pa_nil)))
    (pss_cons (ps_while PassesOwn.never (pt_cmpR op_notN (pv 4) pe_non (nomark _))
    (pss_cons (ps_set (i := 5) sc_Rule_put_in.nd rfl (.inl rfl) (pe_c c_tail hr (by decide) rfl (pa_cons (pe_op op_add_str (pv 1) (pv 2)) (pa_cons (pe_pr p_longest hr (by decide) (pv 0)) pa_nil))))
    (pss_cons (ps_if (pt_cmp (pc_din (hu_of hr) (pv 5) (pv 3))) (pss_one (ps_ret pe_non)) pss_nil)
    (pss_cons (ps_dput (hu_of hr) (pv 3) (pv 5) pe_bl rfl)
    (pss_cons (ps_aug (i := 2) sc_Rule_put_in.nd rfl (.inl rfl) (pv 4) iop_add_str)
    (pss_one (ps_set (i := 4) sc_Rule_put_in.nd rfl (.inl rfl) (pe_mt (pl := _) c_put hr (by decide) (pv 0) (pa_cons (pe_op op_add_str (pv 1) (pv 2)) pa_nil)))))))))
    (pss_one (ps_ret (pv 2)))))), ?_⟩
    have hL : ∀ s ∈ ss, s.1.length ≤ longM ss := fun s hs => longM_le hs
    have hpw := p10 h9
    have hat : ∀ {H2 : Hp}, Same H H2 → ∃ dx t, H2 a = some (.ins C dx (ruF fl t)) := fun s2 => by
      obtain ⟨dx, t, _, _, ha, _⟩ := hR.same s2
      exact ⟨dx, t, ha⟩
    have e1 : (W l).length = l.length := W_len l
    refine fun D nD => ⟨_, _, rfl, ?_⟩
    have s1 : Same H (upd H D (.dK [])) := same_upd nD
    have hD1 : upd H D (.dK []) D = some (.dK []) := upd_same
    generalize upd H D (.dK []) = H1 at s1 hD1
    obtain ⟨dx, t, ha⟩ := hat s1
    refine ⟨_, rfl, a, dx, _, rfl, ha, ruF_no _ _ (by decide +kernel) (by decide +kernel), _, rfl, a, fl, ss, l, rfl, hR.same s1, fun H2 s2 => ?_⟩
    refine ⟨fun m σ H3 => ∃ (y : List Bool) (v5 : Option V), y.length + m = 1024 ∧ PutX ss l y ∧ ((List.range y.length).map fun i => tl (longM ss) (l ++ y.take i)).Nodup ∧ σ = [some (.ref a), some (.str (W l)), some (.str (W y)), some (.ref D), some (oB (putM ss (l ++ y))), v5] ∧ Same H H3 ∧ H3 D = some (.dK (kst ((List.range y.length).map fun i => tl (longM ss) (l ++ y.take i)))),
      ⟨1024, [], none, rfl, .nil, List.nodup_nil, by rw [List.append_nil, ← W_nil]; rfl, s1.trans s2, s2 _ _ hD1⟩, ?_⟩
    rintro m σ H3 ⟨y, v5, hm, hP, hnd, rfl, s3, hD3⟩
    refine ⟨_, rfl, rfl, _, rfl, ?_⟩
    rw [oB_non]
    cases hput : putM ss (l ++ y) with
    | none =>
      refine ⟨_, rfl, ?_⟩
      have e := hP.ins (.stop hput)
      rw [List.append_nil] at e
      exact k (some y) H3 ⟨fun x hx => Option.some.inj hx ▸ e, fun z => by cases z⟩ s3
    | some c =>
      refine ⟨fun σ' H' => ∃ m', m' < m ∧ ∃ (y : List Bool) (v5 : Option V), y.length + m' = 1024 ∧ PutX ss l y ∧ ((List.range y.length).map fun i => tl (longM ss) (l ++ y.take i)).Nodup ∧ σ' = [some (.ref a), some (.str (W l)), some (.str (W y)), some (.ref D), some (oB (putM ss (l ++ y))), v5] ∧ Same H H' ∧ H' D = some (.dK (kst ((List.range y.length).map fun i => tl (longM ss) (l ++ y.take i)))), fun _ _ h => h, ?_⟩
      have hfew : y.length + 1 ≤ 2 ^ (longM ss + 1) := by
        have := words_le hnd (fun w hw => by obtain ⟨i, _, rfl⟩ := List.mem_map.mp hw; exact tl_le _ _)
        rw [List.length_map, List.length_range] at this
        exact this
      have e2 : (W y).length = y.length := W_len _
      obtain ⟨dx3, t3, ha3⟩ := hat s3
      refine ⟨_, rfl, _, rfl, _, _, rfl, rfl, by rw [e1, e2]; exact sl_len (by omega), _, rfl, a, dx3, _, rfl, ha3, a, fl, ss, rfl, hR.same s3, hn, fun s hs => Nat.le_trans (longM_le hs) (by omega), fun H4 s4 => ?_⟩
      refine ⟨l ++ y, longM ss, by rw [← W_cat l]; rfl, by rw [List.length_append]; omega, ?_⟩
      have hD4 := s4 _ _ hD3
      have s34 := s3.trans s4
      by_cases nin : tl (longM ss) (l ++ y) ∈ (List.range y.length).map fun i => tl (longM ss) (l ++ y.take i)
      · refine ⟨_, rfl, _, rfl, D, _, rfl, DGet.k (k := .inr (W (tl (longM ss) (l ++ y)))) hD4, _, rfl, iteBT (by rw [val_in nin]; rfl) ?_⟩
        refine k none H4 ⟨fun x z => (by cases z), fun _ x hx => ?_⟩ s34
        obtain ⟨z, rfl, hz⟩ := hP.pre hx
        obtain ⟨i, hi, e⟩ := List.mem_map.mp nin
        have hi' := List.mem_range.mp hi
        have t1 : (y ++ z).take i = y.take i := List.take_append_of_le_length (by omega)
        have t2 : (y ++ z).take y.length = y := List.take_left' rfl
        have := hx.apart hL (i := i) (j := y.length) (by rw [List.length_append]; omega) (by rw [List.length_append]; omega) (by rw [t1, t2]; exact e)
        omega
      · refine ⟨_, rfl, _, rfl, D, _, rfl, DGet.k (k := .inr (W (tl (longM ss) (l ++ y)))) hD4, _, rfl, iteBF (by rw [val_out nin]; rfl) ?_⟩
        refine ⟨_, rfl, _, rfl, D, _, rfl, DPut.k (k := .inr (W (tl (longM ss) (l ++ y)))) hD4 (by unfold kst; rw [List.length_map, List.length_map, List.length_range]; exact sl_lt (by omega)), ?_⟩
        rw [put_out nin]
        have ek : ((List.range y.length).map fun i => tl (longM ss) (l ++ y.take i)) ++ [tl (longM ss) (l ++ y)] = (List.range (y ++ [c]).length).map fun i => tl (longM ss) (l ++ (y ++ [c]).take i) := by
          rw [List.length_append, show [c].length = 1 from rfl, List.range_succ, List.map_append]
          congr 1
          · refine List.map_congr_left fun i hi => ?_
            have := List.mem_range.mp hi
            rw [List.take_append_of_le_length (by omega)]
          · show [tl (longM ss) (l ++ y)] = [tl (longM ss) (l ++ (y ++ [c]).take y.length)]
            rw [List.take_left' rfl]
        have hnd2 : ((List.range (y ++ [c]).length).map fun i => tl (longM ss) (l ++ (y ++ [c]).take i)).Nodup := by
          rw [← ek, List.nodup_append]
          exact ⟨hnd, by simp, fun x hx z hz e => nin (by rw [← List.mem_singleton.mp hz, ← e]; exact hx)⟩
        rw [ek]
        have s5 : Same H (upd H4 D (.dK (kst ((List.range (y ++ [c]).length).map fun i => tl (longM ss) (l ++ (y ++ [c]).take i))))) := fun c o e => by
          rw [upd_ne (ne_of_none e nD)]
          exact s34 _ _ e
        have hD5 : upd H4 D (.dK (kst ((List.range (y ++ [c]).length).map fun i => tl (longM ss) (l ++ (y ++ [c]).take i)))) D = some (.dK (kst ((List.range (y ++ [c]).length).map fun i => tl (longM ss) (l ++ (y ++ [c]).take i)))) := upd_same
        generalize upd H4 D (.dK (kst ((List.range (y ++ [c]).length).map fun i => tl (longM ss) (l ++ (y ++ [c]).take i)))) = H5 at s5 hD5
        have e3 : (W [c]).length = 1 := W_len _
        refine ⟨_, rfl, _, rfl, _, _, rfl, rfl, by rw [e2, e3]; exact sl_len (by omega), ?_⟩
        rw [W_cat]
        have e4 : (W (y ++ [c])).length = y.length + 1 := by rw [W_len, List.length_append]; rfl
        obtain ⟨dx5, t5, ha5⟩ := hat s5
        refine ⟨_, rfl, a, dx5, _, rfl, ha5, ruF_no _ _ (by decide +kernel) (by decide +kernel), _, rfl, _, rfl, _, _, rfl, rfl, by rw [e1, e4]; exact sl_len (by omega), ?_⟩
        refine ⟨a, fl, ss, l ++ (y ++ [c]), by rw [← W_cat l]; rfl, hR.same s5, fun H6 s6 => ?_⟩
        exact ⟨m - 1, by omega, y ++ [c], _, by rw [List.length_append]; show _ + 1 + _ = _; omega, hP.snoc hput, hnd2, rfl, s5.trans s6, s6 _ _ hD5⟩
end
end U
set_option maxRecDepth 100000
set_option maxHeartbeats 4000000
namespace U
open PySem PySem.Spec PyProof.Rows
open L2 hiding Fun CX0 E0 pass0 Fun.binds
open C8 Lx SX StX
theorem okR_of {ss : List Stf} {L : Nat} (kn : List (List Bool)) (hL : ∀ s ∈ ss, s.1.length ≤ L) (h0 : [] ∈ kn) (hx : ∀ w ∈ kn, ∀ b, ∃ x, Ins ss (w ++ [b]) x ∧ tl L (w ++ [b] ++ x) ∈ kn) : OkR ss := by
  have hr : ∀ l, Reach ss l → ∃ w ∈ kn, tl L w = tl L l := fun l r => by
    induction r with
    | nil => exact ⟨[], h0, rfl⟩
    | @next l x b r i ih =>
      obtain ⟨w, hw, e⟩ := ih
      obtain ⟨y, hy, hm⟩ := hx w hw b
      have e2 := tl_snoc (b := b) e
      have ey := (hy.tl hL e2).det i
      subst ey
      exact ⟨_, hm, by rw [tl_tl (Nat.le_refl L)]; exact tl_app e2 y⟩
  intro l r b
  obtain ⟨w, hw, e⟩ := hr l r
  obtain ⟨y, hy, _⟩ := hx w hw b
  exact ⟨y, hy.tl hL (tl_snoc e)⟩
def CldB (ss : List Stf) (ws : List (List Bool)) (n : Nat) (bs : List Bool) : Prop := ∀ j w b, ws[j]? = some w → (j < n ∨ (j = n ∧ b ∈ bs)) → ∃ x, Ins ss (w ++ [b]) x ∧ tl (longM ss) (w ++ [b] ++ x) ∈ ws
theorem CldB.more {ss : List Stf} {ws : List (List Bool)} {n : Nat} {bs : List Bool} {u : List Bool} (h : CldB ss ws n bs) (hn : n < ws.length) : CldB ss (ws ++ [u]) n bs := fun j w b e c => by
  have hj : j < ws.length := by rcases c with c | ⟨c, _⟩ <;> omega
  rw [List.getElem?_append_left hj] at e
  obtain ⟨x, h1, h2⟩ := h j w b e c
  exact ⟨x, h1, List.mem_append_left _ h2⟩
theorem CldB.bit {ss : List Stf} {ws : List (List Bool)} {n i : Nat} {b0 : Bool} {w0 x : List Bool} (h : CldB ss ws n ([false, true].take i)) (hb : [false, true][i]? = some b0) (hw : ws[n]? = some w0) (h1 : Ins ss (w0 ++ [b0]) x) (h2 : tl (longM ss) (w0 ++ [b0] ++ x) ∈ ws) : CldB ss ws n ([false, true].take (i + 1)) := fun j w b e c => by
  rcases c with c | ⟨c, m⟩
  · exact h j w b e (.inl c)
  · rw [List.take_add_one, hb] at m
    rcases List.mem_append.mp m with m | m
    · exact h j w b e (.inr ⟨c, m⟩)
    · subst c
      rw [hw] at e
      cases e
      rw [List.mem_singleton.mp m]
      exact ⟨x, h1, h2⟩
theorem CldB.next {ss : List Stf} {ws : List (List Bool)} {n : Nat} (h : CldB ss ws n [false, true]) : CldB ss ws (n + 1) [] := fun j w b e c => by
  refine h j w b e ?_
  rcases c with c | ⟨_, m⟩
  · rcases Nat.lt_or_eq_of_le (Nat.le_of_lt_succ c) with z | z
    · exact .inl z
    · exact .inr ⟨z, by cases b <;> simp⟩
  · cases m
theorem CldB.ok {ss : List Stf} {ws : List (List Bool)} {n : Nat} {bs : List Bool} (h : CldB ss ws n bs) (hn : ws.length ≤ n) (h0 : [] ∈ ws) : OkR ss :=
  okR_of ws (fun s hs => longM_le hs) h0 fun w hw b => by
    obtain ⟨j, hj, e⟩ := List.getElem_of_mem hw
    exact h j w b (by rw [List.getElem?_eq_getElem hj, e]) (.inl (by omega))
def spRuInitX (K : PySem.W.Frag) (C CI : Addr) : Sp := fun vs H Q E => ∃ (a dx s : Addr) (f : List Bool) (ps : List Addr) (kb : Addr → Stf), vs = [.ref a, .str (W f), .ref s] ∧ H a = some (.ins C dx []) ∧ Sq K H s (ps.map V.ref) ∧ StV H kb ps ∧ StOk (ps.map kb) ∧ f.length ≤ 1000 ∧
  (f.length < 2 → ∀ d H', (∀ b o, H b = some o → b ≠ a → H' b = some o) → H' d = some (.xd [("word", .str "flag")]) → E (.ref CI) (some d) H') ∧
  (2 ≤ f.length → OkR (ps.map kb) → ∀ H' ss, (∀ b o, H b = some o → b ≠ a → H' b = some o) → ss.Perm (ps.map kb) → SortedS ss → RuAt C H' a f ss → Q .non H') ∧
  (2 ≤ f.length → ¬ OkR (ps.map kb) → ∀ d H', (∀ b o, H b = some o → b ≠ a → H' b = some o) → H' d = some (.xd [("word", .str "endless")]) → E (.ref CI) (some d) H')
section
variable {P : Program} {w : World} {K : PySem.W.Frag} {mg : Str → Option Value} {base : Heap}
theorem met_is_endlessX {f C : Addr} {fd : FuncData} {tB : Tok} (F : C8.Fun K "is_endless" "Rule.is_endless" s_Rule_is_endless f fd) (me : Meth K C "is_endless" f) (b : Binds K fd ["self"] []) (T : Tx mg) (RT : RuT K C) (g_BITS : mg "BITS" = some (.str "01" tB))
    (c_put_inX : Met P w K mg base 3 C "put_in" (spPutInX C) []) (p_longest : Prp P w K mg base 1 C "longest" (spLongest C)) (c_tail : Cal P w K mg base 1 "tail" spTail []) : Met P w K mg base 4 C "is_endless" (spEndlessX C) [] := by
  refine met0 RT.cl me F b sc_Rule_is_endless (fun vs H Q E h => ?_) (fun cdv A outer s H vs Q E hr h => ?_)
  · obtain ⟨_, _, _, rfl, _⟩ := h; rfl
  · obtain ⟨a, fl, ss, rfl, hR, hn, h9, k⟩ := h
    have c_put_in := c_put_inX
    refine ⟨_, (pss_cons (ps_par3 (i := 1) (j := 2) (l := 3) (by rfl) sc_Rule_is_endless.nd rfl rfl rfl (by decide) (by decide) (by decide) rfl rfl rfl (pa_cons (pe_lst (pa_cons pe_str pa_nil)) (pa_cons (pe_disp (pps_cons pe_str pe_bl pps_nil) (by rfl) (by rfl) (fun z => by cases z) (by decide)) (pa_cons pe_int pa_nil))) (by rfl))
    (pss_cons (ps_while PassesOwn.never (pt_cmpR op_lt (pv 3) (pe_callB call_len_seq (by rfl) T.b_len (by decide +kernel) (pa_cons (pv 1) pa_nil)) (nomark _))
    (pss_cons (ps_for PassesOwn.never rfl (pi_str (pe_glob (v := .str "01") (by rfl) g_BITS ⟨_, rfl⟩)) (pg_name (i := 4) sc_Rule_is_endless.nd rfl (.inl rfl))
    (pss_cons (ps_set (i := 5) sc_Rule_is_endless.nd rfl (.inl rfl) (pe_op op_add_str (pe_ix ix_list (pv 1) (pv 3) (fun _ _ => rfl)) (pv 4)))
    (pss_cons (ps_set (i := 6) sc_Rule_is_endless.nd rfl (.inl rfl) (pe_mt (pl := _) c_put_in hr (by decide) (pv 0) (pa_cons (pv 5) pa_nil)))
    (pss_cons (ps_if (pt_cmpR op_isN (pv 6) pe_non (nomark _)) (pss_one (ps_ret pe_bl)) pss_nil)
    (pss_cons (ps_set (i := 7) sc_Rule_is_endless.nd rfl (.inl rfl) (pe_c c_tail hr (by decide) rfl (pa_cons (pe_op op_add_str (pv 5) (pv 6)) (pa_cons (pe_pr p_longest hr (by decide) (pv 0)) pa_nil))))
    (pss_one (ps_if (pt_cmp (pc_dnotin (hu_of hr) (pv 7) (pv 2))) (pss_cons (ps_dput (hu_of hr) (pv 2) (pv 7) pe_bl rfl)
    (pss_one (ps_expr (pe_bm PySem.F.plainAttrs_list PySem.F.slot_list_append PySem.F.type_list_append mt_append (pv 1) (pa_cons (pv 7) pa_nil))))) pss_nil)))))))
    (pss_one (ps_aug (i := 3) sc_Rule_is_endless.nd rfl (.inl rfl) pe_int ip_add))))
    (pss_one (ps_ret pe_bl)))), ?_⟩
    have hL : ∀ s ∈ ss, s.1.length ≤ longM ss := fun s hs => longM_le hs
    have hpw := p10 h9
    have hat : ∀ {H2 : Hp}, Same H H2 → ∃ dx t, H2 a = some (.ins C dx (ruF fl t)) := fun s2 => by
      obtain ⟨dx, t, _, _, ha, _⟩ := hR.same s2
      exact ⟨dx, t, ha⟩
    refine ⟨by show 1 ≤ sizeLine; decide, fun q nq d nd => ⟨upd_same, [(.inr "", .bl true)], rfl, by decide, _, _, _, rfl, ?_⟩⟩
    have nqd : q ≠ d := fun z => by rw [← z, upd_same] at nd; cases nd
    have b0 : Bfs ss H (upd (upd (upd H q (.lst [.str ""])) d (.dK [])) d (.dK (mergeK [] [(.inr "", .bl true)]))) q d [[]] := by
      refine ⟨fun c o e => ?_, ?_, ?_, ?_, ?_, ?_⟩
      · have n1 := ne_of_none e nq
        have n2 : c ≠ d := fun z => by rw [z] at e n1; rw [upd_ne n1, e] at nd; cases nd
        rw [upd_ne n2, upd_ne n2, upd_ne n1]
        exact e
      · rw [upd_ne nqd, upd_ne nqd, upd_same, W_nil]; rfl
      · rw [upd_same, W_nil]; rfl
      · simp
      · intro w hw; rw [List.mem_singleton.mp hw]; exact Nat.zero_le _
      · intro w hw; rw [List.mem_singleton.mp hw]; exact ⟨[], .nil, by unfold tl; rw [List.drop_nil]⟩
    have nq0 : H q = none := nq
    have nd0 : H d = none := by
      cases e : H d with
      | none => rfl
      | some o => rw [upd_ne (Ne.symm nqd), e] at nd; cases nd
    generalize upd (upd (upd H q (.lst [.str ""])) d (.dK [])) d (.dK (mergeK [] [(.inr "", .bl true)])) = H1 at b0
    refine ⟨fun m σ H2 => ∃ (n : Nat) (ws : List (List Bool)) (v4 v5 v6 v7 : Option V), σ = [some (.ref a), some (.ref q), some (.ref d), some (.int n), v4, v5, v6, v7] ∧ Bfs ss H H2 q d ws ∧ n ≤ ws.length ∧ m + n = 2 ^ (longM ss + 1) ∧ CldB ss ws n [] ∧ [] ∈ ws,
      ⟨2 ^ (longM ss + 1), 0, [[]], none, none, none, none, rfl, b0, Nat.zero_le _, by omega, fun j w b _ c => (by rcases c with c | ⟨_, c⟩ <;> cases c), List.mem_singleton.mpr rfl⟩, ?_⟩
    rintro m σ H2 ⟨n, ws, v4, v5, v6, v7, rfl, B2, hn2, hm, hc2, h02⟩
    have few2 := B2.few
    refine ⟨_, rfl, _, rfl, q, _, rfl, .inl (SqL.of B2.wait), _, _, rfl, rfl, _, rfl, ?_⟩
    rw [List.length_map]
    by_cases hlt : n < ws.length
    · refine iteDT (by omega) ?_
      refine ⟨fun σ' H' => ∃ m', m' < m ∧ ∃ (n : Nat) (ws : List (List Bool)) (v4 v5 v6 v7 : Option V), σ' = [some (.ref a), some (.ref q), some (.ref d), some (.int n), v4, v5, v6, v7] ∧ Bfs ss H H' q d ws ∧ n ≤ ws.length ∧ m' + n = 2 ^ (longM ss + 1) ∧ CldB ss ws n [] ∧ [] ∈ ws, fun _ _ h => h, ?_⟩
      refine ⟨_, rfl, for_it walk_str (fun i σ H3 => ∃ (ws : List (List Bool)) (v4 v5 v6 v7 : Option V), σ = [some (.ref a), some (.ref q), some (.ref d), some (.int n), v4, v5, v6, v7] ∧ Bfs ss H H3 q d ws ∧ n < ws.length ∧ CldB ss ws n ([false, true].take i) ∧ [] ∈ ws) ⟨ws, _, _, _, _, rfl, B2, hlt, hc2, h02⟩ (fun _ _ _ _ _ => trivial) ?_ ?_⟩
      · rintro i x σ H3 H3' hi ⟨ws, v4, v5, v6, v7, rfl, B3, hlt3, hc3, h03⟩ ⟨rfl, c, hc, rfl⟩
        have e01 : ("01" : Str) = W [false, true] := by decide +kernel
        rw [e01] at hc
        obtain ⟨bb, hbb, rfl⟩ := W_get hc
        have hwn : ws[n]? = some ws[n] := List.getElem?_eq_getElem hlt3
        have hw : (ws.map fun w => V.str (W w))[n]? = some (.str (W ws[n])) := by rw [List.getElem?_map, List.getElem?_eq_getElem hlt3]; rfl
        have hmem : ws[n] ∈ ws := List.getElem_mem hlt3
        generalize ws[n] = w0 at hw hmem hwn
        have hs0 := B3.short _ hmem
        have few3 := B3.few
        obtain ⟨l0, hr0, e0⟩ := B3.reach _ hmem
        have ht0 : tl (longM ss) l0 = tl (longM ss) w0 := by rw [← e0, tl_tl (Nat.le_refl _)]
        have ew : W w0 ++ (⟨#[bt bb]⟩ : Str) = W (w0 ++ [bb]) := W_cat w0 [bb]
        have el : (W w0).length + (⟨#[bt bb]⟩ : Str).length ≤ sizeLine := by
          have e1 : (W w0).length = w0.length := W_len _
          have e2 : (⟨#[bt bb]⟩ : Str).length = 1 := W_len [bb]
          rw [e1, e2]; exact sl_len (by omega)
        refine ⟨_, rfl, _, rfl, q, _, _, _, rfl, rfl, SqL.of B3.wait, atI_nat hw, _, rfl, _, _, rfl, rfl, el, ?_⟩
        rw [ew]
        obtain ⟨dx3, t3, ha3⟩ := hat B3.same
        have hl1 : (w0 ++ [bb]).length ≤ 10 := by rw [List.length_append, List.length_cons, List.length_nil]; omega
        refine ⟨_, rfl, a, dx3, _, rfl, ha3, ruF_no _ _ (by decide +kernel) (by decide +kernel), _, rfl, a, fl, ss, w0 ++ [bb], rfl, hR.same B3.same, hn, h9, by omega, fun o H4 ho s4 => ?_⟩
        have B4 := B3.on s4
        cases o with
        | none =>
          refine ⟨_, rfl, rfl, _, rfl, iteDT rfl ?_⟩
          refine k true H4 ⟨fun _ hO => ?_, fun _ => rfl⟩ B4.same
          obtain ⟨y, hy⟩ := hO l0 hr0 bb
          exact ho.2 rfl y (hy.tl hL (tl_snoc ht0))
        | some y =>
        have hy' := ho.1 y rfl
        have hy : Ins ss (l0 ++ [bb]) y := hy'.tl hL (tl_snoc (b := bb) ht0.symm)
        have hyl := hy.len hL
        have hnx : tl (longM ss) (l0 ++ [bb] ++ y) = tl (longM ss) (w0 ++ [bb] ++ y) := tl_app (tl_snoc (b := bb) ht0) y
        have hrn : Reach ss (l0 ++ [bb] ++ y) := .next hr0 hy
        refine ⟨_, rfl, rfl, _, rfl, iteDF (fun z => by cases z) ?_⟩
        obtain ⟨dx4, t4, ha4⟩ := hat B4.same
        have e3 : (W (w0 ++ [bb])).length = (w0 ++ [bb]).length := W_len _
        have e4 : (W y).length = y.length := W_len _
        refine ⟨_, rfl, _, rfl, _, _, rfl, rfl, by rw [e3, e4]; exact sl_len (by omega), _, rfl, a, dx4, _, rfl, ha4, a, fl, ss, rfl, hR.same B4.same, hn, fun s hs => Nat.le_trans (longM_le hs) (by omega), fun H5 s5 => ?_⟩
        have B5 := B4.on s5
        refine ⟨w0 ++ [bb] ++ y, longM ss, by rw [← W_cat (w0 ++ [bb]) y]; rfl, by rw [List.length_append]; omega, ?_⟩
        refine ⟨_, rfl, _, rfl, d, _, rfl, DGet.k (k := .inr (W (tl (longM ss) (w0 ++ [bb] ++ y)))) B5.known, _, rfl, ?_⟩
        by_cases hin : tl (longM ss) (w0 ++ [bb] ++ y) ∈ ws
        · refine iteBF (by rw [val_in hin]; rfl) ?_
          exact ⟨ws, _, _, _, _, rfl, B5, hlt3, hc3.bit hbb hwn hy' hin, h03⟩
        · refine iteBT (by rw [val_out hin]; rfl) ?_
          refine ⟨_, rfl, _, rfl, d, _, rfl, DPut.k (k := .inr (W (tl (longM ss) (w0 ++ [bb] ++ y)))) B5.known (by unfold kst; rw [List.length_map]; exact sl_lt (by omega)), ?_⟩
          rw [put_out hin]
          have hW6 : upd H5 d (.dK (kst (ws ++ [tl (longM ss) (w0 ++ [bb] ++ y)]))) q = some (.lst (ws.map fun w => V.str (W w))) := by rw [upd_ne nqd]; exact B5.wait
          refine ⟨_, rfl, .inl ⟨rfl, _, SqL.of hW6⟩, _, rfl, q, _, _, rfl, rfl, hW6, by rw [List.length_map]; exact sl_lt (by omega), ?_⟩
          refine ⟨ws ++ [tl (longM ss) (w0 ++ [bb] ++ y)], _, _, _, _, rfl, ⟨fun c o e => ?_, ?_, ?_, ?_, ?_, ?_⟩, ?_, ?_, List.mem_append_left _ h03⟩
          · rw [upd_ne (ne_of_none e nq0), upd_ne (ne_of_none e nd0)]
            exact B5.same _ _ e
          · rw [upd_same, List.map_append]; rfl
          · rw [upd_ne (Ne.symm nqd), upd_same]
          · rw [List.nodup_append]
            refine ⟨B5.nodup, by simp, fun u hu v hv e => ?_⟩
            rw [List.mem_singleton.mp hv] at e
            exact hin (e ▸ hu)
          · intro u hu
            rcases List.mem_append.mp hu with m | m
            · exact B5.short _ m
            · rw [List.mem_singleton.mp m]; exact tl_le _ _
          · intro u hu
            rcases List.mem_append.mp hu with m | m
            · exact B5.reach _ m
            · rw [List.mem_singleton.mp m]; exact ⟨_, hrn, hnx⟩
          · rw [List.length_append]; omega
          · exact (hc3.more hlt3).bit hbb (by rw [List.getElem?_append_left hlt3]; exact hwn) hy' (List.mem_append_right _ (List.mem_singleton.mpr rfl))
      · rintro σ H3 ⟨ws, v4, v5, v6, v7, rfl, B3, hlt3, hc3, h03⟩
        refine ⟨_, rfl, _, _, rfl, rfl, ?_⟩
        refine ⟨m - 1, by omega, n + 1, ws, _, _, _, _, rfl, B3, hlt3, by omega, CldB.next hc3, h03⟩
    · refine iteDF (by omega) ?_
      exact k false H2 ⟨fun z => by (cases z), fun z => absurd (hc2.ok (by omega) h02) z⟩ B2.same
theorem ok_Rule_initX {f C CI : Addr} {fd : FuncData} (F : C8.Fun K "__init__" "Rule.__init__" s_Rule_init f fd) (T : Tx mg) (RT : RuT K C) (x_InvalidRule : ExS.XMk P w K mg base 1 "InvalidRule" CI "word") (c_is_word : Cal P w K mg base 1 "is_word" (spIsWord K) []) (c_are_stuffs : Cal P w K mg base 4 "are_stuffs" (spAre K) []) (c_is_endlessX : Met P w K mg base 4 C "is_endless" (spEndlessX C) []) :
    FnOk P w K mg base (L2.CX P w) 5 f fd ["self", "flag", "stuffs"] (spRuInitX K C CI) := by
  refine ExS.fnR F sc_Rule_init (fun vs H Q E h => ?_) (fun cdv A outer s H vs Q E hr h => ?_)
  · obtain ⟨_, _, _, _, _, _, rfl, _⟩ := h; rfl
  · obtain ⟨a, dx, sq, fl, ps, kb, rfl, ha, hS, hs, ok, hl, kF, k, kE⟩ := h
    have c_is_endless := c_is_endlessX
    refine ⟨_, (pss_cons (ps_if (PW.pt (pw_or (pt_not (pt_val (pe_c c_is_word hr (by decide) rfl (pa_cons (pv 1) pa_nil)))) (pw_or1 (pt_cmpR op_lt (pe_callB call_len_str (by rfl) T.b_len (by decide +kernel) (pa_cons (pv 1) pa_nil)) pe_int (nomark _))))) (pss_one (ps_raise rfl (takes_of rfl rfl rfl rfl) (ExS.pmk_x x_InvalidRule hr (by decide) rfl (pa_cons pe_str pa_nil)))) pss_nil)
    (pss_cons (ps_if (pt_not (pt_val (pe_c c_are_stuffs hr (by decide) rfl (pa_cons (pv 2) pa_nil)))) (pss_one (ps_raise rfl (takes_of rfl rfl rfl rfl) (ExS.pmk_x x_InvalidRule hr (by decide) rfl (pa_cons pe_str pa_nil)))) pss_nil)
    (pss_cons (ps_fld (pv 0) (pv 1) rfl)
    (pss_cons (ps_fld (pv 0) (pe_callTy call_tuple_of (by rfl) T.b_tuple (by decide +kernel) (pa_cons (pe_callB cr_sortedT (by rfl) T.b_sorted (by decide +kernel) (pa_cons (pv 2) pa_nil)) pa_nil)) rfl)
    (pss_one (ps_if (pt_val (pe_mt0 (pl := _) c_is_endless hr (by decide) (pv 0))) (pss_one (ps_raise rfl (takes_of rfl rfl rfl rfl) (ExS.pmk_x x_InvalidRule hr (by decide) rfl (pa_cons pe_str pa_nil)))) pss_nil)))))), ?_⟩
    have lf : (W fl).length = fl.length := W_len fl
    refine ⟨_, rfl, _, rfl, .inl ⟨_, rfl, by rw [lf]; omega, fun H1 s1 => ⟨_, rfl, iteBF (by rw [isW_W]; rfl) ?_⟩⟩⟩
    refine ⟨_, rfl, _, rfl, by rw [lf]; exact sl_len (by omega), _, _, rfl, rfl, _, rfl, ?_⟩
    by_cases h2 : fl.length < 2
    · refine iteDT (by rw [lf]; omega) ?_
      exact ExS.rd_x fun d H' s' _ hd => kF h2 d H' (fun b o e _ => (s1.trans s') _ _ e) hd
    replace k := k (by omega)
    replace kE := kE (by omega)
    refine iteDF (by rw [lf]; omega) ?_
    refine ⟨_, rfl, sq, ps, kb, rfl, hS.same s1, hs.same s1, ok, fun H2 s2 => ⟨_, rfl, ?_⟩⟩
    have s02 := s1.trans s2
    have ha2 := s02 _ _ ha
    refine ⟨_, rfl, _, rfl, a, C, dx, _, rfl, ha2, RT.cl, RT.nF, by decide, ?_⟩
    have keep3 : ∀ c o, H c = some o → c ≠ a → upd H2 a (.ins C dx (putF "flag" (.str (W fl)) [])) c = some o := fun c o e n => by rw [upd_ne n]; exact s02 _ _ e
    have ha3 : upd H2 a (.ins C dx (putF "flag" (.str (W fl)) [])) a = some (.ins C dx (putF "flag" (.str (W fl)) [])) := upd_same
    have hs3 : StV (upd H2 a (.ins C dx (putF "flag" (.str (W fl)) []))) kb ps := fun t ht => keep3 _ _ (hs t ht) (ne_of (hs t ht) ha (by intro z; cases z))
    have hS3 : SqL K (upd H2 a (.ins C dx (putF "flag" (.str (W fl)) []))) sq (ps.map V.ref) ∨ SqT K (upd H2 a (.ins C dx (putF "flag" (.str (W fl)) []))) sq (ps.map V.ref) := by
      rcases hS with ((h | ⟨o, h⟩) | h) | ((h | ⟨o, h⟩) | h)
      · exact .inl (.inl (.inl (keep3 _ _ h (ne_of h ha (by intro z; cases z)))))
      · exact .inl (.inl (.inr ⟨o, keep3 _ _ h (ne_of h ha (by intro z; cases z))⟩))
      · exact .inl (.inr h)
      · exact .inr (.inl (.inl (keep3 _ _ h (ne_of h ha (by intro z; cases z)))))
      · exact .inr (.inl (.inr ⟨o, keep3 _ _ h (ne_of h ha (by intro z; cases z))⟩))
      · exact .inr (.inr h)
    generalize upd H2 a (.ins C dx (putF "flag" (.str (W fl)) [])) = H3 at keep3 ha3 hs3 hS3
    refine ⟨_, rfl, sq, ps, fun t => key (kb t), rfl, hS3, fun t ht => hs3 t ht, fun qs p1 srt prm n1 => ?_⟩
    refine ⟨p1, _, rfl, .inl ⟨SqL.of upd_same, fun p2 n2 => ?_⟩⟩
    have s5 : Same H3 (upd (upd H3 p1 (.lst (qs.map V.ref))) p2 (.tup (qs.map V.ref))) := (same_upd n1).trans (same_upd n2)
    have hT5 : upd (upd H3 p1 (.lst (qs.map V.ref))) p2 (.tup (qs.map V.ref)) p2 = some (.tup (qs.map V.ref)) := upd_same
    generalize upd (upd H3 p1 (.lst (qs.map V.ref))) p2 (.tup (qs.map V.ref)) = H5 at s5 hT5
    have ha5 := s5 _ _ ha3
    refine ⟨_, rfl, a, C, dx, _, rfl, ha5, RT.cl, RT.nS, by show 1 < 1000; decide, ?_⟩
    have na2 : p2 ≠ a := ne_of hT5 ha5 (by intro z; cases z)
    have keep6 : ∀ c o, H3 c = some o → c ≠ a → upd H5 a (.ins C dx (putF "stuffs" (.ref p2) (putF "flag" (.str (W fl)) []))) c = some o := fun c o e n => by rw [upd_ne n]; exact s5 _ _ e
    have ha6 : upd H5 a (.ins C dx (putF "stuffs" (.ref p2) (putF "flag" (.str (W fl)) []))) a = some (.ins C dx (ruF fl p2)) := upd_same
    have hT6 : upd H5 a (.ins C dx (putF "stuffs" (.ref p2) (putF "flag" (.str (W fl)) []))) p2 = some (.tup (qs.map V.ref)) := by rw [upd_ne na2]; exact hT5
    generalize upd H5 a (.ins C dx (putF "stuffs" (.ref p2) (putF "flag" (.str (W fl)) []))) = H6 at keep6 ha6 hT6
    have hs6 : StV H6 kb qs := StV.perm (fun t ht => keep6 _ _ (hs3 t ht) (ne_of (hs3 t ht) ha3 (by intro z; cases z))) prm
    have pm : (qs.map kb).Perm (ps.map kb) := prm.map kb
    have hR6 : RuAt C H6 a fl (qs.map kb) := ⟨dx, p2, qs, kb, ha6, hT6, hs6, rfl⟩
    have ok6 := ok.perm pm.symm
    have oeq : OkR (qs.map kb) ↔ OkR (ps.map kb) := ⟨fun o => o.congr fun l => put_perm ok6.free pm l, fun o => o.congr fun l => put_perm ok.free pm.symm l⟩
    refine ⟨_, rfl, a, dx, _, rfl, ha6, ruF_no _ _ (by decide +kernel) (by decide +kernel), a, fl, qs.map kb, rfl, hR6, ok6.few, ok6.long, fun b7 H7 hb7 s7 => ⟨_, rfl, ?_⟩⟩
    have keep7 : ∀ c o, H c = some o → c ≠ a → H7 c = some o := fun c o e n => s7 _ _ (keep6 _ _ (keep3 _ _ e n) n)
    cases b7 with
    | false =>
      have hO : OkR (ps.map kb) := Classical.byContradiction fun z => by
        have := hb7.mpr fun y => z (oeq.mp y)
        cases this
      exact k hO H7 (qs.map kb) keep7 pm (pwS srt) (hR6.same s7)
    | true =>
      have hO : ¬ OkR (ps.map kb) := fun z => hb7.mp rfl (oeq.mpr z)
      exact ExS.rd_x fun d H' s' _ hd => kE hO d H' (fun b o e n => s' _ _ (keep7 _ _ e n)) hd
end
end U
set_option maxRecDepth 100000
set_option maxHeartbeats 4000000
namespace U
open PySem PySem.Spec PyProof.Rows
open L2 hiding Fun CX0 E0 pass0 Fun.binds
open C8 Lx SX StX
abbrev WW := List Bool × List Bool
def StW (H : Hp) (kb : Addr → WW) (ps : List Addr) : Prop := ∀ t ∈ ps, H t = some (.tup [.str (W (kb t).1), .str (W (kb t).2)])
def goodB (x : WW) : Bool := decide (0 < x.1.length) && decide (x.2.length = 1)
def restB (xs : List WW) (i : Nat) : Bool := match xs[i]? with
  | some a => (xs.take i ++ xs.drop (i + 1)).any fun b => b.1.isSuffixOf a.1
  | none => false
def areB (xs : List WW) : Bool := xs.all goodB && !((List.range xs.length).any (restB xs))
def spAreX (K : PySem.W.Frag) : Sp := fun vs H Q _ => ∃ (a : Addr) (ps : List Addr) (kb : Addr → WW), vs = [.ref a] ∧ Sq K H a (ps.map V.ref) ∧ StW H kb ps ∧ ps.length ≤ 1000 ∧ (∀ p ∈ ps, (kb p).1.length ≤ 1000 ∧ (kb p).2.length ≤ 1000) ∧ ∀ H', Same H H' → Q (.bl (areB (ps.map kb))) H'
def spBitX : Sp := fun vs H Q _ => ∃ l : List Bool, vs = [.str (W l)] ∧ l.length ≤ 1000 ∧ ∀ H', Same H H' → Q (.bl (decide (l.length = 1))) H'
def spStuffX : Sp := fun vs H Q _ => ∃ (t : Addr) (x : WW), vs = [.ref t] ∧ H t = some (.tup [.str (W x.1), .str (W x.2)]) ∧ x.1.length ≤ 1000 ∧ x.2.length ≤ 1000 ∧ ∀ H', Same H H' → Q (.bl (goodB x)) H'
section
variable {P : Program} {w : World} {K : PySem.W.Frag} {mg : Str → Option Value} {base : Heap}
theorem cal_is_bitX {f : Addr} {fd : FuncData} (F : Def K mg "is_bit" s_is_bit f fd) (b : Binds K fd ["value"] []) (T : Tx mg) (c_is_word : Cal P w K mg base 1 "is_word" (spIsWord K) []) : Cal P w K mg base 2 "is_bit" spBitX [] := by
  refine cal0 F b .nil sc_is_bit (fun vs H Q E h => ?_) (fun cdv A outer s H vs Q E hr h => ?_)
  · obtain ⟨_, rfl, _⟩ := h; rfl
  · obtain ⟨l, rfl, hl, k⟩ := h
    refine ⟨_, (pss_one (ps_ret (pe_and (pe_c c_is_word hr (by decide) rfl (pa_cons (pv 0) pa_nil)) (pe_one (pe_cmpR op_eq (pe_callB call_len_str (by rfl) T.b_len (by decide +kernel) (pa_cons (pv 0) pa_nil)) pe_int (nomark _)))))), ?_⟩
    have l1 : (W l).length = l.length := W_len _
    refine ⟨_, rfl, _, rfl, .inl ⟨_, rfl, by rw [l1]; omega, fun H1 s1 => ⟨_, rfl, iteBT (isW_W _) ?_⟩⟩⟩
    refine ⟨_, rfl, _, rfl, by rw [l1]; exact sl_len (by omega), rfl, ?_⟩
    have e : decide (V.int (((W l).length : Nat) : Int) = V.int 1) = decide (l.length = 1) := by
      rw [decide_eq_decide, l1]
      exact ⟨fun z => by have := V.int.inj z; omega, fun z => by rw [z]; rfl⟩
    have kk := k H1 s1
    rw [← e] at kk
    exact kk
theorem cal_is_stuffX {f : Addr} {fd : FuncData} (F : Def K mg "is_stuff" s_is_stuff f fd) (b : Binds K fd ["value"] []) (T : Tx mg) (c_is_word : Cal P w K mg base 1 "is_word" (spIsWord K) []) (c_is_bitX : Cal P w K mg base 2 "is_bit" spBitX []) : Cal P w K mg base 3 "is_stuff" spStuffX [] := by
  refine cal0 F b .nil sc_is_stuff (fun vs H Q E h => ?_) (fun cdv A outer s H vs Q E hr h => ?_)
  · obtain ⟨_, _, rfl, _⟩ := h; rfl
  · obtain ⟨t, x, rfl, ht, hl, hl2, k⟩ := h
    have c_is_bit := c_is_bitX
    refine ⟨_, (pss_cons (ps_if (PW.pt (pw_or (pt_not (pt_val (pe_callB call_isi (by rfl) T.b_isinstance (by decide +kernel) (pa_cons (pv 0) (pa_cons (pe_bltn (v := .ty "tuple") (u := .type "tuple") (by rfl) T.b_tuple (by decide +kernel) rfl) pa_nil))))) (pw_or1 (pt_cmpR op_ne (pe_callB call_len_seq (by rfl) T.b_len (by decide +kernel) (pa_cons (pv 0) pa_nil)) pe_int (nomark _))))) (pss_one (ps_ret pe_bl)) pss_nil)
    (pss_one (ps_ret (pe_and (pe_c c_is_word hr (by decide) rfl (pa_cons (pe_ix ix_tup (pv 0) pe_int (fun _ _ => rfl)) pa_nil)) (pe_and (pe_cmpR op_gt (pe_callB call_len_str (by rfl) T.b_len (by decide +kernel) (pa_cons (pe_ix ix_tup (pv 0) pe_int (fun _ _ => rfl)) pa_nil)) pe_int (nomark _)) (pe_one (pe_c c_is_bit hr (by decide) rfl (pa_cons (pe_ix ix_tup (pv 0) pe_int (fun _ _ => rfl)) pa_nil)))))))), ?_⟩
    have lp : (W x.1).length ≤ sizeLine := by rw [W_len]; exact sl_len (by omega)
    refine ⟨_, rfl, _, _, _, _, true, rfl, .ty _, .base (.tup ht), kit_ty (by decide +kernel), _, rfl, ?_⟩
    refine ⟨_, rfl, t, _, rfl, .inr (SqT.of ht), rfl, _, rfl, iteNS rfl ?_⟩
    refine ⟨_, rfl, t, _, 0, _, rfl, rfl, SqT.of ht, rfl, _, rfl, .inl ⟨_, rfl, by rw [W_len]; omega, fun H1 s1 => ⟨_, rfl, iteBT (isW_W _) ?_⟩⟩⟩
    have ht1 := s1 _ _ ht
    refine ⟨_, rfl, t, _, 0, _, rfl, rfl, SqT.of ht1, rfl, _, rfl, lp, ?_⟩
    by_cases c : 0 < x.1.length
    · refine ⟨_, _, rfl, rfl, _, rfl, iteDT (by rw [W_len]; omega) ?_⟩
      refine ⟨_, rfl, t, _, 1, _, rfl, rfl, SqT.of ht1, rfl, x.2, rfl, hl2, fun H2 s2 => ?_⟩
      have kk := k H2 (s1.trans s2)
      have e : goodB x = decide (x.2.length = 1) := by unfold goodB; rw [decide_eq_true c]; rfl
      rw [e] at kk
      exact kk
    · refine ⟨_, _, rfl, rfl, _, rfl, iteDF (by rw [W_len]; omega) ?_⟩
      have kk := k H1 s1
      have e : goodB x = false := by unfold goodB; rw [decide_eq_false c]; rfl
      rw [e] at kk
      exact kk
theorem cal_are_stuffsX {f : Addr} {fd : FuncData} (F : Def K mg "are_stuffs" s_are_stuffs f fd) (b : Binds K fd ["value"] []) (T : Tx mg) (c_is_sequence : Cal P w K mg base 1 "is_sequence" (spIsSeq K) []) (c_is_stuffX : Cal P w K mg base 3 "is_stuff" spStuffX []) : Cal P w K mg base 4 "are_stuffs" (spAreX K) [] := by
  refine cal0 F b .nil sc_are_stuffs (fun vs H Q E h => ?_) (fun cdv A outer s H vs Q E hr h => ?_)
  · obtain ⟨_, _, _, rfl, _⟩ := h; rfl
  · obtain ⟨a, ps, kb, rfl, hS, hs, hn, hw, k⟩ := h
    have c_is_stuff := c_is_stuffX
    refine ⟨_, (pss_cons (ps_if (PW.pt (pw_or (pt_not (pt_val (pe_c c_is_sequence hr (by decide) rfl (pa_cons (pv 0) pa_nil)))) (pw_or1 (pt_not (pt_val (pe_callB (cr_all rfl) (by rfl) T.b_all (by decide +kernel) (pa_cons (pe_lc (own := [("one", 1)]) (g := gName 1) (by rfl) sc_are_stuffs.nd (pi_seq (pv 0)) (blkOk_by (own := [("one", 1)]) (N := ["value", "one", "at", "stuff", "rest", "pattern", "bit"]) (sc := fnScope s_are_stuffs) (by decide +kernel)) (fun _ _ _ _ _ => (pg_name (i := 1) sc_are_stuffs.nd rfl (.inl rfl))) (fun _ _ _ _ _ => pts_nil) (fun _ _ _ _ _ => (pe_c c_is_stuff hr (by decide) rfl (pa_cons (pv 1) pa_nil)))) pa_nil))))))) (pss_one (ps_ret pe_bl)) pss_nil)
    (pss_cons (ps_for PassesOwn.never rfl (pi_enumQ (by rfl) T.b_enumerate (pa_cons (pv 0) pa_nil)) (pg_tup rfl (pgs_cons (pg_name (i := 2) sc_are_stuffs.nd rfl (.inl rfl)) (pgs_cons (pg_name (i := 3) sc_are_stuffs.nd rfl (.inr rfl)) pgs_nil)))
    (pss_cons (ps_set (i := 4) sc_are_stuffs.nd rfl (.inl rfl) (pe_lst (pa_star (pe_slice (SlR.or sl_list sl_tupA) (pv 0) po_none (po_some (pv 2))) (pa_star (pe_slice (SlR.or sl_list sl_tupA) (pv 0) (po_some (pe_op op_add (pv 2) pe_int)) po_none) pa_nil))))
    (pss_one (ps_if (pt_val (pe_callB (cr_any rfl) (by rfl) T.b_any (by decide +kernel) (pa_cons (pe_lc (own := [("pattern", 5), ("bit", 6)]) (g := gTup K 2 (gCons (gName 5) (gCons (gName 6) gNil))) (by rfl) sc_are_stuffs.nd (pi_list (pv 4)) (blkOk_by (own := [("pattern", 5), ("bit", 6)]) (N := ["value", "one", "at", "stuff", "rest", "pattern", "bit"]) (sc := fnScope s_are_stuffs) (by decide +kernel)) (fun _ _ _ _ _ => (pg_tup rfl (pgs_cons (pg_name (i := 5) sc_are_stuffs.nd rfl (.inl rfl)) (pgs_cons (pg_name (i := 6) sc_are_stuffs.nd rfl (.inl rfl)) pgs_nil)))) (fun _ _ _ _ _ => pts_nil) (fun _ _ _ _ _ => (pe_m1 PySem.F.slot_str_endswith PySem.F.type_str_endswith mt_endswith (pe_ix (show IxR _ (rIxT K) from ix_tup) (pv 3) pe_int (fun _ _ => rfl)) (pv 5)))) pa_nil))) (pss_one (ps_ret pe_bl)) pss_nil))))
    (pss_one (ps_ret pe_bl)))), ?_⟩
    refine ⟨_, rfl, a, _, rfl, hS, fun H1 s1 => ⟨_, rfl, ?_⟩⟩
    have hS1 := hS.same s1
    refine iSeq_var rfl hS1 fun J G hG wk D nD => ?_
    refine lc_it wk (fun i H2 => Same H1 H2 ∧ H2 D = some (.lst (((ps.take i).map fun q => goodB (kb q)).map V.bl))) ⟨same_upd nD, upd_same⟩ (fun i H2 _ h2 => hG _ h2.1) ?_ ?_
    · rintro i x H2 H3 hi ⟨s2, hD⟩ ⟨rfl, hx⟩
      rw [List.getElem?_map] at hx
      obtain ⟨q, hq, rfl⟩ := Option.map_eq_some_iff.mp hx
      have hqm : q ∈ ps := List.mem_of_getElem? hq
      rw [List.length_map] at hi
      refine ⟨rfl, ?_⟩
      refine ⟨_, rfl, q, kb q, rfl, (s1.trans s2) _ _ (hs q hqm), (hw q hqm).1, (hw q hqm).2, fun H4 s4 => ⟨_, s4 _ _ hD, ?_, ?_, ?_⟩⟩
      · rw [List.length_map, List.length_map, List.length_take]; exact sl_lt (by omega)
      · intro c' o e
        rw [upd_ne (ne_of_none e nD)]
        exact (s2.trans s4) _ _ e
      · rw [upd_same, List.take_add_one, hq, List.map_append, List.map_append]; rfl
    · rintro H2 ⟨s2, hD⟩
      rw [List.take_of_length_le (by rw [List.length_map]; exact Nat.le_refl _)] at hD
      refine ⟨D, _, rfl, SqL.of hD, _, rfl, ?_⟩
      have et : ((ps.map fun q => goodB (kb q)).all id) = (ps.map kb).all goodB := by rw [List.all_map, List.all_map]; rfl
      rw [et]
      cases hall : (ps.map kb).all goodB with
      | false =>
        refine iteBT rfl ?_
        have kk := k H2 (s1.trans s2)
        have e : areB (ps.map kb) = false := by unfold areB; rw [hall]; rfl
        rw [e] at kk
        exact kk
      | true =>
      refine iteBF rfl ?_
      have hS2 := hS1.same s2
      have s02 := s1.trans s2
      refine iEnumQ_var rfl hS2 fun J G hG wk => ?_
      refine for_it wk (fun i σ H3 => ∃ v1 v2 v3 v4 v5 v6 : Option V, σ = [some (.ref a), v1, v2, v3, v4, v5, v6] ∧ Same H2 H3 ∧ ∀ i' < i, restB (ps.map kb) i' = false) ⟨none, none, none, none, none, none, rfl, Same.refl _, fun _ h => absurd h (Nat.not_lt_zero _)⟩ (fun i σ H3 _ h3 => by obtain ⟨_, _, _, _, _, _, _, s3, _⟩ := h3; exact hG _ s3) ?_ ?_
      · rintro i x σ H3 H4 hi ⟨v1, v2, v3, v4, v5, v6, rfl, s3, hno⟩ ⟨T', y1, y2, rfl, nT, rfl, h1, h2⟩
        cases h1
        replace h2 : (ps.map V.ref)[i]? = some y2 := h2
        rw [List.getElem?_map] at h2
        obtain ⟨q, hq, rfl⟩ := Option.map_eq_some_iff.mp h2
        have hqm : q ∈ ps := List.mem_of_getElem? hq
        refine ⟨T', _, rfl, SqT.of upd_same, rfl, _, _, rfl, _, _, rfl, rfl, ?_⟩
        have s4 : Same H2 (upd H3 T' (.tup [.int (i : Nat), .ref q])) := s3.trans (same_upd nT)
        generalize upd H3 T' (.tup [.int (i : Nat), .ref q]) = H4 at s4
        have hS4 := hS2.same s4
        refine ⟨_, rfl, _, rfl, _, rfl, slQ_of hS4 fun p1 H5 s5 h5 => ⟨p1, _, rfl, h5.star, ?_⟩⟩
        refine ⟨_, rfl, _, rfl, _, _, rfl, rfl, _, rfl, slQ_of (hS4.same s5) fun p2 H6 s6 h6 => ⟨p2, _, rfl, h6.star, ?_⟩⟩
        have el : cutV (ps.map V.ref) none (some ((i : Nat) : Int)) ++ (cutV (ps.map V.ref) (some (((i : Nat) : Int) + 1)) none ++ []) = (ps.take i ++ ps.drop (i + 1)).map V.ref := by
          rw [cut_to hi, cut_from hi, List.append_nil, List.map_append, List.map_take, List.map_drop]
        refine ⟨?_, fun R nR => ?_⟩
        · show (cutV (ps.map V.ref) none (some ((i : Nat) : Int)) ++ (cutV (ps.map V.ref) (some (((i : Nat) : Int) + 1)) none ++ [])).length ≤ sizeLine
          rw [el, List.length_map, List.length_append, List.length_take, List.length_drop]
          exact sl_len (by omega)
        · have hR : upd H6 R (.lst (cutV (ps.map V.ref) none (some ((i : Nat) : Int)) ++ (cutV (ps.map V.ref) (some (((i : Nat) : Int) + 1)) none ++ []))) R = some (.lst ((ps.take i ++ ps.drop (i + 1)).map V.ref)) := by rw [upd_same, el]
          have s7 : Same H2 (upd H6 R (.lst (cutV (ps.map V.ref) none (some ((i : Nat) : Int)) ++ (cutV (ps.map V.ref) (some (((i : Nat) : Int) + 1)) none ++ [])))) := ((s4.trans s5).trans s6).trans (same_upd nR)
          show gName 4 _ _ (upd H6 R (.lst (cutV (ps.map V.ref) none (some ((i : Nat) : Int)) ++ (cutV (ps.map V.ref) (some (((i : Nat) : Int) + 1)) none ++ [])))) _
          generalize upd H6 R (.lst (cutV (ps.map V.ref) none (some ((i : Nat) : Int)) ++ (cutV (ps.map V.ref) (some (((i : Nat) : Int) + 1)) none ++ []))) = H7 at hR s7 ⊢
          refine ⟨_, rfl, R, rfl, ⟨_, SqL.of hR⟩, fun D2 nD2 => ?_⟩
          have er : restB (ps.map kb) i = (ps.take i ++ ps.drop (i + 1)).any fun q' => (kb q').1.isSuffixOf (kb q).1 := by
            unfold restB
            rw [List.getElem?_map, hq, ← List.map_take, ← List.map_drop, ← List.map_append]
            show ((ps.take i ++ ps.drop (i + 1)).map kb).any (fun b => b.1.isSuffixOf (kb q).1) = _
            rw [List.any_map]
            rfl
          have hlen : (ps.take i ++ ps.drop (i + 1)).length ≤ 1000 := by
            rw [List.length_append, List.length_take, List.length_drop]; omega
          have hsub : ∀ q' ∈ ps.take i ++ ps.drop (i + 1), q' ∈ ps := fun q' hq' => by
            rcases List.mem_append.mp hq' with m | m
            · exact List.mem_of_mem_take m
            · exact List.mem_of_mem_drop m
          generalize ps.take i ++ ps.drop (i + 1) = rs at hR er hlen hsub
          refine lc_it (walk_list (xs := rs.map V.ref)) (fun j H8 => Same H7 H8 ∧ H8 D2 = some (.lst (((rs.take j).map fun q' => (kb q').1.isSuffixOf (kb q).1).map V.bl))) ⟨same_upd nD2, upd_same⟩ (fun j H8 _ h8 => h8.1.seq (SqL.of hR)) ?_ ?_
          · rintro j x H8 H9 hj ⟨s8, hD2⟩ ⟨rfl, hx⟩
            rw [List.getElem?_map] at hx
            obtain ⟨q', hq', rfl⟩ := Option.map_eq_some_iff.mp hx
            have hm' : q' ∈ rs := List.mem_of_getElem? hq'
            rw [List.length_map] at hj
            have s28 := s02.trans (s7.trans s8)
            refine ⟨q', _, rfl, SqT.of (s28 _ _ (hs q' (hsub _ hm'))), rfl, _, _, rfl, _, _, rfl, rfl, rfl, ?_⟩
            refine ⟨_, rfl, q, _, 0, _, rfl, rfl, SqT.of (s28 _ _ (hs q hqm)), rfl, ⟨_, rfl⟩, _, rfl, _, _, rfl, rfl, _, hD2, ?_, ?_, ?_⟩
            · rw [List.length_map, List.length_map, List.length_take]; exact sl_lt (by omega)
            · intro c' o e
              rw [upd_ne (ne_of_none e nD2)]
              exact s8 _ _ e
            · rw [upd_same, W_ends, List.take_add_one, hq', List.map_append, List.map_append]
              rfl
          · rintro H8 ⟨s8, hD2⟩
            rw [List.take_of_length_le (by rw [List.length_map]; exact Nat.le_refl _)] at hD2
            refine ⟨D2, _, rfl, SqL.of hD2, _, rfl, ?_⟩
            have et : ((rs.map fun q' => (kb q').1.isSuffixOf (kb q).1).any id) = restB (ps.map kb) i := by rw [er, List.any_map]; rfl
            rw [et]
            cases hre : restB (ps.map kb) i with
            | true =>
              refine iteBT rfl ?_
              have kk := k H8 (s02.trans (s7.trans s8))
              have e : areB (ps.map kb) = false := by
                unfold areB
                have : (List.range (ps.map kb).length).any (restB (ps.map kb)) = true := List.any_eq_true.mpr ⟨i, List.mem_range.mpr (by rw [List.length_map]; exact (List.getElem?_eq_some_iff.mp hq).1), hre⟩
                rw [this, Bool.not_true, Bool.and_false]
              rw [e] at kk
              exact kk
            | false =>
              refine iteBF rfl ?_
              refine ⟨_, _, _, _, _, _, rfl, s7.trans s8, fun i' hi' => ?_⟩
              rcases Nat.lt_or_eq_of_le (Nat.le_of_lt_succ hi') with z | z
              · exact hno i' z
              · rw [z]; exact hre
      · rintro σ H3 ⟨v1, v2, v3, v4, v5, v6, rfl, s3, hno⟩
        have kk := k H3 (s02.trans s3)
        have e : areB (ps.map kb) = true := by
          unfold areB
          have : (List.range (ps.map kb).length).any (restB (ps.map kb)) = false := by
            rw [Bool.eq_false_iff]
            intro z
            obtain ⟨i', h1, h2⟩ := List.any_eq_true.mp z
            have := hno i' (by rw [List.length_map]; have := List.mem_range.mp h1; rw [List.length_map] at this; exact this)
            rw [this] at h2
            cases h2
          rw [this, hall]
          rfl
        rw [e] at kk
        exact kk
end
end U
set_option maxRecDepth 100000
set_option maxHeartbeats 4000000
namespace U
open PySem PySem.Spec PyProof.Rows
open L2 hiding Fun CX0 E0 pass0 Fun.binds
open C8 Lx SX StX
def stO (x : WW) : Stf := (x.1, x.2.headD false)
theorem are_one {xs : List WW} {x : WW} (h : areB xs = true) (hx : x ∈ xs) : x.2 = [(stO x).2] := by
  unfold areB at h
  rw [Bool.and_eq_true] at h
  have hg := List.all_eq_true.mp h.1 x hx
  unfold goodB at hg
  rw [Bool.and_eq_true, decide_eq_true_iff, decide_eq_true_iff] at hg
  obtain ⟨p, q⟩ := x
  match q, hg.2 with
  | [b], _ => rfl
theorem are_ok {xs : List WW} (h : areB xs = true) (hn : xs.length ≤ 1000) (h9 : ∀ x ∈ xs, x.1.length ≤ 9) : StOk (xs.map stO) := by
  have h0 := h
  unfold areB at h
  rw [Bool.and_eq_true, Bool.not_eq_true'] at h
  refine ⟨by rw [List.length_map]; exact hn, fun s hs => ?_, ?_, ?_⟩
  · obtain ⟨x, hx, rfl⟩ := List.mem_map.mp hs
    have hg := List.all_eq_true.mp h.1 x hx
    unfold goodB at hg
    rw [Bool.and_eq_true, decide_eq_true_iff] at hg
    intro z
    rw [show x.1 = [] from z] at hg
    exact absurd hg.1 (by decide)
  · exact longM_max fun s hs => by
      obtain ⟨x, hx, rfl⟩ := List.mem_map.mp hs
      exact h9 x hx
  · unfold SufFree
    rw [List.pairwise_map, List.pairwise_iff_getElem]
    have key : ∀ i j (hi : i < xs.length) (hj : j < xs.length), i ≠ j → ¬ xs[j].1 <:+ xs[i].1 := fun i j hi hj hij z => by
      have hr : restB xs i = true := by
        unfold restB
        rw [List.getElem?_eq_getElem hi]
        refine List.any_eq_true.mpr ⟨xs[j], ?_, List.isSuffixOf_iff_suffix.mpr z⟩
        rcases Nat.lt_or_ge j i with c | c
        · exact List.mem_append_left _ (List.mem_of_getElem? (i := j) (by rw [List.getElem?_take_of_lt c, List.getElem?_eq_getElem hj]))
        · exact List.mem_append_right _ (List.mem_of_getElem? (i := j - (i + 1)) (by rw [List.getElem?_drop, show i + 1 + (j - (i + 1)) = j by omega, List.getElem?_eq_getElem hj]))
      have := List.any_eq_true.mpr ⟨i, List.mem_range.mpr hi, hr⟩
      rw [h.2] at this
      cases this
    intro i j hi hj hij
    exact ⟨key j i hj hi (by omega), key i j hi hj (by omega)⟩
def spRuInitY (K : PySem.W.Frag) (C CI : Addr) : Sp := fun vs H Q E => ∃ (a dx s : Addr) (f : List Bool) (ps : List Addr) (kw : Addr → WW), vs = [.ref a, .str (W f), .ref s] ∧ H a = some (.ins C dx []) ∧ Sq K H s (ps.map V.ref) ∧ StW H kw ps ∧ ps.length ≤ 1000 ∧ (∀ p ∈ ps, (kw p).1.length ≤ 9 ∧ (kw p).2.length ≤ 9) ∧ f.length ≤ 1000 ∧
  (f.length < 2 → ∀ d H', (∀ b o, H b = some o → b ≠ a → H' b = some o) → H' d = some (.xd [("word", .str "flag")]) → E (.ref CI) (some d) H') ∧
  (2 ≤ f.length → areB (ps.map kw) = false → ∀ d H', (∀ b o, H b = some o → b ≠ a → H' b = some o) → H' d = some (.xd [("word", .str "stuffs")]) → E (.ref CI) (some d) H') ∧
  (2 ≤ f.length → areB (ps.map kw) = true → OkR (ps.map (stO ∘ kw)) → ∀ H' ss, (∀ b o, H b = some o → b ≠ a → H' b = some o) → ss.Perm (ps.map (stO ∘ kw)) → SortedS ss → RuAt C H' a f ss → Q .non H') ∧
  (2 ≤ f.length → areB (ps.map kw) = true → ¬ OkR (ps.map (stO ∘ kw)) → ∀ d H', (∀ b o, H b = some o → b ≠ a → H' b = some o) → H' d = some (.xd [("word", .str "endless")]) → E (.ref CI) (some d) H')
section
variable {P : Program} {w : World} {K : PySem.W.Frag} {mg : Str → Option Value} {base : Heap}
theorem ok_Rule_initY {f C CI : Addr} {fd : FuncData} (F : C8.Fun K "__init__" "Rule.__init__" s_Rule_init f fd) (T : Tx mg) (RT : RuT K C) (x_InvalidRule : ExS.XMk P w K mg base 1 "InvalidRule" CI "word") (c_is_word : Cal P w K mg base 1 "is_word" (spIsWord K) []) (c_are_stuffsX : Cal P w K mg base 4 "are_stuffs" (spAreX K) []) (c_is_endlessX : Met P w K mg base 4 C "is_endless" (spEndlessX C) []) :
    FnOk P w K mg base (L2.CX P w) 5 f fd ["self", "flag", "stuffs"] (spRuInitY K C CI) := by
  refine ExS.fnR F sc_Rule_init (fun vs H Q E h => ?_) (fun cdv A outer s H vs Q E hr h => ?_)
  · obtain ⟨_, _, _, _, _, _, rfl, _⟩ := h; rfl
  · obtain ⟨a, dx, sq, fl, ps, kw, rfl, ha, hS, hsW, hfew, hw9, hl, kF, kS, k, kE⟩ := h
    have c_are_stuffs := c_are_stuffsX
    have c_is_endless := c_is_endlessX
    refine ⟨_, (pss_cons (ps_if (PW.pt (pw_or (pt_not (pt_val (pe_c c_is_word hr (by decide) rfl (pa_cons (pv 1) pa_nil)))) (pw_or1 (pt_cmpR op_lt (pe_callB call_len_str (by rfl) T.b_len (by decide +kernel) (pa_cons (pv 1) pa_nil)) pe_int (nomark _))))) (pss_one (ps_raise rfl (takes_of rfl rfl rfl rfl) (ExS.pmk_x x_InvalidRule hr (by decide) rfl (pa_cons pe_str pa_nil)))) pss_nil)
    (pss_cons (ps_if (pt_not (pt_val (pe_c c_are_stuffs hr (by decide) rfl (pa_cons (pv 2) pa_nil)))) (pss_one (ps_raise rfl (takes_of rfl rfl rfl rfl) (ExS.pmk_x x_InvalidRule hr (by decide) rfl (pa_cons pe_str pa_nil)))) pss_nil)
    (pss_cons (ps_fld (pv 0) (pv 1) rfl)
    (pss_cons (ps_fld (pv 0) (pe_callTy call_tuple_of (by rfl) T.b_tuple (by decide +kernel) (pa_cons (pe_callB cr_sortedT (by rfl) T.b_sorted (by decide +kernel) (pa_cons (pv 2) pa_nil)) pa_nil)) rfl)
    (pss_one (ps_if (pt_val (pe_mt0 (pl := _) c_is_endless hr (by decide) (pv 0))) (pss_one (ps_raise rfl (takes_of rfl rfl rfl rfl) (ExS.pmk_x x_InvalidRule hr (by decide) rfl (pa_cons pe_str pa_nil)))) pss_nil)))))), ?_⟩
    have lf : (W fl).length = fl.length := W_len fl
    refine ⟨_, rfl, _, rfl, .inl ⟨_, rfl, by rw [lf]; omega, fun H1 s1 => ⟨_, rfl, iteBF (by rw [isW_W]; rfl) ?_⟩⟩⟩
    refine ⟨_, rfl, _, rfl, by rw [lf]; exact sl_len (by omega), _, _, rfl, rfl, _, rfl, ?_⟩
    by_cases h2 : fl.length < 2
    · refine iteDT (by rw [lf]; omega) ?_
      exact ExS.rd_x fun d H' s' _ hd => kF h2 d H' (fun b o e _ => (s1.trans s') _ _ e) hd
    replace k := k (by omega)
    replace kE := kE (by omega)
    replace kS := kS (by omega)
    refine iteDF (by rw [lf]; omega) ?_
    refine ⟨_, rfl, sq, ps, kw, rfl, hS.same s1, fun t ht => s1 _ _ (hsW t ht), hfew, fun p hp => ⟨Nat.le_trans (hw9 p hp).1 (by decide), Nat.le_trans (hw9 p hp).2 (by decide)⟩, fun H2 s2 => ⟨_, rfl, ?_⟩⟩
    have s02 := s1.trans s2
    cases hare : areB (ps.map kw) with
    | false =>
      refine iteBT rfl ?_
      exact ExS.rd_x fun d H' s' _ hd => kS hare d H' (fun b o e n => (s02.trans s') _ _ e) hd
    | true =>
    refine iteBF rfl ?_
    replace k := k hare
    replace kE := kE hare
    have ok : StOk (ps.map (stO ∘ kw)) := are_ok hare (by rw [List.length_map]; exact hfew) (fun x hx => by obtain ⟨p, hp, rfl⟩ := List.mem_map.mp hx; exact (hw9 p hp).1) |> fun h => by rw [List.map_map] at h; exact h
    have hs : StV H (stO ∘ kw) ps := fun t ht => by
      have := hsW t ht
      rw [are_one hare (List.mem_map_of_mem ht)] at this
      exact this
    generalize hkb : stO ∘ kw = kb at ok hs k kE
    have ha2 := s02 _ _ ha
    refine ⟨_, rfl, _, rfl, a, C, dx, _, rfl, ha2, RT.cl, RT.nF, by decide, ?_⟩
    have keep3 : ∀ c o, H c = some o → c ≠ a → upd H2 a (.ins C dx (putF "flag" (.str (W fl)) [])) c = some o := fun c o e n => by rw [upd_ne n]; exact s02 _ _ e
    have ha3 : upd H2 a (.ins C dx (putF "flag" (.str (W fl)) [])) a = some (.ins C dx (putF "flag" (.str (W fl)) [])) := upd_same
    have hs3 : StV (upd H2 a (.ins C dx (putF "flag" (.str (W fl)) []))) kb ps := fun t ht => keep3 _ _ (hs t ht) (ne_of (hs t ht) ha (by intro z; cases z))
    have hS3 : SqL K (upd H2 a (.ins C dx (putF "flag" (.str (W fl)) []))) sq (ps.map V.ref) ∨ SqT K (upd H2 a (.ins C dx (putF "flag" (.str (W fl)) []))) sq (ps.map V.ref) := by
      rcases hS with ((h | ⟨o, h⟩) | h) | ((h | ⟨o, h⟩) | h)
      · exact .inl (.inl (.inl (keep3 _ _ h (ne_of h ha (by intro z; cases z)))))
      · exact .inl (.inl (.inr ⟨o, keep3 _ _ h (ne_of h ha (by intro z; cases z))⟩))
      · exact .inl (.inr h)
      · exact .inr (.inl (.inl (keep3 _ _ h (ne_of h ha (by intro z; cases z)))))
      · exact .inr (.inl (.inr ⟨o, keep3 _ _ h (ne_of h ha (by intro z; cases z))⟩))
      · exact .inr (.inr h)
    generalize upd H2 a (.ins C dx (putF "flag" (.str (W fl)) [])) = H3 at keep3 ha3 hs3 hS3
    refine ⟨_, rfl, sq, ps, fun t => key (kb t), rfl, hS3, fun t ht => hs3 t ht, fun qs p1 srt prm n1 => ?_⟩
    refine ⟨p1, _, rfl, .inl ⟨SqL.of upd_same, fun p2 n2 => ?_⟩⟩
    have s5 : Same H3 (upd (upd H3 p1 (.lst (qs.map V.ref))) p2 (.tup (qs.map V.ref))) := (same_upd n1).trans (same_upd n2)
    have hT5 : upd (upd H3 p1 (.lst (qs.map V.ref))) p2 (.tup (qs.map V.ref)) p2 = some (.tup (qs.map V.ref)) := upd_same
    generalize upd (upd H3 p1 (.lst (qs.map V.ref))) p2 (.tup (qs.map V.ref)) = H5 at s5 hT5
    have ha5 := s5 _ _ ha3
    refine ⟨_, rfl, a, C, dx, _, rfl, ha5, RT.cl, RT.nS, by show 1 < 1000; decide, ?_⟩
    have na2 : p2 ≠ a := ne_of hT5 ha5 (by intro z; cases z)
    have keep6 : ∀ c o, H3 c = some o → c ≠ a → upd H5 a (.ins C dx (putF "stuffs" (.ref p2) (putF "flag" (.str (W fl)) []))) c = some o := fun c o e n => by rw [upd_ne n]; exact s5 _ _ e
    have ha6 : upd H5 a (.ins C dx (putF "stuffs" (.ref p2) (putF "flag" (.str (W fl)) []))) a = some (.ins C dx (ruF fl p2)) := upd_same
    have hT6 : upd H5 a (.ins C dx (putF "stuffs" (.ref p2) (putF "flag" (.str (W fl)) []))) p2 = some (.tup (qs.map V.ref)) := by rw [upd_ne na2]; exact hT5
    generalize upd H5 a (.ins C dx (putF "stuffs" (.ref p2) (putF "flag" (.str (W fl)) []))) = H6 at keep6 ha6 hT6
    have hs6 : StV H6 kb qs := StV.perm (fun t ht => keep6 _ _ (hs3 t ht) (ne_of (hs3 t ht) ha3 (by intro z; cases z))) prm
    have pm : (qs.map kb).Perm (ps.map kb) := prm.map kb
    have hR6 : RuAt C H6 a fl (qs.map kb) := ⟨dx, p2, qs, kb, ha6, hT6, hs6, rfl⟩
    have ok6 := ok.perm pm.symm
    have oeq : OkR (qs.map kb) ↔ OkR (ps.map kb) := ⟨fun o => o.congr fun l => put_perm ok6.free pm l, fun o => o.congr fun l => put_perm ok.free pm.symm l⟩
    refine ⟨_, rfl, a, dx, _, rfl, ha6, ruF_no _ _ (by decide +kernel) (by decide +kernel), a, fl, qs.map kb, rfl, hR6, ok6.few, ok6.long, fun b7 H7 hb7 s7 => ⟨_, rfl, ?_⟩⟩
    have keep7 : ∀ c o, H c = some o → c ≠ a → H7 c = some o := fun c o e n => s7 _ _ (keep6 _ _ (keep3 _ _ e n) n)
    cases b7 with
    | false =>
      have hO : OkR (ps.map kb) := Classical.byContradiction fun z => by
        have := hb7.mpr fun y => z (oeq.mp y)
        cases this
      exact k hO H7 (qs.map kb) keep7 pm (pwS srt) (hR6.same s7)
    | true =>
      have hO : ¬ OkR (ps.map kb) := fun z => hb7.mp rfl (oeq.mpr z)
      exact ExS.rd_x fun d H' s' _ hd => kE hO d H' (fun b o e n => s' _ _ (keep7 _ _ e n)) hd
end
end U
set_option maxRecDepth 100000
set_option maxHeartbeats 1000000
namespace U
theorem suf_rep {p m w : List Bool} (h1 : p <:+ m) (h2 : p <:+ m ++ w) : p <:+ m ++ w ++ w := by
  by_cases c : p.length ≤ w.length
  · have : p <:+ w := List.suffix_of_suffix_length_le h2 (List.suffix_append _ _) c
    exact this.trans (List.suffix_append _ _)
  · obtain ⟨p', rfl⟩ : w <:+ p := List.suffix_of_suffix_length_le (List.suffix_append _ _) h2 (by omega)
    have h3 : p' <:+ m := (List.suffix_append_self_iff.mp h2)
    have h4 : p' <:+ p' ++ w := List.suffix_of_suffix_length_le h3 h1 (by rw [List.length_append]; omega)
    exact List.suffix_append_self_iff.mpr (h4.trans h2)
theorem turns {ss : List Stf} (sf : SufFree ss) {l x : List Bool} (h : Ins ss l x) : ∀ {P Q : List Bool} {b c : Bool}, (P, b) ∈ ss → (Q, c) ∈ ss → P <:+ l → Q <:+ l ++ [b] → P <:+ l ++ [b, c] → Q <:+ l ++ [b] ++ [c, b] → False := by
  induction h with
  | stop h0 =>
    intro P Q b c hP hQ h1 h2 h3 h4
    have := (put_iff sf).mpr ⟨P, hP, h1⟩
    rw [h0] at this
    cases this
  | @more l x b' h0 _ ih =>
    intro P Q b c hP hQ h1 h2 h3 h4
    have := (put_iff sf).mpr ⟨P, hP, h1⟩
    rw [h0] at this
    cases this
    exact ih hQ hP h2 (by rw [List.append_assoc]; exact h3) h4 (by
      have := suf_rep h1 h3
      rw [List.append_assoc] at this
      rw [List.append_assoc, List.append_assoc]
      exact this)
theorem chain3 {ss : List Stf} (sf : SufFree ss) (h2 : ss.length ≤ 2) {l x : List Bool} (h : Ins ss l x) : x.length ≤ 3 := by
  refine Classical.byContradiction fun hn => ?_
  have key : ∀ i, (hi : i < x.length) → ∃ p, (p, x[i]) ∈ ss ∧ p <:+ l ++ x.take i := fun i hi => (put_iff sf).mp (h.at (List.getElem?_eq_getElem hi))
  match x, h, key, hn with
  | a :: b :: c :: d :: r, h, key, _ =>
    obtain ⟨p0, m0, s0⟩ := key 0 (by simp)
    obtain ⟨p1, m1, s1⟩ := key 1 (by simp)
    obtain ⟨p2, m2, s2⟩ := key 2 (by simp)
    obtain ⟨p3, m3, s3⟩ := key 3 (by simp)
    have m0 : (p0, a) ∈ ss := m0
    have m1 : (p1, b) ∈ ss := m1
    have m2 : (p2, c) ∈ ss := m2
    have m3 : (p3, d) ∈ ss := m3
    have t0 : p0 <:+ l ++ [] := s0
    have s1 : p1 <:+ l ++ [a] := s1
    have s2 : p2 <:+ l ++ [a, b] := s2
    have s3 : p3 <:+ l ++ [a, b, c] := s3
    rw [List.append_nil] at t0
    have same : ∀ {l : List Bool} {p : List Bool} {b : Bool} {y : List Bool}, Ins ss l y → (p, b) ∈ ss → p <:+ l → p <:+ l ++ [b] → False := fun {l p b y} hy hm g1 g2 => by
      have g3 := suf_rep g1 g2
      have g4 := suf_rep g2 g3
      rw [List.append_assoc] at g3
      exact turns sf hy hm hm g1 g2 g3 (by rw [List.append_assoc] at g4; exact g4)
    have two : ∀ {x y z : Stf}, x ∈ ss → y ∈ ss → z ∈ ss → x ≠ y → y ≠ z → x = z := fun {x y z} hx hy hz n1 n2 => by
      match ss, h2, hx, hy, hz with
      | [], _, hx, _, _ => cases hx
      | [s], _, hx, hy, _ => exact absurd ((List.mem_singleton.mp hx).trans (List.mem_singleton.mp hy).symm) n1
      | [s, t], _, hx, hy, hz =>
        simp only [List.mem_cons, List.not_mem_nil, or_false] at hx hy hz
        rcases hx with rfl | rfl <;> rcases hy with rfl | rfl <;> rcases hz with rfl | rfl <;> first | rfl | exact absurd rfl n1 | exact absurd rfl n2
    have i0 := h
    have i1 := h.drop (i := 1) (by simp)
    have i2 := h.drop (i := 2) (by simp)
    have i1 : Ins ss (l ++ [a]) (b :: c :: d :: r) := i1
    have i2 : Ins ss (l ++ [a, b]) (c :: d :: r) := i2
    by_cases c0 : (p0, a) = (p1, b)
    · cases c0
      exact same i0 m0 t0 s1
    by_cases c1 : (p1, b) = (p2, c)
    · cases c1
      exact same i1 m1 s1 (by rw [List.append_assoc]; exact s2)
    by_cases c2 : (p2, c) = (p3, d)
    · cases c2
      exact same i2 m2 s2 (by rw [List.append_assoc]; exact s3)
    have e1 := two m0 m1 m2 c0 c1
    have e2 := two m1 m2 m3 c1 c2
    cases e1
    cases e2
    exact turns sf h m0 m1 t0 s1 s2 (by rw [List.append_assoc]; exact s3)
  | [], _, _, hn => exact hn (by simp)
  | [_], _, _, hn => exact hn (by simp)
  | [_, _], _, _, hn => exact hn (by simp)
  | [_, _, _], _, _, hn => exact hn (by simp)
theorem okN3 {n : Nat} {ss : List Stf} (o : OkN n ss) (sf : SufFree ss) (h2 : ss.length ≤ 2) : OkN 3 ss := fun l r b => by
  obtain ⟨x, hx, _⟩ := o l r b
  exact ⟨x, hx, chain3 sf h2 hx⟩
open PySem in
theorem sl_big {n : Nat} (h : n ≤ 16777216) : n ≤ sizeLine := h
open PySem in
theorem sl_big2 {n : Nat} (h : n < 16777216) : n < sizeLine := h
end U
set_option maxRecDepth 100000
set_option maxHeartbeats 4000000
namespace U
open PySem PySem.Spec PyProof.Rows
open L2 hiding Fun CX0 E0 pass0 Fun.binds
open C8 Lx SX StX
def LK (H H' : Hp) : Prop := (∀ a xs, H a = some (.lst xs) → ∃ ys, H' a = some (.lst ys)) ∧ ∀ a o u, H a = some (.frz o u) → H' a = some (.frz o u)
theorem LK.refl (H : Hp) : LK H H := ⟨fun _ xs e => ⟨xs, e⟩, fun _ _ _ e => e⟩
theorem LK.trans {H H1 H2 : Hp} (x : LK H H1) (y : LK H1 H2) : LK H H2 := ⟨fun a xs e => by
  obtain ⟨ys, e1⟩ := x.1 a xs e
  exact y.1 a ys e1, fun a o u e => y.2 a o u (x.2 a o u e)⟩
theorem LK.same {H H' : Hp} (s : Same H H') : LK H H' := ⟨fun a xs e => ⟨xs, s _ _ e⟩, fun a o u e => s _ _ e⟩
theorem LK.up {b : Addr} {H H' : Hp} (hb : Box H b) (u : Up b H H') : LK H H' := by
  obtain ⟨x, y, e0⟩ := hb
  refine ⟨fun a xs e => ?_, fun a o v e => u.1 _ _ e fun z => by rw [z, e0] at e; cases e⟩
  by_cases c : a = b
  · obtain ⟨x', y', e1⟩ := u.2
    exact ⟨_, by rw [c]; exact e1⟩
  · exact ⟨xs, u.1 _ _ e c⟩
theorem LK.lst {H : Hp} {D : Addr} {ys : List V} (h : H D = none ∨ ∃ xs, H D = some (.lst xs)) : LK H (upd H D (.lst ys)) := by
  refine ⟨fun a xs e => ?_, fun a o v e => ?_⟩
  · by_cases c : a = D
    · exact ⟨ys, by rw [c]; exact upd_same⟩
    · exact ⟨xs, by rw [upd_ne c]; exact e⟩
  · have c : a ≠ D := fun z => by
      rw [z] at e
      rcases h with h | ⟨xs, h⟩ <;> rw [h] at e <;> cases e
    rw [upd_ne c]
    exact e
def scalT : V → Bool
  | .non => true
  | .bl _ => true
  | .int i => decide (i.natAbs < 1000)
  | .str z => decide (z.length ≤ 10000) && PyData.strOk z
  | _ => false
inductive AnT (H : Hp) : V → Prop
  | sc {v : V} (h : scalT v = true) : AnT H v
  | ls {a : Addr} {xs : List V} (h : H a = some (.lst xs)) : AnT H (.ref a)
  | tp {a : Addr} {xs : List V} (h : TpX H a xs) (l : xs.length ≤ 1000) (k : ∀ x ∈ xs, AnT H x) : AnT H (.ref a)
theorem AnT.lk {H H' : Hp} (L : LK H H') {v : V} (h : AnT H v) : AnT H' v := by
  induction h with
  | sc h => exact .sc h
  | ls h =>
    obtain ⟨ys, e⟩ := L.1 _ _ h
    exact .ls e
  | tp h l _ ih =>
    obtain ⟨o, e, d⟩ := h
    exact .tp ⟨o, L.2 _ _ _ e, d⟩ l ih
theorem AnT.same {H H' : Hp} (s : Same H H') {v : V} (h : AnT H v) : AnT H' v := h.lk (LK.same s)
def OthT (K : PySem.W.Frag) (H : Hp) (x : V) (ty : String) : Prop := ∃ t, (∀ H', Same H H' → TyX K H' x t) ∧ PySem.W.kitOne K t (.type ty) = some false
theorem OthT.same {K : PySem.W.Frag} {H H' : Hp} {x : V} {ty : String} (h : OthT K H x ty) (s : Same H H') : OthT K H' x ty := by
  obtain ⟨t, h1, h2⟩ := h
  exact ⟨t, fun H2 s2 => h1 H2 (s.trans s2), h2⟩
inductive IntR (K : PySem.W.Frag) (H : Hp) : V → Option Int → Prop
  | int (i : Int) : IntR K H (.int i) (some i)
  | bl (b : Bool) : IntR K H (.bl b) none
  | oth {x : V} (h : OthT K H x "int") : IntR K H x none
theorem IntR.same {K : PySem.W.Frag} {H H' : Hp} {x : V} {r : Option Int} (h : IntR K H x r) (s : Same H H') : IntR K H' x r := by
  cases h with
  | int i => exact .int i
  | bl b => exact .bl b
  | oth h => exact .oth (h.same s)
inductive ValR (K : PySem.W.Frag) (H : Hp) : V → Option (Int × Int) → Prop
  | oth {v : V} (h : OthT K H v "tuple") : ValR K H v none
  | len {a : Addr} {xs : List V} (h : SqT K H a xs) (n : xs.length ≠ 2) (l : xs.length ≤ 1000) : ValR K H (.ref a) none
  | bad {a : Addr} {x y : V} {rx ry : Option Int} (h : SqT K H a [x, y]) (hx : IntR K H x rx) (hy : IntR K H y ry) (n : rx = none ∨ ry = none) : ValR K H (.ref a) none
  | num {a : Addr} {p q : Int} (h : SqT K H a [.int p, .int q]) (q9 : q < 1000000000) : ValR K H (.ref a) (if 0 < q ∧ Nat.gcd p.natAbs q.natAbs = 1 then some (p, q) else none)
theorem ValR.same {K : PySem.W.Frag} {H H' : Hp} {v : V} {r : Option (Int × Int)} (h : ValR K H v r) (s : Same H H') : ValR K H' v r := by
  cases h with
  | oth h => exact .oth (h.same s)
  | len h n l => exact .len (same_tup s h) n l
  | bad h hx hy n => exact .bad (same_tup s h) (hx.same s) (hy.same s) n
  | num h q9 => exact .num (same_tup s h) q9
def entO (sz : Nat) (x : V) (r : Option (Int × Int)) : Option (List Bool × Int × Int) := match x with
  | .str z => if isW z = true ∧ z.length ≤ sz then r.map fun pq => (unW z, pq) else none
  | _ => none
inductive EntR (K : PySem.W.Frag) (H : Hp) (sz : Nat) : V → Option (List Bool × Int × Int) → Prop
  | oth {v : V} (h : OthT K H v "tuple") : EntR K H sz v none
  | len {a : Addr} {xs : List V} (h : SqT K H a xs) (n : xs.length ≠ 2) (l : xs.length ≤ 1000) : EntR K H sz (.ref a) none
  | pair {a : Addr} {x y : V} {r : Option (Int × Int)} (h : SqT K H a [x, y]) (hx : AnyS K H x) (hy : ValR K H y r) : EntR K H sz (.ref a) (entO sz x r)
theorem EntR.same {K : PySem.W.Frag} {H H' : Hp} {sz : Nat} {v : V} {r : Option (List Bool × Int × Int)} (h : EntR K H sz v r) (s : Same H H') : EntR K H' sz v r := by
  cases h with
  | oth h => exact .oth (h.same s)
  | len h n l => exact .len (same_tup s h) n l
  | pair h hx hy => exact .pair (same_tup s h) (hx.same s) (hy.same s)
def allO {α : Type} : List (Option α) → Option (List α)
  | [] => some []
  | none :: _ => none
  | some x :: r => (allO r).map (x :: ·)
theorem allO_isSome {α : Type} : ∀ rs : List (Option α), (allO rs).isSome = rs.all Option.isSome
  | [] => rfl
  | none :: _ => rfl
  | some x :: r => by
    show ((allO r).map (x :: ·)).isSome = _
    rw [Option.isSome_map, allO_isSome r]
    simp
inductive PapR (K : PySem.W.Frag) (H : Hp) (sz : Nat) : V → Option (List (List Bool × Int × Int)) → Prop
  | oth {v : V} (h : OthT K H v "tuple") : PapR K H sz v none
  | tup {a : Addr} {xs : List V} {rs : List (Option (List Bool × Int × Int))} (h : TpX H a xs) (l : xs.length ≤ 1000) (k : Paired (EntR K H sz) xs rs) : PapR K H sz (.ref a) (allO rs)
theorem PapR.same {K : PySem.W.Frag} {H H' : Hp} {sz : Nat} {v : V} {r : Option (List (List Bool × Int × Int))} (h : PapR K H sz v r) (s : Same H H') : PapR K H' sz v r := by
  cases h with
  | oth h => exact .oth (h.same s)
  | tup h l k => exact .tup (h.same s) l (L2.Paired.mapP k fun _ _ z => z.same s)
structure D5 where
  w : List Bool
  e : Addr
  t : Addr
  p : Int
  q : Int
structure EntAt (K : PySem.W.Frag) (H : Hp) (sz : Nat) (d : D5) : Prop where
  he : SqT K H d.e [.str (W d.w), .ref d.t]
  ht : SqT K H d.t [.int d.p, .int d.q]
  q0 : 0 < d.q
  q9 : d.q < 1000000000
  lw : d.w.length ≤ sz
theorem EntAt.same {K : PySem.W.Frag} {H H' : Hp} {sz : Nat} {d : D5} (h : EntAt K H sz d) (s : Same H H') : EntAt K H' sz d := ⟨same_tup s h.he, same_tup s h.ht, h.q0, h.q9, h.lw⟩
def d3 (d : D5) : List Bool × Int × Int := (d.w, d.p, d.q)
def kv5 (d : D5) : Key × V := (.inr (W d.w), .ref d.t)
theorem unW_len {z : Str} (h : isW z = true) : (unW z).length = z.length := by
  have e := isW_un h
  have := congrArg Str.length e
  rw [W_len] at this
  exact this.symm
theorem ValR.told {K : PySem.W.Frag} {H : Hp} {v : V} {p q : Int} (h : ValR K H v (some (p, q))) : ∃ a, v = .ref a ∧ SqT K H a [.int p, .int q] ∧ 0 < q ∧ q < 1000000000 := by
  generalize hr : (some (p, q) : Option (Int × Int)) = r at h
  cases h with
  | oth _ => cases hr
  | len _ _ _ => cases hr
  | bad _ _ _ _ => cases hr
  | @num a p' q' h q9 =>
    split at hr
    · rename_i c
      cases hr
      exact ⟨a, rfl, h, c.1, q9⟩
    · cases hr
theorem EntR.told {K : PySem.W.Frag} {H : Hp} {sz : Nat} {v : V} {x : List Bool × Int × Int} (h : EntR K H sz v (some x)) : ∃ d : D5, v = .ref d.e ∧ x = d3 d ∧ EntAt K H sz d := by
  generalize hr : (some x : Option (List Bool × Int × Int)) = r at h
  cases h with
  | oth _ => cases hr
  | len _ _ _ => cases hr
  | @pair a y z r h hx hy =>
    unfold entO at hr
    split at hr
    · rename_i zz
      split at hr
      · rename_i c
        cases r with
        | none => cases hr
        | some pq =>
          obtain ⟨p, q⟩ := pq
          cases hr
          obtain ⟨t, rfl, ht, q0, q9⟩ := hy.told
          exact ⟨⟨unW zz, a, t, p, q⟩, rfl, rfl, ⟨by rw [← isW_un c.1]; exact h, ht, q0, q9, by rw [unW_len c.1]; exact c.2⟩⟩
      · cases hr
    · cases hr
theorem ents_some {K : PySem.W.Frag} {H : Hp} {sz : Nat} : ∀ {xs : List V} {rs : List (Option (List Bool × Int × Int))} {es : List (List Bool × Int × Int)}, Paired (EntR K H sz) xs rs → allO rs = some es →
    ∃ ds : List D5, xs = ds.map (fun d => V.ref d.e) ∧ es = ds.map d3 ∧ ∀ d ∈ ds, EntAt K H sz d
  | _, _, _, .nil, e => by
    cases e
    exact ⟨[], rfl, rfl, fun _ h => nomatch h⟩
  | _, none :: _, _, .cons h t, e => by cases e
  | _, some x :: r, es, .cons h t, e => by
    have e' : (allO r).map (x :: ·) = some es := e
    cases hr : allO r with
    | none => rw [hr] at e'; cases e'
    | some es' =>
      rw [hr] at e'
      cases e'
      obtain ⟨d, rfl, rfl, hd⟩ := h.told
      obtain ⟨ds, rfl, rfl, hds⟩ := ents_some t hr
      exact ⟨d :: ds, rfl, rfl, fun u hu => (List.mem_cons.mp hu).elim (fun z => z ▸ hd) (hds u)⟩
def KeptB (ss : List Stf) (v0 v1 : Int) (es : List (List Bool × Int × Int)) (e : List Bool × Int × Int) (b : Bool) : Prop :=
  ∃ (x : List Bool) (P Q : Int), Ins ss (e.1 ++ [b]) x ∧ (tl (longM ss) (e.1 ++ [b] ++ x), P, Q) ∈ es ∧ (e.2.1 * v1 + ((x.length : Nat) * v1 - v0) * e.2.2) * Q ≤ P * (e.2.2 * v1)
def HoldP (ss : List Stf) (v0 v1 : Int) (es : List (List Bool × Int × Int)) : Prop := (es.map (·.1)).Nodup ∧ [] ∈ es.map (·.1) ∧ ∀ e ∈ es, ∀ b, KeptB ss v0 v1 es e b
theorem key5_ne {u v : List Bool} (h : u ≠ v) : (.inr (W u) : Key) ≠ .inr (W v) := fun z => h (W_inj (Sum.inr.inj z))
theorem merge_snoc (l : List (Key × V)) (kv : Key × V) : mergeK [] (l ++ [kv]) = putK (mergeK [] l) kv.1 kv.2 := by
  unfold mergeK
  rw [List.foldl_append]
  rfl
theorem put_keys (kvs : List (Key × V)) (k : Key) (v : V) : ∀ x, x ∈ (putK kvs k v).map (·.1) ↔ x ∈ kvs.map (·.1) ∨ x = k := fun x => by
  unfold putK
  split
  · rename_i c
    have hk : k ∈ kvs.map (·.1) := by
      rw [List.any_eq_true] at c
      obtain ⟨p, hp, e⟩ := c
      exact List.mem_map.mpr ⟨p, hp, of_decide_eq_true e⟩
    have e : (kvs.map fun kv => if kv.1 = k then (kv.1, v) else kv).map (·.1) = kvs.map (·.1) := by
      rw [List.map_map]
      refine List.map_congr_left fun p _ => ?_
      show (if p.1 = k then (p.1, v) else p).1 = p.1
      split <;> rfl
    rw [e]
    exact ⟨.inl, fun h => h.elim id fun z => z ▸ hk⟩
  · rw [List.map_append]
    simp
theorem merge_nodup : ∀ (l : List (Key × V)), (l.map (·.1)).Nodup → mergeK [] l = l := by
  have gen : ∀ (l acc : List (Key × V)), ((acc ++ l).map (·.1)).Nodup → mergeK acc l = acc ++ l := by
    intro l
    induction l with
    | nil => intro acc _; rw [List.append_nil]; rfl
    | cons p r ih =>
      intro acc h
      show mergeK (putK acc p.1 p.2) r = _
      have hn : valV acc p.1 = none := by
        cases e : valV acc p.1 with
        | none => rfl
        | some y =>
          have h2 : (acc.any fun kv => decide (kv.1 = p.1)) = true := by rw [valV_any, e]; rfl
          rw [List.any_eq_true] at h2
          obtain ⟨q, hq, e2⟩ := h2
          rw [List.map_append, List.nodup_append] at h
          exact absurd (of_decide_eq_true e2) (h.2.2 q.1 (List.mem_map.mpr ⟨q, hq, rfl⟩) p.1 List.mem_cons_self)
      rw [putK_new _ hn, ih (acc ++ [(p.1, p.2)]) (by rw [List.append_assoc]; exact h), List.append_assoc]
      rfl
  exact fun l h => gen l [] h
theorem merge_len_lt : ∀ (l : List (Key × V)), ¬ (l.map (·.1)).Nodup → (mergeK [] l).length < l.length := by
  have gen : ∀ (l acc : List (Key × V)), (acc.map (·.1)).Nodup → ¬ ((acc ++ l).map (·.1)).Nodup → (mergeK acc l).length < acc.length + l.length := by
    intro l
    induction l with
    | nil => intro acc h1 h2; rw [List.append_nil] at h2; exact absurd h1 h2
    | cons p r ih =>
      intro acc h1 h2
      show (mergeK (putK acc p.1 p.2) r).length < _
      cases e : valV acc p.1 with
      | none =>
        have hn : p.1 ∉ acc.map (·.1) := fun hm => by
          obtain ⟨q, hq, e2⟩ := List.mem_map.mp hm
          have h3 : (acc.any fun kv => decide (kv.1 = p.1)) = true := List.any_eq_true.mpr ⟨q, hq, decide_eq_true e2⟩
          rw [valV_any, e] at h3
          cases h3
        rw [putK_new _ e]
        have := ih (acc ++ [(p.1, p.2)]) (by
          rw [List.map_append, List.nodup_append]
          exact ⟨h1, by simp, fun a ha b hb z => hn (by have e3 := List.mem_singleton.mp hb; rw [z, e3] at ha; exact ha)⟩) (by rw [List.append_assoc]; exact h2)
        rw [List.length_append] at this
        simp only [List.length_cons, List.length_nil] at this ⊢
        omega
      | some y =>
        have h3 : (acc.any fun kv => decide (kv.1 = p.1)) = true := by rw [valV_any, e]; rfl
        have hl : (putK acc p.1 p.2).length = acc.length := by
          unfold putK
          rw [if_pos h3, List.length_map]
        have := length_mergeK r (putK acc p.1 p.2)
        rw [hl] at this
        rw [List.length_cons]
        omega
  exact fun l h => by
    have := gen l [] List.nodup_nil h
    rw [List.length_nil, Nat.zero_add] at this
    exact this
theorem keys5 (ds : List D5) : (ds.map kv5).map (·.1) = (ds.map (·.w)).map fun w => (.inr (W w) : Key) := by rw [List.map_map, List.map_map]; rfl
theorem nodup5 (ds : List D5) : ((ds.map kv5).map (·.1)).Nodup ↔ (ds.map (·.w)).Nodup := by
  rw [keys5]
  refine ⟨fun h => ?_, fun h => ?_⟩
  · rw [List.Nodup, List.pairwise_map] at h
    exact List.Pairwise.imp (fun {a b} hab z => hab (by rw [z])) h
  rw [List.Nodup, List.pairwise_map]
  exact List.Pairwise.imp (fun {a b} hab => key5_ne hab) h
theorem val5_in : ∀ {ds : List D5} {d : D5}, (ds.map (·.w)).Nodup → d ∈ ds → valV (ds.map kv5) (.inr (W d.w)) = some (.ref d.t)
  | e :: r, d, hn, h => by
    rw [List.map_cons, List.nodup_cons] at hn
    rcases List.mem_cons.mp h with rfl | h
    · exact valV_pos rfl
    · rw [List.map_cons, valV_neg (fun z => hn.1 (by
        have : e.w = d.w := W_inj (Sum.inr.inj z)
        rw [this]
        exact List.mem_map.mpr ⟨d, h, rfl⟩))]
      exact val5_in hn.2 h
theorem val5_out : ∀ {ds : List D5} {u : List Bool}, u ∉ ds.map (·.w) → valV (ds.map kv5) (.inr (W u)) = none
  | [], _, _ => rfl
  | e :: r, u, h => by
    rw [List.map_cons, List.mem_cons, not_or] at h
    rw [List.map_cons, valV_neg (fun z => h.1 (W_inj (Sum.inr.inj z)).symm)]
    exact val5_out h.2
theorem w_of (ds : List D5) : (ds.map d3).map (·.1) = ds.map (·.w) := by rw [List.map_map]; rfl
end U
set_option maxRecDepth 100000
set_option maxHeartbeats 4000000
namespace U
open PySem PySem.Spec PyProof.Rows
open L2 hiding Fun CX0 E0 pass0 Fun.binds
open C8 Lx SX StX
theorem sq_ty {K : PySem.W.Frag} {H : Hp} {a : Addr} {xs : List V} (h : SqT K H a xs) : TyX K H (.ref a) (.type "tuple") := by
  rcases h with (h | ⟨o, h⟩) | ⟨o, _, _, h, c, _⟩
  · exact .base (.tup h)
  · exact .fTuple h
  · exact .kTuple h c
theorem sl_ty {K : PySem.W.Frag} {H : Hp} {a : Addr} {xs : List V} (h : SqL K H a xs) : TyX K H (.ref a) (.type "list") := by
  rcases h with (h | ⟨o, h⟩) | ⟨o, _, _, h, c, _⟩
  · exact .base (.lst h)
  · exact .base (.frz h)
  · exact .kList h c
theorem W_ok (l : List Bool) : PyData.strOk (W l) = true := by
  unfold PyData.strOk
  rw [← Array.all_toList, List.all_eq_true]
  intro c hc
  have e : (W l).cps.toList = l.map bt := W_tl l
  rw [e] at hc
  obtain ⟨b, _, rfl⟩ := List.mem_map.mp hc
  cases b <;> decide
theorem unW_W (l : List Bool) : unW (W l) = l := W_inj (isW_un (isW_W l)).symm
inductive ElR (K : PySem.W.Frag) (H : Hp) : V → Option WW → Prop
  | oth {x : V} (h : OthT K H x "tuple") : ElR K H x none
  | len {a : Addr} {xs : List V} (h : SqT K H a xs) (n : xs.length ≠ 2) (l : xs.length ≤ 1000) : ElR K H (.ref a) none
  | bad {a : Addr} {x y : V} (h : SqT K H a [x, y]) (hx : AnyS K H x) (hy : AnyS K H y) (n : wordB x = false ∨ wordB y = false) : ElR K H (.ref a) none
  | pair {a : Addr} {p q : List Bool} (h : H a = some (.tup [.str (W p), .str (W q)])) (lp : p.length ≤ 9) (lq : q.length ≤ 9) : ElR K H (.ref a) (some (p, q))
theorem ElR.same {K : PySem.W.Frag} {H H' : Hp} {v : V} {r : Option WW} (h : ElR K H v r) (s : Same H H') : ElR K H' v r := by
  cases h with
  | oth h => exact .oth (h.same s)
  | len h n l => exact .len (same_tup s h) n l
  | bad h hx hy n => exact .bad (same_tup s h) (hx.same s) (hy.same s) n
  | pair h lp lq => exact .pair (s _ _ h) lp lq
inductive SeqR (K : PySem.W.Frag) (H : Hp) : V → Option (List (Option WW)) → Prop
  | no {v : V} (t : Value) (h : ∀ H', Same H H' → TyX K H' v t) (n1 : PySem.W.kitOne K t (.type "list") = some false) (n2 : PySem.W.kitOne K t (.type "tuple") = some false) : SeqR K H v none
  | seq {a : Addr} {xs : List V} {rs : List (Option WW)} (h : Sq K H a xs) (l : xs.length ≤ 1000) (k : Paired (ElR K H) xs rs) : SeqR K H (.ref a) (some rs)
theorem SeqR.same {K : PySem.W.Frag} {H H' : Hp} {v : V} {r : Option (List (Option WW))} (h : SeqR K H v r) (s : Same H H') : SeqR K H' v r := by
  cases h with
  | no t h n1 n2 => exact .no t (fun H2 s2 => h H2 (s.trans s2)) n1 n2
  | seq h l k => exact .seq (h.same s) l (L2.Paired.mapP k fun _ _ z => z.same s)
def oneG : Option WW → Bool
  | some x => goodB x
  | none => false
theorem allO_none {α : Type} : ∀ {rs : List (Option α)}, allO rs = none → none ∈ rs
  | none :: _, _ => List.mem_cons_self
  | some x :: r, h => by
    have h' : (allO r).map (x :: ·) = none := h
    rw [Option.map_eq_none_iff] at h'
    exact List.mem_cons_of_mem _ (allO_none h')
def decH (H : Hp) (p : Addr) : WW := match H p with
  | some (.tup [.str a, .str b]) => (unW a, unW b)
  | _ => ([], [])
theorem seq_stw {K : PySem.W.Frag} {H : Hp} : ∀ {xs : List V} {rs : List (Option WW)} {ws : List WW}, Paired (ElR K H) xs rs → allO rs = some ws →
    ∃ ps : List Addr, xs = ps.map V.ref ∧ ws = ps.map (decH H) ∧ StW H (decH H) ps ∧ ∀ p ∈ ps, (decH H p).1.length ≤ 9 ∧ (decH H p).2.length ≤ 9
  | _, _, _, .nil, e => by
    cases e
    exact ⟨[], rfl, rfl, (fun _ h => nomatch h), (fun _ h => nomatch h)⟩
  | _, none :: _, _, .cons _ _, e => by cases e
  | _, some x :: r, ws, .cons h t, e => by
    have e' : (allO r).map (x :: ·) = some ws := e
    cases hr : allO r with
    | none => rw [hr] at e'; cases e'
    | some ws' =>
      rw [hr] at e'
      cases e'
      cases h with
      | @pair a p q h lp lq =>
        obtain ⟨ps, rfl, rfl, h1, h2⟩ := seq_stw t hr
        have ed : decH H a = (p, q) := by unfold decH; rw [h]; show (unW (W p), unW (W q)) = _; rw [unW_W, unW_W]
        refine ⟨a :: ps, rfl, by rw [List.map_cons, ed], fun u hu => ?_, fun u hu => ?_⟩
        · rcases List.mem_cons.mp hu with rfl | hu
          · rw [ed]; exact h
          · exact h1 u hu
        · rcases List.mem_cons.mp hu with rfl | hu
          · rw [ed]; exact ⟨lp, lq⟩
          · exact h2 u hu
def lnV : V → Nat
  | .str z => z.length
  | _ => 0
def flagB (v : V) : Bool := wordB v && decide (2 ≤ lnV v)
open Classical in
noncomputable def dueI (v : V) (r : Option (List (Option WW))) : Option Str :=
  if flagB v = true then
    match r with
    | none => some "stuffs"
    | some rs => match allO rs with
      | none => some "stuffs"
      | some ws => if areB ws = true then (if OkR (ws.map stO) then none else some "endless") else some "stuffs"
  else some "flag"
def spSeqX (K : PySem.W.Frag) : Sp := fun vs H Q _ => ∃ x t b1 b2, vs = [x] ∧ (∀ H', Same H H' → TyX K H' x t) ∧ PySem.W.kitOne K t (.type "list") = some b1 ∧ PySem.W.kitOne K t (.type "tuple") = some b2 ∧ ∀ H', Same H H' → Q (.bl (b1 || b2)) H'
def spStuffA (K : PySem.W.Frag) : Sp := fun vs H Q _ => ∃ (v : V) (r : Option WW), vs = [v] ∧ ElR K H v r ∧ ∀ H', Same H H' → Q (.bl (oneG r)) H'
def spAreBad (K : PySem.W.Frag) : Sp := fun vs H Q _ => ∃ (v : V) (r : Option (List (Option WW))), vs = [v] ∧ SeqR K H v r ∧ (∀ rs, r = some rs → rs.all oneG = false) ∧ ∀ H', Same H H' → Q (.bl false) H'
def spRuBad (K : PySem.W.Frag) (C CI : Addr) : Sp := fun vs H Q E => ∃ (a dx : Addr) (v s : V) (r : Option (List (Option WW))), vs = [.ref a, v, s] ∧ H a = some (.ins C dx []) ∧ AnyS K H v ∧ SeqR K H s r ∧
  (flagB v = false ∨ ∀ rs, r = some rs → rs.all oneG = false) ∧ ∀ d H', (∀ b o, H b = some o → b ≠ a → H' b = some o) → H' d = some (.xd [("word", .str (if flagB v = true then "stuffs" else "flag"))]) → E (.ref CI) (some d) H'
def spRuInitA (K : PySem.W.Frag) (C CI : Addr) : Sp := fun vs H Q E => ∃ (a dx : Addr) (v s : V) (r : Option (List (Option WW))), vs = [.ref a, v, s] ∧ H a = some (.ins C dx []) ∧ AnyS K H v ∧ lnV v ≤ 1000 ∧ SeqR K H s r ∧
  (∀ msg, dueI v r = some msg → ∀ d H', (∀ b o, H b = some o → b ≠ a → H' b = some o) → H' d = some (.xd [("word", .str msg)]) → E (.ref CI) (some d) H') ∧
  (dueI v r = none → ∀ H', (∀ b o, H b = some o → b ≠ a → H' b = some o) → Q .non H')
section
variable {P : Program} {w : World} {K : PySem.W.Frag} {mg : Str → Option Value} {base : Heap}
theorem cal_is_sequenceX {f : Addr} {fd : FuncData} (F : Def K mg "is_sequence" s_is_sequence f fd) (b : Binds K fd ["value"] []) (T : Tx mg) : Cal P w K mg base 1 "is_sequence" (spSeqX K) [] := by
  refine cal0 F b .nil sc_is_sequence (fun vs H Q E h => ?_) (fun cdv A outer s H vs Q E hr h => ?_)
  · obtain ⟨_, _, _, _, rfl, _⟩ := h; rfl
  · obtain ⟨x, t, b1, b2, rfl, hT, k1, k2, k⟩ := h
    refine ⟨_, (pss_one (ps_ret (pe_callB call_isiT (by rfl) T.b_isinstance (by decide +kernel) (pa_cons (pv 0) (pa_cons (pe_tup (pa_cons (pe_bltn (v := .ty "list") (u := .type "list") (by rfl) T.b_list (by decide +kernel) rfl) (pa_cons (pe_bltn (v := .ty "tuple") (u := .type "tuple") (by rfl) T.b_tuple (by decide +kernel) rfl) pa_nil))) pa_nil))))), ?_⟩
    refine ⟨_, rfl, by show 2 ≤ sizeLine; decide, fun p hp => ?_⟩
    have s1 := same_upd (o := .tup [.ty "list", .ty "tuple"]) hp
    cases b1 with
    | true => exact ⟨_, p, _, _, _, true, rfl, upd_same, .cons (.ty _) (.cons (.ty _) .nil), hT _ s1, kitAny_cons k1 (fun z => Bool.noConfusion z) (fun _ => rfl), k _ s1⟩
    | false => exact ⟨_, p, _, _, _, b2, rfl, upd_same, .cons (.ty _) (.cons (.ty _) .nil), hT _ s1, kitAny_cons k1 (fun _ => kitAny_cons k2 (fun z => by rw [z]; rfl) (fun z => by rw [z])) (fun z => Bool.noConfusion z), k _ s1⟩
def spBitA (K : PySem.W.Frag) : Sp := fun vs H Q _ => ∃ v : V, vs = [v] ∧ AnyS K H v ∧ ∀ H', Same H H' → Q (.bl (wordB v && decide (lnV v = 1))) H'
theorem cal_is_bitA {f : Addr} {fd : FuncData} (F : Def K mg "is_bit" s_is_bit f fd) (b : Binds K fd ["value"] []) (T : Tx mg) (c_is_word : Cal P w K mg base 1 "is_word" (spIsWord K) []) : Cal P w K mg base 2 "is_bit" (spBitA K) [] := by
  refine cal0 F b .nil sc_is_bit (fun vs H Q E h => ?_) (fun cdv A outer s H vs Q E hr h => ?_)
  · obtain ⟨_, rfl, _⟩ := h; rfl
  · obtain ⟨v, rfl, hv, k⟩ := h
    refine ⟨_, (pss_one (ps_ret (pe_and (pe_c c_is_word hr (by decide) rfl (pa_cons (pv 0) pa_nil)) (pe_one (pe_cmpR op_eq (pe_callB call_len_str (by rfl) T.b_len (by decide +kernel) (pa_cons (pv 0) pa_nil)) pe_int (nomark _)))))), ?_⟩
    refine ⟨_, rfl, ?_⟩
    dsimp only [tNil, List.append_nil]
    refine spIsWord.any hv fun H1 s1 => ⟨_, rfl, ?_⟩
    have kk := k H1 s1
    cases ew : wordB v with
    | false =>
      rw [ew] at kk
      exact iteBF rfl kk
    | true =>
      rw [ew] at kk
      obtain ⟨l, rfl⟩ := wordB_some ew
      have hl : (W l).length ≤ 10000 := by
        rcases hv with ⟨z, ez, hz, _⟩ | ⟨h1, _⟩
        · rw [V.str.inj ez]; exact hz
        · exact absurd rfl (h1 _)
      refine iteBT rfl ?_
      refine ⟨_, rfl, _, rfl, sl_len (by omega), rfl, ?_⟩
      have e : decide (V.int (((W l).length : Nat) : Int) = V.int 1) = decide ((W l).length = 1) := by
        rw [decide_eq_decide]
        exact ⟨fun z => by have := V.int.inj z; omega, fun z => by rw [z]; rfl⟩
      rw [← show decide ((W l).length = 1) = decide (lnV (.str (W l)) = 1) from rfl, ← e] at kk
      exact kk
theorem cal_is_stuffA {f : Addr} {fd : FuncData} (F : Def K mg "is_stuff" s_is_stuff f fd) (b : Binds K fd ["value"] []) (T : Tx mg) (c_is_word : Cal P w K mg base 1 "is_word" (spIsWord K) []) (c_is_bitA : Cal P w K mg base 2 "is_bit" (spBitA K) []) : Cal P w K mg base 3 "is_stuff" (spStuffA K) [] := by
  refine cal0 F b .nil sc_is_stuff (fun vs H Q E h => ?_) (fun cdv A outer s H vs Q E hr h => ?_)
  · obtain ⟨_, _, rfl, _⟩ := h; rfl
  · obtain ⟨v, r, rfl, hv, k⟩ := h
    have c_is_bit := c_is_bitA
    refine ⟨_, (pss_cons (ps_if (PW.pt (pw_or (pt_not (pt_val (pe_callB call_isi (by rfl) T.b_isinstance (by decide +kernel) (pa_cons (pv 0) (pa_cons (pe_bltn (v := .ty "tuple") (u := .type "tuple") (by rfl) T.b_tuple (by decide +kernel) rfl) pa_nil))))) (pw_or1 (pt_cmpR op_ne (pe_callB call_len_seq (by rfl) T.b_len (by decide +kernel) (pa_cons (pv 0) pa_nil)) pe_int (nomark _))))) (pss_one (ps_ret pe_bl)) pss_nil)
    (pss_one (ps_ret (pe_and (pe_c c_is_word hr (by decide) rfl (pa_cons (pe_ix ix_tup (pv 0) pe_int (fun _ _ => rfl)) pa_nil)) (pe_and (pe_cmpR op_gt (pe_callB call_len_str (by rfl) T.b_len (by decide +kernel) (pa_cons (pe_ix ix_tup (pv 0) pe_int (fun _ _ => rfl)) pa_nil)) pe_int (nomark _)) (pe_one (pe_c c_is_bit hr (by decide) rfl (pa_cons (pe_ix ix_tup (pv 0) pe_int (fun _ _ => rfl)) pa_nil)))))))), ?_⟩
    cases hv with
    | oth h =>
      obtain ⟨t, h1, h2⟩ := h
      refine ⟨_, rfl, _, _, _, _, false, rfl, .ty _, h1 H (Same.refl H), h2, _, rfl, ?_⟩
      exact k H (Same.refl H)
    | @len t xs ht n l =>
      refine ⟨_, rfl, _, _, _, _, true, rfl, .ty _, sq_ty ht, kit_ty (by decide +kernel), _, rfl, ?_⟩
      refine ⟨_, rfl, t, _, rfl, .inr ht, rfl, _, rfl, iteNT (fun z => n (by have := V.int.inj z; omega)) ?_⟩
      exact k H (Same.refl H)
    | @bad t x y ht hx hy n =>
      refine ⟨_, rfl, _, _, _, _, true, rfl, .ty _, sq_ty ht, kit_ty (by decide +kernel), _, rfl, ?_⟩
      refine ⟨_, rfl, t, _, rfl, .inr ht, rfl, _, rfl, iteNS rfl ?_⟩
      refine ⟨_, rfl, t, _, 0, _, rfl, rfl, ht, rfl, ?_⟩
      dsimp only [tNil, List.append_nil]
      refine spIsWord.any hx fun H1 s1 => ⟨_, rfl, ?_⟩
      cases ew : wordB x with
      | false => exact iteBF rfl (k H1 s1)
      | true =>
        have ey : wordB y = false := n.elim (fun z => by rw [ew] at z; cases z) id
        refine iteBT rfl ?_
        obtain ⟨l, rfl⟩ := wordB_some ew
        have hl : (W l).length ≤ 10000 := by
          rcases hx with ⟨z, ez, hz, _⟩ | ⟨h1, _⟩
          · rw [V.str.inj ez]; exact hz
          · exact absurd rfl (h1 _)
        refine ⟨_, rfl, t, _, 0, _, rfl, rfl, same_tup s1 ht, rfl, _, rfl, sl_len (by omega), ?_⟩
        by_cases c : 0 < (W l).length
        · refine ⟨_, _, rfl, rfl, _, rfl, iteDT (by omega) ?_⟩
          refine ⟨_, rfl, t, _, 1, _, rfl, rfl, same_tup s1 ht, rfl, y, rfl, hy.same s1, fun H2 s2 => ?_⟩
          rw [ey]
          exact k H2 (s1.trans s2)
        · refine ⟨_, _, rfl, rfl, _, rfl, iteDF (by omega) ?_⟩
          exact k H1 s1
    | @pair t p q ht lp lq =>
      have lpp : (W p).length ≤ sizeLine := by rw [W_len]; exact sl_len (by omega)
      refine ⟨_, rfl, _, _, _, _, true, rfl, .ty _, .base (.tup ht), kit_ty (by decide +kernel), _, rfl, ?_⟩
      refine ⟨_, rfl, t, _, rfl, .inr (SqT.of ht), rfl, _, rfl, iteNS rfl ?_⟩
      refine ⟨_, rfl, t, _, 0, _, rfl, rfl, SqT.of ht, rfl, _, rfl, .inl ⟨_, rfl, by rw [W_len]; omega, fun H1 s1 => ⟨_, rfl, iteBT (isW_W _) ?_⟩⟩⟩
      have ht1 := s1 _ _ ht
      refine ⟨_, rfl, t, _, 0, _, rfl, rfl, SqT.of ht1, rfl, _, rfl, lpp, ?_⟩
      by_cases c : 0 < p.length
      · refine ⟨_, _, rfl, rfl, _, rfl, iteDT (by rw [W_len]; omega) ?_⟩
        refine ⟨_, rfl, t, _, 1, _, rfl, rfl, SqT.of ht1, rfl, _, rfl, anyS_str (by rw [W_len]; omega) (W_ok q), fun H2 s2 => ?_⟩
        have kk := k H2 (s1.trans s2)
        have e : oneG (some (p, q)) = (wordB (.str (W q)) && decide (lnV (.str (W q)) = 1)) := by
          show (decide (0 < p.length) && decide (q.length = 1)) = (isW (W q) && decide ((W q).length = 1))
          rw [decide_eq_true c, isW_W, W_len]
        rw [e] at kk
        exact kk
      · refine ⟨_, _, rfl, rfl, _, rfl, iteDF (by rw [W_len]; omega) ?_⟩
        have kk := k H1 s1
        have e : oneG (some (p, q)) = false := by
          show (decide (0 < p.length) && decide (q.length = 1)) = false
          rw [decide_eq_false c]; rfl
        rw [e] at kk
        exact kk
end
end U
set_option maxRecDepth 100000
set_option maxHeartbeats 4000000
namespace U
open PySem PySem.Spec PyProof.Rows
open L2 hiding Fun CX0 E0 pass0 Fun.binds
open C8 Lx SX StX
theorem paired_all {K : PySem.W.Frag} {H : Hp} {xs : List V} {rs : List (Option WW)} (h : Paired (ElR K H) xs rs) : xs.length = rs.length := Paired.length h
theorem sq_isi {K : PySem.W.Frag} {H : Hp} {a : Addr} {xs : List V} (h : Sq K H a xs) : ∃ t b1 b2, (∀ H', Same H H' → TyX K H' (.ref a) t) ∧ PySem.W.kitOne K t (.type "list") = some b1 ∧ PySem.W.kitOne K t (.type "tuple") = some b2 ∧ (b1 || b2) = true := by
  rcases h with h | h
  · exact ⟨.type "list", true, false, fun _ s => sl_ty (s.seq h), kit_ty (by decide +kernel), kit_ty (by decide +kernel), rfl⟩
  · exact ⟨.type "tuple", false, true, fun _ s => sq_ty (same_tup s h), kit_ty (by decide +kernel), kit_ty (by decide +kernel), rfl⟩
theorem allO_map {α : Type} : ∀ {rs : List (Option α)} {ws : List α}, allO rs = some ws → rs = ws.map some
  | [], ws, h => by cases h; rfl
  | none :: _, _, h => by cases h
  | some x :: r, ws, h => by
    have h' : (allO r).map (x :: ·) = some ws := h
    cases hr : allO r with
    | none => rw [hr] at h'; cases h'
    | some ws' =>
      rw [hr] at h'
      cases h'
      rw [allO_map hr]
      rfl
theorem due_flag {v : V} {r : Option (List (Option WW))} (h : flagB v = false) : dueI v r = some ("flag" : Str) := by
  unfold dueI
  rw [if_neg (by rw [h]; decide)]
theorem due_bad {v : V} {r : Option (List (Option WW))} (h : flagB v = true) (hb : ∀ rs, r = some rs → rs.all oneG = false) : dueI v r = some ("stuffs" : Str) := by
  unfold dueI
  rw [if_pos h]
  cases r with
  | none => rfl
  | some rs =>
    have h1 := hb rs rfl
    show (match allO rs with | none => _ | some ws => _) = _
    cases hr : allO rs with
    | none => rfl
    | some ws =>
      have e := allO_map hr
      subst e
      rw [List.all_map] at h1
      have h2 : ws.all goodB = false := h1
      have h3 : areB ws = false := by unfold areB; rw [h2]; rfl
      show (if areB ws = true then _ else _) = _
      rw [if_neg (by rw [h3]; decide)]
theorem due_good {v : V} {rs : List (Option WW)} {ws : List WW} (h : flagB v = true) (hr : allO rs = some ws) : (areB ws = false → dueI v (some rs) = some ("stuffs" : Str)) ∧ (areB ws = true → OkR (ws.map stO) → dueI v (some rs) = none) ∧ (areB ws = true → ¬ OkR (ws.map stO) → dueI v (some rs) = some ("endless" : Str)) := by
  unfold dueI
  simp only [h, if_true, hr]
  refine ⟨fun h1 => ?_, fun h1 h2 => ?_, fun h1 h2 => ?_⟩
  · rw [if_neg (by rw [h1]; decide)]
  · rw [if_pos h1, if_pos h2]
  · rw [if_pos h1, if_neg h2]
section
variable {P : Program} {w : World} {K : PySem.W.Frag} {mg : Str → Option Value} {base : Heap}
theorem cal_are_stuffsA {f : Addr} {fd : FuncData} (F : Def K mg "are_stuffs" s_are_stuffs f fd) (b : Binds K fd ["value"] []) (T : Tx mg) (c_is_sequenceX : Cal P w K mg base 1 "is_sequence" (spSeqX K) []) (c_is_stuffA : Cal P w K mg base 3 "is_stuff" (spStuffA K) []) : Cal P w K mg base 4 "are_stuffs" (spAreBad K) [] := by
  refine cal0 F b .nil sc_are_stuffs (fun vs H Q E h => ?_) (fun cdv A outer s H vs Q E hr h => ?_)
  · obtain ⟨_, _, rfl, _⟩ := h; rfl
  · obtain ⟨v, r, rfl, hv, hbad, k⟩ := h
    have c_is_stuff := c_is_stuffA
    have c_is_sequence := c_is_sequenceX
    refine ⟨_, (pss_cons (ps_if (PW.pt (pw_or (pt_not (pt_val (pe_c c_is_sequence hr (by decide) rfl (pa_cons (pv 0) pa_nil)))) (pw_or1 (pt_not (pt_val (pe_callB (cr_all rfl) (by rfl) T.b_all (by decide +kernel) (pa_cons (pe_lc (own := [("one", 1)]) (g := gName 1) (by rfl) sc_are_stuffs.nd (pi_seq (pv 0)) (blkOk_by (own := [("one", 1)]) (N := ["value", "one", "at", "stuff", "rest", "pattern", "bit"]) (sc := fnScope s_are_stuffs) (by decide +kernel)) (fun _ _ _ _ _ => (pg_name (i := 1) sc_are_stuffs.nd rfl (.inl rfl))) (fun _ _ _ _ _ => pts_nil) (fun _ _ _ _ _ => (pe_c c_is_stuff hr (by decide) rfl (pa_cons (pv 1) pa_nil)))) pa_nil))))))) (pss_one (ps_ret pe_bl)) pss_nil)
    (pss_cons (ps_for PassesOwn.never rfl (pi_enumQ (by rfl) T.b_enumerate (pa_cons (pv 0) pa_nil)) (pg_tup rfl (pgs_cons (pg_name (i := 2) sc_are_stuffs.nd rfl (.inl rfl)) (pgs_cons (pg_name (i := 3) sc_are_stuffs.nd rfl (.inr rfl)) pgs_nil)))
    (pss_cons (ps_set (i := 4) sc_are_stuffs.nd rfl (.inl rfl) (pe_lst (pa_star (pe_slice (SlR.or sl_list sl_tupA) (pv 0) po_none (po_some (pv 2))) (pa_star (pe_slice (SlR.or sl_list sl_tupA) (pv 0) (po_some (pe_op op_add (pv 2) pe_int)) po_none) pa_nil))))
    (pss_one (ps_if (pt_val (pe_callB (cr_any rfl) (by rfl) T.b_any (by decide +kernel) (pa_cons (pe_lc (own := [("pattern", 5), ("bit", 6)]) (g := gTup K 2 (gCons (gName 5) (gCons (gName 6) gNil))) (by rfl) sc_are_stuffs.nd (pi_list (pv 4)) (blkOk_by (own := [("pattern", 5), ("bit", 6)]) (N := ["value", "one", "at", "stuff", "rest", "pattern", "bit"]) (sc := fnScope s_are_stuffs) (by decide +kernel)) (fun _ _ _ _ _ => (pg_tup rfl (pgs_cons (pg_name (i := 5) sc_are_stuffs.nd rfl (.inl rfl)) (pgs_cons (pg_name (i := 6) sc_are_stuffs.nd rfl (.inl rfl)) pgs_nil)))) (fun _ _ _ _ _ => pts_nil) (fun _ _ _ _ _ => (pe_m1 PySem.F.slot_str_endswith PySem.F.type_str_endswith mt_endswith (pe_ix (show IxR _ (rIxT K) from ix_tup) (pv 3) pe_int (fun _ _ => rfl)) (pv 5)))) pa_nil))) (pss_one (ps_ret pe_bl)) pss_nil))))
    (pss_one (ps_ret pe_bl)))), ?_⟩
    cases hv with
    | no t h n1 n2 =>
      refine ⟨_, rfl, _, t, false, false, rfl, h, n1, n2, fun H1 s1 => ⟨_, rfl, ?_⟩⟩
      exact k H1 s1
    | @seq a xs rs hS hn hE =>
      obtain ⟨t, b1, b2, h1, h2, h3, h4⟩ := sq_isi hS
      refine ⟨_, rfl, _, t, b1, b2, rfl, h1, h2, h3, fun H1 s1 => ⟨_, rfl, ?_⟩⟩
      rw [h4]
      have hS1 := hS.same s1
      have lrs := paired_all hE
      refine iteBF rfl ?_
      refine iSeq_var rfl hS1 fun J G hG wk D nD => ?_
      refine lc_it wk (fun i H2 => Same H1 H2 ∧ H2 D = some (.lst (((rs.take i).map oneG).map V.bl))) ⟨same_upd nD, upd_same⟩ (fun i H2 _ h2 => hG _ h2.1) ?_ ?_
      · rintro i x H2 H3 hi ⟨s2, hD⟩ ⟨rfl, hx⟩
        obtain ⟨ri, hri, hEi⟩ := paired_get hE hx
        refine ⟨rfl, ?_⟩
        refine ⟨_, rfl, x, ri, rfl, hEi.same (s1.trans s2), fun H4 s4 => ⟨_, s4 _ _ hD, ?_, ?_, ?_⟩⟩
        · rw [List.length_map, List.length_map, List.length_take]; exact sl_lt (by omega)
        · intro c' o e
          rw [upd_ne (ne_of_none e nD)]
          exact (s2.trans s4) _ _ e
        · rw [upd_same, List.take_add_one, hri, List.map_append, List.map_append]; rfl
      · rintro H2 ⟨s2, hD⟩
        rw [lrs, List.take_length] at hD
        refine ⟨D, _, rfl, SqL.of hD, _, rfl, ?_⟩
        have et : (rs.map oneG).all id = rs.all oneG := by rw [List.all_map]; rfl
        rw [et, hbad rs rfl]
        refine iteBT rfl ?_
        exact k H2 (s1.trans s2)
theorem ok_Rule_initBad {f C CI : Addr} {fd : FuncData} (F : C8.Fun K "__init__" "Rule.__init__" s_Rule_init f fd) (T : Tx mg) (RT : RuT K C) (x_InvalidRule : ExS.XMk P w K mg base 1 "InvalidRule" CI "word") (c_is_word : Cal P w K mg base 1 "is_word" (spIsWord K) []) (c_are_stuffsA : Cal P w K mg base 4 "are_stuffs" (spAreBad K) []) (c_is_endlessX : Met P w K mg base 4 C "is_endless" (spEndlessX C) []) :
    FnOk P w K mg base (L2.CX P w) 5 f fd ["self", "flag", "stuffs"] (spRuBad K C CI) := by
  refine ExS.fnR F sc_Rule_init (fun vs H Q E h => ?_) (fun cdv A outer s H vs Q E hr h => ?_)
  · obtain ⟨_, _, _, _, _, rfl, _⟩ := h; rfl
  · obtain ⟨a, dx, v, sv, r, rfl, ha, hv, hs, hb, k⟩ := h
    have c_are_stuffs := c_are_stuffsA
    have c_is_endless := c_is_endlessX
    refine ⟨_, (pss_cons (ps_if (PW.pt (pw_or (pt_not (pt_val (pe_c c_is_word hr (by decide) rfl (pa_cons (pv 1) pa_nil)))) (pw_or1 (pt_cmpR op_lt (pe_callB call_len_str (by rfl) T.b_len (by decide +kernel) (pa_cons (pv 1) pa_nil)) pe_int (nomark _))))) (pss_one (ps_raise rfl (takes_of rfl rfl rfl rfl) (ExS.pmk_x x_InvalidRule hr (by decide) rfl (pa_cons pe_str pa_nil)))) pss_nil)
    (pss_cons (ps_if (pt_not (pt_val (pe_c c_are_stuffs hr (by decide) rfl (pa_cons (pv 2) pa_nil)))) (pss_one (ps_raise rfl (takes_of rfl rfl rfl rfl) (ExS.pmk_x x_InvalidRule hr (by decide) rfl (pa_cons pe_str pa_nil)))) pss_nil)
    (pss_cons (ps_fld (pv 0) (pv 1) rfl)
    (pss_cons (ps_fld (pv 0) (pe_callTy call_tuple_of (by rfl) T.b_tuple (by decide +kernel) (pa_cons (pe_callB cr_sortedT (by rfl) T.b_sorted (by decide +kernel) (pa_cons (pv 2) pa_nil)) pa_nil)) rfl)
    (pss_one (ps_if (pt_val (pe_mt0 (pl := _) c_is_endless hr (by decide) (pv 0))) (pss_one (ps_raise rfl (takes_of rfl rfl rfl rfl) (ExS.pmk_x x_InvalidRule hr (by decide) rfl (pa_cons pe_str pa_nil)))) pss_nil)))))), ?_⟩
    refine ⟨_, rfl, ?_⟩
    dsimp only [tNil, List.append_nil]
    refine spIsWord.any hv fun H1 s1 => ⟨_, rfl, ?_⟩
    cases ew : wordB v with
    | false =>
      have ef : flagB v = false := by unfold flagB; rw [ew]; rfl
      rw [ef] at k
      refine iteBT rfl ?_
      exact ExS.rd_x fun d H' s' _ hd => k d H' (fun b o e _ => (s1.trans s') _ _ e) hd
    | true =>
      obtain ⟨fl, rfl⟩ := wordB_some ew
      have hl : (W fl).length ≤ 10000 := by
        rcases hv with ⟨z, ez, hz, _⟩ | ⟨h1, _⟩
        · rw [V.str.inj ez]; exact hz
        · exact absurd rfl (h1 _)
      refine iteBF rfl ?_
      refine ⟨_, rfl, _, rfl, sl_len (by omega), _, _, rfl, rfl, _, rfl, ?_⟩
      by_cases h2 : (W fl).length < 2
      · have ef : flagB (.str (W fl)) = false := by unfold flagB; rw [decide_eq_false (show ¬ 2 ≤ lnV (.str (W fl)) by show ¬ 2 ≤ (W fl).length; omega)]; exact Bool.and_false _
        rw [ef] at k
        refine iteDT (by omega) ?_
        exact ExS.rd_x fun d H' s' _ hd => k d H' (fun b o e _ => (s1.trans s') _ _ e) hd
      refine iteDF (by omega) ?_
      have ef : flagB (.str (W fl)) = true := by unfold flagB; rw [ew, decide_eq_true (show 2 ≤ lnV (.str (W fl)) by show 2 ≤ (W fl).length; omega)]; rfl
      rw [ef] at k
      have hbad := hb.resolve_left (by rw [ef]; decide)
      refine ⟨_, rfl, sv, r, rfl, hs.same s1, hbad, fun H2 s2 => ⟨_, rfl, ?_⟩⟩
      refine iteBT rfl ?_
      exact ExS.rd_x fun d H' s' _ hd => k d H' (fun b o e _ => ((s1.trans s2).trans s') _ _ e) hd
theorem ok_Rule_initA {f C CI : Addr} {fd : FuncData} (F : C8.Fun K "__init__" "Rule.__init__" s_Rule_init f fd) (T : Tx mg) (RT : RuT K C) (x_InvalidRule : ExS.XMk P w K mg base 1 "InvalidRule" CI "word") (c_is_word : Cal P w K mg base 1 "is_word" (spIsWord K) []) (c_are_stuffsA : Cal P w K mg base 4 "are_stuffs" (spAreBad K) []) (c_are_stuffsX : Cal P w K mg base 4 "are_stuffs" (spAreX K) []) (c_is_endlessX : Met P w K mg base 4 C "is_endless" (spEndlessX C) []) :
    FnOk P w K mg base (L2.CX P w) 5 f fd ["self", "flag", "stuffs"] (spRuInitA K C CI) := by
  refine ⟨fun vs H Q E h => ?_, fun A outer s H args us vs Q E hr_ e0 hb r h => ?_⟩
  · obtain ⟨_, _, _, _, _, rfl, _⟩ := h; rfl
  · obtain ⟨a, dx, v, sv, rr, rfl, ha, hv, hl, hs, kE, k⟩ := h
    by_cases bad : flagB v = false ∨ ∀ rs, rr = some rs → rs.all oneG = false
    · refine (ok_Rule_initBad F T RT x_InvalidRule c_is_word c_are_stuffsA c_is_endlessX).run A outer s H args us _ Q E hr_ e0 hb r ⟨a, dx, v, sv, rr, rfl, ha, hv, hs, bad, fun d H' keep hd => kE _ ?_ d H' keep hd⟩
      cases hf : flagB v with
      | false => exact due_flag hf
      | true => exact due_bad hf (bad.resolve_left (by rw [hf]; decide))
    · have hf : flagB v = true := by
        cases hf : flagB v with
        | true => rfl
        | false => exact absurd (.inl hf) bad
      obtain ⟨rs, rfl, hall⟩ : ∃ rs, rr = some rs ∧ rs.all oneG = true := by
        refine Classical.byContradiction fun hn => bad (.inr fun rs e => ?_)
        cases h1 : rs.all oneG with
        | false => rfl
        | true => exact absurd ⟨rs, e, h1⟩ hn
      have hw : wordB v = true := by
        unfold flagB at hf
        rw [Bool.and_eq_true] at hf
        exact hf.1
      have h2 : 2 ≤ lnV v := by
        unfold flagB at hf
        rw [Bool.and_eq_true, decide_eq_true_iff] at hf
        exact hf.2
      obtain ⟨fl, rfl⟩ := wordB_some hw
      have lf : lnV (.str (W fl)) = fl.length := W_len fl
      rw [lf] at h2 hl
      cases hs with
      | @seq sq xs _ hS ln hE =>
        cases hr : allO rs with
        | none =>
          have := allO_none hr
          rw [List.all_eq_true] at hall
          exact nomatch hall _ this
        | some ws =>
          obtain ⟨d1, d2, d3⟩ := due_good (v := .str (W fl)) hf hr
          obtain ⟨ps, rfl, rfl, hW, hB⟩ := seq_stw hE hr
          have em : (ps.map (decH H)).map stO = ps.map (stO ∘ decH H) := List.map_map
          rw [em] at d2 d3
          refine (ok_Rule_initY F T RT x_InvalidRule c_is_word c_are_stuffsX c_is_endlessX).run A outer s H args us _ Q E hr_ e0 hb r ⟨a, dx, sq, fl, ps, decH H, rfl, ha, hS, hW, by rw [List.length_map] at ln; exact ln, hB, hl, fun h => absurd h (by omega), fun _ h1 d H' keep hd => kE _ (d1 h1) d H' keep hd, fun _ h1 hO H' ss keep pm srt hR => k (d2 h1 hO) H' keep, fun _ h1 hO d H' keep hd => kE _ (d3 h1 hO) d H' keep hd⟩
end
end U
set_option maxRecDepth 100000
set_option maxHeartbeats 4000000
namespace U
open PySem PySem.Spec PyProof.Rows
open L2 hiding Fun CX0 E0 pass0 Fun.binds
open C8 Lx SX
def spWordF : Sp := fun vs H Q _ => ∃ (b : Addr) (few many : Nat), vs = [.ref b, .int few, .int many] ∧ Box H b ∧ few ≤ many ∧ many < 1000 ∧
  ∀ (l : List Bool) H', few ≤ l.length → l.length ≤ many → Up b H H' → Q (.str (W l)) H'
section
variable {P : Program} {w : World} {K : PySem.W.Frag} {mg : Str → Option Value} {base : Heap}
theorem sc_l_word : FnScope ["_law_box", "_law_few", "_law_many", "_law_turn"] ["_law_box", "_law_few", "_law_many"] (fnScope s_l_word) := fnScope_by (by decide +kernel)
theorem cal_l_word {f : Addr} {fd : FuncData} (F : Def K mg "_law_word" s_l_word f fd) (b : Binds K fd ["_law_box", "_law_few", "_law_many"] []) (T : Tx mg)
    (c_l_choose : Cal P w K mg base 1 "_law_choose" spChoose []) (c_l_one_of : Cal P w K mg base 2 "_law_one_of" spOneOf []) : Cal P w K mg base 3 "_law_word" spWordF [] := by
  refine cal0 F b .nil sc_l_word (fun vs H Q E h => ?_) (fun cdv A outer s H vs Q E hr h => ?_)
  · obtain ⟨_, _, _, rfl, _⟩ := h; rfl
  · obtain ⟨bx, few, many, rfl, hb, h1, h2, k⟩ := h
    refine ⟨_, (pss_one (ps_ret (pe_join pe_str (pe_lc (own := [("_law_turn", 3)]) (g := gName 3) (by rfl) sc_l_word.nd (pi_range1 (by rfl) T.b_range (pa_cons (pe_op op_add (pv 1) (pe_c c_l_choose hr (by decide) rfl (pa_cons (pv 0) (pa_cons (pe_op op_add (pe_op op_sub (pv 2) (pv 1)) pe_int) pa_nil)))) pa_nil)) (blkOk_by (own := [("_law_turn", 3)]) (N := ["_law_box", "_law_few", "_law_many", "_law_turn"]) (sc := fnScope s_l_word) (by decide +kernel)) (fun _ _ _ _ _ => (pg_name (i := 3) sc_l_word.nd rfl (.inl rfl))) (fun _ _ _ _ _ => pts_nil) (fun _ _ _ _ _ => (pe_c c_l_one_of hr (by decide) rfl (pa_cons (pv 0) (pa_cons (pe_lst (pa_cons pe_str (pa_cons pe_str pa_nil))) pa_nil)))))))), ?_⟩
    refine ⟨⟨_, rfl⟩, ?_⟩
    refine ⟨_, rfl, _, rfl, _, rfl, _, rfl, _, _, rfl, rfl, _, _, rfl, rfl, bx, _, rfl, hb, (by omega), (by omega), fun d H1 d0 d1 u1 => ?_⟩
    refine ⟨_, _, rfl, rfl, _, rfl, by omega, by omega, fun D nD => ?_⟩
    have nb : D ≠ bx := u1.2.ne nD
    refine lc_it (walk_range (lo := 0) (n := ((few : Int) + d).toNat)) (fun i H2 => ∃ l : List Bool, l.length = i ∧ Up bx H H2 ∧ H2 D = some (.lst (bitsV l)))
      ⟨[], rfl, u1.mut (u1.free nD) nb, upd_same⟩ (fun _ _ _ _ => trivial) ?_ ?_
    · rintro i x H2 H3 hi ⟨l, rfl, u2, hD⟩ ⟨rfl, rfl⟩
      refine ⟨rfl, ?_⟩
      refine ⟨_, rfl, by show 2 ≤ sizeLine; decide, fun p hp => ?_⟩
      have np : p ≠ bx := u2.2.ne hp
      refine ⟨bx, p, _, rfl, u2.2.same (same_upd hp), upd_same, np, by decide, by decide, fun v H4 hv u4 => ?_⟩
      obtain ⟨b, rfl⟩ := mem2 hv
      have hD4 : H4 D = some (.lst (bitsV l)) := u4.1 _ _ (same_upd hp _ _ hD) nb
      refine ⟨_, hD4, ?_, l ++ [b], by simp, ?_, ?_⟩
      · unfold bitsV; rw [List.length_map, List.length_map]; exact sl_lt (by omega)
      · exact ((u2.same (same_upd hp)).trans u4).mut (u1.free nD) nb
      · rw [upd_same]; unfold bitsV; simp
    · rintro H2 ⟨l, hl, u2, hD⟩
      refine ⟨_, D, l.map fun b => W [b], rfl, rfl, .inl (SqL.of hD), ?_, ?_⟩
      · rw [lens_bits]
        have e0 : ("" : Str).length = 0 := by decide +kernel
        rw [e0]; omega
      · show Q (.str (Txt.join "" (l.map fun b => W [b]))) H2
        rw [join_bits]
        exact k l H2 (by omega) (by omega) u2
end
end U
set_option maxRecDepth 100000
set_option maxHeartbeats 4000000
namespace U
open PySem PySem.Spec PyProof.Rows
open L2 hiding Fun CX0 E0 pass0 Fun.binds
open C8 Lx SX StX
def Told (H : Hp) (t : Addr) (f : List Bool) (ss : List Stf) : Prop := ∃ l ps kb, H t = some (.tup [.str (W f), .ref l]) ∧ H l = some (.lst (ps.map V.ref)) ∧ StV H kb ps ∧ ss = ps.map kb
theorem Told.same {H H' : Hp} {t : Addr} {f : List Bool} {ss : List Stf} (h : Told H t f ss) (e : Same H H') : Told H' t f ss := by
  obtain ⟨l, ps, kb, h1, h2, h3, h4⟩ := h
  exact ⟨l, ps, kb, e _ _ h1, e _ _ h2, h3.same e, h4⟩
theorem refs_ne {ps : List Addr} {i j : Int} : ps.map V.ref ≠ [.int i, .int j] := fun z => by
  cases ps with
  | nil => cases z
  | cons p r => cases (List.cons.inj z).1
theorem Box.neL {H : Hp} {b l : Addr} {ps : List Addr} (hb : Box H b) (h : H l = some (.lst (ps.map V.ref))) : l ≠ b := fun z => by
  obtain ⟨i, j, hb⟩ := hb
  rw [z, hb] at h
  exact refs_ne (HO.lst.inj (Option.some.inj h)).symm
theorem Told.up {b : Addr} {H H' : Hp} {t : Addr} {f : List Bool} {ss : List Stf} (hb : Box H b) (h : Told H t f ss) (e : Up b H H') : Told H' t f ss := by
  obtain ⟨l, ps, kb, h1, h2, h3, h4⟩ := h
  exact ⟨l, ps, kb, e.1 _ _ h1 (hb.neT h1), e.1 _ _ h2 (hb.neL h2), fun t ht => e.1 _ _ (h3 t ht) (hb.neT (h3 t ht)), h4⟩
theorem RuAt.up {C b : Addr} {H H' : Hp} {a : Addr} {f : List Bool} {ss : List Stf} (hb : Box H b) (h : RuAt C H a f ss) (e : Up b H H') : RuAt C H' a f ss := h.nl (e.nl hb)
def putL (ss : List Stf) (l : List Bool) : List Bool := match putM ss l with
  | none => []
  | some b => [b]
theorem putL_len (ss : List Stf) (l : List Bool) : (putL ss l).length ≤ 1 := by unfold putL; cases putM ss l <;> simp
theorem stP_eq (ss : List Stf) (l : List Bool) : stP ss l = l ++ putL ss l := by
  unfold stP putL
  cases putM ss l with
  | none => rw [List.append_nil]
  | some b => rfl
theorem putL_head {ss : List Stf} {l : List Bool} : putM ss l = ((ss.filter fun s => s.1.isSuffixOf l).map (·.2)).head? := by
  unfold putM
  rw [List.head?_map, List.head?_filter]
def dS (x : List Bool) : PyData := .str (W x)
theorem dp_strs {K : PySem.W.Frag} {H : Hp} : ∀ xs : List (List Bool), DpAll K H (xs.map fun x => V.str (W x)) (xs.map dS)
  | [] => .nil
  | x :: r => .cons (.str _) (dp_strs r)
theorem strOk_W (x : List Bool) : PyData.strOk (W x) = true := by
  unfold PyData.strOk
  simp only [W, S, List.all_toArray, List.all_map, List.all_eq_true]
  intro b _
  cases b <;> decide +kernel
def DOk (n : Nat) (d : PyData) : Prop := PyData.canLay0 d = true ∧ PyData.depth d ≤ n
theorem dok_str (x : List Bool) : DOk 0 (.str (W x)) := ⟨strOk_W x, Nat.le_refl _⟩
theorem dok_all {n : Nat} : ∀ {ds : List PyData}, (∀ d ∈ ds, DOk n d) → PyData.canLayAll0 ds = true ∧ PyData.depthAll ds ≤ n
  | [], _ => ⟨rfl, Nat.zero_le _⟩
  | d :: r, h => by
    have h1 := h d List.mem_cons_self
    have h2 := dok_all (ds := r) fun d hd => h d (List.mem_cons_of_mem _ hd)
    refine ⟨?_, ?_⟩
    · show (PyData.canLay0 d && PyData.canLayAll0 r) = true
      rw [h1.1, h2.1]; rfl
    · show max (PyData.depth d) (PyData.depthAll r) ≤ n
      have := h1.2; have := h2.2; omega
theorem dok_list {n : Nat} {ds : List PyData} (h : ∀ d ∈ ds, DOk n d) : DOk (n + 1) (.list ds) := ⟨(dok_all h).1, Nat.succ_le_succ (dok_all h).2⟩
theorem dok_tup {n : Nat} {ds : List PyData} (h : ∀ d ∈ ds, DOk n d) : DOk (n + 1) (.tuple ds) := ⟨(dok_all h).1, Nat.succ_le_succ (dok_all h).2⟩
theorem DOk.shaped {n : Nat} {d : PyData} (h : DOk n d) (hn : n ≤ 64) : SeqAt.shaped d = true := by
  unfold SeqAt.shaped
  rw [h.1, decide_eq_true (Nat.le_trans h.2 hn)]
  rfl
theorem shaped_strs (xs : List (List Bool)) : SeqAt.shaped (.list (xs.map dS)) = true := (dok_list (n := 0) fun d hd => by
  obtain ⟨x, _, rfl⟩ := List.mem_map.mp hd
  exact dok_str x).shaped (by decide)
theorem shaped_nil : SeqAt.shaped (.list []) = true := by decide +kernel
theorem eqv_nil (ds : List PyData) : PyData.eqv (.list ds) (.list []) = ds.isEmpty := by cases ds <;> rfl
end U
set_option maxRecDepth 100000
set_option maxHeartbeats 4000000
namespace U
open PySem PySem.Spec PyProof.Rows
open L2 hiding Fun CX0 E0 pass0 Fun.binds
open C8 Lx SX StX
def spLPut : Sp := fun vs H Q _ => ∃ (t : Addr) (f l : List Bool) (ss : List Stf), vs = [.ref t, .str (W l)] ∧ Told H t f ss ∧ l.length ≤ 50000 ∧ ss.length ≤ 1000 ∧ (∀ s ∈ ss, s.1.length ≤ 1000) ∧ ∀ H', Same H H' → Q (.str (W (putL ss l))) H'
def spIsRule : Sp := fun vs H Q _ => ∃ (t : Addr) (f : List Bool) (ss : List Stf), vs = [.ref t] ∧ Told H t f ss ∧ ss.length ≤ 1000 ∧ (∀ s ∈ ss, s.1.length ≤ 5) ∧ ∀ r H', Same H H' → (r = true → SufFree ss ∧ OkS ss) → (r = false → ss.length ≤ 2 → SufFree ss → OkR ss → False) → Q (.bl r) H'
def Cls1 (ss : List Stf) (kn : List (List Bool)) (w : List Bool) (b : Bool) : Prop := (itP ss 24 (w ++ [b])).length ≤ w.length + 20 ∧ tl 5 (itP ss 24 (w ++ [b])) ∈ kn
theorem Cls1.more {ss : List Stf} {kn : List (List Bool)} {w u : List Bool} {b : Bool} (h : Cls1 ss kn w b) : Cls1 ss (kn ++ [u]) w b := ⟨h.1, List.mem_append_left _ h.2⟩
def RchT (ss : List Stf) (u : List Bool) : Prop := ∃ l, Reach ss l ∧ u = tl 5 l
theorem RchT.nil {ss : List Stf} : RchT ss [] := ⟨[], .nil, rfl⟩
theorem RchT.step {ss : List Stf} (hL : ∀ s ∈ ss, s.1.length ≤ 5) {w : List Bool} {b : Bool} (h : RchT ss w) (hl : (itP ss 24 (w ++ [b])).length ≤ w.length + 20) : RchT ss (tl 5 (itP ss 24 (w ++ [b]))) := by
  obtain ⟨l, r, rfl⟩ := h
  rcases itP_or ss 24 (tl 5 l ++ [b]) with c | ⟨x, hx, e⟩
  · rw [List.length_append] at c
    have : [b].length = 1 := rfl
    omega
  · have et : tl 5 (tl 5 l ++ [b]) = tl 5 (l ++ [b]) := tl_app (tl_tl (Nat.le_refl _) _) [b]
    refine ⟨l ++ [b] ++ x, .next r (hx.tl hL et), ?_⟩
    rw [e]
    exact tl_app et x
theorem RchT.short {ss : List Stf} (hL : ∀ s ∈ ss, s.1.length ≤ 5) (sf : SufFree ss) (h2 : ss.length ≤ 2) (o : OkR ss) {w : List Bool} (h : RchT ss w) (b : Bool) : (itP ss 24 (w ++ [b])).length ≤ w.length + 20 := by
  obtain ⟨l, r, rfl⟩ := h
  obtain ⟨x, hx⟩ := o l r b
  have et : tl 5 (l ++ [b]) = tl 5 (tl 5 l ++ [b]) := tl_app (tl_tl (Nat.le_refl _) _).symm [b]
  have hx2 := hx.tl hL et
  have l3 := chain3 sf h2 hx2
  rw [hx2.itP, List.length_append, List.length_append, List.length_take]
  have : [b].length = 1 := rfl
  omega
theorem suf_no {ss : List Stf} (sf : SufFree ss) {i j : Nat} (ij : i ≠ j) {a b : Stf} (ha : ss[i]? = some a) (hb : ss[j]? = some b) (h : b.1.isSuffixOf a.1 = true) : False := by
  unfold SufFree at sf
  rw [List.pairwise_iff_getElem] at sf
  have hs := List.isSuffixOf_iff_suffix.mp h
  obtain ⟨hi, ei⟩ := List.getElem?_eq_some_iff.mp ha
  obtain ⟨hj, ej⟩ := List.getElem?_eq_some_iff.mp hb
  rcases Nat.lt_or_gt_of_ne ij with c | c
  · have := (sf i j hi hj c).2
    rw [ei, ej] at this
    exact this hs
  · have := (sf j i hj hi c).1
    rw [ei, ej] at this
    exact this hs
structure Dfs (ss : List Stf) (H H2 : Hp) (q d : Addr) (kn wt : List (List Bool)) : Prop where
  same : Same H H2
  wait : H2 q = some (.lst (wt.map fun w => V.str (W w)))
  known : H2 d = some (.dK (kst kn))
  nodup : kn.Nodup
  short : ∀ w ∈ kn, w.length ≤ 5
  sub : ∀ w ∈ wt, w ∈ kn
  nil : [] ∈ kn
  le : wt.length ≤ kn.length
theorem Dfs.on {ss : List Stf} {H H2 H3 : Hp} {q d : Addr} {kn wt : List (List Bool)} (b : Dfs ss H H2 q d kn wt) (s : Same H2 H3) : Dfs ss H H3 q d kn wt :=
  ⟨b.same.trans s, s _ _ b.wait, s _ _ b.known, b.nodup, b.short, b.sub, b.nil, b.le⟩
theorem Dfs.few {ss : List Stf} {H H2 : Hp} {q d : Addr} {kn wt : List (List Bool)} (b : Dfs ss H H2 q d kn wt) : kn.length ≤ 63 := by
  have := words_le b.nodup b.short
  have e : (2 : Nat) ^ (5 + 1) = 64 := by decide
  omega
theorem sufFree_of {ss : List Stf} (h : ∀ (i j : Nat) (a b : Stf), i ≠ j → ss[i]? = some a → ss[j]? = some b → b.1.isSuffixOf a.1 = false) : SufFree ss := by
  unfold SufFree
  rw [List.pairwise_iff_getElem]
  intro i j hi hj hij
  have e1 := h i j _ _ (by omega) (List.getElem?_eq_getElem hi) (List.getElem?_eq_getElem hj)
  have e2 := h j i _ _ (by omega) (List.getElem?_eq_getElem hj) (List.getElem?_eq_getElem hi)
  refine ⟨fun z => ?_, fun z => ?_⟩
  · rw [List.isSuffixOf_iff_suffix.mpr z] at e2; cases e2
  · rw [List.isSuffixOf_iff_suffix.mpr z] at e1; cases e1
section
variable {P : Program} {w : World} {K : PySem.W.Frag} {mg : Str → Option Value} {base : Heap}
theorem sc_l_put : FnScope ["_law_rule_here", "_law_line", "_law_some", "_law_pattern", "_law_bit"] ["_law_rule_here", "_law_line"] (fnScope s_l_put) := fnScope_by (by decide +kernel)
theorem cal_l_put {f : Addr} {fd : FuncData} (F : Def K mg "_law_put" s_l_put f fd) (b : Binds K fd ["_law_rule_here", "_law_line"] []) (T : Tx mg) : Cal P w K mg base 1 "_law_put" spLPut [] := by
  refine cal0 F b .nil sc_l_put (fun vs H Q E h => ?_) (fun cdv A outer s H vs Q E hr h => ?_)
  · obtain ⟨_, _, _, _, rfl, _⟩ := h; rfl
  · obtain ⟨t, fl, l, ss, rfl, ⟨r, ps, kb, ht, hl, hs, rfl⟩, h1, h2, h3, k⟩ := h
    refine ⟨_, (pss_cons (ps_setLc (i := 2) (own := [("_law_pattern", 3), ("_law_bit", 4)]) (g := gTup K 2 (gCons (gName 3) (gCons (gName 4) gNil))) (by rfl) sc_l_put.nd rfl rfl (sw_true rfl rfl rfl (by decide +kernel)) (pi_list (pe_ix ix_tup (pv 0) pe_int (fun _ _ => rfl))) (blkOk_by (own := [("_law_pattern", 3), ("_law_bit", 4)]) (N := ["_law_rule_here", "_law_line", "_law_some", "_law_pattern", "_law_bit"]) (sc := fnScope s_l_put) (by decide +kernel)) (fun _ _ _ _ _ => (pg_tup rfl (pgs_cons (pg_name (i := 3) sc_l_put.nd rfl (.inl rfl)) (pgs_cons (pg_name (i := 4) sc_l_put.nd rfl (.inl rfl)) pgs_nil)))) (fun _ _ _ _ _ => (pts_one (pt_cmpR op_eq (pe_slice sl_txt (pv 1) (po_some (pe_callB (call_max2 rfl) (by rfl) T.b_max (by decide +kernel) (pa_cons pe_int (pa_cons (pe_op op_sub (pe_callB call_len_str (by rfl) T.b_len (by decide +kernel) (pa_cons (pv 1) pa_nil)) (pe_callB call_len_str (by rfl) T.b_len (by decide +kernel) (pa_cons (pv 3) pa_nil))) pa_nil)))) po_none) (pv 3) (nomark _)))) (fun _ _ _ _ _ => (pv 4)))
    (pss_one (ps_ret (pe_ifExp (pt_cmpR (op_neD hr.units) (pv 2) (pe_lst pa_nil) (nomark _)) (pe_ix ix_list (pv 2) pe_int (fun _ _ => rfl)) pe_str)))), ?_⟩
    have lw : (W l).length ≤ sizeLine := by rw [W_len]; exact sl_len (by omega)
    refine ⟨_, rfl, t, _, 1, _, rfl, rfl, SqT.of ht, rfl, r, rfl, ⟨_, SqL.of hl⟩, fun D nD => ?_⟩
    refine lc_it (walk_list (xs := ps.map V.ref)) (fun i H2 => Same H H2 ∧ H2 D = some (.lst (((((ps.take i).map kb).filter fun s => s.1.isSuffixOf l).map fun s => [s.2]).map fun x => V.str (W x)))) ⟨same_upd nD, upd_same⟩ (fun i H2 _ h2 => h2.1.seq (SqL.of hl)) ?_ ?_
    · rintro i x H2 H3 hi ⟨s2, hD⟩ ⟨rfl, hx⟩
      rw [List.getElem?_map] at hx
      obtain ⟨q, hq, rfl⟩ := Option.map_eq_some_iff.mp hx
      have hqm : q ∈ ps := List.mem_of_getElem? hq
      have lq : (W (kb q).1).length ≤ sizeLine := by rw [W_len]; exact sl_len (Nat.le_trans (h3 _ (List.mem_map_of_mem hqm)) (by decide))
      refine ⟨q, _, rfl, SqT.of (s2 _ _ (hs q hqm)), rfl, _, _, rfl, _, _, rfl, rfl, rfl, ?_⟩
      refine ⟨_, rfl, _, rfl, _, rfl, lw, _, rfl, _, rfl, lq, _, _, rfl, rfl, _, _, rfl, _, rfl, _, rfl, lw, _, rfl, rfl, _, rfl, ?_⟩
      rw [W_tail, W_len (kb q).1]
      have et : (ps.take (i + 1)).map kb = (ps.take i).map kb ++ [kb q] := by rw [List.take_add_one, hq, List.map_append]; rfl
      by_cases c : (kb q).1.isSuffixOf l = true
      · refine iteDT (by rw [← suf_iff.mp c]) ?_
        refine ⟨_, rfl, _, hD, ?_, ?_, ?_⟩
        · rw [List.length_map, List.length_map]
          refine sl_lt (Nat.lt_of_le_of_lt (List.length_filter_le _ _) ?_)
          rw [List.length_map, List.length_take]
          rw [List.length_map] at h2
          omega
        · intro c' o e
          rw [upd_ne (ne_of_none e nD)]
          exact s2 _ _ e
        · rw [upd_same, et, List.filter_append, List.map_append, List.map_append, List.filter_cons_of_pos (p := fun s : Stf => s.1.isSuffixOf l) c]
          rfl
      · refine iteDF (fun z => c (suf_iff.mpr (W_inj (V.str.inj z)).symm)) ?_
        refine ⟨s2, ?_⟩
        rw [hD, et, List.filter_append, List.filter_cons_of_neg (p := fun s : Stf => s.1.isSuffixOf l) c, List.filter_nil, List.append_nil]
    · rintro H2 ⟨s2, hD⟩
      rw [List.length_map, List.take_length] at hD
      refine ⟨_, rfl, Nat.zero_le _, fun p hp => ?_⟩
      have hp2 := putL_head (ss := ps.map kb) (l := l)
      have hD2 : upd H2 p (.lst []) D = some (.lst ((((ps.map kb).filter fun s => s.1.isSuffixOf l).map fun s => [s.2]).map fun x => V.str (W x))) := same_upd hp _ _ hD
      have s3 := s2.trans (same_upd (o := .lst []) hp)
      refine ⟨.list ((((ps.map kb).filter fun s => s.1.isSuffixOf l).map fun s => [s.2]).map dS), .list [], .lst (SqL.of hD2) (dp_strs _), .lst (SqL.of upd_same) .nil, shaped_strs _, shaped_nil, _, rfl, ?_⟩
      rw [eqv_nil]
      have k3 := k _ s3
      unfold putL at k3
      rw [hp2] at k3
      generalize (ps.map kb).filter (fun s => s.1.isSuffixOf l) = fs at hD2 k3
      cases fs with
      | nil =>
        show Q (.str "") _
        rw [W_nil]
        exact k3
      | cons x r =>
        exact ⟨_, rfl, D, _, 0, .str (W [x.2]), rfl, rfl, SqL.of hD2, atI_nat (j := 0) rfl, k3⟩
end
end U
set_option maxRecDepth 100000
set_option maxHeartbeats 4000000
namespace U
open PySem PySem.Spec PyProof.Rows
open L2 hiding Fun CX0 E0 pass0 Fun.binds
open C8 Lx SX StX
theorem W_tail5 (l : List Bool) : Txt.slice (W l) (some (if (((W l).length : Nat) : Int) - 5 > 0 then (((W l).length : Nat) : Int) - 5 else 0)) none = W (tl 5 l) := W_tail l 5
theorem pop_end {wt : List (List Bool)} {w : List Bool} : ((wt ++ [w]).map fun w => V.str (W w))[((wt ++ [w]).map fun w => V.str (W w)).length - 1]? = some (.str (W w)) := by
  rw [List.length_map, List.length_append, List.getElem?_map, List.length_cons, List.length_nil, List.getElem?_append_right (by omega), show wt.length + (0 + 1) - 1 - wt.length = 0 by omega]
  rfl
theorem pop_rest {wt : List (List Bool)} {w : List Bool} : ((wt ++ [w]).map fun w => V.str (W w)).dropLast = wt.map fun w => V.str (W w) := by
  rw [List.map_append]
  exact List.dropLast_concat
section
variable {P : Program} {w : World} {K : PySem.W.Frag} {mg : Str → Option Value} {base : Heap}
theorem sc_l_is_rule : FnScope ["_law_rule_here", "_law_names", "_law_pattern", "_law_bit", "_law_at", "_law_one", "_law_spot", "_law_other_one", "_law_known", "_law_waiting", "_law_behind", "_law_line", "_law_turn", "_law_there"] ["_law_rule_here"] (fnScope s_l_is_rule) := fnScope_by (by decide +kernel)
theorem cal_l_is_rule {f : Addr} {fd : FuncData} (F : Def K mg "_law_is_rule" s_l_is_rule f fd) (b : Binds K fd ["_law_rule_here"] []) (T : Tx mg) (c_l_put : Cal P w K mg base 1 "_law_put" spLPut []) : Cal P w K mg base 2 "_law_is_rule" spIsRule [] := by
  refine cal0 F b .nil sc_l_is_rule (fun vs H Q E h => ?_) (fun cdv A outer s H vs Q E hr h => ?_)
  · obtain ⟨_, _, _, rfl, _⟩ := h; rfl
  · obtain ⟨t, fl, ss, rfl, htold, h2, h3, k⟩ := h
    refine ⟨_, (pss_cons (ps_setLc (i := 1) (own := [("_law_pattern", 2), ("_law_bit", 3)]) (g := gTup K 2 (gCons (gName 2) (gCons (gName 3) gNil))) (by rfl) sc_l_is_rule.nd rfl rfl (sw_true rfl rfl rfl (by decide +kernel)) (pi_list (pe_ix ix_tup (pv 0) pe_int (fun _ _ => rfl))) (blkOk_by (own := [("_law_pattern", 2), ("_law_bit", 3)]) (N := ["_law_rule_here", "_law_names", "_law_pattern", "_law_bit", "_law_at", "_law_one", "_law_spot", "_law_other_one", "_law_known", "_law_waiting", "_law_behind", "_law_line", "_law_turn", "_law_there"]) (sc := fnScope s_l_is_rule) (by decide +kernel)) (fun _ _ _ _ _ => (pg_tup rfl (pgs_cons (pg_name (i := 2) sc_l_is_rule.nd rfl (.inl rfl)) (pgs_cons (pg_name (i := 3) sc_l_is_rule.nd rfl (.inl rfl)) pgs_nil)))) (fun _ _ _ _ _ => pts_nil) (fun _ _ _ _ _ => (pv 2)))
    (pss_cons (ps_for PassesOwn.never rfl (pi_enum (by rfl) T.b_enumerate (pa_cons (pv 1) pa_nil)) (pg_tup rfl (pgs_cons (pg_name (i := 4) sc_l_is_rule.nd rfl (.inl rfl)) (pgs_cons (pg_name (i := 5) sc_l_is_rule.nd rfl (.inl rfl)) pgs_nil)))
    (pss_one (ps_for PassesOwn.never rfl (pi_enum (by rfl) T.b_enumerate (pa_cons (pv 1) pa_nil)) (pg_tup rfl (pgs_cons (pg_name (i := 6) sc_l_is_rule.nd rfl (.inl rfl)) (pgs_cons (pg_name (i := 7) sc_l_is_rule.nd rfl (.inl rfl)) pgs_nil)))
    (pss_one (ps_if (PW.pt (pw_and (pt_cmpR op_ne (pv 4) (pv 6) (nomark _)) (pw_and1 (pt_val (pe_m1 PySem.F.slot_str_endswith PySem.F.type_str_endswith mt_endswith (pv 5) (pv 7)))))) (pss_one (ps_ret pe_bl)) pss_nil)))))
    (pss_cons (ps_par (i := 8) (j := 9) (by rfl) sc_l_is_rule.nd rfl rfl (by decide) rfl rfl (pa_cons (pe_disp (pps_cons pe_str pe_bl pps_nil) (by rfl) (by rfl) (fun z => by cases z) (by decide)) (pa_cons (pe_lst (pa_cons pe_str pa_nil)) pa_nil)) (by rfl))
    (pss_cons (ps_while PassesOwn.never (pt_cmpR (op_neD hr.units) (pv 9) (pe_lst pa_nil) (nomark _))
    (pss_cons (ps_set (i := 10) sc_l_is_rule.nd rfl (.inl rfl) (pe_bm0 PySem.F.plainAttrs_list PySem.F.slot_list_pop PySem.F.type_list_pop mt_pop (pv 9)))
    (pss_one (ps_for PassesOwn.never rfl (pi_str pe_str) (pg_name (i := 3) sc_l_is_rule.nd rfl (.inl rfl))
    (pss_cons (ps_set (i := 11) sc_l_is_rule.nd rfl (.inl rfl) (pe_op op_add_str (pv 10) (pv 3)))
    (pss_cons (ps_for PassesOwn.never rfl (pi_range1 (by rfl) T.b_range (pa_cons pe_int pa_nil)) (pg_name (i := 12) sc_l_is_rule.nd rfl (.inl rfl))
    (pss_one (ps_set (i := 11) sc_l_is_rule.nd rfl (.inl rfl) (pe_op op_add_str (pv 11) (pe_c c_l_put hr (by decide) rfl (pa_cons (pv 0) (pa_cons (pv 11) pa_nil)))))))
    (pss_cons (ps_if (pt_cmpR op_gt (pe_callB call_len_str (by rfl) T.b_len (by decide +kernel) (pa_cons (pv 11) pa_nil)) (pe_op op_add (pe_callB call_len_str (by rfl) T.b_len (by decide +kernel) (pa_cons (pv 10) pa_nil)) pe_int) (nomark _)) (pss_one (ps_ret pe_bl)) pss_nil)
    (pss_cons (ps_set (i := 13) sc_l_is_rule.nd rfl (.inl rfl) (pe_slice sl_txt (pv 11) (po_some (pe_callB (call_max2 rfl) (by rfl) T.b_max (by decide +kernel) (pa_cons pe_int (pa_cons (pe_op op_sub (pe_callB call_len_str (by rfl) T.b_len (by decide +kernel) (pa_cons (pv 11) pa_nil)) pe_int) pa_nil)))) po_none))
    (pss_one (ps_if (pt_cmp (pc_dnotin (hu_of hr) (pv 13) (pv 8))) (pss_cons (ps_dput (hu_of hr) (pv 8) (pv 13) pe_bl rfl)
    (pss_one (ps_expr (pe_bm PySem.F.plainAttrs_list PySem.F.slot_list_append PySem.F.type_list_append mt_append (pv 9) (pa_cons (pv 13) pa_nil))))) pss_nil))))))))))
    (pss_one (ps_ret pe_bl)))))), ?_⟩
    obtain ⟨r, ps, kb, ht, hl, hs, hss⟩ := id htold
    have lss : ss.length = ps.length := by rw [hss, List.length_map]
    refine ⟨_, rfl, t, _, 1, _, rfl, rfl, SqT.of ht, rfl, r, rfl, ⟨_, SqL.of hl⟩, fun D nD => ?_⟩
    refine lc_it (walk_list (xs := ps.map V.ref)) (fun i H2 => Same H H2 ∧ H2 D = some (.lst ((ss.take i).map fun s => V.str (W s.1)))) ⟨same_upd nD, upd_same⟩ (fun i H2 _ h2 => h2.1.seq (SqL.of hl)) ?_ ?_
    · rintro i x H2 H3 hi ⟨s2, hD⟩ ⟨rfl, hx⟩
      rw [List.getElem?_map] at hx
      obtain ⟨q, hq, rfl⟩ := Option.map_eq_some_iff.mp hx
      have hqm : q ∈ ps := List.mem_of_getElem? hq
      have hsi : ss[i]? = some (kb q) := by rw [hss, List.getElem?_map, hq]; rfl
      rw [List.length_map] at hi
      refine ⟨q, _, rfl, SqT.of (s2 _ _ (hs q hqm)), rfl, _, _, rfl, _, _, rfl, rfl, rfl, ?_⟩
      refine ⟨_, rfl, _, hD, ?_, ?_, ?_⟩
      · rw [List.length_map, List.length_take]; exact sl_lt (by omega)
      · intro c' o e
        rw [upd_ne (ne_of_none e nD)]
        exact s2 _ _ e
      · rw [upd_same, List.take_add_one, hsi, List.map_append]; rfl
    · rintro H2 ⟨s2, hD⟩
      rw [List.length_map, ← lss, List.take_length] at hD
      have at' : ∀ {i : Nat} {y : V}, (ss.map fun s => V.str (W s.1))[i]? = some y → ∃ a, ss[i]? = some a ∧ y = .str (W a.1) := fun {i y} h => by
        rw [List.getElem?_map] at h
        obtain ⟨a, ha, e⟩ := Option.map_eq_some_iff.mp h
        exact ⟨a, ha, e.symm⟩
      refine ⟨_, rfl, D, _, rfl, SqL.of hD, ?_⟩
      refine for_it walk_enum (fun i σ H3 => ∃ v2 v3 v4 v5 v6 v7 v8 v9 v10 v11 v12 v13 : Option V, σ = [some (.ref t), some (.ref D), v2, v3, v4, v5, v6, v7, v8, v9, v10, v11, v12, v13] ∧ Same H H3 ∧ H3 D = some (.lst (ss.map fun s => V.str (W s.1))) ∧ ∀ (i' j : Nat) (a b : Stf), i' < i → i' ≠ j → ss[i']? = some a → ss[j]? = some b → b.1.isSuffixOf a.1 = false)
        ⟨none, none, none, none, none, none, none, none, none, none, none, none, rfl, s2, hD, fun i' j a b h => absurd h (Nat.not_lt_zero _)⟩ (fun i σ H3 _ h3 => by obtain ⟨_, _, _, _, _, _, _, _, _, _, _, _, _, _, h, _⟩ := h3; exact SqL.of h) ?_ ?_
      · rintro i x σ H3 H3' hi ⟨v2, v3, v4, v5, v6, v7, v8, v9, v10, v11, v12, v13, rfl, s3, hD3, hno⟩ ⟨T', y1, y2, rfl, nT, rfl, e1, e2⟩
        cases e1
        obtain ⟨a, ha, rfl⟩ := at' e2
        refine ⟨T', _, rfl, SqT.of upd_same, rfl, _, _, rfl, _, _, rfl, rfl, ?_⟩
        have s4 : Same H (upd H3 T' (.tup [.int (i : Nat), .str (W a.1)])) := s3.trans (same_upd nT)
        have hD4 : upd H3 T' (.tup [.int (i : Nat), .str (W a.1)]) D = some (.lst (ss.map fun s => V.str (W s.1))) := same_upd nT _ _ hD3
        generalize upd H3 T' (.tup [.int (i : Nat), .str (W a.1)]) = H4 at s4 hD4
        refine ⟨_, rfl, D, _, rfl, SqL.of hD4, ?_⟩
        refine for_it walk_enum (fun j σ H5 => ∃ v2 v3 v6 v7 v8 v9 v10 v11 v12 v13 : Option V, σ = [some (.ref t), some (.ref D), v2, v3, some (.int (i : Nat)), some (.str (W a.1)), v6, v7, v8, v9, v10, v11, v12, v13] ∧ Same H H5 ∧ H5 D = some (.lst (ss.map fun s => V.str (W s.1))) ∧ ∀ (j' : Nat) (b : Stf), j' < j → i ≠ j' → ss[j']? = some b → b.1.isSuffixOf a.1 = false)
          ⟨_, _, _, _, _, _, _, _, _, _, rfl, s4, hD4, fun j' b h => absurd h (Nat.not_lt_zero _)⟩ (fun i σ H3 _ h3 => by obtain ⟨_, _, _, _, _, _, _, _, _, _, _, _, h, _⟩ := h3; exact SqL.of h) ?_ ?_
        · rintro j x σ H5 H5' hj ⟨v2, v3, v6, v7, v8, v9, v10, v11, v12, v13, rfl, s5, hD5, hno5⟩ ⟨T2, y1, y2, rfl, nT2, rfl, e1, e2⟩
          cases e1
          obtain ⟨b', hb', rfl⟩ := at' e2
          refine ⟨T2, _, rfl, SqT.of upd_same, rfl, _, _, rfl, _, _, rfl, rfl, ?_⟩
          have s6 : Same H (upd H5 T2 (.tup [.int (j : Nat), .str (W b'.1)])) := s5.trans (same_upd nT2)
          have hD6 : upd H5 T2 (.tup [.int (j : Nat), .str (W b'.1)]) D = some (.lst (ss.map fun s => V.str (W s.1))) := same_upd nT2 _ _ hD5
          generalize upd H5 T2 (.tup [.int (j : Nat), .str (W b'.1)]) = H6 at s6 hD6
          refine ⟨_, rfl, _, rfl, rfl, _, rfl, ?_⟩
          by_cases ij : i = j
          · refine iteNS (by rw [ij]) ?_
            refine ⟨_, _, _, _, _, _, _, _, _, _, rfl, s6, hD6, fun j' b hj' nij hb => ?_⟩
            exact hno5 j' b (by omega) nij hb
          · refine iteNT (fun z => ij (by have := V.int.inj z; omega)) ?_
            refine ⟨_, rfl, ⟨_, rfl⟩, _, rfl, _, _, rfl, rfl, _, rfl, ?_⟩
            rw [W_ends]
            cases ce : b'.1.isSuffixOf a.1 with
            | true => exact k false _ s6 (fun z => by cases z) (fun _ _ sf _ => suf_no sf ij ha hb' ce)
            | false =>
              refine ⟨_, _, _, _, _, _, _, _, _, _, rfl, s6, hD6, fun j' b hj' nij hb => ?_⟩
              by_cases ej : j' = j
              · subst ej
                rw [hb'] at hb
                cases hb
                exact ce
              · exact hno5 j' b (by omega) nij hb
        · rintro σ H5 ⟨v2, v3, v6, v7, v8, v9, v10, v11, v12, v13, rfl, s5, hD5, hno5⟩
          refine ⟨_, _, _, _, _, _, _, _, _, _, _, _, rfl, s5, hD5, fun i' j a' b' hi' nij ha' hb' => ?_⟩
          by_cases ei : i' = i
          · subst ei
            rw [ha] at ha'
            cases ha'
            exact hno5 j b' (by rw [List.length_map]; exact (List.getElem?_eq_some_iff.mp hb').1) nij hb'
          · exact hno i' j a' b' (by omega) nij ha' hb'
      · rintro σ H3 ⟨v2, v3, v4, v5, v6, v7, v8, v9, v10, v11, v12, v13, rfl, s3, hD3, hno⟩
        have hfree : SufFree ss := sufFree_of fun i j a b nij ha hb => hno i j a b (by rw [List.length_map]; exact (List.getElem?_eq_some_iff.mp ha).1) nij ha hb
        clear hno hD3 hD s2
        refine fun d nd => ⟨upd_same, [(.inr "", .bl true)], rfl, by decide, by show 1 ≤ sizeLine; decide, fun q nq => ⟨_, _, rfl, ?_⟩⟩
        have nqd : q ≠ d := fun z => by rw [z, upd_same] at nq; cases nq
        have nd0 : H d = none := s3.free nd
        have nq0 : H q = none := by
          cases e : H q with
          | none => rfl
          | some o => rw [upd_ne nqd, upd_ne nqd, s3 _ _ e] at nq; cases nq
        have b0 : Dfs ss H (upd (upd (upd H3 d (.dK [])) d (.dK (mergeK [] [(.inr "", .bl true)]))) q (.lst [.str ""])) q d [[]] [[]] := by
          refine ⟨fun c o e => ?_, ?_, ?_, by simp, ?_, fun w hw => hw, List.mem_cons_self, Nat.le_refl _⟩
          · have n1 := ne_of_none e nd0
            have n2 := ne_of_none e nq0
            rw [upd_ne n2, upd_ne n1, upd_ne n1]
            exact s3 _ _ e
          · rw [upd_same, W_nil]; rfl
          · rw [upd_ne (Ne.symm nqd), upd_same, W_nil]; rfl
          · intro w hw; rw [List.mem_singleton.mp hw]; exact Nat.zero_le _
        generalize upd (upd (upd H3 d (.dK [])) d (.dK (mergeK [] [(.inr "", .bl true)]))) q (.lst [.str ""]) = H4 at b0
        refine ⟨fun m σ H5 => ∃ (kn wt : List (List Bool)) (v2 v3 v4 v5 v6 v7 v10 v11 v12 v13 : Option V), σ = [some (.ref t), some (.ref D), v2, v3, v4, v5, v6, v7, some (.ref d), some (.ref q), v10, v11, v12, v13] ∧ Dfs ss H H5 q d kn wt ∧ (∀ w ∈ kn, w ∈ wt ∨ ∀ b, Cls1 ss kn w b) ∧ (∀ w ∈ kn, RchT ss w) ∧ m = wt.length + 2 * (64 - kn.length),
          ⟨_, [[]], [[]], _, _, _, _, _, _, _, _, _, _, rfl, b0, fun w hw => .inl hw, fun w hw => List.mem_singleton.mp hw ▸ RchT.nil, rfl⟩, ?_⟩
        rintro m σ H5 ⟨kn, wt, v2, v3, v4, v5, v6, v7, v10, v11, v12, v13, rfl, B5, hcl, hre, rfl⟩
        refine ⟨_, rfl, Nat.zero_le _, fun p hp => ?_⟩
        have B6 := B5.on (same_upd (o := .lst []) hp)
        refine ⟨.list (wt.map dS), .list [], .lst (SqL.of B6.wait) (dp_strs _), .lst (SqL.of upd_same) .nil, shaped_strs _, shaped_nil, _, rfl, ?_⟩
        generalize upd H5 p (.lst []) = H6 at B6
        rw [eqv_nil]
        rcases List.eq_nil_or_concat wt with rfl | ⟨wt', w0, rfl⟩
        · refine k true H6 B6.same (fun _ => ⟨hfree, okS_of kn h3 B6.nil fun w hw b => ?_⟩) (fun z => by cases z)
          rcases hcl w hw with z | z
          · cases z
          · exact z b
        · rw [List.concat_eq_append] at *
          refine iteBT (by simp) ?_
          refine ⟨fun σ' H' => ∃ m', m' < (wt' ++ [w0]).length + 2 * (64 - kn.length) ∧ ∃ (kn wt : List (List Bool)) (v2 v3 v4 v5 v6 v7 v10 v11 v12 v13 : Option V), σ' = [some (.ref t), some (.ref D), v2, v3, v4, v5, v6, v7, some (.ref d), some (.ref q), v10, v11, v12, v13] ∧ Dfs ss H H' q d kn wt ∧ (∀ w ∈ kn, w ∈ wt ∨ ∀ b, Cls1 ss kn w b) ∧ (∀ w ∈ kn, RchT ss w) ∧ m' = wt.length + 2 * (64 - kn.length), fun _ _ h => h, ?_⟩
          refine ⟨_, rfl, .inl ⟨rfl, _, SqL.of B6.wait⟩, q, _, .str (W w0), rfl, rfl, B6.wait, pop_end, ?_⟩
          rw [pop_rest]
          have w0k : w0 ∈ kn := B6.sub _ (List.mem_append_right _ List.mem_cons_self)
          have l0 : w0.length ≤ 5 := B6.short _ w0k
          have B7 : Dfs ss H (upd H6 q (.lst (wt'.map fun w => V.str (W w)))) q d kn wt' := by
            refine ⟨fun c o e => ?_, upd_same, ?_, B6.nodup, B6.short, fun w hw => B6.sub w (List.mem_append_left _ hw), B6.nil, by have := B6.le; rw [List.length_append] at this; omega⟩
            · rw [upd_ne (ne_of_none e nq0)]; exact B6.same _ _ e
            · rw [upd_ne (Ne.symm nqd)]; exact B6.known
          generalize upd H6 q (.lst (wt'.map fun w => V.str (W w))) = H7 at B7
          have hm0 : wt'.length + 2 * (64 - kn.length) < (wt' ++ [w0]).length + 2 * (64 - kn.length) := by rw [List.length_append, List.length_cons, List.length_nil]; omega
          have hcl7 : ∀ u ∈ kn, u ∈ wt' ∨ u = w0 ∨ ∀ b, Cls1 ss kn u b := fun u hu => by
            rcases hcl u hu with z | z
            · rcases List.mem_append.mp z with z | z
              · exact .inl z
              · exact .inr (.inl (List.mem_singleton.mp z))
            · exact .inr (.inr z)
          generalize (wt' ++ [w0]).length + 2 * (64 - kn.length) = m at hm0 ⊢
          refine ⟨_, rfl, for_it walk_str (fun i σ H8 => ∃ (kn wt : List (List Bool)) (v2 v3 v4 v5 v6 v7 v11 v12 v13 : Option V), σ = [some (.ref t), some (.ref D), v2, v3, v4, v5, v6, v7, some (.ref d), some (.ref q), some (.str (W w0)), v11, v12, v13] ∧ Dfs ss H H8 q d kn wt ∧ w0 ∈ kn ∧ (∀ u ∈ kn, u ∈ wt ∨ u = w0 ∨ ∀ b, Cls1 ss kn u b) ∧ (∀ u ∈ kn, RchT ss u) ∧ (∀ (j : Nat) (b : Bool), j < i → [false, true][j]? = some b → Cls1 ss kn w0 b) ∧ wt.length + 2 * (64 - kn.length) < m)
            ⟨kn, wt', _, _, _, _, _, _, _, _, _, rfl, B7, w0k, hcl7, hre, fun j b h => absurd h (Nat.not_lt_zero _), hm0⟩ (fun _ _ _ _ _ => trivial) ?_ ?_⟩
          · clear hcl7 B7 B6 B5 hm0 w0k hcl hre
            rintro i x σ H8 H8' hi ⟨kn, wt, v2, v3, v4, v5, v6, v7, v11, v12, v13, rfl, B8, w0k, hcl8, hre8, hbits, hm8⟩ ⟨rfl, c, hc, rfl⟩
            have e01 : ("01" : Str) = W [false, true] := by decide +kernel
            rw [e01] at hc
            obtain ⟨bb, hbb, rfl⟩ := W_get hc
            have ew : W w0 ++ (⟨#[bt bb]⟩ : Str) = W (w0 ++ [bb]) := W_cat w0 [bb]
            have el : (W w0).length + (⟨#[bt bb]⟩ : Str).length ≤ sizeLine := by
              have e1 : (W w0).length = w0.length := W_len _
              have e2 : (⟨#[bt bb]⟩ : Str).length = 1 := W_len [bb]
              rw [e1, e2]; exact sl_len (by omega)
            refine ⟨_, rfl, _, rfl, _, _, rfl, rfl, el, ?_⟩
            rw [ew]
            have hll : (w0 ++ [bb]).length ≤ 6 := by rw [List.length_append, List.length_cons, List.length_nil]; omega
            refine ⟨_, rfl, by decide, by decide, for_it walk_range (fun i σ H9 => ∃ (v12 v13 : Option V), σ = [some (.ref t), some (.ref D), v2, some (.str ⟨#[bt bb]⟩), v4, v5, v6, v7, some (.ref d), some (.ref q), some (.str (W w0)), some (.str (W (itP ss i (w0 ++ [bb])))), v12, v13] ∧ Same H8' H9) ⟨_, _, rfl, Same.refl _⟩ (fun _ _ _ _ _ => trivial) ?_ ?_⟩
            · rintro i9 x σ H9 H9' hi9 ⟨v12, v13, rfl, s9⟩ ⟨rfl, rfl⟩
              have hi24 : i9 < 24 := hi9
              have hle := itP_le ss i9 (w0 ++ [bb])
              have e1 : (W (itP ss i9 (w0 ++ [bb]))).length = (itP ss i9 (w0 ++ [bb])).length := W_len _
              refine ⟨_, rfl, _, rfl, _, rfl, t, fl, _, ss, rfl, (htold.same B8.same).same s9, by omega, h2, fun s hs => Nat.le_trans (h3 s hs) (by decide), fun H10 s10 => ⟨_, _, rfl, rfl, ?_, ?_⟩⟩
              · have e2 : (W (putL ss (itP ss i9 (w0 ++ [bb])))).length = (putL ss (itP ss i9 (w0 ++ [bb]))).length := W_len _
                have := putL_len ss (itP ss i9 (w0 ++ [bb]))
                rw [e1, e2]; exact sl_len (by omega)
              · rw [W_cat, ← stP_eq, ← itP_succ]
                exact ⟨_, _, rfl, s9.trans s10⟩
            · rintro σ H9 ⟨v12, v13, rfl, s9⟩
              have hle := itP_le ss 24 (w0 ++ [bb])
              have e24 : (24 : Int).toNat = 24 := rfl
              have B9 := B8.on s9
              have e1 : (W (itP ss 24 (w0 ++ [bb]))).length = (itP ss 24 (w0 ++ [bb])).length := W_len _
              have e2 : (W w0).length = w0.length := W_len _
              have l1 : (W (itP ss 24 (w0 ++ [bb]))).length ≤ sizeLine := by rw [e1]; exact sl_len (by omega)
              refine ⟨_, rfl, _, rfl, l1, _, rfl, _, rfl, by rw [e2]; exact sl_len (by omega), _, _, rfl, rfl, _, _, rfl, rfl, _, rfl, ?_⟩
              by_cases cl : w0.length + 20 < (itP ss 24 (w0 ++ [bb])).length
              · refine iteDT (by rw [e2]; show _ < (((W (itP ss 24 (w0 ++ [bb]))).length : Nat) : Int); rw [e1]; omega) ?_
                exact k false _ B9.same (fun z => by cases z) (fun _ z2 sf o => absurd (RchT.short h3 sf z2 o (hre8 _ w0k) bb) (by omega))
              · refine iteDF (by rw [e2]; show ¬ _ < (((W (itP ss 24 (w0 ++ [bb]))).length : Nat) : Int); rw [e1]; omega) ?_
                refine ⟨_, rfl, _, rfl, _, rfl, l1, _, _, rfl, rfl, _, _, rfl, _, rfl, _, rfl, l1, ?_⟩
                show gName 13 (.str (Txt.slice (W (itP ss 24 (w0 ++ [bb]))) (some (if (((W (itP ss 24 (w0 ++ [bb]))).length : Nat) : Int) - 5 > 0 then (((W (itP ss 24 (w0 ++ [bb]))).length : Nat) : Int) - 5 else 0)) none)) _ _ _
                rw [W_tail5]
                refine ⟨_, rfl, _, rfl, d, _, rfl, DGet.k (k := .inr (W (tl 5 (itP ss 24 (w0 ++ [bb]))))) B9.known, _, rfl, ?_⟩
                have few9 := B9.few
                by_cases hin : tl 5 (itP ss 24 (w0 ++ [bb])) ∈ kn
                · refine iteBF (by rw [val_in hin]; rfl) ?_
                  refine ⟨kn, wt, _, _, _, _, _, _, _, _, _, rfl, B9, w0k, hcl8, hre8, fun j b hj hb => ?_, hm8⟩
                  by_cases ej : j = i
                  · subst ej
                    rw [hbb] at hb
                    cases hb
                    exact ⟨by omega, hin⟩
                  · exact hbits j b (by omega) hb
                · refine iteBT (by rw [val_out hin]; rfl) ?_
                  refine ⟨_, rfl, _, rfl, d, _, rfl, DPut.k (k := .inr (W (tl 5 (itP ss 24 (w0 ++ [bb]))))) B9.known (by unfold kst; rw [List.length_map]; exact sl_lt (by omega)), ?_⟩
                  rw [put_out hin]
                  have hW : upd H9 d (.dK (kst (kn ++ [tl 5 (itP ss 24 (w0 ++ [bb]))]))) q = some (.lst (wt.map fun w => V.str (W w))) := by rw [upd_ne nqd]; exact B9.wait
                  have wtl : wt.length < 1000 := by have := B9.le; omega
                  refine ⟨_, rfl, .inl ⟨rfl, _, SqL.of hW⟩, _, rfl, q, _, _, rfl, rfl, hW, by rw [List.length_map]; exact sl_lt (by omega), ?_⟩
                  refine ⟨kn ++ [tl 5 (itP ss 24 (w0 ++ [bb]))], wt ++ [tl 5 (itP ss 24 (w0 ++ [bb]))], _, _, _, _, _, _, _, _, _, rfl, ⟨fun c o e => ?_, ?_, ?_, ?_, ?_, ?_, List.mem_append_left _ B9.nil, by have := B9.le; rw [List.length_append, List.length_append]; exact Nat.add_le_add_right this _⟩, List.mem_append_left _ w0k, fun u hu => ?_, fun u hu => (List.mem_append.mp hu).elim (hre8 u) (fun z => List.mem_singleton.mp z ▸ RchT.step h3 (hre8 _ w0k) (by omega)), fun j b hj hb => ?_, ?_⟩
                  · rw [upd_ne (ne_of_none e nq0), upd_ne (ne_of_none e nd0)]
                    exact B9.same _ _ e
                  · rw [upd_same, List.map_append]; rfl
                  · rw [upd_ne (Ne.symm nqd), upd_same]
                  · rw [List.nodup_append]
                    refine ⟨B9.nodup, by simp, fun u hu v hv e => ?_⟩
                    rw [List.mem_singleton.mp hv] at e
                    exact hin (e ▸ hu)
                  · intro u hu
                    rcases List.mem_append.mp hu with z | z
                    · exact B9.short _ z
                    · rw [List.mem_singleton.mp z]; exact tl_le _ _
                  · intro u hu
                    rcases List.mem_append.mp hu with z | z
                    · exact List.mem_append_left _ (B9.sub _ z)
                    · exact List.mem_append_right _ z
                  · rcases List.mem_append.mp hu with z | z
                    · rcases hcl8 u z with z | z | z
                      · exact .inl (List.mem_append_left _ z)
                      · exact .inr (.inl z)
                      · exact .inr (.inr fun b => (z b).more)
                    · exact .inl (List.mem_append_right _ z)
                  · by_cases ej : j = i
                    · subst ej
                      rw [hbb] at hb
                      cases hb
                      exact ⟨by omega, List.mem_append_right _ List.mem_cons_self⟩
                    · exact (hbits j b (by omega) hb).more
                  · rw [List.length_append, List.length_append, List.length_cons, List.length_nil]; omega
          · rintro σ H8 ⟨kn, wt, v2, v3, v4, v5, v6, v7, v11, v12, v13, rfl, B8, w0k, hcl8, hre8, hbits, hm8⟩
            refine ⟨_, hm8, kn, wt, _, _, _, _, _, _, _, _, _, _, rfl, B8, fun u hu => ?_, hre8, rfl⟩
            rcases hcl8 u hu with z | z | z
            · exact .inl z
            · rw [z]
              refine .inr fun b => ?_
              have e2 : ("01" : Str).cps.size = 2 := by decide +kernel
              cases b with
              | false => exact hbits 0 false (by rw [e2]; decide) rfl
              | true => exact hbits 1 true (by rw [e2]; decide) rfl
            · exact .inr z
end
end U
set_option maxRecDepth 100000
set_option maxHeartbeats 4000000
namespace U
open PySem PySem.Spec PyProof.Rows
open L2 hiding Fun CX0 E0 pass0 Fun.binds
open C8 Lx SX StX
def spRule : Sp := fun vs H Q _ => ∃ (b : Addr) (wd lo : Nat), vs = [.ref b, .int wd, .int lo] ∧ Box H b ∧ 2 ≤ wd ∧ wd ≤ 100 ∧ 1 ≤ lo ∧ lo ≤ 5 ∧
  ∀ (t : Addr) (f : List Bool) (ss : List Stf) H', Up b H H' → Told H' t f ss → 2 ≤ f.length → f.length ≤ max wd 3 → ss.length ≤ 2 → StOk ss → OkS ss → (∀ s ∈ ss, s.1.length ≤ lo) → Q (.ref t) H'
theorem told_const {H : Hp} {p1 p2 p3 : Addr} {z0 z1 z2 : Str} {f p : List Bool} {b : Bool} (e0 : z0 = W f) (e1 : z1 = W p) (e2 : z2 = W [b]) (n1 : H p1 = none) (n2 : upd H p1 (.tup [.str z1, .str z2]) p2 = none) (n3 : upd (upd H p1 (.tup [.str z1, .str z2])) p2 (.lst [.ref p1]) p3 = none) :
    Same H (upd (upd (upd H p1 (.tup [.str z1, .str z2])) p2 (.lst [.ref p1])) p3 (.tup [.str z0, .ref p2])) ∧ Told (upd (upd (upd H p1 (.tup [.str z1, .str z2])) p2 (.lst [.ref p1])) p3 (.tup [.str z0, .ref p2])) p3 f [(p, b)] := by
  refine ⟨((same_upd n1).trans (same_upd n2)).trans (same_upd n3), p2, [p1], fun _ => (p, b), ?_, ?_, ?_, rfl⟩
  · rw [upd_same, e0]
  · exact same_upd n3 _ _ upd_same
  · intro t ht
    rw [List.mem_singleton.mp ht, ← e1, ← e2]
    exact same_upd n3 _ _ (same_upd n2 _ _ upd_same)
def Good1 (m n : Nat) (H : Hp) (x : Addr) : Prop := ∃ f p b, Told H x f [(p, b)] ∧ 2 ≤ f.length ∧ f.length ≤ m ∧ p ≠ [] ∧ p.length ≤ n ∧ OkS [(p, b)]
theorem Good1.same {m n : Nat} {H H' : Hp} {x : Addr} (h : Good1 m n H x) (e : Same H H') : Good1 m n H' x := by
  obtain ⟨f, p, b, h1, h2⟩ := h
  exact ⟨f, p, b, h1.same e, h2⟩
theorem Good1.up {m n : Nat} {b : Addr} {H H' : Hp} {x : Addr} (hb : Box H b) (h : Good1 m n H x) (e : Up b H H') : Good1 m n H' x := by
  obtain ⟨f, p, b, h1, h2⟩ := h
  exact ⟨f, p, b, h1.up hb e, h2⟩
theorem told1 {H : Hp} {x : Addr} {f p : List Bool} {b : Bool} (h : Told H x f [(p, b)]) : ∃ l q, H x = some (.tup [.str (W f), .ref l]) ∧ H l = some (.lst [.ref q]) ∧ H q = some (.tup [.str (W p), .str (W [b])]) := by
  obtain ⟨l, ps, kb, h1, h2, h3, h4⟩ := h
  cases ps with
  | nil => cases h4
  | cons q r =>
    cases r with
    | cons _ _ => have := congrArg List.length h4; simp at this
    | nil =>
      have e : kb q = (p, b) := (List.cons.inj h4).1.symm
      have := h3 q List.mem_cons_self
      rw [e] at this
      exact ⟨l, q, h1, h2, this⟩
theorem told_dp {K : PySem.W.Frag} {m n : Nat} {H : Hp} {x : Addr} (h : Good1 m n H x) : ∃ d, Dp K H (.ref x) d ∧ DOk 3 d := by
  obtain ⟨f, p, b, h1, _⟩ := h
  obtain ⟨l, q, hx, hl, hq⟩ := told1 h1
  refine ⟨.tuple [.str (W f), .list [.tuple [.str (W p), .str (W [b])]]], .tup (SqT.of hx) (.cons (.str _) (.cons (.lst (SqL.of hl) (.cons (.tup (SqT.of hq) (.cons (.str _) (.cons (.str _) .nil))) .nil)) .nil)), ?_⟩
  have w0 : ∀ {n : Nat} (x : List Bool), DOk n (.str (W x)) := fun x => ⟨strOk_W x, Nat.zero_le _⟩
  refine dok_tup fun d hd => ?_
  rcases List.mem_cons.mp hd with rfl | hd
  · exact w0 _
  · rw [List.mem_singleton.mp hd]
    refine dok_list fun d hd => ?_
    rw [List.mem_singleton.mp hd]
    refine dok_tup fun d hd => ?_
    rcases List.mem_cons.mp hd with rfl | hd
    · exact w0 _
    · rw [List.mem_singleton.mp hd]; exact w0 _
theorem tolds_dp {K : PySem.W.Frag} {m n : Nat} {H : Hp} : ∀ {ts : List Addr}, (∀ x ∈ ts, Good1 m n H x) → ∃ ds, DpAll K H (ts.map V.ref) ds ∧ (∀ d ∈ ds, DOk 3 d) ∧ ds.isEmpty = ts.isEmpty
  | [], _ => ⟨[], .nil, (fun _ h => nomatch h), rfl⟩
  | x :: r, h => by
    obtain ⟨d, h1, h2⟩ := told_dp (K := K) (h x List.mem_cons_self)
    obtain ⟨ds, h3, h4, _⟩ := tolds_dp (K := K) (ts := r) fun y hy => h y (List.mem_cons_of_mem _ hy)
    refine ⟨d :: ds, .cons h1 h3, fun e he => ?_, rfl⟩
    rcases List.mem_cons.mp he with rfl | he
    · exact h2
    · exact h4 e he
theorem stOk1 {p : List Bool} {b : Bool} (h0 : p ≠ []) (h : p.length ≤ 5) : StOk [(p, b)] := by
  refine ⟨by show 1 ≤ 1000; decide, fun s hs => ?_, ?_, List.pairwise_singleton _ _⟩
  · rw [List.mem_singleton.mp hs]; exact h0
  · refine longM_max fun s hs => ?_
    rw [List.mem_singleton.mp hs]
    show p.length ≤ 9
    omega
theorem mem5 {v : V} (h : v ∈ ([.int 0, .int 1, .int 1, .int 1, .int 2] : List V)) : ∃ n : Nat, v = .int n ∧ n ≤ 2 := by
  rcases List.mem_cons.mp h with rfl | h
  · exact ⟨0, rfl, by decide⟩
  · rcases List.mem_cons.mp h with rfl | h
    · exact ⟨1, rfl, by decide⟩
    · rcases List.mem_cons.mp h with rfl | h
      · exact ⟨1, rfl, by decide⟩
      · rcases List.mem_cons.mp h with rfl | h
        · exact ⟨1, rfl, by decide⟩
        · exact ⟨2, List.mem_singleton.mp h, by decide⟩
section
variable {P : Program} {w : World} {K : PySem.W.Frag} {mg : Str → Option Value} {base : Heap}
theorem sc_l_rule : FnScope ["_law_box", "_law_widest", "_law_longest_one", "_law_some", "_law_one", "_law_turn", "_law_stuffs", "_law_more", "_law_told"] ["_law_box", "_law_widest", "_law_longest_one"] (fnScope s_l_rule) := fnScope_by (by decide +kernel)
theorem cal_l_rule {f : Addr} {fd : FuncData} (F : Def K mg "_law_rule" s_l_rule f fd) (b : Binds K fd ["_law_box", "_law_widest", "_law_longest_one"] []) (T : Tx mg) (c_l_choose : Cal P w K mg base 1 "_law_choose" spChoose []) (c_l_one_of : Cal P w K mg base 2 "_law_one_of" spOneOf []) (c_l_word : Cal P w K mg base 3 "_law_word" spWordF [])
    (c_l_is_rule : Cal P w K mg base 2 "_law_is_rule" spIsRule []) : Cal P w K mg base 4 "_law_rule" spRule [] := by
  refine cal0 F b .nil sc_l_rule (fun vs H Q E h => ?_) (fun cdv A outer s H vs Q E hr h => ?_)
  · obtain ⟨_, _, _, rfl, _⟩ := h; rfl
  · obtain ⟨bx, wd, lo, rfl, hb, w2, w100, l1, l5, k⟩ := h
    refine ⟨_, (pss_cons (ps_set (i := 3) sc_l_rule.nd rfl (.inl rfl) (pe_lst (pa_cons (pe_tup (pa_cons pe_str (pa_cons (pe_lst (pa_cons (pe_tup (pa_cons pe_str (pa_cons pe_str pa_nil))) pa_nil)) pa_nil))) (pa_cons (pe_tup (pa_cons pe_str (pa_cons (pe_lst (pa_cons (pe_tup (pa_cons pe_str (pa_cons pe_str pa_nil))) pa_nil)) pa_nil))) (pa_cons (pe_tup (pa_cons pe_str (pa_cons (pe_lst (pa_cons (pe_tup (pa_cons pe_str (pa_cons pe_str pa_nil))) pa_nil)) pa_nil))) (pa_cons (pe_tup (pa_cons pe_str (pa_cons (pe_lst (pa_cons (pe_tup (pa_cons pe_str (pa_cons pe_str pa_nil))) pa_nil)) pa_nil))) pa_nil))))))
    (pss_cons (ps_setLc (i := 3) (own := [("_law_one", 4)]) (g := gName 4) (by rfl) sc_l_rule.nd rfl rfl (sw_true rfl rfl rfl (by decide +kernel)) (pi_list (pv 3)) (blkOk_by (own := [("_law_one", 4)]) (N := ["_law_box", "_law_widest", "_law_longest_one", "_law_some", "_law_one", "_law_turn", "_law_stuffs", "_law_more", "_law_told"]) (sc := fnScope s_l_rule) (by decide +kernel)) (fun _ _ _ _ _ => (pg_name (i := 4) sc_l_rule.nd rfl (.inl rfl))) (fun _ _ _ _ _ => (pts_one (PW.pt (pw_and (pt_cmpR op_le (pe_callB call_len_str (by rfl) T.b_len (by decide +kernel) (pa_cons (pe_ix (show IxR _ (rIxT K) from ix_tup) (pv 4) pe_int (fun _ _ => rfl)) pa_nil)) (pv 1) (nomark _)) (pw_and1 (pt_cmpR op_le (pe_callB call_len_str (by rfl) T.b_len (by decide +kernel) (pa_cons (pe_ix (show IxR _ (rIxT K) from ix_tup) (pe_ix (show IxR _ (rIxL K) from ix_list) (pe_ix (show IxR _ (rIxT K) from ix_tup) (pv 4) pe_int (fun _ _ => rfl)) pe_int (fun _ _ => rfl)) pe_int (fun _ _ => rfl)) pa_nil)) (pv 2) (nomark _))))))) (fun _ _ _ _ _ => (pv 4)))
    (pss_cut (ps_if (PW.pt (pw_and (pt_cmpR (op_neD hr.units) (pv 3) (pe_lst pa_nil) (nomark _)) (pw_and1 (pt_cmpR op_eq (pe_c c_l_choose hr (by decide) rfl (pa_cons (pv 0) (pa_cons pe_int pa_nil))) pe_int (nomark _))))) (pss_one (ps_ret (pe_c c_l_one_of hr (by decide) rfl (pa_cons (pv 0) (pa_cons (pv 3) pa_nil))))) pss_nil)
    (pss_cons (ps_for PassesOwn.never rfl (pi_range1 (by rfl) T.b_range (pa_cons pe_int pa_nil)) (pg_name (i := 5) sc_l_rule.nd rfl (.inl rfl))
    (pss_cons (ps_set (i := 6) sc_l_rule.nd rfl (.inl rfl) (pe_lst pa_nil))
    (pss_cons (ps_for PassesOwn.never rfl (pi_range1 (by rfl) T.b_range (pa_cons (pe_c c_l_one_of hr (by decide) rfl (pa_cons (pv 0) (pa_cons (pe_lst (pa_cons pe_int (pa_cons pe_int (pa_cons pe_int (pa_cons pe_int (pa_cons pe_int pa_nil)))))) pa_nil))) pa_nil)) (pg_name (i := 7) sc_l_rule.nd rfl (.inl rfl))
    (pss_one (ps_expr (pe_bm PySem.F.plainAttrs_list PySem.F.slot_list_append PySem.F.type_list_append mt_append (pv 6) (pa_cons (pe_tup (pa_cons (pe_c c_l_word hr (by decide) rfl (pa_cons (pv 0) (pa_cons pe_int (pa_cons (pv 2) pa_nil)))) (pa_cons (pe_c c_l_one_of hr (by decide) rfl (pa_cons (pv 0) (pa_cons (pe_lst (pa_cons pe_str (pa_cons pe_str pa_nil))) pa_nil))) pa_nil))) pa_nil)))))
    (pss_cons (ps_set (i := 8) sc_l_rule.nd rfl (.inl rfl) (pe_tup (pa_cons (pe_c c_l_word hr (by decide) rfl (pa_cons (pv 0) (pa_cons pe_int (pa_cons (pv 1) pa_nil)))) (pa_cons (pv 6) pa_nil))))
    (pss_one (ps_if (pt_val (pe_c c_l_is_rule hr (by decide) rfl (pa_cons (pv 8) pa_nil))) (pss_one (ps_ret (pv 8))) pss_nil))))))
    (pss_one (ps_ret (pe_tup (pa_cons pe_str (pa_cons (pe_lst pa_nil) pa_nil))))))))), ?_⟩
    have i1 : 1 ≤ sizeLine := by decide
    have i2 : 2 ≤ sizeLine := by decide
    refine ⟨i2, fun a1 na1 => ⟨i1, fun a2 na2 => ⟨i2, fun a3 na3 => ?_⟩⟩⟩
    obtain ⟨sa, ta⟩ := told_const (z0 := "01110") (z1 := "11") (z2 := "0") (f := [false, true, true, true, false]) (p := [true, true]) (b := false) (by decide +kernel) (by decide +kernel) (by decide +kernel) na1 na2 na3
    generalize upd (upd (upd H a1 (.tup [.str "11", .str "0"])) a2 (.lst [.ref a1])) a3 (.tup [.str "01110", .ref a2]) = Ha at sa ta
    refine ⟨i2, fun b1 nb1 => ⟨i1, fun b2 nb2 => ⟨i2, fun b3 nb3 => ?_⟩⟩⟩
    obtain ⟨sb, tb⟩ := told_const (z0 := "0010") (z1 := "001") (z2 := "1") (f := [false, false, true, false]) (p := [false, false, true]) (b := true) (by decide +kernel) (by decide +kernel) (by decide +kernel) nb1 nb2 nb3
    generalize upd (upd (upd Ha b1 (.tup [.str "001", .str "1"])) b2 (.lst [.ref b1])) b3 (.tup [.str "0010", .ref b2]) = Hb at sb tb
    refine ⟨i2, fun c1 nc1 => ⟨i1, fun c2 nc2 => ⟨i2, fun c3 nc3 => ?_⟩⟩⟩
    obtain ⟨sc, tc⟩ := told_const (z0 := "11") (z1 := "1") (z2 := "0") (f := [true, true]) (p := [true]) (b := false) (by decide +kernel) (by decide +kernel) (by decide +kernel) nc1 nc2 nc3
    generalize upd (upd (upd Hb c1 (.tup [.str "1", .str "0"])) c2 (.lst [.ref c1])) c3 (.tup [.str "11", .ref c2]) = Hc at sc tc
    refine ⟨i2, fun d1 nd1 => ⟨i1, fun d2 nd2 => ⟨i2, fun d3 nd3 => ?_⟩⟩⟩
    obtain ⟨sd, td⟩ := told_const (z0 := "10001") (z1 := "00") (z2 := "1") (f := [true, false, false, false, true]) (p := [false, false]) (b := true) (by decide +kernel) (by decide +kernel) (by decide +kernel) nd1 nd2 nd3
    generalize upd (upd (upd Hc d1 (.tup [.str "00", .str "1"])) d2 (.lst [.ref d1])) d3 (.tup [.str "10001", .ref d2]) = Hd at sd td
    refine ⟨by show 4 ≤ sizeLine; decide, fun L nL => ?_⟩
    have sL : Same H (upd Hd L (.lst [.ref a3, .ref b3, .ref c3, .ref d3])) := ((((sa.trans sb).trans sc).trans sd)).trans (same_upd nL)
    have hL : upd Hd L (.lst [.ref a3, .ref b3, .ref c3, .ref d3]) L = some (.lst ([a3, b3, c3, d3].map V.ref)) := upd_same
    have hG : ∀ x ∈ [a3, b3, c3, d3], Good1 5 3 (upd Hd L (.lst [.ref a3, .ref b3, .ref c3, .ref d3])) x := fun x hx => by
      have g : Good1 5 3 Hd x := by
        rcases List.mem_cons.mp hx with rfl | hx
        · exact ⟨_, _, _, ((ta.same sb).same sc).same sd, by decide, by decide, by decide, by decide, okS_11⟩
        · rcases List.mem_cons.mp hx with rfl | hx
          · exact ⟨_, _, _, (tb.same sc).same sd, by decide, by decide, by decide, by decide, okS_001⟩
          · rcases List.mem_cons.mp hx with rfl | hx
            · exact ⟨_, _, _, tc.same sd, by decide, by decide, by decide, by decide, okS_1⟩
            · rw [List.mem_singleton.mp hx]
              exact ⟨_, _, _, td, by decide, by decide, by decide, by decide, okS_00⟩
      exact g.same (same_upd nL)
    generalize upd Hd L (.lst [.ref a3, .ref b3, .ref c3, .ref d3]) = H5 at sL hL hG
    clear td tc tb ta sd sc sb sa
    have las : [a3, b3, c3, d3].length ≤ 900 := by show 4 ≤ 900; decide
    generalize [a3, b3, c3, d3] = as at hL hG las
    refine ⟨_, rfl, L, rfl, ⟨_, SqL.of hL⟩, fun D nD => ?_⟩
    refine lc_it (walk_list (xs := as.map V.ref)) (fun i H2 => Same H5 H2 ∧ ∃ ts : List Addr, H2 D = some (.lst (ts.map V.ref)) ∧ ts.length ≤ i ∧ ∀ x ∈ ts, Good1 wd lo H5 x) ⟨same_upd nD, [], upd_same, Nat.zero_le _, fun _ h => nomatch h⟩ (fun i H2 _ h2 => h2.1.seq (SqL.of hL)) ?_ ?_
    · rintro i x H2 H3 hi ⟨s2, ts, hD, hts, hall⟩ ⟨rfl, hx⟩
      rw [List.getElem?_map] at hx
      obtain ⟨x, hq, rfl⟩ := Option.map_eq_some_iff.mp hx
      have g := hG x (List.mem_of_getElem? hq)
      obtain ⟨f0, p0, b0, tx, f2, f5, p1, p3, okr⟩ := id g
      obtain ⟨l, q, hx5, hl5, hq5⟩ := told1 tx
      rw [List.length_map] at hi
      have ef : (W f0).length = f0.length := W_len _
      have ep : (W p0).length = p0.length := W_len _
      refine ⟨rfl, ?_⟩
      refine ⟨_, rfl, x, _, 0, _, rfl, rfl, SqT.of (s2 _ _ hx5), rfl, _, rfl, by rw [ef]; exact sl_len (by omega), _, rfl, _, _, rfl, rfl, _, rfl, ?_⟩
      by_cases cf : f0.length ≤ wd
      · refine iteDT (by rw [ef]; omega) ?_
        refine ⟨_, rfl, x, _, 1, _, rfl, rfl, SqT.of (s2 _ _ hx5), rfl, l, _, 0, _, rfl, rfl, SqL.of (s2 _ _ hl5), rfl, q, _, 0, _, rfl, rfl, SqT.of (s2 _ _ hq5), rfl, _, rfl, by rw [ep]; exact sl_len (by omega), _, rfl, _, _, rfl, rfl, _, rfl, ?_⟩
        by_cases cp : p0.length ≤ lo
        · refine iteDT (by rw [ep]; omega) ?_
          refine ⟨_, rfl, _, hD, by rw [List.length_map]; exact sl_lt (by omega), ?_, ts ++ [x], ?_, by rw [List.length_append, List.length_cons, List.length_nil]; omega, fun y hy => ?_⟩
          · intro c' o e
            rw [upd_ne (ne_of_none e nD)]
            exact s2 _ _ e
          · rw [upd_same, List.map_append]; rfl
          · rcases List.mem_append.mp hy with m | m
            · exact hall y m
            · rw [List.mem_singleton.mp m]
              exact ⟨f0, p0, b0, tx, f2, cf, p1, cp, okr⟩
        · refine iteDF (by rw [ep]; omega) ?_
          exact ⟨s2, ts, hD, by omega, hall⟩
      · refine iteDF (by rw [ef]; omega) ?_
        exact ⟨s2, ts, hD, by omega, hall⟩
    · rintro H2 ⟨s2, ts, hD, hts, hall⟩
      rw [List.length_map] at hts
      have s02 : Same H H2 := sL.trans s2
      have hall2 : ∀ x ∈ ts, Good1 wd lo H2 x := fun x hx => (hall x hx).same s2
      clear hall hG hL
      have nDb : D ≠ bx := Box.ne (hb.same sL) nD
      have hD0 : H D = none := sL.free nD
      refine ⟨fun σ' H' => σ' = [some (.ref bx), some (.int wd), some (.int lo), some (.ref D), none, none, none, none, none] ∧ Up bx H H', ?_, ?_⟩
      · refine ⟨_, rfl, Nat.zero_le _, fun p hp => ?_⟩
        have s3 : Same H2 (upd H2 p (.lst [])) := same_upd hp
        obtain ⟨ds, hds, hok, hem⟩ := tolds_dp (K := K) fun x hx => (hall2 x hx).same s3
        refine ⟨.list ds, .list [], .lst (SqL.of (s3 _ _ hD)) hds, .lst (SqL.of upd_same) .nil, (dok_list hok).shaped (by decide), shaped_nil, _, rfl, ?_⟩
        rw [eqv_nil, hem]
        have s03 := s02.trans s3
        have hall3 : ∀ x ∈ ts, Good1 wd lo (upd H2 p (.lst [])) x := fun x hx => (hall2 x hx).same s3
        have hD3 := s3 _ _ hD
        generalize upd H2 p (.lst []) = H3 at s03 hall3 hD3
        cases hte : ts.isEmpty with
        | true => exact ⟨rfl, Up.of_same hb s03⟩
        | false =>
          have u3 := Up.of_same hb s03
          refine ⟨_, rfl, bx, 2, rfl, u3.2, by decide, by decide, fun d H4 d0 d1 u4 => ⟨rfl, _, rfl, ?_⟩⟩
          have u34 := u3.trans u4
          have hD4 := u4.1 _ _ hD3 nDb
          refine ite2 (fun _ => ?_) (fun _ => ⟨rfl, u34⟩)
          have hne : ts ≠ [] := fun z => by rw [z] at hte; cases hte
          refine ⟨_, rfl, _, rfl, bx, D, _, rfl, u34.2, hD4, nDb, ?_, ?_, fun v H5' hv u5 => ?_⟩
          · rw [List.length_map]; exact List.length_pos_iff.mpr hne
          · rw [List.length_map]; omega
          · obtain ⟨x, hx, rfl⟩ := List.mem_map.mp hv
            obtain ⟨f0, p0, b0, tx, h2, h5, hp0, hlo, okr⟩ := ((hall3 x hx).up u3.2 u4).up u34.2 u5
            refine k x f0 [(p0, b0)] H5' (u34.trans u5) tx h2 (by omega) (by show 1 ≤ 2; decide) (stOk1 hp0 (by omega)) okr fun s hs => ?_
            rw [List.mem_singleton.mp hs]
            exact hlo
      · clear hall2 hD hts s02 s2 hD0 nDb
        rintro σ' H3 ⟨rfl, u3⟩
        refine ⟨_, rfl, by decide, by decide, for_it walk_range (fun i σ H4 => ∃ v5 v6 v7 v8 : Option V, σ = [some (.ref bx), some (.int wd), some (.int lo), some (.ref D), none, v5, v6, v7, v8] ∧ Up bx H H4) ⟨_, _, _, _, rfl, u3⟩ (fun _ _ _ _ _ => trivial) ?_ ?_⟩
        · rintro i x σ H4 H4' hi ⟨v5, v6, v7, v8, rfl, u4⟩ ⟨rfl, rfl⟩
          refine ⟨Nat.zero_le _, fun S nS => ?_⟩
          have nSb : S ≠ bx := u4.2.ne nS
          have nS0 : H S = none := u4.free nS
          have u5 : Up bx H (upd H4' S (.lst [])) := u4.same (same_upd nS)
          have hS5 : upd H4' S (.lst []) S = some (.lst []) := upd_same
          generalize upd H4' S (.lst []) = H5' at u5 hS5
          refine ⟨_, rfl, by show 5 ≤ sizeLine; decide, fun l0 nl0 => ?_⟩
          have u6 := u5.same (same_upd (o := .lst [.int 0, .int 1, .int 1, .int 1, .int 2]) nl0)
          refine ⟨bx, l0, _, rfl, u6.2, upd_same, u5.2.ne nl0, by decide, by decide, fun v H7 hv u7 => ?_⟩
          obtain ⟨n, rfl, hn⟩ := mem5 hv
          have hS7 := u7.1 _ _ (same_upd nl0 _ _ hS5) nSb
          have u67 := u6.trans u7
          refine ⟨_, rfl, by omega, by omega, for_it walk_range (fun j σ H8 => ∃ (v7 : Option V) (ps : List Addr) (kb : Addr → Stf), σ = [some (.ref bx), some (.int wd), some (.int lo), some (.ref D), none, some (.int (0 + (i : Int))), some (.ref S), v7, v8] ∧ Up bx H H8 ∧ H8 S = some (.lst (ps.map V.ref)) ∧ StV H8 kb ps ∧ ps.length = j ∧ ∀ s ∈ ps.map kb, s.1 ≠ [] ∧ s.1.length ≤ lo) ⟨_, [], fun _ => ([], false), rfl, u67, hS7, (fun _ h => nomatch h), rfl, (fun _ h => nomatch h)⟩ (fun _ _ _ _ _ => trivial) ?_ ?_⟩
          · rintro j x σ H8 H8' hj ⟨v7, ps, kb, rfl, u8, hS8, hst, hps, hpat⟩ ⟨rfl, rfl⟩
            have hj2 : j < 2 := by
              have : j < ((n : Int)).toNat := hj
              omega
            refine ⟨_, rfl, .inl ⟨rfl, _, SqL.of hS8⟩, _, rfl, _, rfl, bx, 1, lo, rfl, u8.2, l1, by omega, fun pw H9 pw1 pwl u9 => ?_⟩
            have u89 := u8.trans u9
            refine ⟨_, rfl, i2, fun l1' nl1 => ?_⟩
            have u10 := u89.same (same_upd (o := .lst [.str "0", .str "1"]) nl1)
            refine ⟨bx, l1', _, rfl, u10.2, upd_same, u89.2.ne nl1, by decide, by decide, fun v H11 hv u11 => ?_⟩
            obtain ⟨bb, rfl⟩ := mem2 hv
            have u1011 := u10.trans u11
            refine ⟨i2, fun q nq => ?_⟩
            have hS11 : H11 S = some (.lst (ps.map V.ref)) := u11.1 _ _ (same_upd nl1 _ _ (u9.1 _ _ hS8 nSb)) nSb
            have hst11 : StV H11 kb ps := fun t ht => u11.1 _ _ (same_upd nl1 _ _ (u9.1 _ _ (hst t ht) (u8.2.neT (hst t ht)))) (u8.2.neT (hst t ht))
            have u12 := u1011.same (same_upd (o := .tup [.str (W pw), .str (W [bb])]) nq)
            have hS12 := same_upd (o := .tup [.str (W pw), .str (W [bb])]) nq _ _ hS11
            have hst12 : StV (upd H11 q (.tup [.str (W pw), .str (W [bb])])) (fun a => if a = q then (pw, bb) else kb a) (ps ++ [q]) := fun t ht => by
              rcases List.mem_append.mp ht with m | m
              · have nt : t ≠ q := ne_of_none (hst11 t m) nq
                rw [upd_ne nt]
                simp only [if_neg nt]
                exact hst11 t m
              · rw [List.mem_singleton.mp m, upd_same]
                simp only [if_pos]
            have hmk : (ps ++ [q]).map (fun a => if a = q then (pw, bb) else kb a) = ps.map kb ++ [(pw, bb)] := by
              rw [List.map_append]
              congr 1
              · refine List.map_congr_left fun t ht => if_neg (ne_of_none (hst11 t ht) nq)
              · show [if q = q then (pw, bb) else kb q] = _
                rw [if_pos rfl]
            generalize upd H11 q (.tup [.str (W pw), .str (W [bb])]) = H12 at u12 hS12 hst12
            refine ⟨S, _, _, rfl, rfl, hS12, by rw [List.length_map]; exact sl_lt (by omega), ?_⟩
            have uS : Up bx H (upd H12 S (.lst (ps.map V.ref ++ [.ref q]))) := u12.mut nS0 nSb
            refine ⟨_, ps ++ [q], fun a => if a = q then (pw, bb) else kb a, rfl, uS, by rw [upd_same, List.map_append]; rfl, fun t ht => ?_, by rw [List.length_append, List.length_cons, List.length_nil]; omega, ?_⟩
            · rw [upd_ne (ne_of (hst12 t ht) hS12 (by intro z; cases z))]
              exact hst12 t ht
            · rw [hmk]
              intro s hs
              rcases List.mem_append.mp hs with m | m
              · exact hpat s m
              · rw [List.mem_singleton.mp m]
                exact ⟨fun z => by rw [show pw = [] from z] at pw1; exact absurd pw1 (by decide), pwl⟩
          · rintro σ H8 ⟨v7, ps, kb, rfl, u8, hS8, hst, hps, hpat⟩
            refine ⟨_, rfl, _, rfl, bx, 2, wd, rfl, u8.2, w2, by omega, fun fw H9 fw2 fwl u9 => ⟨_, rfl, i2, fun t nt => ?_⟩⟩
            have u89 := u8.trans u9
            have hS9 := u9.1 _ _ hS8 nSb
            have hst9 : StV H9 kb ps := fun t ht => u9.1 _ _ (hst t ht) (u8.2.neT (hst t ht))
            have told : Told (upd H9 t (.tup [.str (W fw), .ref S])) t fw (ps.map kb) := ⟨S, ps, kb, upd_same, same_upd nt _ _ hS9, hst9.same (same_upd nt), rfl⟩
            have u10 := u89.same (same_upd (o := .tup [.str (W fw), .ref S]) nt)
            generalize upd H9 t (.tup [.str (W fw), .ref S]) = H10 at told u10
            have hn2 : ps.length ≤ 2 := by
              have : ps.length = ((n : Int)).toNat := hps
              omega
            refine ⟨_, rfl, t, fw, ps.map kb, rfl, told, by rw [List.length_map]; omega, fun s hs => Nat.le_trans (hpat s hs).2 l5, fun r H11 s11 hr11 _ => ⟨_, rfl, ?_⟩⟩
            cases r with
            | true =>
              obtain ⟨hfree, hokr⟩ := hr11 rfl
              refine ⟨_, rfl, ?_⟩
              refine k t fw (ps.map kb) H11 (u10.same s11) (told.same s11) fw2 (by omega) (by rw [List.length_map]; exact hn2) ⟨by rw [List.length_map]; omega, fun s hs => (hpat s hs).1, longM_max fun s hs => Nat.le_trans (hpat s hs).2 (by omega), hfree⟩ hokr fun s hs => (hpat s hs).2
            | false => exact ⟨_, _, _, _, rfl, u10.same s11⟩
        · rintro σ H4 ⟨v5, v6, v7, v8, rfl, u4⟩
          refine ⟨Nat.zero_le _, fun l nl => ⟨i2, fun t nt => ?_⟩⟩
          have st : Same H4 (upd (upd H4 l (.lst [])) t (.tup [.str "110", .ref l])) := (same_upd nl).trans (same_upd nt)
          refine k t [true, true, false] [] _ (u4.same st) ⟨l, [], fun _ => ([], false), ?_, same_upd nt _ _ upd_same, (fun _ h => nomatch h), rfl⟩ (by decide) (by show 3 ≤ max wd 3; omega) (Nat.zero_le _) ⟨Nat.zero_le _, (fun _ h => nomatch h), Nat.zero_le _, .nil⟩ okS_nil (fun _ h => nomatch h)
          rw [upd_same]
          have e : ("110" : Str) = W [true, true, false] := by decide +kernel
          rw [e]
end
end U
set_option maxRecDepth 100000
set_option maxHeartbeats 4000000
namespace U
open PySem PySem.Spec PyProof.Rows
open L2 hiding Fun CX0 E0 pass0 Fun.binds
open C8 Lx SX StX
def spMade (C : Addr) : Sp := fun vs H Q _ => ∃ (t : Addr) (f : List Bool) (ss : List Stf), vs = [.ref t] ∧ Told H t f ss ∧ StOk ss ∧ OkR ss ∧ 2 ≤ f.length ∧ f.length ≤ 1000 ∧
  ∀ a ss' H', Same H H' → ss'.Perm ss → SortedS ss' → RuAt C H' a f ss' → Q (.ref a) H'
theorem scal_oB (a b : Option Bool) : scal (oB a) (oB b) = true := by cases a <;> cases b <;> rfl
theorem scal_oB2 (a : Option Bool) (b : Bool) : scal (oB a) (.str (W [b])) = true := by cases a <;> rfl
def spLaw (K : PySem.W.Frag) : Sp := fun vs H Q _ => ∃ (a : Addr) (ns : List Int), vs = [.ref a] ∧ SqL K H a (ns.map V.int) ∧ ns.length ≤ 63 ∧ ∀ H', Q (.bl true) H'
theorem one_ends {ss : List Stf} (h : SufFree ss) (l : List Bool) : (ss.filter fun s => s.1.isSuffixOf l).length ≤ 1 := by
  have hp : (ss.filter fun s => s.1.isSuffixOf l).Pairwise fun a b => ¬ a.1 <:+ b.1 ∧ ¬ b.1 <:+ a.1 := List.Pairwise.filter _ h
  have hm : ∀ s ∈ ss.filter fun s => s.1.isSuffixOf l, s.1 <:+ l := fun s hs => List.isSuffixOf_iff_suffix.mp (List.mem_filter.mp hs).2
  generalize ss.filter (fun s => s.1.isSuffixOf l) = fs at hp hm
  match fs, hp, hm with
  | [], _, _ => exact Nat.zero_le _
  | [_], _, _ => exact Nat.le_refl _
  | a :: b :: r, hp, hm =>
    have h1 := (List.pairwise_cons.mp hp).1 b List.mem_cons_self
    rcases List.suffix_or_suffix_of_suffix (hm a List.mem_cons_self) (hm b (List.mem_cons_of_mem _ List.mem_cons_self)) with z | z
    · exact absurd z h1.1
    · exact absurd z h1.2
theorem put_app {ss : List Stf} (h : SufFree ss) {p : List Bool} {b : Bool} (hm : (p, b) ∈ ss) (x : List Bool) : putM ss (x ++ p) = some b := (put_iff h).mpr ⟨p, hm, List.suffix_append _ _⟩
theorem put_tail {ss : List Stf} (h : SufFree ss) {p : List Bool} {b : Bool} (hm : (p, b) ∈ ss) (hp : p ≠ []) : putM ss p.tail = none := by
  cases e : putM ss p.tail with
  | none => rfl
  | some c =>
    obtain ⟨q, hq, hs⟩ := (put_iff h).mp e
    have hl := hs.length_le
    have hpl : 0 < p.length := List.length_pos_iff.mpr hp
    rw [List.length_tail] at hl
    have ne : (q, c) ≠ (p, b) := fun z => by
      have : q = p := congrArg Prod.fst z
      rw [this] at hl
      omega
    exact absurd (hs.trans (List.tail_suffix p)) (h.ne hq hm ne)
def reprO : Option Bool → Str
  | none => "None"
  | some b => reprText (W [b])
theorem reprO_len (b : Bool) : (reprText (W [b])).length ≤ sizeLine := by
  have e : (reprText (W [b])).length ≤ 10 := by cases b <;> decide +kernel
  exact Nat.le_trans e (by decide)
theorem call_repr_oB {X : Cx} : CallR X (.builtin "repr") (fun xs H Q => ∃ o, xs = [oB o] ∧ Q (.str (reprO o)) H) := by
  intro pins s σ H xs us Q I r h
  obtain ⟨o, rfl, q⟩ := h
  obtain ⟨u, rfl, ru⟩ := vals1 r
  cases o with
  | none =>
    obtain rfl : u = Value.none := ru
    exact PySem.P.repr_of_none ⟨.str _, H, I.tok _, ⟨_, rfl⟩, q⟩
  | some b =>
    obtain ⟨t, rfl⟩ := ru
    exact PySem.P.repr_of_str ⟨.str _, H, I.tok _, ⟨_, rfl⟩, q⟩ (reprO_len b)
section
variable {P : Program} {w : World} {K : PySem.W.Frag} {mg : Str → Option Value} {base : Heap}
end
end U
set_option maxRecDepth 100000
set_option maxHeartbeats 4000000
namespace U
open PySem PySem.Spec PyProof.Rows
open L2 hiding Fun CX0 E0 pass0 Fun.binds
open C8 Lx SX StX
def lfV : List V := [.non, .bl true, .bl false, .int 0, .int 1, .int (0 - 1), .int 2, .str "", .str "0", .str "1", .str "01", .str "turn", .str "012", .str " 0", .str "cut"]
def AnV : Nat → Hp → V → Prop
  | 0, _, v => v ∈ lfV
  | n + 1, H, v => v ∈ lfV ∨ ∃ a xs, v = .ref a ∧ (H a = some (.lst xs) ∨ H a = some (.tup xs)) ∧ xs.length ≤ 3 ∧ ∀ x ∈ xs, AnV n H x
def AnX (n : Nat) (H H' : Hp) (v : V) : Prop := ∀ H'', (∀ c o, H c = none → H' c = some o → H'' c = some o) → AnV n H'' v
theorem AnX.now {n : Nat} {H H' : Hp} {v : V} (h : AnX n H H' v) : AnV n H' v := h H' fun _ _ _ e => e
theorem AnX.up {n : Nat} {b : Addr} {H H' H2 : Hp} {v : V} (h : AnX n H H' v) (hb : Box H b) (u : Up b H' H2) : AnX n H H2 v := fun H'' k => h H'' fun c o e1 e2 => k c o e1 (u.1 _ _ e2 (fun z => by obtain ⟨x, y, e⟩ := hb; rw [z, e] at e1; cases e1))
theorem AnX.of {n : Nat} {b : Addr} {H0 H H' : Hp} {v : V} (h : AnX n H H' v) (hb : Box H b) (u : Up b H0 H) : AnX n H0 H' v := fun H'' k => h H'' fun c o e1 e2 => k c o (by
  cases e : H0 c with
  | none => rfl
  | some z =>
    have nb : c ≠ b := fun z => by obtain ⟨x, y, e⟩ := hb; rw [z, e] at e1; cases e1
    have := u.1 _ _ e nb
    rw [e1] at this
    cases this) e2
theorem AnV.leaf {n : Nat} {H : Hp} {v : V} (h : v ∈ lfV) : AnV n H v := by
  cases n with
  | zero => exact h
  | succ n => exact .inl h
theorem AnV.same {H H' : Hp} (s : Same H H') : ∀ {n : Nat} {v : V}, AnV n H v → AnV n H' v
  | 0, _, h => h
  | n + 1, v, h => by
    rcases h with h | ⟨a, xs, e, h, l, k⟩
    · exact .inl h
    · exact .inr ⟨a, xs, e, h.imp (s _ _) (s _ _), l, fun x hx => AnV.same s (k x hx)⟩
theorem lf_scal : ∀ v ∈ lfV, (match v with | .non => true | .bl _ => true | .int _ => true | .str z => decide (z.length ≤ 10000) && PyData.strOk z | _ => false) = true := List.all_eq_true.mp (by decide +kernel)
theorem lf_any {K : PySem.W.Frag} {H : Hp} {v : V} (hv : v ∈ lfV) : AnyS K H v := by
  have h := lf_scal v hv
  cases v with
  | non => exact anyS_non
  | bl x => exact anyS_bl x
  | int i => exact anyS_int i
  | str z =>
    have h : (decide (z.length ≤ 10000) && PyData.strOk z) = true := h
    rw [Bool.and_eq_true, decide_eq_true_iff] at h
    exact anyS_str h.1 h.2
  | _ => cases h
theorem AnV.any {K : PySem.W.Frag} {H : Hp} {n : Nat} {v : V} (h : AnV n H v) : AnyS K H v := by
  cases n with
  | zero => exact lf_any h
  | succ n =>
    rcases h with h | ⟨a, xs, rfl, h | h, _⟩
    · exact lf_any h
    · exact anyS_lst h
    · exact anyS_tup h
def Dat (K : PySem.W.Frag) (H : Hp) (n : Nat) (v : V) (d : PyData) : Prop := Dp K H v d ∧ DOk n d ∧ ∀ a, v = .ref a → H a = some (.tup []) → d = .tuple []
theorem lf_dat {K : PySem.W.Frag} {H : Hp} {n : Nat} {v : V} (hv : v ∈ lfV) : ∃ d, Dat K H n v d := by
  have h := lf_scal v hv
  have none0 : ∀ {d : PyData}, PyData.canLay0 d = true → PyData.depth d = 0 → DOk n d := fun h1 h2 => ⟨h1, by omega⟩
  cases v with
  | non => exact ⟨.none, .non, none0 rfl rfl, fun _ z => by cases z⟩
  | bl x => exact ⟨.bool x, .bl x, none0 rfl rfl, fun _ z => by cases z⟩
  | int i => exact ⟨.int i, .int i, none0 rfl rfl, fun _ z => by cases z⟩
  | str z =>
    have h : (decide (z.length ≤ 10000) && PyData.strOk z) = true := h
    rw [Bool.and_eq_true, decide_eq_true_iff] at h
    exact ⟨.str z, .str z, none0 h.2 rfl, fun _ z => by cases z⟩
  | _ => cases h
theorem all_dat {K : PySem.W.Frag} {H : Hp} {n : Nat} : ∀ {xs : List V}, (∀ x ∈ xs, ∃ d, Dat K H n x d) → ∃ ds, DpAll K H xs ds ∧ (∀ d ∈ ds, DOk n d) ∧ ds.length = xs.length
  | [], _ => ⟨[], .nil, fun _ h => (nomatch h), rfl⟩
  | x :: r, h => by
    obtain ⟨d, h1, h2, _⟩ := h x List.mem_cons_self
    obtain ⟨ds, h3, h4, h5⟩ := all_dat (K := K) (H := H) (n := n) (xs := r) fun y hy => h y (List.mem_cons_of_mem _ hy)
    refine ⟨d :: ds, .cons h1 h3, fun e he => ?_, by rw [List.length_cons, List.length_cons, h5]⟩
    rcases List.mem_cons.mp he with rfl | he
    · exact h2
    · exact h4 e he
theorem AnV.dat {K : PySem.W.Frag} {H : Hp} : ∀ {n : Nat} {v : V}, AnV n H v → ∃ d, Dat K H n v d
  | 0, v, h => lf_dat h
  | n + 1, v, h => by
    rcases h with h | ⟨a, xs, rfl, h, l, k⟩
    · exact lf_dat h
    · obtain ⟨ds, h1, h2, h3⟩ := all_dat (K := K) (H := H) (n := n) fun x hx => AnV.dat (k x hx)
      rcases h with h | h
      · exact ⟨.list ds, .lst (SqL.of h) h1, dok_list h2, fun a' e h' => by cases e; rw [h] at h'; cases h'⟩
      · refine ⟨.tuple ds, .tup (SqT.of h) h1, dok_tup h2, fun a' e h' => ?_⟩
        cases e
        rw [h] at h'
        cases h'
        rw [List.length_nil, List.length_eq_zero_iff] at h3
        rw [h3]
def spLeafV : Sp := fun vs H Q _ => ∃ b : Addr, vs = [.ref b] ∧ Box H b ∧ ∀ v H', Up b H H' → v ∈ lfV → Q v H'
def spAnyV (n : Nat) : Sp := fun vs H Q _ => ∃ b : Addr, vs = [.ref b, .int n] ∧ Box H b ∧ ∀ v H', Up b H H' → AnX n H H' v → Q v H'
def spAnyW : Sp := fun vs H Q _ => ∃ (b : Addr) (n : Nat), vs = [.ref b, .int n] ∧ n ≤ 8 ∧ Box H b ∧ ∀ v H', Up b H H' → AnX n H H' v → Q v H'
section
variable {P : Program} {w : World} {K : PySem.W.Frag} {mg : Str → Option Value} {base : Heap}
theorem sc_l_leaf : FnScope ["_law_box"] ["_law_box"] (fnScope s_l_leaf) := fnScope_by (by decide +kernel)
theorem cal_l_leaf {f : Addr} {fd : FuncData} (F : Def K mg "_law_leaf" s_l_leaf f fd) (b : Binds K fd ["_law_box"] []) (T : Tx mg) (c_l_one_of : Cal P w K mg base 2 "_law_one_of" spOneOf []) : Cal P w K mg base 3 "_law_leaf" spLeafV [] := by
  refine cal0 F b .nil sc_l_leaf (fun vs H Q E h => ?_) (fun cdv A outer s H vs Q E hr h => ?_)
  · obtain ⟨_, rfl, _⟩ := h; rfl
  · obtain ⟨bx, rfl, hb, k⟩ := h
    refine ⟨_, (pss_one (ps_ret (pe_c c_l_one_of hr (by decide) rfl (pa_cons (pv 0) (pa_cons (pe_lst (pa_cons pe_non (pa_cons pe_bl (pa_cons pe_bl (pa_cons pe_int (pa_cons pe_int (pa_cons (pe_op op_sub pe_int pe_int) (pa_cons pe_int (pa_cons pe_str (pa_cons pe_str (pa_cons pe_str (pa_cons pe_str (pa_cons pe_str (pa_cons pe_str (pa_cons pe_str (pa_cons pe_str pa_nil)))))))))))))))) pa_nil))))), ?_⟩
    refine ⟨_, rfl, _, _, rfl, rfl, by show 15 ≤ sizeLine; decide, fun l1 n1 => ?_⟩
    have s1 := same_upd (o := .lst lfV) n1
    exact ⟨bx, l1, _, rfl, hb.same s1, upd_same, hb.ne n1, by show 0 < 15; decide, by show 15 < 1000; decide, fun v H' hv u => k v H' ((Up.of_same hb s1).trans u) hv⟩
theorem sc_l_any : FnScope ["_law_box", "_law_deep_here", "_law_form", "_law_found", "_law_turn"] ["_law_box", "_law_deep_here"] (fnScope s_l_any) := fnScope_by (by decide +kernel)
theorem any_fn {f : Addr} {fd : FuncData} (F : Def K mg "_law_any" s_l_any f fd) (b : Binds K fd ["_law_box", "_law_deep_here"] []) (T : Tx mg) (c_l_choose : Cal P w K mg base 1 "_law_choose" spChoose []) (c_l_leaf : Cal P w K mg base 3 "_law_leaf" spLeafV []) (n : Nat) : FnOk P w K mg base CX0 (4 + n) f fd ["_law_box", "_law_deep_here"] (spAnyV n) := by
  induction n with
  | zero =>
    refine fn0 F.fn sc_l_any (fun vs H Q E h => ?_) (fun cdv A outer s H vs Q E hr h => ?_)
    · obtain ⟨_, rfl, _⟩ := h; rfl
    · obtain ⟨bx, rfl, hb, k⟩ := h
      refine ⟨_, (pss_cons (ps_set (i := 2) sc_l_any.nd rfl (.inl rfl) (pe_ifExp (pt_cmpR op_gt (pv 1) pe_int (nomark _)) (pe_c c_l_choose hr (by decide) rfl (pa_cons (pv 0) (pa_cons pe_int pa_nil))) pe_int))
        (pss_cons (ps_if (pt_cmpR op_gt (pv 2) pe_int (nomark _)) (pss_one (ps_ret (pe_c c_l_leaf hr (by decide) rfl (pa_cons (pv 0) pa_nil)))) pss_nil) pss_never)), ?_⟩
      refine ⟨_, rfl, _, _, rfl, rfl, _, rfl, iteDF (by decide) ?_⟩
      refine ⟨_, rfl, _, _, rfl, rfl, _, rfl, iteDT (by decide) ?_⟩
      exact ⟨_, rfl, bx, rfl, hb, fun v H' u hv => k v H' u fun _ _ => AnV.leaf hv⟩
  | succ n ih =>
    have c_l_any : Cal P w K mg base (4 + n) "_law_any" (spAnyV n) [] := ⟨f, fd, _, [], ih, F.mgf, F.kp, b, .nil⟩
    refine fn0 F.fn sc_l_any (fun vs H Q E h => ?_) (fun cdv A outer s H vs Q E hr h => ?_)
    · obtain ⟨_, rfl, _⟩ := h; rfl
    · obtain ⟨bx, rfl, hb, k⟩ := h
      refine ⟨_, (pss_cons (ps_set (i := 2) sc_l_any.nd rfl (.inl rfl) (pe_ifExp (pt_cmpR op_gt (pv 1) pe_int (nomark _)) (pe_c c_l_choose hr (by show _ ≤ 4 + n; omega) rfl (pa_cons (pv 0) (pa_cons pe_int pa_nil))) pe_int))
    (pss_cons (ps_if (pt_cmpR op_gt (pv 2) pe_int (nomark _)) (pss_one (ps_ret (pe_c c_l_leaf hr (by show _ ≤ 4 + n; omega) rfl (pa_cons (pv 0) pa_nil)))) pss_nil)
    (pss_cons (ps_setLc (i := 3) (own := [("_law_turn", 4)]) (g := gName 4) (by rfl) sc_l_any.nd rfl rfl (sw_true rfl rfl rfl (by decide +kernel)) (pi_range1 (by rfl) T.b_range (pa_cons (pe_c c_l_choose hr (by show _ ≤ 4 + n; omega) rfl (pa_cons (pv 0) (pa_cons pe_int pa_nil))) pa_nil)) (blkOk_by (own := [("_law_turn", 4)]) (N := ["_law_box", "_law_deep_here", "_law_form", "_law_found", "_law_turn"]) (sc := fnScope s_l_any) (by decide +kernel)) (fun _ _ _ _ _ => (pg_name (i := 4) sc_l_any.nd rfl (.inl rfl))) (fun _ _ _ _ _ => pts_nil) (fun _ _ _ _ _ => (pe_c c_l_any hr (by show _ ≤ 4 + n; omega) rfl (pa_cons (pv 0) (pa_cons (pe_op op_sub (pv 1) pe_int) pa_nil)))))
    (pss_one (ps_ret (pe_ifExp (pt_cmpR op_eq (pv 2) pe_int (nomark _)) (pe_callTy call_tuple_of (by rfl) T.b_tuple (by decide +kernel) (pa_cons (pv 3) pa_nil)) (pv 3))))))), ?_⟩
      refine ⟨_, rfl, _, _, rfl, rfl, _, rfl, iteDT (by show (0 : Int) < ((n + 1 : Nat) : Int); omega) ?_⟩
      refine ⟨_, rfl, bx, 6, rfl, hb, by decide, by decide, fun d H1 d0 d6 u1 => ?_⟩
      refine ⟨_, rfl, _, _, rfl, rfl, _, rfl, ?_⟩
      by_cases c1 : d > 1
      · refine iteDT c1 ?_
        exact ⟨_, rfl, bx, rfl, u1.2, fun v H' u hv => k v H' (u1.trans u) fun _ _ => AnV.leaf hv⟩
      · refine iteDF c1 ?_
        refine ⟨_, rfl, bx, 4, rfl, u1.2, by decide, by decide, fun e H2 e0 e4 u2 => ?_⟩
        refine ⟨_, rfl, by omega, by omega, fun D nD => ?_⟩
        have u12 := u1.trans u2
        have Db : D ≠ bx := u2.2.ne nD
        have nD2 : H2 D = none := nD
        have bx2 : ∀ c, H2 c = none → c ≠ bx := fun c e z => by
          obtain ⟨x, y, e'⟩ := u2.2
          rw [z, e'] at e
          cases e
        refine lc_it (walk_range (lo := 0) (n := e.toNat)) (fun i H3 => Up bx H2 H3 ∧ ∃ vs : List V, H3 D = some (.lst vs) ∧ vs.length = i ∧ ∀ v ∈ vs, ∀ H'', (∀ c o, H2 c = none → c ≠ D → H3 c = some o → H'' c = some o) → AnV n H'' v) ⟨(Up.refl u2.2).mut nD Db, [], upd_same, rfl, fun _ h => nomatch h⟩ (fun _ _ _ _ => trivial) ?_ ?_
        · rintro i x H3' H3 hi ⟨u3, vs, hD, lvs, av0⟩ ⟨rfl, rfl⟩
          refine ⟨rfl, _, rfl, _, rfl, _, _, rfl, rfl, bx, by show [V.ref bx, V.int (((n + 1 : Nat) : Int) - 1)] = _; rw [show ((n + 1 : Nat) : Int) - 1 = (n : Int) by omega], u3.2, fun v H4 u4 av => ?_⟩
          refine ⟨_, u4.1 _ _ hD Db, sl_lt (by omega), (u3.trans u4).mut nD Db, vs ++ [v], by rw [upd_same], by rw [List.length_append, lvs]; rfl, fun z hz H'' hk => ?_⟩
          rcases List.mem_append.mp hz with hz | hz
          · exact av0 z hz H'' fun c o e1 e2 e3 => hk c o e1 e2 (by rw [upd_ne e2]; exact u4.1 _ _ e3 (bx2 c e1))
          · rw [List.mem_singleton.mp hz]
            refine av H'' fun c o e1 e2 => ?_
            have cD : c ≠ D := fun z => by rw [z, hD] at e1; cases e1
            have c2 : H2 c = none := by
              cases e' : H2 c with
              | none => rfl
              | some z =>
                by_cases cb : c = bx
                · obtain ⟨x, y, e''⟩ := u3.2
                  rw [cb, e''] at e1
                  cases e1
                · have := u3.1 _ _ e' cb
                  rw [e1] at this
                  cases this
            exact hk c o c2 cD (by rw [upd_ne cD]; exact e2)
        rintro H3 ⟨u3, vs, hD, lvs, av⟩
        have u13 := u12.trans u3
        have l3 : vs.length ≤ 3 := by omega
        have nHD : H D = none := by
          cases e' : H D with
          | none => rfl
          | some z =>
            have := u12.1 _ _ e' Db
            rw [nD2] at this
            cases this
        have nH : ∀ c, H2 c = none → H c = none := fun c e1 => by
          cases e' : H c with
          | none => rfl
          | some z =>
            have := u12.1 _ _ e' (bx2 c e1)
            rw [e1] at this
            cases this
        refine ⟨_, rfl, rfl, _, rfl, ?_⟩
        by_cases c2 : d = 0
        · refine iteDT (by rw [c2]) ?_
          refine ⟨_, rfl, D, _, rfl, .inl ⟨SqL.of hD, fun t nt => ?_⟩⟩
          have st := same_upd (o := .tup vs) nt
          have nHt : H t = none := u13.free nt
          exact k _ _ (u13.same st) fun H'' hk => .inr ⟨t, vs, rfl, .inr (hk _ _ nHt upd_same), l3, fun x hx => av x hx H'' fun c o e1 _ e3 => hk c o (nH c e1) (st _ _ e3)⟩
        · refine iteDF (fun z => c2 (V.int.inj z)) ?_
          exact ⟨_, rfl, k _ _ u13 fun H'' hk => .inr ⟨D, vs, rfl, .inl (hk _ _ nHD hD), l3, fun x hx => av x hx H'' fun c o e1 _ e3 => hk c o (nH c e1) e3⟩⟩
theorem cal_l_any {f : Addr} {fd : FuncData} (F : Def K mg "_law_any" s_l_any f fd) (b : Binds K fd ["_law_box", "_law_deep_here"] []) (T : Tx mg) (c_l_choose : Cal P w K mg base 1 "_law_choose" spChoose []) (c_l_leaf : Cal P w K mg base 3 "_law_leaf" spLeafV []) : Cal P w K mg base 12 "_law_any" spAnyW [] := by
  refine ⟨f, fd, _, [], ⟨fun vs H Q E h => ?_, fun A outer s H args us vs Q E hr e0 hb r h => ?_⟩, F.mgf, F.kp, b, .nil⟩
  · obtain ⟨_, _, rfl, _⟩ := h; rfl
  · obtain ⟨bx, n, rfl, hn, hbx, k⟩ := h
    exact (any_fn F b T c_l_choose c_l_leaf n).run A outer s H args us _ Q E (hr.mono (by omega)) e0 hb r ⟨bx, rfl, hbx, k⟩
end
end U
set_option maxRecDepth 100000
set_option maxHeartbeats 4000000
namespace U
open PySem PySem.Spec PyProof.Rows
open L2 hiding Fun CX0 E0 pass0 Fun.binds
open C8 Lx SX StX
def spLWord (K : PySem.W.Frag) : Sp := fun vs H Q _ => ∃ x : V, vs = [x] ∧ AnyS K H x ∧ ∀ H', Same H H' → Q (.bl (wordB x)) H'
def oddL (z : Str) : List Nat := z.cps.toList.filter fun c => !decide (c ∈ ("01" : Str).cps.toList)
theorem oddL_nil {z : Str} : oddL z = [] ↔ isW z = true := by
  unfold oddL isW
  rw [List.filter_eq_nil_iff, List.all_eq_true]
  exact ⟨fun h c hc => by have := h c hc; simpa using this, fun h c hc => by have := h c hc; simpa using this⟩
def sgV (cs : List Nat) : List V := cs.map fun c => V.str ⟨#[c]⟩
theorem dp_sg {K : PySem.W.Frag} {H : Hp} : ∀ cs : List Nat, DpAll K H (sgV cs) (cs.map fun c => PyData.str ⟨#[c]⟩)
  | [] => .nil
  | _ :: r => .cons (.str _) (dp_sg r)
theorem sg_shaped {z : Str} (h : PyData.strOk z = true) (cs : List Nat) (hs : ∀ c ∈ cs, c ∈ z.cps.toList) : SeqAt.shaped (.list (cs.map fun c => PyData.str ⟨#[c]⟩)) = true := by
  unfold PyData.strOk at h
  rw [← Array.all_toList, List.all_eq_true] at h
  have key : ∀ cs : List Nat, (∀ c ∈ cs, c ∈ z.cps.toList) → PyData.canLayAll0 (cs.map fun c => PyData.str ⟨#[c]⟩) = true ∧ PyData.depthAll (cs.map fun c => PyData.str ⟨#[c]⟩) = 0 := fun cs => by
    induction cs with
    | nil => intro _; exact ⟨rfl, rfl⟩
    | cons c r ih =>
      intro hc
      obtain ⟨i1, i2⟩ := ih fun u hu => hc u (List.mem_cons_of_mem _ hu)
      refine ⟨?_, ?_⟩
      · show (PyData.strOk ⟨#[c]⟩ && PyData.canLayAll0 (r.map fun c => PyData.str ⟨#[c]⟩)) = true
        rw [i1, Bool.and_true]
        unfold PyData.strOk
        rw [← Array.all_toList]
        have := h c (hc c List.mem_cons_self)
        simpa using this
      · show max 0 (PyData.depthAll (r.map fun c => PyData.str ⟨#[c]⟩)) = 0
        rw [i2]; rfl
  obtain ⟨k1, k2⟩ := key cs hs
  unfold SeqAt.shaped
  rw [Bool.and_eq_true, decide_eq_true_iff]
  refine ⟨k1, ?_⟩
  show PyData.depthAll _ + 1 ≤ 64
  rw [k2]
  decide
def dueV : Option Str → V
  | none => .non
  | some z => .str z
def FewR (r : Option (List (Option WW))) : Prop := ∀ rs ws, r = some rs → allO rs = some ws → areB ws = true → ws.length ≤ 2 ∧ ∀ x ∈ ws, x.1.length ≤ 5
def spLStuff (K : PySem.W.Frag) : Sp := fun vs H Q _ => ∃ (v : V) (r : Option WW), vs = [v] ∧ ElR K H v r ∧ ∀ H', Same H H' → Q (.bl (oneG r)) H'
def spLDue (K : PySem.W.Frag) : Sp := fun vs H Q _ => ∃ (v s : V) (r : Option (List (Option WW))), vs = [v, s] ∧ AnyS K H v ∧ lnV v ≤ 1000 ∧ SeqR K H s r ∧ FewR r ∧ ∀ H', Same H H' → Q (dueV (dueI v r)) H'
def spLHeard (K : PySem.W.Frag) : Sp := fun vs H Q _ => ∃ (v s : V) (r : Option (List (Option WW))), vs = [v, s] ∧ AnyS K H v ∧ lnV v ≤ 1000 ∧ SeqR K H s r ∧ ∀ H', Same H H' → Q (dueV (dueI v r)) H'
theorem Same.madeA {H H' : Hp} {x dx : Addr} {C : Addr} (nx : H x = none) (ndx : H dx = none) (keep : ∀ b o, upd (upd H dx (.own x)) x (.ins C dx []) b = some o → b ≠ x → H' b = some o) : Same H H' := fun c o e =>
  keep c o (by rw [upd_ne (ne_of_none e nx), upd_ne (ne_of_none e ndx)]; exact e) (ne_of_none e nx)
section
variable {P : Program} {w : World} {K : PySem.W.Frag} {mg : Str → Option Value} {base : Heap}
theorem sc_l_is_word : FnScope ["_law_value", "_law_sign"] ["_law_value"] (fnScope s_l_is_word) := fnScope_by (by decide +kernel)
theorem cal_l_is_word {f : Addr} {fd : FuncData} (F : Def K mg "_law_is_word" s_l_is_word f fd) (b : Binds K fd ["_law_value"] []) (T : Tx mg) : Cal P w K mg base 1 "_law_is_word" (spLWord K) [] := by
  refine cal0 F b .nil sc_l_is_word (fun vs H Q E h => ?_) (fun cdv A outer s H vs Q E hr h => ?_)
  · obtain ⟨_, rfl, _⟩ := h; rfl
  · obtain ⟨x, rfl, hx, k⟩ := h
    refine ⟨_, (pss_one (ps_ret (pe_and (pe_callB call_isi (by rfl) T.b_isinstance (by decide +kernel) (pa_cons (pv 0) (pa_cons (pe_bltn (v := .ty "str") (u := .type "str") (by rfl) T.b_str (by decide +kernel) rfl) pa_nil))) (pe_one (pe_cmpR (op_eqD hr.units) (pe_lc (own := [("_law_sign", 1)]) (g := gName 1) (by rfl) sc_l_is_word.nd (pi_str (pv 0)) (blkOk_by (own := [("_law_sign", 1)]) (N := ["_law_value", "_law_sign"]) (sc := fnScope s_l_is_word) (by decide +kernel)) (fun _ _ _ _ _ => (pg_name (i := 1) sc_l_is_word.nd rfl (.inl rfl))) (fun _ _ _ _ _ => (pts_one (pt_cmpR op_notIn_sign (pv 1) pe_str (by with_unfolding_all rfl)))) (fun _ _ _ _ _ => (pv 1))) (pe_lst pa_nil) (nomark _)))))), ?_⟩
    rcases hx with ⟨z, rfl, hz, ho⟩ | ⟨h1, t, h2, h3⟩
    · refine ⟨_, rfl, _, _, _, _, true, rfl, .ty _, .base (.str z), kit_ty (by decide +kernel), _, rfl, iteBT rfl ?_⟩
      refine ⟨_, rfl, z, rfl, fun D nD => ?_⟩
      refine lc_it walk_str (fun i H2 => Same H H2 ∧ H2 D = some (.lst (sgV ((z.cps.toList.take i).filter fun c => !decide (c ∈ ("01" : Str).cps.toList))))) ⟨same_upd nD, upd_same⟩ (fun _ _ _ _ => trivial) ?_ ?_
      · rintro i y H2' H2 hi ⟨s2, hD⟩ ⟨rfl, c, hc, rfl⟩
        have hc' : z.cps.toList[i]? = some c := by rw [Array.getElem?_toList]; exact hc
        have lz : z.length = z.cps.toList.length := TL.len_tl z
        refine ⟨rfl, _, rfl, c, _, rfl, rfl, _, rfl, ?_⟩
        by_cases hm : c ∈ ("01" : Str).cps.toList
        · refine iteBF (by rw [decide_eq_true hm]; rfl) ?_
          refine ⟨s2, ?_⟩
          rw [hD, List.take_add_one, hc', List.filter_append, show ((some c).toList.filter fun c => !decide (c ∈ ("01" : Str).cps.toList)) = [] by show [c].filter _ = _; rw [List.filter_cons, if_neg (by rw [decide_eq_true hm]; decide)]; rfl, List.append_nil]
        · refine iteBT (by rw [decide_eq_false hm]; rfl) ?_
          refine ⟨_, rfl, _, hD, ?_, same_mut' s2 nD, ?_⟩
          · unfold sgV
            rw [List.length_map]
            refine sl_lt (Nat.lt_of_le_of_lt (List.length_filter_le _ _) ?_)
            rw [List.length_take]
            omega
          · rw [upd_same, List.take_add_one, hc', List.filter_append, show ((some c).toList.filter fun c => !decide (c ∈ ("01" : Str).cps.toList)) = [c] by show [c].filter _ = _; rw [List.filter_cons, if_pos (by rw [decide_eq_false hm]; rfl)]; rfl]
            unfold sgV
            rw [List.map_append]
            rfl
      rintro H2 ⟨s2, hD⟩
      have e : z.cps.toList.take z.cps.size = z.cps.toList := List.take_of_length_le (by simp)
      rw [e] at hD
      refine ⟨by show 0 ≤ sizeLine; decide, fun l nl => ?_⟩
      have sl := same_upd (o := .lst []) nl
      have sh := sg_shaped ho (oddL z) fun c hc => (List.mem_filter.mp hc).1
      refine ⟨.list ((oddL z).map fun c => PyData.str ⟨#[c]⟩), .list [], .lst (SqL.of (sl _ _ hD)) (dp_sg _), .lst (SqL.of upd_same) .nil, sh, by decide, ?_⟩
      have ee : PyData.eqv (.list ((oddL z).map fun c => PyData.str ⟨#[c]⟩)) (.list []) = wordB (.str z) := by
        show _ = isW z
        cases eo : oddL z with
        | nil => rw [oddL_nil.mp eo]; rfl
        | cons c r =>
          cases ew : isW z with
          | false => rfl
          | true =>
            rw [oddL_nil.mpr ew] at eo
            cases eo
      rw [ee]
      exact k _ (s2.trans sl)
    · refine ⟨_, rfl, _, _, _, _, false, rfl, .ty _, h3 H (Same.refl H), h2, _, rfl, iteBF rfl ?_⟩
      have := k H (Same.refl H)
      rw [AnyS.no (K := K) (H := H) h1] at this
      exact this
theorem sc_l_is_stuff : FnScope ["_law_value"] ["_law_value"] (fnScope s_l_is_stuff) := fnScope_by (by decide +kernel)
theorem cal_l_is_stuff {f : Addr} {fd : FuncData} (F : Def K mg "_law_is_stuff" s_l_is_stuff f fd) (b : Binds K fd ["_law_value"] []) (T : Tx mg) (c_l_is_word : Cal P w K mg base 1 "_law_is_word" (spLWord K) []) : Cal P w K mg base 2 "_law_is_stuff" (spLStuff K) [] := by
  refine cal0 F b .nil sc_l_is_stuff (fun vs H Q E h => ?_) (fun cdv A outer s H vs Q E hr h => ?_)
  · obtain ⟨_, _, rfl, _⟩ := h; rfl
  · obtain ⟨v, r, rfl, hv, k⟩ := h
    refine ⟨_, (pss_cons (ps_if (PW.pt (pw_or (pt_not (pt_val (pe_callB call_isi (by rfl) T.b_isinstance (by decide +kernel) (pa_cons (pv 0) (pa_cons (pe_bltn (v := .ty "tuple") (u := .type "tuple") (by rfl) T.b_tuple (by decide +kernel) rfl) pa_nil))))) (pw_or1 (pt_cmpR op_ne (pe_callB call_len_seq (by rfl) T.b_len (by decide +kernel) (pa_cons (pv 0) pa_nil)) pe_int (nomark _))))) (pss_one (ps_ret pe_bl)) pss_nil)
    (pss_cons (ps_if (PW.pt (pw_or (pt_not (pt_val (pe_c c_l_is_word hr (by decide) rfl (pa_cons (pe_ix ix_tup (pv 0) pe_int (fun _ _ => rfl)) pa_nil)))) (pw_or1 (pt_cmpR op_eq (pe_ix ix_tup (pv 0) pe_int (fun _ _ => rfl)) pe_str (nomark _))))) (pss_one (ps_ret pe_bl)) pss_nil)
    (pss_one (ps_ret (pe_and (pe_c c_l_is_word hr (by decide) rfl (pa_cons (pe_ix ix_tup (pv 0) pe_int (fun _ _ => rfl)) pa_nil)) (pe_one (pe_cmpR op_eq (pe_callB call_len_str (by rfl) T.b_len (by decide +kernel) (pa_cons (pe_ix ix_tup (pv 0) pe_int (fun _ _ => rfl)) pa_nil)) pe_int (nomark _)))))))), ?_⟩
    cases hv with
    | oth h =>
      obtain ⟨t, h1, h2⟩ := h
      refine ⟨_, rfl, _, _, _, _, false, rfl, .ty _, h1 H (Same.refl H), h2, _, rfl, iteT ?_⟩
      exact k H (Same.refl H)
    | @len t xs ht n l =>
      refine ⟨_, rfl, _, _, _, _, true, rfl, .ty _, sq_ty ht, kit_ty (by decide +kernel), _, rfl, iteF ?_⟩
      refine ⟨_, rfl, t, _, rfl, .inr ht, rfl, _, rfl, iteNT (fun z => n (by have := V.int.inj z; omega)) ?_⟩
      exact k H (Same.refl H)
    | @bad t x y ht hx hy n =>
      refine ⟨_, rfl, _, _, _, _, true, rfl, .ty _, sq_ty ht, kit_ty (by decide +kernel), _, rfl, iteF ?_⟩
      refine ⟨_, rfl, t, _, rfl, .inr ht, rfl, _, rfl, iteF ?_⟩
      refine ⟨_, rfl, t, _, _, _, rfl, rfl, ht, atI_nat (j := 0) rfl, x, rfl, hx, fun H1 s1 => ?_⟩
      cases ew : wordB x with
      | false => exact ⟨_, rfl, iteT (k H1 s1)⟩
      | true =>
        have ey : wordB y = false := n.elim (fun z => by rw [ew] at z; cases z) id
        obtain ⟨l, rfl⟩ := wordB_some ew
        refine ⟨_, rfl, iteF ?_⟩
        refine ⟨_, rfl, t, _, _, _, rfl, rfl, same_tup s1 ht, atI_nat (j := 0) rfl, rfl, _, rfl, ?_⟩
        by_cases c : W l = ""
        · exact iteDT (by rw [c]) (k H1 s1)
        · refine iteDF (fun z => c (V.str.inj z)) ?_
          refine ⟨_, rfl, t, _, _, _, rfl, rfl, same_tup s1 ht, atI_nat (j := 1) rfl, y, rfl, hy.same s1, fun H2 s2 => ?_⟩
          rw [ey]
          exact ⟨_, rfl, iteBF rfl (k H2 (s1.trans s2))⟩
    | @pair t p q ht lp lq =>
      have hsq := SqT.of (K := K) ht
      refine ⟨_, rfl, _, _, _, _, true, rfl, .ty _, .base (.tup ht), kit_ty (by decide +kernel), _, rfl, iteF ?_⟩
      refine ⟨_, rfl, t, _, rfl, .inr hsq, rfl, _, rfl, iteF ?_⟩
      refine ⟨_, rfl, t, _, _, _, rfl, rfl, hsq, atI_nat (j := 0) rfl, _, rfl, anyS_str (by rw [W_len]; omega) (W_ok p), fun H1 s1 => ?_⟩
      rw [show wordB (.str (W p)) = true from isW_W p]
      refine ⟨_, rfl, iteF ?_⟩
      refine ⟨_, rfl, t, _, _, _, rfl, rfl, same_tup s1 hsq, atI_nat (j := 0) rfl, rfl, _, rfl, ?_⟩
      by_cases c : p = []
      · subst c
        refine iteDT (by rw [← W_nil]) ?_
        exact k H1 s1
      · refine iteDF (fun z => c (W_inj (by rw [← W_nil]; exact V.str.inj z))) ?_
        refine ⟨_, rfl, t, _, _, _, rfl, rfl, same_tup s1 hsq, atI_nat (j := 1) rfl, _, rfl, anyS_str (by rw [W_len]; omega) (W_ok q), fun H2 s2 => ?_⟩
        rw [show wordB (.str (W q)) = true from isW_W q]
        have kk := k H2 (s1.trans s2)
        have e : oneG (some (p, q)) = decide (q.length = 1) := by
          show (decide (0 < p.length) && decide (q.length = 1)) = _
          rw [decide_eq_true (List.length_pos_iff.mpr c)]
          rfl
        rw [e] at kk
        refine ⟨_, rfl, iteBT rfl ?_⟩
        refine ⟨_, rfl, t, _, _, _, rfl, rfl, same_tup (s1.trans s2) hsq, atI_nat (j := 1) rfl, _, rfl, by rw [W_len]; exact sl_len (by omega), rfl, ?_⟩
        have e2 : decide (V.int (((W q).length : Nat) : Int) = V.int 1) = decide (q.length = 1) := by
          rw [decide_eq_decide, W_len]
          exact ⟨fun z => by have := V.int.inj z; omega, fun z => by rw [z]; rfl⟩
        rw [← e2] at kk
        exact kk
end
end U
set_option maxRecDepth 100000
set_option maxHeartbeats 4000000
namespace U
open PySem PySem.Spec PyProof.Rows
open L2 hiding Fun CX0 E0 pass0 Fun.binds
open C8 Lx SX StX
theorem due_st {v : V} {rs : List (Option WW)} (h : flagB v = true) (hb : rs.all oneG = false) : dueI v (some rs) = some ("stuffs" : Str) := due_bad h fun _ e => by cases e; exact hb
theorem all_some {rs : List (Option WW)} (h : rs.all oneG = true) : ∃ ws, allO rs = some ws ∧ ws.all goodB = true := by
  cases hr : allO rs with
  | none =>
    have := allO_none hr
    rw [List.all_eq_true] at h
    exact nomatch h _ this
  | some ws =>
    refine ⟨ws, rfl, ?_⟩
    have e := allO_map hr
    subst e
    rw [List.all_map] at h
    exact h
section
variable {P : Program} {w : World} {K : PySem.W.Frag} {mg : Str → Option Value} {base : Heap}
theorem sc_l_due : FnScope ["_law_flag", "_law_stuffs", "_law_one", "_law_names", "_law_at", "_law_pattern", "_law_rest"] ["_law_flag", "_law_stuffs"] (fnScope s_l_due) := fnScope_by (by decide +kernel)
theorem cal_l_due {f : Addr} {fd : FuncData} (F : Def K mg "_law_due" s_l_due f fd) (b : Binds K fd ["_law_flag", "_law_stuffs"] []) (T : Tx mg) (c_l_is_word : Cal P w K mg base 1 "_law_is_word" (spLWord K) []) (c_l_is_stuff : Cal P w K mg base 2 "_law_is_stuff" (spLStuff K) []) (c_l_is_rule : Cal P w K mg base 2 "_law_is_rule" spIsRule []) : Cal P w K mg base 3 "_law_due" (spLDue K) [] := by
  refine cal0 F b .nil sc_l_due (fun vs H Q E h => ?_) (fun cdv A outer s H vs Q E hr h => ?_)
  · obtain ⟨_, _, _, rfl, _⟩ := h; rfl
  · obtain ⟨v, sv, r, rfl, hv, lv, hs, few, k⟩ := h
    refine ⟨_, (pss_cons (ps_if (PW.pt (pw_or (pt_not (pt_val (pe_c c_l_is_word hr (by decide) rfl (pa_cons (pv 0) pa_nil)))) (pw_or1 (pt_cmpR op_lt (pe_callB call_len_str (by rfl) T.b_len (by decide +kernel) (pa_cons (pv 0) pa_nil)) pe_int (nomark _))))) (pss_one (ps_ret pe_str)) pss_nil)
    (pss_cons (ps_if (pt_not (pt_val (pe_callB call_isiT (by rfl) T.b_isinstance (by decide +kernel) (pa_cons (pv 1) (pa_cons (pe_tup (pa_cons (pe_bltn (v := .ty "list") (u := .type "list") (by rfl) T.b_list (by decide +kernel) rfl) (pa_cons (pe_bltn (v := .ty "tuple") (u := .type "tuple") (by rfl) T.b_tuple (by decide +kernel) rfl) pa_nil))) pa_nil))))) (pss_one (ps_ret pe_str)) pss_nil)
    (pss_cons (ps_if (pt_cmpR (op_neL hr) (pe_lc (own := [("_law_one", 2)]) (g := gName 2) (by rfl) sc_l_due.nd (pi_seq (pv 1)) (blkOk_by (own := [("_law_one", 2)]) (N := ["_law_flag", "_law_stuffs", "_law_one", "_law_names", "_law_at", "_law_pattern", "_law_rest"]) (sc := fnScope s_l_due) (by decide +kernel)) (fun _ _ _ _ _ => (pg_name (i := 2) sc_l_due.nd rfl (.inl rfl))) (fun _ _ _ _ _ => (pts_one (pt_not (pt_val (pe_c c_l_is_stuff hr (by decide) rfl (pa_cons (pv 2) pa_nil)))))) (fun _ _ _ _ _ => (pv 2))) (pe_lst pa_nil) (nomark _)) (pss_one (ps_ret pe_str)) pss_nil)
    (pss_cons (ps_setLc (i := 3) (own := [("_law_one", 2)]) (g := gName 2) (by rfl) sc_l_due.nd rfl rfl (sw_true rfl rfl rfl (by decide +kernel)) (pi_seq (pv 1)) (blkOk_by (own := [("_law_one", 2)]) (N := ["_law_flag", "_law_stuffs", "_law_one", "_law_names", "_law_at", "_law_pattern", "_law_rest"]) (sc := fnScope s_l_due) (by decide +kernel)) (fun _ _ _ _ _ => (pg_name (i := 2) sc_l_due.nd rfl (.inl rfl))) (fun _ _ _ _ _ => pts_nil) (fun _ _ _ _ _ => (pe_ix (show IxR _ (rIxT K) from ix_tup) (pv 2) pe_int (fun _ _ => rfl))))
    (pss_cons (ps_for PassesOwn.never rfl (pi_enum (by rfl) T.b_enumerate (pa_cons (pv 3) pa_nil)) (pg_tup rfl (pgs_cons (pg_name (i := 4) sc_l_due.nd rfl (.inl rfl)) (pgs_cons (pg_name (i := 5) sc_l_due.nd rfl (.inr rfl)) pgs_nil)))
    (pss_one (ps_if (pt_cmpR (op_neL hr) (pe_lc (own := [("_law_rest", 6)]) (g := gName 6) (by rfl) sc_l_due.nd (pi_list (pe_op op_cat (pe_slice sl_list (pv 3) po_none (po_some (pv 4))) (pe_slice sl_list (pv 3) (po_some (pe_op op_add (pv 4) pe_int)) po_none))) (blkOk_by (own := [("_law_rest", 6)]) (N := ["_law_flag", "_law_stuffs", "_law_one", "_law_names", "_law_at", "_law_pattern", "_law_rest"]) (sc := fnScope s_l_due) (by decide +kernel)) (fun _ _ _ _ _ => (pg_name (i := 6) sc_l_due.nd rfl (.inl rfl))) (fun _ _ _ _ _ => (pts_one (pt_val (pe_m1 PySem.F.slot_str_endswith PySem.F.type_str_endswith mt_endswith (pv 5) (pv 6))))) (fun _ _ _ _ _ => pe_int)) (pe_lst pa_nil) (nomark _)) (pss_one (ps_ret pe_str)) pss_nil)))
    (pss_one (ps_ret (pe_ifExp (pt_val (pe_c c_l_is_rule hr (by decide) rfl (pa_cons (pe_tup (pa_cons (pv 0) (pa_cons (pe_callTy call_list_of (by rfl) T.b_list (by decide +kernel) (pa_cons (pv 1) pa_nil)) pa_nil))) pa_nil))) pe_non pe_str)))))))), ?_⟩
    have flag : ∀ {H'}, Same H H' → flagB v = false → Q (.str "flag") H' := fun {H'} s' e => by
      have := k H' s'
      rw [due_flag e] at this
      exact this
    refine ⟨_, rfl, v, rfl, hv, fun H1 s1 => ?_⟩
    cases ew : wordB v with
    | false => exact ⟨_, rfl, iteT (flag s1 (by unfold flagB; rw [ew]; rfl))⟩
    | true =>
    obtain ⟨fl, rfl⟩ := wordB_some ew
    have lf : (W fl).length = fl.length := W_len fl
    have lv' : fl.length ≤ 1000 := by rw [← lf]; exact lv
    refine ⟨_, rfl, iteF ?_⟩
    refine ⟨_, rfl, _, rfl, by rw [lf]; exact sl_len (by omega), _, _, rfl, rfl, _, rfl, ?_⟩
    by_cases h2 : fl.length < 2
    · refine iteDT (by rw [lf]; omega) ?_
      exact flag s1 (by unfold flagB; rw [decide_eq_false (show ¬ 2 ≤ lnV (.str (W fl)) by show ¬ 2 ≤ (W fl).length; omega)]; exact Bool.and_false _)
    refine iteDF (by rw [lf]; omega) ?_
    have hf : flagB (.str (W fl)) = true := by unfold flagB; rw [ew, decide_eq_true (show 2 ≤ lnV (.str (W fl)) by show 2 ≤ (W fl).length; omega)]; rfl
    clear flag
    refine ⟨_, rfl, by show 2 ≤ sizeLine; decide, fun pc npc => ?_⟩
    have sc := same_upd (o := .tup [.ty "list", .ty "tuple"]) npc
    have s2 := s1.trans sc
    cases hs with
    | no t h n1 n2 =>
      refine ⟨_, pc, _, _, _, false, rfl, upd_same, .cons (.ty _) (.cons (.ty _) .nil), h _ s2, kitAny_cons n1 (fun _ => kitAny_cons n2 (fun _ => rfl) (fun z => Bool.noConfusion z)) (fun z => Bool.noConfusion z), _, rfl, iteT ?_⟩
      have := k _ s2
      rw [due_bad hf (fun _ z => by cases z)] at this
      exact this
    | @seq a xs rs hS hn hE =>
      obtain ⟨t, b1, b2, h1, hk1, hk2, hor⟩ := sq_isi hS
      have isi : PySem.W.kitAny K t [.type "list", .type "tuple"] = some true := by
        cases b1 with
        | true => exact kitAny_cons hk1 (fun z => Bool.noConfusion z) (fun _ => rfl)
        | false =>
          have hb2 : b2 = true := hor
          subst hb2
          exact kitAny_cons hk1 (fun _ => kitAny_cons hk2 (fun z => Bool.noConfusion z) (fun _ => rfl)) (fun z => Bool.noConfusion z)
      refine ⟨_, pc, _, _, _, true, rfl, upd_same, .cons (.ty _) (.cons (.ty _) .nil), h1 _ s2, isi, _, rfl, iteF ?_⟩
      generalize upd H1 pc (.tup [.ty "list", .ty "tuple"]) = H2 at s2 ⊢
      clear sc npc
      have hS2 := hS.same s2
      have lrs := paired_all hE
      refine iSeq_var rfl hS2 fun J G hG wk D2 nD2 => ?_
      refine lc_it wk (fun i H4 => Same H2 H4 ∧ ∃ ls : List V, H4 D2 = some (.lst ls) ∧ ls.length ≤ i ∧ (ls = [] ↔ ∀ j r, j < i → rs[j]? = some r → oneG r = true)) ⟨same_upd nD2, [], upd_same, Nat.le_refl _, fun _ j r h => absurd h (Nat.not_lt_zero _), fun _ => rfl⟩ (fun i H4 _ h4 => hG _ h4.1) ?_ ?_
      · rintro i y' H4' H4 hi ⟨s4, ls, hL, lls, hls⟩ ⟨rfl, hx⟩
        obtain ⟨ri, hri, hEi⟩ := paired_get hE hx
        refine ⟨rfl, _, rfl, y', ri, rfl, hEi.same (s2.trans s4), fun H5 s5 => ?_⟩
        cases hrs : oneG ri with
        | true =>
          refine ⟨_, rfl, iteF ?_⟩
          refine ⟨s4.trans s5, ls, s5 _ _ hL, by omega, ?_⟩
          rw [hls]
          refine ⟨fun h j r hj e => ?_, fun h j r hj e => h j r (by omega) e⟩
          by_cases cj : j = i
          · rw [cj, hri] at e
            cases e
            exact hrs
          · exact h j r (by omega) e
        | false =>
          refine ⟨_, rfl, iteT ?_⟩
          refine ⟨_, rfl, ls, s5 _ _ hL, sl_lt (by omega), same_mut' (s4.trans s5) nD2, ls ++ [y'], upd_same, by rw [List.length_append]; show _ + 1 ≤ _; omega, fun z => absurd z (by simp), fun z => ?_⟩
          have := z i ri (by omega) hri
          rw [hrs] at this
          cases this
      rintro H4 ⟨s4, ls, hL, lls, hls⟩
      refine ⟨by show 0 ≤ sizeLine; decide, fun l5 nl5 => ?_⟩
      have sl5 := same_upd (o := .lst []) nl5
      have s5 := (s2.trans s4).trans sl5
      refine ⟨D2, l5, ls, rfl, rfl, SqL.of (sl5 _ _ hL), SqL.of upd_same, _, rfl, ?_⟩
      generalize upd H4 l5 (.lst []) = H5 at s5 ⊢
      clear sl5 hL
      have hall : ls = [] ↔ rs.all oneG = true := by
        rw [hls, List.all_eq_true]
        refine ⟨fun h x hx => ?_, fun h j r hj e => h r (List.mem_of_getElem? e)⟩
        obtain ⟨j, hj⟩ := List.getElem?_of_mem hx
        exact h j x (by rw [lrs]; exact (List.getElem?_eq_some_iff.mp hj).1) hj
      cases hra : rs.all oneG with
      | false =>
        refine iteNT (fun z => by rw [hra] at hall; exact nomatch hall.mp z) ?_
        have := k H5 s5
        rw [due_st hf hra] at this
        exact this
      | true =>
      refine iteNS (hall.mpr hra) ?_
      clear hall hls lls s4 nD2 nl5
      obtain ⟨ws, hws, hgood⟩ := all_some hra
      obtain ⟨ps, rfl, rfl, hW, hB⟩ := seq_stw hE hws
      obtain ⟨due1, due2, due3⟩ := due_good (v := .str (W fl)) hf hws
      have lps : ps.length ≤ 1000 := by rw [List.length_map] at hn; exact hn
      have hS5 := hS.same s5
      refine iSeq_var rfl hS5 fun J G hG wk D3 nD3 => ?_
      refine lc_it wk (fun i H6 => Same H5 H6 ∧ H6 D3 = some (.lst ((ps.take i).map fun q => V.str (W (decH H q).1)))) ⟨same_upd nD3, upd_same⟩ (fun i H6 _ h6 => hG _ h6.1) ?_ ?_
      · rintro i y' H6' H6 hi ⟨s6, hL⟩ ⟨rfl, hx⟩
        rw [List.getElem?_map] at hx
        obtain ⟨q, hq, rfl⟩ := Option.map_eq_some_iff.mp hx
        have hi2 := (List.getElem?_eq_some_iff.mp hq).1
        have hqW := hW q (List.mem_of_getElem? hq)
        refine ⟨rfl, _, rfl, q, _, _, _, rfl, rfl, SqT.of (s6 _ _ (s5 _ _ hqW)), atI_nat (j := 0) rfl, ?_⟩
        refine ⟨_, hL, by rw [List.length_map, List.length_take]; exact sl_lt (by omega), same_mut' s6 nD3, ?_⟩
        rw [upd_same, List.take_add_one, hq, List.map_append]
        rfl
      rintro H6 ⟨s6, hL6⟩
      rw [List.length_map, List.take_length] at hL6
      have s06 := s5.trans s6
      have at' : ∀ {i : Nat} {y : V}, (ps.map fun q => V.str (W (decH H q).1))[i]? = some y → ∃ q, ps[i]? = some q ∧ y = .str (W (decH H q).1) := fun {i y} h => by
        rw [List.getElem?_map] at h
        obtain ⟨q, hq, e⟩ := Option.map_eq_some_iff.mp h
        exact ⟨q, hq, e.symm⟩
      refine ⟨_, rfl, D3, _, rfl, SqL.of hL6, ?_⟩
      refine for_it walk_enum (fun i σ H7 => ∃ v2 v4 v5 v6 : Option V, σ = [some (.str (W fl)), some (.ref a), v2, some (.ref D3), v4, v5, v6] ∧ Same H6 H7 ∧ ∀ i' < i, restB (ps.map (decH H)) i' = false) ⟨none, none, none, none, rfl, Same.refl _, fun _ h => absurd h (Nat.not_lt_zero _)⟩ (fun i σ H7 _ h7 => by obtain ⟨_, _, _, _, _, s7, _⟩ := h7; exact s7.seq (SqL.of hL6)) ?_ ?_
      · rintro i x σ H7 H7' hi ⟨v2, v4, v5, v6, rfl, s7, hno⟩ ⟨T', y1, y2, rfl, nT, rfl, e1, e2⟩
        cases e1
        obtain ⟨q, hq, rfl⟩ := at' e2
        have hi2 := (List.getElem?_eq_some_iff.mp hq).1
        refine ⟨T', _, rfl, SqT.of upd_same, rfl, _, _, rfl, _, _, rfl, rfl, ?_⟩
        have s8 : Same H6 (upd H7 T' (.tup [.int (i : Nat), .str (W (decH H q).1)])) := s7.trans (same_upd nT)
        generalize upd H7 T' (.tup [.int (i : Nat), .str (W (decH H q).1)]) = H8 at s8 ⊢
        have hL8 := s8 _ _ hL6
        have hi3 : i < (ps.map fun q => V.str (W (decH H q).1)).length := by rw [List.length_map]; exact hi2
        refine ⟨_, rfl, _, rfl, _, rfl, D3, _, rfl, SqL.of hL8, fun p1 np1 => ?_⟩
        have q1 := same_upd (o := .lst (cutV (ps.map fun q => V.str (W (decH H q).1)) none (some ((i : Nat) : Int)))) np1
        have c1 : upd H8 p1 (.lst (cutV (ps.map fun q => V.str (W (decH H q).1)) none (some ((i : Nat) : Int)))) p1 = some (.lst (cutV (ps.map fun q => V.str (W (decH H q).1)) none (some ((i : Nat) : Int)))) := upd_same
        generalize upd H8 p1 (.lst (cutV (ps.map fun q => V.str (W (decH H q).1)) none (some ((i : Nat) : Int)))) = H9 at q1 c1 ⊢
        refine ⟨_, rfl, _, rfl, _, _, rfl, rfl, _, rfl, ?_⟩
        dsimp only [tNoPart]
        refine ⟨D3, _, rfl, SqL.of (q1 _ _ hL8), fun p2 np2 => ?_⟩
        have q2 := same_upd (o := .lst (cutV (ps.map fun q => V.str (W (decH H q).1)) (some (((i : Nat) : Int) + 1)) none)) np2
        have c2 : upd H9 p2 (.lst (cutV (ps.map fun q => V.str (W (decH H q).1)) (some (((i : Nat) : Int) + 1)) none)) p2 = some (.lst (cutV (ps.map fun q => V.str (W (decH H q).1)) (some (((i : Nat) : Int) + 1)) none)) := upd_same
        generalize upd H9 p2 (.lst (cutV (ps.map fun q => V.str (W (decH H q).1)) (some (((i : Nat) : Int) + 1)) none)) = H10 at q2 c2 ⊢
        have c1' := q2 _ _ c1
        rw [cut_to hi3] at c1'
        rw [cut_from hi3] at c2
        refine ⟨p1, p2, _, _, rfl, rfl, c1', c2, by rw [List.length_take, List.length_drop, List.length_map]; exact sl_len (by omega), fun p3 np3 => ?_⟩
        have er : (ps.map fun q => V.str (W (decH H q).1)).take i ++ (ps.map fun q => V.str (W (decH H q).1)).drop (i + 1) = (ps.take i ++ ps.drop (i + 1)).map fun q => V.str (W (decH H q).1) := by
          rw [List.map_append, List.map_take, List.map_drop]
        rw [er]
        have q3 := same_upd (o := .lst ((ps.take i ++ ps.drop (i + 1)).map fun q => V.str (W (decH H q).1))) np3
        have c3 : upd H10 p3 (.lst ((ps.take i ++ ps.drop (i + 1)).map fun q => V.str (W (decH H q).1))) p3 = some (.lst ((ps.take i ++ ps.drop (i + 1)).map fun q => V.str (W (decH H q).1))) := upd_same
        generalize upd H10 p3 (.lst ((ps.take i ++ ps.drop (i + 1)).map fun q => V.str (W (decH H q).1))) = H11 at q3 c3 ⊢
        have s11 : Same H6 H11 := ((s8.trans q1).trans q2).trans q3
        clear q1 q2 q3 c1 c2 c1' np1 np2 np3
        have erest : restB (ps.map (decH H)) i = (ps.take i ++ ps.drop (i + 1)).any fun q' => (decH H q').1.isSuffixOf (decH H q).1 := by
          unfold restB
          rw [List.getElem?_map, hq, ← List.map_take, ← List.map_drop, ← List.map_append]
          show ((ps.take i ++ ps.drop (i + 1)).map (decH H)).any (fun b => b.1.isSuffixOf (decH H q).1) = _
          rw [List.any_map]
          rfl
        have lrest : (ps.take i ++ ps.drop (i + 1)).length ≤ 1000 := by rw [List.length_append, List.length_take, List.length_drop]; omega
        generalize hrl : ps.take i ++ ps.drop (i + 1) = rl at erest lrest c3
        refine ⟨p3, rfl, ⟨_, SqL.of c3⟩, fun D4 nD4 => ?_⟩
        refine lc_it (walk_list (xs := rl.map fun q => V.str (W (decH H q).1))) (fun j H12 => Same H11 H12 ∧ ∃ ls : List V, H12 D4 = some (.lst ls) ∧ ls.length ≤ j ∧ (ls = [] ↔ ∀ j' q', j' < j → rl[j']? = some q' → (decH H q').1.isSuffixOf (decH H q).1 = false)) ⟨same_upd nD4, [], upd_same, Nat.le_refl _, fun _ j r h => absurd h (Nat.not_lt_zero _), fun _ => rfl⟩ (fun j H12 _ h12 => h12.1.seq (SqL.of c3)) ?_ ?_
        · rintro j y' H12' H12 hj ⟨s12, ls, hLs, lls, hls⟩ ⟨rfl, hx⟩
          rw [List.getElem?_map] at hx
          obtain ⟨q', hq', rfl⟩ := Option.map_eq_some_iff.mp hx
          rw [List.length_map] at hj
          refine ⟨rfl, _, rfl, ⟨_, rfl⟩, _, rfl, _, _, rfl, rfl, _, rfl, ?_⟩
          rw [W_ends]
          cases ce : (decH H q').1.isSuffixOf (decH H q).1 with
          | true =>
            refine iteBT rfl ?_
            refine ⟨ls, hLs, sl_lt (by omega), same_mut' s12 nD4, ls ++ [.int 1], upd_same, by rw [List.length_append]; show _ + 1 ≤ _; omega, fun z => absurd z (by simp), fun z => ?_⟩
            have := z j q' (by omega) hq'
            rw [ce] at this
            cases this
          | false =>
            refine iteBF rfl ?_
            refine ⟨s12, ls, hLs, by omega, ?_⟩
            rw [hls]
            refine ⟨fun h j' r hj' e => ?_, fun h j' r hj' e => h j' r (by omega) e⟩
            by_cases cj : j' = j
            · rw [cj, hq'] at e
              cases e
              exact ce
            · exact h j' r (by omega) e
        rintro H12 ⟨s12, ls, hLs, lls, hls⟩
        refine ⟨by show 0 ≤ sizeLine; decide, fun l5 nl5 => ?_⟩
        have sl5 := same_upd (o := .lst []) nl5
        have s13 := (s11.trans s12).trans sl5
        refine ⟨D4, l5, ls, rfl, rfl, SqL.of (sl5 _ _ hLs), SqL.of upd_same, _, rfl, ?_⟩
        generalize upd H12 l5 (.lst []) = H13 at s13 ⊢
        have hrest : ls = [] ↔ restB (ps.map (decH H)) i = false := by
          rw [hls, erest, List.any_eq_false]
          refine ⟨fun h x hx => ?_, fun h j' q' hj' e => Bool.eq_false_iff.mpr (h q' (List.mem_of_getElem? e))⟩
          obtain ⟨j', hj'⟩ := List.getElem?_of_mem hx
          rw [h j' x (by rw [List.length_map]; exact (List.getElem?_eq_some_iff.mp hj').1) hj']
          decide
        cases hrb : restB (ps.map (decH H)) i with
        | true =>
          refine iteNT (fun z => by rw [hrb] at hrest; exact nomatch hrest.mp z) ?_
          have hare : areB (ps.map (decH H)) = false := by
            unfold areB
            rw [show ((List.range (ps.map (decH H)).length).any (restB (ps.map (decH H)))) = true from List.any_eq_true.mpr ⟨i, List.mem_range.mpr (by rw [List.length_map]; exact hi2), hrb⟩]
            exact Bool.and_false _
          have := k H13 (s06.trans s13)
          rw [due1 hare] at this
          exact this
        | false =>
          refine iteNS (hrest.mpr hrb) ?_
          refine ⟨_, _, _, _, rfl, s13, fun i' hi' => ?_⟩
          by_cases ci : i' = i
          · rw [ci]; exact hrb
          · exact hno i' (by omega)
      · rintro σ H7 ⟨v2, v4, v5, v6, rfl, s7, hno⟩
        have hare : areB (ps.map (decH H)) = true := by
          unfold areB
          rw [hgood, Bool.true_and, Bool.not_eq_true', List.any_eq_false]
          intro i hi
          rw [hno i (by rw [List.length_map]; have := List.mem_range.mp hi; rw [List.length_map] at this; exact this)]
          decide
        obtain ⟨l2, l5⟩ := few _ _ rfl hws hare
        have s07 := s06.trans s7
        have hS7 := hS.same s07
        refine ⟨_, rfl, _, rfl, a, _, rfl, hS7, fun L nL => ⟨by show 2 ≤ sizeLine; decide, fun tt ntt => ?_⟩⟩
        have q1 := same_upd (o := .lst (ps.map V.ref)) nL
        have hLl : upd H7 L (.lst (ps.map V.ref)) L = some (.lst (ps.map V.ref)) := upd_same
        generalize upd H7 L (.lst (ps.map V.ref)) = H8 at q1 hLl ntt ⊢
        have q2 := same_upd (o := .tup [.str (W fl), .ref L]) ntt
        have htt : upd H8 tt (.tup [.str (W fl), .ref L]) tt = some (.tup [.str (W fl), .ref L]) := upd_same
        have hL9 := q2 _ _ hLl
        have s09 := (s07.trans q1).trans q2
        generalize upd H8 tt (.tup [.str (W fl), .ref L]) = H9 at s09 htt hL9 ⊢
        have em : (ps.map (decH H)).map stO = ps.map (stO ∘ decH H) := List.map_map
        have hst : StV H9 (stO ∘ decH H) ps := fun p hp => by
          have := s09 _ _ (hW p hp)
          rw [are_one hare (List.mem_map_of_mem hp)] at this
          exact this
        refine ⟨tt, fl, ps.map (stO ∘ decH H), rfl, ⟨L, ps, stO ∘ decH H, htt, hL9, hst, rfl⟩, by rw [List.length_map]; exact lps, fun x hx => ?_, fun r H10 s10 hr1 hr0 => ⟨_, rfl, ?_⟩⟩
        · obtain ⟨p, hp, rfl⟩ := List.mem_map.mp hx
          exact l5 _ (List.mem_map_of_mem hp)
        rw [em] at due2 due3
        have ok : StOk (ps.map (stO ∘ decH H)) := by
          have := are_ok hare (by rw [List.length_map]; exact lps) (fun x hx => by obtain ⟨p, hp, rfl⟩ := List.mem_map.mp hx; exact (hB p hp).1)
          rw [em] at this
          exact this
        cases r with
        | true =>
          refine iteBT rfl ?_
          have := k H10 (s09.trans s10)
          rw [due2 hare (hr1 rfl).2.ok] at this
          exact this
        | false =>
          refine iteBF rfl ?_
          have := k H10 (s09.trans s10)
          rw [due3 hare fun o => hr0 rfl (by rw [List.length_map] at l2 ⊢; exact l2) ok.free o] at this
          exact this
theorem sc_l_heard : FnScope ["_law_flag", "_law_stuffs", "_law_found", "e"] ["_law_flag", "_law_stuffs"] (fnScope s_l_heard) := fnScope_by (by decide +kernel)
theorem cal_l_heard {f C CRI CFE CKI : Addr} {fd : FuncData} (F : Def K mg "_law_heard" s_l_heard f fd) (b : Binds K fd ["_law_flag", "_law_stuffs"] []) (T : Tx mg) (g_InvalidRule : mg "InvalidRule" = some (.ref CRI)) (ex_InvalidRule : PySem.W.exmOne K (.ref CRI) (.ref CRI) = some true) (XF_InvalidRule : XfC K CRI) (nw_InvalidRule : PySem.W.findIn K (.ref CRI) "word" = some none)
    (gi_FlipError : mg "FlipError" = some (.ref CFE)) (gi_InvalidCheck : mg "InvalidCheck" = some (.ref CKI)) (xc_InvalidRule : L2.ExcC K CRI) (kon_inr_flip : PySem.W.kitOne K (.ref CRI) (.ref CFE) = some true) (kon_inr_check : PySem.W.kitOne K (.ref CRI) (.ref CKI) = some false)
    (mX_Rule2 : ExS.MakX P w K mg base 5 "Rule" C (spRuInitA K C CRI) []) : Cal P w K mg base 7 "_law_heard" (spLHeard K) [] := by
  refine cal0 F b .nil sc_l_heard (fun vs H Q E h => ?_) (fun cdv A outer s H vs Q E hr h => ?_)
  · obtain ⟨_, _, _, rfl, _⟩ := h; rfl
  · obtain ⟨v, sv, r, rfl, hv, lv, hs, k⟩ := h
    refine ⟨_, (pss_cons (ps_set (i := 2) sc_l_heard.nd rfl (.inl rfl) pe_non)
    (pss_cons (ps_try_as (i := 3) rfl rfl sc_l_heard.nd rfl rfl ⟨rfl, by decide, .inl g_InvalidRule⟩ ExS.takes0 (fun W pn xe tk po => (pss_one (ps_expr (ExS.pe_mkT mX_Rule2 hr (by decide) tk rfl (pa_cons (pv 0) (pa_cons (pv 1) pa_nil)))))) (fun a oe cls d pn zc zf => (pss_one (ps_set (i := 2) sc_l_heard.nd rfl (.inl rfl) (pe_ifExp (PW.pt (pw_and (pt_val (pe_callB (show CallR _ _ (ExS.rIsD K a cls d) from ExS.call_isD zc zf) (by rfl) T.b_isinstance (by decide +kernel) (pa_cons (pv 3) (pa_cons (pe_glob (v := .ref _) (by rfl) gi_FlipError rfl) pa_nil)))) (pw_and1 (pt_not (pt_val (pe_callB (show CallR _ _ (ExS.rIsD K a cls d) from ExS.call_isD zc zf) (by rfl) T.b_isinstance (by decide +kernel) (pa_cons (pv 3) (pa_cons (pe_glob (v := .ref _) (by rfl) gi_InvalidCheck rfl) pa_nil)))))))) (pe_xf XF_InvalidRule nw_InvalidRule zc zf (pv 3)) pe_str)))))
    (pss_one (ps_ret (pv 2))))), ?_⟩
    refine ⟨_, rfl, _, rfl, fun x dx nx ndx nex => ?_⟩
    have sm : Same H (upd (upd H dx (.own x)) x (.ins C dx [])) := fun c o e => by
      rw [upd_ne (ne_of_none e nx), upd_ne (ne_of_none e ndx)]; exact e
    refine ⟨x, dx, v, sv, r, rfl, upd_same, hv.same sm, lv, hs.same sm, fun msg hm d H' keep hd => ?_, fun hm H' keep => ?_⟩
    · refine ⟨true, ex_InvalidRule, fun _ ea hea => ?_, fun z => by cases z⟩
      refine ⟨_, rfl, CRI, d, _, _, _, true, rfl, rfl, rfl, hd, xc_InvalidRule, .own _, kon_inr_flip, _, rfl, iteT ?_⟩
      refine ⟨_, rfl, CRI, d, _, _, _, false, rfl, rfl, rfl, hd, xc_InvalidRule, .own _, kon_inr_check, _, rfl, iteT ?_⟩
      refine ⟨_, rfl, rfl, rfl, d, _, _, rfl, hd, rfl, ?_⟩
      have := k H' (Same.madeA nx ndx keep)
      rw [hm] at this
      exact ⟨_, rfl, this⟩
    · refine ⟨rfl, _, rfl, ?_⟩
      have := k H' (Same.madeA nx ndx keep)
      rw [hm] at this
      exact this
end
end U
set_option maxRecDepth 100000
set_option maxHeartbeats 4000000
namespace U
open PySem PySem.Spec PyProof.Rows
open L2 hiding Fun CX0 E0 pass0 Fun.binds
open C8 Lx SX StX
def ElU (K : PySem.W.Frag) (bx : Addr) (H : Hp) (x : V) : Prop := ∀ H', Up bx H H' → ∃ r, ElR K H' x r ∧ ∀ ww, r = some ww → ww.1.length ≤ 5
def SqU (K : PySem.W.Frag) (bx : Addr) (H : Hp) (x : V) : Prop := ∀ H', Up bx H H' → ∃ r, SeqR K H' x r ∧ FewR r
def FlU (K : PySem.W.Frag) (bx : Addr) (H : Hp) (x : V) : Prop := AnyU K bx H x ∧ lnV x ≤ 1000
theorem ElU.up {K : PySem.W.Frag} {bx : Addr} {H H' : Hp} {x : V} (h : ElU K bx H x) (u : Up bx H H') : ElU K bx H' x := fun H2 u2 => h H2 (u.trans u2)
theorem SqU.up {K : PySem.W.Frag} {bx : Addr} {H H' : Hp} {x : V} (h : SqU K bx H x) (u : Up bx H H') : SqU K bx H' x := fun H2 u2 => h H2 (u.trans u2)
theorem FlU.up {K : PySem.W.Frag} {bx : Addr} {H H' : Hp} {x : V} (h : FlU K bx H x) (u : Up bx H H') : FlU K bx H' x := ⟨h.1.up u, h.2⟩
theorem few_none : FewR none := fun _ _ e => nomatch e
theorem allO_len {α : Type} {rs : List (Option α)} {ws : List α} (h : allO rs = some ws) : ws.length = rs.length := by
  have := allO_map h
  rw [this, List.length_map]
theorem few_two {rs : List (Option WW)} (l : rs.length ≤ 2) (h : ∀ ww, some ww ∈ rs → ww.1.length ≤ 5) : FewR (some rs) := fun rs' ws e hr _ => by
  cases e
  refine ⟨by rw [allO_len hr]; exact l, fun x hx => h x ?_⟩
  rw [allO_map hr]
  exact List.mem_map_of_mem hx
def scalE : V → Bool
  | .non => true
  | .bl _ => true
  | .int _ => true
  | .str z => decide (z.length ≤ 1000) && PyData.strOk z
  | _ => false
theorem el_sc {K : PySem.W.Frag} {bx : Addr} {H : Hp} {v : V} (h : scalE v = true) : ElU K bx H v := fun _ _ => by
  refine ⟨none, .oth ?_, fun _ e => nomatch e⟩
  cases v with
  | non => exact ⟨_, fun _ _ => .base .non, kit_ty (by decide +kernel)⟩
  | bl b => exact ⟨_, fun _ _ => .base (.bl b), kit_ty (by decide +kernel)⟩
  | int i => exact ⟨_, fun _ _ => .base (.int i), kit_ty (by decide +kernel)⟩
  | str z => exact ⟨_, fun _ _ => .base (.str z), kit_ty (by decide +kernel)⟩
  | _ => cases h
theorem sq_scH {K : PySem.W.Frag} {H : Hp} {v : V} (h : scalE v = true) : ∃ r, SeqR K H v r ∧ FewR r := by
  refine ⟨none, ?_, few_none⟩
  cases v with
  | non => exact .no _ (fun _ _ => .base .non) (kit_ty (by decide +kernel)) (kit_ty (by decide +kernel))
  | bl b => exact .no _ (fun _ _ => .base (.bl b)) (kit_ty (by decide +kernel)) (kit_ty (by decide +kernel))
  | int i => exact .no _ (fun _ _ => .base (.int i)) (kit_ty (by decide +kernel)) (kit_ty (by decide +kernel))
  | str z => exact .no _ (fun _ _ => .base (.str z)) (kit_ty (by decide +kernel)) (kit_ty (by decide +kernel))
  | _ => cases h
theorem sq_sc {K : PySem.W.Frag} {bx : Addr} {H : Hp} {v : V} (h : scalE v = true) : SqU K bx H v := fun _ _ => sq_scH h
theorem any_sc {K : PySem.W.Frag} {bx : Addr} {H : Hp} {v : V} (h : scalE v = true) : AnyU K bx H v := by
  cases v with
  | non => exact fun _ _ => anyS_non
  | bl b => exact fun _ _ => anyS_bl b
  | int i => exact fun _ _ => anyS_int i
  | str z =>
    have h : (decide (z.length ≤ 1000) && PyData.strOk z) = true := h
    rw [Bool.and_eq_true, decide_eq_true_iff] at h
    exact anyU_str (by omega) h.2
  | _ => cases h
theorem fl_sc {K : PySem.W.Frag} {bx : Addr} {H : Hp} {v : V} (h : scalE v = true) : FlU K bx H v := ⟨any_sc h, by
  cases v with
  | str z =>
    have h : (decide (z.length ≤ 1000) && PyData.strOk z) = true := h
    rw [Bool.and_eq_true, decide_eq_true_iff] at h
    exact h.1
  | _ => exact Nat.zero_le _⟩
theorem el_two {K : PySem.W.Frag} {H : Hp} {a : Addr} {x y : V} (h : H a = some (.tup [x, y])) (hx : AnyS K H x) (hy : AnyS K H y) (lx : ∀ z, x = .str z → z.length ≤ 5) (ly : ∀ z, y = .str z → z.length ≤ 5) : ∃ r, ElR K H (.ref a) r ∧ ∀ ww, r = some ww → ww.1.length ≤ 5 := by
  by_cases c : wordB x = true ∧ wordB y = true
  · obtain ⟨p, rfl⟩ := wordB_some c.1
    obtain ⟨q, rfl⟩ := wordB_some c.2
    have hp := lx _ rfl
    have hq := ly _ rfl
    rw [W_len] at hp hq
    exact ⟨_, .pair h (by omega) (by omega), fun ww e => by cases e; exact hp⟩
  · refine ⟨none, .bad (SqT.of h) hx hy ?_, fun _ e => nomatch e⟩
    cases e1 : wordB x with
    | false => exact .inl rfl
    | true =>
      cases e2 : wordB y with
      | false => exact .inr rfl
      | true => exact absurd ⟨e1, e2⟩ c
def shE : V → Bool
  | .str z => decide (z.length ≤ 5)
  | _ => true
theorem sh_le {x : V} (h : shE x = true) : ∀ z, x = .str z → z.length ≤ 5 := fun z e => by
  subst e
  exact of_decide_eq_true h
theorem el_tup2 {K : PySem.W.Frag} {bx a : Addr} {H : Hp} {x y : V} (hb : Box H bx) (h : H a = some (.tup [x, y])) (hx : AnyU K bx H x) (hy : AnyU K bx H y) (lx : shE x = true) (ly : shE y = true) : ElU K bx H (.ref a) := fun H' u =>
  el_two (u.1 _ _ h (hb.neT h)) (hx H' u) (hy H' u) (sh_le lx) (sh_le ly)
theorem el_tupN {K : PySem.W.Frag} {bx a : Addr} {H : Hp} {xs : List V} (hb : Box H bx) (h : H a = some (.tup xs)) (n : xs.length ≠ 2) (l : xs.length ≤ 1000) : ElU K bx H (.ref a) := fun H' u =>
  ⟨none, .len (SqT.of (u.1 _ _ h (hb.neT h))) n l, fun _ e => nomatch e⟩
theorem el_lst {K : PySem.W.Frag} {bx a : Addr} {H : Hp} {xs : List V} (h : H a = some (.lst xs)) (n : a ≠ bx) : ElU K bx H (.ref a) := fun H' u =>
  ⟨none, .oth ⟨_, fun _ s => .base (.lst (s _ _ (u.1 _ _ h n))), kit_ty (by decide +kernel)⟩, fun _ e => nomatch e⟩
theorem els_of {K : PySem.W.Frag} {H : Hp} : ∀ {xs : List V}, (∀ x ∈ xs, ∃ r, ElR K H x r ∧ ∀ ww, r = some ww → ww.1.length ≤ 5) → ∃ rs, Paired (ElR K H) xs rs ∧ ∀ ww, some ww ∈ rs → ww.1.length ≤ 5
  | [], _ => ⟨[], .nil, fun _ h => nomatch h⟩
  | x :: r, h => by
    obtain ⟨rx, hx, lx⟩ := h x List.mem_cons_self
    obtain ⟨rs, hr, lr⟩ := els_of (K := K) (H := H) (xs := r) fun y hy => h y (List.mem_cons_of_mem _ hy)
    refine ⟨rx :: rs, .cons hx hr, fun ww hw => ?_⟩
    rcases List.mem_cons.mp hw with e | hw
    · exact lx ww e.symm
    · exact lr ww hw
theorem sq_lst {K : PySem.W.Frag} {bx a : Addr} {H : Hp} {xs : List V} (h : H a = some (.lst xs)) (n : a ≠ bx) (l : xs.length ≤ 2) (k : ∀ x ∈ xs, ElU K bx H x) : SqU K bx H (.ref a) := fun H' u => by
  obtain ⟨rs, h1, h2⟩ := els_of fun x hx => k x hx H' u
  exact ⟨_, .seq (.inl (SqL.of (u.1 _ _ h n))) (by omega) h1, few_two (by rw [← paired_all h1]; exact l) h2⟩
theorem sq_tup {K : PySem.W.Frag} {bx a : Addr} {H : Hp} {xs : List V} (hb : Box H bx) (h : H a = some (.tup xs)) (l : xs.length ≤ 2) (k : ∀ x ∈ xs, ElU K bx H x) : SqU K bx H (.ref a) := fun H' u => by
  obtain ⟨rs, h1, h2⟩ := els_of fun x hx => k x hx H' u
  exact ⟨_, .seq (.inr (SqT.of (u.1 _ _ h (hb.neT h)))) (by omega) h1, few_two (by rw [← paired_all h1]; exact l) h2⟩
theorem lf_short : ∀ v ∈ lfV, (scalE v && shE v && (match v with | .str z => !isW z || decide (unW z ∈ [[], [false], [true], [false, true]]) | _ => true)) = true := List.all_eq_true.mp (by decide +kernel)
def pat4 (p : List Bool) : Prop := p ∈ [[], [false], [true], [false, true]]
theorem AnV.el {K : PySem.W.Frag} {H : Hp} {n : Nat} {v : V} (h : AnV n H v) : ∃ r, ElR K H v r ∧ ∀ ww, r = some ww → ww.1.length ≤ 5 ∧ pat4 ww.1 := by
  have leaf : ∀ {v : V}, v ∈ lfV → ∃ r, ElR K H v r ∧ ∀ ww, r = some ww → ww.1.length ≤ 5 ∧ pat4 ww.1 := fun {v} hv => by
    have h := lf_short v hv
    rw [Bool.and_eq_true, Bool.and_eq_true] at h
    refine ⟨none, .oth ?_, fun _ e => nomatch e⟩
    cases v with
    | non => exact ⟨_, fun _ _ => .base .non, kit_ty (by decide +kernel)⟩
    | bl b => exact ⟨_, fun _ _ => .base (.bl b), kit_ty (by decide +kernel)⟩
    | int i => exact ⟨_, fun _ _ => .base (.int i), kit_ty (by decide +kernel)⟩
    | str z => exact ⟨_, fun _ _ => .base (.str z), kit_ty (by decide +kernel)⟩
    | _ => exact nomatch h.1.1
  cases n with
  | zero => exact leaf h
  | succ n =>
    rcases h with h | ⟨a, xs, rfl, h | h, l, k⟩
    · exact leaf h
    · exact ⟨none, .oth ⟨_, fun _ s => .base (.lst (s _ _ h)), kit_ty (by decide +kernel)⟩, fun _ e => nomatch e⟩
    · by_cases c : xs.length = 2
      rotate_left
      · exact ⟨none, .len (SqT.of h) c (by omega), fun _ e => nomatch e⟩
      match xs, c with
      | [x, y], _ =>
        have hx := k x (by simp)
        have hy := k y (by simp)
        by_cases c : wordB x = true ∧ wordB y = true
        · obtain ⟨p, rfl⟩ := wordB_some c.1
          obtain ⟨q, rfl⟩ := wordB_some c.2
          have lf : ∀ {m : Nat} {z : Str}, AnV m H (.str z) → V.str z ∈ lfV := fun {m z} h => by
            cases m with
            | zero => exact h
            | succ m =>
              rcases h with h | ⟨a, xs, e, _⟩
              · exact h
              · cases e
          have fp := lf_short _ (lf hx)
          have fq := lf_short _ (lf hy)
          rw [Bool.and_eq_true, Bool.and_eq_true] at fp fq
          have lp := sh_le fp.1.2 _ rfl
          have lq := sh_le fq.1.2 _ rfl
          rw [W_len] at lp lq
          have fp3 : (!isW (W p) || decide (unW (W p) ∈ [[], [false], [true], [false, true]])) = true := fp.2
          rw [isW_W, unW_W] at fp3
          have fp4 : decide (p ∈ [[], [false], [true], [false, true]]) = true := fp3
          exact ⟨_, .pair h (by omega) (by omega), fun ww e => by cases e; exact ⟨lp, show p ∈ [[], [false], [true], [false, true]] from of_decide_eq_true fp4⟩⟩
        · refine ⟨none, .bad (SqT.of h) hx.any hy.any ?_, fun _ e => nomatch e⟩
          cases e1 : wordB x with
          | false => exact .inl rfl
          | true =>
            cases e2 : wordB y with
            | false => exact .inr rfl
            | true => exact absurd ⟨e1, e2⟩ c
theorem els4_of {K : PySem.W.Frag} {H : Hp} : ∀ {xs : List V}, (∀ x ∈ xs, ∃ r, ElR K H x r ∧ ∀ ww, r = some ww → ww.1.length ≤ 5 ∧ pat4 ww.1) → ∃ rs, Paired (ElR K H) xs rs ∧ ∀ ww, some ww ∈ rs → ww.1.length ≤ 5 ∧ pat4 ww.1
  | [], _ => ⟨[], .nil, fun _ h => nomatch h⟩
  | x :: r, h => by
    obtain ⟨rx, hx, lx⟩ := h x List.mem_cons_self
    obtain ⟨rs, hr, lr⟩ := els4_of (K := K) (H := H) (xs := r) fun y hy => h y (List.mem_cons_of_mem _ hy)
    refine ⟨rx :: rs, .cons hx hr, fun ww hw => ?_⟩
    rcases List.mem_cons.mp hw with e | hw
    · exact lx ww e.symm
    · exact lr ww hw
theorem pat_three : ∀ a ∈ [[], [false], [true], [false, true]], ∀ b ∈ [[], [false], [true], [false, true]], ∀ c ∈ [[], [false], [true], [false, true]],
    ((List.isSuffixOf a b) || (List.isSuffixOf b a) || (List.isSuffixOf a c) || (List.isSuffixOf c a) || (List.isSuffixOf b c) || (List.isSuffixOf c b) || decide (a = []) || decide (b = []) || decide (c = [])) = true := by decide +kernel
theorem few_pat {rs : List (Option WW)} (l : rs.length ≤ 3) (h : ∀ ww, some ww ∈ rs → ww.1.length ≤ 5 ∧ pat4 ww.1) : FewR (some rs) := fun rs' ws e hr hare => by
  cases e
  have hm : ∀ x ∈ ws, some x ∈ rs := fun x hx => by rw [allO_map hr]; exact List.mem_map_of_mem hx
  refine ⟨?_, fun x hx => (h x (hm x hx)).1⟩
  have lw := allO_len hr
  refine Classical.byContradiction fun hn => ?_
  have ok := are_ok hare (by omega) (fun x hx => Nat.le_trans (h x (hm x hx)).1 (by decide))
  match ws, lw with
  | [a, b, c], _ =>
    have ha := (h a (hm a (by simp))).2
    have hb := (h b (hm b (by simp))).2
    have hc := (h c (hm c (by simp))).2
    have p := pat_three _ ha _ hb _ hc
    have f := ok.free
    unfold SufFree at f
    simp only [List.map_cons, List.map_nil, List.pairwise_cons, List.mem_cons, List.not_mem_nil, or_false, forall_eq_or_imp, forall_eq] at f
    have na := ok.pos (stO a) (by simp)
    have nb := ok.pos (stO b) (by simp)
    have nc := ok.pos (stO c) (by simp)
    simp only [Bool.or_eq_true, decide_eq_true_eq, List.isSuffixOf_iff_suffix] at p
    obtain ⟨⟨⟨f1, f2⟩, f3, f4⟩, ⟨f5, f6⟩, _⟩ := f
    rcases p with (((((((p | p) | p) | p) | p) | p) | p) | p) | p
    · exact f1 p
    · exact f2 p
    · exact f3 p
    · exact f4 p
    · exact f5 p
    · exact f6 p
    · exact na p
    · exact nb p
    · exact nc p
  | [], _ => exact hn (by simp)
  | [_], _ => exact hn (by simp)
  | [_, _], _ => exact hn (by simp)
  | _ :: _ :: _ :: _ :: _, lw => simp only [List.length_cons] at lw; omega
theorem AnV.seq {K : PySem.W.Frag} {H : Hp} {n : Nat} {v : V} (h : AnV n H v) : ∃ r, SeqR K H v r ∧ FewR r := by
  have leaf : ∀ {v : V}, v ∈ lfV → ∃ r, SeqR K H v r ∧ FewR r := fun {v} hv => by
    have h := lf_short v hv
    rw [Bool.and_eq_true, Bool.and_eq_true] at h
    exact sq_scH h.1.1
  cases n with
  | zero => exact leaf h
  | succ n =>
    rcases h with h | ⟨a, xs, rfl, h, l, k⟩
    · exact leaf h
    · obtain ⟨rs, h1, h2⟩ := els4_of (K := K) (H := H) fun x hx => (k x hx).el
      exact ⟨_, .seq (h.imp SqL.of SqT.of) (by omega) h1, few_pat (by rw [← paired_all h1]; exact l) h2⟩
theorem AnX.el {K : PySem.W.Frag} {bx : Addr} {H H' : Hp} {n : Nat} {v : V} (h : AnX n H H' v) (hb : Box H bx) : ElU K bx H' v := fun _ u => by
  obtain ⟨r, h1, h2⟩ := (h.up hb u).now.el (K := K)
  exact ⟨r, h1, fun ww e => (h2 ww e).1⟩
theorem AnX.sq {K : PySem.W.Frag} {bx : Addr} {H H' : Hp} {n : Nat} {v : V} (h : AnX n H H' v) (hb : Box H bx) : SqU K bx H' v := fun _ u => (h.up hb u).now.seq
theorem no_end {ss : List Stf} {S : List Bool → Prop} (hS : ∀ l, S l → ∃ b, putM ss l = some b ∧ S (l ++ [b])) {l x : List Bool} (h : Ins ss l x) : S l → False := by
  induction h with
  | stop h0 =>
    intro s
    obtain ⟨b, e, _⟩ := hS _ s
    rw [h0] at e
    cases e
  | @more l x b h0 _ ih =>
    intro s
    obtain ⟨b', e, s'⟩ := hS _ s
    rw [h0] at e
    cases e
    exact ih s'
end U
set_option maxRecDepth 100000
set_option maxHeartbeats 4000000
namespace U
open PySem PySem.Spec PyProof.Rows
open L2 hiding Fun CX0 E0 pass0 Fun.binds
open C8 Lx SX StX
def spDeep : Sp := fun vs H Q _ => vs = [] ∧ ∀ a xs H', Same H H' → H a = none → H' a = some (.lst xs) → Q (.ref a) H'
def upW (s : Stf) : WW := (s.1, [s.2])
theorem are_of {ss : List Stf} (ok : StOk ss) : areB (ss.map upW) = true := by
  unfold areB
  rw [Bool.and_eq_true]
  constructor
  · rw [List.all_map, List.all_eq_true]
    intro s hs
    show (decide (0 < s.1.length) && decide (1 = 1)) = true
    rw [decide_eq_true (List.length_pos_iff.mpr (ok.pos s hs))]
    rfl
  · rw [Bool.not_eq_true', List.any_eq_false]
    intro i hi hr
    have hi2 : i < ss.length := by have := List.mem_range.mp hi; rw [List.length_map] at this; exact this
    unfold restB at hr
    rw [List.getElem?_map, List.getElem?_eq_getElem hi2] at hr
    have hr : ((ss.map upW).take i ++ (ss.map upW).drop (i + 1)).any (fun b => b.1.isSuffixOf ss[i].1) = true := hr
    rw [List.any_eq_true] at hr
    obtain ⟨x, hx, hs⟩ := hr
    have : ∃ j, j ≠ i ∧ ∃ b, ss[j]? = some b ∧ x = upW b := by
      rcases List.mem_append.mp hx with hx | hx
      · obtain ⟨j, hj⟩ := List.getElem?_of_mem hx
        have hj2 := (List.getElem?_eq_some_iff.mp hj).1
        rw [List.length_take, List.length_map] at hj2
        rw [List.getElem?_take, if_pos (by omega), List.getElem?_map] at hj
        obtain ⟨b, hb, rfl⟩ := Option.map_eq_some_iff.mp hj
        exact ⟨j, by omega, b, hb, rfl⟩
      · obtain ⟨j, hj⟩ := List.getElem?_of_mem hx
        rw [List.getElem?_drop, List.getElem?_map] at hj
        obtain ⟨b, hb, rfl⟩ := Option.map_eq_some_iff.mp hj
        exact ⟨i + 1 + j, by omega, b, hb, rfl⟩
    obtain ⟨j, ji, b, hb, rfl⟩ := this
    exact suf_no ok.free (Ne.symm ji) (List.getElem?_eq_getElem hi2) hb hs
theorem upW_st (ss : List Stf) : (ss.map upW).map stO = ss := by
  rw [List.map_map]
  conv => rhs; rw [← List.map_id ss]
  exact List.map_congr_left fun s _ => rfl
theorem allO_somes {α : Type} : ∀ ws : List α, allO (ws.map some) = some ws
  | [] => rfl
  | w :: r => by
    show (allO (r.map some)).map (w :: ·) = _
    rw [allO_somes r]
    rfl
theorem fl_ok {f : List Bool} (h : 2 ≤ f.length) : flagB (.str (W f)) = true := by
  unfold flagB
  rw [show wordB (.str (W f)) = true from isW_W f, decide_eq_true (show 2 ≤ lnV (.str (W f)) by show 2 ≤ (W f).length; rw [W_len]; exact h)]
  rfl
theorem told_due {f : List Bool} {ss : List Stf} (h : 2 ≤ f.length) (ok : StOk ss) (o : OkR ss) : dueI (.str (W f)) (some ((ss.map upW).map some)) = none :=
  (due_good (fl_ok h) (allO_somes _)).2.1 (are_of ok) (by rw [upW_st]; exact o)
theorem endless_due {f : List Bool} {ss : List Stf} (h : 2 ≤ f.length) (ok : StOk ss) (o : ¬ OkR ss) : dueI (.str (W f)) (some ((ss.map upW).map some)) = some ("endless" : Str) :=
  (due_good (fl_ok h) (allO_somes _)).2.2 (are_of ok) (by rw [upW_st]; exact o)
theorem pair_st {K : PySem.W.Frag} {H : Hp} {kb : Addr → Stf} : ∀ {ps : List Addr}, StV H kb ps → (∀ p ∈ ps, (kb p).1.length ≤ 9) → Paired (ElR K H) (ps.map V.ref) (((ps.map kb).map upW).map some)
  | [], _, _ => .nil
  | p :: r, h, l => .cons (.pair (h p List.mem_cons_self) (l p List.mem_cons_self) (by show 1 ≤ 9; decide)) (pair_st (ps := r) (fun q hq => h q (List.mem_cons_of_mem _ hq)) fun q hq => l q (List.mem_cons_of_mem _ hq))
structure LsK (P : Hp → V → Prop) (bx : Addr) (H : Hp) (L : Addr) (vs : List V) : Prop where
  ls : H L = some (.lst vs)
  ne : L ≠ bx
  all : ∀ v ∈ vs, P H v
theorem LsK.up {P : Hp → V → Prop} {bx L : Addr} {H H' : Hp} {vs : List V} (h : LsK P bx H L vs) (u : Up bx H H') (hP : ∀ {v}, P H v → P H' v) : LsK P bx H' L vs := ⟨u.1 _ _ h.ls h.ne, h.ne, fun v hv => hP (h.all v hv)⟩
theorem al_nil {P : Hp → V → Prop} {H : Hp} : ∀ v ∈ ([] : List V), P H v := fun _ h => nomatch h
theorem al_cons {P : Hp → V → Prop} {H : Hp} {x : V} {r : List V} (h : P H x) (t : ∀ v ∈ r, P H v) : ∀ v ∈ x :: r, P H v := fun v hv => (List.mem_cons.mp hv).elim (fun e => e ▸ h) (t v)
theorem mkLs {P : Hp → V → Prop} {bx p : Addr} {H : Hp} {xs : List V} (hb : Box H bx) (n : H p = none) (h : ∀ v ∈ xs, P H v) (hP : ∀ {H' v}, P H v → Up bx H H' → P H' v) : Up bx H (upd H p (.lst xs)) ∧ LsK P bx (upd H p (.lst xs)) p xs :=
  ⟨Up.of_same hb (same_upd n), upd_same, hb.ne n, fun v hv => hP (h v hv) (Up.of_same hb (same_upd n))⟩
theorem mkE2 {K : PySem.W.Frag} {bx p : Addr} {H : Hp} {x y : V} (hb : Box H bx) (n : H p = none) (hx : AnyU K bx H x) (hy : AnyU K bx H y) (lx : shE x = true) (ly : shE y = true) : Up bx H (upd H p (.tup [x, y])) ∧ ElU K bx (upd H p (.tup [x, y])) (.ref p) := by
  have u := Up.of_same hb (same_upd (o := .tup [x, y]) n)
  exact ⟨u, el_tup2 u.2 upd_same (hx.up u) (hy.up u) lx ly⟩
theorem mkE1 {K : PySem.W.Frag} {bx p : Addr} {H : Hp} {x : V} (hb : Box H bx) (n : H p = none) : Up bx H (upd H p (.tup [x])) ∧ ElU K bx (upd H p (.tup [x])) (.ref p) := by
  have u := Up.of_same hb (same_upd (o := .tup [x]) n)
  exact ⟨u, el_tupN u.2 upd_same (by show 1 ≠ 2; decide) (by show 1 ≤ 1000; decide)⟩
theorem mkEL {K : PySem.W.Frag} {bx p : Addr} {H : Hp} {xs : List V} (hb : Box H bx) (n : H p = none) : Up bx H (upd H p (.lst xs)) ∧ ElU K bx (upd H p (.lst xs)) (.ref p) :=
  ⟨Up.of_same hb (same_upd n), el_lst upd_same (hb.ne n)⟩
theorem mkFL {K : PySem.W.Frag} {bx p : Addr} {H : Hp} {xs : List V} (hb : Box H bx) (n : H p = none) : Up bx H (upd H p (.lst xs)) ∧ FlU K bx (upd H p (.lst xs)) (.ref p) :=
  ⟨Up.of_same hb (same_upd n), anyU_lst upd_same (hb.ne n), Nat.zero_le _⟩
structure B3 (C bx m t : Addr) (fl : List Bool) (ss ss0 : List Stf) (H : Hp) : Prop where
  box : Box H bx
  ru : RuAt C H m fl ss
  told : Told H t fl ss0
theorem B3.up {C bx m t : Addr} {fl : List Bool} {ss ss0 : List Stf} {H H' : Hp} (h : B3 C bx m t fl ss ss0 H) (u : Up bx H H') : B3 C bx m t fl ss ss0 H' := ⟨u.2, h.ru.up h.box u, h.told.up h.box u⟩
structure Bt (bx t : Addr) (fl : List Bool) (ss0 : List Stf) (H : Hp) : Prop where
  box : Box H bx
  told : Told H t fl ss0
theorem Bt.up {bx t : Addr} {fl : List Bool} {ss0 : List Stf} {H H' : Hp} (h : Bt bx t fl ss0 H) (u : Up bx H H') : Bt bx t fl ss0 H' := ⟨u.2, h.told.up h.box u⟩
theorem B3.of {C bx m t : Addr} {fl : List Bool} {ss ss0 : List Stf} {H : Hp} (h : Bt bx t fl ss0 H) (r : RuAt C H m fl ss) : B3 C bx m t fl ss ss0 H := ⟨h.box, r, h.told⟩
theorem ru_ty {K : PySem.W.Frag} {C m : Addr} {H : Hp} {fl : List Bool} {ss : List Stf} (I : IsT K C) (h : RuAt C H m fl ss) : ∀ H', Same H H' → TyX K H' (.ref m) (.ref C) := fun H' s => by
  obtain ⟨d9, t9, _, _, ha9, _⟩ := h
  exact I.ty (s _ _ ha9)
theorem ru_el {K : PySem.W.Frag} {C bx m t : Addr} {fl : List Bool} {ss ss0 : List Stf} {H : Hp} (B : B3 C bx m t fl ss ss0 H) (I : IsT K C) (k : PySem.W.kitOne K (.ref C) (.type "tuple") = some false) : ElU K bx H (.ref m) := fun H' u =>
  ⟨none, .oth ⟨_, ru_ty I (B.up u).ru, k⟩, fun _ e => nomatch e⟩
theorem ru_sq {K : PySem.W.Frag} {C bx m t : Addr} {fl : List Bool} {ss ss0 : List Stf} {H : Hp} (B : B3 C bx m t fl ss ss0 H) (I : IsT K C) (k : PySem.W.kitOne K (.ref C) (.type "tuple") = some false) (k2 : PySem.W.kitOne K (.ref C) (.type "list") = some false) : SqU K bx H (.ref m) := fun H' u =>
  ⟨none, .no _ (ru_ty I (B.up u).ru) k2 k, few_none⟩
theorem ru_any {K : PySem.W.Frag} {C bx m t : Addr} {fl : List Bool} {ss ss0 : List Stf} {H : Hp} (B : B3 C bx m t fl ss ss0 H) (I : IsT K C) (k : PySem.W.kitOne K (.ref C) (.type "str") = some false) : AnyU K bx H (.ref m) := fun H' u =>
  .inr ⟨(fun _ z => by cases z), _, k, ru_ty I (B.up u).ru⟩
theorem same_outA (o : Option Str) : scal (dueV o) (dueV o) = true := by cases o <;> rfl
theorem Same.mkA {H H' : Hp} {x dx : Addr} {C : Addr} (nx : H x = none) (ndx : H dx = none) (keep : ∀ b o, upd (upd H dx (.own x)) x (.ins C dx []) b = some o → b ≠ x → H' b = some o) : Same H H' := Same.madeA nx ndx keep
theorem cut1 {xs : List V} : (cutV xs none (some 1)).length ≤ 1 := by
  unfold cutV
  rw [List.length_take, show (some (1 : Int)) = some ((1 : Nat) : Int) from rfl, HT.sIx_nat]
  omega
theorem cut_memA {xs : List V} {lo hi : Option Int} {v : V} (h : v ∈ cutV xs lo hi) : v ∈ xs := List.mem_of_mem_drop (List.mem_of_mem_take h)
theorem shW {w : List Bool} (h : w.length ≤ 5) : shE (.str (W w)) = true := by show decide ((W w).length ≤ 5) = true; rw [W_len]; exact decide_eq_true h
theorem anyW {K : PySem.W.Frag} {bx : Addr} {H : Hp} {w : List Bool} (h : w.length ≤ 100) : AnyU K bx H (.str (W w)) := anyU_str (by rw [W_len]; omega) (W_ok w)
theorem st_el {K : PySem.W.Frag} {bx : Addr} {H : Hp} {kb : Addr → Stf} {ps : List Addr} (hb : Box H bx) (h : StV H kb ps) (l : ∀ p ∈ ps, (kb p).1.length ≤ 4) : ∀ v ∈ ps.map V.ref, ElU K bx H v := fun v hv => by
  obtain ⟨p, hp, rfl⟩ := List.mem_map.mp hv
  have := l p hp
  exact el_tup2 hb (h p hp) (anyW (by omega)) (anyW (by show 1 ≤ 100; decide)) (shW (by omega)) (shW (by show 1 ≤ 5; decide))
theorem seq1 {K : PySem.W.Frag} {H : Hp} {l p : Addr} {a : List Bool} {b : Bool} (hl : H l = some (.lst [.ref p])) (h : H p = some (.tup [.str (W a), .str (W [b])])) (la : a.length ≤ 9) : SeqR K H (.ref l) (some (([(a, b)].map upW).map some)) :=
  .seq (.inl (SqL.of hl)) (by show 1 ≤ 1000; decide) (.cons (.pair h la (by show 1 ≤ 9; decide)) .nil)
theorem seq2 {K : PySem.W.Frag} {H : Hp} {l p q : Addr} {a c : List Bool} {b d : Bool} (hl : H l = some (.lst [.ref p, .ref q])) (h : H p = some (.tup [.str (W a), .str (W [b])])) (h2 : H q = some (.tup [.str (W c), .str (W [d])])) (la : a.length ≤ 9) (lc : c.length ≤ 9) : SeqR K H (.ref l) (some (([(a, b), (c, d)].map upW).map some)) :=
  .seq (.inl (SqL.of hl)) (by show 2 ≤ 1000; decide) (.cons (.pair h la (by show 1 ≤ 9; decide)) (.cons (.pair h2 lc (by show 1 ≤ 9; decide)) .nil))
def n1 : List Stf := [([true], true)]
def n2 : List Stf := [([true, true], true)]
def n3 : List Stf := [([false], false)]
def n4 : List Stf := [([true], false), ([false], true)]
def n5 : List Stf := [([true, false], true), ([false, true], false)]
theorem ok_n1 : StOk n1 := ⟨by decide, by decide, by decide, by unfold SufFree n1; decide⟩
theorem ok_n2 : StOk n2 := ⟨by decide, by decide, by decide, by unfold SufFree n2; decide⟩
theorem ok_n3 : StOk n3 := ⟨by decide, by decide, by decide, by unfold SufFree n3; decide⟩
theorem ok_n4 : StOk n4 := ⟨by decide, by decide, by decide, by unfold SufFree n4; decide⟩
theorem ok_n5 : StOk n5 := ⟨by decide, by decide, by decide, by unfold SufFree n5; decide⟩
theorem end_n1 : ¬ OkR n1 := fun o => by
  obtain ⟨x, hx⟩ := o [] .nil true
  exact no_end (S := fun l => [true] <:+ l) (fun l h => ⟨true, (put_iff ok_n1.free).mpr ⟨[true], by decide, h⟩, List.suffix_append _ _⟩) hx (List.suffix_refl _)
theorem end_n3 : ¬ OkR n3 := fun o => by
  obtain ⟨x, hx⟩ := o [] .nil false
  exact no_end (S := fun l => [false] <:+ l) (fun l h => ⟨false, (put_iff ok_n3.free).mpr ⟨[false], by decide, h⟩, List.suffix_append _ _⟩) hx (List.suffix_refl _)
theorem end_n2 : ¬ OkR n2 := fun o => by
  have r : Reach n2 ([] ++ [true] ++ []) := .next .nil (.stop (by decide))
  obtain ⟨x, hx⟩ := o _ r true
  refine no_end (S := fun l => [true, true] <:+ l) (fun l h => ⟨true, (put_iff ok_n2.free).mpr ⟨[true, true], by decide, h⟩, ?_⟩) hx (List.suffix_refl _)
  obtain ⟨t, rfl⟩ := h
  exact ⟨t ++ [true], by simp⟩
theorem end_n4 : ¬ OkR n4 := fun o => by
  obtain ⟨x, hx⟩ := o [] .nil true
  refine no_end (S := fun l => [true] <:+ l ∨ [false] <:+ l) (fun l h => ?_) hx (.inl (List.suffix_refl _))
  rcases h with h | h
  · exact ⟨false, (put_iff ok_n4.free).mpr ⟨[true], by decide, h⟩, .inr (List.suffix_append _ _)⟩
  · exact ⟨true, (put_iff ok_n4.free).mpr ⟨[false], by decide, h⟩, .inl (List.suffix_append _ _)⟩
theorem end_n5 : ¬ OkR n5 := fun o => by
  have r : Reach n5 ([] ++ [true] ++ []) := .next .nil (.stop (by decide))
  obtain ⟨x, hx⟩ := o _ r false
  refine no_end (S := fun l => [true, false] <:+ l ∨ [false, true] <:+ l) (fun l h => ?_) hx (.inl (List.suffix_refl _))
  rcases h with h | h
  · refine ⟨true, (put_iff ok_n5.free).mpr ⟨[true, false], by decide, h⟩, .inr ?_⟩
    obtain ⟨t, rfl⟩ := h
    exact ⟨t ++ [true], by simp⟩
  · refine ⟨false, (put_iff ok_n5.free).mpr ⟨[false, true], by decide, h⟩, .inl ?_⟩
    obtain ⟨t, rfl⟩ := h
    exact ⟨t ++ [false], by simp⟩
theorem heard2 {K : PySem.W.Frag} {H : Hp} {Q : VK} {E : XK} {p q lb : Addr} {z0 z1 z2 z3 z4 : Str} {a c : List Bool} {b d : Bool} {o : Option Str} (e0 : z0 = W [false, false]) (e1 : z1 = W a) (e2 : z2 = W [b]) (e3 : z3 = W c) (e4 : z4 = W [d]) (la : a.length ≤ 9) (lc : c.length ≤ 9)
    (n1 : H p = none) (n2 : upd H p (.tup [.str z1, .str z2]) q = none) (n3 : upd (upd H p (.tup [.str z1, .str z2])) q (.tup [.str z3, .str z4]) lb = none) (due : dueI (.str (W [false, false])) (some (([(a, b), (c, d)].map upW).map some)) = o) (k : ∀ H', Q (dueV o) H') :
    spLHeard K [.str z0, .ref lb] (upd (upd (upd H p (.tup [.str z1, .str z2])) q (.tup [.str z3, .str z4])) lb (.lst [.ref p, .ref q])) Q E := by
  subst e0 e1 e2 e3 e4
  refine ⟨_, _, _, rfl, anyS_str (by rw [W_len]; decide) (W_ok _), (by show (W [false, false]).length ≤ 1000; rw [W_len]; decide), seq2 (a := a) (b := b) (c := c) (d := d) upd_same ?_ ?_ la lc, fun H' _ => ?_⟩
  · have x1 : upd H p (.tup [.str (W a), .str (W [b])]) p = some (.tup [.str (W a), .str (W [b])]) := upd_same
    exact same_upd n3 _ _ (same_upd n2 _ _ x1)
  · have x1 : upd (upd H p (.tup [.str (W a), .str (W [b])])) q (.tup [.str (W c), .str (W [d])]) q = some (.tup [.str (W c), .str (W [d])]) := upd_same
    exact same_upd n3 _ _ x1
  · rw [due]
    exact k H'
theorem stuffs_due {f : List Bool} {ss : List Stf} (h : 2 ≤ f.length) (a : areB (ss.map upW) = false) : dueI (.str (W f)) (some ((ss.map upW).map some)) = some ("stuffs" : Str) := (due_good (fl_ok h) (allO_somes _)).1 a
section
variable {P : Program} {w : World} {K : PySem.W.Frag} {mg : Str → Option Value} {base : Heap}
theorem sc_l_deep : FnScope ["_law_found", "_law_turn"] [] (fnScope s_l_deep) := fnScope_by (by decide +kernel)
theorem cal_l_deep {f : Addr} {fd : FuncData} (F : Def K mg "_law_deep" s_l_deep f fd) (b : Binds K fd [] []) (T : Tx mg) : Cal P w K mg base 1 "_law_deep" spDeep [] := by
  refine cal0 F b .nil sc_l_deep (fun vs H Q E h => ?_) (fun cdv A outer s H vs Q E hr h => ?_)
  · obtain ⟨rfl, _⟩ := h; rfl
  · obtain ⟨rfl, k⟩ := h
    refine ⟨_, (pss_cons (ps_set (i := 0) sc_l_deep.nd rfl (.inl rfl) pe_int)
    (pss_cons (ps_for PassesOwn.never rfl (pi_range1 (by rfl) T.b_range (pa_cons pe_int pa_nil)) (pg_name (i := 1) sc_l_deep.nd rfl (.inl rfl))
    (pss_one (ps_set (i := 0) sc_l_deep.nd rfl (.inl rfl) (pe_ifExp (pt_cmpR op_eq (pe_op op_mod (pv 1) pe_int) pe_int (nomark _)) (pe_lst (pa_cons (pv 0) pa_nil)) (pe_tup (pa_cons (pv 0) pa_nil))))))
    (pss_one (ps_ret (pv 0))))), ?_⟩
    refine ⟨_, rfl, by decide, by decide, ?_⟩
    refine for_it (walk_range (lo := 0) (n := 7)) (fun i σ H2 => ∃ (x : V) (v1 : Option V), σ = [some x, v1] ∧ Same H H2 ∧ (i % 2 = 1 → ∃ a xs, x = .ref a ∧ H a = none ∧ H2 a = some (.lst xs)))
      ⟨_, none, rfl, Same.refl _, fun z => by cases z⟩ (fun _ _ _ _ _ => trivial) ?_ ?_
    · rintro i x σ H2' H2 hi ⟨x, v1, rfl, s2, hx⟩ ⟨rfl, rfl⟩
      refine ⟨_, rfl, _, _, rfl, rfl, (by show (0 : Int) < 2; decide), rfl, _, rfl, ?_⟩
      by_cases c : i % 2 = 0
      · refine iteDT (by show V.int ((0 + (i : Int)) % 2) = V.int 0; congr 1; omega) ?_
        refine ⟨_, rfl, by show 1 ≤ sizeLine; decide, fun a na => ?_⟩
        exact ⟨_, _, rfl, s2.trans (same_upd na), fun _ => ⟨a, _, rfl, s2.free na, upd_same⟩⟩
      · refine iteDF (by show ¬ V.int ((0 + (i : Int)) % 2) = V.int 0; intro z; have := V.int.inj z; omega) ?_
        refine ⟨_, rfl, by show 1 ≤ sizeLine; decide, fun a na => ?_⟩
        exact ⟨_, _, rfl, s2.trans (same_upd na), fun z => by omega⟩
    · rintro σ H2 ⟨x, v1, rfl, s2, hx⟩
      obtain ⟨a, xs, rfl, na, ha⟩ := hx (by decide)
      exact ⟨_, rfl, k a xs H2 s2 na ha⟩
theorem sc_law : FnScope ["_law_script", "_law_k", "_law_box", "_law_turn", "_law_told", "_law_odd", "_law_made", "_law_flags", "_law_more", "_law_flag", "_law_stuffs", "_law_some", "_law_one"] ["_law_script"] (fnScope s_law) := fnScope_by (by decide +kernel)
theorem ok_law {f C : Addr} {fd : FuncData} (F : Def K mg "law" s_law f fd) (T : Tx mg) (RT : RuT K C) (IS_Rule : IsT K C) (kon_rule_tuple : PySem.W.kitOne K (.ref C) (.type "tuple") = some false) (kon_rule_list : PySem.W.kitOne K (.ref C) (.type "list") = some false) (kon_rule_str : PySem.W.kitOne K (.ref C) (.type "str") = some false)
    (c_l_seed : Cal P w K mg base 1 "_law_seed" (spSeed K) []) (c_l_choose : Cal P w K mg base 1 "_law_choose" spChoose []) (c_l_one_of : Cal P w K mg base 2 "_law_one_of" spOneOf []) (c_l_rule : Cal P w K mg base 4 "_law_rule" spRule []) (c_l_any : Cal P w K mg base 12 "_law_any" spAnyW []) (c_l_deep : Cal P w K mg base 1 "_law_deep" spDeep []) (c_l_heard : Cal P w K mg base 7 "_law_heard" (spLHeard K) []) (c_l_due : Cal P w K mg base 3 "_law_due" (spLDue K) [])
    (m_Rule2 : Mak P w K mg base 5 "Rule" C (spRuInit K C) []) :
    FnOk P w K mg base CX0 13 f fd ["_law_script"] (spLaw K) := by
  refine fn0 F.fn sc_law (fun vs H Q E h => ?_) (fun cdv A outer s H vs Q E hr h => ?_)
  · obtain ⟨_, _, rfl, _⟩ := h; rfl
  · obtain ⟨a, ns, rfl, hS, hlen, k⟩ := h
    refine ⟨_, (pss_cons (ps_for PassesOwn.never rfl (pi_range1 (by rfl) T.b_range (pa_cons (pe_callB (call_max2 rfl) (by rfl) T.b_max (by decide +kernel) (pa_cons pe_int (pa_cons (pe_callB (call_min2 rfl) (by rfl) T.b_min (by decide +kernel) (pa_cons pe_int (pa_cons (pe_callB call_len_seq (by rfl) T.b_len (by decide +kernel) (pa_cons (pv 0) pa_nil)) pa_nil))) pa_nil))) pa_nil)) (pg_name (i := 1) sc_law.nd rfl (.inl rfl))
    (pss_cons (ps_set (i := 2) sc_law.nd rfl (.inl rfl) (pe_c c_l_seed hr (by decide) rfl (pa_cons (pv 0) (pa_cons (pv 1) pa_nil))))
    (pss_one (ps_for PassesOwn.never rfl (pi_range1 (by rfl) T.b_range (pa_cons pe_int pa_nil)) (pg_name (i := 3) sc_law.nd rfl (.inl rfl))
    (pss_cons (ps_set (i := 4) sc_law.nd rfl (.inl rfl) (pe_c c_l_rule hr (by decide) rfl (pa_cons (pv 2) (pa_cons pe_int (pa_cons pe_int pa_nil)))))
    (pss_cons (ps_if (pt_cmpR op_notN (pe_c c_l_heard hr (by decide) rfl (pa_cons (pe_ix ix_tup (pv 4) pe_int (fun _ _ => rfl)) (pa_cons (pe_ix ix_tup (pv 4) pe_int (fun _ _ => rfl)) pa_nil))) pe_non (nomark _)) (pss_one (ps_ret pe_bl)) pss_nil)
    (pss_cons (ps_set (i := 5) sc_law.nd rfl (.inl rfl) (pe_lst (pa_cons pe_non (pa_cons pe_int (pa_cons (pe_tup (pa_cons pe_str pa_nil)) (pa_cons (pe_lst (pa_cons pe_str (pa_cons pe_str pa_nil))) (pa_cons (pe_tup (pa_cons pe_str (pa_cons pe_str pa_nil))) pa_nil)))))))
    (pss_cons (ps_set (i := 5) sc_law.nd rfl (.inl rfl) (pe_op op_cat (pv 5) (pe_lst (pa_cons (pe_tup (pa_cons pe_str (pa_cons pe_str pa_nil))) (pa_cons (pe_tup (pa_cons pe_str (pa_cons pe_str pa_nil))) (pa_cons (pe_tup (pa_cons pe_str (pa_cons pe_str pa_nil))) (pa_cons (pe_tup (pa_cons pe_str (pa_cons pe_int pa_nil))) (pa_cons (pe_tup (pa_cons pe_str (pa_cons pe_str pa_nil))) (pa_cons (pe_tup (pa_cons pe_str (pa_cons pe_str pa_nil))) pa_nil)))))))))
    (pss_cons (ps_set (i := 6) sc_law.nd rfl (.inl rfl) (pe_mk m_Rule2 hr (by decide) rfl (pa_cons (pe_ix ix_tup (pv 4) pe_int (fun _ _ => rfl)) (pa_cons (pe_ix ix_tup (pv 4) pe_int (fun _ _ => rfl)) pa_nil))))
    (pss_cons (ps_set (i := 5) sc_law.nd rfl (.inl rfl) (pe_op op_cat (pv 5) (pe_lst (pa_cons (pv 6) (pa_cons (pe_tup (pa_cons (pv 6) (pa_cons pe_str pa_nil))) (pa_cons (pe_tup (pa_cons pe_str (pa_cons (pv 6) pa_nil))) pa_nil))))))
    (pss_cons (ps_set (i := 7) sc_law.nd rfl (.inl rfl) (pe_lst (pa_cons pe_str (pa_cons pe_str (pa_cons pe_str (pa_cons pe_non (pa_cons pe_int (pa_cons pe_str (pa_cons pe_str (pa_cons (pe_lst (pa_cons pe_str (pa_cons pe_str pa_nil))) (pa_cons pe_str (pa_cons pe_str (pa_cons (pe_c0 c_l_deep hr (by decide) rfl) (pa_cons (pv 6) pa_nil))))))))))))))
    (pss_one (ps_for PassesOwn.never rfl (pi_range1 (by rfl) T.b_range (pa_cons pe_int pa_nil)) (pg_name (i := 8) sc_law.nd rfl (.inl rfl))
    (pss_cut (ps_set (i := 9) sc_law.nd rfl (.inl rfl) (pe_ifExp (pt_cmpR op_eq (pe_c c_l_choose hr (by decide) rfl (pa_cons (pv 2) (pa_cons pe_int pa_nil))) pe_int (nomark _)) (pe_c c_l_one_of hr (by decide) rfl (pa_cons (pv 2) (pa_cons (pv 7) pa_nil))) (pe_ix ix_tup (pv 4) pe_int (fun _ _ => rfl))))
    (pss_cons (ps_set (i := 10) sc_law.nd rfl (.inl rfl) (pe_op op_cat (pe_slice sl_list (pe_callTy call_list_of (by rfl) T.b_list (by decide +kernel) (pa_cons (pe_ix ix_tup (pv 4) pe_int (fun _ _ => rfl)) pa_nil)) po_none (po_some pe_int)) (pe_lst (pa_cons (pe_c c_l_one_of hr (by decide) rfl (pa_cons (pv 2) (pa_cons (pe_op op_cat (pv 5) (pe_lst (pa_cons (pe_tup (pa_cons (pe_slice sl_txt (pe_ix ix_tup (pv 4) pe_int (fun _ _ => rfl)) po_none (po_some pe_int)) (pa_cons pe_str pa_nil))) (pa_cons (pe_c c_l_any hr (by decide) rfl (pa_cons (pv 2) (pa_cons pe_int pa_nil))) pa_nil)))) pa_nil))) pa_nil))))
    (pss_cons (ps_set (i := 10) sc_law.nd rfl (.inl rfl) (pe_c c_l_one_of hr (by decide) rfl (pa_cons (pv 2) (pa_cons (pe_lst (pa_cons (pv 10) (pa_cons (pe_callTy call_tuple_of (by rfl) T.b_tuple (by decide +kernel) (pa_cons (pv 10) pa_nil)) (pa_cons (pe_slice sl_list (pv 10) po_none (po_some pe_int)) (pa_cons pe_non (pa_cons pe_str (pa_cons pe_int (pa_cons (pv 6) (pa_cons (pe_lst (pa_cons (pv 6) pa_nil)) (pa_cons (pe_c c_l_any hr (by decide) rfl (pa_cons (pv 2) (pa_cons pe_int pa_nil))) pa_nil)))))))))) pa_nil))))
    (pss_one (ps_if (pt_cmpR op_ne (pe_c c_l_heard hr (by decide) rfl (pa_cons (pv 9) (pa_cons (pv 10) pa_nil))) (pe_c c_l_due hr (by decide) rfl (pa_cons (pv 9) (pa_cons (pv 10) pa_nil))) (nomark _)) (pss_one (ps_ret pe_bl)) pss_nil))))))))))))))))))
    (pss_cons (ps_set (i := 11) sc_law.nd rfl (.inl rfl) (pe_lst (pa_cons (pe_tup (pa_cons pe_str (pa_cons pe_str pa_nil))) (pa_cons (pe_tup (pa_cons pe_str (pa_cons pe_str pa_nil))) (pa_cons (pe_tup (pa_cons pe_str (pa_cons pe_str pa_nil))) pa_nil)))))
    (pss_cons (ps_if (pt_cmpR (op_neL hr) (pe_lc (own := [("_law_one", 12)]) (g := gName 12) (by rfl) sc_law.nd (pi_list (pv 11)) (blkOk_by (own := [("_law_one", 12)]) (N := ["_law_script", "_law_k", "_law_box", "_law_turn", "_law_told", "_law_odd", "_law_made", "_law_flags", "_law_more", "_law_flag", "_law_stuffs", "_law_some", "_law_one"]) (sc := fnScope s_law) (by decide +kernel)) (fun _ _ _ _ _ => (pg_name (i := 12) sc_law.nd rfl (.inl rfl))) (fun _ _ _ _ _ => (pts_one (pt_cmpR op_ne (pe_c c_l_heard hr (by decide) rfl (pa_cons pe_str (pa_cons (pe_lst (pa_cons (pv 12) pa_nil)) pa_nil))) pe_str (nomark _)))) (fun _ _ _ _ _ => (pv 12))) (pe_lst pa_nil) (nomark _)) (pss_one (ps_ret pe_bl)) pss_nil)
    (pss_cons (ps_if (pt_cmpR op_ne (pe_c c_l_heard hr (by decide) rfl (pa_cons pe_str (pa_cons (pe_lst (pa_cons (pe_tup (pa_cons pe_str (pa_cons pe_str pa_nil))) (pa_cons (pe_tup (pa_cons pe_str (pa_cons pe_str pa_nil))) pa_nil))) pa_nil))) pe_str (nomark _)) (pss_one (ps_ret pe_bl)) pss_nil)
    (pss_cons (ps_if (pt_cmpR op_ne (pe_c c_l_heard hr (by decide) rfl (pa_cons pe_str (pa_cons (pe_lst (pa_cons (pe_tup (pa_cons pe_str (pa_cons pe_str pa_nil))) (pa_cons (pe_tup (pa_cons pe_str (pa_cons pe_str pa_nil))) pa_nil))) pa_nil))) pe_str (nomark _)) (pss_one (ps_ret pe_bl)) pss_nil)
    (pss_cons (ps_if (pt_cmpR op_ne (pe_c c_l_heard hr (by decide) rfl (pa_cons pe_str (pa_cons (pe_lst (pa_cons (pe_tup (pa_cons pe_str (pa_cons pe_str pa_nil))) (pa_cons (pe_tup (pa_cons pe_str (pa_cons pe_str pa_nil))) pa_nil))) pa_nil))) pe_str (nomark _)) (pss_one (ps_ret pe_bl)) pss_nil)
    (pss_one (ps_ret (pe_and (pe_cmpR op_eq (pe_c c_l_heard hr (by decide) rfl (pa_cons pe_int (pa_cons pe_int pa_nil))) pe_str (nomark _)) (pe_one (pe_cmpR op_eq (pe_c c_l_heard hr (by decide) rfl (pa_cons pe_str (pa_cons (pe_lst (pa_cons (pe_tup (pa_cons pe_str (pa_cons pe_str pa_nil))) (pa_cons (pe_tup (pa_cons pe_str (pa_cons pe_str pa_nil))) pa_nil))) pa_nil))) pe_str (nomark _)))))))))))), ?_⟩
    refine ⟨_, rfl, a, _, rfl, .inl hS, _, _, rfl, _, _, rfl, _, rfl, by split <;> split <;> omega, by rw [List.length_map]; split <;> split <;> omega, ?_⟩
    refine for_it walk_range (fun i σ H2 => ∃ v1 v2 v3 v4 v5 v6 v7 v8 v9 v10 v11 v12 : Option V, σ = [some (.ref a), v1, v2, v3, v4, v5, v6, v7, v8, v9, v10, v11, v12] ∧ Same H H2) ⟨_, _, _, _, _, _, _, _, _, _, _, _, rfl, Same.refl _⟩ (fun _ _ _ _ _ => trivial) ?_ ?_
    · rintro i x σ H2' H2 hi ⟨v1, v2, v3, v4, v5, v6, v7, v8, v9, v10, v11, v12, rfl, s2⟩ ⟨rfl, rfl⟩
      refine ⟨_, rfl, _, rfl, a, ns, i, (by show [V.ref a, V.int (0 + (i : Int))] = _; rw [Int.zero_add]), s2.seq hS, fun bx H1 nb s1 hb => ?_⟩
      refine ⟨_, rfl, by decide, by decide, for_it walk_range (fun j σ H3 => ∃ v1 v3 v4 v5 v6 v7 v8 v9 v10 v11 v12 : Option V, σ = [some (.ref a), v1, some (.ref bx), v3, v4, v5, v6, v7, v8, v9, v10, v11, v12] ∧ Up bx H1 H3) ⟨_, _, _, _, _, _, _, _, _, _, _, rfl, Up.refl hb⟩ (fun _ _ _ _ _ => trivial) ?_ ?_⟩
      · rintro j y σ H3' H3 hj ⟨v1, v3, v4, v5, v6, v7, v8, v9, v10, v11, v12, rfl, u3⟩ ⟨rfl, rfl⟩
        refine ⟨_, rfl, bx, 6, 4, rfl, u3.2, by decide, by decide, by decide, by decide, fun t fl ss0 H4 u4 told f2 f6 ss2 ok0 hO0 hlo => ?_⟩
        have f6' : fl.length ≤ 6 := by omega
        obtain ⟨lr, ps, kb, ht, hl, hst, hss⟩ := id told
        have lps : ps.length ≤ 2 := by rw [hss, List.length_map] at ss2; exact ss2
        have lkb : ∀ p ∈ ps, (kb p).1.length ≤ 4 := fun p hp => hlo _ (by rw [hss]; exact List.mem_map_of_mem hp)
        have tseq : SeqR K H4 (.ref lr) (some ((ss0.map upW).map some)) := by
          rw [hss]
          exact .seq (.inl (SqL.of hl)) (by rw [List.length_map]; omega) (pair_st hst fun p hp => Nat.le_trans (lkb p hp) (by decide))
        have tdue := told_due f2 ok0 hO0.ok
        have lfl : (W fl).length = fl.length := W_len fl
        refine ⟨_, rfl, t, _, _, _, rfl, rfl, SqT.of ht, atI_nat (j := 0) rfl, _, rfl, t, _, _, _, rfl, rfl, SqT.of ht, atI_nat (j := 1) rfl, _, _, _, rfl, anyS_str (by rw [lfl]; omega) (W_ok fl), (by show (W fl).length ≤ 1000; rw [lfl]; omega), tseq, fun H5 s5 => ?_⟩
        rw [tdue]
        refine ⟨rfl, _, rfl, iteF ?_⟩
        have u5 := (u3.trans u4).same s5
        have B : Bt bx t fl ss0 H5 := ⟨u5.2, told.same s5⟩
        have U : Up bx H1 H5 := u5
        clear told ht hl hst hss tseq tdue lps lkb u5 u4 s5
        refine ⟨by show 1 ≤ sizeLine; decide, fun p_1 n_2 => ?_⟩
        obtain ⟨u_3, f_4⟩ := mkE1 (K := K) (x := .str "11") B.box n_2
        generalize upd _ p_1 _ = H_5 at u_3 f_4 ⊢
        replace U := U.trans u_3
        replace B := B.up u_3
        refine ⟨by show 2 ≤ sizeLine; decide, fun p_6 n_7 => ?_⟩
        obtain ⟨u_8, f_9⟩ := mkEL (K := K) (xs := [.str "11", .str "0"]) B.box n_7
        generalize upd _ p_6 _ = H_10 at u_8 f_9 ⊢
        replace f_4 := f_4.up u_8
        replace U := U.trans u_8
        replace B := B.up u_8
        refine ⟨by show 2 ≤ sizeLine; decide, fun p_11 n_12 => ?_⟩
        obtain ⟨u_13, f_14⟩ := mkE2 (K := K) (x := .str "") (y := .str "0") B.box n_12 (any_sc (by decide +kernel)) (any_sc (by decide +kernel)) (by decide +kernel) (by decide +kernel)
        generalize upd _ p_11 _ = H_15 at u_13 f_14 ⊢
        replace f_4 := f_4.up u_13
        replace f_9 := f_9.up u_13
        replace U := U.trans u_13
        replace B := B.up u_13
        refine ⟨by show 5 ≤ sizeLine; decide, fun l_16 n_17 => ?_⟩
        obtain ⟨u_18, h_19⟩ := mkLs (P := ElU K bx) (xs := [.non, .int 3, .ref p_1, .ref p_6, .ref p_11]) B.box n_17 (al_cons (el_sc (by decide +kernel)) (al_cons (el_sc (by decide +kernel)) (al_cons f_4 (al_cons f_9 (al_cons f_14 al_nil))))) (fun h u => h.up u)
        generalize upd _ l_16 _ = H_20 at u_18 h_19 ⊢
        obtain ⟨ys_21, h_19, ln_22⟩ : ∃ ys, LsK (ElU K bx) bx H_20 l_16 ys ∧ ys.length = 5 := ⟨_, h_19, rfl⟩
        replace U := U.trans u_18
        replace B := B.up u_18
        refine ⟨_, rfl, ?_⟩
        refine ⟨by show 2 ≤ sizeLine; decide, fun p_23 n_24 => ?_⟩
        obtain ⟨u_25, f_26⟩ := mkE2 (K := K) (x := .str "11") (y := .str "") B.box n_24 (any_sc (by decide +kernel)) (any_sc (by decide +kernel)) (by decide +kernel) (by decide +kernel)
        generalize upd _ p_23 _ = H_27 at u_25 f_26 ⊢
        replace h_19 := h_19.up u_25 (fun h => h.up u_25)
        replace U := U.trans u_25
        replace B := B.up u_25
        refine ⟨by show 2 ≤ sizeLine; decide, fun p_28 n_29 => ?_⟩
        obtain ⟨u_30, f_31⟩ := mkE2 (K := K) (x := .str "11") (y := .str "00") B.box n_29 (any_sc (by decide +kernel)) (any_sc (by decide +kernel)) (by decide +kernel) (by decide +kernel)
        generalize upd _ p_28 _ = H_32 at u_30 f_31 ⊢
        replace f_26 := f_26.up u_30
        replace h_19 := h_19.up u_30 (fun h => h.up u_30)
        replace U := U.trans u_30
        replace B := B.up u_30
        refine ⟨by show 2 ≤ sizeLine; decide, fun p_33 n_34 => ?_⟩
        obtain ⟨u_35, f_36⟩ := mkE2 (K := K) (x := .str "12") (y := .str "0") B.box n_34 (any_sc (by decide +kernel)) (any_sc (by decide +kernel)) (by decide +kernel) (by decide +kernel)
        generalize upd _ p_33 _ = H_37 at u_35 f_36 ⊢
        replace f_26 := f_26.up u_35
        replace f_31 := f_31.up u_35
        replace h_19 := h_19.up u_35 (fun h => h.up u_35)
        replace U := U.trans u_35
        replace B := B.up u_35
        refine ⟨by show 2 ≤ sizeLine; decide, fun p_38 n_39 => ?_⟩
        obtain ⟨u_40, f_41⟩ := mkE2 (K := K) (x := .str "11") (y := .int 0) B.box n_39 (any_sc (by decide +kernel)) (any_sc (by decide +kernel)) (by decide +kernel) (by decide +kernel)
        generalize upd _ p_38 _ = H_42 at u_40 f_41 ⊢
        replace f_26 := f_26.up u_40
        replace f_31 := f_31.up u_40
        replace f_36 := f_36.up u_40
        replace h_19 := h_19.up u_40 (fun h => h.up u_40)
        replace U := U.trans u_40
        replace B := B.up u_40
        refine ⟨by show 2 ≤ sizeLine; decide, fun p_43 n_44 => ?_⟩
        obtain ⟨u_45, f_46⟩ := mkE2 (K := K) (x := .str "0") (y := .str "0") B.box n_44 (any_sc (by decide +kernel)) (any_sc (by decide +kernel)) (by decide +kernel) (by decide +kernel)
        generalize upd _ p_43 _ = H_47 at u_45 f_46 ⊢
        replace f_26 := f_26.up u_45
        replace f_31 := f_31.up u_45
        replace f_36 := f_36.up u_45
        replace f_41 := f_41.up u_45
        replace h_19 := h_19.up u_45 (fun h => h.up u_45)
        replace U := U.trans u_45
        replace B := B.up u_45
        refine ⟨by show 2 ≤ sizeLine; decide, fun p_48 n_49 => ?_⟩
        obtain ⟨u_50, f_51⟩ := mkE2 (K := K) (x := .str "10") (y := .str "0") B.box n_49 (any_sc (by decide +kernel)) (any_sc (by decide +kernel)) (by decide +kernel) (by decide +kernel)
        generalize upd _ p_48 _ = H_52 at u_50 f_51 ⊢
        replace f_26 := f_26.up u_50
        replace f_31 := f_31.up u_50
        replace f_36 := f_36.up u_50
        replace f_41 := f_41.up u_50
        replace f_46 := f_46.up u_50
        replace h_19 := h_19.up u_50 (fun h => h.up u_50)
        replace U := U.trans u_50
        replace B := B.up u_50
        refine ⟨by show 6 ≤ sizeLine; decide, fun l_53 n_54 => ?_⟩
        obtain ⟨u_55, h_56⟩ := mkLs (P := ElU K bx) (xs := [.ref p_23, .ref p_28, .ref p_33, .ref p_38, .ref p_43, .ref p_48]) B.box n_54 (al_cons f_26 (al_cons f_31 (al_cons f_36 (al_cons f_41 (al_cons f_46 (al_cons f_51 al_nil)))))) (fun h u => h.up u)
        generalize upd _ l_53 _ = H_57 at u_55 h_56 ⊢
        obtain ⟨ys_58, h_56, ln_59⟩ : ∃ ys, LsK (ElU K bx) bx H_57 l_53 ys ∧ ys.length = 6 := ⟨_, h_56, rfl⟩
        replace h_19 := h_19.up u_55 (fun h => h.up u_55)
        replace U := U.trans u_55
        replace B := B.up u_55
        refine ⟨_, _, _, _, rfl, rfl, h_19.ls, h_56.ls, sl_len (by omega), fun l_60 n_61 => ?_⟩
        obtain ⟨u_62, h_63⟩ := mkLs (P := ElU K bx) (xs := ys_21 ++ ys_58) B.box n_61 (fun v hv => (List.mem_append.mp hv).elim (h_19.all v) (h_56.all v)) (fun h u => h.up u)
        generalize upd _ l_60 _ = H_64 at u_62 h_63 ⊢
        obtain ⟨ys_65, h_63, ln_66⟩ : ∃ ys, LsK (ElU K bx) bx H_64 l_60 ys ∧ ys.length = 11 := ⟨_, h_63, by rw [List.length_append]; omega⟩
        replace U := U.trans u_62
        replace B := B.up u_62
        clear h_19 h_56 ln_22 ln_59
        obtain ⟨lr2, ps2, kb2, ht2, hl2, hst2, hss2⟩ := id B.told
        refine ⟨_, rfl, t, _, _, _, rfl, rfl, SqT.of ht2, atI_nat (j := 0) rfl, _, rfl, t, _, _, _, rfl, rfl, SqT.of ht2, atI_nat (j := 1) rfl, fun m dx nx ndx nex => ?_⟩
        have sm : Same _ (upd (upd _ dx (.own m)) m (.ins C dx [])) := fun c o e => by rw [upd_ne (ne_of_none e nx), upd_ne (ne_of_none e ndx)]; exact e
        refine ⟨m, dx, lr2, fl, ps2, kb2, rfl, upd_same, .inl (SqL.of (sm _ _ hl2)), hst2.same sm, hss2 ▸ ok0, hss2 ▸ hO0.ok, f2, by omega, fun HM ss keep pm srt hR => ⟨rfl, ?_⟩⟩
        have uM := Up.of_same B.box (Same.madeA nx ndx keep)
        clear sm
        replace h_63 := h_63.up uM (fun h => h.up uM)
        replace U := U.trans uM
        have B := B3.of (C := C) (B.up uM) hR
        refine ⟨_, rfl, ?_⟩
        refine ⟨_, rfl, ?_⟩
        refine ⟨_, rfl, ?_⟩
        refine ⟨by show 2 ≤ sizeLine; decide, fun p_67 n_68 => ?_⟩
        obtain ⟨u_69, f_70⟩ := mkE2 (K := K) (x := .ref m) (y := .str "0") B.box n_68 (ru_any B IS_Rule kon_rule_str) (any_sc (by decide +kernel)) (rfl) (by decide +kernel)
        generalize upd _ p_67 _ = H_71 at u_69 f_70 ⊢
        replace h_63 := h_63.up u_69 (fun h => h.up u_69)
        replace U := U.trans u_69
        replace B := B.up u_69
        refine ⟨_, rfl, ?_⟩
        refine ⟨by show 2 ≤ sizeLine; decide, fun p_72 n_73 => ?_⟩
        obtain ⟨u_74, f_75⟩ := mkE2 (K := K) (x := .str "1") (y := .ref m) B.box n_73 (any_sc (by decide +kernel)) (ru_any B IS_Rule kon_rule_str) (by decide +kernel) (rfl)
        generalize upd _ p_72 _ = H_76 at u_74 f_75 ⊢
        replace f_70 := f_70.up u_74
        replace h_63 := h_63.up u_74 (fun h => h.up u_74)
        replace U := U.trans u_74
        replace B := B.up u_74
        refine ⟨by show 3 ≤ sizeLine; decide, fun l_77 n_78 => ?_⟩
        obtain ⟨u_79, h_80⟩ := mkLs (P := ElU K bx) (xs := [.ref m, .ref p_67, .ref p_72]) B.box n_78 (al_cons (ru_el B IS_Rule kon_rule_tuple) (al_cons f_70 (al_cons f_75 al_nil))) (fun h u => h.up u)
        generalize upd _ l_77 _ = H_81 at u_79 h_80 ⊢
        obtain ⟨ys_82, h_80, ln_83⟩ : ∃ ys, LsK (ElU K bx) bx H_81 l_77 ys ∧ ys.length = 3 := ⟨_, h_80, rfl⟩
        replace h_63 := h_63.up u_79 (fun h => h.up u_79)
        replace U := U.trans u_79
        replace B := B.up u_79
        refine ⟨_, _, _, _, rfl, rfl, h_63.ls, h_80.ls, sl_len (by omega), fun l_84 n_85 => ?_⟩
        obtain ⟨u_86, h_87⟩ := mkLs (P := ElU K bx) (xs := ys_65 ++ ys_82) B.box n_85 (fun v hv => (List.mem_append.mp hv).elim (h_63.all v) (h_80.all v)) (fun h u => h.up u)
        generalize upd _ l_84 _ = H_88 at u_86 h_87 ⊢
        obtain ⟨ys_89, h_87, ln_90⟩ : ∃ ys, LsK (ElU K bx) bx H_88 l_84 ys ∧ ys.length = 14 := ⟨_, h_87, by rw [List.length_append]; omega⟩
        replace U := U.trans u_86
        replace B := B.up u_86
        clear h_63 h_80 ln_66 ln_83
        refine ⟨by show 2 ≤ sizeLine; decide, fun p_91 n_92 => ?_⟩
        obtain ⟨u_93, f_94⟩ := mkFL (K := K) (xs := [.str "0", .str "1"]) B.box n_92
        generalize upd _ p_91 _ = H_95 at u_93 f_94 ⊢
        replace h_87 := h_87.up u_93 (fun h => h.up u_93)
        replace U := U.trans u_93
        replace B := B.up u_93
        refine ⟨rfl, fun a_96 xs_97 H_98 s_99 na_100 ha_101 => ?_⟩
        have u_102 := Up.of_same B.box s_99
        have f_103 : FlU K bx H_98 (.ref a_96) := ⟨anyU_lst ha_101 (B.box.ne na_100), Nat.zero_le _⟩
        replace f_94 := f_94.up u_102
        replace h_87 := h_87.up u_102 (fun h => h.up u_102)
        replace U := U.trans u_102
        replace B := B.up u_102
        refine ⟨_, rfl, ?_⟩
        refine ⟨by show 12 ≤ sizeLine; decide, fun l_104 n_105 => ?_⟩
        obtain ⟨u_106, h_107⟩ := mkLs (P := FlU K bx) (xs := [.str "", .str "0", .str "1", .non, .int 11, .str "0 1", .str "012", .ref p_91, .str "11", .str "0110", .ref a_96, .ref m]) B.box n_105 (al_cons (fl_sc (by decide +kernel)) (al_cons (fl_sc (by decide +kernel)) (al_cons (fl_sc (by decide +kernel)) (al_cons (fl_sc (by decide +kernel)) (al_cons (fl_sc (by decide +kernel)) (al_cons (fl_sc (by decide +kernel)) (al_cons (fl_sc (by decide +kernel)) (al_cons f_94 (al_cons (fl_sc (by decide +kernel)) (al_cons (fl_sc (by decide +kernel)) (al_cons f_103 (al_cons ⟨ru_any B IS_Rule kon_rule_str, Nat.zero_le _⟩ al_nil)))))))))))) (fun h u => h.up u)
        generalize upd _ l_104 _ = H_108 at u_106 h_107 ⊢
        obtain ⟨ys_109, h_107, ln_110⟩ : ∃ ys, LsK (FlU K bx) bx H_108 l_104 ys ∧ ys.length = 12 := ⟨_, h_107, rfl⟩
        replace h_87 := h_87.up u_106 (fun h => h.up u_106)
        replace U := U.trans u_106
        replace B := B.up u_106
        have hOdd := h_87
        have hFl := h_107
        have UZ := U
        refine ⟨_, rfl, by decide, by decide, for_it walk_range (fun i2 σ H9 => ∃ v1 v3 v8 v9 v10 v11 v12 : Option V, σ = [some (.ref a), v1, some (.ref bx), v3, some (.ref t), some (.ref l_84), some (.ref m), some (.ref l_104), v8, v9, v10, v11, v12] ∧ Up bx H_108 H9) ⟨_, _, _, _, _, _, _, rfl, Up.refl B.box⟩ (fun _ _ _ _ _ => trivial) ?_ ?_⟩
        · rintro i2 x σ H9' H9 hi2 ⟨v1, v3, v8, v9, v10, v11, v12, rfl, u9⟩ ⟨rfl, rfl⟩
          replace B := B.up u9
          replace hOdd := hOdd.up u9 (fun h => h.up u9)
          replace hFl := hFl.up u9 (fun h => h.up u9)
          refine ⟨fun σ' H' => ∃ vf : V, ∃ v1 v3 v8 v10 v11 v12 : Option V, σ' = [some (.ref a), v1, some (.ref bx), v3, some (.ref t), some (.ref l_84), some (.ref m), some (.ref l_104), v8, some (vf), v10, v11, v12] ∧ Up bx H9 H' ∧ FlU K bx H' vf, ?_, ?_⟩
          · refine ⟨_, rfl, bx, 3, rfl, B.box, by decide, by decide, fun d H10 d0 d9 u10 => ⟨rfl, _, rfl, ?_⟩⟩
            by_cases c : d = 0
            · refine iteDT (by rw [c]) ?_
              have hF10 := hFl.up u10 (fun h => h.up u10)
              refine ⟨_, rfl, _, rfl, bx, l_104, _, rfl, u10.2, hF10.ls, hF10.ne, by omega, by omega, fun v H11 hv u11 => ?_⟩
              exact ⟨v, _, _, _, _, _, _, rfl, u10.trans u11, (hF10.all v hv).up u11⟩
            · refine iteDF (fun z => c (V.int.inj z)) ?_
              obtain ⟨lr3, ps3, kb3, ht3, _⟩ := id (B.up u10).told
              refine ⟨_, rfl, t, _, _, _, rfl, rfl, SqT.of ht3, atI_nat (j := 0) rfl, ?_⟩
              exact ⟨.str (W fl), _, _, _, _, _, _, rfl, u10, anyW (by omega), by show (W fl).length ≤ 1000; rw [lfl]; omega⟩
          · rintro σ' H12 ⟨vf, v1, v3, v8, v10, v11, v12, rfl, u12, hvf⟩
            replace B := B.up u12
            replace hOdd := hOdd.up u12 (fun h => h.up u12)
            have U := u9.trans u12
            clear hFl
            obtain ⟨lr4, ps4, kb4, ht4, hl4, hst4, hss4⟩ := id B.told
            have lps4 : ps4.length ≤ 2 := by rw [hss4, List.length_map] at ss2; exact ss2
            have el4 := st_el (K := K) B.box hst4 (fun p hp => hlo _ (by rw [hss4]; exact List.mem_map_of_mem hp))
            refine ⟨_, rfl, t, _, _, _, rfl, rfl, SqT.of ht4, atI_nat (j := 1) rfl, lr4, _, rfl, .inl (SqL.of hl4), fun p1 m1 => ?_⟩
            obtain ⟨w1, g1⟩ := mkLs (P := ElU K bx) (xs := ps4.map V.ref) B.box m1 el4 (fun h u => h.up u)
            generalize upd _ p1 _ = G1 at w1 g1 ⊢
            replace hvf := hvf.up w1
            replace hOdd := hOdd.up w1 (fun h => h.up w1)
            replace U := U.trans w1
            replace B := B.up w1
            refine ⟨_, rfl, p1, _, rfl, SqL.of g1.ls, fun p2 m2 => ?_⟩
            obtain ⟨w2, g2⟩ := mkLs (P := ElU K bx) (xs := cutV (ps4.map V.ref) none (some 1)) B.box m2 (fun v hv => g1.all v (cut_memA hv)) (fun h u => h.up u)
            generalize upd _ p2 _ = G2 at w2 g2 ⊢
            replace hvf := hvf.up w2
            replace hOdd := hOdd.up w2 (fun h => h.up w2)
            replace g1 := g1.up w2 (fun h => h.up w2)
            replace U := U.trans w2
            replace B := B.up w2
            obtain ⟨lr5, ps5, kb5, ht5, _⟩ := id B.told
            refine ⟨_, rfl, _, rfl, _, rfl, t, _, _, _, rfl, rfl, SqT.of ht5, atI_nat (j := 0) rfl, _, rfl, _, rfl, by rw [lfl]; exact sl_len (by omega), by show 2 ≤ sizeLine; decide, fun p3 m3 => ?_⟩
            have e3 : Txt.slice (W fl) none (some 3) = W (fl.take 3) := W_take (by decide)
            rw [e3]
            obtain ⟨w3, g3⟩ := mkE2 (K := K) (x := .str (W (fl.take 3))) (y := .str "1") B.box m3 (anyW (by rw [List.length_take]; omega)) (any_sc (by decide +kernel)) (shW (by rw [List.length_take]; omega)) (by decide +kernel)
            generalize upd _ p3 _ = G3 at w3 g3 ⊢
            replace hvf := hvf.up w3
            replace hOdd := hOdd.up w3 (fun h => h.up w3)
            replace g1 := g1.up w3 (fun h => h.up w3)
            replace g2 := g2.up w3 (fun h => h.up w3)
            replace U := U.trans w3
            replace B := B.up w3
            refine ⟨_, rfl, bx, 5, rfl, by decide, B.box, fun v5 G4 w4 A5 => ?_⟩
            have g4 : ElU K bx G4 v5 := A5.el B.box
            replace hvf := hvf.up w4
            replace g3 := g3.up w4
            replace hOdd := hOdd.up w4 (fun h => h.up w4)
            replace g1 := g1.up w4 (fun h => h.up w4)
            replace g2 := g2.up w4 (fun h => h.up w4)
            replace U := U.trans w4
            replace B := B.up w4
            refine ⟨by show 2 ≤ sizeLine; decide, fun l5 m5 => ?_⟩
            obtain ⟨w5, g5⟩ := mkLs (P := ElU K bx) (xs := [.ref p3, v5]) B.box m5 (al_cons g3 (al_cons g4 al_nil)) (fun h u => h.up u)
            generalize upd _ l5 _ = G5 at w5 g5 ⊢
            replace hvf := hvf.up w5
            replace g3 := g3.up w5
            replace g4 := g4.up w5
            replace hOdd := hOdd.up w5 (fun h => h.up w5)
            replace g1 := g1.up w5 (fun h => h.up w5)
            replace g2 := g2.up w5 (fun h => h.up w5)
            replace U := U.trans w5
            replace B := B.up w5
            refine ⟨_, l5, _, _, rfl, rfl, hOdd.ls, g5.ls, sl_len (by show _ + 2 ≤ _; omega), fun l6 m6 => ?_⟩
            obtain ⟨w6, g6⟩ := mkLs (P := ElU K bx) (xs := ys_89 ++ [.ref p3, v5]) B.box m6 (fun v hv => (List.mem_append.mp hv).elim (hOdd.all v) (g5.all v)) (fun h u => h.up u)
            generalize upd _ l6 _ = G6 at w6 g6 ⊢
            replace hvf := hvf.up w6
            replace g3 := g3.up w6
            replace g4 := g4.up w6
            replace hOdd := hOdd.up w6 (fun h => h.up w6)
            replace g1 := g1.up w6 (fun h => h.up w6)
            replace g2 := g2.up w6 (fun h => h.up w6)
            replace g5 := g5.up w6 (fun h => h.up w6)
            replace U := U.trans w6
            replace B := B.up w6
            refine ⟨bx, l6, _, rfl, B.box, g6.ls, g6.ne, by rw [List.length_append]; show 0 < _ + 2; omega, by rw [List.length_append]; show _ + 2 < _; omega, fun x7 G7 hx7 w7 => ?_⟩
            have g7 := g6.all x7 hx7
            replace hvf := hvf.up w7
            replace g3 := g3.up w7
            replace g4 := g4.up w7
            replace g7 := g7.up w7
            replace hOdd := hOdd.up w7 (fun h => h.up w7)
            replace g1 := g1.up w7 (fun h => h.up w7)
            replace g2 := g2.up w7 (fun h => h.up w7)
            replace g5 := g5.up w7 (fun h => h.up w7)
            replace g6 := g6.up w7 (fun h => h.up w7)
            replace U := U.trans w7
            replace B := B.up w7
            refine ⟨by show 1 ≤ sizeLine; decide, fun l8 m8 => ?_⟩
            obtain ⟨w8, g8⟩ := mkLs (P := ElU K bx) (xs := [x7]) B.box m8 (al_cons g7 al_nil) (fun h u => h.up u)
            generalize upd _ l8 _ = G8 at w8 g8 ⊢
            replace hvf := hvf.up w8
            replace g3 := g3.up w8
            replace g4 := g4.up w8
            replace g7 := g7.up w8
            replace hOdd := hOdd.up w8 (fun h => h.up w8)
            replace g1 := g1.up w8 (fun h => h.up w8)
            replace g2 := g2.up w8 (fun h => h.up w8)
            replace g5 := g5.up w8 (fun h => h.up w8)
            replace g6 := g6.up w8 (fun h => h.up w8)
            replace U := U.trans w8
            replace B := B.up w8
            have lcut := cut1 (xs := ps4.map V.ref)
            refine ⟨p2, l8, _, _, rfl, rfl, g2.ls, g8.ls, sl_len (by show _ + 1 ≤ _; omega), fun l9 m9 => ?_⟩
            obtain ⟨w9, g9⟩ := mkLs (P := ElU K bx) (xs := cutV (ps4.map V.ref) none (some 1) ++ [x7]) B.box m9 (fun v hv => (List.mem_append.mp hv).elim (g2.all v) (g8.all v)) (fun h u => h.up u)
            generalize upd _ l9 _ = G9 at w9 g9 ⊢
            replace hvf := hvf.up w9
            replace g3 := g3.up w9
            replace g4 := g4.up w9
            replace g7 := g7.up w9
            replace hOdd := hOdd.up w9 (fun h => h.up w9)
            replace g1 := g1.up w9 (fun h => h.up w9)
            replace g2 := g2.up w9 (fun h => h.up w9)
            replace g5 := g5.up w9 (fun h => h.up w9)
            replace g6 := g6.up w9 (fun h => h.up w9)
            replace g8 := g8.up w9 (fun h => h.up w9)
            replace U := U.trans w9
            replace B := B.up w9
            obtain ⟨sl, g9, lsl⟩ : ∃ sl, LsK (ElU K bx) bx G9 l9 sl ∧ sl.length ≤ 2 := ⟨_, g9, by rw [List.length_append]; show _ + 1 ≤ 2; omega⟩
            clear g1 g2 g3 g4 g5 g6 g7 g8 el4
            refine ⟨_, rfl, _, rfl, _, rfl, l9, _, rfl, .inl ⟨SqL.of g9.ls, fun t10 m10 => ?_⟩⟩
            have w10 := Up.of_same B.box (same_upd (o := .tup sl) m10)
            have g10 : SqU K bx (upd _ t10 (.tup sl)) (.ref t10) := sq_tup w10.2 upd_same lsl (fun x hx => (g9.all x hx).up w10)
            generalize upd _ t10 _ = G10 at w10 g10 ⊢
            replace hvf := hvf.up w10
            replace hOdd := hOdd.up w10 (fun h => h.up w10)
            replace g9 := g9.up w10 (fun h => h.up w10)
            replace U := U.trans w10
            replace B := B.up w10
            refine ⟨_, rfl, _, rfl, l9, _, rfl, SqL.of g9.ls, fun p11 m11 => ?_⟩
            obtain ⟨w11, g11⟩ := mkLs (P := ElU K bx) (xs := cutV sl none (some 1)) B.box m11 (fun v hv => g9.all v (cut_memA hv)) (fun h u => h.up u)
            generalize upd _ p11 _ = G11 at w11 g11 ⊢
            replace hvf := hvf.up w11
            replace g10 := g10.up w11
            replace hOdd := hOdd.up w11 (fun h => h.up w11)
            replace g9 := g9.up w11 (fun h => h.up w11)
            replace U := U.trans w11
            replace B := B.up w11
            refine ⟨_, rfl, _, rfl, by show 1 ≤ sizeLine; decide, fun p12 m12 => ?_⟩
            obtain ⟨w12, g12⟩ := mkLs (P := ElU K bx) (xs := [.ref m]) B.box m12 (al_cons (ru_el B IS_Rule kon_rule_tuple) al_nil) (fun h u => h.up u)
            generalize upd _ p12 _ = G12 at w12 g12 ⊢
            replace hvf := hvf.up w12
            replace g10 := g10.up w12
            replace hOdd := hOdd.up w12 (fun h => h.up w12)
            replace g9 := g9.up w12 (fun h => h.up w12)
            replace g11 := g11.up w12 (fun h => h.up w12)
            replace U := U.trans w12
            replace B := B.up w12
            refine ⟨_, rfl, bx, 6, rfl, by decide, B.box, fun v13 G13 w13 A13 => ?_⟩
            have g13 : SqU K bx G13 v13 := A13.sq B.box
            replace hvf := hvf.up w13
            replace g10 := g10.up w13
            replace hOdd := hOdd.up w13 (fun h => h.up w13)
            replace g9 := g9.up w13 (fun h => h.up w13)
            replace g11 := g11.up w13 (fun h => h.up w13)
            replace g12 := g12.up w13 (fun h => h.up w13)
            replace U := U.trans w13
            replace B := B.up w13
            refine ⟨by show 9 ≤ sizeLine; decide, fun l14 m14 => ?_⟩
            have lcut := cut1 (xs := sl)
            obtain ⟨w14, g14⟩ := mkLs (P := SqU K bx) (xs := [.ref l9, .ref t10, .ref p11, .non, .str "11", .int 3, .ref m, .ref p12, v13]) B.box m14 (al_cons (sq_lst g9.ls g9.ne lsl g9.all) (al_cons g10 (al_cons (sq_lst g11.ls g11.ne (by omega) g11.all) (al_cons (sq_sc (by decide +kernel)) (al_cons (sq_sc (by decide +kernel)) (al_cons (sq_sc (by decide +kernel)) (al_cons (ru_sq B IS_Rule kon_rule_tuple kon_rule_list) (al_cons (sq_lst g12.ls g12.ne (by show 1 ≤ 2; decide) g12.all) (al_cons g13 al_nil))))))))) (fun h u => h.up u)
            generalize upd _ l14 _ = G14 at w14 g14 ⊢
            replace hvf := hvf.up w14
            replace g10 := g10.up w14
            replace g13 := g13.up w14
            replace hOdd := hOdd.up w14 (fun h => h.up w14)
            replace g9 := g9.up w14 (fun h => h.up w14)
            replace g11 := g11.up w14 (fun h => h.up w14)
            replace g12 := g12.up w14 (fun h => h.up w14)
            replace U := U.trans w14
            replace B := B.up w14
            refine ⟨bx, l14, _, rfl, B.box, g14.ls, g14.ne, by show 0 < 9; decide, by show 9 < 1000; decide, fun sv G15 hsv w15 => ?_⟩
            have g15 := g14.all sv hsv
            replace hvf := hvf.up w15
            replace g10 := g10.up w15
            replace g13 := g13.up w15
            replace g15 := g15.up w15
            replace hOdd := hOdd.up w15 (fun h => h.up w15)
            replace g9 := g9.up w15 (fun h => h.up w15)
            replace g11 := g11.up w15 (fun h => h.up w15)
            replace g12 := g12.up w15 (fun h => h.up w15)
            replace g14 := g14.up w15 (fun h => h.up w15)
            replace U := U.trans w15
            replace B := B.up w15
            obtain ⟨r, hr, hfew⟩ := g15 _ (Up.refl B.box)
            have hAny := hvf.1.now B.box
            refine ⟨_, rfl, _, rfl, vf, sv, r, rfl, hAny, hvf.2, hr, fun HA sA => ?_⟩
            refine ⟨_, rfl, _, rfl, vf, sv, r, rfl, hAny.same sA, hvf.2, hr.same sA, hfew, fun HB sB => ?_⟩
            refine ⟨same_outA _, _, rfl, iteBF (by simp) ?_⟩
            exact ⟨_, _, _, _, _, _, _, rfl, (U.same sA).same sB⟩
        · rintro σ H9 ⟨v1, v3, v8, v9, v10, v11, v12, rfl, u9⟩
          exact ⟨_, _, _, _, _, _, _, _, _, _, _, rfl, UZ.trans u9⟩
      · rintro σ H3 ⟨v1, v3, v4, v5, v6, v7, v8, v9, v10, v11, v12, rfl, u3⟩
        exact ⟨_, _, _, _, _, _, _, _, _, _, _, _, rfl, fun c o e => u3.1 _ _ (s1 _ _ (s2 _ _ e)) (ne_of_none e (s2.free nb))⟩
    · rintro σ H2 ⟨v1, v2, v3, v4, v5, v6, v7, v8, v9, v10, v11, v12, rfl, s2⟩
      have e00 : ("00" : Str) = W [false, false] := by decide +kernel
      have e11 : ("11" : Str) = W [true, true] := by decide +kernel
      have e10 : ("10" : Str) = W [true, false] := by decide +kernel
      have e01 : ("01" : Str) = W [false, true] := by decide +kernel
      refine ⟨by show 2 ≤ sizeLine; decide, fun a1 k1 => ⟨by show 2 ≤ sizeLine; decide, fun a2 k2 => ⟨by show 2 ≤ sizeLine; decide, fun a3 k3 => ⟨by show 3 ≤ sizeLine; decide, fun l k4 => ?_⟩⟩⟩⟩
      have x1 : upd H2 a1 (.tup [.str "1", .str "1"]) a1 = some (.tup [.str (W [true]), .str (W [true])]) := by rw [upd_same, W_1]
      generalize upd H2 a1 (.tup [.str "1", .str "1"]) = G1 at x1 k2 k3 k4 ⊢
      have x2 : upd G1 a2 (.tup [.str "11", .str "1"]) a2 = some (.tup [.str (W [true, true]), .str (W [true])]) := by rw [upd_same, W_1, e11]
      have y2 := same_upd (o := .tup [.str "11", .str "1"]) k2
      generalize upd G1 a2 (.tup [.str "11", .str "1"]) = G2 at x2 y2 k3 k4 ⊢
      have x3 : upd G2 a3 (.tup [.str "0", .str "0"]) a3 = some (.tup [.str (W [false]), .str (W [false])]) := by rw [upd_same, W_0]
      have y3 := same_upd (o := .tup [.str "0", .str "0"]) k3
      generalize upd G2 a3 (.tup [.str "0", .str "0"]) = G3 at x3 y3 k4 ⊢
      have y4 := same_upd (o := .lst [.ref a1, .ref a2, .ref a3]) k4
      have hl : upd G3 l (.lst [.ref a1, .ref a2, .ref a3]) l = some (.lst [.ref a1, .ref a2, .ref a3]) := upd_same
      generalize upd G3 l (.lst [.ref a1, .ref a2, .ref a3]) = G4 at y4 hl ⊢
      have hel : ∀ x ∈ [V.ref a1, .ref a2, .ref a3], ∃ (p : Addr) (av : List Bool) (bv : Bool), x = .ref p ∧ G4 p = some (.tup [.str (W av), .str (W [bv])]) ∧ av.length ≤ 9 ∧ StOk [(av, bv)] ∧ ¬ OkR [(av, bv)] := fun x hx => by
        simp only [List.mem_cons, List.not_mem_nil, or_false] at hx
        rcases hx with rfl | rfl | rfl
        · exact ⟨_, _, _, rfl, y4 _ _ (y3 _ _ (y2 _ _ x1)), by decide, ok_n1, end_n1⟩
        · exact ⟨_, _, _, rfl, y4 _ _ (y3 _ _ x2), by decide, ok_n2, end_n2⟩
        · exact ⟨_, _, _, rfl, y4 _ _ x3, by decide, ok_n3, end_n3⟩
      refine ⟨_, rfl, l, rfl, ⟨_, SqL.of hl⟩, fun D nD => ?_⟩
      refine lc_it (walk_list (xs := [V.ref a1, .ref a2, .ref a3])) (fun i H9 => Same G4 H9 ∧ H9 D = some (.lst [])) ⟨same_upd nD, upd_same⟩ (fun i H9 _ h9 => h9.1.seq (SqL.of hl)) ?_ ?_
      · rintro i x H9' H9 hi ⟨s9, hD⟩ ⟨rfl, hx⟩
        obtain ⟨p, av, bv, rfl, hp, lav, okv, env⟩ := hel x (List.mem_of_getElem? hx)
        refine ⟨rfl, _, rfl, by show 1 ≤ sizeLine; decide, fun l9 k9 => ?_⟩
        have y9 := same_upd (o := .lst [.ref p]) k9
        have hl9 : upd H9 l9 (.lst [.ref p]) l9 = some (.lst [.ref p]) := upd_same
        generalize upd H9 l9 (.lst [.ref p]) = H10 at y9 hl9 ⊢
        have due := endless_due (f := [false, false]) (by decide) okv env
        refine ⟨.str "00", .ref l9, _, rfl, anyS_str (by decide +kernel) (by decide +kernel), by decide +kernel, seq1 hl9 (y9 _ _ (s9 _ _ hp)) lav, fun H11 s11 => ?_⟩
        rw [e00, due]
        refine ⟨rfl, _, rfl, iteBF (by simp [dueV]) ?_⟩
        exact ⟨(s9.trans y9).trans s11, s11 _ _ (y9 _ _ hD)⟩
      rintro H9 ⟨s9, hD⟩
      refine ⟨by show 0 ≤ sizeLine; decide, fun l5 nl5 => ?_⟩
      refine ⟨D, l5, [], rfl, rfl, SqL.of (same_upd nl5 _ _ hD), SqL.of upd_same, _, rfl, iteNS rfl ?_⟩
      refine ⟨by show 2 ≤ sizeLine; decide, fun b1 k1 => ⟨by show 2 ≤ sizeLine; decide, fun b2 k2 => ⟨by show 2 ≤ sizeLine; decide, fun lb kb => ?_⟩⟩⟩
      dsimp only [tNil, List.cons_append, List.nil_append, List.append_nil]
      refine heard2 e00 W_1 W_0 e01 W_1 (by decide) (by decide) k1 k2 kb (stuffs_due (ss := [([true], false), ([false, true], true)]) (by decide) (by decide)) fun H10 => ?_
      refine ⟨rfl, _, rfl, iteBF (by simp [dueV]) ?_⟩
      clear k1 k2 kb
      refine ⟨by show 2 ≤ sizeLine; decide, fun b1 k1 => ⟨by show 2 ≤ sizeLine; decide, fun b2 k2 => ⟨by show 2 ≤ sizeLine; decide, fun lb kb => ?_⟩⟩⟩
      dsimp only [tNil, List.cons_append, List.nil_append, List.append_nil]
      refine heard2 e00 W_1 W_0 W_0 W_1 (by decide) (by decide) k1 k2 kb (endless_due (ss := n4) (by decide) ok_n4 end_n4) fun H11 => ?_
      refine ⟨rfl, _, rfl, iteBF (by simp [dueV]) ?_⟩
      clear k1 k2 kb
      refine ⟨by show 2 ≤ sizeLine; decide, fun b1 k1 => ⟨by show 2 ≤ sizeLine; decide, fun b2 k2 => ⟨by show 2 ≤ sizeLine; decide, fun lb kb => ?_⟩⟩⟩
      dsimp only [tNil, List.cons_append, List.nil_append, List.append_nil]
      refine heard2 e00 e10 W_1 e01 W_0 (by decide) (by decide) k1 k2 kb (endless_due (ss := n5) (by decide) ok_n5 end_n5) fun H12 => ?_
      refine ⟨rfl, _, rfl, iteBF (by simp [dueV]) ?_⟩
      clear k1 k2 kb
      refine ⟨.int 3, .int 3, none, rfl, anyS_int 3, by decide, .no _ (fun _ _ => .base (.int 3)) (kit_ty (by decide +kernel)) (kit_ty (by decide +kernel)), fun H13 s13 => ?_⟩
      rw [due_flag (show flagB (.int 3) = false from rfl)]
      refine ⟨rfl, _, rfl, iteBT (by simp [dueV]) ?_⟩
      refine ⟨by show 2 ≤ sizeLine; decide, fun b1 k1 => ⟨by show 2 ≤ sizeLine; decide, fun b2 k2 => ⟨by show 2 ≤ sizeLine; decide, fun lb kb => ?_⟩⟩⟩
      dsimp only [tNil, List.cons_append, List.nil_append, List.append_nil]
      refine heard2 e00 e10 W_0 e10 W_0 (by decide) (by decide) k1 k2 kb (stuffs_due (ss := [([true, false], false), ([true, false], false)]) (by decide) (by decide)) fun H14 => ?_
      refine ⟨rfl, ?_⟩
      have e : decide (dueV (some ("stuffs" : Str)) = .str "stuffs") = true := decide_eq_true rfl
      rw [e]
      exact k H14
end
end U
set_option maxRecDepth 100000
set_option maxHeartbeats 4000000
namespace U
open PySem PySem.Spec PyProof.Rows
open L2 hiding Fun CX0 E0 pass0 Fun.binds
open C8 Lx
theorem all_mk {l : PySem.W.OpenLaw} {w : World} {K : PySem.W.Frag} {h : Heap} {mg : Str → Option Value} {fa : Addr} (X : K.In h) (G : h.Ns mainGlobals mg) (hfa : mg "law" = some (.ref fa))
    {f_is_sequence : Addr} {od_is_sequence an_is_sequence : Option Addr} {sl_is_sequence : Array (Option Value)} {oc_is_sequence kV_is_sequence dc_is_sequence pm_is_sequence cd_is_sequence ct_is_sequence : Value}
    {f_is_word : Addr} {od_is_word an_is_word : Option Addr} {sl_is_word : Array (Option Value)} {oc_is_word kV_is_word dc_is_word pm_is_word cd_is_word ct_is_word : Value}
    {f_is_bit : Addr} {od_is_bit an_is_bit : Option Addr} {sl_is_bit : Array (Option Value)} {oc_is_bit kV_is_bit dc_is_bit pm_is_bit cd_is_bit ct_is_bit : Value}
    {f_tail : Addr} {od_tail an_tail : Option Addr} {sl_tail : Array (Option Value)} {oc_tail kV_tail dc_tail pm_tail cd_tail ct_tail : Value}
    {f_is_stuff : Addr} {od_is_stuff an_is_stuff : Option Addr} {sl_is_stuff : Array (Option Value)} {oc_is_stuff kV_is_stuff dc_is_stuff pm_is_stuff cd_is_stuff ct_is_stuff : Value}
    {f_are_stuffs : Addr} {od_are_stuffs an_are_stuffs : Option Addr} {sl_are_stuffs : Array (Option Value)} {oc_are_stuffs kV_are_stuffs dc_are_stuffs pm_are_stuffs cd_are_stuffs ct_are_stuffs : Value}
    {f_l_seed : Addr} {od_l_seed an_l_seed : Option Addr} {sl_l_seed : Array (Option Value)} {oc_l_seed kV_l_seed dc_l_seed pm_l_seed cd_l_seed ct_l_seed : Value}
    {f_l_choose : Addr} {od_l_choose an_l_choose : Option Addr} {sl_l_choose : Array (Option Value)} {oc_l_choose kV_l_choose dc_l_choose pm_l_choose cd_l_choose ct_l_choose : Value}
    {f_l_one_of : Addr} {od_l_one_of an_l_one_of : Option Addr} {sl_l_one_of : Array (Option Value)} {oc_l_one_of kV_l_one_of dc_l_one_of pm_l_one_of cd_l_one_of ct_l_one_of : Value}
    {f_l_word : Addr} {od_l_word an_l_word : Option Addr} {sl_l_word : Array (Option Value)} {oc_l_word kV_l_word dc_l_word pm_l_word cd_l_word ct_l_word : Value}
    {f_l_put : Addr} {od_l_put an_l_put : Option Addr} {sl_l_put : Array (Option Value)} {oc_l_put kV_l_put dc_l_put pm_l_put cd_l_put ct_l_put : Value}
    {f_l_is_rule : Addr} {od_l_is_rule an_l_is_rule : Option Addr} {sl_l_is_rule : Array (Option Value)} {oc_l_is_rule kV_l_is_rule dc_l_is_rule pm_l_is_rule cd_l_is_rule ct_l_is_rule : Value}
    {f_l_rule : Addr} {od_l_rule an_l_rule : Option Addr} {sl_l_rule : Array (Option Value)} {oc_l_rule kV_l_rule dc_l_rule pm_l_rule cd_l_rule ct_l_rule : Value}
    {f_l_deep : Addr} {od_l_deep an_l_deep : Option Addr} {sl_l_deep : Array (Option Value)} {oc_l_deep kV_l_deep dc_l_deep pm_l_deep cd_l_deep ct_l_deep : Value}
    {f_l_leaf : Addr} {od_l_leaf an_l_leaf : Option Addr} {sl_l_leaf : Array (Option Value)} {oc_l_leaf kV_l_leaf dc_l_leaf pm_l_leaf cd_l_leaf ct_l_leaf : Value}
    {f_l_any : Addr} {od_l_any an_l_any : Option Addr} {sl_l_any : Array (Option Value)} {oc_l_any kV_l_any dc_l_any pm_l_any cd_l_any ct_l_any : Value}
    {f_l_is_word : Addr} {od_l_is_word an_l_is_word : Option Addr} {sl_l_is_word : Array (Option Value)} {oc_l_is_word kV_l_is_word dc_l_is_word pm_l_is_word cd_l_is_word ct_l_is_word : Value}
    {f_l_is_stuff : Addr} {od_l_is_stuff an_l_is_stuff : Option Addr} {sl_l_is_stuff : Array (Option Value)} {oc_l_is_stuff kV_l_is_stuff dc_l_is_stuff pm_l_is_stuff cd_l_is_stuff ct_l_is_stuff : Value}
    {f_l_due : Addr} {od_l_due an_l_due : Option Addr} {sl_l_due : Array (Option Value)} {oc_l_due kV_l_due dc_l_due pm_l_due cd_l_due ct_l_due : Value}
    {f_l_heard : Addr} {od_l_heard an_l_heard : Option Addr} {sl_l_heard : Array (Option Value)} {oc_l_heard kV_l_heard dc_l_heard pm_l_heard cd_l_heard ct_l_heard : Value}
    {f_law : Addr} {od_law an_law : Option Addr} {sl_law : Array (Option Value)} {oc_law kV_law dc_law pm_law cd_law ct_law : Value}
    {C_Rule : Addr}
    {f_Rule_put : Addr} {od_Rule_put an_Rule_put : Option Addr} {sl_Rule_put : Array (Option Value)} {oc_Rule_put kV_Rule_put dc_Rule_put pm_Rule_put cd_Rule_put ct_Rule_put : Value}
    {f_Rule_longest : Addr} {od_Rule_longest an_Rule_longest : Option Addr} {sl_Rule_longest : Array (Option Value)} {oc_Rule_longest kV_Rule_longest dc_Rule_longest pm_Rule_longest cd_Rule_longest ct_Rule_longest : Value}
    {p_Rule_longest : Addr} {pr_Rule_longest : List Value}
    {f_Rule_put_in : Addr} {od_Rule_put_in an_Rule_put_in : Option Addr} {sl_Rule_put_in : Array (Option Value)} {oc_Rule_put_in kV_Rule_put_in dc_Rule_put_in pm_Rule_put_in cd_Rule_put_in ct_Rule_put_in : Value}
    {f_Rule_is_endless : Addr} {od_Rule_is_endless an_Rule_is_endless : Option Addr} {sl_Rule_is_endless : Array (Option Value)} {oc_Rule_is_endless kV_Rule_is_endless dc_Rule_is_endless pm_Rule_is_endless cd_Rule_is_endless ct_Rule_is_endless : Value}
    {f_Rule_init : Addr} {od_Rule_init an_Rule_init : Option Addr} {sl_Rule_init : Array (Option Value)} {oc_Rule_init kV_Rule_init dc_Rule_init pm_Rule_init cd_Rule_init ct_Rule_init : Value}
    {dT_Rule_init : Addr} {dd_Rule_init : Option Addr} {dn_Rule_init : Nat} {ds_Rule_init : Array (Option Value)} {dE_R : Addr} {dde_R : Option Addr} {dne_R : Nat} {dse_R : Array (Option Value)}
    {C_InvalidRule f_InvalidRule cc_InvalidRule cda_InvalidRule : Addr} {od_InvalidRule an_InvalidRule : Option Addr} {sl_InvalidRule : Array (Option Value)} {oc_InvalidRule kV_InvalidRule dc_InvalidRule pm_InvalidRule ct_InvalidRule : Value}
    {Enm_InvalidRule Eq_InvalidRule : Str} {EN_InvalidRule : Addr} {Ebs_InvalidRule Ebm_InvalidRule : List Value} {Esn_InvalidRule : List Str} {Esub_InvalidRule : List Value} {Eab_InvalidRule : Bool} {Ecol_InvalidRule : Option Bool} {Edd_InvalidRule : Option Addr} {E0_InvalidRule E1_InvalidRule E2_InvalidRule E3_InvalidRule E5_InvalidRule : Option Value} {cl_InvalidRule ccl_InvalidRule : Value} {cld_InvalidRule cdd_InvalidRule : Option Addr} {csl_InvalidRule ccs_InvalidRule : Array (Option Value)} {cvs_InvalidRule : Array Value} {file_InvalidRule : Str} {ctf_InvalidRule : Tok}
    {CGI_FlipError : Addr}
    {CGI_InvalidCheck : Addr}
    {tB : Tok}
    (a_is_sequence : PySem.W.nsIn K mainGlobals "is_sequence" = some (some (.ref f_is_sequence)))
    (l_is_sequence : K.lookup f_is_sequence = some ⟨oc_is_sequence, od_is_sequence, .func (PySem.W.fnOf "is_sequence" "is_sequence" (fnArgs s_is_sequence) (fnBody s_is_sequence) (fnScope s_is_sequence) .none kV_is_sequence dc_is_sequence pm_is_sequence an_is_sequence cd_is_sequence ct_is_sequence), sl_is_sequence⟩)
    (c_is_sequence : PySem.W.codeIn K cd_is_sequence "is_sequence" = true)
    (k_is_sequence : PySem.W.keepIn K (.ref f_is_sequence) = true)
    (a_is_word : PySem.W.nsIn K mainGlobals "is_word" = some (some (.ref f_is_word)))
    (l_is_word : K.lookup f_is_word = some ⟨oc_is_word, od_is_word, .func (PySem.W.fnOf "is_word" "is_word" (fnArgs s_is_word) (fnBody s_is_word) (fnScope s_is_word) .none kV_is_word dc_is_word pm_is_word an_is_word cd_is_word ct_is_word), sl_is_word⟩)
    (c_is_word : PySem.W.codeIn K cd_is_word "is_word" = true)
    (k_is_word : PySem.W.keepIn K (.ref f_is_word) = true)
    (a_is_bit : PySem.W.nsIn K mainGlobals "is_bit" = some (some (.ref f_is_bit)))
    (l_is_bit : K.lookup f_is_bit = some ⟨oc_is_bit, od_is_bit, .func (PySem.W.fnOf "is_bit" "is_bit" (fnArgs s_is_bit) (fnBody s_is_bit) (fnScope s_is_bit) .none kV_is_bit dc_is_bit pm_is_bit an_is_bit cd_is_bit ct_is_bit), sl_is_bit⟩)
    (c_is_bit : PySem.W.codeIn K cd_is_bit "is_bit" = true)
    (k_is_bit : PySem.W.keepIn K (.ref f_is_bit) = true)
    (a_tail : PySem.W.nsIn K mainGlobals "tail" = some (some (.ref f_tail)))
    (l_tail : K.lookup f_tail = some ⟨oc_tail, od_tail, .func (PySem.W.fnOf "tail" "tail" (fnArgs s_tail) (fnBody s_tail) (fnScope s_tail) .none kV_tail dc_tail pm_tail an_tail cd_tail ct_tail), sl_tail⟩)
    (c_tail : PySem.W.codeIn K cd_tail "tail" = true)
    (k_tail : PySem.W.keepIn K (.ref f_tail) = true)
    (a_is_stuff : PySem.W.nsIn K mainGlobals "is_stuff" = some (some (.ref f_is_stuff)))
    (l_is_stuff : K.lookup f_is_stuff = some ⟨oc_is_stuff, od_is_stuff, .func (PySem.W.fnOf "is_stuff" "is_stuff" (fnArgs s_is_stuff) (fnBody s_is_stuff) (fnScope s_is_stuff) .none kV_is_stuff dc_is_stuff pm_is_stuff an_is_stuff cd_is_stuff ct_is_stuff), sl_is_stuff⟩)
    (c_is_stuff : PySem.W.codeIn K cd_is_stuff "is_stuff" = true)
    (k_is_stuff : PySem.W.keepIn K (.ref f_is_stuff) = true)
    (a_are_stuffs : PySem.W.nsIn K mainGlobals "are_stuffs" = some (some (.ref f_are_stuffs)))
    (l_are_stuffs : K.lookup f_are_stuffs = some ⟨oc_are_stuffs, od_are_stuffs, .func (PySem.W.fnOf "are_stuffs" "are_stuffs" (fnArgs s_are_stuffs) (fnBody s_are_stuffs) (fnScope s_are_stuffs) .none kV_are_stuffs dc_are_stuffs pm_are_stuffs an_are_stuffs cd_are_stuffs ct_are_stuffs), sl_are_stuffs⟩)
    (c_are_stuffs : PySem.W.codeIn K cd_are_stuffs "are_stuffs" = true)
    (k_are_stuffs : PySem.W.keepIn K (.ref f_are_stuffs) = true)
    (a_l_seed : PySem.W.nsIn K mainGlobals "_law_seed" = some (some (.ref f_l_seed)))
    (l_l_seed : K.lookup f_l_seed = some ⟨oc_l_seed, od_l_seed, .func (PySem.W.fnOf "_law_seed" "_law_seed" (fnArgs s_l_seed) (fnBody s_l_seed) (fnScope s_l_seed) .none kV_l_seed dc_l_seed pm_l_seed an_l_seed cd_l_seed ct_l_seed), sl_l_seed⟩)
    (c_l_seed : PySem.W.codeIn K cd_l_seed "_law_seed" = true)
    (k_l_seed : PySem.W.keepIn K (.ref f_l_seed) = true)
    (a_l_choose : PySem.W.nsIn K mainGlobals "_law_choose" = some (some (.ref f_l_choose)))
    (l_l_choose : K.lookup f_l_choose = some ⟨oc_l_choose, od_l_choose, .func (PySem.W.fnOf "_law_choose" "_law_choose" (fnArgs s_l_choose) (fnBody s_l_choose) (fnScope s_l_choose) .none kV_l_choose dc_l_choose pm_l_choose an_l_choose cd_l_choose ct_l_choose), sl_l_choose⟩)
    (c_l_choose : PySem.W.codeIn K cd_l_choose "_law_choose" = true)
    (k_l_choose : PySem.W.keepIn K (.ref f_l_choose) = true)
    (a_l_one_of : PySem.W.nsIn K mainGlobals "_law_one_of" = some (some (.ref f_l_one_of)))
    (l_l_one_of : K.lookup f_l_one_of = some ⟨oc_l_one_of, od_l_one_of, .func (PySem.W.fnOf "_law_one_of" "_law_one_of" (fnArgs s_l_one_of) (fnBody s_l_one_of) (fnScope s_l_one_of) .none kV_l_one_of dc_l_one_of pm_l_one_of an_l_one_of cd_l_one_of ct_l_one_of), sl_l_one_of⟩)
    (c_l_one_of : PySem.W.codeIn K cd_l_one_of "_law_one_of" = true)
    (k_l_one_of : PySem.W.keepIn K (.ref f_l_one_of) = true)
    (a_l_word : PySem.W.nsIn K mainGlobals "_law_word" = some (some (.ref f_l_word)))
    (l_l_word : K.lookup f_l_word = some ⟨oc_l_word, od_l_word, .func (PySem.W.fnOf "_law_word" "_law_word" (fnArgs s_l_word) (fnBody s_l_word) (fnScope s_l_word) .none kV_l_word dc_l_word pm_l_word an_l_word cd_l_word ct_l_word), sl_l_word⟩)
    (c_l_word : PySem.W.codeIn K cd_l_word "_law_word" = true)
    (k_l_word : PySem.W.keepIn K (.ref f_l_word) = true)
    (a_l_put : PySem.W.nsIn K mainGlobals "_law_put" = some (some (.ref f_l_put)))
    (l_l_put : K.lookup f_l_put = some ⟨oc_l_put, od_l_put, .func (PySem.W.fnOf "_law_put" "_law_put" (fnArgs s_l_put) (fnBody s_l_put) (fnScope s_l_put) .none kV_l_put dc_l_put pm_l_put an_l_put cd_l_put ct_l_put), sl_l_put⟩)
    (c_l_put : PySem.W.codeIn K cd_l_put "_law_put" = true)
    (k_l_put : PySem.W.keepIn K (.ref f_l_put) = true)
    (a_l_is_rule : PySem.W.nsIn K mainGlobals "_law_is_rule" = some (some (.ref f_l_is_rule)))
    (l_l_is_rule : K.lookup f_l_is_rule = some ⟨oc_l_is_rule, od_l_is_rule, .func (PySem.W.fnOf "_law_is_rule" "_law_is_rule" (fnArgs s_l_is_rule) (fnBody s_l_is_rule) (fnScope s_l_is_rule) .none kV_l_is_rule dc_l_is_rule pm_l_is_rule an_l_is_rule cd_l_is_rule ct_l_is_rule), sl_l_is_rule⟩)
    (c_l_is_rule : PySem.W.codeIn K cd_l_is_rule "_law_is_rule" = true)
    (k_l_is_rule : PySem.W.keepIn K (.ref f_l_is_rule) = true)
    (a_l_rule : PySem.W.nsIn K mainGlobals "_law_rule" = some (some (.ref f_l_rule)))
    (l_l_rule : K.lookup f_l_rule = some ⟨oc_l_rule, od_l_rule, .func (PySem.W.fnOf "_law_rule" "_law_rule" (fnArgs s_l_rule) (fnBody s_l_rule) (fnScope s_l_rule) .none kV_l_rule dc_l_rule pm_l_rule an_l_rule cd_l_rule ct_l_rule), sl_l_rule⟩)
    (c_l_rule : PySem.W.codeIn K cd_l_rule "_law_rule" = true)
    (k_l_rule : PySem.W.keepIn K (.ref f_l_rule) = true)
    (a_l_deep : PySem.W.nsIn K mainGlobals "_law_deep" = some (some (.ref f_l_deep)))
    (l_l_deep : K.lookup f_l_deep = some ⟨oc_l_deep, od_l_deep, .func (PySem.W.fnOf "_law_deep" "_law_deep" (fnArgs s_l_deep) (fnBody s_l_deep) (fnScope s_l_deep) .none kV_l_deep dc_l_deep pm_l_deep an_l_deep cd_l_deep ct_l_deep), sl_l_deep⟩)
    (c_l_deep : PySem.W.codeIn K cd_l_deep "_law_deep" = true)
    (k_l_deep : PySem.W.keepIn K (.ref f_l_deep) = true)
    (a_l_leaf : PySem.W.nsIn K mainGlobals "_law_leaf" = some (some (.ref f_l_leaf)))
    (l_l_leaf : K.lookup f_l_leaf = some ⟨oc_l_leaf, od_l_leaf, .func (PySem.W.fnOf "_law_leaf" "_law_leaf" (fnArgs s_l_leaf) (fnBody s_l_leaf) (fnScope s_l_leaf) .none kV_l_leaf dc_l_leaf pm_l_leaf an_l_leaf cd_l_leaf ct_l_leaf), sl_l_leaf⟩)
    (c_l_leaf : PySem.W.codeIn K cd_l_leaf "_law_leaf" = true)
    (k_l_leaf : PySem.W.keepIn K (.ref f_l_leaf) = true)
    (a_l_any : PySem.W.nsIn K mainGlobals "_law_any" = some (some (.ref f_l_any)))
    (l_l_any : K.lookup f_l_any = some ⟨oc_l_any, od_l_any, .func (PySem.W.fnOf "_law_any" "_law_any" (fnArgs s_l_any) (fnBody s_l_any) (fnScope s_l_any) .none kV_l_any dc_l_any pm_l_any an_l_any cd_l_any ct_l_any), sl_l_any⟩)
    (c_l_any : PySem.W.codeIn K cd_l_any "_law_any" = true)
    (k_l_any : PySem.W.keepIn K (.ref f_l_any) = true)
    (a_l_is_word : PySem.W.nsIn K mainGlobals "_law_is_word" = some (some (.ref f_l_is_word)))
    (l_l_is_word : K.lookup f_l_is_word = some ⟨oc_l_is_word, od_l_is_word, .func (PySem.W.fnOf "_law_is_word" "_law_is_word" (fnArgs s_l_is_word) (fnBody s_l_is_word) (fnScope s_l_is_word) .none kV_l_is_word dc_l_is_word pm_l_is_word an_l_is_word cd_l_is_word ct_l_is_word), sl_l_is_word⟩)
    (c_l_is_word : PySem.W.codeIn K cd_l_is_word "_law_is_word" = true)
    (k_l_is_word : PySem.W.keepIn K (.ref f_l_is_word) = true)
    (a_l_is_stuff : PySem.W.nsIn K mainGlobals "_law_is_stuff" = some (some (.ref f_l_is_stuff)))
    (l_l_is_stuff : K.lookup f_l_is_stuff = some ⟨oc_l_is_stuff, od_l_is_stuff, .func (PySem.W.fnOf "_law_is_stuff" "_law_is_stuff" (fnArgs s_l_is_stuff) (fnBody s_l_is_stuff) (fnScope s_l_is_stuff) .none kV_l_is_stuff dc_l_is_stuff pm_l_is_stuff an_l_is_stuff cd_l_is_stuff ct_l_is_stuff), sl_l_is_stuff⟩)
    (c_l_is_stuff : PySem.W.codeIn K cd_l_is_stuff "_law_is_stuff" = true)
    (k_l_is_stuff : PySem.W.keepIn K (.ref f_l_is_stuff) = true)
    (a_l_due : PySem.W.nsIn K mainGlobals "_law_due" = some (some (.ref f_l_due)))
    (l_l_due : K.lookup f_l_due = some ⟨oc_l_due, od_l_due, .func (PySem.W.fnOf "_law_due" "_law_due" (fnArgs s_l_due) (fnBody s_l_due) (fnScope s_l_due) .none kV_l_due dc_l_due pm_l_due an_l_due cd_l_due ct_l_due), sl_l_due⟩)
    (c_l_due : PySem.W.codeIn K cd_l_due "_law_due" = true)
    (k_l_due : PySem.W.keepIn K (.ref f_l_due) = true)
    (a_l_heard : PySem.W.nsIn K mainGlobals "_law_heard" = some (some (.ref f_l_heard)))
    (l_l_heard : K.lookup f_l_heard = some ⟨oc_l_heard, od_l_heard, .func (PySem.W.fnOf "_law_heard" "_law_heard" (fnArgs s_l_heard) (fnBody s_l_heard) (fnScope s_l_heard) .none kV_l_heard dc_l_heard pm_l_heard an_l_heard cd_l_heard ct_l_heard), sl_l_heard⟩)
    (c_l_heard : PySem.W.codeIn K cd_l_heard "_law_heard" = true)
    (k_l_heard : PySem.W.keepIn K (.ref f_l_heard) = true)
    (a_law : PySem.W.nsIn K mainGlobals "law" = some (some (.ref f_law)))
    (l_law : K.lookup f_law = some ⟨oc_law, od_law, .func (PySem.W.fnOf "law" "law" (fnArgs s_law) (fnBody s_law) (fnScope s_law) .none kV_law dc_law pm_law an_law cd_law ct_law), sl_law⟩)
    (c_law : PySem.W.codeIn K cd_law "law" = true)
    (k_law : PySem.W.keepIn K (.ref f_law) = true)
    (aC_Rule : PySem.W.nsIn K mainGlobals "Rule" = some (some (.ref C_Rule)))
    (pg_Rule : PySem.W.plainGet K C_Rule Str.empty = true)
    (hd_Rule : PySem.W.hasDictIn K C_Rule = true)
    (po_Rule : PySem.W.plainOver K C_Rule = true)
    (sa_Rule : PySem.W.findIn K (.ref C_Rule) "__setattr__" = some (some (.builtin "object.__setattr__")))
    (mk_Rule : PySem.W.makesIn K C_Rule = true)
    (kc_Rule : PySem.W.keepIn K (.ref C_Rule) = true)
    (n_Rule_flag : PySem.W.findIn K (.ref C_Rule) "flag" = some none)
    (n_Rule_stuffs : PySem.W.findIn K (.ref C_Rule) "stuffs" = some none)
    (a_Rule_put : PySem.W.findIn K (.ref C_Rule) "put" = some (some (.ref f_Rule_put)))
    (i_Rule_put : PySem.W.isFn K (.ref f_Rule_put) = true)
    (l_Rule_put : K.lookup f_Rule_put = some ⟨oc_Rule_put, od_Rule_put, .func (PySem.W.fnOf "put" "Rule.put" (fnArgs s_Rule_put) (fnBody s_Rule_put) (fnScope s_Rule_put) .none kV_Rule_put dc_Rule_put pm_Rule_put an_Rule_put cd_Rule_put ct_Rule_put), sl_Rule_put⟩)
    (c_Rule_put : PySem.W.codeIn K cd_Rule_put "Rule.put" = true)
    (k_Rule_put : PySem.W.keepIn K (.ref f_Rule_put) = true)
    (a_Rule_longest : PySem.W.findIn K (.ref C_Rule) "longest" = some (some (.ref p_Rule_longest)))
    (g_Rule_longest : PySem.W.specialIn K (.ref p_Rule_longest) "__get__" = some (some (.builtin "property.__get__")))
    (t_Rule_longest : PySem.W.takesIn K (.ref p_Rule_longest) = some true)
    (r_Rule_longest : PySem.W.recIn K p_Rule_longest "property" = some (.ref f_Rule_longest :: pr_Rule_longest))
    (l_Rule_longest : K.lookup f_Rule_longest = some ⟨oc_Rule_longest, od_Rule_longest, .func (PySem.W.fnOf "longest" "Rule.longest" (fnArgs s_Rule_longest) (fnBody s_Rule_longest) (fnScope s_Rule_longest) .none kV_Rule_longest dc_Rule_longest pm_Rule_longest an_Rule_longest cd_Rule_longest ct_Rule_longest), sl_Rule_longest⟩)
    (c_Rule_longest : PySem.W.codeIn K cd_Rule_longest "Rule.longest" = true)
    (a_Rule_put_in : PySem.W.findIn K (.ref C_Rule) "put_in" = some (some (.ref f_Rule_put_in)))
    (i_Rule_put_in : PySem.W.isFn K (.ref f_Rule_put_in) = true)
    (l_Rule_put_in : K.lookup f_Rule_put_in = some ⟨oc_Rule_put_in, od_Rule_put_in, .func (PySem.W.fnOf "put_in" "Rule.put_in" (fnArgs s_Rule_put_in) (fnBody s_Rule_put_in) (fnScope s_Rule_put_in) .none kV_Rule_put_in dc_Rule_put_in pm_Rule_put_in an_Rule_put_in cd_Rule_put_in ct_Rule_put_in), sl_Rule_put_in⟩)
    (c_Rule_put_in : PySem.W.codeIn K cd_Rule_put_in "Rule.put_in" = true)
    (k_Rule_put_in : PySem.W.keepIn K (.ref f_Rule_put_in) = true)
    (a_Rule_is_endless : PySem.W.findIn K (.ref C_Rule) "is_endless" = some (some (.ref f_Rule_is_endless)))
    (i_Rule_is_endless : PySem.W.isFn K (.ref f_Rule_is_endless) = true)
    (l_Rule_is_endless : K.lookup f_Rule_is_endless = some ⟨oc_Rule_is_endless, od_Rule_is_endless, .func (PySem.W.fnOf "is_endless" "Rule.is_endless" (fnArgs s_Rule_is_endless) (fnBody s_Rule_is_endless) (fnScope s_Rule_is_endless) .none kV_Rule_is_endless dc_Rule_is_endless pm_Rule_is_endless an_Rule_is_endless cd_Rule_is_endless ct_Rule_is_endless), sl_Rule_is_endless⟩)
    (c_Rule_is_endless : PySem.W.codeIn K cd_Rule_is_endless "Rule.is_endless" = true)
    (k_Rule_is_endless : PySem.W.keepIn K (.ref f_Rule_is_endless) = true)
    (a_Rule_init : PySem.W.findIn K (.ref C_Rule) "__init__" = some (some (.ref f_Rule_init)))
    (i_Rule_init : PySem.W.isFn K (.ref f_Rule_init) = true)
    (l_Rule_init : K.lookup f_Rule_init = some ⟨oc_Rule_init, od_Rule_init, .func (PySem.W.fnOf "__init__" "Rule.__init__" (fnArgs s_Rule_init) (fnBody s_Rule_init) (fnScope s_Rule_init) (.ref dT_Rule_init) kV_Rule_init dc_Rule_init pm_Rule_init an_Rule_init cd_Rule_init ct_Rule_init), sl_Rule_init⟩)
    (c_Rule_init : PySem.W.codeIn K cd_Rule_init "Rule.__init__" = true)
    (k_Rule_init : PySem.W.keepIn K (.ref f_Rule_init) = true)
    (dl_Rule_init : K.lookup dT_Rule_init = some ⟨.type "tuple", dd_Rule_init, .seq #[.ref dE_R] dn_Rule_init, ds_Rule_init⟩)
    (dlE_Rule : K.lookup dE_R = some ⟨.type "tuple", dde_R, .seq #[] dne_R, dse_R⟩)
    (aC_InvalidRule : PySem.W.nsIn K mainGlobals "InvalidRule" = some (some (.ref C_InvalidRule)))
    (elk_InvalidRule : K.lookup C_InvalidRule = some (excClassObj Enm_InvalidRule Eq_InvalidRule C_InvalidRule EN_InvalidRule Ebs_InvalidRule Ebm_InvalidRule true Esn_InvalidRule Esub_InvalidRule Eab_InvalidRule Ecol_InvalidRule Edd_InvalidRule E0_InvalidRule E1_InvalidRule E2_InvalidRule E3_InvalidRule E5_InvalidRule "ValueError.__new__"))
    (erf_InvalidRule : PySem.HandSPX.refsVE Ebm_InvalidRule = true)
    (sa_InvalidRule : PySem.W.findIn K (.ref C_InvalidRule) "__setattr__" = some (some (.builtin "object.__setattr__")))
    (exC_InvalidRule : PySem.W.subIn K (.ref C_InvalidRule) (.type "BaseException") = some true)
    (tyC_InvalidRule : PySem.W.typeIn K (.ref C_InvalidRule) = some (.type "type"))
    (kC_InvalidRule : PySem.W.keepIn K (.ref C_InvalidRule) = true)
    (no_InvalidRule : PySem.W.findIn K (.ref C_InvalidRule) "word" = some none)
    (a_InvalidRule : PySem.W.findIn K (.ref C_InvalidRule) "__init__" = some (some (.ref f_InvalidRule)))
    (t_InvalidRule : PySem.W.typeIn K (.ref f_InvalidRule) = some (.type "function"))
    (lk_InvalidRule : K.lookup f_InvalidRule = some ⟨oc_InvalidRule, od_InvalidRule, .func (PySem.W.fnX "__init__" "InvalidRule.__init__" (fnArgs s_InvalidRule_init) (fnBody s_InvalidRule_init) (fnScope s_InvalidRule_init) [("__class__", cc_InvalidRule)] .none kV_InvalidRule dc_InvalidRule pm_InvalidRule an_InvalidRule (.ref cda_InvalidRule) ct_InvalidRule), sl_InvalidRule⟩)
    (cd_InvalidRule : PySem.W.codeIn K (.ref cda_InvalidRule) "InvalidRule.__init__" = true)
    (cell_InvalidRule : K.lookup cc_InvalidRule = some ⟨cl_InvalidRule, cld_InvalidRule, .cell (some (.ref C_InvalidRule)), csl_InvalidRule⟩)
    (code_InvalidRule : K.lookup cda_InvalidRule = some ⟨ccl_InvalidRule, cdd_InvalidRule, .fields cvs_InvalidRule, ccs_InvalidRule⟩)
    (cfl_InvalidRule : cvs_InvalidRule[2]? = some (.str file_InvalidRule ctf_InvalidRule))
    (fl_InvalidRule : ((l.prog.main.file : Str) == file_InvalidRule) = true)
    (tp_InvalidRule : (l.prog.main.scope.names.lookup ("super" : Str)).isSome = false)
    (sub_InvalidRule : PySem.W.mroIn K C_InvalidRule (.ref C_InvalidRule) = some true)
    (sup_InvalidRule : PySem.W.nsIn K mainGlobals "super" = some none)
    (opq_InvalidRule : PySem.W.nsIn K cStatics "thirdparty.any" = some none)
    (ini_InvalidRule : PySem.W.ks_superIn K C_InvalidRule C_InvalidRule "__init__" = some (some (.builtin "ValueError.__init__")))
    (ve_InvalidRule : PySem.W.subIn K (.ref C_InvalidRule) (.type "ValueError") = some true)
    (ehd_InvalidRule : PySem.W.hasDictIn K C_InvalidRule = true)
    (esb_InvalidRule : PySem.W.subIn K (.ref C_InvalidRule) (.ref C_InvalidRule) = some true)
    (ega_InvalidRule : PySem.W.findIn K (.ref C_InvalidRule) "__getattribute__" = some (some (.builtin "BaseException.__getattribute__")))
    (egg_InvalidRule : PySem.W.findIn K (.ref C_InvalidRule) "__getattr__" = some none)
    (mro_Rule : PySem.W.mroIn K C_Rule (.type "object") = some true)
    (cls_Rule : PySem.W.findIn K (.ref C_Rule) "__class__" = some (some (.builtin "object.__class__")))
    (clg_X : PySem.W.specialIn K (.builtin "object.__class__") "__get__" = some (some (.builtin "getset_descriptor.__get__")))
    (clt_X : PySem.W.takesIn K (.builtin "object.__class__") = some true)
    (kon_rt : PySem.W.kitOne K (.ref C_Rule) (.type "tuple") = some false)
    (kon_rl : PySem.W.kitOne K (.ref C_Rule) (.type "list") = some false)
    (kon_rs : PySem.W.kitOne K (.ref C_Rule) (.type "str") = some false)
    (aGI_FlipError : PySem.W.nsIn K mainGlobals "FlipError" = some (some (.ref CGI_FlipError)))
    (aGI_InvalidCheck : PySem.W.nsIn K mainGlobals "InvalidCheck" = some (some (.ref CGI_InvalidCheck)))
    (xg_InvalidRule : PySem.W.findIn K (.ref C_InvalidRule) "__getattribute__" = some (some (.builtin "BaseException.__getattribute__")))
    (xk_InvalidRule : PySem.W.findIn K (.ref C_InvalidRule) "__getattr__" = some none)
    (xs_InvalidRule : PySem.W.subIn K (.ref C_InvalidRule) (.type "BaseException") = some true)
    (xd_InvalidRule : PySem.W.hasDictIn K C_InvalidRule = true)
    (xa_InvalidRule : PySem.W.findIn K (.ref C_InvalidRule) "__class__" = some (some (.builtin "object.__class__")))
    (xm_InvalidRule : PySem.W.mroIn K C_InvalidRule (.type "object") = some true)
    (kon_if : PySem.W.kitOne K (.ref C_InvalidRule) (.ref CGI_FlipError) = some true)
    (kon_ic : PySem.W.kitOne K (.ref C_InvalidRule) (.ref CGI_InvalidCheck) = some false)
    (gBITS : PySem.W.nsIn K mainGlobals "BITS" = some (some (.str "01" tB)))
    (z_len : PySem.W.nsIn K mainGlobals "len" = some none)
    (z_abs : PySem.W.nsIn K mainGlobals "abs" = some none)
    (z_int : PySem.W.nsIn K mainGlobals "int" = some none)
    (z_range : PySem.W.nsIn K mainGlobals "range" = some none)
    (z_max : PySem.W.nsIn K mainGlobals "max" = some none)
    (z_min : PySem.W.nsIn K mainGlobals "min" = some none)
    (z_enumerate : PySem.W.nsIn K mainGlobals "enumerate" = some none)
    (z_zip : PySem.W.nsIn K mainGlobals "zip" = some none)
    (z_dict : PySem.W.nsIn K mainGlobals "dict" = some none)
    (z_list : PySem.W.nsIn K mainGlobals "list" = some none)
    (z_tuple : PySem.W.nsIn K mainGlobals "tuple" = some none)
    (z_isinstance : PySem.W.nsIn K mainGlobals "isinstance" = some none)
    (z_bool : PySem.W.nsIn K mainGlobals "bool" = some none)
    (z_str : PySem.W.nsIn K mainGlobals "str" = some none)
    (z_all : PySem.W.nsIn K mainGlobals "all" = some none)
    (z_any : PySem.W.nsIn K mainGlobals "any" = some none)
    (z_sum : PySem.W.nsIn K mainGlobals "sum" = some none)
    (z_sorted : PySem.W.nsIn K mainGlobals "sorted" = some none)
    (z_repr : PySem.W.nsIn K mainGlobals "repr" = some none) :
    ∃ fd : FuncData, (∀ (s : Shared) (v : Value), BindsTo s fd ⟨[v], []⟩ [("_law_script", v)]) ∧ ∀ base : Heap, K.In base → base.Ns mainGlobals mg → FnOk l.prog w K mg base CX0 13 fa fd ["_law_script"] (spLaw K) := by
  have e : f_law = fa := Value.ref.inj (Option.some.inj ((PySem.W.mg_of X G a_law).symm.trans hfa))
  subst e
  have T : Tx mg := ⟨PySem.W.mg_none_of X G z_len, PySem.W.mg_none_of X G z_abs, PySem.W.mg_none_of X G z_int, PySem.W.mg_none_of X G z_range, PySem.W.mg_none_of X G z_max, PySem.W.mg_none_of X G z_min, PySem.W.mg_none_of X G z_enumerate, PySem.W.mg_none_of X G z_zip, PySem.W.mg_none_of X G z_dict, PySem.W.mg_none_of X G z_list, PySem.W.mg_none_of X G z_tuple, PySem.W.mg_none_of X G z_isinstance, PySem.W.mg_none_of X G z_bool, PySem.W.mg_none_of X G z_str, PySem.W.mg_none_of X G z_all, PySem.W.mg_none_of X G z_any, PySem.W.mg_none_of X G z_sum, PySem.W.mg_none_of X G z_sorted, PySem.W.mg_none_of X G z_repr⟩
  have F_is_sequence : Def K mg "is_sequence" s_is_sequence f_is_sequence (PySem.W.fnOf "is_sequence" "is_sequence" (fnArgs s_is_sequence) (fnBody s_is_sequence) (fnScope s_is_sequence) .none kV_is_sequence dc_is_sequence pm_is_sequence an_is_sequence cd_is_sequence ct_is_sequence) := ⟨⟨_, _, _, _, _, _, _, _, _, _, rfl, l_is_sequence, c_is_sequence⟩, PySem.W.mg_of X G a_is_sequence, k_is_sequence⟩
  have b_is_sequence := C8.Fun.binds (ps := ["value"]) F_is_sequence.fn rfl fun _ _ _ _ _ _ us hl => match us, hl with | [_], _ => rfl
  have F_is_word : Def K mg "is_word" s_is_word f_is_word (PySem.W.fnOf "is_word" "is_word" (fnArgs s_is_word) (fnBody s_is_word) (fnScope s_is_word) .none kV_is_word dc_is_word pm_is_word an_is_word cd_is_word ct_is_word) := ⟨⟨_, _, _, _, _, _, _, _, _, _, rfl, l_is_word, c_is_word⟩, PySem.W.mg_of X G a_is_word, k_is_word⟩
  have b_is_word := C8.Fun.binds (ps := ["value"]) F_is_word.fn rfl fun _ _ _ _ _ _ us hl => match us, hl with | [_], _ => rfl
  have F_is_bit : Def K mg "is_bit" s_is_bit f_is_bit (PySem.W.fnOf "is_bit" "is_bit" (fnArgs s_is_bit) (fnBody s_is_bit) (fnScope s_is_bit) .none kV_is_bit dc_is_bit pm_is_bit an_is_bit cd_is_bit ct_is_bit) := ⟨⟨_, _, _, _, _, _, _, _, _, _, rfl, l_is_bit, c_is_bit⟩, PySem.W.mg_of X G a_is_bit, k_is_bit⟩
  have b_is_bit := C8.Fun.binds (ps := ["value"]) F_is_bit.fn rfl fun _ _ _ _ _ _ us hl => match us, hl with | [_], _ => rfl
  have F_tail : Def K mg "tail" s_tail f_tail (PySem.W.fnOf "tail" "tail" (fnArgs s_tail) (fnBody s_tail) (fnScope s_tail) .none kV_tail dc_tail pm_tail an_tail cd_tail ct_tail) := ⟨⟨_, _, _, _, _, _, _, _, _, _, rfl, l_tail, c_tail⟩, PySem.W.mg_of X G a_tail, k_tail⟩
  have b_tail := C8.Fun.binds (ps := ["line", "size"]) F_tail.fn rfl fun _ _ _ _ _ _ us hl => match us, hl with | [_, _], _ => rfl
  have F_is_stuff : Def K mg "is_stuff" s_is_stuff f_is_stuff (PySem.W.fnOf "is_stuff" "is_stuff" (fnArgs s_is_stuff) (fnBody s_is_stuff) (fnScope s_is_stuff) .none kV_is_stuff dc_is_stuff pm_is_stuff an_is_stuff cd_is_stuff ct_is_stuff) := ⟨⟨_, _, _, _, _, _, _, _, _, _, rfl, l_is_stuff, c_is_stuff⟩, PySem.W.mg_of X G a_is_stuff, k_is_stuff⟩
  have b_is_stuff := C8.Fun.binds (ps := ["value"]) F_is_stuff.fn rfl fun _ _ _ _ _ _ us hl => match us, hl with | [_], _ => rfl
  have F_are_stuffs : Def K mg "are_stuffs" s_are_stuffs f_are_stuffs (PySem.W.fnOf "are_stuffs" "are_stuffs" (fnArgs s_are_stuffs) (fnBody s_are_stuffs) (fnScope s_are_stuffs) .none kV_are_stuffs dc_are_stuffs pm_are_stuffs an_are_stuffs cd_are_stuffs ct_are_stuffs) := ⟨⟨_, _, _, _, _, _, _, _, _, _, rfl, l_are_stuffs, c_are_stuffs⟩, PySem.W.mg_of X G a_are_stuffs, k_are_stuffs⟩
  have b_are_stuffs := C8.Fun.binds (ps := ["value"]) F_are_stuffs.fn rfl fun _ _ _ _ _ _ us hl => match us, hl with | [_], _ => rfl
  have F_l_seed : Def K mg "_law_seed" s_l_seed f_l_seed (PySem.W.fnOf "_law_seed" "_law_seed" (fnArgs s_l_seed) (fnBody s_l_seed) (fnScope s_l_seed) .none kV_l_seed dc_l_seed pm_l_seed an_l_seed cd_l_seed ct_l_seed) := ⟨⟨_, _, _, _, _, _, _, _, _, _, rfl, l_l_seed, c_l_seed⟩, PySem.W.mg_of X G a_l_seed, k_l_seed⟩
  have b_l_seed := C8.Fun.binds (ps := ["_law_script", "_law_k"]) F_l_seed.fn rfl fun _ _ _ _ _ _ us hl => match us, hl with | [_, _], _ => rfl
  have F_l_choose : Def K mg "_law_choose" s_l_choose f_l_choose (PySem.W.fnOf "_law_choose" "_law_choose" (fnArgs s_l_choose) (fnBody s_l_choose) (fnScope s_l_choose) .none kV_l_choose dc_l_choose pm_l_choose an_l_choose cd_l_choose ct_l_choose) := ⟨⟨_, _, _, _, _, _, _, _, _, _, rfl, l_l_choose, c_l_choose⟩, PySem.W.mg_of X G a_l_choose, k_l_choose⟩
  have b_l_choose := C8.Fun.binds (ps := ["_law_box", "_law_many"]) F_l_choose.fn rfl fun _ _ _ _ _ _ us hl => match us, hl with | [_, _], _ => rfl
  have F_l_one_of : Def K mg "_law_one_of" s_l_one_of f_l_one_of (PySem.W.fnOf "_law_one_of" "_law_one_of" (fnArgs s_l_one_of) (fnBody s_l_one_of) (fnScope s_l_one_of) .none kV_l_one_of dc_l_one_of pm_l_one_of an_l_one_of cd_l_one_of ct_l_one_of) := ⟨⟨_, _, _, _, _, _, _, _, _, _, rfl, l_l_one_of, c_l_one_of⟩, PySem.W.mg_of X G a_l_one_of, k_l_one_of⟩
  have b_l_one_of := C8.Fun.binds (ps := ["_law_box", "_law_some"]) F_l_one_of.fn rfl fun _ _ _ _ _ _ us hl => match us, hl with | [_, _], _ => rfl
  have F_l_word : Def K mg "_law_word" s_l_word f_l_word (PySem.W.fnOf "_law_word" "_law_word" (fnArgs s_l_word) (fnBody s_l_word) (fnScope s_l_word) .none kV_l_word dc_l_word pm_l_word an_l_word cd_l_word ct_l_word) := ⟨⟨_, _, _, _, _, _, _, _, _, _, rfl, l_l_word, c_l_word⟩, PySem.W.mg_of X G a_l_word, k_l_word⟩
  have b_l_word := C8.Fun.binds (ps := ["_law_box", "_law_few", "_law_many"]) F_l_word.fn rfl fun _ _ _ _ _ _ us hl => match us, hl with | [_, _, _], _ => rfl
  have F_l_put : Def K mg "_law_put" s_l_put f_l_put (PySem.W.fnOf "_law_put" "_law_put" (fnArgs s_l_put) (fnBody s_l_put) (fnScope s_l_put) .none kV_l_put dc_l_put pm_l_put an_l_put cd_l_put ct_l_put) := ⟨⟨_, _, _, _, _, _, _, _, _, _, rfl, l_l_put, c_l_put⟩, PySem.W.mg_of X G a_l_put, k_l_put⟩
  have b_l_put := C8.Fun.binds (ps := ["_law_rule_here", "_law_line"]) F_l_put.fn rfl fun _ _ _ _ _ _ us hl => match us, hl with | [_, _], _ => rfl
  have F_l_is_rule : Def K mg "_law_is_rule" s_l_is_rule f_l_is_rule (PySem.W.fnOf "_law_is_rule" "_law_is_rule" (fnArgs s_l_is_rule) (fnBody s_l_is_rule) (fnScope s_l_is_rule) .none kV_l_is_rule dc_l_is_rule pm_l_is_rule an_l_is_rule cd_l_is_rule ct_l_is_rule) := ⟨⟨_, _, _, _, _, _, _, _, _, _, rfl, l_l_is_rule, c_l_is_rule⟩, PySem.W.mg_of X G a_l_is_rule, k_l_is_rule⟩
  have b_l_is_rule := C8.Fun.binds (ps := ["_law_rule_here"]) F_l_is_rule.fn rfl fun _ _ _ _ _ _ us hl => match us, hl with | [_], _ => rfl
  have F_l_rule : Def K mg "_law_rule" s_l_rule f_l_rule (PySem.W.fnOf "_law_rule" "_law_rule" (fnArgs s_l_rule) (fnBody s_l_rule) (fnScope s_l_rule) .none kV_l_rule dc_l_rule pm_l_rule an_l_rule cd_l_rule ct_l_rule) := ⟨⟨_, _, _, _, _, _, _, _, _, _, rfl, l_l_rule, c_l_rule⟩, PySem.W.mg_of X G a_l_rule, k_l_rule⟩
  have b_l_rule := C8.Fun.binds (ps := ["_law_box", "_law_widest", "_law_longest_one"]) F_l_rule.fn rfl fun _ _ _ _ _ _ us hl => match us, hl with | [_, _, _], _ => rfl
  have F_l_deep : Def K mg "_law_deep" s_l_deep f_l_deep (PySem.W.fnOf "_law_deep" "_law_deep" (fnArgs s_l_deep) (fnBody s_l_deep) (fnScope s_l_deep) .none kV_l_deep dc_l_deep pm_l_deep an_l_deep cd_l_deep ct_l_deep) := ⟨⟨_, _, _, _, _, _, _, _, _, _, rfl, l_l_deep, c_l_deep⟩, PySem.W.mg_of X G a_l_deep, k_l_deep⟩
  have b_l_deep := C8.Fun.binds (ps := []) F_l_deep.fn rfl fun _ _ _ _ _ _ us hl => match us, hl with | [], _ => rfl
  have F_l_leaf : Def K mg "_law_leaf" s_l_leaf f_l_leaf (PySem.W.fnOf "_law_leaf" "_law_leaf" (fnArgs s_l_leaf) (fnBody s_l_leaf) (fnScope s_l_leaf) .none kV_l_leaf dc_l_leaf pm_l_leaf an_l_leaf cd_l_leaf ct_l_leaf) := ⟨⟨_, _, _, _, _, _, _, _, _, _, rfl, l_l_leaf, c_l_leaf⟩, PySem.W.mg_of X G a_l_leaf, k_l_leaf⟩
  have b_l_leaf := C8.Fun.binds (ps := ["_law_box"]) F_l_leaf.fn rfl fun _ _ _ _ _ _ us hl => match us, hl with | [_], _ => rfl
  have F_l_any : Def K mg "_law_any" s_l_any f_l_any (PySem.W.fnOf "_law_any" "_law_any" (fnArgs s_l_any) (fnBody s_l_any) (fnScope s_l_any) .none kV_l_any dc_l_any pm_l_any an_l_any cd_l_any ct_l_any) := ⟨⟨_, _, _, _, _, _, _, _, _, _, rfl, l_l_any, c_l_any⟩, PySem.W.mg_of X G a_l_any, k_l_any⟩
  have b_l_any := C8.Fun.binds (ps := ["_law_box", "_law_deep_here"]) F_l_any.fn rfl fun _ _ _ _ _ _ us hl => match us, hl with | [_, _], _ => rfl
  have F_l_is_word : Def K mg "_law_is_word" s_l_is_word f_l_is_word (PySem.W.fnOf "_law_is_word" "_law_is_word" (fnArgs s_l_is_word) (fnBody s_l_is_word) (fnScope s_l_is_word) .none kV_l_is_word dc_l_is_word pm_l_is_word an_l_is_word cd_l_is_word ct_l_is_word) := ⟨⟨_, _, _, _, _, _, _, _, _, _, rfl, l_l_is_word, c_l_is_word⟩, PySem.W.mg_of X G a_l_is_word, k_l_is_word⟩
  have b_l_is_word := C8.Fun.binds (ps := ["_law_value"]) F_l_is_word.fn rfl fun _ _ _ _ _ _ us hl => match us, hl with | [_], _ => rfl
  have F_l_is_stuff : Def K mg "_law_is_stuff" s_l_is_stuff f_l_is_stuff (PySem.W.fnOf "_law_is_stuff" "_law_is_stuff" (fnArgs s_l_is_stuff) (fnBody s_l_is_stuff) (fnScope s_l_is_stuff) .none kV_l_is_stuff dc_l_is_stuff pm_l_is_stuff an_l_is_stuff cd_l_is_stuff ct_l_is_stuff) := ⟨⟨_, _, _, _, _, _, _, _, _, _, rfl, l_l_is_stuff, c_l_is_stuff⟩, PySem.W.mg_of X G a_l_is_stuff, k_l_is_stuff⟩
  have b_l_is_stuff := C8.Fun.binds (ps := ["_law_value"]) F_l_is_stuff.fn rfl fun _ _ _ _ _ _ us hl => match us, hl with | [_], _ => rfl
  have F_l_due : Def K mg "_law_due" s_l_due f_l_due (PySem.W.fnOf "_law_due" "_law_due" (fnArgs s_l_due) (fnBody s_l_due) (fnScope s_l_due) .none kV_l_due dc_l_due pm_l_due an_l_due cd_l_due ct_l_due) := ⟨⟨_, _, _, _, _, _, _, _, _, _, rfl, l_l_due, c_l_due⟩, PySem.W.mg_of X G a_l_due, k_l_due⟩
  have b_l_due := C8.Fun.binds (ps := ["_law_flag", "_law_stuffs"]) F_l_due.fn rfl fun _ _ _ _ _ _ us hl => match us, hl with | [_, _], _ => rfl
  have F_l_heard : Def K mg "_law_heard" s_l_heard f_l_heard (PySem.W.fnOf "_law_heard" "_law_heard" (fnArgs s_l_heard) (fnBody s_l_heard) (fnScope s_l_heard) .none kV_l_heard dc_l_heard pm_l_heard an_l_heard cd_l_heard ct_l_heard) := ⟨⟨_, _, _, _, _, _, _, _, _, _, rfl, l_l_heard, c_l_heard⟩, PySem.W.mg_of X G a_l_heard, k_l_heard⟩
  have b_l_heard := C8.Fun.binds (ps := ["_law_flag", "_law_stuffs"]) F_l_heard.fn rfl fun _ _ _ _ _ _ us hl => match us, hl with | [_, _], _ => rfl
  have F_law : Def K mg "law" s_law f_law (PySem.W.fnOf "law" "law" (fnArgs s_law) (fnBody s_law) (fnScope s_law) .none kV_law dc_law pm_law an_law cd_law ct_law) := ⟨⟨_, _, _, _, _, _, _, _, _, _, rfl, l_law, c_law⟩, PySem.W.mg_of X G a_law, k_law⟩
  have b_law := C8.Fun.binds (ps := ["_law_script"]) F_law.fn rfl fun _ _ _ _ _ _ us hl => match us, hl with | [_], _ => rfl
  have TX_InvalidRule : L2.OexC K C_InvalidRule := ⟨⟨_, _, _, _, _, _, _, _, _, _, _, _, _, _, _, elk_InvalidRule, erf_InvalidRule⟩, sa_InvalidRule, exC_InvalidRule, tyC_InvalidRule, kC_InvalidRule⟩
  have EF_InvalidRule : ExS.ExF l.prog K mg C_InvalidRule "word" f_InvalidRule cc_InvalidRule cda_InvalidRule file_InvalidRule := ⟨TX_InvalidRule, no_InvalidRule, ⟨_, _, _, cell_InvalidRule⟩, ⟨_, _, _, _, _, code_InvalidRule, cfl_InvalidRule⟩, fl_InvalidRule, tp_InvalidRule, sub_InvalidRule, PySem.W.mg_none_of X G sup_InvalidRule, opq_InvalidRule, ini_InvalidRule, ve_InvalidRule⟩
  have XF_InvalidRule : XfC K C_InvalidRule := ⟨ega_InvalidRule, egg_InvalidRule, exC_InvalidRule, ehd_InvalidRule⟩
  have nw_InvalidRule := no_InvalidRule
  have g_InvalidRule := PySem.W.mg_of X G aC_InvalidRule
  have ex_InvalidRule := PySem.W.exm_ref exC_InvalidRule ehd_InvalidRule tyC_InvalidRule esb_InvalidRule
  have CL_Rule : Cls K C_Rule := ⟨pg_Rule, hd_Rule, po_Rule, sa_Rule⟩
  have F_Rule_put : C8.Fun K "put" "Rule.put" s_Rule_put f_Rule_put (PySem.W.fnOf "put" "Rule.put" (fnArgs s_Rule_put) (fnBody s_Rule_put) (fnScope s_Rule_put) .none kV_Rule_put dc_Rule_put pm_Rule_put an_Rule_put cd_Rule_put ct_Rule_put) := ⟨_, _, _, _, _, _, _, _, _, _, rfl, l_Rule_put, c_Rule_put⟩
  have b_Rule_put := C8.Fun.binds (ps := ["self", "line"]) F_Rule_put rfl fun _ _ _ _ _ _ us hl => match us, hl with | [_, _], _ => rfl
  have F_Rule_longest : C8.Fun K "longest" "Rule.longest" s_Rule_longest f_Rule_longest (PySem.W.fnOf "longest" "Rule.longest" (fnArgs s_Rule_longest) (fnBody s_Rule_longest) (fnScope s_Rule_longest) .none kV_Rule_longest dc_Rule_longest pm_Rule_longest an_Rule_longest cd_Rule_longest ct_Rule_longest) := ⟨_, _, _, _, _, _, _, _, _, _, rfl, l_Rule_longest, c_Rule_longest⟩
  have b_Rule_longest := C8.Fun.binds (ps := ["self"]) F_Rule_longest rfl fun _ _ _ _ _ _ us hl => match us, hl with | [_], _ => rfl
  have F_Rule_put_in : C8.Fun K "put_in" "Rule.put_in" s_Rule_put_in f_Rule_put_in (PySem.W.fnOf "put_in" "Rule.put_in" (fnArgs s_Rule_put_in) (fnBody s_Rule_put_in) (fnScope s_Rule_put_in) .none kV_Rule_put_in dc_Rule_put_in pm_Rule_put_in an_Rule_put_in cd_Rule_put_in ct_Rule_put_in) := ⟨_, _, _, _, _, _, _, _, _, _, rfl, l_Rule_put_in, c_Rule_put_in⟩
  have b_Rule_put_in := C8.Fun.binds (ps := ["self", "line"]) F_Rule_put_in rfl fun _ _ _ _ _ _ us hl => match us, hl with | [_, _], _ => rfl
  have F_Rule_is_endless : C8.Fun K "is_endless" "Rule.is_endless" s_Rule_is_endless f_Rule_is_endless (PySem.W.fnOf "is_endless" "Rule.is_endless" (fnArgs s_Rule_is_endless) (fnBody s_Rule_is_endless) (fnScope s_Rule_is_endless) .none kV_Rule_is_endless dc_Rule_is_endless pm_Rule_is_endless an_Rule_is_endless cd_Rule_is_endless ct_Rule_is_endless) := ⟨_, _, _, _, _, _, _, _, _, _, rfl, l_Rule_is_endless, c_Rule_is_endless⟩
  have b_Rule_is_endless := C8.Fun.binds (ps := ["self"]) F_Rule_is_endless rfl fun _ _ _ _ _ _ us hl => match us, hl with | [_], _ => rfl
  have F_Rule_init : C8.Fun K "__init__" "Rule.__init__" s_Rule_init f_Rule_init (PySem.W.fnOf "__init__" "Rule.__init__" (fnArgs s_Rule_init) (fnBody s_Rule_init) (fnScope s_Rule_init) (.ref dT_Rule_init) kV_Rule_init dc_Rule_init pm_Rule_init an_Rule_init cd_Rule_init ct_Rule_init) := ⟨_, _, _, _, _, _, _, _, _, _, rfl, l_Rule_init, c_Rule_init⟩
  have FD_Rule_init : FunD K "__init__" "Rule.__init__" (fnArgs s_Rule_init) (fnBody s_Rule_init) (fnScope s_Rule_init) [.ref dE_R] [] f_Rule_init (PySem.W.fnOf "__init__" "Rule.__init__" (fnArgs s_Rule_init) (fnBody s_Rule_init) (fnScope s_Rule_init) (.ref dT_Rule_init) kV_Rule_init dc_Rule_init pm_Rule_init an_Rule_init cd_Rule_init ct_Rule_init) := ⟨⟨_, _, _, _, _, _, _, _, _, _, rfl, l_Rule_init, c_Rule_init, .inr ⟨List.cons_ne_nil _ _, _, _, _, _, rfl, dl_Rule_init, rfl, .cons rfl .nil⟩, .inl rfl⟩, k_Rule_init⟩
  obtain ⟨ds0_Rule_init, vd0_Rule_init, bd0_Rule_init⟩ := FD_Rule_init.binds1 (ps := ["self", "flag", "stuffs"]) 2 0 (List.cons_ne_nil _ _) rfl fun _ _ _ _ _ _ _ us its h1 h2 => match us, its, h1, h2 with | [_, _], [_], _, _ => ⟨_, rfl, rfl⟩
  obtain ⟨ds1_Rule_init, vd1_Rule_init, bd1_Rule_init⟩ := FD_Rule_init.binds1 (ps := ["self", "flag", "stuffs"]) 3 1 (List.cons_ne_nil _ _) rfl fun _ _ _ _ _ _ _ us its h1 h2 => match us, its, h1, h2 with | [_, _, _], [_], _, _ => ⟨_, rfl, rfl⟩
  refine ⟨PySem.W.fnOf "law" "law" (fnArgs s_law) (fnBody s_law) (fnScope s_law) .none kV_law dc_law pm_law an_law cd_law ct_law, fun s v => .of_eq rfl, fun base _ _ => ?_⟩
  have RT : RuT K C_Rule := ⟨CL_Rule, n_Rule_flag, n_Rule_stuffs⟩
  have IS_Rule : IsT K C_Rule := ⟨CL_Rule, cls_Rule, clg_X, clt_X, mro_Rule⟩
  have kon_rule_tuple := kon_rt
  have kon_rule_list := kon_rl
  have kon_rule_str := kon_rs
  have c_l_seed := cal_l_seed (P := l.prog) (w := w) (base := base) F_l_seed b_l_seed T
  have c_l_choose := cal_l_choose (P := l.prog) (w := w) (base := base) F_l_choose b_l_choose T
  have c_l_one_of := cal_l_one_of (P := l.prog) (w := w) (base := base) F_l_one_of b_l_one_of T c_l_choose
  have c_l_word := cal_l_word (P := l.prog) (w := w) (base := base) F_l_word b_l_word T c_l_choose c_l_one_of
  have c_l_put := cal_l_put (P := l.prog) (w := w) (base := base) F_l_put b_l_put T
  have c_l_is_rule := cal_l_is_rule (P := l.prog) (w := w) (base := base) F_l_is_rule b_l_is_rule T c_l_put
  have c_l_rule := cal_l_rule (P := l.prog) (w := w) (base := base) F_l_rule b_l_rule T c_l_choose c_l_one_of c_l_word c_l_is_rule
  have c_l_leaf := cal_l_leaf (P := l.prog) (w := w) (base := base) F_l_leaf b_l_leaf T c_l_one_of
  have c_l_any := cal_l_any (P := l.prog) (w := w) (base := base) F_l_any b_l_any T c_l_choose c_l_leaf
  have c_l_deep := cal_l_deep (P := l.prog) (w := w) (base := base) F_l_deep b_l_deep T
  have gi_FlipError := PySem.W.mg_of X G aGI_FlipError
  have gi_InvalidCheck := PySem.W.mg_of X G aGI_InvalidCheck
  have xc_InvalidRule : L2.ExcC K C_InvalidRule := ⟨xg_InvalidRule, xk_InvalidRule, xs_InvalidRule, xd_InvalidRule, xa_InvalidRule, clg_X, clt_X, xm_InvalidRule⟩
  have kon_inr_flip := kon_if
  have kon_inr_check := kon_ic
  have x_InvalidRule : ExS.XMk l.prog w K mg base 1 "InvalidRule" C_InvalidRule "word" := ⟨f_InvalidRule, _, ["self", "word"], TX_InvalidRule, a_InvalidRule, t_InvalidRule, ExS.fn_exc (self := "self") (word := "word") (text := "wrong argument of a rule") (k := 0) EF_InvalidRule lk_InvalidRule cd_InvalidRule (NdefX.nscope_by (by decide +kernel)) (by decide +kernel) rfl rfl ⟨_, _, _, _, _, _, _, _, _, _, _, _, rfl, rfl⟩ (by decide) (by decide) (by decide) (by decide), .all (fun us hl => match us, hl with | [_, _], _ => rfl), g_InvalidRule⟩
  have g_BITS := PySem.W.mg_of X G gBITS
  have c_is_word := cal_is_word (P := l.prog) (w := w) (base := base) F_is_word b_is_word T g_BITS
  have c_is_sequenceX := cal_is_sequenceX (P := l.prog) (w := w) (base := base) F_is_sequence b_is_sequence T
  have c_is_bitA := cal_is_bitA (P := l.prog) (w := w) (base := base) F_is_bit b_is_bit T c_is_word
  have c_is_stuffA := cal_is_stuffA (P := l.prog) (w := w) (base := base) F_is_stuff b_is_stuff T c_is_word c_is_bitA
  have c_are_stuffsA := cal_are_stuffsA (P := l.prog) (w := w) (base := base) F_are_stuffs b_are_stuffs T c_is_sequenceX c_is_stuffA
  have c_is_sequence := cal_is_sequence (P := l.prog) (w := w) (base := base) F_is_sequence b_is_sequence T
  have c_is_bitX := cal_is_bitX (P := l.prog) (w := w) (base := base) F_is_bit b_is_bit T c_is_word
  have c_is_stuffX := cal_is_stuffX (P := l.prog) (w := w) (base := base) F_is_stuff b_is_stuff T c_is_word c_is_bitX
  have c_are_stuffsX := cal_are_stuffsX (P := l.prog) (w := w) (base := base) F_are_stuffs b_are_stuffs T c_is_sequence c_is_stuffX
  have c_put := met_put (P := l.prog) (w := w) (base := base) F_Rule_put ⟨a_Rule_put, i_Rule_put, k_Rule_put⟩ b_Rule_put T RT
  have p_longest : Prp l.prog w K mg base 1 C_Rule "longest" (spLongest C_Rule) := ⟨_, _, _, _, CL_Rule, ⟨a_Rule_longest, g_Rule_longest, t_Rule_longest, ⟨_, r_Rule_longest⟩⟩, ok_longest F_Rule_longest T RT, b_Rule_longest⟩
  have c_tail := cal_tail (P := l.prog) (w := w) (base := base) F_tail b_tail T
  have c_put_inX := met_put_inX (P := l.prog) (w := w) (base := base) F_Rule_put_in ⟨a_Rule_put_in, i_Rule_put_in, k_Rule_put_in⟩ b_Rule_put_in T RT c_put p_longest c_tail
  have c_is_endlessX := met_is_endlessX (P := l.prog) (w := w) (base := base) F_Rule_is_endless ⟨a_Rule_is_endless, i_Rule_is_endless, k_Rule_is_endless⟩ b_Rule_is_endless T RT g_BITS c_put_inX p_longest c_tail
  have M_Rule : Mk K C_Rule f_Rule_init := ⟨mk_Rule, a_Rule_init, i_Rule_init, kc_Rule⟩
  have i_okX_Rule := ok_Rule_initA (P := l.prog) (w := w) (base := base) F_Rule_init T RT x_InvalidRule c_is_word c_are_stuffsA c_are_stuffsX c_is_endlessX
  have mX_Rule2 : ExS.MakX l.prog w K mg base 5 "Rule" C_Rule (spRuInitA K C_Rule C_InvalidRule) [] := ⟨_, _, _, _, M_Rule, i_okX_Rule, PySem.W.mg_of X G aC_Rule, bd1_Rule_init, vd1_Rule_init⟩
  have c_l_heard := cal_l_heard (P := l.prog) (w := w) (base := base) F_l_heard b_l_heard T g_InvalidRule ex_InvalidRule XF_InvalidRule nw_InvalidRule gi_FlipError gi_InvalidCheck xc_InvalidRule kon_inr_flip kon_inr_check mX_Rule2
  have c_l_is_word := cal_l_is_word (P := l.prog) (w := w) (base := base) F_l_is_word b_l_is_word T
  have c_l_is_stuff := cal_l_is_stuff (P := l.prog) (w := w) (base := base) F_l_is_stuff b_l_is_stuff T c_l_is_word
  have c_l_due := cal_l_due (P := l.prog) (w := w) (base := base) F_l_due b_l_due T c_l_is_word c_l_is_stuff c_l_is_rule
  have c_is_bit := cal_is_bit (P := l.prog) (w := w) (base := base) F_is_bit b_is_bit T c_is_word
  have c_is_stuff := cal_is_stuff (P := l.prog) (w := w) (base := base) F_is_stuff b_is_stuff T c_is_word c_is_bit
  have c_are_stuffs := cal_are_stuffs (P := l.prog) (w := w) (base := base) F_are_stuffs b_are_stuffs T c_is_sequence c_is_stuff
  have c_put_in := met_put_in (P := l.prog) (w := w) (base := base) F_Rule_put_in ⟨a_Rule_put_in, i_Rule_put_in, k_Rule_put_in⟩ b_Rule_put_in T RT c_put p_longest c_tail
  have c_is_endless := met_is_endless (P := l.prog) (w := w) (base := base) F_Rule_is_endless ⟨a_Rule_is_endless, i_Rule_is_endless, k_Rule_is_endless⟩ b_Rule_is_endless T RT g_BITS c_put_in p_longest c_tail
  have i_ok_Rule := ok_Rule_init (P := l.prog) (w := w) (base := base) F_Rule_init T RT c_is_word c_are_stuffs c_is_endless
  have m_Rule2 : Mak l.prog w K mg base 5 "Rule" C_Rule (spRuInit K C_Rule) [] := ⟨_, _, _, _, M_Rule, i_ok_Rule, PySem.W.mg_of X G aC_Rule, bd1_Rule_init, vd1_Rule_init⟩
  exact ok_law F_law T RT IS_Rule kon_rule_tuple kon_rule_list kon_rule_str c_l_seed c_l_choose c_l_one_of c_l_rule c_l_any c_l_deep c_l_heard c_l_due m_Rule2
theorem walk {l : PySem.W.OpenLaw} {q : Program} {loose : List Str} {XP : (Str → Option Value) → Heap → Prop} {YP : World → Heap → Prop} {d : DefRec} {K : Params → PySem.W.Frag} (hn : l.most = some 63) (hdf : d.params.defaults = [])
    (hY : ∀ (w : World) (h : Heap), YP w h → (K w.params).In h)
    (F : ∀ (w : World) (mg : Str → Option Value) (fa : Addr) (h : Heap), (K w.params).In h → h.Ns mainGlobals mg → mg d.name = some (.ref fa) →
      ∃ fd : FuncData, (∀ (s : Shared) (u : Value), BindsTo s fd ⟨[u], []⟩ [("_law_script", u)]) ∧ ∀ base : Heap, (K w.params).In base → base.Ns mainGlobals mg → FnOk l.prog w (K w.params) mg base CX0 13 fa fd ["_law_script"] (spLaw (K w.params))) :
    PySem.W.WalkO q loose XP YP l.row.toRowW d [] (fun f vs => PySem.call f vs) :=
  L2.walk_of (n := 63) (k := 13) (x := "_law_script") (CX := fun _ => CX0) (sp := fun w => spLaw (K w.params)) hn (by decide) hdf ⟨rfl, by decide, by decide⟩ hY F (fun _ _ a ns hl _ hS => ⟨a, ns, rfl, hS, hl, fun _ => rfl⟩) fun _ _ _ _ _ z => z
end U
open PySem PySem.W PyProof.Rows
def PySem.W.Fast.tw15148677762825095654 : Unit := ()
def PySem.W.Fast.tw11453733164019212887 : Unit := ()
def PySem.W.Fast.tw238796587877570477 : Unit := ()
def PySem.W.Fast.tw13002529844067758626 : Unit := ()
def PySem.W.Fast.tw11410618656049865958 : Unit := ()
def PySem.W.Fast.tw17938403458075290974 : Unit := ()
def PySem.W.Fast.tw571000355500228946 : Unit := ()
def PySem.W.Fast.tw8758913556808000306 : Unit := ()
def PySem.W.Fast.tw13559710600571355103 : Unit := ()
def PySem.W.Fast.tw16964605035124699896 : Unit := ()
def PySem.W.Fast.tw17420546636684697259 : Unit := ()
def PySem.W.Fast.tw5894381885659194833 : Unit := ()
def PySem.W.Fast.tw7649286448328423711 : Unit := ()
def PySem.W.Fast.tw4496030470234390634 : Unit := ()
def PySem.W.Fast.tw17779990308492489930 : Unit := ()
def PySem.W.Fast.tw16577375570022463340 : Unit := ()
def PySem.W.Fast.tw676363211595133565 : Unit := ()
def PySem.W.Fast.tw12050390824785972929 : Unit := ()
def PySem.W.Fast.tw11117190986787071881 : Unit := ()
def PySem.W.Fast.tw14832241409484765321 : Unit := ()
def PySem.W.Fast.tw3571207895120235155 : Unit := ()
def PySem.W.Fast.tw1871921084814395950 : Unit := ()
def PySem.W.Fast.tw14382177100490916662 : Unit := ()
def PySem.W.Fast.tw4688894749891486952 : Unit := ()
def PySem.W.Fast.tw5896752617882800577 : Unit := ()
def PySem.W.Fast.tw10956086695127345687 : Unit := ()
def PySem.W.Fast.tw4034112313004613896 : Unit := ()
def PySem.W.Fast.tw8601579729839251181 : Unit := ()
def PySem.W.Fast.tw12957515549730072586 : Unit := ()
def PySem.W.Fast.tw684425610730117471 : Unit := ()
def PySem.W.Fast.tw12682202569411598049 : Unit := ()
def PySem.W.Fast.tw10797999243276587342 : Unit := ()
def PySem.W.Fast.tw3977122720807859571 : Unit := ()
def PySem.W.Fast.tw18368369928508636756 : Unit := ()
def PySem.W.Fast.tw3020981704950353042 : Unit := ()
def PySem.W.Fast.tw16232086095962088587 : Unit := ()
def PySem.W.Fast.tw10353052469672892958 : Unit := ()
def PySem.W.Fast.tw5390856294078804783 : Unit := ()
def PySem.W.Fast.tw3654096339400163884 : Unit := ()
def PySem.W.Fast.tw80959664417353 : Unit := ()
def PySem.W.Fast.tw8911675933685546056 : Unit := ()
def PySem.W.Fast.tw11294019258720429293 : Unit := ()
def PySem.W.Fast.tw3581057670481322379 : Unit := ()
def PySem.W.Fast.tw17458795296291887256 : Unit := ()
def PySem.W.Fast.tw15049006547141528601 : Unit := ()
def PySem.W.Fast.tw787614699481618034 : Unit := ()
def PySem.W.Fast.tw442405656755491450 : Unit := ()
def PySem.W.Fast.tw13891503411108098737 : Unit := ()
def PySem.W.Fast.tw9302382197822805487 : Unit := ()
def PySem.W.Fast.tw6375000560746558870 : Unit := ()
def PySem.W.Fast.tw2128870528332594487 : Unit := ()
def PySem.W.Fast.tw6243838758497715719 : Unit := ()
def PySem.W.Fast.tw18030374871880454300 : Unit := ()
def PySem.W.Fast.tw17870739491529891120 : Unit := ()
def PySem.W.Fast.tw2253018404953554971 : Unit := ()
def PySem.W.Fast.tw12298806032229593371 : Unit := ()
def PySem.W.Fast.tw18210410313945670808 : Unit := ()
def PySem.W.Fast.tw9558230781320345985 : Unit := ()
def PySem.W.Fast.tw13812929302212852597 : Unit := ()
def PySem.W.Fast.tw4380428801168533053 : Unit := ()
def PySem.W.Fast.tw11041787125271916558 : Unit := ()
def PySem.W.Fast.tw3590886727329426296 : Unit := ()
def PySem.W.Fast.tw16282895585473844070 : Unit := ()
def PySem.W.Fast.tw3952391286382083426 : Unit := ()
def PySem.W.Fast.tw4707676174411226270 : Unit := ()
def PySem.W.Fast.tw6109263378387391739 : Unit := ()
def PySem.W.Fast.tw273448606552867967 : Unit := ()
def PySem.W.Fast.tw2991379459146580290 : Unit := ()
def PySem.W.Fast.tw6913627821442823666 : Unit := ()
def PySem.W.Fast.tw17519318327481050259 : Unit := ()
def PySem.W.Fast.tw14557131532251852263 : Unit := ()
def PySem.W.Fast.tw5718084402851997243 : Unit := ()
def PySem.W.Fast.tw7910173245010897889 : Unit := ()
def PySem.W.Fast.tw12227100113187261673 : Unit := ()
def PySem.W.Fast.tw13670060257856290902 : Unit := ()
def PySem.W.Fast.tw470001489903439595 : Unit := ()
def PySem.W.Fast.tw4301328769390553739 : Unit := ()
def PySem.W.Fast.tw8289579124283840072 : Unit := ()
def PySem.W.Fast.tw10004058432306220415 : Unit := ()
def PySem.W.Fast.tw14652318498227070483 : Unit := ()
def PySem.W.Fast.tw2707229384966633750 : Unit := ()
def PySem.W.Fast.tw11141354985764012617 : Unit := ()
def PySem.W.Fast.tw14315606678742547347 : Unit := ()
def PySem.W.Fast.tw2516366365881271490 : Unit := ()
def PySem.W.Fast.tw17310626058231418226 : Unit := ()
def PySem.W.Fast.tw1402744144965970200 : Unit := ()
def PySem.W.Fast.tw16309201061085475887 : Unit := ()
def PySem.W.Fast.tw3251737575771575110 : Unit := ()
def PySem.W.Fast.tw14518392326169764173 : Unit := ()
def PySem.W.Fast.tw11059864209482847700 : Unit := ()
def PySem.W.Fast.tw8484963993340388088 : Unit := ()
def PySem.W.Fast.tw8830317552248667051 : Unit := ()
def PySem.W.Fast.tw7673490863429728449 : Unit := ()
def PySem.W.Fast.tw15379575424217176907 : Unit := ()
def PySem.W.Fast.tw15780192047367442393 : Unit := ()
def PySem.W.Fast.tw14267097113046601944 : Unit := ()
def PySem.W.Fast.tw16622499777136341321 : Unit := ()
def PySem.W.Fast.tw16901429359491569611 : Unit := ()
def PySem.W.Fast.tw10500305297747603299 : Unit := ()
def PySem.W.Fast.tw4626218828293769797 : Unit := ()
def PySem.W.Fast.tw15117593004183749975 : Unit := ()
def PySem.W.Fast.tw15484585195744879070 : Unit := ()
def PySem.W.Fast.tw3861300303485608674 : Unit := ()
def PySem.W.Fast.tw8922759988953510100 : Unit := ()
def PySem.W.Fast.tw9210258061763782311 : Unit := ()
def PySem.W.Fast.tw12196422999804673270 : Unit := ()
def PySem.W.Fast.tw5513433559651649657 : Unit := ()
def PySem.W.Fast.tw10546376633336893664 : Unit := ()
def PySem.W.Fast.tw12176861568120207016 : Unit := ()
def PySem.W.Fast.tw879591109050956084 : Unit := ()
def PySem.W.Fast.tw16468970059997080790 : Unit := ()
def PySem.W.Fast.tw9121105518891723044 : Unit := ()
def PySem.W.Fast.tw14240597522072890960 : Unit := ()
def PySem.W.Fast.tw11214632154721450785 : Unit := ()
def PySem.W.Fast.tw12105250208229959462 : Unit := ()
def PySem.W.Fast.tw15593559604950056221 : Unit := ()
def PySem.W.Fast.tw6132494473539800161 : Unit := ()
def PySem.W.Fast.tw6568340374864349098 : Unit := ()
def PySem.W.Fast.tw5060308910317721601 : Unit := ()
def PySem.W.Fast.tw17099676046014485792 : Unit := ()
def PySem.W.Fast.tw6076980500940470506 : Unit := ()
def PySem.W.Fast.tw13021739590303219988 : Unit := ()
def PySem.W.Fast.tw1544893092724029295 : Unit := ()
def PySem.W.Fast.tw8370520725559910964 : Unit := ()
def PySem.W.Fast.tw7650118150231863913 : Unit := ()
def PySem.W.Fast.tw2622626110473280147 : Unit := ()
def PySem.W.Fast.tw5786490616078092103 : Unit := ()
def PySem.W.Fast.tw2094690594709169584 : Unit := ()
def PySem.W.Fast.tw1906461703501175060 : Unit := ()
def PySem.W.Fast.tw1030385583371651542 : Unit := ()
def PySem.W.Fast.tw17051559468359379177 : Unit := ()
def PySem.W.Fast.tw4024862396167837168 : Unit := ()
def PySem.W.Fast.tw14264762508578742080 : Unit := ()
def PySem.W.Fast.tw14981628390538753506 : Unit := ()
def PySem.W.Fast.tw39628202011712740 : Unit := ()
def PySem.W.Fast.tw16207304483556805529 : Unit := ()
def PySem.W.Fast.tw8509723604386379531 : Unit := ()
def PySem.W.Fast.tw2895045533581590803 : Unit := ()
def PySem.W.Fast.tw3403642517400412453 : Unit := ()
def PySem.W.Fast.tw6270298186763874330 : Unit := ()
def PySem.W.Fast.tw7928980556975344643 : Unit := ()
def PySem.W.Fast.tw6992243079545645602 : Unit := ()
def PySem.W.Fast.tw18341166596634255711 : Unit := ()
def PySem.W.Fast.tw8033642810607614592 : Unit := ()
def PySem.W.Fast.tw14234156136150974105 : Unit := ()
def PySem.W.Fast.tw4505081864578930880 : Unit := ()
def PySem.W.Fast.tw16046285178221159124 : Unit := ()
def PySem.W.Fast.tw16020309041652307898 : Unit := ()
def PySem.W.Fast.tw7341185678769672468 : Unit := ()
def PySem.W.Fast.tw10809998147983555887 : Unit := ()
def PySem.W.Fast.tw9805414573698245733 : Unit := ()
def PySem.W.Fast.tw15475229681660863419 : Unit := ()
def PySem.W.Fast.tw13992170287111596316 : Unit := ()
def PySem.W.Fast.tw820762161507623311 : Unit := ()
def PySem.W.Fast.tw10154820227113670589 : Unit := ()
def PySem.W.Fast.tw4767575005106526178 : Unit := ()
def PySem.W.Fast.tw8402910160055525253 : Unit := ()
def PySem.W.Fast.tw17045077216559127368 : Unit := ()
def PySem.W.Fast.tw13731270073750656362 : Unit := ()
def PySem.W.Fast.tw17249687424203662484 : Unit := ()
def PySem.W.Fast.tw4340882059961061215 : Unit := ()
def PySem.W.Fast.tw8687798475715990122 : Unit := ()
def PySem.W.Fast.tw16437357024211749338 : Unit := ()
def PySem.W.Fast.tw10737486455897092364 : Unit := ()
def PySem.W.Fast.tw18027243097223277134 : Unit := ()
def PySem.W.Fast.tw10287653756779668147 : Unit := ()
def PySem.W.Fast.tw11115757775468758884 : Unit := ()
def PySem.W.Fast.tw13484820134088629589 : Unit := ()
def PySem.W.Fast.tw17054219566383633483 : Unit := ()
def PySem.W.Fast.tw8847052485513414910 : Unit := ()
def PySem.W.Fast.tw1392517342303116897 : Unit := ()
def PySem.W.Fast.tw16656699841138184637 : Unit := ()
def PySem.W.Fast.tw1923701081766527082 : Unit := ()
def PySem.W.Fast.tw1896710599425172187 : Unit := ()
def PySem.W.Fast.tw11499210880337030859 : Unit := ()
def PySem.W.Fast.tw1006107062302027168 : Unit := ()
def PySem.W.Fast.tw2511606763869263394 : Unit := ()
def PySem.W.Fast.tw15039606280357111434 : Unit := ()
def PySem.W.Fast.tw16497235452156345271 : Unit := ()
def PySem.W.Fast.tw4071815254687279786 : Unit := ()
def PySem.W.Fast.tw7026826167203410896 : Unit := ()
def PySem.W.Fast.tw3718136767825890351 : Unit := ()
def PySem.W.Fast.tw7465012037704362503 : Unit := ()
def PySem.W.Fast.tw245359209230299090 : Unit := ()
def PySem.W.Fast.tw16760625717059335419 : Unit := ()
def PySem.W.Fast.tw12648652917337325669 : Unit := ()
def PySem.W.Fast.tw14775351063074029681 : Unit := ()
def PySem.W.Fast.tw15614162529169461830 : Unit := ()
def PySem.W.Fast.tw16932249328893103472 : Unit := ()
def PySem.W.Fast.tw1375118637101215443 : Unit := ()
def PySem.W.Fast.tw3460380816089382530 : Unit := ()
def PySem.W.Fast.tw5805810639966091105 : Unit := ()
def PySem.W.Fast.tw677470958853959699 : Unit := ()
def PySem.W.Fast.tw14757807280164076593 : Unit := ()
def PySem.W.Fast.tw11331758615327427367 : Unit := ()
def PySem.W.Fast.tw16184565263536212506 : Unit := ()
def PySem.W.Fast.tw9140051625198260452 : Unit := ()
def PySem.W.Fast.tw5119670570749547984 : Unit := ()
def PySem.W.Fast.tw12361324304077371281 : Unit := ()
def PySem.W.Fast.tw5125369946618596494 : Unit := ()
def PySem.W.Fast.tw5552205885521397367 : Unit := ()
def PySem.W.Fast.tw18429439908400098032 : Unit := ()
def PySem.W.Fast.tw6179368456476816249 : Unit := ()
def PySem.W.Fast.tw18011005631590528636 : Unit := ()
def PySem.W.Fast.tw12834264849060414046 : Unit := ()
def PySem.W.Fast.tw11178114207646797650 : Unit := ()
def PySem.W.Fast.tw9288849463353623340 : Unit := ()
def PySem.W.Fast.tw8760783918415071880 : Unit := ()
def PySem.W.Fast.tw12860203655626658207 : Unit := ()
def PySem.W.Fast.tw12690381001684073828 : Unit := ()
def PySem.W.Fast.tw9876613895531935457 : Unit := ()
def PySem.W.Fast.tw6832611252482534896 : Unit := ()
def PySem.W.Fast.tw9757326837623738831 : Unit := ()
def PySem.W.Fast.tw14462168673618226129 : Unit := ()
def PySem.W.Fast.tw16058141163038580993 : Unit := ()
def PySem.W.Fast.tw4631792238843375293 : Unit := ()
def PySem.W.Fast.tw16801032071190438252 : Unit := ()
def PySem.W.Fast.tw1661803469074262313 : Unit := ()
def PySem.W.Fast.tw16670546366998748299 : Unit := ()
def PySem.W.Fast.tw13749756064179127001 : Unit := ()
def PySem.W.Fast.tw6708659638230123994 : Unit := ()
def PySem.W.Fast.tw6183690964880565728 : Unit := ()
def PySem.W.Fast.tw4799015074266207549 : Unit := ()
def PySem.W.Fast.tw1977152834991333749 : Unit := ()
def PySem.W.Fast.tw15931077634217992557 : Unit := ()
def PySem.W.Fast.tw16986397449512043209 : Unit := ()
def PySem.W.Fast.tw12887719837555633477 : Unit := ()
def PySem.W.Fast.tw17159605639707375817 : Unit := ()
def PySem.W.Fast.tw323611927289155732 : Unit := ()
def PySem.W.Fast.tw3176366901206802262 : Unit := ()
def PySem.W.Fast.tw10215739224974342122 : Unit := ()
def PySem.W.Fast.tw11947865012899646392 : Unit := ()
def PySem.W.Fast.tw15081832942363931106 : Unit := ()
def PySem.W.Fast.tw13265601107320584801 : Unit := ()
def PySem.W.Fast.tw12024501123735099705 : Unit := ()
def PySem.W.Fast.tw14568513683862057905 : Unit := ()
def PySem.W.Fast.tw18205817389963659485 : Unit := ()
def PySem.W.Fast.tw18101394202573934051 : Unit := ()
def PySem.W.Fast.tw6190303101958547111 : Unit := ()
def PySem.W.Fast.tw9977142749762599101 : Unit := ()
def PySem.W.Fast.tw16058628201400004789 : Unit := ()
def PySem.W.Fast.tw635700773242270018 : Unit := ()
def PySem.W.Fast.tw14146845111756684259 : Unit := ()
def PySem.W.Fast.tw12753040983838877690 : Unit := ()
def PySem.W.Fast.tw12434848038832021218 : Unit := ()
def PySem.W.Fast.tw15433762865788603769 : Unit := ()
def PySem.W.Fast.tw3369556749974836358 : Unit := ()
def PySem.W.Fast.tw4402907449383033182 : Unit := ()
def PySem.W.Fast.tw8468211114156530647 : Unit := ()
def PySem.W.Fast.tw17613928872531966400 : Unit := ()
def PySem.W.Fast.tw15441844350176861652 : Unit := ()
def PySem.W.Fast.tw1367426297875898484 : Unit := ()
def PySem.W.Fast.tw6768726128499313837 : Unit := ()
def PySem.W.Fast.tw8021347422402777644 : Unit := ()
def PySem.W.Fast.tw3471573385162004433 : Unit := ()
def PySem.W.Fast.tw8045441304842886610 : Unit := ()
def PySem.W.Fast.tw17345488742830394708 : Unit := ()
def PySem.W.Fast.tw5760373546044792274 : Unit := ()
def PySem.W.Fast.tw4347702080060525401 : Unit := ()
def PySem.W.Fast.tw13434539069609774429 : Unit := ()
def PySem.W.Fast.tw3891773543439744480 : Unit := ()
def PySem.W.Fast.tw17376937657259598791 : Unit := ()
def PySem.W.Fast.tw10843044514523235747 : Unit := ()
def PySem.W.Fast.tw15813252221521832971 : Unit := ()
def PySem.W.Fast.tw11673402251308780010 : Unit := ()
def PySem.W.Fast.tw5413715379058251598 : Unit := ()
def PySem.W.Fast.tw6735233913615177451 : Unit := ()
def PySem.W.Fast.tw12939277831815861975 : Unit := ()
def PySem.W.Fast.tw11986790124353313938 : Unit := ()
def PySem.W.Fast.tw11662466708500256090 : Unit := ()
def PySem.W.Fast.tw11043101066547489422 : Unit := ()
def PySem.W.Fast.tw6919957822748493757 : Unit := ()
def PySem.W.Fast.tw7904494751968592258 : Unit := ()
def PySem.W.Fast.tw16084474838085833034 : Unit := ()
def PySem.W.Fast.tw16093444041337183154 : Unit := ()
def PySem.W.Fast.tw6724876535684693654 : Unit := ()
def PySem.W.Fast.tw15192765919934420019 : Unit := ()
def PySem.W.Fast.tw18025224208552664473 : Unit := ()
def PySem.W.Fast.tw14126740816337423045 : Unit := ()
def PySem.W.Fast.tw15929223278250555271 : Unit := ()
def PySem.W.Fast.tw18424680524080660880 : Unit := ()
def PySem.W.Fast.tw5534553816031501128 : Unit := ()
def PySem.W.Fast.tw12903942595169414535 : Unit := ()
def PySem.W.Fast.tw17211085542033549644 : Unit := ()
def PySem.W.Fast.tw7459463770918347623 : Unit := ()
def PySem.W.Fast.tw1569862247617793112 : Unit := ()
def PySem.W.Fast.tw10034928774336807025 : Unit := ()
def PySem.W.Fast.tw14418791324016633930 : Unit := ()
def PySem.W.Fast.tw10856323109827807001 : Unit := ()
def PySem.W.Fast.tw2664976388235167258 : Unit := ()
def PySem.W.Fast.tw12298301688202823384 : Unit := ()
def PySem.W.Fast.tw3902403120108947794 : Unit := ()
def PySem.W.Fast.tw10889640575618641854 : Unit := ()
def PySem.W.Fast.tw15863984035564900194 : Unit := ()
def PySem.W.Fast.tw6707244007428865919 : Unit := ()
def PySem.W.Fast.tw16855002893920544759 : Unit := ()
def PySem.W.Fast.tw10325904814573241456 : Unit := ()
def PySem.W.Fast.tw10683215927178415754 : Unit := ()
def PySem.W.Fast.tw4803142999632306004 : Unit := ()
def PySem.W.Fast.tw11642625530444340205 : Unit := ()
def PySem.W.Fast.tw18187724259638832405 : Unit := ()
def PySem.W.Fast.tw13762027557036658744 : Unit := ()
def PySem.W.Fast.tw13194332580517882387 : Unit := ()
def PySem.W.Fast.tw223290480797030401 : Unit := ()
def PySem.W.Fast.tw10728418041455433196 : Unit := ()
def PySem.W.Fast.tw2501001952190431351 : Unit := ()
def PySem.W.Fast.tw4967438079747022406 : Unit := ()
def PySem.W.Fast.tw2428543900575729276 : Unit := ()
def PySem.W.Fast.tw1488351840470584949 : Unit := ()
def PySem.W.Fast.tw18192385202852905647 : Unit := ()
def PySem.W.Fast.tw13413851490540872776 : Unit := ()
def PySem.W.Fast.tw17557042623078035638 : Unit := ()
def PySem.W.Fast.tw13930065847886731395 : Unit := ()
def PySem.W.Fast.tw3217388738714008200 : Unit := ()
def PySem.W.Fast.tw10390085203289916726 : Unit := ()
def PySem.W.Fast.tw14208027451752678619 : Unit := ()
def PySem.W.Fast.tw490919315277756125 : Unit := ()
def PySem.W.Fast.tw6179125847432510489 : Unit := ()
def PySem.W.Fast.tw11701182807589881415 : Unit := ()
def PySem.W.Fast.tw11020966896534837533 : Unit := ()
def PySem.W.Fast.tw8346946795939643323 : Unit := ()
def PySem.W.Fast.tw17615611682513642494 : Unit := ()
def PySem.W.Fast.tw7497228920775915386 : Unit := ()
def PySem.W.Fast.tw17438714072334306713 : Unit := ()
def PySem.W.Fast.tw10435441949503424866 : Unit := ()
def PySem.W.Fast.tw4517051534545516556 : Unit := ()
def PySem.W.Fast.tw12782268035683079082 : Unit := ()
def PySem.W.Fast.tw12766487878163973345 : Unit := ()
def PySem.W.Fast.tw15180859521962282556 : Unit := ()
def PySem.W.Fast.tw3848149867293583246 : Unit := ()
def PySem.W.Fast.tw1903220384627914840 : Unit := ()
def PySem.W.Fast.tw1355496109859029319 : Unit := ()
def PySem.W.Fast.tw9416677448330119309 : Unit := ()
def PySem.W.Fast.tw14440124920556339579 : Unit := ()
def PySem.W.Fast.tw13696446728134857947 : Unit := ()
def PySem.W.Fast.tw469815520599999859 : Unit := ()
def PySem.W.Fast.tw8451928711832951601 : Unit := ()
def PySem.W.Fast.tw12891419300270854660 : Unit := ()
def PySem.W.Fast.tw10568849753883244137 : Unit := ()
def PySem.W.Fast.tw4680328554671425421 : Unit := ()
def PySem.W.Fast.tw12748199297284231068 : Unit := ()
def PySem.W.Fast.tw4924952495913616983 : Unit := ()
def PySem.W.Fast.tw12209225703884472187 : Unit := ()
def PySem.W.Fast.tw2450476977522253124 : Unit := ()
def PySem.W.Fast.tw10874061098097481316 : Unit := ()
def PySem.W.Fast.tw12081829466203897396 : Unit := ()
def PySem.W.Fast.tw11549466250973911860 : Unit := ()
def PySem.W.Fast.tw362240520136800720 : Unit := ()
def PySem.W.Fast.tw14651812703250919786 : Unit := ()
def PySem.W.Fast.tw10731519722763932844 : Unit := ()
def PySem.W.Fast.tw6063933496332847205 : Unit := ()
def PySem.W.Fast.tw9690931655076246502 : Unit := ()
def PySem.W.Fast.tw14053851071308072349 : Unit := ()
def PySem.W.Fast.tw17164395828575994833 : Unit := ()
def PySem.W.Fast.tw16465669514875053932 : Unit := ()
def PySem.W.Fast.tw15455259587989305093 : Unit := ()
def PySem.W.Fast.tw4742758810401802487 : Unit := ()
def PySem.W.Fast.tw359017922631836292 : Unit := ()
def PySem.W.Fast.tw14765156120863300944 : Unit := ()
def PySem.W.Fast.tw11983665763293809217 : Unit := ()
def PySem.W.Fast.tw4168688134773167046 : Unit := ()
def PySem.W.Fast.tw5580033010465144640 : Unit := ()
def PySem.W.Fast.tw2275017300679772029 : Unit := ()
def PySem.W.Fast.tw13497930582620579335 : Unit := ()
def PySem.W.Fast.tw16654714714499950121 : Unit := ()
def PySem.W.Fast.tw17309582945977749728 : Unit := ()
def PySem.W.Fast.tw7637874241007800958 : Unit := ()
def PySem.W.Fast.tw3667803189763335104 : Unit := ()
def PySem.W.Fast.tw13555628383509678024 : Unit := ()
def PySem.W.Fast.tw17803754021952143302 : Unit := ()
def PySem.W.Fast.tw8531917844527782148 : Unit := ()
def PySem.W.Fast.tw14593632606538737685 : Unit := ()
def PySem.W.Fast.tw13808928086560399415 : Unit := ()
def PySem.W.Fast.tw6762901080378479341 : Unit := ()
def PySem.W.Fast.tw10308606883843544620 : Unit := ()
def PySem.W.Fast.tw6145377137308682864 : Unit := ()
def PySem.W.Fast.tw4469735880471082279 : Unit := ()
def PySem.W.Fast.tw3438578624918294654 : Unit := ()
def PySem.W.Fast.tw1466527128154540857 : Unit := ()
def PySem.W.Fast.tw15889521251048948931 : Unit := ()
def PySem.W.Fast.tw13641048540570076840 : Unit := ()
def PySem.W.Fast.tw866651797592079477 : Unit := ()
def PySem.W.Fast.tw15863545159619850935 : Unit := ()
def PySem.W.Fast.tw2576639156077152823 : Unit := ()
def PySem.W.Fast.tw6602721340816280110 : Unit := ()
def PySem.W.Fast.tw17312459980031659320 : Unit := ()
def PySem.W.Fast.tw3745458597168195933 : Unit := ()
def PySem.W.Fast.tw11914959426483675217 : Unit := ()
def PySem.W.Fast.tw12444647789037983301 : Unit := ()
def PySem.W.Fast.tw234885223628929341 : Unit := ()
def PySem.W.Fast.tw8779211077245259921 : Unit := ()
def PySem.W.Fast.tw8310116963756877166 : Unit := ()
def PySem.W.Fast.tw17577762912728108076 : Unit := ()
def PySem.W.Fast.tw15655255860859793479 : Unit := ()
def PySem.W.Fast.tw1957311618026972643 : Unit := ()
def PySem.W.Fast.tw4395541070285839782 : Unit := ()
def PySem.W.Fast.tw4871217865065681471 : Unit := ()
def PySem.W.Fast.tw12324087643654593406 : Unit := ()
def PySem.W.Fast.tw14427349748246223161 : Unit := ()
def PySem.W.Fast.tw9031157449978746750 : Unit := ()
def PySem.W.Fast.tw18172570318671275893 : Unit := ()
def PySem.W.Fast.tw9362844842956315715 : Unit := ()
def PySem.W.Fast.tw12072148830943834657 : Unit := ()
def PySem.W.Fast.tw16126594804013847051 : Unit := ()
def PySem.W.Fast.tw4076073947948974993 : Unit := ()
def PySem.W.Fast.tw8082216009258582623 : Unit := ()
def PySem.W.Fast.tw14436863207201592621 : Unit := ()
def PySem.W.Fast.tw14279178371607911968 : Unit := ()
def PySem.W.Fast.tw15356950034128812442 : Unit := ()
def PySem.W.Fast.tw3885594073343512559 : Unit := ()
def PySem.W.Fast.tw18412139830967831702 : Unit := ()
def PySem.W.Fast.tw9099721007832684915 : Unit := ()
def PySem.W.Fast.tw8491385568492860495 : Unit := ()
def PySem.W.Fast.tw13403450442556106101 : Unit := ()
def PySem.W.Fast.tw8929415063177270116 : Unit := ()
def PySem.W.Fast.tw14960269987050874804 : Unit := ()
def PySem.W.Fast.tw17870136454511351693 : Unit := ()
def PySem.W.Fast.tw12188756474715527730 : Unit := ()
def PySem.W.Fast.tw4535889180200382633 : Unit := ()
def PySem.W.Fast.tw12126377647454467147 : Unit := ()
def PySem.W.Fast.tw6815905090947681512 : Unit := ()
def PySem.W.Fast.tw16699306995269326364 : Unit := ()
def PySem.W.Fast.tw11730220243289957455 : Unit := ()
def PySem.W.Fast.tw3887243396917525566 : Unit := ()
def PySem.W.Fast.tw3334521894815261260 : Unit := ()
def PySem.W.Fast.tw6543065603204705610 : Unit := ()
def PySem.W.Fast.tw16055140639299828853 : Unit := ()
def PySem.W.Fast.tw4677791395604119264 : Unit := ()
def PySem.W.Fast.tw10691457451542257699 : Unit := ()
def PySem.W.Fast.tw6489344556424154449 : Unit := ()
def PySem.W.Fast.tw8305066774002002000 : Unit := ()
def PySem.W.Fast.tw6667908563870961033 : Unit := ()
def PySem.W.Fast.tw12384200289289704057 : Unit := ()
def PySem.W.Fast.tw18371841988701270113 : Unit := ()
def PySem.W.Fast.tw13295798274833621837 : Unit := ()
def PySem.W.Fast.tw14116461970982851783 : Unit := ()
def PySem.W.Fast.tw18432333411063369924 : Unit := ()
def PySem.W.Fast.tw15979570366778301595 : Unit := ()
def PySem.W.Fast.tw2062816013120334270 : Unit := ()
def PySem.W.Fast.tw8733967902003964107 : Unit := ()
def PySem.W.Fast.tw17675921294825180273 : Unit := ()
def PySem.W.Fast.tw956885929266318474 : Unit := ()
def PySem.W.Fast.tw5148701041156879315 : Unit := ()
def PySem.W.Fast.tw16307808345966636326 : Unit := ()
def PySem.W.Fast.tw1048655022603921323 : Unit := ()
def PySem.W.Fast.tw18405502083253531864 : Unit := ()
def PySem.W.Fast.tw17658920073188531315 : Unit := ()
def PySem.W.Fast.tw15033144367658474124 : Unit := ()
def PySem.W.Fast.tw16828571675817588691 : Unit := ()
def PySem.W.Fast.tw15832770105597130397 : Unit := ()
def PySem.W.Fast.tw14849014676147908792 : Unit := ()
def PySem.W.Fast.tw15973731289718544064 : Unit := ()
def PySem.W.Fast.tw4742903280316530282 : Unit := ()
def PySem.W.Fast.tw16225635282265108710 : Unit := ()
def PySem.W.Fast.tw5087678587068393020 : Unit := ()
def PySem.W.Fast.tw7822017865921215950 : Unit := ()
def PySem.W.Fast.tw8542085845645880507 : Unit := ()
def PySem.W.Fast.tw8740001222481321884 : Unit := ()
def PySem.W.Fast.tw604631648888561233 : Unit := ()
def PySem.W.Fast.tw3780644096982643928 : Unit := ()
def PySem.W.Fast.tw1247320563123562626 : Unit := ()
def PySem.W.Fast.tw16635887755391526248 : Unit := ()
def PySem.W.Fast.tw6106419849925789712 : Unit := ()
def PySem.W.Fast.tw8191883012866906213 : Unit := ()
def PySem.W.Fast.tw5573656662615878280 : Unit := ()
def PySem.W.Fast.tw9287160935151824268 : Unit := ()
def PySem.W.Fast.tw4666451619621507985 : Unit := ()
def PySem.W.Fast.tw1483340173423658739 : Unit := ()
def PySem.W.Fast.tw13319163963892715794 : Unit := ()
def PySem.W.Fast.tw10617987633028582001 : Unit := ()
def PySem.W.Fast.tw7588256166113577866 : Unit := ()
def PySem.W.Fast.tw11779976293622181004 : Unit := ()
def PySem.W.Fast.tw5515394355616837850 : Unit := ()
def PySem.W.Fast.tw64819097105431982 : Unit := ()
def PySem.W.Fast.tw12685315490052075613 : Unit := ()
def PySem.W.Fast.tw13467823429214891303 : Unit := ()
def PySem.W.Fast.tw15807897429262928656 : Unit := ()
def PySem.W.Fast.tw11831481343189768949 : Unit := ()
def PySem.W.Fast.tw4666156950554646152 : Unit := ()
def PySem.W.Fast.tw5519138383549908942 : Unit := ()
def PySem.W.Fast.tw5542561173750928106 : Unit := ()
def PySem.W.Fast.tw18045306013035108132 : Unit := ()
def PySem.W.Fast.tw6184179135598546430 : Unit := ()
def PySem.W.Fast.tw17480332601428348711 : Unit := ()
def PySem.W.Fast.tw1313099713278562084 : Unit := ()
def PySem.W.Fast.tw6084568641848683127 : Unit := ()
def PySem.W.Fast.tw3648801349430540947 : Unit := ()
def PySem.W.Fast.tw9006593509428293201 : Unit := ()
def PySem.W.Fast.tw5779692698304713652 : Unit := ()
def PySem.W.Fast.tw12493380720291195981 : Unit := ()
def PySem.W.Fast.tw6863092951836405703 : Unit := ()
def PySem.W.Fast.tw15719942449889346083 : Unit := ()
def PySem.W.Fast.tw17873864881985013319 : Unit := ()
def PySem.W.Fast.tw6371325447754244869 : Unit := ()
def PySem.W.Fast.tw9444634518689667059 : Unit := ()
def PySem.W.Fast.tw8592860038323232789 : Unit := ()
def PySem.W.Fast.tw14362358907345641140 : Unit := ()
def PySem.W.Fast.tw7448273365275037221 : Unit := ()
def PySem.W.Fast.tw16201828346234972146 : Unit := ()
def PySem.W.Fast.tw8744042722174675289 : Unit := ()
def PySem.W.Fast.tw12045372452383422382 : Unit := ()
def PySem.W.Fast.tw10196051541849926733 : Unit := ()
def PySem.W.Fast.tw17613730209644457112 : Unit := ()
def PySem.W.Fast.tw14510553414510734539 : Unit := ()
def PySem.W.Fast.tw4860922116731485292 : Unit := ()
def PySem.W.Fast.tw17100187678566180234 : Unit := ()
def PySem.W.Fast.tw15976273747903322923 : Unit := ()
def PySem.W.Fast.tw17128746109647813901 : Unit := ()
def PySem.W.Fast.tw5708882449564757345 : Unit := ()
def PySem.W.Fast.tw15644194425196065723 : Unit := ()
def PySem.W.Fast.tw4567354946417868673 : Unit := ()
def PySem.W.Fast.tw2330769923141839196 : Unit := ()
def PySem.W.Fast.tw15606344514063729759 : Unit := ()
def PySem.W.Fast.tw2939581051767693991 : Unit := ()
def PySem.W.Fast.tw12565177481706597993 : Unit := ()
def PySem.W.Fast.tw4220827695380122559 : Unit := ()
def PySem.W.Fast.tw5882244587696852549 : Unit := ()
def PySem.W.Fast.tw17824599658766610287 : Unit := ()
def PySem.W.Fast.tw15776932756562336774 : Unit := ()
def PySem.W.Fast.tw12759020278604083435 : Unit := ()
def PySem.W.Fast.tw15531845803380614217 : Unit := ()
def PySem.W.Fast.tw14310559216352190220 : Unit := ()
def PySem.W.Fast.tw536833555685381560 : Unit := ()
def PySem.W.Fast.tw14903517510464123246 : Unit := ()
def PySem.W.Fast.tw9290901627793525872 : Unit := ()
def PySem.W.Fast.tw13109171943216026892 : Unit := ()
def PySem.W.Fast.tw13050247067813139116 : Unit := ()
def PySem.W.Fast.tw17616585264978703000 : Unit := ()
def PySem.W.Fast.tw1352394207341206729 : Unit := ()
def PySem.W.Fast.tw10807560455740216662 : Unit := ()
def PySem.W.Fast.tw9133428028172626904 : Unit := ()
def PySem.W.Fast.tw16074118706480786847 : Unit := ()
def PySem.W.Fast.tw9764845155796005272 : Unit := ()
def PySem.W.Fast.tw3437288004436682897 : Unit := ()
def PySem.W.Fast.tw14991390108323774652 : Unit := ()
def PySem.W.Fast.tw1187669192226910485 : Unit := ()
def PySem.W.Fast.tw16864376107993070912 : Unit := ()
def PySem.W.Fast.tw10790240042140916294 : Unit := ()
def PySem.W.Fast.tw7326067595249277790 : Unit := ()
def PySem.W.Fast.tw7200946131336484201 : Unit := ()
def PySem.W.Fast.tw16571034404435681064 : Unit := ()
def PySem.W.Fast.tw3762205971062581799 : Unit := ()
def PySem.W.Fast.tw16927292334728159962 : Unit := ()
def PySem.W.Fast.tw15122766668979768392 : Unit := ()
def PySem.W.Fast.tw12052252030497380789 : Unit := ()
def PySem.W.Fast.tw18183537396911452848 : Unit := ()
def PySem.W.Fast.tw11167085866863109991 : Unit := ()
def PySem.W.Fast.tw14312264926803865864 : Unit := ()
def PySem.W.Fast.tw10008016834556694523 : Unit := ()
def PySem.W.Fast.tw13705437429728865783 : Unit := ()
def PySem.W.Fast.tw13734686948846782200 : Unit := ()
def PySem.W.Fast.tw8587375282002879217 : Unit := ()
def PySem.W.Fast.tw15796292926782221492 : Unit := ()
def PySem.W.Fast.tw3226190500355930478 : Unit := ()
def PySem.W.Fast.tw10796347211568154316 : Unit := ()
def PySem.W.Fast.tw14838568096023994201 : Unit := ()
def PySem.W.Fast.tw13639777756908697637 : Unit := ()
def PySem.W.Fast.tw8592846186337027439 : Unit := ()
def PySem.W.Fast.tw6493866167878891870 : Unit := ()
def PySem.W.Fast.tw4043814508715186430 : Unit := ()
def PySem.W.Fast.tw4044996732079895096 : Unit := ()
def PySem.W.Fast.tw9730127314974901537 : Unit := ()
def PySem.W.Fast.tw1528780650129096656 : Unit := ()
def PySem.W.Fast.tw16619879123349064471 : Unit := ()
def PySem.W.Fast.tw7728156425354322369 : Unit := ()
def PySem.W.Fast.tw16583288273220629972 : Unit := ()
def PySem.W.Fast.tw5372347951426344290 : Unit := ()
def PySem.W.Fast.tw15080893338889939716 : Unit := ()
def PySem.W.Fast.tw4195778856263940338 : Unit := ()
def PySem.W.Fast.tw9150827642847103578 : Unit := ()
def PySem.W.Fast.tw7026951914943465649 : Unit := ()
def PySem.W.Fast.tw1648077836296998685 : Unit := ()
def PySem.W.Fast.tw7500259418949559968 : Unit := ()
def PySem.W.Fast.tw8935377472467879599 : Unit := ()
def PySem.W.Fast.tw689722927451186226 : Unit := ()
def PySem.W.Fast.tw6213112899112624084 : Unit := ()
def PySem.W.Fast.tw8950529523985689201 : Unit := ()
def PySem.W.Fast.tw2045187151039050863 : Unit := ()
def PySem.W.Fast.tw1940376396757875558 : Unit := ()
def PySem.W.Fast.tw11525406355895135122 : Unit := ()
def PySem.W.Fast.tw4737399417958453466 : Unit := ()
def PySem.W.Fast.tw12430927777103631792 : Unit := ()
def PySem.W.Fast.tw6378594810021484333 : Unit := ()
def PySem.W.Fast.tw7712783094432870012 : Unit := ()
def PySem.W.Fast.tw15984465792117143899 : Unit := ()
def PySem.W.Fast.tw15287852225301927716 : Unit := ()
def PySem.W.Fast.tw12673292695867196249 : Unit := ()
def PySem.W.Fast.tw14367439337097907598 : Unit := ()
def PySem.W.Fast.tw8367590037568340225 : Unit := ()
def PySem.W.Fast.tw12448187536594071939 : Unit := ()
def PySem.W.Fast.tw2617899905024088516 : Unit := ()
def PySem.W.Fast.tw16399177729273703701 : Unit := ()
def PySem.W.Fast.tw14155431474076633430 : Unit := ()
def PySem.W.Fast.tw2717156997378421405 : Unit := ()
def PySem.W.Fast.tw5119227425745804596 : Unit := ()
def PySem.W.Fast.tw10046837783304921445 : Unit := ()
def PySem.W.Fast.tw5732772114073312487 : Unit := ()
def PySem.W.Fast.tw3468122929481002386 : Unit := ()
def PySem.W.Fast.tw6019437046587925559 : Unit := ()
def PySem.W.Fast.tw12286765180727754487 : Unit := ()
def PySem.W.Fast.tw11390691206917958585 : Unit := ()
def PySem.W.Fast.tw4759477117327416062 : Unit := ()
def PySem.W.Fast.tw17567737138547460087 : Unit := ()
def PySem.W.Fast.tw11021122712625173159 : Unit := ()
def PySem.W.Fast.tw7392175515600795702 : Unit := ()
def PySem.W.Fast.tw1435764629088874612 : Unit := ()
def PySem.W.Fast.tw3683753650979526610 : Unit := ()
def PySem.W.Fast.tw12627665950624686829 : Unit := ()
def PySem.W.Fast.tw13358026671647174668 : Unit := ()
def PySem.W.Fast.tw9260320402061189652 : Unit := ()
def PySem.W.Fast.tw5463132978033628383 : Unit := ()
def PySem.W.Fast.tw17509488331657766686 : Unit := ()
def PySem.W.Fast.tw8609067225093790359 : Unit := ()
def PySem.W.Fast.tw9038151332378845438 : Unit := ()
def PySem.W.Fast.tw3592106029715538350 : Unit := ()
def PySem.W.Fast.tw10028361853634059315 : Unit := ()
def PySem.W.Fast.tw7876506442935929841 : Unit := ()
def PySem.W.Fast.tw4835310841752262789 : Unit := ()
def PySem.W.Fast.tw15338041869536111221 : Unit := ()
def PySem.W.Fast.tw16390329159881565361 : Unit := ()
def PySem.W.Fast.tw7766587768740121403 : Unit := ()
def PySem.W.Fast.tw9681575566098815959 : Unit := ()
def PySem.W.Fast.tw16590501879605073063 : Unit := ()
def PySem.W.Fast.tw232140338336662930 : Unit := ()
def PySem.W.Fast.tw2848949103248925000 : Unit := ()
def PySem.W.Fast.tw11913536969711814367 : Unit := ()
def PySem.W.Fast.tw15651936658391328896 : Unit := ()
def PySem.W.Fast.tw14248007940250370557 : Unit := ()
def PySem.W.Fast.tw6704841951770103253 : Unit := ()
def PySem.W.Fast.tw4232568074978287446 : Unit := ()
def PySem.W.Fast.tw6610226521551413616 : Unit := ()
def PySem.W.Fast.tw5907154469539486384 : Unit := ()
def PySem.W.Fast.tw15398453962328879490 : Unit := ()
def PySem.W.Fast.tw4764334339512810945 : Unit := ()
def PySem.W.Fast.tw11505546694075771991 : Unit := ()
def PySem.W.Fast.tw6844642379659895683 : Unit := ()
def PySem.W.Fast.tw9570280071679480339 : Unit := ()
def PySem.W.Fast.tw9291402306996505603 : Unit := ()
def PySem.W.Fast.tw2211558142288172490 : Unit := ()
def PySem.W.Fast.tw4166683720544715446 : Unit := ()
def PySem.W.Fast.tw7946477659891847042 : Unit := ()
def PySem.W.Fast.tw6069047712748089741 : Unit := ()
def PySem.W.Fast.tw4588174118684734303 : Unit := ()
def PySem.W.Fast.tw11832958452788069803 : Unit := ()
def PySem.W.Fast.tw8266351840221006982 : Unit := ()
def PySem.W.Fast.tw18389365430515803411 : Unit := ()
def PySem.W.Fast.tw8198348396560568385 : Unit := ()
def PySem.W.Fast.tw17540052700441881757 : Unit := ()
def PySem.W.Fast.tw15328792343527877387 : Unit := ()
def PySem.W.Fast.tw17424940018494378646 : Unit := ()
def PySem.W.Fast.tw14886087604155560138 : Unit := ()
def PySem.W.Fast.tw10679945889691356373 : Unit := ()
def PySem.W.Fast.tw4390392731823584196 : Unit := ()
def PySem.W.Fast.tw966778652389525223 : Unit := ()
def PySem.W.Fast.tw12826668721305518983 : Unit := ()
def PySem.W.Fast.tw10045024270377327269 : Unit := ()
def PySem.W.Fast.tw2186008331120335867 : Unit := ()
def PySem.W.Fast.tw1824439488697091880 : Unit := ()
def PySem.W.Fast.tw5023893698555543388 : Unit := ()
def PySem.W.Fast.tw1422458252241743759 : Unit := ()
def PySem.W.Fast.tw4763031194423314530 : Unit := ()
def PySem.W.Fast.tw12702797718210364841 : Unit := ()
def PySem.W.Fast.tw1992401142028080793 : Unit := ()
def PySem.W.Fast.tw4494613669421744381 : Unit := ()
def PySem.W.Fast.tw3227297359409544825 : Unit := ()
def PySem.W.Fast.tw10977221885418628997 : Unit := ()
def PySem.W.Fast.tw4413402880428074391 : Unit := ()
def PySem.W.Fast.tw7529110866268423497 : Unit := ()
def PySem.W.Fast.tw18088113300673376948 : Unit := ()
def PySem.W.Fast.tw14229356362582512452 : Unit := ()
def PySem.W.Fast.tw8457895373237090417 : Unit := ()
def PySem.W.Fast.tw3044794649804833720 : Unit := ()
def PySem.W.Fast.tw2031302495656261869 : Unit := ()
def PySem.W.Fast.tw14135128447768775130 : Unit := ()
def PySem.W.Fast.tw6450738631727544359 : Unit := ()
def PySem.W.Fast.tw5923602911865159716 : Unit := ()
def PySem.W.Fast.tw13428581670376990129 : Unit := ()
def PySem.W.Fast.tw15160078672018330042 : Unit := ()
def PySem.W.Fast.tw13226247440318609714 : Unit := ()
def PySem.W.Fast.tw6577012691305541394 : Unit := ()
def PySem.W.Fast.tw5233202668395198688 : Unit := ()
def PySem.W.Fast.tw14495583964804101576 : Unit := ()
def PySem.W.Fast.tw7573031985055800000 : Unit := ()
def PySem.W.Fast.tw7347932868006135084 : Unit := ()
def PySem.W.Fast.tw5407763945944558799 : Unit := ()
def PySem.W.Fast.tw16124778898602742427 : Unit := ()
def PySem.W.Fast.tw17565975296468591762 : Unit := ()
def PySem.W.Fast.tw1840264269512140050 : Unit := ()
def PySem.W.Fast.tw5993543731771542654 : Unit := ()
def PySem.W.Fast.tw17180432914092521064 : Unit := ()
def PySem.W.Fast.tw16782394079008127975 : Unit := ()
def PySem.W.Fast.tw11769311819113464781 : Unit := ()
def PySem.W.Fast.tw14029634993965020841 : Unit := ()
def PySem.W.Fast.tw5690957642827921833 : Unit := ()
def PySem.W.Fast.tw6737359309547837385 : Unit := ()
def PySem.W.Fast.tw11635611576330635895 : Unit := ()
def PySem.W.Fast.tw7511658542623734571 : Unit := ()
def PySem.W.Fast.tw3848263323446930565 : Unit := ()
def PySem.W.Fast.tw1458003834672008025 : Unit := ()
def PySem.W.Fast.tw2974121773226243580 : Unit := ()
def PySem.W.Fast.tw3807237787389485068 : Unit := ()
def PySem.W.Fast.tw10300113148852247377 : Unit := ()
def PySem.W.Fast.tw11593434089979565563 : Unit := ()
def PySem.W.Fast.tw15770320156432936196 : Unit := ()
def PySem.W.Fast.tw7593849675195198918 : Unit := ()
def PySem.W.Fast.tw13837863296791674588 : Unit := ()
def PySem.W.Fast.tw447891987261998002 : Unit := ()
def PySem.W.Fast.tw1840599666706253153 : Unit := ()
def PySem.W.Fast.tw4714718515526717486 : Unit := ()
def PySem.W.Fast.tw9903944766807750811 : Unit := ()
def PySem.W.Fast.tw16880778077205124340 : Unit := ()
def PySem.W.Fast.tw554317510580906586 : Unit := ()
def PySem.W.Fast.tw10321422986445759239 : Unit := ()
def PySem.W.Fast.tw12494190235170299421 : Unit := ()
def PySem.W.Fast.tw15961485503584188344 : Unit := ()
def PySem.W.Fast.tw14594390559792550064 : Unit := ()
def PySem.W.Fast.tw5074581881990963488 : Unit := ()
def PySem.W.Fast.tw10646887498448690580 : Unit := ()
def PySem.W.Fast.tw13641870855624752013 : Unit := ()
def PySem.W.Fast.tw2636211897308365962 : Unit := ()
def PySem.W.Fast.tw17351029967399754587 : Unit := ()
def PySem.W.Fast.tw7046532704730104787 : Unit := ()
def PySem.W.Fast.tw6087263274673048035 : Unit := ()
def PySem.W.Fast.tw14202727076990994306 : Unit := ()
def PySem.W.Fast.tw6272585723528769956 : Unit := ()
def PySem.W.Fast.tw7020073575810170984 : Unit := ()
def PySem.W.Fast.tw2778848285779739958 : Unit := ()
def PySem.W.Fast.tw2827872776240971338 : Unit := ()
def PySem.W.Fast.tw8833719255106641711 : Unit := ()
def PySem.W.Fast.tw4527824224803074063 : Unit := ()
def PySem.W.Fast.tw3041970193161903484 : Unit := ()
def PySem.W.Fast.tw15907910283775336510 : Unit := ()
def PySem.W.Fast.tw11993968511583015164 : Unit := ()
def PySem.W.Fast.tw16770098091316175201 : Unit := ()
def PySem.W.Fast.tw3460821003832507723 : Unit := ()
def PySem.W.Fast.tw4574069635783809565 : Unit := ()
def PySem.W.Fast.tw17781024880684160300 : Unit := ()
def PySem.W.Fast.tw13423262874149849337 : Unit := ()
def PySem.W.Fast.tw1359046149106634086 : Unit := ()
def PySem.W.Fast.tw13931534348502497749 : Unit := ()
def PySem.W.Fast.tw7401991346670377463 : Unit := ()
def PySem.W.Fast.tw15275187947161895386 : Unit := ()
def PySem.W.Fast.tw1929165662528435624 : Unit := ()
def PySem.W.Fast.tw12307400503986645299 : Unit := ()
def PySem.W.Fast.tw13800089547892020027 : Unit := ()
def PySem.W.Fast.tw10872215458092861999 : Unit := ()
def PySem.W.Fast.tw13417025774081316803 : Unit := ()
def PySem.W.Fast.tw15129090011643996029 : Unit := ()
def PySem.W.Fast.tw15016185619825807075 : Unit := ()
def PySem.W.Fast.tw3155466684137271959 : Unit := ()
def PySem.W.Fast.tw15348089909014293679 : Unit := ()
def PySem.W.Fast.tw16048228307206665252 : Unit := ()
def PySem.W.Fast.tw17935405250696628864 : Unit := ()
def PySem.W.Fast.tw16487024912876844215 : Unit := ()
def PySem.W.Fast.tw2677402967612758814 : Unit := ()
def PySem.W.Fast.tw16180942763331174049 : Unit := ()
def PySem.W.Fast.tw3181663398675927722 : Unit := ()
def PySem.W.Fast.tw690501344668594776 : Unit := ()
def PySem.W.Fast.tw17361092196460789751 : Unit := ()
def PySem.W.Fast.tw5641543997074827826 : Unit := ()
def PySem.W.Fast.tw5121484816956838723 : Unit := ()
def PySem.W.Fast.tw5565184351533151554 : Unit := ()
def PySem.W.Fast.tw16803648913001480975 : Unit := ()
def PySem.W.Fast.tw4820527680650227578 : Unit := ()
def PySem.W.Fast.tw16714034922949013999 : Unit := ()
def PySem.W.Fast.tw11095999654255184877 : Unit := ()
def PySem.W.Fast.tw16686206324995488078 : Unit := ()
def PySem.W.Fast.tw6969784093695869410 : Unit := ()
def PySem.W.Fast.tw14166599409804845258 : Unit := ()
def PySem.W.Fast.tw9191908438628220859 : Unit := ()
def PySem.W.Fast.tw6323853846298822718 : Unit := ()
def PySem.W.Fast.tw1579209760597430981 : Unit := ()
def PySem.W.Fast.tw2902987870443038524 : Unit := ()
def PySem.W.Fast.tw11290618976827790015 : Unit := ()
def PySem.W.Fast.tw3777545116365126514 : Unit := ()
def PySem.W.Fast.tw3620328808313943323 : Unit := ()
def PySem.W.Fast.tw17775811561697717919 : Unit := ()
def PySem.W.Fast.tw3993712615665446371 : Unit := ()
def PySem.W.Fast.tw6235553740280801096 : Unit := ()
def PySem.W.Fast.tw12897466350922760011 : Unit := ()
def PySem.W.Fast.tw9444656000813147133 : Unit := ()
def PySem.W.Fast.tw11425988239136196322 : Unit := ()
def PySem.W.Fast.tw488625783201393864 : Unit := ()
def PySem.W.Fast.tw5483618619800338509 : Unit := ()
def PySem.W.Fast.tw4370541521634503129 : Unit := ()
def PySem.W.Fast.tw12824198219538843132 : Unit := ()
def PySem.W.Fast.tw8352044111548793438 : Unit := ()
def PySem.W.Fast.tw1610751274164316087 : Unit := ()
def PySem.W.Fast.tw7417140049486026274 : Unit := ()
def PySem.W.Fast.tw5458251449535819124 : Unit := ()
def PySem.W.Fast.tw6289880208894708196 : Unit := ()
def PySem.W.Fast.tw1509639658852704235 : Unit := ()
def PySem.W.Fast.tw4054655437743499143 : Unit := ()
def PySem.W.Fast.tw12956562545470265960 : Unit := ()
def PySem.W.Fast.tw1756608752893619410 : Unit := ()
def PySem.W.Fast.tw2038236615364529128 : Unit := ()
def PySem.W.Fast.tw10078815590858062847 : Unit := ()
def PySem.W.Fast.tw8850243104041018766 : Unit := ()
def PySem.W.Fast.tw18219439047821222140 : Unit := ()
def PySem.W.Fast.tw13209111917651771556 : Unit := ()
def PySem.W.Fast.tw2194651841690060559 : Unit := ()
def PySem.W.Fast.tw16584375653774533669 : Unit := ()
def PySem.W.Fast.tw16713994797309678438 : Unit := ()
def PySem.W.Fast.tw12922055694485585157 : Unit := ()
def PySem.W.Fast.tw7236109708126408303 : Unit := ()
def PySem.W.Fast.tw14141091796225138991 : Unit := ()
def PySem.W.Fast.tw6343863477899962380 : Unit := ()
def PySem.W.Fast.tw8640041539241473117 : Unit := ()
def PySem.W.Fast.tw1908994654630306341 : Unit := ()
def PySem.W.Fast.tw17358845949954520875 : Unit := ()
def PySem.W.Fast.tw10651615387295730698 : Unit := ()
def PySem.W.Fast.tw17343317202367467423 : Unit := ()
def PySem.W.Fast.tw9559912807304091671 : Unit := ()
def PySem.W.Fast.tw17410139538625487423 : Unit := ()
def PySem.W.Fast.tw17339816314334313424 : Unit := ()
def PySem.W.Fast.tw7933041083756063695 : Unit := ()
def PySem.W.Fast.tw3659075486792378574 : Unit := ()
def PySem.W.Fast.tw894635521263098765 : Unit := ()
def PySem.W.Fast.tw8219897025650639242 : Unit := ()
def PySem.W.Fast.tw4580391635901887684 : Unit := ()
def PySem.W.Fast.tw15990556017703986110 : Unit := ()
def PySem.W.Fast.tw13587902597242742845 : Unit := ()
def PySem.W.Fast.tw12986718893390816990 : Unit := ()
def PySem.W.Fast.tw17637760220849272667 : Unit := ()
def PySem.W.Fast.tw17806620789788973055 : Unit := ()
def PySem.W.Fast.tw8446327205998429674 : Unit := ()
def PySem.W.Fast.tw14105886024923966189 : Unit := ()
def PySem.W.Fast.tw16732489103061994690 : Unit := ()
def PySem.W.Fast.tw12859940294344830544 : Unit := ()
def PySem.W.Fast.tw6521240615150379467 : Unit := ()
def PySem.W.Fast.tw6432017686010536863 : Unit := ()
def PySem.W.Fast.tw12662211874554859379 : Unit := ()
def PySem.W.Fast.tw1664828313672939916 : Unit := ()
def PySem.W.Fast.tw17280647994268059304 : Unit := ()
def PySem.W.Fast.tw9409103730051440885 : Unit := ()
def PySem.W.Fast.tw3603694763428690223 : Unit := ()
def PySem.W.Fast.tw11688246536424842600 : Unit := ()
def PySem.W.Fast.tw9337238905190281800 : Unit := ()
def PySem.W.Fast.tw14296693932252923534 : Unit := ()
def PySem.W.Fast.tw14994215956995100477 : Unit := ()
def PySem.W.Fast.tw2461411403758821382 : Unit := ()
def PySem.W.Fast.tw8544827507981025527 : Unit := ()
def PySem.W.Fast.tw13251629384732325608 : Unit := ()
def PySem.W.Fast.tw10803615549612368779 : Unit := ()
def PySem.W.Fast.tw9284091706680147038 : Unit := ()
def PySem.W.Fast.tw1017130591591098443 : Unit := ()
def PySem.W.Fast.tw10588203179564360455 : Unit := ()
def PySem.W.Fast.tw15041485056878069956 : Unit := ()
def PySem.W.Fast.tw7411706715010968599 : Unit := ()
def PySem.W.Fast.tw2596765815095198261 : Unit := ()
def PySem.W.Fast.tw13202274788138569850 : Unit := ()
def PySem.W.Fast.tw13670331604582689160 : Unit := ()
def PySem.W.Fast.tw2120049031950272117 : Unit := ()
def PySem.W.Fast.tw3446783839325839187 : Unit := ()
def PySem.W.Fast.tw6299856497165798292 : Unit := ()
def PySem.W.Fast.tw10982151963015295226 : Unit := ()
def PySem.W.Fast.tw17476555345283376111 : Unit := ()
def PySem.W.Fast.tw1713234993945931173 : Unit := ()
def PySem.W.Fast.tw17408359640161141586 : Unit := ()
def PySem.W.Fast.tw12646509628308713752 : Unit := ()
def PySem.W.Fast.tw11533186995930350256 : Unit := ()
def PySem.W.Fast.tw2121042430545547260 : Unit := ()
def PySem.W.Fast.tw8531441796224827175 : Unit := ()
def PySem.W.Fast.tw15279285314305674709 : Unit := ()
def PySem.W.Fast.tw14601977908068954485 : Unit := ()
def PySem.W.Fast.tw6942495407289294656 : Unit := ()
def PySem.W.Fast.tw8647087977626416249 : Unit := ()
def PySem.W.Fast.tw18017779884849949729 : Unit := ()
def PySem.W.Fast.tw1426907594887916129 : Unit := ()
def PySem.W.Fast.tw7272763162431980596 : Unit := ()
def PySem.W.Fast.tw14166887310211513908 : Unit := ()
def PySem.W.Fast.tw11118683042997272099 : Unit := ()
def PySem.W.Fast.tw14042367598929351396 : Unit := ()
def PySem.W.Fast.tw2767467176041900736 : Unit := ()
def PySem.W.Fast.tw9531354505772147051 : Unit := ()
def PySem.W.Fast.tw9116244325775523263 : Unit := ()
def PySem.W.Fast.tw17624307240567580117 : Unit := ()
def PySem.W.Fast.tw530910700644142594 : Unit := ()
def PySem.W.Fast.tw10657151761921306935 : Unit := ()
def PySem.W.Fast.tw16577744741226597444 : Unit := ()
def PySem.W.Fast.tw14874880928801029501 : Unit := ()
def PySem.W.Fast.tw11499917943371007893 : Unit := ()
def PySem.W.Fast.tw1806953407197156397 : Unit := ()
def PySem.W.Fast.tw10814654288549058269 : Unit := ()
def PySem.W.Fast.tw8004135810410137884 : Unit := ()
def PySem.W.Fast.tw16504775790613384507 : Unit := ()
def PySem.W.Fast.tw7971546668542802825 : Unit := ()
def PySem.W.Fast.tw17027642444726403902 : Unit := ()
def PySem.W.Fast.tw7854438566545481030 : Unit := ()
def PySem.W.Fast.tw3943944940815164927 : Unit := ()
def PySem.W.Fast.tw5264778253801202992 : Unit := ()
def PySem.W.Fast.tw8056318524467894217 : Unit := ()
def PySem.W.Fast.tw15444115363872339041 : Unit := ()
def PySem.W.Fast.tw4951717667990831376 : Unit := ()
def PySem.W.Fast.tw2729766879726234579 : Unit := ()
def PySem.W.Fast.tw16576296730943977252 : Unit := ()
def PySem.W.Fast.tw10361332847661659434 : Unit := ()
def PySem.W.Fast.tw9575977097075168894 : Unit := ()
def PySem.W.Fast.tw6448888322384408192 : Unit := ()
def PySem.W.Fast.tw4016854792454087211 : Unit := ()
def PySem.W.Fast.tw8558634146974143895 : Unit := ()
def PySem.W.Fast.tw4915250845548769491 : Unit := ()
def PySem.W.Fast.tw890331819729548761 : Unit := ()
def PySem.W.Fast.tw10504170470735826608 : Unit := ()
def PySem.W.Fast.tw7308894073050998058 : Unit := ()
def PySem.W.Fast.tw14686441500021185879 : Unit := ()
def PySem.W.Fast.tw17470885204043942317 : Unit := ()
def PySem.W.Fast.tw6804127473008353900 : Unit := ()
def PySem.W.Fast.tw18039737086294490750 : Unit := ()
def PySem.W.Fast.tw16101655360662681491 : Unit := ()
def PySem.W.Fast.tw4419999643583581922 : Unit := ()
def PySem.W.Fast.tw8510231833134946364 : Unit := ()
def PySem.W.Fast.tw813885319236036372 : Unit := ()
def PySem.W.Fast.tw8911764567944564786 : Unit := ()
def PySem.W.Fast.tw6727691703181254745 : Unit := ()
def PySem.W.Fast.tw1941533057717612909 : Unit := ()
def PySem.W.Fast.tw419111857910125582 : Unit := ()
def PySem.W.Fast.tw5631030008923028321 : Unit := ()
def PySem.W.Fast.tw2312356114614938399 : Unit := ()
def PySem.W.Fast.tw5293774704078212244 : Unit := ()
def PySem.W.Fast.tw11487401563941639247 : Unit := ()
def PySem.W.Fast.tw17080062573736574221 : Unit := ()
def PySem.W.Fast.tw6894258855110774229 : Unit := ()
def PySem.W.Fast.tw14692408121191374462 : Unit := ()
def PySem.W.Fast.tw4447672990789753343 : Unit := ()
def PySem.W.Fast.tw12201737165012072300 : Unit := ()
def PySem.W.Fast.tw6683917960513929285 : Unit := ()
def PySem.W.Fast.tw13994935608211631006 : Unit := ()
def PySem.W.Fast.tw6496762767539605461 : Unit := ()
def PySem.W.Fast.tw4362219216218782202 : Unit := ()
def PySem.W.Fast.tw9631448110563552106 : Unit := ()
def PySem.W.Fast.tw16969457798633410164 : Unit := ()
def PySem.W.Fast.tw3780676313265697591 : Unit := ()
def PySem.W.Fast.tw5351262478098576798 : Unit := ()
def PySem.W.Fast.tw14634150759195482671 : Unit := ()
def PySem.W.Fast.tw115870652665605076 : Unit := ()
def PySem.W.Fast.tw16548224153223531697 : Unit := ()
def PySem.W.Fast.tw6610533110861196854 : Unit := ()
def PySem.W.Fast.tw1275455629240641488 : Unit := ()
def PySem.W.Fast.tw13362384503045131503 : Unit := ()
def PySem.W.Fast.tw611883548804719908 : Unit := ()
def PySem.W.Fast.tw13714232303940127780 : Unit := ()
def PySem.W.Fast.tw9471851186632696797 : Unit := ()
def PySem.W.Fast.tw8558224346482268815 : Unit := ()
def PySem.W.Fast.tw15972722864659468292 : Unit := ()
def PySem.W.Fast.tw18251792698410945419 : Unit := ()
def PySem.W.Fast.tw7062251352624304548 : Unit := ()
def PySem.W.Fast.tw11298899638761718138 : Unit := ()
def PySem.W.Fast.tw2166055190998043646 : Unit := ()
def PySem.W.Fast.tw2586342658881615548 : Unit := ()
def PySem.W.Fast.tw12694223159120145892 : Unit := ()
def PySem.W.Fast.tw10291032354069741346 : Unit := ()
def PySem.W.Fast.tw12542725537449141826 : Unit := ()
def PySem.W.Fast.tw6361271970952877105 : Unit := ()
def PySem.W.Fast.tw17239435663631614034 : Unit := ()
def PySem.W.Fast.tw11624539397429393097 : Unit := ()
def PySem.W.Fast.tw981996939519583179 : Unit := ()
def PySem.W.Fast.tw11234275636233645703 : Unit := ()
def PySem.W.Fast.tw14263054567790726137 : Unit := ()
def PySem.W.Fast.tw5965387865540898408 : Unit := ()
def PySem.W.Fast.tw12672260420490625958 : Unit := ()
def PySem.W.Fast.tw6510212961098843702 : Unit := ()
def PySem.W.Fast.tw9770372639755204288 : Unit := ()
def PySem.W.Fast.tw14274507987138222231 : Unit := ()
def PySem.W.Fast.tw4803684218355499685 : Unit := ()
def PySem.W.Fast.tw3757266124389381014 : Unit := ()
def PySem.W.Fast.tw10902613925961065791 : Unit := ()
def PySem.W.Fast.tw713507313096185936 : Unit := ()
def PySem.W.Fast.tw4951818174841638257 : Unit := ()
def PySem.W.Fast.tw4543903587647889098 : Unit := ()
def PySem.W.Fast.tw2064888323411247062 : Unit := ()
def PySem.W.Fast.tw10789806013102708844 : Unit := ()
def PySem.W.Fast.tw3312061542693941277 : Unit := ()
def PySem.W.Fast.tw5559280604485995140 : Unit := ()
def PySem.W.Fast.tw17414007349153129971 : Unit := ()
def PySem.W.Fast.tw1907766729566816961 : Unit := ()
def PySem.W.Fast.tw16295576125942009706 : Unit := ()
def PySem.W.Fast.tw17801931876135192405 : Unit := ()
def PySem.W.Fast.tw6100832889319353082 : Unit := ()
def PySem.W.Fast.tw7599932588497702282 : Unit := ()
def PySem.W.Fast.tw16649043761099054238 : Unit := ()
def PySem.W.Fast.tw3385622137602786797 : Unit := ()
def PySem.W.Fast.tw319709296322741143 : Unit := ()
def PySem.W.Fast.tw4984196639562292235 : Unit := ()
def PySem.W.Fast.tw18399450553921098966 : Unit := ()
def PySem.W.Fast.tw2451442623943115185 : Unit := ()
def PySem.W.Fast.tw17858819177910389835 : Unit := ()
def PySem.W.Fast.tw11821600438792875239 : Unit := ()
def PySem.W.Fast.tw14883368156488140939 : Unit := ()
def PySem.W.Fast.tw4911049299201301069 : Unit := ()
def PySem.W.Fast.tw18374167285874884713 : Unit := ()
def PySem.W.Fast.tw12767637989842005991 : Unit := ()
def PySem.W.Fast.tw2708561077958159778 : Unit := ()
def PySem.W.Fast.tw4222369919147499528 : Unit := ()
def PySem.W.Fast.tw11225602508976503220 : Unit := ()
def PySem.W.Fast.tw300145845774453676 : Unit := ()
def PySem.W.Fast.tw14978176590163567300 : Unit := ()
def PySem.W.Fast.tw9255569249099686690 : Unit := ()
def PySem.W.Fast.tw11261716074585253203 : Unit := ()
def PySem.W.Fast.tw8340226640541047879 : Unit := ()
def PySem.W.Fast.tw12775141310684387813 : Unit := ()
def PySem.W.Fast.tw16033650865544230760 : Unit := ()
def PySem.W.Fast.tw16374332614425096251 : Unit := ()
def PySem.W.Fast.tw1907988162537382730 : Unit := ()
def PySem.W.Fast.tw26399989126656020 : Unit := ()
def PySem.W.Fast.tw2619007573052842676 : Unit := ()
def PySem.W.Fast.tw16145415345906133513 : Unit := ()
def PySem.W.Fast.tw4012333100217748464 : Unit := ()
def PySem.W.Fast.tw5562623479257938336 : Unit := ()
def PySem.W.Fast.tw10672494904246906195 : Unit := ()
def PySem.W.Fast.tw1915427967618069723 : Unit := ()
def PySem.W.Fast.tw9332485251294304805 : Unit := ()
def PySem.W.Fast.tw6589706123336606503 : Unit := ()
def PySem.W.Fast.tw14634999872369882533 : Unit := ()
def PySem.W.Fast.tw7407774817568303685 : Unit := ()
def PySem.W.Fast.tw3664511600320224673 : Unit := ()
def PySem.W.Fast.tw1205916455098534522 : Unit := ()
def PySem.W.Fast.tw1913262188793807459 : Unit := ()
def PySem.W.Fast.tw5767901349626666435 : Unit := ()
def PySem.W.Fast.tw15823305938865676709 : Unit := ()
def PySem.W.Fast.tw1592186801203568565 : Unit := ()
def PySem.W.Fast.tw14344410590872194466 : Unit := ()
def PySem.W.Fast.tw10299774029767491998 : Unit := ()
def PySem.W.Fast.tw9684946563703555556 : Unit := ()
def PySem.W.Fast.tw16762928203525349391 : Unit := ()
def PySem.W.Fast.tw8673863880161416543 : Unit := ()
def PySem.W.Fast.tw5123074257389024507 : Unit := ()
def PySem.W.Fast.tw14805281474079530788 : Unit := ()
def PySem.W.Fast.tw15223075396858809799 : Unit := ()
def PySem.W.Fast.tw14974926336658755714 : Unit := ()
def PySem.W.Fast.tw11520542848073330102 : Unit := ()
def PySem.W.Fast.tw17262314167516181003 : Unit := ()
def PySem.W.Fast.tw17843975878248742878 : Unit := ()
def PySem.W.Fast.tw6093195201205581199 : Unit := ()
def PySem.W.Fast.tw12770517768830455589 : Unit := ()
def PySem.W.Fast.tw10930446495132770521 : Unit := ()
def PySem.W.Fast.tw5145358502118570560 : Unit := ()
def PySem.W.Fast.tw9874728412190920448 : Unit := ()
def PySem.W.Fast.tw11427201165932354854 : Unit := ()
def PySem.W.Fast.tw17048430246403125889 : Unit := ()
def PySem.W.Fast.tw7026345133004505359 : Unit := ()
def PySem.W.Fast.tw12506730291170722968 : Unit := ()
def PySem.W.Fast.tw10667570119466772393 : Unit := ()
def PySem.W.Fast.tw11048163572635916727 : Unit := ()
def PySem.W.Fast.tw6953926649475054135 : Unit := ()
def PySem.W.Fast.tw15563720292331922491 : Unit := ()
def PySem.W.Fast.tw16975614719144950291 : Unit := ()
def PySem.W.Fast.tw9630116163040711409 : Unit := ()
def PySem.W.Fast.tw6557253606631656554 : Unit := ()
def PySem.W.Fast.tw13999114783200084996 : Unit := ()
def PySem.W.Fast.tw3008803975212055435 : Unit := ()
def PySem.W.Fast.tw5468615398570508046 : Unit := ()
def PySem.W.Fast.tw11864871461211619874 : Unit := ()
def PySem.W.Fast.tw17673790634703546627 : Unit := ()
def PySem.W.Fast.tw7834664659167679604 : Unit := ()
def PySem.W.Fast.tw15998860529253482481 : Unit := ()
def PySem.W.Fast.tw17600883757012172621 : Unit := ()
def PySem.W.Fast.tw9011221521416179794 : Unit := ()
def PySem.W.Fast.tw15472772267890062382 : Unit := ()
def PySem.W.Fast.tw15384665869110754858 : Unit := ()
def PySem.W.Fast.tw10728158076451990111 : Unit := ()
def PySem.W.Fast.tw2450718055421914962 : Unit := ()
def PySem.W.Fast.tw3884107064676222948 : Unit := ()
def PySem.W.Fast.tw1785188569354109375 : Unit := ()
def PySem.W.Fast.tw9427857945640646181 : Unit := ()
def PySem.W.Fast.tw16238543166633832310 : Unit := ()
def PySem.W.Fast.tw6874560132321837298 : Unit := ()
def PySem.W.Fast.tw9797063909156140230 : Unit := ()
def PySem.W.Fast.tw2088449222912406485 : Unit := ()
def PySem.W.Fast.tw4582302655488113006 : Unit := ()
def PySem.W.Fast.tw2217175755169325898 : Unit := ()
def PySem.W.Fast.tw11836805486533351280 : Unit := ()
def PySem.W.Fast.tw14992323407340521602 : Unit := ()
def PySem.W.Fast.tw18004039784497549128 : Unit := ()
def PySem.W.Fast.tw12987062320943862466 : Unit := ()
def PySem.W.Fast.tw9124183377856442145 : Unit := ()
def PySem.W.Fast.tw1920069646542644576 : Unit := ()
def PySem.W.Fast.tw15444168991025728748 : Unit := ()
def PySem.W.Fast.tw12759479429483879654 : Unit := ()
def PySem.W.Fast.tw5380563525172431121 : Unit := ()
def PySem.W.Fast.tw17332222345482636213 : Unit := ()
def PySem.W.Fast.tw16651478076911834862 : Unit := ()
def PySem.W.Fast.tw1046619128325937822 : Unit := ()
def PySem.W.Fast.tw3084837369496568383 : Unit := ()
def PySem.W.Fast.tw12868624644741011573 : Unit := ()
def PySem.W.Fast.tw17252668928244683625 : Unit := ()
def PySem.W.Fast.tw5219454862861706262 : Unit := ()
def PySem.W.Fast.tw5249399983975735103 : Unit := ()
def PySem.W.Fast.tw7786314838922514168 : Unit := ()
def PySem.W.Fast.tw15160147700730964464 : Unit := ()
def PySem.W.Fast.tw2359131553233082405 : Unit := ()
def PySem.W.Fast.tw11654089131924968768 : Unit := ()
def PySem.W.Fast.tw11821547226122087895 : Unit := ()
def PySem.W.Fast.tw11214663419743659091 : Unit := ()
def PySem.W.Fast.tw2036980925484008173 : Unit := ()
def PySem.W.Fast.tw587948004484292774 : Unit := ()
def PySem.W.Fast.tw10132776620117409311 : Unit := ()
def PySem.W.Fast.tw3077512394636779723 : Unit := ()
def PySem.W.Fast.tw17506727386762399236 : Unit := ()
def PySem.W.Fast.tw5758291007642235657 : Unit := ()
def PySem.W.Fast.tw7107387485554266983 : Unit := ()
def PySem.W.Fast.tw13719232064782737492 : Unit := ()
def PySem.W.Fast.tw10264502438133707001 : Unit := ()
def PySem.W.Fast.tw13503263578109590148 : Unit := ()
def PySem.W.Fast.tw7359657154582608334 : Unit := ()
def PySem.W.Fast.tw7503665652995038660 : Unit := ()
def PySem.W.Fast.tw15026178906919629944 : Unit := ()
def PySem.W.Fast.tw7895303909114621536 : Unit := ()
def PySem.W.Fast.tw3761092574217900247 : Unit := ()
def PySem.W.Fast.tw1382984970881560066 : Unit := ()
def PySem.W.Fast.tw6465950854671047096 : Unit := ()
def PySem.W.Fast.tw3040402289418562256 : Unit := ()
def PySem.W.Fast.tw8711569716629285133 : Unit := ()
def PySem.W.Fast.tw3401163206821176303 : Unit := ()
def PySem.W.Fast.tw16284632216616472582 : Unit := ()
def PySem.W.Fast.tw13780083425032486209 : Unit := ()
def PySem.W.Fast.tw12961032625817720668 : Unit := ()
def PySem.W.Fast.tw14426727791581411321 : Unit := ()
def PySem.W.Fast.tw1544516095347888405 : Unit := ()
def PySem.W.Fast.tw15524654603231762657 : Unit := ()
def PySem.W.Fast.tw410151897294280914 : Unit := ()
def PySem.W.Fast.tw1896808607020203216 : Unit := ()
def PySem.W.Fast.tw11370208976628223964 : Unit := ()
def PySem.W.Fast.tw8833073174426107811 : Unit := ()
def PySem.W.Fast.tw13918229523233358487 : Unit := ()
def PySem.W.Fast.tw17523990552578300954 : Unit := ()
def PySem.W.Fast.tw8137946348212996631 : Unit := ()
def PySem.W.Fast.tw3200760838264907788 : Unit := ()
def PySem.W.Fast.tw7681440096987667169 : Unit := ()
def PySem.W.Fast.tw1739749057928035719 : Unit := ()
def PySem.W.Fast.tw10201237463317510322 : Unit := ()
def PySem.W.Fast.tw10671462152431234774 : Unit := ()
def PySem.W.Fast.tw16762187155613016726 : Unit := ()
def PySem.W.Fast.tw17163815287183798676 : Unit := ()
def PySem.W.Fast.tw9343542175985367286 : Unit := ()
def PySem.W.Fast.tw11651133224161475553 : Unit := ()
def PySem.W.Fast.tw9587593466250293375 : Unit := ()
def PySem.W.Fast.tw5906628884066036894 : Unit := ()
def PySem.W.Fast.tw13543202863754493502 : Unit := ()
def PySem.W.Fast.tw659366575217603209 : Unit := ()
def PySem.W.Fast.tw6535841880747902982 : Unit := ()
def PySem.W.Fast.tw5877314969191753034 : Unit := ()
def PySem.W.Fast.tw1429213275277865839 : Unit := ()
def PySem.W.Fast.tw13131821692197855928 : Unit := ()
def PySem.W.Fast.tw8029406612994046723 : Unit := ()
def PySem.W.Fast.tw11292076059472972391 : Unit := ()
def PySem.W.Fast.tw5330447676726822696 : Unit := ()
def PySem.W.Fast.tw1757326011043404421 : Unit := ()
def PySem.W.Fast.tw11122679946263444212 : Unit := ()
def PySem.W.Fast.tw10207755868527036449 : Unit := ()
def PySem.W.Fast.tw7899594326777291773 : Unit := ()
def PySem.W.Fast.tw15166682090881426152 : Unit := ()
def PySem.W.Fast.tw16808439483183291719 : Unit := ()
def PySem.W.Fast.tw12519627291426463310 : Unit := ()
def PySem.W.Fast.tw17949760219131833332 : Unit := ()
def PySem.W.Fast.tw15179519921925880543 : Unit := ()
def PySem.W.Fast.tw7849509109306342259 : Unit := ()
def PySem.W.Fast.tw3392134556541727763 : Unit := ()
def PySem.W.Fast.tw10295495603282216968 : Unit := ()
def PySem.W.Fast.tw8901247585661578591 : Unit := ()
def PySem.W.Fast.tw4108475137345742624 : Unit := ()
def PySem.W.Fast.tw9623316430906554932 : Unit := ()
def PySem.W.Fast.tw18245730579810079982 : Unit := ()
def PySem.W.Fast.tw11708068513377614870 : Unit := ()
def PySem.W.Fast.tw2358566372660001713 : Unit := ()
def PySem.W.Fast.tw1765790579130442945 : Unit := ()
def PySem.W.Fast.tw5146540226045249887 : Unit := ()
def PySem.W.Fast.tw16003286844073920767 : Unit := ()
def PySem.W.Fast.tw6176437979807082704 : Unit := ()
def PySem.W.Fast.tw5538596475695638719 : Unit := ()
def PySem.W.Fast.tw6088329995072511252 : Unit := ()
def PySem.W.Fast.tw13866485185983624089 : Unit := ()
def PySem.W.Fast.tw9346827550887802949 : Unit := ()
def PySem.W.Fast.tw2317672167747982068 : Unit := ()
def PySem.W.Fast.tw14639615045462918267 : Unit := ()
def PySem.W.Fast.tw6355621042157962501 : Unit := ()
def PySem.W.Fast.tw5269526208628398094 : Unit := ()
def PySem.W.Fast.tw13371037979775547490 : Unit := ()
def PySem.W.Fast.tw10579524939997395632 : Unit := ()
def PySem.W.Fast.tw16927080613723917603 : Unit := ()
def PySem.W.Fast.tw14417827552067938188 : Unit := ()
def PySem.W.Fast.tw4498425231244625234 : Unit := ()
def PySem.W.Fast.tw13176841193401348789 : Unit := ()
def PySem.W.Fast.tw7537385193305380710 : Unit := ()
def PySem.W.Fast.tw11477929466901461485 : Unit := ()
def PySem.W.Fast.tw1351177437793154085 : Unit := ()
def PySem.W.Fast.tw1717297318302232636 : Unit := ()
def PySem.W.Fast.tw9875369737821410836 : Unit := ()
def PySem.W.Fast.tw18244534221451769050 : Unit := ()
def PySem.W.Fast.tw9141311369311143348 : Unit := ()
def PySem.W.Fast.tw10181323062487512845 : Unit := ()
def PySem.W.Fast.tw9011010065409336097 : Unit := ()
def PySem.W.Fast.tw351706348678233611 : Unit := ()
def PySem.W.Fast.tw10000762814703532224 : Unit := ()
def PySem.W.Fast.tw12691636602451175656 : Unit := ()
def PySem.W.Fast.tw11143153088159581020 : Unit := ()
def PySem.W.Fast.tw17373015049850331361 : Unit := ()
def PySem.W.Fast.tw1911610482670949280 : Unit := ()
def PySem.W.Fast.tw14499742683957966856 : Unit := ()
def PySem.W.Fast.tw5525101034701808936 : Unit := ()
def PySem.W.Fast.tw7547094493555536453 : Unit := ()
def PySem.W.Fast.tw7466567428941037605 : Unit := ()
def PySem.W.Fast.tw12734216367604092508 : Unit := ()
def PySem.W.Fast.tw10588514613246030616 : Unit := ()
def PySem.W.Fast.tw6309067439598361972 : Unit := ()
def PySem.W.Fast.tw9851943984663828400 : Unit := ()
def PySem.W.Fast.tw18135968440396022833 : Unit := ()
def PySem.W.Fast.tw10027988486452835502 : Unit := ()
def PySem.W.Fast.tw2616988942841618144 : Unit := ()
def PySem.W.Fast.tw16584375570994412570 : Unit := ()
def PySem.W.Fast.tw2530994679392648711 : Unit := ()
def PySem.W.Fast.tw298888190377589550 : Unit := ()
def PySem.W.Fast.tw10606915662016574188 : Unit := ()
def PySem.W.Fast.tw2697568599728498311 : Unit := ()
def PySem.W.Fast.tw13067508159930174256 : Unit := ()
def PySem.W.Fast.tw9430637797908843987 : Unit := ()
def PySem.W.Fast.tw15174324125384344273 : Unit := ()
def PySem.W.Fast.tw305245097405702706 : Unit := ()
def PySem.W.Fast.tw2636022086299586175 : Unit := ()
def PySem.W.Fast.tw8795340551464982645 : Unit := ()
def PySem.W.Fast.tw953943864201473999 : Unit := ()
def PySem.W.Fast.tw3968989539805472093 : Unit := ()
def PySem.W.Fast.tw18060992743062330809 : Unit := ()
def PySem.W.Fast.tw5275741240836375140 : Unit := ()
def PySem.W.Fast.tw13233315305818820604 : Unit := ()
def PySem.W.Fast.tw11666654752676839986 : Unit := ()
def PySem.W.Fast.tw15234477605698389824 : Unit := ()
def PySem.W.Fast.tw6995491286688288252 : Unit := ()
def PySem.W.Fast.tw7721445093201855619 : Unit := ()
def PySem.W.Fast.tw10495398092389850434 : Unit := ()
def PySem.W.Fast.tw17228136816353994223 : Unit := ()
def PySem.W.Fast.tw6988726089974756715 : Unit := ()
def PySem.W.Fast.tw7973247846736066445 : Unit := ()
def PySem.W.Fast.tw6191250479581654766 : Unit := ()
def PySem.W.Fast.tw6998308295058198030 : Unit := ()
def PySem.W.Fast.tw16346686433602330854 : Unit := ()
def PySem.W.Fast.tw6029401635929250282 : Unit := ()
def PySem.W.Fast.tw14723836837401329493 : Unit := ()
def PySem.W.Fast.tw14915437937080012562 : Unit := ()
def PySem.W.Fast.tw1569801080510346488 : Unit := ()
def PySem.W.Fast.tw18030625802854098792 : Unit := ()
def PySem.W.Fast.tw7072668015202378953 : Unit := ()
def PySem.W.Fast.tw4303235888047640433 : Unit := ()
def PySem.W.Fast.tw14470035641931719265 : Unit := ()
def PySem.W.Fast.tw1101923632520368425 : Unit := ()
def PySem.W.Fast.tw5998778039993443994 : Unit := ()
def PySem.W.Fast.tw14439173615809339295 : Unit := ()
def PySem.W.Fast.tw11247667698007257611 : Unit := ()
def PySem.W.Fast.tw11290737077078640105 : Unit := ()
def PySem.W.Fast.tw16911037330019930791 : Unit := ()
def PySem.W.Fast.tw13079088281252953253 : Unit := ()
def PySem.W.Fast.tw11620856733000545646 : Unit := ()
def PySem.W.Fast.tw6371680559137622867 : Unit := ()
def PySem.W.Fast.tw6447089510779201938 : Unit := ()
def PySem.W.Fast.tw3224123256651484346 : Unit := ()
def PySem.W.Fast.tw13737068665648370085 : Unit := ()
def PySem.W.Fast.tw2450981163859448317 : Unit := ()
def PySem.W.Fast.tw8626663977603430896 : Unit := ()
def PySem.W.Fast.tw17981496609165630471 : Unit := ()
def PySem.W.Fast.tw13008404366448331158 : Unit := ()
def PySem.W.Fast.tw14816892600106318532 : Unit := ()
def PySem.W.Fast.tw8176057285979420854 : Unit := ()
def PySem.W.Fast.tw8883342004868147919 : Unit := ()
def PySem.W.Fast.tw8960016917297346736 : Unit := ()
def PySem.W.Fast.tw9520549335032514906 : Unit := ()
def PySem.W.Fast.tw15991486470035083993 : Unit := ()
def PySem.W.Fast.tw12781439293553588072 : Unit := ()
def PySem.W.Fast.tw16142843137101651581 : Unit := ()
def PySem.W.Fast.tw7837339243588965334 : Unit := ()
def PySem.W.Fast.tw18062489877606795815 : Unit := ()
def PySem.W.Fast.tw6505391434145831922 : Unit := ()
def PySem.W.Fast.tw14177734290852257503 : Unit := ()
def PySem.W.Fast.tw7597886693917989723 : Unit := ()
def PySem.W.Fast.tw12620497989206306666 : Unit := ()
def PySem.W.Fast.tw10985920306683661706 : Unit := ()
def PySem.W.Fast.tw748647024549968847 : Unit := ()
def PySem.W.Fast.tw9144658894164078124 : Unit := ()
def PySem.W.Fast.tw6850566462652164646 : Unit := ()
def PySem.W.Fast.tw14074970860525200449 : Unit := ()
def PySem.W.Fast.tw10491439921447111308 : Unit := ()
def PySem.W.Fast.tw4551825700238294712 : Unit := ()
def PySem.W.Fast.tw6633264753383890727 : Unit := ()
def PySem.W.Fast.tw1630815587307287244 : Unit := ()
def PySem.W.Fast.tw12262117539366996231 : Unit := ()
def PySem.W.Fast.tw15950675491545564147 : Unit := ()
def PySem.W.Fast.tw8795825589263751789 : Unit := ()
def PySem.W.Fast.tw514167065883908821 : Unit := ()
def PySem.W.Fast.tw169902436924240245 : Unit := ()
def PySem.W.Fast.tw5136207241399447966 : Unit := ()
def PySem.W.Fast.tw16918432457744872430 : Unit := ()
def PySem.W.Fast.tw12193340115991128222 : Unit := ()
def PySem.W.Fast.tw5459735108552240194 : Unit := ()
def PySem.W.Fast.tw6080651137524828264 : Unit := ()
def PySem.W.Fast.tw7744030871713664747 : Unit := ()
def PySem.W.Fast.tw10376281286732338857 : Unit := ()
def PySem.W.Fast.tw14894849064243010203 : Unit := ()
def PySem.W.Fast.tw1161480522760380632 : Unit := ()
def PySem.W.Fast.tw1169138234322661104 : Unit := ()
def PySem.W.Fast.tw1112938415464423788 : Unit := ()
def PySem.W.Fast.tw14777960051408262575 : Unit := ()
def PySem.W.Fast.tw4984862154555306013 : Unit := ()
def PySem.W.Fast.tw2841430123993510265 : Unit := ()
def PySem.W.Fast.tw11089424805375824231 : Unit := ()
def PySem.W.Fast.tw11093816466865583871 : Unit := ()
def PySem.W.Fast.tw14176629779411451552 : Unit := ()
def PySem.W.Fast.tw8654901258687435877 : Unit := ()
def PySem.W.Fast.tw3085939954276796248 : Unit := ()
def PySem.W.Fast.tw5931042009719442762 : Unit := ()
def PySem.W.Fast.tw4918139616157926810 : Unit := ()
def PySem.W.Fast.tw16673664115799604352 : Unit := ()
def PySem.W.Fast.tw8424556790775701402 : Unit := ()
def PySem.W.Fast.tw7194826684630389336 : Unit := ()
def PySem.W.Fast.tw17805880449567691496 : Unit := ()
def PySem.W.Fast.tw1073672602938486156 : Unit := ()
def PySem.W.Fast.tw8382708954930148394 : Unit := ()
def PySem.W.Fast.tw13025425836295398825 : Unit := ()
def PySem.W.Fast.tw15559102898380312771 : Unit := ()
def PySem.W.Fast.tw2915150497547130636 : Unit := ()
def PySem.W.Fast.tw6737897839741629812 : Unit := ()
def PySem.W.Fast.tw4167908982900347199 : Unit := ()
def PySem.W.Fast.tw6883312490096220703 : Unit := ()
def PySem.W.Fast.tw11974009403368333449 : Unit := ()
def PySem.W.Fast.tw14325065783861448651 : Unit := ()
def PySem.W.Fast.tw1790083342346334519 : Unit := ()
def PySem.W.Fast.tw6406755567664466175 : Unit := ()
def PySem.W.Fast.tw502974471036061460 : Unit := ()
def PySem.W.Fast.tw18311005167208727780 : Unit := ()
def PySem.W.Fast.tw5265416622956583062 : Unit := ()
def PySem.W.Fast.tw5395317496857674619 : Unit := ()
def PySem.W.Fast.tw982645929582742657 : Unit := ()
def PySem.W.Fast.tw3076059403656560000 : Unit := ()
def PySem.W.Fast.tw14542061952325581582 : Unit := ()
def PySem.W.Fast.tw17788601622054503891 : Unit := ()
def PySem.W.Fast.tw7017744420078189763 : Unit := ()
def PySem.W.Fast.tw12172004961988932661 : Unit := ()
def PySem.W.Fast.tw18086548662813313250 : Unit := ()
def PySem.W.Fast.tw9437777353713138132 : Unit := ()
def PySem.W.Fast.tw4271738096295806575 : Unit := ()
def PySem.W.Fast.tw5030980760182219358 : Unit := ()
def PySem.W.Fast.tw3960880410973088754 : Unit := ()
def PySem.W.Fast.tw5318491447060918117 : Unit := ()
def PySem.W.Fast.tw4916288194299681799 : Unit := ()
def PySem.W.Fast.tw8790614991659718616 : Unit := ()
def PySem.W.Fast.tw11496769012765209695 : Unit := ()
def PySem.W.Fast.tw7416596579590662852 : Unit := ()
def PySem.W.Fast.tw4692399783214006010 : Unit := ()
def PySem.W.Fast.tw9133895622187022472 : Unit := ()
def PySem.W.Fast.tw6731018250766237327 : Unit := ()
def PySem.W.Fast.tw1784834569633005451 : Unit := ()
def PySem.W.Fast.tw9597089072162149472 : Unit := ()
def PySem.W.Fast.tw1294982238822025745 : Unit := ()
def PySem.W.Fast.tw10952766454190257818 : Unit := ()
def PySem.W.Fast.tw648488675099161860 : Unit := ()
def PySem.W.Fast.tw1571471957241149174 : Unit := ()
def PySem.W.Fast.tw15338148498480095245 : Unit := ()
def PySem.W.Fast.tw4076501265218980298 : Unit := ()
def PySem.W.Fast.tw4373447620945871831 : Unit := ()
def PySem.W.Fast.tw12686694225431576405 : Unit := ()
def PySem.W.Fast.tw4575172797652032249 : Unit := ()
def PySem.W.Fast.tw10621235284369813057 : Unit := ()
def PySem.W.Fast.tw11897806882086897992 : Unit := ()
def PySem.W.Fast.tw16328066165313836880 : Unit := ()
def PySem.W.Fast.tw1870351940549368368 : Unit := ()
def PySem.W.Fast.tw15057646537282950729 : Unit := ()
def PySem.W.Fast.tw18022110584883758870 : Unit := ()
def PySem.W.Fast.tw18440920570510934924 : Unit := ()
def PySem.W.Fast.tw5516668688627407173 : Unit := ()
def PySem.W.Fast.tw15935447859177831278 : Unit := ()
def PySem.W.Fast.tw11126914345605200436 : Unit := ()
def PySem.W.Fast.tw13536879073337536007 : Unit := ()
def PySem.W.Fast.tw12618531362182152259 : Unit := ()
def PySem.W.Fast.tw6642594500048126982 : Unit := ()
def PySem.W.Fast.tw16010651696993310696 : Unit := ()
def PySem.W.Fast.tw18247259004737578800 : Unit := ()
def PySem.W.Fast.tw9987069866972736163 : Unit := ()
def PySem.W.Fast.tw6191735833525410311 : Unit := ()
def PySem.W.Fast.tw1405731792206791676 : Unit := ()
def PySem.W.Fast.tw12234308773457859193 : Unit := ()
def PySem.W.Fast.tw17689973387311782045 : Unit := ()
def PySem.W.Fast.tw14586841743852669750 : Unit := ()
def PySem.W.Fast.tw4069535118966170611 : Unit := ()
def PySem.W.Fast.tw987749517083961495 : Unit := ()
def PySem.W.Fast.tw8532557496118151182 : Unit := ()
def PySem.W.Fast.tw16754251618543397679 : Unit := ()
def PySem.W.Fast.tw10544032130809752459 : Unit := ()
def PySem.W.Fast.tw9620162880516058536 : Unit := ()
def PySem.W.Fast.tw4181403658709464318 : Unit := ()
def PySem.W.Fast.tw17426578490943963969 : Unit := ()
def PySem.W.Fast.tw2470935536883176450 : Unit := ()
def PySem.W.Fast.tw12036089912651713655 : Unit := ()
def PySem.W.Fast.tw16499881762268736822 : Unit := ()
def PySem.W.Fast.tw11461834278915983797 : Unit := ()
def PySem.W.Fast.tw3253188763671370391 : Unit := ()
def PySem.W.Fast.tw1731413181863053370 : Unit := ()
def PySem.W.Fast.tw16223315059722208224 : Unit := ()
def PySem.W.Fast.tw13013182763928113038 : Unit := ()
def PySem.W.Fast.tw3454890433002800802 : Unit := ()
def PySem.W.Fast.tw9207130001261493657 : Unit := ()
def PySem.W.Fast.tw5817483338722586579 : Unit := ()
def PySem.W.Fast.tw9887250568644938155 : Unit := ()
def PySem.W.Fast.tw4703437791653903782 : Unit := ()
def PySem.W.Fast.tw9747796871459149310 : Unit := ()
def PySem.W.Fast.tw4755106154111582512 : Unit := ()
def PySem.W.Fast.tw5807981326457673888 : Unit := ()
def PySem.W.Fast.tw14565031882609965411 : Unit := ()
def PySem.W.Fast.tw9882067793319148541 : Unit := ()
def PySem.W.Fast.tw11555425274787742217 : Unit := ()
def PySem.W.Fast.tw13543758016070030948 : Unit := ()
def PySem.W.Fast.tw6893041347985106910 : Unit := ()
def PySem.W.Fast.tw4011561597522127862 : Unit := ()
def PySem.W.Fast.tw66621942297378555 : Unit := ()
def PySem.W.Fast.tw1541447195372345670 : Unit := ()
def PySem.W.Fast.tw6838278722465213533 : Unit := ()
def PySem.W.Fast.tw12333511965814607808 : Unit := ()
def PySem.W.Fast.tw14982837574792172156 : Unit := ()
def PySem.W.Fast.tw2879306636850386846 : Unit := ()
def PySem.W.Fast.tw12978976359249906112 : Unit := ()
def PySem.W.Fast.tw12939093925127995982 : Unit := ()
def PySem.W.Fast.tw14754079756663851329 : Unit := ()
def PySem.W.Fast.tw1476988218557225286 : Unit := ()
def PySem.W.Fast.tw14748884703731518864 : Unit := ()
def PySem.W.Fast.tw7432096936415952094 : Unit := ()
def PySem.W.Fast.tw17229528483890389730 : Unit := ()
def PySem.W.Fast.tw7351479247841046962 : Unit := ()
def PySem.W.Fast.tw14644367569237718607 : Unit := ()
def PySem.W.Fast.tw7541598027480312230 : Unit := ()
def PySem.W.Fast.tw11015332920648482540 : Unit := ()
def PySem.W.Fast.tw2599257010975145307 : Unit := ()
def PySem.W.Fast.tw11704150015211444689 : Unit := ()
def PySem.W.Fast.tw9150716155944316860 : Unit := ()
def PySem.W.Fast.tw17342260767574967727 : Unit := ()
def PySem.W.Fast.tw11059886245388407009 : Unit := ()
def PySem.W.Fast.tw15166554499105686828 : Unit := ()
def PySem.W.Fast.tw4581856541201140024 : Unit := ()
def PySem.W.Fast.tw13130202193391281862 : Unit := ()
def PySem.W.Fast.tw17231433917859500743 : Unit := ()
def PySem.W.Fast.tw602539747481799158 : Unit := ()
def PySem.W.Fast.tw14182880902737663549 : Unit := ()
def PySem.W.Fast.tw10331842292161331576 : Unit := ()
def PySem.W.Fast.tw16665124212330805264 : Unit := ()
def PySem.W.Fast.tw15991844275710771939 : Unit := ()
def PySem.W.Fast.tw14737056981590442252 : Unit := ()
def PySem.W.Fast.tw13860116615171032855 : Unit := ()
def PySem.W.Fast.tw16709344805062537669 : Unit := ()
def PySem.W.Fast.tw11139787098783745978 : Unit := ()
def PySem.W.Fast.tw992456074975133139 : Unit := ()
def PySem.W.Fast.tw4567417837564061811 : Unit := ()
def PySem.W.Fast.tw11333227117850156267 : Unit := ()
def PySem.W.Fast.tw4616702421514633619 : Unit := ()
def PySem.W.Fast.tw16670112884436436780 : Unit := ()
def PySem.W.Fast.tw8592310560299725663 : Unit := ()
def PySem.W.Fast.tw11168023575852026484 : Unit := ()
def PySem.W.Fast.tw14791861781721936965 : Unit := ()
def PySem.W.Fast.tw1002721924806194068 : Unit := ()
def PySem.W.Fast.tw17483437192290072799 : Unit := ()
def PySem.W.Fast.tw10314287128887905616 : Unit := ()
def PySem.W.Fast.tw15170857798232020229 : Unit := ()
def PySem.W.Fast.tw16838515619035213504 : Unit := ()
def PySem.W.Fast.tw10830152967865727855 : Unit := ()
def PySem.W.Fast.tw13222554494572044647 : Unit := ()
def PySem.W.Fast.tw14297365273392971818 : Unit := ()
def PySem.W.Fast.tw8417644557404340820 : Unit := ()
def PySem.W.Fast.tw16086100540745966287 : Unit := ()
def PySem.W.Fast.tw10981409532386553846 : Unit := ()
def PySem.W.Fast.tw1827110697756732692 : Unit := ()
def PySem.W.Fast.tw16715013171570041490 : Unit := ()
def PySem.W.Fast.tw13991274985356338503 : Unit := ()
def PySem.W.Fast.tw10229374038638505642 : Unit := ()
def PySem.W.Fast.tw10218982555404029110 : Unit := ()
def PySem.W.Fast.tw10827687516102169922 : Unit := ()
def PySem.W.Fast.tw1550808063682649025 : Unit := ()
def PySem.W.Fast.tw5024179861285908388 : Unit := ()
def PySem.W.Fast.tw2205006476021361952 : Unit := ()
def PySem.W.Fast.tw4855644244414470765 : Unit := ()
def PySem.W.Fast.tw10449374049407044871 : Unit := ()
def PySem.W.Fast.tw2919160754269153234 : Unit := ()
def PySem.W.Fast.tw162860658250742127 : Unit := ()
def PySem.W.Fast.tw8190862487150510237 : Unit := ()
def PySem.W.Fast.tw16545474584740691106 : Unit := ()
def PySem.W.Fast.tw9901910853528889284 : Unit := ()
def PySem.W.Fast.tw8454026682191107433 : Unit := ()
def PySem.W.Fast.tw12035189938529335774 : Unit := ()
def PySem.W.Fast.tw11051585408463678792 : Unit := ()
def PySem.W.Fast.tw2211707559413809925 : Unit := ()
def PySem.W.Fast.tw16881288683810617616 : Unit := ()
def PySem.W.Fast.tw4684203366526206062 : Unit := ()
def PySem.W.Fast.tw4466518411929004479 : Unit := ()
def PySem.W.Fast.tw3131201773993797991 : Unit := ()
def PySem.W.Fast.tw3025869290810861534 : Unit := ()
def PySem.W.Fast.tw9297268554905399693 : Unit := ()
def PySem.W.Fast.tw5281483384613077632 : Unit := ()
def PySem.W.Fast.tw6252289349390956505 : Unit := ()
def PySem.W.Fast.tw10010181049875275985 : Unit := ()
def PySem.W.Fast.tw8670415030621533909 : Unit := ()
def PySem.W.Fast.tw15590753707274759619 : Unit := ()
def PySem.W.Fast.tw3159256354607695522 : Unit := ()
def PySem.W.Fast.tw6268141393044059727 : Unit := ()
def PySem.W.Fast.tw10646377049085803179 : Unit := ()
def PySem.W.Fast.tw3254425766779222837 : Unit := ()
def PySem.W.Fast.tw3117395770862091710 : Unit := ()
def PySem.W.Fast.tw1736904007148417150 : Unit := ()
def PySem.W.Fast.tw2835487992090009756 : Unit := ()
def PySem.W.Fast.tw8790360576364039737 : Unit := ()
def PySem.W.Fast.tw4667795113866577439 : Unit := ()
def PySem.W.Fast.tw1688641774193463075 : Unit := ()
def PySem.W.Fast.tw4497539303738367955 : Unit := ()
def PySem.W.Fast.tw12897809905664305836 : Unit := ()
def PySem.W.Fast.tw11509860299905155521 : Unit := ()
def PySem.W.Fast.tw13546869953032375073 : Unit := ()
def PySem.W.Fast.tw13051182949008839869 : Unit := ()
def PySem.W.Fast.tw14204956447004036915 : Unit := ()
def PySem.W.Fast.tw8618789450245007181 : Unit := ()
def PySem.W.Fast.tw9584560465825384070 : Unit := ()
def PySem.W.Fast.tw3152004783073269309 : Unit := ()
def PySem.W.Fast.tw8804201856028756896 : Unit := ()
def PySem.W.Fast.tw1837710942224018108 : Unit := ()
def PySem.W.Fast.tw14734425775382473774 : Unit := ()
def PySem.W.Fast.tw17318739871330088595 : Unit := ()
def PySem.W.Fast.tw9442183270828962275 : Unit := ()
def PySem.W.Fast.tw16585064225870515852 : Unit := ()
def PySem.W.Fast.tw5536951554925150168 : Unit := ()
def PySem.W.Fast.tw6959285013710824326 : Unit := ()
def PySem.W.Fast.tw9982190431533495028 : Unit := ()
def PySem.W.Fast.tw13908852472321432497 : Unit := ()
def PySem.W.Fast.tw13221708687320701836 : Unit := ()
def PySem.W.Fast.tw7345300545152733002 : Unit := ()
def PySem.W.Fast.tw3667117161024003704 : Unit := ()
def PySem.W.Fast.tw2143668358645985877 : Unit := ()
def PySem.W.Fast.tw15085311685937814533 : Unit := ()
def PySem.W.Fast.tw8125836466235325925 : Unit := ()
def PySem.W.Fast.tw9557089390854372041 : Unit := ()
def PySem.W.Fast.tw15580484050653036778 : Unit := ()
def PySem.W.Fast.tw778910497674023029 : Unit := ()
def PySem.W.Fast.tw13267366026573081283 : Unit := ()
def PySem.W.Fast.tw15472581261867421717 : Unit := ()
def PySem.W.Fast.tw14605314540870680575 : Unit := ()
def PySem.W.Fast.tw17924588692462783322 : Unit := ()
def PySem.W.Fast.tw4831049799388418038 : Unit := ()
def PySem.W.Fast.tw3755232497152511795 : Unit := ()
def PySem.W.Fast.tw11852101120807545176 : Unit := ()
def PySem.W.Fast.tw6131488543209857956 : Unit := ()
def PySem.W.Fast.tw12676701489263616857 : Unit := ()
def PySem.W.Fast.tw4226111890158810128 : Unit := ()
def PySem.W.Fast.tw13282328811114753538 : Unit := ()
def PySem.W.Fast.tw14296235212648543332 : Unit := ()
def PySem.W.Fast.tw275217898321218988 : Unit := ()
def PySem.W.Fast.tw17332959514016205726 : Unit := ()
def PySem.W.Fast.tw8833687259624382738 : Unit := ()
def PySem.W.Fast.tw17931589615361548700 : Unit := ()
def PySem.W.Fast.tw10291368633057428679 : Unit := ()
def PySem.W.Fast.tw10989588910430175957 : Unit := ()
def PySem.W.Fast.tw6861539428265099944 : Unit := ()
def PySem.W.Fast.tw14191061699399115229 : Unit := ()
def PySem.W.Fast.tw17806019706668145103 : Unit := ()
def PySem.W.Fast.tw2351438564195848026 : Unit := ()
def PySem.W.Fast.tw4930205926961987918 : Unit := ()
def PySem.W.Fast.tw7050166665035847359 : Unit := ()
def PySem.W.Fast.tw16138151293472050858 : Unit := ()
def PySem.W.Fast.tw16455727728140631105 : Unit := ()
def PySem.W.Fast.tw4309882945067758157 : Unit := ()
def PySem.W.Fast.tw9915891241967863380 : Unit := ()
def PySem.W.Fast.tw16598335574699802506 : Unit := ()
def PySem.W.Fast.tw17692483360687542037 : Unit := ()
def PySem.W.Fast.tw1137136239649326363 : Unit := ()
def PySem.W.Fast.tw16395866801102751042 : Unit := ()
def PySem.W.Fast.tw3242490521821716988 : Unit := ()
def PySem.W.Fast.tw1796666796347243935 : Unit := ()
def PySem.W.Fast.tw6579019797454557434 : Unit := ()
def PySem.W.Fast.tw7621246387592262027 : Unit := ()
def PySem.W.Fast.tw3168115774843361772 : Unit := ()
def PySem.W.Fast.tw12162487277840785129 : Unit := ()
def PySem.W.Fast.tw1485825340574725075 : Unit := ()
def PySem.W.Fast.tw16938583143691676913 : Unit := ()
def PySem.W.Fast.tw2114665704819850744 : Unit := ()
def PySem.W.Fast.tw8190994586916973509 : Unit := ()
def PySem.W.Fast.tw2291247065024648360 : Unit := ()
def PySem.W.Fast.tw17201948553375207539 : Unit := ()
def PySem.W.Fast.tw4167112291990579186 : Unit := ()
def PySem.W.Fast.tw9726278027252341783 : Unit := ()
def PySem.W.Fast.tw9880278938284256099 : Unit := ()
def PySem.W.Fast.tw7594771340967635493 : Unit := ()
def PySem.W.Fast.tw3829868853348146007 : Unit := ()
def PySem.W.Fast.tw15087418312748781606 : Unit := ()
def PySem.W.Fast.tw17068597899403965218 : Unit := ()
def PySem.W.Fast.tw4010229720112532950 : Unit := ()
def PySem.W.Fast.tw1292200289108633469 : Unit := ()
def PySem.W.Fast.tw17323735363851910124 : Unit := ()
def PySem.W.Fast.tw608593361078119102 : Unit := ()
def PySem.W.Fast.tw9213530575604415258 : Unit := ()
def PySem.W.Fast.tw16382676874775237081 : Unit := ()
def PySem.W.Fast.tw3556240335021052251 : Unit := ()
def PySem.W.Fast.tw5880186892867226253 : Unit := ()
def PySem.W.Fast.tw3079539189963941432 : Unit := ()
def PySem.W.Fast.tw15569314105279927460 : Unit := ()
def PySem.W.Fast.tw10566891146216610497 : Unit := ()
def PySem.W.Fast.tw5853963211668184576 : Unit := ()
def PySem.W.Fast.tw8219841481317959716 : Unit := ()
def PySem.W.Fast.tw9579883581612915068 : Unit := ()
def PySem.W.Fast.tw3050318473765279443 : Unit := ()
def PySem.W.Fast.tw8650100147617556973 : Unit := ()
def PySem.W.Fast.tw873084516313475155 : Unit := ()
def PySem.W.Fast.tw2224772208026062150 : Unit := ()
def PySem.W.Fast.tw14112453757714929943 : Unit := ()
def PySem.W.Fast.tw7134852702622513596 : Unit := ()
def PySem.W.Fast.tw9309634144891581822 : Unit := ()
def PySem.W.Fast.tw18331748215678789929 : Unit := ()
def PySem.W.Fast.tw8092464284819284423 : Unit := ()
def PySem.W.Fast.tw18311477432902607905 : Unit := ()
def PySem.W.Fast.tw17657150194508536228 : Unit := ()
def PySem.W.Fast.tw14282319443723447502 : Unit := ()
def PySem.W.Fast.tw16301371452770253016 : Unit := ()
def PySem.W.Fast.tw152168146285762768 : Unit := ()
def PySem.W.Fast.tw6651172613092483802 : Unit := ()
def PySem.W.Fast.tw18218708834276251388 : Unit := ()
def PySem.W.Fast.tw11858844251377656491 : Unit := ()
def PySem.W.Fast.tw11476334311232673537 : Unit := ()
def PySem.W.Fast.tw2276736437918986859 : Unit := ()
def PySem.W.Fast.tw17569942944475422151 : Unit := ()
def PySem.W.Fast.tw2408219283400200257 : Unit := ()
def PySem.W.Fast.tw16543777420645868919 : Unit := ()
def PySem.W.Fast.tw574604484619501370 : Unit := ()
def PySem.W.Fast.tw1259066986333152761 : Unit := ()
def PySem.W.Fast.tw11968396822435659264 : Unit := ()
def PySem.W.Fast.tw10085946175706730464 : Unit := ()
def PySem.W.Fast.tw8564094324786364500 : Unit := ()
def PySem.W.Fast.tw7131454780101613248 : Unit := ()
def PySem.W.Fast.tw4684653804401573414 : Unit := ()
def PySem.W.Fast.tw7932730203154772003 : Unit := ()
def PySem.W.Fast.tw8705870133240295291 : Unit := ()
def PySem.W.Fast.tw1834315438572034605 : Unit := ()
def PySem.W.Fast.tw3101486494168431131 : Unit := ()
def PySem.W.Fast.tw12443938522969951900 : Unit := ()
def PySem.W.Fast.tw10408170034719163681 : Unit := ()
def PySem.W.Fast.tw3489978725757182124 : Unit := ()
def PySem.W.Fast.tw8667453510124949394 : Unit := ()
def PySem.W.Fast.tw16236533526757340326 : Unit := ()
def PySem.W.Fast.tw1734420530612260923 : Unit := ()
def PySem.W.Fast.tw7390055162742074598 : Unit := ()
def PySem.W.Fast.tw10079560599247341253 : Unit := ()
def PySem.W.Fast.tw12579574970543297271 : Unit := ()
def PySem.W.Fast.tw2412431592841292423 : Unit := ()
def PySem.W.Fast.tw12746496434397914350 : Unit := ()
def PySem.W.Fast.tw8949856162843629398 : Unit := ()
def PySem.W.Fast.tw5764622641204496487 : Unit := ()
def PySem.W.Fast.tw818094341983365145 : Unit := ()
def PySem.W.Fast.tw4080640014754248554 : Unit := ()
def PySem.W.Fast.tw1193063892140290991 : Unit := ()
def PySem.W.Fast.tw11344083207487519379 : Unit := ()
def PySem.W.Fast.tw14035049523880983617 : Unit := ()
def PySem.W.Fast.tw11704056067609827682 : Unit := ()
def PySem.W.Fast.tw17799367322167457431 : Unit := ()
def PySem.W.Fast.tw10918550939998266644 : Unit := ()
def PySem.W.Fast.tw7710354700435896432 : Unit := ()
def PySem.W.Fast.tw14146580418653355827 : Unit := ()
def PySem.W.Fast.tw16351053690415524658 : Unit := ()
def PySem.W.Fast.tw15666474705943954786 : Unit := ()
def PySem.W.Fast.tw10910181607325072432 : Unit := ()
def PySem.W.Fast.tw5140335922754721434 : Unit := ()
def PySem.W.Fast.tw5929088593066367579 : Unit := ()
def PySem.W.Fast.tw7732595785980155141 : Unit := ()
def PySem.W.Fast.tw3543389000625942589 : Unit := ()
def PySem.W.Fast.tw12552347625189120761 : Unit := ()
def PySem.W.Fast.tw13384416069352606720 : Unit := ()
def PySem.W.Fast.tw2418079000715498217 : Unit := ()
def PySem.W.Fast.tw15674213335969751730 : Unit := ()
def PySem.W.Fast.tw1454276497716190593 : Unit := ()
def PySem.W.Fast.tw17501999467836539399 : Unit := ()
def PySem.W.Fast.tw14571076309534413484 : Unit := ()
def PySem.W.Fast.tw1709713527189235167 : Unit := ()
def PySem.W.Fast.tw17779012297591773199 : Unit := ()
def PySem.W.Fast.tw6330524315268325646 : Unit := ()
def PySem.W.Fast.tw17502878726165871145 : Unit := ()
def PySem.W.Fast.tw4891182709771700544 : Unit := ()
def PySem.W.Fast.tw6424464110774272229 : Unit := ()
def PySem.W.Fast.tw12037781563593208375 : Unit := ()
def PySem.W.Fast.tw15527311928011031309 : Unit := ()
def PySem.W.Fast.tw1944568850069326215 : Unit := ()
def PySem.W.Fast.tw15875449427554189332 : Unit := ()
def PySem.W.Fast.tw48333328607069352 : Unit := ()
def PySem.W.Fast.tw192261997311017807 : Unit := ()
def PySem.W.Fast.tw7029428615720144058 : Unit := ()
def PySem.W.Fast.tw4939220361958295814 : Unit := ()
def PySem.W.Fast.tw13406108455584712536 : Unit := ()
def PySem.W.Fast.tw5583903212876323123 : Unit := ()
def PySem.W.Fast.tw4497142641990321568 : Unit := ()
def PySem.W.Fast.tw256597663743247308 : Unit := ()
def PySem.W.Fast.tw2758395533126166290 : Unit := ()
def PySem.W.Fast.tw5008408529513596856 : Unit := ()
def PySem.W.Fast.tw4120492700136182051 : Unit := ()
def PySem.W.Fast.tw7147291972135978323 : Unit := ()
def PySem.W.Fast.tw12722444547203911223 : Unit := ()
def PySem.W.Fast.tw7232533698333607825 : Unit := ()
def PySem.W.Fast.tw17958112324691736640 : Unit := ()
def PySem.W.Fast.tw1437488471660729564 : Unit := ()
def PySem.W.Fast.tw16221581511448635123 : Unit := ()
def PySem.W.Fast.tw8786171264127862162 : Unit := ()
def PySem.W.Fast.tw2719019898511946587 : Unit := ()
def PySem.W.Fast.tw1061795726678244271 : Unit := ()
def PySem.W.Fast.tw16198637437689035260 : Unit := ()
def PySem.W.Fast.tw15203501812519053639 : Unit := ()
def PySem.W.Fast.tw8649683464171772266 : Unit := ()
def PySem.W.Fast.tw14065040329823967969 : Unit := ()
def PySem.W.Fast.tw14301149228392650426 : Unit := ()
def PySem.W.Fast.tw781779679299943499 : Unit := ()
def PySem.W.Fast.tw1299967667656113706 : Unit := ()
def PySem.W.Fast.tw2623967603619863766 : Unit := ()
def PySem.W.Fast.tw3687683440588406040 : Unit := ()
def PySem.W.Fast.tw4806929243094978873 : Unit := ()
def PySem.W.Fast.tw3058046749168526559 : Unit := ()
def PySem.W.Fast.tw12300627196099290045 : Unit := ()
def PySem.W.Fast.tw13083135772245552266 : Unit := ()
def PySem.W.Fast.tw128172780448036858 : Unit := ()
def PySem.W.Fast.tw9102449382809079148 : Unit := ()
def PySem.W.Fast.tw9806025387590007824 : Unit := ()
def PySem.W.Fast.tw726383482580713528 : Unit := ()
def PySem.W.Fast.tw6905853770396090725 : Unit := ()
def PySem.W.Fast.tw16513816737680331707 : Unit := ()
def PySem.W.Fast.tw13600179745878234396 : Unit := ()
def PySem.W.Fast.tw16969380542901143098 : Unit := ()
def PySem.W.Fast.tw1729606318280029559 : Unit := ()
def PySem.W.Fast.tw11953030392855176100 : Unit := ()
def PySem.W.Fast.tw8368041497852792353 : Unit := ()
def PySem.W.Fast.tw16894730978267794025 : Unit := ()
def PySem.W.Fast.tw1686106366731506620 : Unit := ()
def PySem.W.Fast.tw1708956253981408475 : Unit := ()
def PySem.W.Fast.tw4064188490864102392 : Unit := ()
def PySem.W.Fast.tw10692389075888787410 : Unit := ()
def PySem.W.Fast.tw17795578969757217456 : Unit := ()
def PySem.W.Fast.tw62935189541840467 : Unit := ()
def PySem.W.Fast.tw10854061238188246858 : Unit := ()
def PySem.W.Fast.tw6872061257472881096 : Unit := ()
def PySem.W.Fast.tw14532643979186002241 : Unit := ()
def PySem.W.Fast.tw15402715359003610659 : Unit := ()
def PySem.W.Fast.tw10522005890524348918 : Unit := ()
def PySem.W.Fast.tw13841051158793802488 : Unit := ()
def PySem.W.Fast.tw5313126345756795791 : Unit := ()
def PySem.W.Fast.tw16915948135794471983 : Unit := ()
def PySem.W.Fast.tw18367492678210100372 : Unit := ()
def PySem.W.Fast.tw14558275113456571506 : Unit := ()
def PySem.W.Fast.tw15709670686256509931 : Unit := ()
def PySem.W.Fast.tw10100114442148429193 : Unit := ()
def PySem.W.Fast.tw377943762651660423 : Unit := ()
def PySem.W.Fast.tw11065680985899338315 : Unit := ()
def PySem.W.Fast.tw6654033788303191860 : Unit := ()
def PySem.W.Fast.tw11226359507089274803 : Unit := ()
def PySem.W.Fast.tw510905483678592053 : Unit := ()
def PySem.W.Fast.tw5634524594386575166 : Unit := ()
def PySem.W.Fast.tw10475367767455501272 : Unit := ()
def PySem.W.Fast.tw11627861081137911898 : Unit := ()
def PySem.W.Fast.tw10997675474619606261 : Unit := ()
def PySem.W.Fast.tw17692714887921292524 : Unit := ()
def PySem.W.Fast.tw1410633451014980656 : Unit := ()
def PySem.W.Fast.tw7325282232120462880 : Unit := ()
def PySem.W.Fast.tw17753108645408998352 : Unit := ()
def PySem.W.Fast.tw13014816271469457168 : Unit := ()
def PySem.W.Fast.tw522431257943723796 : Unit := ()
def PySem.W.Fast.tw4677975320776243065 : Unit := ()
def PySem.W.Fast.tw4494335623365390699 : Unit := ()
def PySem.W.Fast.tw3355866774143496959 : Unit := ()
def PySem.W.Fast.tw12838398243177092438 : Unit := ()
def PySem.W.Fast.tw10324120151307096210 : Unit := ()
def PySem.W.Fast.tw6915115770628378157 : Unit := ()
def PySem.W.Fast.tw11154748180269504728 : Unit := ()
def PySem.W.Fast.tw17764075640799515225 : Unit := ()
def PySem.W.Fast.tw5692367817484937672 : Unit := ()
def PySem.W.Fast.tw14858421310129950493 : Unit := ()
def PySem.W.Fast.tw18063196320587669751 : Unit := ()
def PySem.W.Fast.tw2158336936491720653 : Unit := ()
def PySem.W.Fast.tw6931123981604694154 : Unit := ()
def PySem.W.Fast.tw10478165024760164184 : Unit := ()
def PySem.W.Fast.tw4788991474431914592 : Unit := ()
def PySem.W.Fast.tw7417019491730850670 : Unit := ()
def PySem.W.Fast.tw1326411969308201404 : Unit := ()
def PySem.W.Fast.tw9828065244375517430 : Unit := ()
def PySem.W.Fast.tw15075587613690301728 : Unit := ()
def PySem.W.Fast.tw13363846186535957561 : Unit := ()
def PySem.W.Fast.tw10652940662514556998 : Unit := ()
def PySem.W.Fast.tw11269480095829875694 : Unit := ()
def PySem.W.Fast.tw13018684608990106497 : Unit := ()
def PySem.W.Fast.tw16143513975232188842 : Unit := ()
def PySem.W.Fast.tw960717260418104302 : Unit := ()
def PySem.W.Fast.tw17233874280897237308 : Unit := ()
def PySem.W.Fast.tw14329917884404992356 : Unit := ()
def PySem.W.Fast.tw1854124746379536508 : Unit := ()
def PySem.W.Fast.tw18120705009731384693 : Unit := ()
def PySem.W.Fast.tw15875897471144849724 : Unit := ()
def PySem.W.Fast.tw2628606529766197014 : Unit := ()
def PySem.W.Fast.tw9075505441697060287 : Unit := ()
def PySem.W.Fast.tw9038258943674542936 : Unit := ()
def PySem.W.Fast.tw7889789341248344576 : Unit := ()
def PySem.W.Fast.tw15543999878849908194 : Unit := ()
def PySem.W.Fast.tw8455845364515347770 : Unit := ()
def PySem.W.Fast.tw12796816041722083816 : Unit := ()
def PySem.W.Fast.tw506295327226587525 : Unit := ()
def PySem.W.Fast.tw7528067499063579526 : Unit := ()
def PySem.W.Fast.tw3413544516418741556 : Unit := ()
def PySem.W.Fast.tw2867256984339982601 : Unit := ()
def PySem.W.Fast.tw2110574191174098122 : Unit := ()
def PySem.W.Fast.tw10117379493597113382 : Unit := ()
def PySem.W.Fast.tw15482644242737459575 : Unit := ()
def PySem.W.Fast.tw779192819120360233 : Unit := ()
def PySem.W.Fast.tw16820876451933778842 : Unit := ()
def PySem.W.Fast.tw4957383653047912468 : Unit := ()
def PySem.W.Fast.tw18028778444750276706 : Unit := ()
def PySem.W.Fast.tw4634693002054303001 : Unit := ()
def PySem.W.Fast.tw15027633140771001798 : Unit := ()
def PySem.W.Fast.tw8753501284891278870 : Unit := ()
def PySem.W.Fast.tw5306458224608518329 : Unit := ()
def PySem.W.Fast.tw14646719707636319237 : Unit := ()
def PySem.W.Fast.tw15882745740352202146 : Unit := ()
def PySem.W.Fast.tw6093885338058747327 : Unit := ()
def PySem.W.Fast.tw3368278419241218516 : Unit := ()
def PySem.W.Fast.tw489223390577205129 : Unit := ()
def PySem.W.Fast.tw13147391709113899322 : Unit := ()
def PySem.W.Fast.tw4885449990171703777 : Unit := ()
def PySem.W.Fast.tw10603361173446315814 : Unit := ()
def PySem.W.Fast.tw2191637947736912649 : Unit := ()
def PySem.W.Fast.tw14657042241421762233 : Unit := ()
def PySem.W.Fast.tw6297140803013144586 : Unit := ()
def PySem.W.Fast.tw10527448827537774089 : Unit := ()
def PySem.W.Fast.tw7409267182066622248 : Unit := ()
def PySem.W.Fast.tw6087121647836292428 : Unit := ()
def PySem.W.Fast.tw13729112519602239314 : Unit := ()
def PySem.W.Fast.tw16304532855719848240 : Unit := ()
def PySem.W.Fast.tw11419475517778849843 : Unit := ()
def PySem.W.Fast.tw2893579062740575371 : Unit := ()
def PySem.W.Fast.tw5151803908824634784 : Unit := ()
def PySem.W.Fast.tw14248086288244757382 : Unit := ()
def PySem.W.Fast.tw11534007519886035733 : Unit := ()
def PySem.W.Fast.tw3587327986343327178 : Unit := ()
def PySem.W.Fast.tw12804624647298581373 : Unit := ()
def PySem.W.Fast.tw15241999393219887614 : Unit := ()
def PySem.W.Fast.tw14214538113920866419 : Unit := ()
def PySem.W.Fast.tw5237088959384002169 : Unit := ()
def PySem.W.Fast.tw21640366798373452 : Unit := ()
def PySem.W.Fast.tw16180581366721207787 : Unit := ()
def PySem.W.Fast.tw14362932123896041303 : Unit := ()
def PySem.W.Fast.tw2658473003157074073 : Unit := ()
def PySem.W.Fast.tw12408648747969513236 : Unit := ()
def PySem.W.Fast.tw2527975128703003185 : Unit := ()
def PySem.W.Fast.tw2358505119307191935 : Unit := ()
def PySem.W.Fast.tw12330184902043889310 : Unit := ()
def PySem.W.Fast.tw13662977456259624221 : Unit := ()
def PySem.W.Fast.tw4906093773095270241 : Unit := ()
def PySem.W.Fast.tw17506641362187997256 : Unit := ()
def PySem.W.Fast.tw13842004659123727622 : Unit := ()
def PySem.W.Fast.tw9523963211474082328 : Unit := ()
def PySem.W.Fast.tw6803059393367635485 : Unit := ()
def PySem.W.Fast.tw3753469309606925931 : Unit := ()
def PySem.W.Fast.tw11780072432134188479 : Unit := ()
def PySem.W.Fast.tw9604067401384609598 : Unit := ()
def PySem.W.Fast.tw11086101548677744109 : Unit := ()
def PySem.W.Fast.tw10141815364028385744 : Unit := ()
def PySem.W.Fast.tw15909085866519112180 : Unit := ()
def PySem.W.Fast.tw7316429081898692300 : Unit := ()
def PySem.W.Fast.tw11122892866718868963 : Unit := ()
def PySem.W.Fast.tw17845237847247898823 : Unit := ()
def PySem.W.Fast.tw5930557426438837562 : Unit := ()
def PySem.W.Fast.tw10808575478962311364 : Unit := ()
def PySem.W.Fast.tw5914109086291797288 : Unit := ()
def PySem.W.Fast.tw16426749823266596709 : Unit := ()
def PySem.W.Fast.tw2538107588201194172 : Unit := ()
def PySem.W.Fast.tw14332809793073183778 : Unit := ()
def PySem.W.Fast.tw9154965876681215896 : Unit := ()
def PySem.W.Fast.tw15273694942235849409 : Unit := ()
def PySem.W.Fast.tw15971951026812895834 : Unit := ()
def PySem.W.Fast.tw15914400633279586262 : Unit := ()
def PySem.W.Fast.tw4959696652239459812 : Unit := ()
def PySem.W.Fast.tw8885391043273682913 : Unit := ()
def PySem.W.Fast.tw631677310291434586 : Unit := ()
def PySem.W.Fast.tw5879149480443912665 : Unit := ()
def PySem.W.Fast.tw14539169835243470214 : Unit := ()
def PySem.W.Fast.tw16606182111537328713 : Unit := ()
def PySem.W.Fast.tw6133534065991998115 : Unit := ()
def PySem.W.Fast.tw13940140331686398530 : Unit := ()
def PySem.W.Fast.tw10030244269679972790 : Unit := ()
def PySem.W.Fast.tw1805438964147647144 : Unit := ()
def PySem.W.Fast.tw4050562656121592415 : Unit := ()
def PySem.W.Fast.tw6360907588483328518 : Unit := ()
def PySem.W.Fast.tw4198537836730670085 : Unit := ()
def PySem.W.Fast.tw12619064929785458717 : Unit := ()
def PySem.W.Fast.tw12767158127155221428 : Unit := ()
def PySem.W.Fast.tw2546597436609616147 : Unit := ()
def PySem.W.Fast.tw4702742181287945358 : Unit := ()
def PySem.W.Fast.tw5797787560931841462 : Unit := ()
def PySem.W.Fast.tw2674251777446295539 : Unit := ()
def PySem.W.Fast.tw4332525927341579707 : Unit := ()
def PySem.W.Fast.tw14300076211980931726 : Unit := ()
def PySem.W.Fast.tw17042160952292726618 : Unit := ()
def PySem.W.Fast.tw9109822168655999943 : Unit := ()
def PySem.W.Fast.tw8012888891742172977 : Unit := ()
def PySem.W.Fast.tw2977609589138786555 : Unit := ()
def PySem.W.Fast.tw9593756000987064229 : Unit := ()
def PySem.W.Fast.tw9383473897888472737 : Unit := ()
def PySem.W.Fast.tw17119377948008221352 : Unit := ()
def PySem.W.Fast.tw18166293169533361603 : Unit := ()
def PySem.W.Fast.tw5446655957532296308 : Unit := ()
def PySem.W.Fast.tw11812084295604981052 : Unit := ()
def PySem.W.Fast.tw10639299959546268555 : Unit := ()
def PySem.W.Fast.tw6961769773951945974 : Unit := ()
def PySem.W.Fast.tw12959053322972643070 : Unit := ()
def PySem.W.Fast.tw8370635504988635910 : Unit := ()
def PySem.W.Fast.tw8486924988848145676 : Unit := ()
def PySem.W.Fast.tw15545200110180914708 : Unit := ()
def PySem.W.Fast.tw16751663139535419277 : Unit := ()
def PySem.W.Fast.tw11344462663000511556 : Unit := ()
def PySem.W.Fast.tw15300812801131858147 : Unit := ()
def PySem.W.Fast.tw11538514087538545076 : Unit := ()
def PySem.W.Fast.tw3785532351414740158 : Unit := ()
def PySem.W.Fast.tw8309149781720384164 : Unit := ()
def PySem.W.Fast.tw8595769584276894339 : Unit := ()
def PySem.W.Fast.tw9724629908596210465 : Unit := ()
def PySem.W.Fast.tw16440011089729562430 : Unit := ()
def PySem.W.Fast.tw6175727779269024679 : Unit := ()
def PySem.W.Fast.tw2784719583837955749 : Unit := ()
def PySem.W.Fast.tw13256391656055567443 : Unit := ()
def PySem.W.Fast.tw8437704648651446318 : Unit := ()
def PySem.W.Fast.tw3755603902031252152 : Unit := ()
def PySem.W.Fast.tw11558436397958741485 : Unit := ()
def PySem.W.Fast.tw4333889346007020533 : Unit := ()
def PySem.W.Fast.tw5906407523404678166 : Unit := ()
def PySem.W.Fast.tw12409058609606692419 : Unit := ()
def PySem.W.Fast.tw15126744764122736176 : Unit := ()
def PySem.W.Fast.tw2605732810559049596 : Unit := ()
def PySem.W.Fast.tw11694167007590071417 : Unit := ()
def PySem.W.Fast.tw17820148593064617826 : Unit := ()
def PySem.W.Fast.tw8610577696683512896 : Unit := ()
def PySem.W.Fast.tw1043729694564107256 : Unit := ()
def PySem.W.Fast.tw5875677486422835667 : Unit := ()
def PySem.W.Fast.tw2988254136119554596 : Unit := ()
def PySem.W.Fast.tw10303863911417643076 : Unit := ()
def PySem.W.Fast.tw12395675049537910334 : Unit := ()
def PySem.W.Fast.tw16172403833261604271 : Unit := ()
def PySem.W.Fast.tw16208827383416458209 : Unit := ()
def PySem.W.Fast.tw654739050216767170 : Unit := ()
def PySem.W.Fast.tw9691399104108740624 : Unit := ()
def PySem.W.Fast.tw7636986836781622555 : Unit := ()
def PySem.W.Fast.tw11265799195696694039 : Unit := ()
def PySem.W.Fast.tw11383073044309123449 : Unit := ()
def PySem.W.Fast.tw17736784820412956827 : Unit := ()
def PySem.W.Fast.tw14428056169744649830 : Unit := ()
def PySem.W.Fast.tw6963427349689522048 : Unit := ()
def PySem.W.Fast.tw10224970958794035690 : Unit := ()
def PySem.W.Fast.tw11397789840765577776 : Unit := ()
def PySem.W.Fast.tw10228967838503955753 : Unit := ()
def PySem.W.Fast.tw15612473679493326247 : Unit := ()
def PySem.W.Fast.tw16440299758837776926 : Unit := ()
def PySem.W.Fast.tw14806645743246519809 : Unit := ()
def PySem.W.Fast.tw7708226014928306236 : Unit := ()
def PySem.W.Fast.tw9503374325624092689 : Unit := ()
def PySem.W.Fast.tw2938808073597064406 : Unit := ()
def PySem.W.Fast.tw5943219196587846805 : Unit := ()
def PySem.W.Fast.tw8215234976341047345 : Unit := ()
def PySem.W.Fast.tw6190444931800531429 : Unit := ()
def PySem.W.Fast.tw12410543980587861061 : Unit := ()
def PySem.W.Fast.tw2564811651119635672 : Unit := ()
def PySem.W.Fast.tw4604534180184197238 : Unit := ()
def PySem.W.Fast.tw8682416204344231285 : Unit := ()
def PySem.W.Fast.tw11758830352783269789 : Unit := ()
def PySem.W.Fast.tw15866096988276818968 : Unit := ()
def PySem.W.Fast.tw14400575458007281331 : Unit := ()
def PySem.W.Fast.tw7648661695919903868 : Unit := ()
def PySem.W.Fast.tw5613566811028322961 : Unit := ()
def PySem.W.Fast.tw14759040828543879239 : Unit := ()
def PySem.W.Fast.tw900867260582163506 : Unit := ()
def PySem.W.Fast.tw13016859535880711422 : Unit := ()
def PySem.W.Fast.tw11641623912760248620 : Unit := ()
def PySem.W.Fast.tw6755038357271899638 : Unit := ()
def PySem.W.Fast.tw12626795644667809260 : Unit := ()
def PySem.W.Fast.tw2966389438301480079 : Unit := ()
def PySem.W.Fast.tw3142044631518543826 : Unit := ()
def PySem.W.Fast.tw5874081289461523694 : Unit := ()
def PySem.W.Fast.tw11894357451438543461 : Unit := ()
def PySem.W.Fast.tw7757002592050858993 : Unit := ()
def PySem.W.Fast.tw2042713920068894428 : Unit := ()
def PySem.W.Fast.tw4607984098770043432 : Unit := ()
def PySem.W.Fast.tw1236234479848706544 : Unit := ()
def PySem.W.Fast.tw6829973926528798628 : Unit := ()
def PySem.W.Fast.tw17868836250609233567 : Unit := ()
def PySem.W.Fast.tw371368981988878442 : Unit := ()
def PySem.W.Fast.tw6865310592259488525 : Unit := ()
def PySem.W.Fast.tw10837169443881984082 : Unit := ()
def PySem.W.Fast.tw2420080929147298127 : Unit := ()
def PySem.W.Fast.tw8978421300154044289 : Unit := ()
def PySem.W.Fast.tw17121663077408517805 : Unit := ()
def PySem.W.Fast.tw9639883640149538229 : Unit := ()
def PySem.W.Fast.tw16367787985511364038 : Unit := ()
def PySem.W.Fast.tw11640329713448370655 : Unit := ()
def PySem.W.Fast.tw1570929505319621205 : Unit := ()
def PySem.W.Fast.tw9131154329155082694 : Unit := ()
def PySem.W.Fast.tw829140825334089658 : Unit := ()
def PySem.W.Fast.tw3018878893259586346 : Unit := ()
def PySem.W.Fast.tw143442679158169517 : Unit := ()
def PySem.W.Fast.tw5638441158520517740 : Unit := ()
def PySem.W.Fast.tw619854425607743577 : Unit := ()
def PySem.W.Fast.tw9402628130153819550 : Unit := ()
def PySem.W.Fast.tw13099433682454352520 : Unit := ()
def PySem.W.Fast.tw2516007923349702041 : Unit := ()
def PySem.W.Fast.tw1322149556480424913 : Unit := ()
def PySem.W.Fast.tw1033974694902525757 : Unit := ()
def PySem.W.Fast.tw8291450327970901922 : Unit := ()
def PySem.W.Fast.tw509359251052318958 : Unit := ()
def PySem.W.Fast.tw6826932080648992802 : Unit := ()
def PySem.W.Fast.tw10232092822837810360 : Unit := ()
def PySem.W.Fast.tw10209271665389390553 : Unit := ()
def PySem.W.Fast.tw10683508404970566403 : Unit := ()
def PySem.W.Fast.tw15711011664811495934 : Unit := ()
def PySem.W.Fast.tw146805068981224377 : Unit := ()
def PySem.W.Fast.tw14192793129935767467 : Unit := ()
def PySem.W.Fast.tw4646304113754857466 : Unit := ()
def PySem.W.Fast.tw13434566837687630353 : Unit := ()
def PySem.W.Fast.tw10485653926487310871 : Unit := ()
def PySem.W.Fast.tw12686800833626320049 : Unit := ()
def PySem.W.Fast.tw5240727551411864267 : Unit := ()
def PySem.W.Fast.tw15025736520855852826 : Unit := ()
def PySem.W.Fast.tw9150832907510184626 : Unit := ()
def PySem.W.Fast.tw8469766482406753832 : Unit := ()
def PySem.W.Fast.tw5426911919543744606 : Unit := ()
def PySem.W.Fast.tw3409998862538853001 : Unit := ()
def PySem.W.Fast.tw4079493276783070698 : Unit := ()
def PySem.W.Fast.tw1722164236960960021 : Unit := ()
def PySem.W.Fast.tw18183445057215592087 : Unit := ()
def PySem.W.Fast.tw15345156089728825356 : Unit := ()
def PySem.W.Fast.tw16161579298855686624 : Unit := ()
def PySem.W.Fast.tw13511262406927496244 : Unit := ()
def PySem.W.Fast.tw10657750212487659478 : Unit := ()
def PySem.W.Fast.tw1268287981793868763 : Unit := ()
def PySem.W.Fast.tw17858025544400800609 : Unit := ()
def PySem.W.Fast.tw16417221114744330787 : Unit := ()
def PySem.W.Fast.tw10457834984592193259 : Unit := ()
def PySem.W.Fast.tw4988688478756519940 : Unit := ()
def PySem.W.Fast.tw7000485677338110934 : Unit := ()
def PySem.W.Fast.tw8494980858373994689 : Unit := ()
def PySem.W.Fast.tw684457471816901909 : Unit := ()
def PySem.W.Fast.tw9704590934963291242 : Unit := ()
def PySem.W.Fast.tw6537550590900248916 : Unit := ()
def PySem.W.Fast.tw4797860947674670631 : Unit := ()
def PySem.W.Fast.tw7779086614668187084 : Unit := ()
def PySem.W.Fast.tw15750921418872928944 : Unit := ()
def PySem.W.Fast.tw16553046613932970816 : Unit := ()
def PySem.W.Fast.tw16555596942980370196 : Unit := ()
def PySem.W.Fast.tw5859073358905728403 : Unit := ()
def PySem.W.Fast.tw6584983043809986596 : Unit := ()
def PySem.W.Fast.tw1860437281469660449 : Unit := ()
def PySem.W.Fast.tw16196340154580386722 : Unit := ()
def PySem.W.Fast.tw1145096915297401884 : Unit := ()
def PySem.W.Fast.tw18424287427924544946 : Unit := ()
def PySem.W.Fast.tw16982482269621323096 : Unit := ()
def PySem.W.Fast.tw13615168158081264113 : Unit := ()
def PySem.W.Fast.tw4761380130949010682 : Unit := ()
def PySem.W.Fast.tw11266718963364749110 : Unit := ()
def PySem.W.Fast.tw8991931860708669630 : Unit := ()
def PySem.W.Fast.tw8807560890519767542 : Unit := ()
def PySem.W.Fast.tw15472676658301981158 : Unit := ()
def PySem.W.Fast.tw15411692648500287458 : Unit := ()
def PySem.W.Fast.tw3424557258955225308 : Unit := ()
def PySem.W.Fast.tw10351014154276827291 : Unit := ()
def PySem.W.Fast.tw16822966558042159940 : Unit := ()
def PySem.W.Fast.tw10404167503692629183 : Unit := ()
def PySem.W.Fast.tw7532565864745072792 : Unit := ()
def PySem.W.Fast.tw7301813365885920693 : Unit := ()
def PySem.W.Fast.tw8079485690741540786 : Unit := ()
def PySem.W.Fast.tw14390346213879381928 : Unit := ()
def PySem.W.Fast.tw6973840549280841586 : Unit := ()
def PySem.W.Fast.tw1313396830877636602 : Unit := ()
def PySem.W.Fast.tw11214280799771080873 : Unit := ()
def PySem.W.Fast.tw4107510569683723240 : Unit := ()
def PySem.W.Fast.tw597040047747016311 : Unit := ()
def PySem.W.Fast.tw6659523356374616780 : Unit := ()
def PySem.W.Fast.tw5521580606108332797 : Unit := ()
def PySem.W.Fast.tw17115306320373682389 : Unit := ()
def PySem.W.Fast.tw175232582828478692 : Unit := ()
def PySem.W.Fast.tw8630620726519871242 : Unit := ()
def PySem.W.Fast.tw16010928704583749001 : Unit := ()
def PySem.W.Fast.tw8837139458239405483 : Unit := ()
def PySem.W.Fast.tw16085563700426929742 : Unit := ()
def PySem.W.Fast.tw17565785239494228831 : Unit := ()
def PySem.W.Fast.tw9493117334876459076 : Unit := ()
def PySem.W.Fast.tw1058591368320135918 : Unit := ()
def PySem.W.Fast.tw10453348077543768078 : Unit := ()
def PySem.W.Fast.tw10009662199986123422 : Unit := ()
def PySem.W.Fast.tw11419377588837358528 : Unit := ()
def PySem.W.Fast.tw1486635369439952268 : Unit := ()
def PySem.W.Fast.tw2961381646977263680 : Unit := ()
def PySem.W.Fast.tw6259606659921092127 : Unit := ()
def PySem.W.Fast.tw1885743139840529344 : Unit := ()
def PySem.W.Fast.tw14633864560023442491 : Unit := ()
def PySem.W.Fast.tw9808408809057934701 : Unit := ()
def PySem.W.Fast.tw6884227253829476756 : Unit := ()
def PySem.W.Fast.tw2376118392181733540 : Unit := ()
def PySem.W.Fast.tw906230182440368623 : Unit := ()
def PySem.W.Fast.tw5164848070579595513 : Unit := ()
def PySem.W.Fast.tw17404340775599790402 : Unit := ()
def PySem.W.Fast.tw14456757171125703483 : Unit := ()
def PySem.W.Fast.tw8560824976864827685 : Unit := ()
def PySem.W.Fast.tw9465580854643700281 : Unit := ()
def PySem.W.Fast.tw2589749489781450379 : Unit := ()
def PySem.W.Fast.tw13248307790689245587 : Unit := ()
def PySem.W.Fast.tw5014116113069264093 : Unit := ()
def PySem.W.Fast.tw17275897474514598435 : Unit := ()
def PySem.W.Fast.tw11113633570139881830 : Unit := ()
def PySem.W.Fast.tw3541065441453578407 : Unit := ()
def PySem.W.Fast.tw12500160490932009966 : Unit := ()
def PySem.W.Fast.tw6259544452743404162 : Unit := ()
def PySem.W.Fast.tw13280296587955874859 : Unit := ()
def PySem.W.Fast.tw17595353730545932567 : Unit := ()
def PySem.W.Fast.tw9738167505578224928 : Unit := ()
def PySem.W.Fast.tw11961760263346781082 : Unit := ()
def PySem.W.Fast.tw4299362714850339535 : Unit := ()
def PySem.W.Fast.tw11782745746050436547 : Unit := ()
def PySem.W.Fast.tw15076564925027236924 : Unit := ()
def PySem.W.Fast.tw1969441931955774207 : Unit := ()
def PySem.W.Fast.tw9720529774600790497 : Unit := ()
def PySem.W.Fast.tw5212581616484404286 : Unit := ()
def PySem.W.Fast.tw16226822215019659205 : Unit := ()
def PySem.W.Fast.tw13466702011777654664 : Unit := ()
def PySem.W.Fast.tw1737425143182775900 : Unit := ()
def PySem.W.Fast.tw11151169829361949147 : Unit := ()
def PySem.W.Fast.tw6016776879510893799 : Unit := ()
def PySem.W.Fast.tw14652122951327557559 : Unit := ()
def PySem.W.Fast.tw5455964690506033430 : Unit := ()
def PySem.W.Fast.tw3197789990030875985 : Unit := ()
def PySem.W.Fast.tw8974987582256495359 : Unit := ()
def PySem.W.Fast.tw9094535302002747680 : Unit := ()
def PySem.W.Fast.tw14387113116368449532 : Unit := ()
def PySem.W.Fast.tw6937652072253558593 : Unit := ()
def PySem.W.Fast.tw12652539025571863132 : Unit := ()
def PySem.W.Fast.tw7968152707245220376 : Unit := ()
def PySem.W.Fast.tw1406699623438831750 : Unit := ()
def PySem.W.Fast.tw9509948872216261885 : Unit := ()
def PySem.W.Fast.tw2593201028881665840 : Unit := ()
def PySem.W.Fast.tw12473323809070234669 : Unit := ()
def PySem.W.Fast.tw3261317059160679774 : Unit := ()
def PySem.W.Fast.tw9464687595845074319 : Unit := ()
def PySem.W.Fast.tw14432224000791560415 : Unit := ()
def PySem.W.Fast.tw6286938384079928407 : Unit := ()
def PySem.W.Fast.tw2777153966471377937 : Unit := ()
def PySem.W.Fast.tw11635984492697480778 : Unit := ()
def PySem.W.Fast.tw12162497867636388108 : Unit := ()
def PySem.W.Fast.tw8707805191846672613 : Unit := ()
def PySem.W.Fast.tw8587942867843751640 : Unit := ()
def PySem.W.Fast.tw13907464977473986512 : Unit := ()
def PySem.W.Fast.tw17570730734275542156 : Unit := ()
def PySem.W.Fast.tw4096814843816893196 : Unit := ()
def PySem.W.Fast.tw5723098076391202666 : Unit := ()
def PySem.W.Fast.tw5400565578311395908 : Unit := ()
def PySem.W.Fast.tw11778838232454527284 : Unit := ()
def PySem.W.Fast.tw8687327429615943159 : Unit := ()
def PySem.W.Fast.tw13449755016475805676 : Unit := ()
def PySem.W.Fast.tw9178452502902820446 : Unit := ()
def PySem.W.Fast.tw15007230248231115584 : Unit := ()
def PySem.W.Fast.tw959814700208003733 : Unit := ()
def PySem.W.Fast.tw2104318919830623266 : Unit := ()
def PySem.W.Fast.tw17326789036031074386 : Unit := ()
def PySem.W.Fast.tw1019329803295580434 : Unit := ()
def PySem.W.Fast.tw16307329865309671351 : Unit := ()
def PySem.W.Fast.tw1064200661786993768 : Unit := ()
def PySem.W.Fast.tw6471496467519196236 : Unit := ()
def PySem.W.Fast.tw15109550954722259904 : Unit := ()
def PySem.W.Fast.tw17668942630527175737 : Unit := ()
def PySem.W.Fast.tw12806316461263809390 : Unit := ()
def PySem.W.Fast.tw4973198359539065802 : Unit := ()
def PySem.W.Fast.tw15999627192877433387 : Unit := ()
def PySem.W.Fast.tw8031070053349931125 : Unit := ()
def PySem.W.Fast.tw12396141275275747422 : Unit := ()
def PySem.W.Fast.tw18367006501219876122 : Unit := ()
def PySem.W.Fast.tw4429857566520300225 : Unit := ()
def PySem.W.Fast.tw5187587598736119059 : Unit := ()
def PySem.W.Fast.tw7929736851677325311 : Unit := ()
def PySem.W.Fast.tw8755121441679275974 : Unit := ()
def PySem.W.Fast.tw5211273961223264710 : Unit := ()
def PySem.W.Fast.tw9970655943172645054 : Unit := ()
def PySem.W.Fast.tw10559506569514333031 : Unit := ()
def PySem.W.Fast.tw1517513997359641724 : Unit := ()
def PySem.W.Fast.tw8687916171342656051 : Unit := ()
def PySem.W.Fast.tw17917113696337590468 : Unit := ()
def PySem.W.Fast.tw2308804449373316013 : Unit := ()
def PySem.W.Fast.tw3076139396952855648 : Unit := ()
def PySem.W.Fast.tw8567265846070122881 : Unit := ()
def PySem.W.Fast.tw10524408463012309112 : Unit := ()
def PySem.W.Fast.tw17995270400955779521 : Unit := ()
def PySem.W.Fast.tw16188099749865320875 : Unit := ()
def PySem.W.Fast.tw3768157902289747062 : Unit := ()
def PySem.W.Fast.tw4260398684135154384 : Unit := ()
def PySem.W.Fast.tw3670905048103885262 : Unit := ()
def PySem.W.Fast.tw1987072211992040529 : Unit := ()
def PySem.W.Fast.tw459876976511408574 : Unit := ()
def PySem.W.Fast.tw7866970353363292184 : Unit := ()
def PySem.W.Fast.tw11767782410097393873 : Unit := ()
def PySem.W.Fast.tw11684126116404437467 : Unit := ()
def PySem.W.Fast.tw1618590887307655640 : Unit := ()
def PySem.W.Fast.tw8193812966595696741 : Unit := ()
def PySem.W.Fast.tw3633691630543132239 : Unit := ()
def PySem.W.Fast.tw16108127730467131240 : Unit := ()
def PySem.W.Fast.tw13598150053804581857 : Unit := ()
def PySem.W.Fast.tw1228522005210498469 : Unit := ()
def PySem.W.Fast.tw14429054574987312913 : Unit := ()
def PySem.W.Fast.tw5459354817267703006 : Unit := ()
def PySem.W.Fast.tw3636413683590508760 : Unit := ()
def PySem.W.Fast.tw12396161467890462891 : Unit := ()
def PySem.W.Fast.tw13462308741831025432 : Unit := ()
def PySem.W.Fast.tw15848733893326391914 : Unit := ()
def PySem.W.Fast.tw17504193621724960709 : Unit := ()
def PySem.W.Fast.tw7364145205455682130 : Unit := ()
def PySem.W.Fast.tw16178227042201082735 : Unit := ()
def PySem.W.Fast.tw16812593092295117463 : Unit := ()
def PySem.W.Fast.tw2954013449504505761 : Unit := ()
def PySem.W.Fast.tw2999382857292144847 : Unit := ()
def PySem.W.Fast.tw8937610136106589677 : Unit := ()
def PySem.W.Fast.tw14860172344684351620 : Unit := ()
def PySem.W.Fast.tw6650181461943803316 : Unit := ()
def PySem.W.Fast.tw13988423167121874020 : Unit := ()
def PySem.W.Fast.tw11821522924059601752 : Unit := ()
def PySem.W.Fast.tw772449281258457223 : Unit := ()
def PySem.W.Fast.tw6428278706960435116 : Unit := ()
def PySem.W.Fast.tw13015323368564279430 : Unit := ()
def PySem.W.Fast.tw3755263792806159567 : Unit := ()
def PySem.W.Fast.tw8464714679410532208 : Unit := ()
def PySem.W.Fast.tw2612816665153305873 : Unit := ()
def PySem.W.Fast.tw7425150228607685396 : Unit := ()
def PySem.W.Fast.tw9467732186616304439 : Unit := ()
def PySem.W.Fast.tw7325468895058720238 : Unit := ()
def PySem.W.Fast.tw5517267175362636058 : Unit := ()
def PySem.W.Fast.tw11581890121402544974 : Unit := ()
def PySem.W.Fast.tw7804199321839370333 : Unit := ()
def PySem.W.Fast.tw10555849635379926486 : Unit := ()
def PySem.W.Fast.tw9459919744691598981 : Unit := ()
def PySem.W.Fast.tw13406555043544956818 : Unit := ()
def PySem.W.Fast.tw3661218685570111209 : Unit := ()
def PySem.W.Fast.tw7084027703991004699 : Unit := ()
def PySem.W.Fast.tw9654315940078756190 : Unit := ()
def PySem.W.Fast.tw4660448241315654436 : Unit := ()
def PySem.W.Fast.tw13983058845912606745 : Unit := ()
def PySem.W.Fast.tw6283473754863965756 : Unit := ()
def PySem.W.Fast.tw15171106337310644822 : Unit := ()
def PySem.W.Fast.tw11456620968186546133 : Unit := ()
def PySem.W.Fast.tw6411769849492299443 : Unit := ()
def PySem.W.Fast.tw6942704944775671390 : Unit := ()
def PySem.W.Fast.tw14539993687628473459 : Unit := ()
def PySem.W.Fast.tw9670928479083963861 : Unit := ()
def PySem.W.Fast.tw13097348981094133524 : Unit := ()
def PySem.W.Fast.tw8684788649085945575 : Unit := ()
def PySem.W.Fast.tw3422915718495906995 : Unit := ()
def PySem.W.Fast.tw12221439339978452286 : Unit := ()
def PySem.W.Fast.tw4368856783811232911 : Unit := ()
def PySem.W.Fast.tw17011957665906777575 : Unit := ()
def PySem.W.Fast.tw11578233302984575105 : Unit := ()
def PySem.W.Fast.tw9711557525834738089 : Unit := ()
def PySem.W.Fast.tw17614823410017659073 : Unit := ()
def PySem.W.Fast.tw15340444626361631757 : Unit := ()
def PySem.W.Fast.tw17833258116661735478 : Unit := ()
def PySem.W.Fast.tw10524017490145286754 : Unit := ()
def PySem.W.Fast.tw6710230898369452102 : Unit := ()
def PySem.W.Fast.tw2283697601573550978 : Unit := ()
def PySem.W.Fast.tw632083852131221918 : Unit := ()
def PySem.W.Fast.tw7364379041107896036 : Unit := ()
def PySem.W.Fast.tw14652254674393838750 : Unit := ()
def PySem.W.Fast.tw3679707234241499496 : Unit := ()
def PySem.W.Fast.tw10427559883746727921 : Unit := ()
def PySem.W.Fast.tw11981330234053035565 : Unit := ()
def PySem.W.Fast.tw7501475132147972115 : Unit := ()
def PySem.W.Fast.tw9477206867783578381 : Unit := ()
def PySem.W.Fast.tw13797041909422053353 : Unit := ()
def PySem.W.Fast.tw14422272993946270067 : Unit := ()
def PySem.W.Fast.tw11053541775283419435 : Unit := ()
def PySem.W.Fast.tw13316156441660384093 : Unit := ()
def PySem.W.Fast.tw1187683749199241438 : Unit := ()
def PySem.W.Fast.tw946044309336309549 : Unit := ()
def PySem.W.Fast.tw9572524870605856406 : Unit := ()
def PySem.W.Fast.tw3686201642511196002 : Unit := ()
def PySem.W.Fast.tw8349278163272448401 : Unit := ()
def PySem.W.Fast.tw205206604061478708 : Unit := ()
def PySem.W.Fast.tw10622285510993226353 : Unit := ()
def PySem.W.Fast.tw13874842485365097573 : Unit := ()
def PySem.W.Fast.tw3528591687622127051 : Unit := ()
def PySem.W.Fast.tw11639218855248830123 : Unit := ()
def PySem.W.Fast.tw8426787108846144054 : Unit := ()
def PySem.W.Fast.tw672034995866420103 : Unit := ()
def PySem.W.Fast.tw10906362228278489364 : Unit := ()
def PySem.W.Fast.tw788422668040922856 : Unit := ()
def PySem.W.Fast.tw8613820871712815448 : Unit := ()
def PySem.W.Fast.tw16152213439027107593 : Unit := ()
def PySem.W.Fast.tw11132025797561256354 : Unit := ()
def PySem.W.Fast.tw6303377120808380363 : Unit := ()
def PySem.W.Fast.tw4863042497756340036 : Unit := ()
def PySem.W.Fast.tw17334999925940600737 : Unit := ()
def PySem.W.Fast.tw14422735146410933421 : Unit := ()
def PySem.W.Fast.tw2993732981431085794 : Unit := ()
def PySem.W.Fast.tw7672898036084519257 : Unit := ()
def PySem.W.Fast.tw7798801555961435853 : Unit := ()
def PySem.W.Fast.tw3478281555948674427 : Unit := ()
def PySem.W.Fast.tw12072011096463471488 : Unit := ()
def PySem.W.Fast.tw3217066777712418512 : Unit := ()
def PySem.W.Fast.tw17277140826119493129 : Unit := ()
def PySem.W.Fast.tw9232297287903156061 : Unit := ()
def PySem.W.Fast.tw10446118886339036439 : Unit := ()
def PySem.W.Fast.tw1884807801766364444 : Unit := ()
def PySem.W.Fast.tw4682747117182177311 : Unit := ()
def PySem.W.Fast.tw15003374189013294218 : Unit := ()
def PySem.W.Fast.tw13874388627408636056 : Unit := ()
def PySem.W.Fast.tw9013276200702716278 : Unit := ()
def PySem.W.Fast.tw12828274897298283133 : Unit := ()
def PySem.W.Fast.tw10631915380031319647 : Unit := ()
def PySem.W.Fast.tw16300381119508772002 : Unit := ()
def PySem.W.Fast.tw83534746585801710 : Unit := ()
def PySem.W.Fast.tw17357052432566925422 : Unit := ()
def PySem.W.Fast.tw9967171253779793454 : Unit := ()
def PySem.W.Fast.tw4854844650016739357 : Unit := ()
def PySem.W.Fast.tw11998366232299742693 : Unit := ()
def PySem.W.Fast.tw12507425611112371502 : Unit := ()
def PySem.W.Fast.tw1298587564552329238 : Unit := ()
def PySem.W.Fast.tw13087385884257921611 : Unit := ()
def PySem.W.Fast.tw8431540002038719 : Unit := ()
def PySem.W.Fast.tw1166956403936152410 : Unit := ()
def PySem.W.Fast.tw8874876941500335020 : Unit := ()
def PySem.W.Fast.tw17630630276629144812 : Unit := ()
def PySem.W.Fast.tw14356487201947604887 : Unit := ()
def PySem.W.Fast.tw13644456463158992429 : Unit := ()
def PySem.W.Fast.tw1391861398878243484 : Unit := ()
def PySem.W.Fast.tw8329792801704684820 : Unit := ()
def PySem.W.Fast.tw7266679087524598591 : Unit := ()
def PySem.W.Fast.tw2588977631122747939 : Unit := ()
def PySem.W.Fast.tw4936006242016996336 : Unit := ()
def PySem.W.Fast.tw12332201757615129222 : Unit := ()
def PySem.W.Fast.tw12946630370359131847 : Unit := ()
def PySem.W.Fast.tw14325727244537288516 : Unit := ()
def PySem.W.Fast.tw17547076051625059413 : Unit := ()
def PySem.W.Fast.tw6849893367808951483 : Unit := ()
def PySem.W.Fast.tw15350215704685845960 : Unit := ()
def PySem.W.Fast.tw2678462551411828267 : Unit := ()
def PySem.W.Fast.tw7218433665144646707 : Unit := ()
def PySem.W.Fast.tw15793566398880639428 : Unit := ()
def PySem.W.Fast.tw7593402209721740604 : Unit := ()
def PySem.W.Fast.tw9503112981280897010 : Unit := ()
def PySem.W.Fast.tw17765021385073067805 : Unit := ()
def PySem.W.Fast.tw13491479940352293116 : Unit := ()
def PySem.W.Fast.tw3754289273991339074 : Unit := ()
def PySem.W.Fast.tw9899934379018181199 : Unit := ()
def PySem.W.Fast.tw6744958307050837906 : Unit := ()
def PySem.W.Fast.tw14483991274991924295 : Unit := ()
def PySem.W.Fast.tw14890556633599785397 : Unit := ()
def PySem.W.Fast.tw1679393297386157688 : Unit := ()
def PySem.W.Fast.tw2661213748821073838 : Unit := ()
def PySem.W.Fast.tw11464836766354062730 : Unit := ()
def PySem.W.Fast.tw2516604821604044600 : Unit := ()
def PySem.W.Fast.tw7330052715710147120 : Unit := ()
def PySem.W.Fast.tw16012283321138592178 : Unit := ()
def PySem.W.Fast.tw3835722851516277230 : Unit := ()
def PySem.W.Fast.tw7680964231269885174 : Unit := ()
def PySem.W.Fast.tw495381830080179850 : Unit := ()
def PySem.W.Fast.tw9588367108576086830 : Unit := ()
def PySem.W.Fast.tw4995536869792933384 : Unit := ()
def PySem.W.Fast.tw12717405033174915302 : Unit := ()
def PySem.W.Fast.tw3807258440261621849 : Unit := ()
def PySem.W.Fast.tw16412584825765217172 : Unit := ()
def PySem.W.Fast.tw9111527363615321516 : Unit := ()
def PySem.W.Fast.tw3791195549939236149 : Unit := ()
def PySem.W.Fast.tw5701964274760361839 : Unit := ()
def PySem.W.Fast.tw866885035020662682 : Unit := ()
def PySem.W.Fast.tw11477056175615145862 : Unit := ()
def PySem.W.Fast.tw14856625827443626418 : Unit := ()
def PySem.W.Fast.tw8114182193237785800 : Unit := ()
def PySem.W.Fast.tw3450418601709985231 : Unit := ()
def PySem.W.Fast.tw14166973222490214318 : Unit := ()
def PySem.W.Fast.tw12750017085848063105 : Unit := ()
def PySem.W.Fast.tw5754759189882391961 : Unit := ()
def PySem.W.Fast.tw8242383320846675310 : Unit := ()
def PySem.W.Fast.tw6667553235666398101 : Unit := ()
def PySem.W.Fast.tw11127405000243268230 : Unit := ()
def PySem.W.Fast.tw5280725805164150501 : Unit := ()
def PySem.W.Fast.tw7775900508673268699 : Unit := ()
def PySem.W.Fast.tw10681723494351805810 : Unit := ()
def PySem.W.Fast.tw4894156586105933955 : Unit := ()
def PySem.W.Fast.tw726215731985799518 : Unit := ()
def PySem.W.Fast.tw13735196087398784993 : Unit := ()
def PySem.W.Fast.tw597229045140966719 : Unit := ()
def PySem.W.Fast.tw155033161170965270 : Unit := ()
def PySem.W.Fast.tw12097847731681183401 : Unit := ()
def PySem.W.Fast.tw10944161498590093288 : Unit := ()
def PySem.W.Fast.tw17555807161481550460 : Unit := ()
def PySem.W.Fast.tw3049612059514918069 : Unit := ()
def PySem.W.Fast.tw14990639964125901371 : Unit := ()
def PySem.W.Fast.tw10523061565827973678 : Unit := ()
def PySem.W.Fast.tw3846095881514529343 : Unit := ()
def PySem.W.Fast.tw7209943531982438866 : Unit := ()
def PySem.W.Fast.tw4255865227496162318 : Unit := ()
def PySem.W.Fast.tw18424881048483765863 : Unit := ()
def PySem.W.Fast.tw707600831359351746 : Unit := ()
def PySem.W.Fast.tw14416623977750988855 : Unit := ()
def PySem.W.Fast.tw13443158775016835198 : Unit := ()
def PySem.W.Fast.tw17433603570260101059 : Unit := ()
def PySem.W.Fast.tw11690190519811086492 : Unit := ()
def PySem.W.Fast.tw14818544181518322237 : Unit := ()
def PySem.W.Fast.tw328777630170173097 : Unit := ()
def PySem.W.Fast.tw11883092856580727419 : Unit := ()
def PySem.W.Fast.tw12865645342882821117 : Unit := ()
def PySem.W.Fast.tw9075736870334110638 : Unit := ()
def PySem.W.Fast.tw16629552067225079144 : Unit := ()
def PySem.W.Fast.tw14809393451960074921 : Unit := ()
def PySem.W.Fast.tw16445906105719703163 : Unit := ()
def PySem.W.Fast.tw18272303464324366630 : Unit := ()
def PySem.W.Fast.tw10414514186873878465 : Unit := ()
def PySem.W.Fast.tw5282653332120985135 : Unit := ()
def PySem.W.Fast.tw10822777292965834553 : Unit := ()
def PySem.W.Fast.tw6417060638781753139 : Unit := ()
def PySem.W.Fast.tw8928264782000591969 : Unit := ()
def PySem.W.Fast.tw5791616560338639338 : Unit := ()
def PySem.W.Fast.tw4063283027796205607 : Unit := ()
def PySem.W.Fast.tw4022146841388700267 : Unit := ()
def PySem.W.Fast.tw1532630196845192912 : Unit := ()
def PySem.W.Fast.tw11492333386963833782 : Unit := ()
def PySem.W.Fast.tw1982033605230336652 : Unit := ()
def PySem.W.Fast.tw9326944122581124500 : Unit := ()
def PySem.W.Fast.tw6843482478632825797 : Unit := ()
def PySem.W.Fast.tw2488129930522704212 : Unit := ()
def PySem.W.Fast.tw12954358671074957277 : Unit := ()
def PySem.W.Fast.tw12741725408099144591 : Unit := ()
def PySem.W.Fast.tw5153340506231363518 : Unit := ()
def PySem.W.Fast.tw9136246834586105330 : Unit := ()
def PySem.W.Fast.tw6359745422800266927 : Unit := ()
def PySem.W.Fast.tw11044783682054389365 : Unit := ()
def PySem.W.Fast.tw9461752759408193499 : Unit := ()
def PySem.W.Fast.tw12328539604735016365 : Unit := ()
def PySem.W.Fast.tw833448522528906879 : Unit := ()
def PySem.W.Fast.tw18206726948846642529 : Unit := ()
def PySem.W.Fast.tw10318691604909401996 : Unit := ()
def PySem.W.Fast.tw10878012853758598715 : Unit := ()
def PySem.W.Fast.tw5439251192790295984 : Unit := ()
def PySem.W.Fast.tw5865145085551112773 : Unit := ()
def PySem.W.Fast.tw9060739529928413905 : Unit := ()
def PySem.W.Fast.tw2181848958979766526 : Unit := ()
def PySem.W.Fast.tw15206755256184267514 : Unit := ()
def PySem.W.Fast.tw14195841297725229367 : Unit := ()
def PySem.W.Fast.tw15986090936083739683 : Unit := ()
def PySem.W.Fast.tw8138737948852487224 : Unit := ()
def PySem.W.Fast.tw14279584348949656892 : Unit := ()
def PySem.W.Fast.tw11090530989640472101 : Unit := ()
def PySem.W.Fast.tw15207067651120443691 : Unit := ()
def PySem.W.Fast.tw16397863928013049800 : Unit := ()
def PySem.W.Fast.tw4759799706385157934 : Unit := ()
def PySem.W.Fast.tw15664129881845492770 : Unit := ()
def PySem.W.Fast.tw13572738265727061054 : Unit := ()
def PySem.W.Fast.tw11078207743092430280 : Unit := ()
def PySem.W.Fast.tw2731486813526630606 : Unit := ()
def PySem.W.Fast.tw14115168620202052145 : Unit := ()
def PySem.W.Fast.tw9713680926092704185 : Unit := ()
def PySem.W.Fast.tw9052033046800531009 : Unit := ()
def PySem.W.Fast.tw528718861766354112 : Unit := ()
def PySem.W.Fast.tw12896200856322410278 : Unit := ()
def PySem.W.Fast.tw725637252614007451 : Unit := ()
def PySem.W.Fast.tw12850517856436344169 : Unit := ()
def PySem.W.Fast.tw1749763676281428937 : Unit := ()
def PySem.W.Fast.tw3345656432111176159 : Unit := ()
def PySem.W.Fast.tw16251298409739529536 : Unit := ()
def PySem.W.Fast.tw1550764229343065398 : Unit := ()
def PySem.W.Fast.tw5694126867054922735 : Unit := ()
def PySem.W.Fast.tw17364561368327654759 : Unit := ()
def PySem.W.Fast.tw11042537177370063890 : Unit := ()
def PySem.W.Fast.tw3334505090709001515 : Unit := ()
def PySem.W.Fast.tw6410307071854302297 : Unit := ()
def PySem.W.Fast.tw3287766640009526449 : Unit := ()
def PySem.W.Fast.tw13840306707832979875 : Unit := ()
def PySem.W.Fast.tw853311915272299115 : Unit := ()
def PySem.W.Fast.tw4335838456141238843 : Unit := ()
def PySem.W.Fast.tw15416505594214175828 : Unit := ()
def PySem.W.Fast.tw3043164617394999027 : Unit := ()
def PySem.W.Fast.tw8785695286480931206 : Unit := ()
def PySem.W.Fast.tw3615828935242342569 : Unit := ()
def PySem.W.Fast.tw15867915432167192063 : Unit := ()
def PySem.W.Fast.tw17887217910064923440 : Unit := ()
def PySem.W.Fast.tw12442420421031437434 : Unit := ()
def PySem.W.Fast.tw10179118375883734362 : Unit := ()
def PySem.W.Fast.tw17658585593356860725 : Unit := ()
def PySem.W.Fast.tw12119577023430982060 : Unit := ()
def PySem.W.Fast.tw9405292639446811804 : Unit := ()
def PySem.W.Fast.tw13780260694657378022 : Unit := ()
def PySem.W.Fast.tw11259925296788696684 : Unit := ()
def PySem.W.Fast.tw14182559807029425211 : Unit := ()
def PySem.W.Fast.tw6603777649012278582 : Unit := ()
def PySem.W.Fast.tw3429429039236558838 : Unit := ()
def PySem.W.Fast.tw12495958627116406026 : Unit := ()
def PySem.W.Fast.tw13810588457293464251 : Unit := ()
def PySem.W.Fast.tw11865836264545597262 : Unit := ()
def PySem.W.Fast.tw15934549454557014095 : Unit := ()
def PySem.W.Fast.tw8041694306361951873 : Unit := ()
def PySem.W.Fast.tw15482847327324150421 : Unit := ()
def PySem.W.Fast.tw7225714482715456863 : Unit := ()
def PySem.W.Fast.tw4768720276111308258 : Unit := ()
def PySem.W.Fast.tw11996450092348094766 : Unit := ()
def PySem.W.Fast.tw13346730558244905761 : Unit := ()
def PySem.W.Fast.tw5343454237427453808 : Unit := ()
def PySem.W.Fast.tw12794304812373675846 : Unit := ()
def PySem.W.Fast.tw826098439085493582 : Unit := ()
def PySem.W.Fast.tw18120958400965905013 : Unit := ()
def PySem.W.Fast.tw14237018800878264527 : Unit := ()
def PySem.W.Fast.tw10880125554277053778 : Unit := ()
def PySem.W.Fast.tw12949879085375044406 : Unit := ()
def PySem.W.Fast.tw1716665916205096059 : Unit := ()
def PySem.W.Fast.tw14899701783040676042 : Unit := ()
def PySem.W.Fast.tw10740373786533504840 : Unit := ()
def PySem.W.Fast.tw6176910141754899156 : Unit := ()
def PySem.W.Fast.tw9611447943776591161 : Unit := ()
def PySem.W.Fast.tw13844046670850644420 : Unit := ()
def PySem.W.Fast.tw1738871171908414253 : Unit := ()
def PySem.W.Fast.tw3963270834421799213 : Unit := ()
def PySem.W.Fast.tw15493107522848467216 : Unit := ()
def PySem.W.Fast.tw14634734360880139807 : Unit := ()
def PySem.W.Fast.tw14510339050265152795 : Unit := ()
def PySem.W.Fast.tw4409211271141551734 : Unit := ()
def PySem.W.Fast.tw18047643661515703594 : Unit := ()
def PySem.W.Fast.tw5295004194252988256 : Unit := ()
def PySem.W.Fast.tw7154223416286823001 : Unit := ()
def PySem.W.Fast.tw10924748181768605733 : Unit := ()
def PySem.W.Fast.tw10372265809154102578 : Unit := ()
def PySem.W.Fast.tw15494285292822147677 : Unit := ()
def PySem.W.Fast.tw6373798684735269810 : Unit := ()
def PySem.W.Fast.tw11558115477229374373 : Unit := ()
def PySem.W.Fast.tw9562321134335976901 : Unit := ()
def PySem.W.Fast.tw5414266707305592659 : Unit := ()
def PySem.W.Fast.tw17197538687505899313 : Unit := ()
def PySem.W.Fast.tw11881927503747156940 : Unit := ()
def PySem.W.Fast.tw8550893996381333556 : Unit := ()
def PySem.W.Fast.tw4860856986839807737 : Unit := ()
def PySem.W.Fast.tw4569679506818997774 : Unit := ()
def PySem.W.Fast.tw18110568934082221875 : Unit := ()
def PySem.W.Fast.tw2173122411544339464 : Unit := ()
def PySem.W.Fast.tw8279297503865219952 : Unit := ()
def PySem.W.Fast.tw13202151320790165329 : Unit := ()
def PySem.W.Fast.tw8966010766937317778 : Unit := ()
def PySem.W.Fast.tw17437285773251250477 : Unit := ()
def PySem.W.Fast.tw7957243434984449163 : Unit := ()
def PySem.W.Fast.tw17027224670545331717 : Unit := ()
def PySem.W.Fast.tw3760438242364617972 : Unit := ()
def PySem.W.Fast.tw1680349246570512069 : Unit := ()
def PySem.W.Fast.tw13837137720185064059 : Unit := ()
def PySem.W.Fast.tw12612160830608873840 : Unit := ()
def PySem.W.Fast.tw2687164744924323837 : Unit := ()
def PySem.W.Fast.tw13471714233564142781 : Unit := ()
def PySem.W.Fast.tw14198041529999034398 : Unit := ()
def PySem.W.Fast.tw15504534247166372931 : Unit := ()
def PySem.W.Fast.tw5748671996114071035 : Unit := ()
def PySem.W.Fast.tw12749323065389385186 : Unit := ()
def PySem.W.Fast.tw6704286952290872631 : Unit := ()
def PySem.W.Fast.tw5114864916329383515 : Unit := ()
def PySem.W.Fast.tw16655512208746107434 : Unit := ()
def PySem.W.Fast.tw2355518045007018199 : Unit := ()
def PySem.W.Fast.tw1267507454859443089 : Unit := ()
def PySem.W.Fast.tw7052046681992334365 : Unit := ()
def PySem.W.Fast.tw1488803507518327837 : Unit := ()
def PySem.W.Fast.tw17585951354994250652 : Unit := ()
def PySem.W.Fast.tw8748471409952539176 : Unit := ()
def PySem.W.Fast.tw3976907350404044660 : Unit := ()
def PySem.W.Fast.tw14846742341866179608 : Unit := ()
def PySem.W.Fast.tw12134081798600880262 : Unit := ()
def PySem.W.Fast.tw1919093757440139543 : Unit := ()
def PySem.W.Fast.tw11151514219468311490 : Unit := ()
def PySem.W.Fast.tw16466930300387769901 : Unit := ()
def PySem.W.Fast.tw9758197586325664201 : Unit := ()
def PySem.W.Fast.tw2025056576751425440 : Unit := ()
def PySem.W.Fast.tw16287404193085492469 : Unit := ()
def PySem.W.Fast.tw4512434698388768995 : Unit := ()
def PySem.W.Fast.tw1789471737326455916 : Unit := ()
def PySem.W.Fast.tw7585411332087590753 : Unit := ()
def PySem.W.Fast.tw10448880934825903968 : Unit := ()
def PySem.W.Fast.tw16269319895899355625 : Unit := ()
def PySem.W.Fast.tw9990754533799289487 : Unit := ()
def PySem.W.Fast.tw10343503043514496366 : Unit := ()
def PySem.W.Fast.tw13358480714821393150 : Unit := ()
def PySem.W.Fast.tw627915878419848133 : Unit := ()
def PySem.W.Fast.tw765137921188653543 : Unit := ()
def PySem.W.Fast.tw12495493374132253127 : Unit := ()
def PySem.W.Fast.tw14204719976527705397 : Unit := ()
def PySem.W.Fast.tw17806419042012347449 : Unit := ()
def PySem.W.Fast.tw11156539027038681728 : Unit := ()
def PySem.W.Fast.tw2299675798657777928 : Unit := ()
def PySem.W.Fast.tw9645466678014706609 : Unit := ()
def PySem.W.Fast.tw13270122917237520695 : Unit := ()
def PySem.W.Fast.tw3565966799348962427 : Unit := ()
def PySem.W.Fast.tw14485123786839647736 : Unit := ()
def PySem.W.Fast.tw4728574339278791044 : Unit := ()
def PySem.W.Fast.tw1275217843999004316 : Unit := ()
def PySem.W.Fast.tw16089312390039699080 : Unit := ()
def PySem.W.Fast.tw38198711308808800 : Unit := ()
def PySem.W.Fast.tw1101784784257752807 : Unit := ()
def PySem.W.Fast.tw16993464383363067827 : Unit := ()
def PySem.W.Fast.tw9633829226607570794 : Unit := ()
def PySem.W.Fast.tw524296915341265296 : Unit := ()
def PySem.W.Fast.tw178399796332260192 : Unit := ()
def PySem.W.Fast.tw3765907034247908089 : Unit := ()
def PySem.W.Fast.tw11134020613121552365 : Unit := ()
def PySem.W.Fast.tw9721779632693719217 : Unit := ()
def PySem.W.Fast.tw2014500727886277854 : Unit := ()
def PySem.W.Fast.tw4535663581038103114 : Unit := ()
def PySem.W.Fast.tw14840953449287129552 : Unit := ()
def PySem.W.Fast.tw5553331078003766839 : Unit := ()
def PySem.W.Fast.tw4129549080688800693 : Unit := ()
def PySem.W.Fast.tw16540724066907644691 : Unit := ()
def PySem.W.Fast.tw5597020292127324383 : Unit := ()
def PySem.W.Fast.tw9090769554972372447 : Unit := ()
def PySem.W.Fast.tw12835011334297895921 : Unit := ()
def PySem.W.Fast.tw12131733834515241977 : Unit := ()
def PySem.W.Fast.tw18351923293293989630 : Unit := ()
def PySem.W.Fast.tw2445076514465839451 : Unit := ()
def PySem.W.Fast.tw2861035322460873453 : Unit := ()
def PySem.W.Fast.tw3550795877935891579 : Unit := ()
def PySem.W.Fast.tw8444869523122601644 : Unit := ()
def PySem.W.Fast.tw10559427482209643318 : Unit := ()
def PySem.W.Fast.tw6615367780159241917 : Unit := ()
def PySem.W.Fast.tw4546349267693010442 : Unit := ()
def PySem.W.Fast.tw14202447894940825360 : Unit := ()
def PySem.W.Fast.tw12035862207558113747 : Unit := ()
def PySem.W.Fast.tw2689192212695574903 : Unit := ()
def PySem.W.Fast.tw16753228111623560293 : Unit := ()
def PySem.W.Fast.tw11593640544570217941 : Unit := ()
def PySem.W.Fast.tw5435442282980654970 : Unit := ()
def PySem.W.Fast.tw6882309412876249660 : Unit := ()
def PySem.W.Fast.tw12558983406367334987 : Unit := ()
def PySem.W.Fast.tw4708663053393538114 : Unit := ()
def PySem.W.Fast.tw13869701778276122481 : Unit := ()
def PySem.W.Fast.tw12388520232256821624 : Unit := ()
def PySem.W.Fast.tw10003055967646349440 : Unit := ()
def PySem.W.Fast.tw9935323059430133812 : Unit := ()
def PySem.W.Fast.tw8654744052352779559 : Unit := ()
def PySem.W.Fast.tw12327491454807882418 : Unit := ()
def PySem.W.Fast.tw17368053118680203705 : Unit := ()
def PySem.W.Fast.tw9186812143434347880 : Unit := ()
def PySem.W.Fast.tw18312727938013775269 : Unit := ()
def PySem.W.Fast.tw3830655755625144387 : Unit := ()
def PySem.W.Fast.tw7724989970093437200 : Unit := ()
def PySem.W.Fast.tw8009167815783808369 : Unit := ()
def PySem.W.Fast.tw7747410087064045441 : Unit := ()
def PySem.W.Fast.tw11803456951732773106 : Unit := ()
def PySem.W.Fast.tw11282774212565207910 : Unit := ()
def PySem.W.Fast.tw1274218765809262140 : Unit := ()
def PySem.W.Fast.tw352901336935401615 : Unit := ()
def PySem.W.Fast.tw11545949510476067224 : Unit := ()
def PySem.W.Fast.tw3993112740882392162 : Unit := ()
def PySem.W.Fast.tw851546108113792483 : Unit := ()
def PySem.W.Fast.tw13457676930981994094 : Unit := ()
def PySem.W.Fast.tw9319570368461123112 : Unit := ()
def PySem.W.Fast.tw18242271697300953221 : Unit := ()
def PySem.W.Fast.tw14071793583120238672 : Unit := ()
def PySem.W.Fast.tw12362072720105679282 : Unit := ()
def PySem.W.Fast.tw13907500909603405303 : Unit := ()
def PySem.W.Fast.tw7535106474242113574 : Unit := ()
def PySem.W.Fast.tw1151350356820746066 : Unit := ()
def PySem.W.Fast.tw9314521090792017410 : Unit := ()
def PySem.W.Fast.tw16653489114643269398 : Unit := ()
def PySem.W.Fast.tw16117343433089550563 : Unit := ()
def PySem.W.Fast.tw16534332719753196417 : Unit := ()
def PySem.W.Fast.tw5530356210945107665 : Unit := ()
def PySem.W.Fast.tw1620467270682112811 : Unit := ()
def PySem.W.Fast.tw11353405859599628980 : Unit := ()
def PySem.W.Fast.tw7621005652720859479 : Unit := ()
def PySem.W.Fast.tw5134100899326889640 : Unit := ()
def PySem.W.Fast.tw11374454108292702409 : Unit := ()
def PySem.W.Fast.tw8542246811618550723 : Unit := ()
def PySem.W.Fast.tw15773659539426957800 : Unit := ()
def PySem.W.Fast.tw14524982377707988266 : Unit := ()
def PySem.W.Fast.tw5311928502969268433 : Unit := ()
def PySem.W.Fast.tw16553238065520098312 : Unit := ()
def PySem.W.Fast.tw7599008739763851351 : Unit := ()
def PySem.W.Fast.tw6939491284737655519 : Unit := ()
def PySem.W.Fast.tw4063553061588276757 : Unit := ()
def PySem.W.Fast.tw5206927338034987152 : Unit := ()
def PySem.W.Fast.tw17881079283844173484 : Unit := ()
def PySem.W.Fast.tw4877713407801357828 : Unit := ()
def PySem.W.Fast.tw13205982745051528603 : Unit := ()
def PySem.W.Fast.tw8657954863055149186 : Unit := ()
def PySem.W.Fast.tw13046322731536289648 : Unit := ()
def PySem.W.Fast.tw13179472807622294819 : Unit := ()
def PySem.W.Fast.tw16565256267731904895 : Unit := ()
def PySem.W.Fast.tw14753163978472676044 : Unit := ()
def PySem.W.Fast.tw6341553867560877687 : Unit := ()
def PySem.W.Fast.tw2018224956900309848 : Unit := ()
def PySem.W.Fast.tw9096288024190890973 : Unit := ()
def PySem.W.Fast.tw1456087536087774981 : Unit := ()
def PySem.W.Fast.tw7607348791917038193 : Unit := ()
def PySem.W.Fast.tw11105311427464568214 : Unit := ()
def PySem.W.Fast.tw18233280817543004716 : Unit := ()
def PySem.W.Fast.tw3759571245288849062 : Unit := ()
def PySem.W.Fast.tw1248489974347123655 : Unit := ()
def PySem.W.Fast.tw12911780382733792535 : Unit := ()
def PySem.W.Fast.tw17441165393285956824 : Unit := ()
def PySem.W.Fast.tw9675057443597798894 : Unit := ()
def PySem.W.Fast.tw16987276382191480143 : Unit := ()
def PySem.W.Fast.tw7252720336548392188 : Unit := ()
def PySem.W.Fast.tw9506128740017526143 : Unit := ()
def PySem.W.Fast.tw561007835520712285 : Unit := ()
def PySem.W.Fast.tw15686099251683663310 : Unit := ()
def PySem.W.Fast.tw14616104460260893203 : Unit := ()
def PySem.W.Fast.tw15997420309945046464 : Unit := ()
def PySem.W.Fast.tw17481064608295375252 : Unit := ()
def PySem.W.Fast.tw7827378572973801662 : Unit := ()
def PySem.W.Fast.tw457656015652436507 : Unit := ()
def PySem.W.Fast.tw9428188781464318743 : Unit := ()
def PySem.W.Fast.tw3954275630540222622 : Unit := ()
def PySem.W.Fast.tw798902811200565448 : Unit := ()
def PySem.W.Fast.tw9221055343519306639 : Unit := ()
def PySem.W.Fast.tw8887920299724632625 : Unit := ()
def PySem.W.Fast.tw3251439668468526191 : Unit := ()
def PySem.W.Fast.tw12502371239928073330 : Unit := ()
def PySem.W.Fast.tw17682334261556680245 : Unit := ()
def PySem.W.Fast.tw13962091487076461242 : Unit := ()
def PySem.W.Fast.tw15393095894740413135 : Unit := ()
def PySem.W.Fast.tw3333771391159406449 : Unit := ()
def PySem.W.Fast.tw15513563485576143523 : Unit := ()
def PySem.W.Fast.tw18164101952488216802 : Unit := ()
def PySem.W.Fast.tw17733411845626615873 : Unit := ()
def PySem.W.Fast.tw10273867881678426870 : Unit := ()
def PySem.W.Fast.tw11006672865999793267 : Unit := ()
def PySem.W.Fast.tw13588296049974452552 : Unit := ()
def PySem.W.Fast.tw17464618288939093432 : Unit := ()
def PySem.W.Fast.tw15953694339824124360 : Unit := ()
def PySem.W.Fast.tw9769662573317152490 : Unit := ()
def PySem.W.Fast.tw3913565015004151024 : Unit := ()
def PySem.W.Fast.tw12129031853495304374 : Unit := ()
def PySem.W.Fast.tw1523024900404299862 : Unit := ()
def PySem.W.Fast.tw15312364307866002416 : Unit := ()
def PySem.W.Fast.tw11478469078818578348 : Unit := ()
def PySem.W.Fast.tw12536083441679094759 : Unit := ()
def PySem.W.Fast.tw7393545588910096666 : Unit := ()
def PySem.W.Fast.tw3969466925439434140 : Unit := ()
def PySem.W.Fast.tw14637485162127403244 : Unit := ()
def PySem.W.Fast.tw283492366082494401 : Unit := ()
def PySem.W.Fast.tw14380382835890929535 : Unit := ()
def PySem.W.Fast.tw16994652355469145166 : Unit := ()
def PySem.W.Fast.tw7859851864077749686 : Unit := ()
def PySem.W.Fast.tw2266966926261533561 : Unit := ()
def PySem.W.Fast.tw7069440534420213908 : Unit := ()
def PySem.W.Fast.tw12818058134463514950 : Unit := ()
def PySem.W.Fast.tw18070837025715814277 : Unit := ()
def PySem.W.Fast.tw5276063883395718610 : Unit := ()
def PySem.W.Fast.tw16668482140042295039 : Unit := ()
def PySem.W.Fast.tw3953479362529392958 : Unit := ()
def PySem.W.Fast.tw12690501114387407115 : Unit := ()
def PySem.W.Fast.tw17557635924188704927 : Unit := ()
def PySem.W.Fast.tw10028422764486464334 : Unit := ()
def PySem.W.Fast.tw17715311604694475717 : Unit := ()
def PySem.W.Fast.tw6635088942205395063 : Unit := ()
def PySem.W.Fast.tw8783517954787322259 : Unit := ()
def PySem.W.Fast.tw14207983095906906373 : Unit := ()
def PySem.W.Fast.tw10927271174618694906 : Unit := ()
def PySem.W.Fast.tw1219168614350132864 : Unit := ()
def PySem.W.Fast.tw10663955759720822936 : Unit := ()
def PySem.W.Fast.tw3467913239282072978 : Unit := ()
def PySem.W.Fast.tw6376334415569480610 : Unit := ()
def PySem.W.Fast.tw15322345663836293531 : Unit := ()
def PySem.W.Fast.tw1739214802302931360 : Unit := ()
def PySem.W.Fast.tw5720255181494919192 : Unit := ()
def PySem.W.Fast.tw4714497485369694691 : Unit := ()
def PySem.W.Fast.tw1855781986376243435 : Unit := ()
def PySem.W.Fast.tw18089120362493422293 : Unit := ()
def PySem.W.Fast.tw12675213980451268535 : Unit := ()
def PySem.W.Fast.tw8047778723373418035 : Unit := ()
def PySem.W.Fast.tw18213043280401067384 : Unit := ()
def PySem.W.Fast.tw1559477917610068563 : Unit := ()
def PySem.W.Fast.tw1392083334665179522 : Unit := ()
def PySem.W.Fast.tw303602884735346372 : Unit := ()
def PySem.W.Fast.tw6423919114439863247 : Unit := ()
def PySem.W.Fast.tw17801849030560410783 : Unit := ()
def PySem.W.Fast.tw11180866362059550475 : Unit := ()
def PySem.W.Fast.tw1112159532419019124 : Unit := ()
def PySem.W.Fast.tw15317177760320515191 : Unit := ()
def PySem.W.Fast.tw355380105639600109 : Unit := ()
def PySem.W.Fast.tw8277715754311769420 : Unit := ()
def PySem.W.Fast.tw13050448988152628934 : Unit := ()
def PySem.W.Fast.tw5140663025584299552 : Unit := ()
def PySem.W.Fast.tw11775203559279233630 : Unit := ()
def PySem.W.Fast.tw6951560785899359289 : Unit := ()
def PySem.W.Fast.tw5737533475950962530 : Unit := ()
def PySem.W.Fast.tw16659579701607479423 : Unit := ()
def PySem.W.Fast.tw3509562404013733728 : Unit := ()
def PySem.W.Fast.tw3321053927359532837 : Unit := ()
def PySem.W.Fast.tw13154100065641056052 : Unit := ()
def PySem.W.Fast.tw5493206992510006641 : Unit := ()
def PySem.W.Fast.tw2816701568206153356 : Unit := ()
def PySem.W.Fast.tw15764883269701876728 : Unit := ()
def PySem.W.Fast.tw16080563503494440719 : Unit := ()
def PySem.W.Fast.tw9112204103948480073 : Unit := ()
def PySem.W.Fast.tw4694592411087107442 : Unit := ()
def PySem.W.Fast.tw16243548441358054865 : Unit := ()
def PySem.W.Fast.tw8990346819101133570 : Unit := ()
def PySem.W.Fast.tw11341546313489262762 : Unit := ()
def PySem.W.Fast.tw13590706715996443328 : Unit := ()
def PySem.W.Fast.tw4060504200791186883 : Unit := ()
def PySem.W.Fast.tw7013234420099977936 : Unit := ()
def PySem.W.Fast.tw12421609602794642760 : Unit := ()
def PySem.W.Fast.tw15546211074495512048 : Unit := ()
def PySem.W.Fast.tw7339578470059813244 : Unit := ()
def PySem.W.Fast.tw18124578576643911365 : Unit := ()
def PySem.W.Fast.tw10204788215834608223 : Unit := ()
def PySem.W.Fast.tw16596919782981242091 : Unit := ()
def PySem.W.Fast.tw8006721117371548932 : Unit := ()
def PySem.W.Fast.tw12723277281988985392 : Unit := ()
def PySem.W.Fast.tw5886392041347383746 : Unit := ()
def PySem.W.Fast.tw429607269275616748 : Unit := ()
def PySem.W.Fast.tw17652933620477451577 : Unit := ()
def PySem.W.Fast.tw12944921178471084275 : Unit := ()
def PySem.W.Fast.tw17166207942862310272 : Unit := ()
def PySem.W.Fast.tw11271704808234039895 : Unit := ()
def PySem.W.Fast.tw4049152237123827191 : Unit := ()
def PySem.W.Fast.tw3841075331664454458 : Unit := ()
def PySem.W.Fast.tw4817509367075230381 : Unit := ()
def PySem.W.Fast.tw17144601808948590007 : Unit := ()
def PySem.W.Fast.tw18299631427385019587 : Unit := ()
def PySem.W.Fast.tw15855680792374371485 : Unit := ()
def PySem.W.Fast.tw17328514947120878421 : Unit := ()
def PySem.W.Fast.tw15761906577137439500 : Unit := ()
def PySem.W.Fast.tw15649454136414408282 : Unit := ()
def PySem.W.Fast.tw7532340527090546905 : Unit := ()
def PySem.W.Fast.tw12347901208441603090 : Unit := ()
def PySem.W.Fast.tw1511906898068595026 : Unit := ()
def PySem.W.Fast.tw16565073671830044353 : Unit := ()
def PySem.W.Fast.tw8276343035262678283 : Unit := ()
def PySem.W.Fast.tw5597034417075394014 : Unit := ()
def PySem.W.Fast.tw14441540178327075840 : Unit := ()
def PySem.W.Fast.tw16082093598605698323 : Unit := ()
def PySem.W.Fast.tw9081503575275137371 : Unit := ()
def PySem.W.Fast.tw11555716126200195750 : Unit := ()
def PySem.W.Fast.tw14959905644254467715 : Unit := ()
def PySem.W.Fast.tw5167760928571272500 : Unit := ()
def PySem.W.Fast.tw1958983755770205774 : Unit := ()
def PySem.W.Fast.tw17402286999697917165 : Unit := ()
def PySem.W.Fast.tw17752686981907232212 : Unit := ()
def PySem.W.Fast.tw1152712229082888803 : Unit := ()
def PySem.W.Fast.tw17662496458471518053 : Unit := ()
def PySem.W.Fast.tw3431396485645211536 : Unit := ()
def PySem.W.Fast.tw3492899195028508062 : Unit := ()
def PySem.W.Fast.tw14194572271375726989 : Unit := ()
def PySem.W.Fast.tw12844258778310786386 : Unit := ()
def PySem.W.Fast.tw9901881042260393048 : Unit := ()
def PySem.W.Fast.tw8307955310905663381 : Unit := ()
def PySem.W.Fast.tw5760162438909425929 : Unit := ()
def PySem.W.Fast.tw5073082724221502136 : Unit := ()
def PySem.W.Fast.tw16454520325505061560 : Unit := ()
def PySem.W.Fast.tw6632688062409086084 : Unit := ()
def PySem.W.Fast.tw13087850165181029863 : Unit := ()
def PySem.W.Fast.tw637727348365127212 : Unit := ()
def PySem.W.Fast.tw10781854639310529130 : Unit := ()
def PySem.W.Fast.tw5170259469230842283 : Unit := ()
def PySem.W.Fast.tw8168087680217498797 : Unit := ()
def PySem.W.Fast.tw8103773264769196261 : Unit := ()
def PySem.W.Fast.tw18130308391885889608 : Unit := ()
def PySem.W.Fast.tw6485816547461433526 : Unit := ()
def PySem.W.Fast.tw1636236536514006031 : Unit := ()
def PySem.W.Fast.tw8835419093297885367 : Unit := ()
def PySem.W.Fast.tw14707431213763041526 : Unit := ()
def PySem.W.Fast.tw8269857219747174233 : Unit := ()
def PySem.W.Fast.tw1306748355634567822 : Unit := ()
def PySem.W.Fast.tw12512891302896981858 : Unit := ()
def PySem.W.Fast.tw12829523176635861232 : Unit := ()
def PySem.W.Fast.tw254327556578409073 : Unit := ()
def PySem.W.Fast.tw14721694073115581791 : Unit := ()
def PySem.W.Fast.tw1110604480734760281 : Unit := ()
def PySem.W.Fast.tw3203208118925572975 : Unit := ()
def PySem.W.Fast.tw11341065735983721657 : Unit := ()
def PySem.W.Fast.tw16970915644094089041 : Unit := ()
def PySem.W.Fast.tw3843560589579842648 : Unit := ()
def PySem.W.Fast.tw1982459358394521852 : Unit := ()
def PySem.W.Fast.tw8681621123972678876 : Unit := ()
def PySem.W.Fast.tw17071923164181666108 : Unit := ()
def PySem.W.Fast.tw5359949546486893514 : Unit := ()
def PySem.W.Fast.tw16604950989441043539 : Unit := ()
def PySem.W.Fast.tw10381274525553136221 : Unit := ()
def PySem.W.Fast.tw11642563397094780766 : Unit := ()
def PySem.W.Fast.tw14651198938791029370 : Unit := ()
def PySem.W.Fast.tw11190530952872859622 : Unit := ()
def PySem.W.Fast.tw10058389850188427592 : Unit := ()
def PySem.W.Fast.tw7229164118307238095 : Unit := ()
def PySem.W.Fast.tw8534022629758841711 : Unit := ()
def PySem.W.Fast.tw4743177442028501748 : Unit := ()
def PySem.W.Fast.tw775708821266756771 : Unit := ()
def PySem.W.Fast.tw5271758527565759641 : Unit := ()
def PySem.W.Fast.tw16390102223290843776 : Unit := ()
def PySem.W.Fast.tw13527547269512084438 : Unit := ()
def PySem.W.Fast.tw11734279069991115679 : Unit := ()
def PySem.W.Fast.tw11224292245818753039 : Unit := ()
def PySem.W.Fast.tw1723027386223007592 : Unit := ()
def PySem.W.Fast.tw18303811573069514220 : Unit := ()
def PySem.W.Fast.tw8583712447725635793 : Unit := ()
def PySem.W.Fast.tw6126577441921964199 : Unit := ()
def PySem.W.Fast.tw4674230689425097463 : Unit := ()
def PySem.W.Fast.tw14616649016330239654 : Unit := ()
def PySem.W.Fast.tw15081658303981257314 : Unit := ()
def PySem.W.Fast.tw10667016964896706036 : Unit := ()
def PySem.W.Fast.tw7676430241275438576 : Unit := ()
def PySem.W.Fast.tw16391400834867190476 : Unit := ()
def PySem.W.Fast.tw850722402965280165 : Unit := ()
def PySem.W.Fast.tw10099733160401675791 : Unit := ()
def PySem.W.Fast.tw3167153707384501689 : Unit := ()
def PySem.W.Fast.tw13776203234689789853 : Unit := ()
def PySem.W.Fast.tw656423287771884264 : Unit := ()
def PySem.W.Fast.tw14054102529451040130 : Unit := ()
def PySem.W.Fast.tw7718853057450858235 : Unit := ()
def PySem.W.Fast.tw3728911421730163323 : Unit := ()
def PySem.W.Fast.tw17254377701636304209 : Unit := ()
def PySem.W.Fast.tw13842598176521691264 : Unit := ()
def PySem.W.Fast.tw16576575467997400727 : Unit := ()
def PySem.W.Fast.tw10421909973848349074 : Unit := ()
def PySem.W.Fast.tw14830450359526107559 : Unit := ()
def PySem.W.Fast.tw3000720170732258934 : Unit := ()
def PySem.W.Fast.tw15410653481720365604 : Unit := ()
def PySem.W.Fast.tw1276232750850807967 : Unit := ()
def PySem.W.Fast.tw9765934774397106629 : Unit := ()
def PySem.W.Fast.tw7629806995039301590 : Unit := ()
def PySem.W.Fast.tw8572779962247341725 : Unit := ()
def PySem.W.Fast.tw2275801096526423809 : Unit := ()
def PySem.W.Fast.tw9139326371723326316 : Unit := ()
def PySem.W.Fast.tw3761967417570989960 : Unit := ()
def PySem.W.Fast.tw18248775607512375652 : Unit := ()
def PySem.W.Fast.tw16637361972084469251 : Unit := ()
def PySem.W.Fast.tw4019214734742952113 : Unit := ()
def PySem.W.Fast.tw4533885523329875971 : Unit := ()
def PySem.W.Fast.tw11421759473119602814 : Unit := ()
def PySem.W.Fast.tw2247427516312830458 : Unit := ()
def PySem.W.Fast.tw2189725975896651204 : Unit := ()
def PySem.W.Fast.tw11473815298945282761 : Unit := ()
def PySem.W.Fast.tw15874286178207126026 : Unit := ()
def PySem.W.Fast.tw1040833168322633051 : Unit := ()
def PySem.W.Fast.tw17334560642407809270 : Unit := ()
def PySem.W.Fast.tw16441462523581850580 : Unit := ()
def PySem.W.Fast.tw4451532340909943 : Unit := ()
def PySem.W.Fast.tw8194735123340101071 : Unit := ()
def PySem.W.Fast.tw6906061790864493267 : Unit := ()
def PySem.W.Fast.tw17383368369498877760 : Unit := ()
def PySem.W.Fast.tw6573313293473753646 : Unit := ()
def PySem.W.Fast.tw2061848620014821217 : Unit := ()
def PySem.W.Fast.tw14438291504439565158 : Unit := ()
def PySem.W.Fast.tw16536626684334418302 : Unit := ()
def PySem.W.Fast.tw16788568142444669215 : Unit := ()
def PySem.W.Fast.tw8311400347367405053 : Unit := ()
def PySem.W.Fast.tw10237549685604083953 : Unit := ()
def PySem.W.Fast.tw136399678521302501 : Unit := ()
def PySem.W.Fast.tw17631235954246466729 : Unit := ()
def PySem.W.Fast.tw16077926653676347932 : Unit := ()
def PySem.W.Fast.tw13336367005911847596 : Unit := ()
def PySem.W.Fast.tw12472661538111115758 : Unit := ()
def PySem.W.Fast.tw8570653434269875310 : Unit := ()
def PySem.W.Fast.tw7681240631453307277 : Unit := ()
def PySem.W.Fast.tw354475749332729443 : Unit := ()
def PySem.W.Fast.tw1599463641557183693 : Unit := ()
def PySem.W.Fast.tw10199555730932697971 : Unit := ()
def PySem.W.Fast.tw3634334136541657503 : Unit := ()
def PySem.W.Fast.tw2325835142320304888 : Unit := ()
def PySem.W.Fast.tw18094874062536005260 : Unit := ()
def PySem.W.Fast.tw2151392949386574480 : Unit := ()
def PySem.W.Fast.tw13282916107153129178 : Unit := ()
def PySem.W.Fast.tw9764160521150217034 : Unit := ()
def PySem.W.Fast.tw18203096670529730341 : Unit := ()
def PySem.W.Fast.tw2519262348215150127 : Unit := ()
def PySem.W.Fast.tw15745413764260907956 : Unit := ()
def PySem.W.Fast.tw6045762747197321429 : Unit := ()
def PySem.W.Fast.tw16583246714646566742 : Unit := ()
def PySem.W.Fast.tw14436494816877774895 : Unit := ()
def PySem.W.Fast.tw12885027356495671800 : Unit := ()
def PySem.W.Fast.tw16268146022679182529 : Unit := ()
def PySem.W.Fast.tw905428683616298036 : Unit := ()
def PySem.W.Fast.tw5616915408676262505 : Unit := ()
def PySem.W.Fast.tw11426807532047058015 : Unit := ()
def PySem.W.Fast.tw5119558167023405913 : Unit := ()
def PySem.W.Fast.tw17249220000625294017 : Unit := ()
def PySem.W.Fast.tw613849954759852408 : Unit := ()
def PySem.W.Fast.tw4988744893159038975 : Unit := ()
def PySem.W.Fast.tw2693646798258186965 : Unit := ()
def PySem.W.Fast.tw15654612380993530340 : Unit := ()
def PySem.W.Fast.tw7105437265804331499 : Unit := ()
def PySem.W.Fast.tw13469105631398202522 : Unit := ()
def PySem.W.Fast.tw12759845959652253159 : Unit := ()
def PySem.W.Fast.tw10500602032870430935 : Unit := ()
def PySem.W.Fast.tw15580027737759746631 : Unit := ()
def PySem.W.Fast.tw12668262803186621728 : Unit := ()
def PySem.W.Fast.tw12392505766753943719 : Unit := ()
def PySem.W.Fast.tw8264869996549857302 : Unit := ()
def PySem.W.Fast.tw2393203907339724953 : Unit := ()
def PySem.W.Fast.tw5714635831021395643 : Unit := ()
def PySem.W.Fast.tw8152813420647695524 : Unit := ()
def PySem.W.Fast.tw3793903614118108332 : Unit := ()
def PySem.W.Fast.tw2773017660801157107 : Unit := ()
def PySem.W.Fast.tw15297180468142629781 : Unit := ()
def PySem.W.Fast.tw16543983980445132109 : Unit := ()
def PySem.W.Fast.tw1208184629860475881 : Unit := ()
def PySem.W.Fast.tw10614668272257932927 : Unit := ()
def PySem.W.Fast.tw11417924098460089771 : Unit := ()
def PySem.W.Fast.tw11396250132619720001 : Unit := ()
def PySem.W.Fast.tw13622699290565353707 : Unit := ()
def PySem.W.Fast.tw8329265689696430792 : Unit := ()
def PySem.W.Fast.tw6949512122844035888 : Unit := ()
def PySem.W.Fast.tw2624273434246528000 : Unit := ()
def PySem.W.Fast.tw10363567401223104842 : Unit := ()
def PySem.W.Fast.tw12291490624930668610 : Unit := ()
def PySem.W.Fast.tw5856899388203133951 : Unit := ()
def PySem.W.Fast.tw12892017340225056237 : Unit := ()
def PySem.W.Fast.tw16723468178958460050 : Unit := ()
def PySem.W.Fast.tw2828226787363231562 : Unit := ()
def PySem.W.Fast.tw12502542815214343015 : Unit := ()
def PySem.W.Fast.tw12598674355085861942 : Unit := ()
def PySem.W.Fast.tw4782167197084187175 : Unit := ()
def PySem.W.Fast.tw16452377779205811088 : Unit := ()
def PySem.W.Fast.tw3917520313906953172 : Unit := ()
def PySem.W.Fast.tw16139600759705507096 : Unit := ()
def PySem.W.Fast.tw9089750484751126956 : Unit := ()
def PySem.W.Fast.tw11528385158716665948 : Unit := ()
def PySem.W.Fast.tw13000056416640519717 : Unit := ()
def PySem.W.Fast.tw7759618839998952503 : Unit := ()
def PySem.W.Fast.tw13255831348410671968 : Unit := ()
def PySem.W.Fast.tw8520648804778476207 : Unit := ()
def PySem.W.Fast.tw6718296255551992216 : Unit := ()
def PySem.W.Fast.tw3330370745406777528 : Unit := ()
def PySem.W.Fast.tw15475481205990793580 : Unit := ()
def PySem.W.Fast.tw4066131876798393764 : Unit := ()
def PySem.W.Fast.tw8579485154083565414 : Unit := ()
def PySem.W.Fast.tw14254694164309020759 : Unit := ()
def PySem.W.Fast.tw1295665387643332979 : Unit := ()
def PySem.W.Fast.tw12987944240686466072 : Unit := ()
def PySem.W.Fast.tw3830511334558858156 : Unit := ()
def PySem.W.Fast.tw16511866814013465565 : Unit := ()
def PySem.W.Fast.tw151074633364902214 : Unit := ()
def PySem.W.Fast.tw4856414345624379973 : Unit := ()
def PySem.W.Fast.tw15049308027957589688 : Unit := ()
def PySem.W.Fast.tw3589501861172561333 : Unit := ()
def PySem.W.Fast.tw16116633066545030946 : Unit := ()
def PySem.W.Fast.tw15448334234674412434 : Unit := ()
def PySem.W.Fast.tw5465110951785415982 : Unit := ()
def PySem.W.Fast.tw8480905096088548358 : Unit := ()
def PySem.W.Fast.tw15115166854186862431 : Unit := ()
def PySem.W.Fast.tw17401354086414193882 : Unit := ()
def PySem.W.Fast.tw13224141373023907253 : Unit := ()
def PySem.W.Fast.tw7234403540691345190 : Unit := ()
def PySem.W.Fast.tw10639362895498591774 : Unit := ()
def PySem.W.Fast.tw17239730651156886366 : Unit := ()
def PySem.W.Fast.tw4493775259841895505 : Unit := ()
def PySem.W.Fast.tw14625667431825106280 : Unit := ()
def PySem.W.Fast.tw13541254886588282456 : Unit := ()
def PySem.W.Fast.tw6790151803165894158 : Unit := ()
def PySem.W.Fast.tw8322938183963404544 : Unit := ()
def PySem.W.Fast.tw8301749040681651290 : Unit := ()
def PySem.W.Fast.tw221820803220798780 : Unit := ()
def PySem.W.Fast.tw11953590973899902296 : Unit := ()
def PySem.W.Fast.tw10169441033660159297 : Unit := ()
def PySem.W.Fast.tw6206093881396288880 : Unit := ()
def PySem.W.Fast.tw1498443539543043950 : Unit := ()
def PySem.W.Fast.tw607665606914075870 : Unit := ()
def PySem.W.Fast.tw13560759453980492294 : Unit := ()
def PySem.W.Fast.tw16078143173862626924 : Unit := ()
def PySem.W.Fast.tw6698905547212496462 : Unit := ()
def PySem.W.Fast.tw3906390254232662383 : Unit := ()
def PySem.W.Fast.tw15905476737763093733 : Unit := ()
def PySem.W.Fast.tw17737075666889973402 : Unit := ()
def PySem.W.Fast.tw14444300542939542509 : Unit := ()
def PySem.W.Fast.tw1874371529246772406 : Unit := ()
def PySem.W.Fast.tw1793232460715412367 : Unit := ()
def PySem.W.Fast.tw9963779156420203001 : Unit := ()
def PySem.W.Fast.tw2908653713037089600 : Unit := ()
def PySem.W.Fast.tw15653572587265963368 : Unit := ()
def PySem.W.Fast.tw10469531465701275182 : Unit := ()
def PySem.W.Fast.tw3293794788876662333 : Unit := ()
def PySem.W.Fast.tw590985487747588650 : Unit := ()
def PySem.W.Fast.tw8465661203067456206 : Unit := ()
def PySem.W.Fast.tw15821221373221242748 : Unit := ()
def PySem.W.Fast.tw12209188359855104566 : Unit := ()
def PySem.W.Fast.tw5331941648301182500 : Unit := ()
def PySem.W.Fast.tw8246001527230261676 : Unit := ()
def PySem.W.Fast.tw14124919636719107467 : Unit := ()
def PySem.W.Fast.tw9173202497914894025 : Unit := ()
def PySem.W.Fast.tw16593535990464819638 : Unit := ()
def PySem.W.Fast.tw13488080086734594078 : Unit := ()
def PySem.W.Fast.tw18130216246491999781 : Unit := ()
def PySem.W.Fast.tw16898169908059899 : Unit := ()
def PySem.W.Fast.tw17436436949505674999 : Unit := ()
def PySem.W.Fast.tw10843320667397641841 : Unit := ()
def PySem.W.Fast.tw6701707804424105658 : Unit := ()
def PySem.W.Fast.tw12950098150482410357 : Unit := ()
def PySem.W.Fast.tw6865683683198312821 : Unit := ()
def PySem.W.Fast.tw15050452227266524222 : Unit := ()
def PySem.W.Fast.tw13730736436979350788 : Unit := ()
def PySem.W.Fast.tw1806103056801405474 : Unit := ()
def PySem.W.Fast.tw7537444280903876221 : Unit := ()
def PySem.W.Fast.tw17520565822945424214 : Unit := ()
def PySem.W.Fast.tw3797387886223540043 : Unit := ()
def PySem.W.Fast.tw6598296618013850922 : Unit := ()
def PySem.W.Fast.tw7107657530355106374 : Unit := ()
def PySem.W.Fast.tw17486082394469400547 : Unit := ()
def PySem.W.Fast.tw7294523683994612210 : Unit := ()
def PySem.W.Fast.tw11299755706520850007 : Unit := ()
def PySem.W.Fast.tw10000810017723066535 : Unit := ()
def PySem.W.Fast.tw5922301384660977859 : Unit := ()
def PySem.W.Fast.tw14133127039457589134 : Unit := ()
def PySem.W.Fast.tw13416227341173512797 : Unit := ()
def PySem.W.Fast.tw2776003488399620017 : Unit := ()
def PySem.W.Fast.tw4717303486299669128 : Unit := ()
def PySem.W.Fast.tw7901725272583402816 : Unit := ()
def PySem.W.Fast.tw10069171241053054739 : Unit := ()
def PySem.W.Fast.tw11595553101992143369 : Unit := ()
def PySem.W.Fast.tw5915132375865404734 : Unit := ()
def PySem.W.Fast.tw14038678996512731891 : Unit := ()
def PySem.W.Fast.tw6826785576587785124 : Unit := ()
def PySem.W.Fast.tw5664720700035631240 : Unit := ()
def PySem.W.Fast.tw9414508032779551846 : Unit := ()
def PySem.W.Fast.tw4763916144648990935 : Unit := ()
def PySem.W.Fast.tw5928526858437715944 : Unit := ()
def PySem.W.Fast.tw7028720449517474959 : Unit := ()
def PySem.W.Fast.tw14728807226024833642 : Unit := ()
def PySem.W.Fast.tw7373334887334220069 : Unit := ()
def PySem.W.Fast.tw5463022397063285138 : Unit := ()
def PySem.W.Fast.tw15367962730417186152 : Unit := ()
def PySem.W.Fast.tw9354430757066376869 : Unit := ()
def PySem.W.Fast.tw282008543291762469 : Unit := ()
def PySem.W.Fast.tw11074284580565412713 : Unit := ()
def PySem.W.Fast.tw3521457262648309261 : Unit := ()
def PySem.W.Fast.tw4811033572626593659 : Unit := ()
def PySem.W.Fast.tw15644744088805494858 : Unit := ()
def PySem.W.Fast.tw11777133093675299238 : Unit := ()
def PySem.W.Fast.tw9965591385026302759 : Unit := ()
def PySem.W.Fast.tw586581271971919236 : Unit := ()
def PySem.W.Fast.tw2076949258937322996 : Unit := ()
def PySem.W.Fast.tw16923430229262853632 : Unit := ()
def PySem.W.Fast.tw5880754152636344012 : Unit := ()
def PySem.W.Fast.tw2331808210611401926 : Unit := ()
def PySem.W.Fast.tw14135390221510596193 : Unit := ()
def PySem.W.Fast.tw13570507833159523300 : Unit := ()
def PySem.W.Fast.tw14040394916712275771 : Unit := ()
def PySem.W.Fast.tw16804970645125572065 : Unit := ()
def PySem.W.Fast.tw9131026845950005558 : Unit := ()
def PySem.W.Fast.tw8800408613530974002 : Unit := ()
def PySem.W.Fast.tw18391352659907067563 : Unit := ()
def PySem.W.Fast.tw3120567731013080947 : Unit := ()
def PySem.W.Fast.tw13749795154919492517 : Unit := ()
def PySem.W.Fast.tw1834220340609332573 : Unit := ()
def PySem.W.Fast.tw3094552986149760022 : Unit := ()
def PySem.W.Fast.tw16456421579185331384 : Unit := ()
def PySem.W.Fast.tw10739074945799824935 : Unit := ()
def PySem.W.Fast.tw6874394258736086832 : Unit := ()
def PySem.W.Fast.tw10377042361359642592 : Unit := ()
def PySem.W.Fast.tw6797778055506788548 : Unit := ()
def PySem.W.Fast.tw3293661491651230148 : Unit := ()
def PySem.W.Fast.tw5913336580877981743 : Unit := ()
def PySem.W.Fast.tw13397949154846764017 : Unit := ()
def PySem.W.Fast.tw14279679895121390538 : Unit := ()
def PySem.W.Fast.tw7627996214650810580 : Unit := ()
def PySem.W.Fast.tw16212035958413126449 : Unit := ()
def PySem.W.Fast.tw16744875323908101734 : Unit := ()
def PySem.W.Fast.tw6550023566536282957 : Unit := ()
def PySem.W.Fast.tw13264026259319802274 : Unit := ()
def PySem.W.Fast.tw17911212306271086574 : Unit := ()
def PySem.W.Fast.tw2491144676997114008 : Unit := ()
def PySem.W.Fast.tw6137823834345954241 : Unit := ()
def PySem.W.Fast.tw15044251083795539817 : Unit := ()
def PySem.W.Fast.tw3715787903332146738 : Unit := ()
def PySem.W.Fast.tw39507850294431744 : Unit := ()
def PySem.W.Fast.tw11069296603490605523 : Unit := ()
def PySem.W.Fast.tw1460962750209352847 : Unit := ()
def PySem.W.Fast.tw7822177810372778199 : Unit := ()
def PySem.W.Fast.tw12284404453637994912 : Unit := ()
def PySem.W.Fast.tw17587034471820898261 : Unit := ()
def PySem.W.Fast.tw7812277761577790270 : Unit := ()
def PySem.W.Fast.tw1523803103167125635 : Unit := ()
def PySem.W.Fast.tw16050975008378643045 : Unit := ()
def PySem.W.Fast.tw18432943106317523383 : Unit := ()
def PySem.W.Fast.tw5703322844582736995 : Unit := ()
def PySem.W.Fast.tw7377529457250914775 : Unit := ()
def PySem.W.Fast.tw10983281110051242778 : Unit := ()
def PySem.W.Fast.tw9568192770910411872 : Unit := ()
def PySem.W.Fast.tw8678364794783241937 : Unit := ()
def PySem.W.Fast.tw2599139404551638360 : Unit := ()
def PySem.W.Fast.tw9994874185921242114 : Unit := ()
def PySem.W.Fast.tw3879068718412502992 : Unit := ()
def PySem.W.Fast.tw3955355722334469389 : Unit := ()
def PySem.W.Fast.tw2742222033518992010 : Unit := ()
def PySem.W.Fast.tw7735016650895693201 : Unit := ()
def PySem.W.Fast.tw15667457238464456156 : Unit := ()
def PySem.W.Fast.tw12356134546119800119 : Unit := ()
def PySem.W.Fast.tw1378315534369312264 : Unit := ()
def PySem.W.Fast.tw13941117953581885465 : Unit := ()
def PySem.W.Fast.tw2647480465825714183 : Unit := ()
def PySem.W.Fast.tw7554671592864311786 : Unit := ()
def PySem.W.Fast.tw11159461195025355365 : Unit := ()
def PySem.W.Fast.tw18250274499065603235 : Unit := ()
def PySem.W.Fast.tw3354516287658493605 : Unit := ()
def PySem.W.Fast.tw471573559375422949 : Unit := ()
def PySem.W.Fast.tw9830432973300003641 : Unit := ()
def PySem.W.Fast.tw16425152025412934174 : Unit := ()
def PySem.W.Fast.tw11883865802050304523 : Unit := ()
def PySem.W.Fast.tw3398067127592718783 : Unit := ()
def PySem.W.Fast.tw4494721441163173422 : Unit := ()
def PySem.W.Fast.tw7696566561350593694 : Unit := ()
def PySem.W.Fast.tw14333079883456539311 : Unit := ()
def PySem.W.Fast.tw16474396995390059701 : Unit := ()
def PySem.W.Fast.tw16065972508072982536 : Unit := ()
def PySem.W.Fast.tw3741463152831226392 : Unit := ()
def PySem.W.Fast.tw17055259508654477422 : Unit := ()
def PySem.W.Fast.tw16485564701538811573 : Unit := ()
def PySem.W.Fast.tw16881887952857630605 : Unit := ()
def PySem.W.Fast.tw7235873346459424850 : Unit := ()
def PySem.W.Fast.tw7405394715770786328 : Unit := ()
def PySem.W.Fast.tw2338755131312761809 : Unit := ()
def PySem.W.Fast.tw10313729254933511109 : Unit := ()
def PySem.W.Fast.tw1184519788189197098 : Unit := ()
def PySem.W.Fast.tw10770216729177842120 : Unit := ()
def PySem.W.Fast.tw14310198230919572933 : Unit := ()
def PySem.W.Fast.tw1208392592820603868 : Unit := ()
def PySem.W.Fast.tw18026575752565542076 : Unit := ()
def PySem.W.Fast.tw18027101862980601840 : Unit := ()
def PySem.W.Fast.tw7921808082903768331 : Unit := ()
def PySem.W.Fast.tw1576507961729584001 : Unit := ()
def PySem.W.Fast.tw12026354341940638785 : Unit := ()
def PySem.W.Fast.tw2943867001454453165 : Unit := ()
def PySem.W.Fast.tw9382203515618331472 : Unit := ()
def PySem.W.Fast.tw13054181027256253918 : Unit := ()
def PySem.W.Fast.tw4873972449648453500 : Unit := ()
def PySem.W.Fast.tw12090834872036597309 : Unit := ()
def PySem.W.Fast.tw14750898225960641822 : Unit := ()
def PySem.W.Fast.tw6260753972232976775 : Unit := ()
def PySem.W.Fast.tw2602241933994760286 : Unit := ()
def PySem.W.Fast.tw10447012573865249369 : Unit := ()
def PySem.W.Fast.tw16035098422357629708 : Unit := ()
def PySem.W.Fast.tw1184197836536247425 : Unit := ()
def PySem.W.Fast.tw6799505041031954832 : Unit := ()
def PySem.W.Fast.tw10557744289987828777 : Unit := ()
def PySem.W.Fast.tw5234630396106338529 : Unit := ()
def PySem.W.Fast.tw8863741875333851833 : Unit := ()
def PySem.W.Fast.tw12345520437120482847 : Unit := ()
def PySem.W.Fast.tw8110372377897559782 : Unit := ()
def PySem.W.Fast.tw13650384301506507760 : Unit := ()
def PySem.W.Fast.tw12923676729983471815 : Unit := ()
def PySem.W.Fast.tw4067836615922190023 : Unit := ()
def PySem.W.Fast.tw8679040337121641511 : Unit := ()
def PySem.W.Fast.tw15788946807274436833 : Unit := ()
def PySem.W.Fast.tw4695173778440349469 : Unit := ()
def PySem.W.Fast.tw817310583636933925 : Unit := ()
def PySem.W.Fast.tw17918249720366478694 : Unit := ()
def PySem.W.Fast.tw6577493516327690476 : Unit := ()
def PySem.W.Fast.tw17460381344311194215 : Unit := ()
def PySem.W.Fast.tw11381051621147151288 : Unit := ()
def PySem.W.Fast.tw16796612421810686114 : Unit := ()
def PySem.W.Fast.tw2966524987678332339 : Unit := ()
def PySem.W.Fast.tw2310888846952968977 : Unit := ()
def PySem.W.Fast.tw10850865567949594309 : Unit := ()
def PySem.W.Fast.tw738625709120140914 : Unit := ()
def PySem.W.Fast.tw15426316078536322381 : Unit := ()
def PySem.W.Fast.tw16367875879099061614 : Unit := ()
def PySem.W.Fast.tw10086209622897241453 : Unit := ()
def PySem.W.Fast.tw9744891810786508300 : Unit := ()
def PySem.W.Fast.tw8440987229651619743 : Unit := ()
def PySem.W.Fast.tw1154225207041862248 : Unit := ()
def PySem.W.Fast.tw6912133422472511972 : Unit := ()
def PySem.W.Fast.tw17281086480535990810 : Unit := ()
def PySem.W.Fast.tw4450164960324663798 : Unit := ()
def PySem.W.Fast.tw5631712344994857237 : Unit := ()
def PySem.W.Fast.tw13944810602787458642 : Unit := ()
def PySem.W.Fast.tw14050474451449295287 : Unit := ()
def PySem.W.Fast.tw11155159970479969620 : Unit := ()
def PySem.W.Fast.tw10930448647471470926 : Unit := ()
def PySem.W.Fast.tw5169433108265941927 : Unit := ()
def PySem.W.Fast.tw13101162124613135405 : Unit := ()
def PySem.W.Fast.tw5402696686611267963 : Unit := ()
def PySem.W.Fast.tw16315311111340942413 : Unit := ()
def PySem.W.Fast.tw11491045640611975253 : Unit := ()
def PySem.W.Fast.tw14297839001336701284 : Unit := ()
def PySem.W.Fast.tw14521888222852937046 : Unit := ()
def PySem.W.Fast.tw18326886834675973463 : Unit := ()
def PySem.W.Fast.tw10677521211906087570 : Unit := ()
def PySem.W.Fast.tw7142111459139758860 : Unit := ()
def PySem.W.Fast.tw13557662145512378381 : Unit := ()
def PySem.W.Fast.tw3691555109550712999 : Unit := ()
def PySem.W.Fast.tw10852729371137823122 : Unit := ()
def PySem.W.Fast.tw6511605804016000255 : Unit := ()
def PySem.W.Fast.tw13504813431398619101 : Unit := ()
def PySem.W.Fast.tw5491378385860293803 : Unit := ()
def PySem.W.Fast.tw10511997410150953237 : Unit := ()
def PySem.W.Fast.tw13836960224094284334 : Unit := ()
def PySem.W.Fast.tw11085531632479868267 : Unit := ()
def PySem.W.Fast.tw3279993609219826324 : Unit := ()
def PySem.W.Fast.tw6171778094416146956 : Unit := ()
def PySem.W.Fast.tw11800352407998701451 : Unit := ()
def PySem.W.Fast.tw4513549506425002709 : Unit := ()
def PySem.W.Fast.tw10409477012525269804 : Unit := ()
def PySem.W.Fast.tw280263821700029832 : Unit := ()
def PySem.W.Fast.tw5410219704295410479 : Unit := ()
def PySem.W.Fast.tw18130015497243241624 : Unit := ()
def PySem.W.Fast.tw8809361654488167208 : Unit := ()
def PySem.W.Fast.tw3009399569999133967 : Unit := ()
def PySem.W.Fast.tw8979816722411317077 : Unit := ()
def PySem.W.Fast.tw1407942374402386554 : Unit := ()
def PySem.W.Fast.tw8088153081871714635 : Unit := ()
def PySem.W.Fast.tw12723282239463357364 : Unit := ()
def PySem.W.Fast.tw18031922050199803765 : Unit := ()
def PySem.W.Fast.tw8805957561733068503 : Unit := ()
def PySem.W.Fast.tw1746974449611563809 : Unit := ()
def PySem.W.Fast.tw6117558157451323628 : Unit := ()
def PySem.W.Fast.tw17936650866240680695 : Unit := ()
def PySem.W.Fast.tw5022696204458013893 : Unit := ()
def PySem.W.Fast.tw6346634671836236691 : Unit := ()
def PySem.W.Fast.tw7422737862324170543 : Unit := ()
def PySem.W.Fast.tw7031042647584346338 : Unit := ()
def PySem.W.Fast.tw1473751643895040889 : Unit := ()
def PySem.W.Fast.tw9746024243050889284 : Unit := ()
def PySem.W.Fast.tw8860079679753482047 : Unit := ()
def PySem.W.Fast.tw16296022176419270777 : Unit := ()
def PySem.W.Fast.tw10209242942923079769 : Unit := ()
def PySem.W.Fast.tw14720218718826817736 : Unit := ()
def PySem.W.Fast.tw2014304715193704259 : Unit := ()
def PySem.W.Fast.tw18115508223910970314 : Unit := ()
def PySem.W.Fast.tw16767745226087851728 : Unit := ()
def PySem.W.Fast.tw698021401410489494 : Unit := ()
def PySem.W.Fast.tw16525487327302019701 : Unit := ()
def PySem.W.Fast.tw10400729531546186539 : Unit := ()
def PySem.W.Fast.tw9972846118764672263 : Unit := ()
def PySem.W.Fast.tw5077185453732555714 : Unit := ()
def PySem.W.Fast.tw17845473104847984837 : Unit := ()
def PySem.W.Fast.tw16728086786511151365 : Unit := ()
def PySem.W.Fast.tw7909077628380782022 : Unit := ()
def PySem.W.Fast.tw6332406934394956728 : Unit := ()
def PySem.W.Fast.tw7921030072602249850 : Unit := ()
def PySem.W.Fast.tw802480287385040982 : Unit := ()
def PySem.W.Fast.tw4589583279697398679 : Unit := ()
def PySem.W.Fast.tw2268501251714460986 : Unit := ()
def PySem.W.Fast.tw2900998990159753756 : Unit := ()
def PySem.W.Fast.tw1783630707711436477 : Unit := ()
def PySem.W.Fast.tw12374426452988685419 : Unit := ()
def PySem.W.Fast.tw1657345052451202255 : Unit := ()
def PySem.W.Fast.tw9450732050445115913 : Unit := ()
def PySem.W.Fast.tw5264367579032099469 : Unit := ()
def PySem.W.Fast.tw4244578907026822347 : Unit := ()
def PySem.W.Fast.tw15586095112024412921 : Unit := ()
def PySem.W.Fast.tw4311156474971640185 : Unit := ()
def PySem.W.Fast.tw5960181229036080081 : Unit := ()
def PySem.W.Fast.tw6554172316051944135 : Unit := ()
def PySem.W.Fast.tw6267150056354912929 : Unit := ()
def PySem.W.Fast.tw138398594465854652 : Unit := ()
def PySem.W.Fast.tw10898260414881237480 : Unit := ()
def PySem.W.Fast.tw8374718809615318235 : Unit := ()
def PySem.W.Fast.tw2151838892416885823 : Unit := ()
def PySem.W.Fast.tw2810812626845105910 : Unit := ()
def PySem.W.Fast.tw7835943357439277416 : Unit := ()
def PySem.W.Fast.tw4760778637089697710 : Unit := ()
def PySem.W.Fast.tw3431717574915275686 : Unit := ()
def PySem.W.Fast.tw8112853711147693241 : Unit := ()
def PySem.W.Fast.tw15174111983732238653 : Unit := ()
def PySem.W.Fast.tw10301151778965248141 : Unit := ()
def PySem.W.Fast.tw13112129470812181940 : Unit := ()
def PySem.W.Fast.tw7968869992096022420 : Unit := ()
def PySem.W.Fast.tw516396419698522933 : Unit := ()
def PySem.W.Fast.tw8946042415738133175 : Unit := ()
def PySem.W.Fast.tw6754192445552895498 : Unit := ()
def PySem.W.Fast.tw17342339332607119970 : Unit := ()
def PySem.W.Fast.tw11370057534309529824 : Unit := ()
def PySem.W.Fast.tw15618095258650517628 : Unit := ()
def PySem.W.Fast.tw10196803445360545847 : Unit := ()
def PySem.W.Fast.tw9405224359291358524 : Unit := ()
def PySem.W.Fast.tw15186644931599713729 : Unit := ()
def PySem.W.Fast.tw927833548866536744 : Unit := ()
def PySem.W.Fast.tw12570930516248829883 : Unit := ()
def PySem.W.Fast.tw11014816106507070517 : Unit := ()
def PySem.W.Fast.tw16557159593160957415 : Unit := ()
def PySem.W.Fast.tw18312354174835197588 : Unit := ()
def PySem.W.Fast.tw7836513214548808827 : Unit := ()
def PySem.W.Fast.tw16972038620801862999 : Unit := ()
def PySem.W.Fast.tw1993908196292473085 : Unit := ()
def PySem.W.Fast.tw9451663564298532084 : Unit := ()
def PySem.W.Fast.tw9360985427696898284 : Unit := ()
def PySem.W.Fast.tw12283033525955804766 : Unit := ()
def PySem.W.Fast.tw8244228935044714419 : Unit := ()
def PySem.W.Fast.tw4389299790237022999 : Unit := ()
def PySem.W.Fast.tw2892186547652859680 : Unit := ()
def PySem.W.Fast.tw9601308115236275852 : Unit := ()
def PySem.W.Fast.tw4979475065454641730 : Unit := ()
def PySem.W.Fast.tw17670071836230497183 : Unit := ()
def PySem.W.Fast.tw17142235609784957613 : Unit := ()
def PySem.W.Fast.tw14909216296183995269 : Unit := ()
def PySem.W.Fast.tw3891306070460444543 : Unit := ()
def PySem.W.Fast.tw2580830557519770418 : Unit := ()
def PySem.W.Fast.tw9758719098034682462 : Unit := ()
def PySem.W.Fast.tw4431108999714778124 : Unit := ()
def PySem.W.Fast.tw9324707438361926002 : Unit := ()
def PySem.W.Fast.tw324714357441684260 : Unit := ()
def PySem.W.Fast.tw8057095172797102042 : Unit := ()
def PySem.W.Fast.tw4160957096765245323 : Unit := ()
def PySem.W.Fast.tw14144905675858601356 : Unit := ()
def PySem.W.Fast.tw2886381907547175026 : Unit := ()
def PySem.W.Fast.tw10497448468809905652 : Unit := ()
def PySem.W.Fast.tw13424972534432933988 : Unit := ()
def PySem.W.Fast.tw12853125402396459498 : Unit := ()
def PySem.W.Fast.tw16891039852656020683 : Unit := ()
def PySem.W.Fast.tw7894864811678725199 : Unit := ()
def PySem.W.Fast.tw16395097161069111026 : Unit := ()
def PySem.W.Fast.tw10371525303707212649 : Unit := ()
def PySem.W.Fast.tw14777327363708733026 : Unit := ()
def PySem.W.Fast.tw5492248216498425234 : Unit := ()
def PySem.W.Fast.tw5935351849927634752 : Unit := ()
def PySem.W.Fast.tw14541048225065184534 : Unit := ()
def PySem.W.Fast.tw912361150975305338 : Unit := ()
def PySem.W.Fast.tw17450611006384430747 : Unit := ()
def PySem.W.Fast.tw3355711559644404173 : Unit := ()
def PySem.W.Fast.tw11480112525486641358 : Unit := ()
def PySem.W.Fast.tw5886447999111829271 : Unit := ()
def PySem.W.Fast.tw3266045969822768983 : Unit := ()
def PySem.W.Fast.tw275110825337224136 : Unit := ()
def PySem.W.Fast.tw14538662083221743071 : Unit := ()
def PySem.W.Fast.tw7434595814964129628 : Unit := ()
def PySem.W.Fast.tw6091146397137879020 : Unit := ()
namespace U
open PySem PySem.W
def hkLive (x : Obj) : Option Obj := match x with
  | ⟨_, _, .freed, _⟩ => none
  | o => some o
theorem hkLive_get {h : Heap} {a : Addr} {x : Obj} (q : h.objs[a]? = some x) : h.get? a = hkLive x := by
  unfold Heap.get?
  rw [q]
  obtain ⟨c, d, dt, sl⟩ := x
  cases dt <;> rfl
noncomputable def hkScan (l : List Obj) : Nat → List Nat → List (Option Obj) :=
  @List.rec Obj (fun _ => Nat → List Nat → List (Option Obj)) (fun _ as => as.map fun _ => none)
    (fun x _ ih k as => @List.rec Nat (fun _ => List (Option Obj)) [] (fun a t _ => @Bool.rec (fun _ => List (Option Obj)) (ih (k + 1) (a :: t)) (hkLive x :: ih (k + 1) t) (Nat.beq a k)) as) l
theorem hkScan_nil (k : Nat) (as : List Nat) : hkScan [] k as = as.map fun _ => none := rfl
theorem hkScan_cons0 (x : Obj) (l : List Obj) (k : Nat) : hkScan (x :: l) k [] = [] := rfl
theorem hkScan_cons (x : Obj) (l : List Obj) (k a : Nat) (t : List Nat) : hkScan (x :: l) k (a :: t) = if a = k then hkLive x :: hkScan l (k + 1) t else hkScan l (k + 1) (a :: t) := by
  show @Bool.rec (fun _ => List (Option Obj)) (hkScan l (k + 1) (a :: t)) (hkLive x :: hkScan l (k + 1) t) (Nat.beq a k) = _
  cases h : Nat.beq a k with
  | true => rw [if_pos (Nat.eq_of_beq_eq_true h)]
  | false => rw [if_neg (Nat.ne_of_beq_eq_false h)]
theorem hkScan_at : ∀ (l : List Obj) (k : Nat) (as : List Nat) (i a : Nat) (o : Obj), as[i]? = some a → (hkScan l k as)[i]? = some (some o) → k ≤ a ∧ ∃ y, l[a - k]? = some y ∧ hkLive y = some o
  | [], k, as, i, a, o, h1, h2 => by
    rw [hkScan_nil, List.getElem?_map, h1] at h2
    cases h2
  | x :: l, k, [], i, a, o, h1, h2 => by simp at h1
  | x :: l, k, b :: t, i, a, o, h1, h2 => by
    rw [hkScan_cons] at h2
    have up : ∀ {as : List Nat} {j : Nat}, as[j]? = some a → (hkScan l (k + 1) as)[j]? = some (some o) → k ≤ a ∧ ∃ y, (x :: l)[a - k]? = some y ∧ hkLive y = some o := fun g1 g2 => by
      obtain ⟨q1, y, q2, q3⟩ := hkScan_at l (k + 1) _ _ a o g1 g2
      refine ⟨by omega, y, ?_, q3⟩
      rw [show a - k = (a - (k + 1)) + 1 by omega, List.getElem?_cons_succ]
      exact q2
    split at h2
    · rename_i hb
      cases i with
      | zero =>
        rw [List.getElem?_cons_zero] at h1 h2
        cases h1
        subst hb
        exact ⟨Nat.le_refl _, x, by rw [Nat.sub_self]; rfl, Option.some.inj h2⟩
      | succ j =>
        rw [List.getElem?_cons_succ] at h1 h2
        exact up h1 h2
    · exact up h1 h2
theorem hk_of {K : Params → Frag} {as : List Addr} (e : ∀ P, as = (K P).map (·.1)) (w : World) (s : Shared) (x : hkScan s.heap.objs.toList 0 as = (K w.params).map fun p => some p.2) : InK K w s.heap := by
  refine InK.of e w s ?_
  refine List.ext_getElem? fun i => ?_
  have ei : as[i]? = ((K w.params)[i]?).map (·.1) := by rw [e w.params, List.getElem?_map]
  have xi : (hkScan s.heap.objs.toList 0 as)[i]? = ((K w.params)[i]?).map (fun p => some p.2) := by rw [x, List.getElem?_map]
  rw [List.getElem?_map, List.getElem?_map]
  cases hp : (K w.params)[i]? with
  | none => rw [hp] at ei; rw [ei]; rfl
  | some p =>
    rw [hp] at ei xi
    rw [ei]
    obtain ⟨_, y, q, hy⟩ := hkScan_at _ 0 as i p.1 p.2 ei xi
    rw [Nat.sub_zero, Array.getElem?_toList] at q
    show some (s.heap.get? p.1) = some (some p.2)
    rw [hkLive_get q, hy]
noncomputable def hkHook (K : Params → Frag) (as : List Addr) (e : ∀ P, as = (K P).map (·.1)) : Hook :=
  ⟨List (Option Obj), fun s => hkScan s.heap.objs.toList 0 as, fun w => (K w.params).map fun p => some p.2, InK K, hk_of e, InK.keeps⟩
theorem hkIn_of {K : Params → Frag} {as : List Addr} {e : ∀ P, as = (K P).map (·.1)} {w : World} {h : Heap} (Y : (hkHook K as e).says w h) : (K w.params).In h := Y
end U
local macro_rules | `(tactic| o_head ($_:ident $k $a $e)) => `(tactic| o_head (@U.hkHook $k $a (by as_aux_lemma => exact $e)))
set_option maxRecDepth 100000 in
set_option maxHeartbeats 0 in
theorem PySem.Challenge.cw_unseenflips_k03_rules_refused_holds : PySem.Challenge.rw_unseenflips_k03_rules_refused.Holds := by
  w_on; o_law; k_head; (case hw => w_witness2)
  k_fill
  refine U.walk (l := PySem.Challenge.rw_unseenflips_k03_rules_refused) rfl rfl (fun w h Y => U.hkIn_of Y) ?F
  case F =>
    intro w mg fa h KX G hmg
    refine' U.all_mk KX G hmg ?a_is_sequence ?l_is_sequence ?c_is_sequence ?k_is_sequence ?a_is_word ?l_is_word ?c_is_word ?k_is_word ?a_is_bit ?l_is_bit ?c_is_bit ?k_is_bit ?a_tail ?l_tail ?c_tail ?k_tail ?a_is_stuff ?l_is_stuff ?c_is_stuff ?k_is_stuff ?a_are_stuffs ?l_are_stuffs ?c_are_stuffs ?k_are_stuffs ?a_l_seed ?l_l_seed ?c_l_seed ?k_l_seed ?a_l_choose ?l_l_choose ?c_l_choose ?k_l_choose ?a_l_one_of ?l_l_one_of ?c_l_one_of ?k_l_one_of ?a_l_word ?l_l_word ?c_l_word ?k_l_word ?a_l_put ?l_l_put ?c_l_put ?k_l_put ?a_l_is_rule ?l_l_is_rule ?c_l_is_rule ?k_l_is_rule ?a_l_rule ?l_l_rule ?c_l_rule ?k_l_rule ?a_l_deep ?l_l_deep ?c_l_deep ?k_l_deep ?a_l_leaf ?l_l_leaf ?c_l_leaf ?k_l_leaf ?a_l_any ?l_l_any ?c_l_any ?k_l_any ?a_l_is_word ?l_l_is_word ?c_l_is_word ?k_l_is_word ?a_l_is_stuff ?l_l_is_stuff ?c_l_is_stuff ?k_l_is_stuff ?a_l_due ?l_l_due ?c_l_due ?k_l_due ?a_l_heard ?l_l_heard ?c_l_heard ?k_l_heard ?a_law ?l_law ?c_law ?k_law ?aC_Rule ?pg_Rule ?hd_Rule ?po_Rule ?sa_Rule ?mk_Rule ?kc_Rule ?n_Rule_flag ?n_Rule_stuffs ?a_Rule_put ?i_Rule_put ?l_Rule_put ?c_Rule_put ?k_Rule_put ?a_Rule_longest ?g_Rule_longest ?t_Rule_longest ?r_Rule_longest ?l_Rule_longest ?c_Rule_longest ?a_Rule_put_in ?i_Rule_put_in ?l_Rule_put_in ?c_Rule_put_in ?k_Rule_put_in ?a_Rule_is_endless ?i_Rule_is_endless ?l_Rule_is_endless ?c_Rule_is_endless ?k_Rule_is_endless ?a_Rule_init ?i_Rule_init ?l_Rule_init ?c_Rule_init ?k_Rule_init ?dl_Rule_init ?dlE_Rule ?aC_InvalidRule ?elk_InvalidRule ?erf_InvalidRule ?sa_InvalidRule ?exC_InvalidRule ?tyC_InvalidRule ?kC_InvalidRule ?no_InvalidRule ?a_InvalidRule ?t_InvalidRule ?lk_InvalidRule ?cd_InvalidRule ?cell_InvalidRule ?code_InvalidRule ?cfl_InvalidRule ?fl_InvalidRule ?tp_InvalidRule ?sub_InvalidRule ?sup_InvalidRule ?opq_InvalidRule ?ini_InvalidRule ?ve_InvalidRule ?ehd_InvalidRule ?esb_InvalidRule ?ega_InvalidRule ?egg_InvalidRule ?mro_Rule ?cls_Rule ?clg_X ?clt_X ?kon_rt ?kon_rl ?kon_rs ?aGI_FlipError ?aGI_InvalidCheck ?xg_InvalidRule ?xk_InvalidRule ?xs_InvalidRule ?xd_InvalidRule ?xa_InvalidRule ?xm_InvalidRule ?kon_if ?kon_ic ?gBITS ?z_len ?z_abs ?z_int ?z_range ?z_max ?z_min ?z_enumerate ?z_zip ?z_dict ?z_list ?z_tuple ?z_isinstance ?z_bool ?z_str ?z_all ?z_any ?z_sum ?z_sorted ?z_repr
    (case a_is_sequence => k_is)
    (case l_is_sequence => k_is)
    (case c_is_sequence => k_is)
    (case k_is_sequence => k_is)
    (case a_is_word => k_is)
    (case l_is_word => k_is)
    (case c_is_word => k_is)
    (case k_is_word => k_is)
    (case a_is_bit => k_is)
    (case l_is_bit => k_is)
    (case c_is_bit => k_is)
    (case k_is_bit => k_is)
    (case a_tail => k_is)
    (case l_tail => k_is)
    (case c_tail => k_is)
    (case k_tail => k_is)
    (case a_is_stuff => k_is)
    (case l_is_stuff => k_is)
    (case c_is_stuff => k_is)
    (case k_is_stuff => k_is)
    (case a_are_stuffs => k_is)
    (case l_are_stuffs => k_is)
    (case c_are_stuffs => k_is)
    (case k_are_stuffs => k_is)
    (case a_l_seed => k_is)
    (case l_l_seed => k_is)
    (case c_l_seed => k_is)
    (case k_l_seed => k_is)
    (case a_l_choose => k_is)
    (case l_l_choose => k_is)
    (case c_l_choose => k_is)
    (case k_l_choose => k_is)
    (case a_l_one_of => k_is)
    (case l_l_one_of => k_is)
    (case c_l_one_of => k_is)
    (case k_l_one_of => k_is)
    (case a_l_word => k_is)
    (case l_l_word => k_is)
    (case c_l_word => k_is)
    (case k_l_word => k_is)
    (case a_l_put => k_is)
    (case l_l_put => k_is)
    (case c_l_put => k_is)
    (case k_l_put => k_is)
    (case a_l_is_rule => k_is)
    (case l_l_is_rule => k_is)
    (case c_l_is_rule => k_is)
    (case k_l_is_rule => k_is)
    (case a_l_rule => k_is)
    (case l_l_rule => k_is)
    (case c_l_rule => k_is)
    (case k_l_rule => k_is)
    (case a_l_deep => k_is)
    (case l_l_deep => k_is)
    (case c_l_deep => k_is)
    (case k_l_deep => k_is)
    (case a_l_leaf => k_is)
    (case l_l_leaf => k_is)
    (case c_l_leaf => k_is)
    (case k_l_leaf => k_is)
    (case a_l_any => k_is)
    (case l_l_any => k_is)
    (case c_l_any => k_is)
    (case k_l_any => k_is)
    (case a_l_is_word => k_is)
    (case l_l_is_word => k_is)
    (case c_l_is_word => k_is)
    (case k_l_is_word => k_is)
    (case a_l_is_stuff => k_is)
    (case l_l_is_stuff => k_is)
    (case c_l_is_stuff => k_is)
    (case k_l_is_stuff => k_is)
    (case a_l_due => k_is)
    (case l_l_due => k_is)
    (case c_l_due => k_is)
    (case k_l_due => k_is)
    (case a_l_heard => k_is)
    (case l_l_heard => k_is)
    (case c_l_heard => k_is)
    (case k_l_heard => k_is)
    (case a_law => k_is)
    (case l_law => k_is)
    (case c_law => k_is)
    (case k_law => k_is)
    (case aC_Rule => k_is)
    (case pg_Rule => k_is)
    (case hd_Rule => k_is)
    (case po_Rule => k_is)
    (case sa_Rule => k_is)
    (case mk_Rule => k_is)
    (case kc_Rule => k_is)
    (case n_Rule_flag => k_is)
    (case n_Rule_stuffs => k_is)
    (case a_Rule_put => k_is)
    (case i_Rule_put => k_is)
    (case l_Rule_put => k_is)
    (case c_Rule_put => k_is)
    (case k_Rule_put => k_is)
    (case a_Rule_longest => k_is)
    (case g_Rule_longest => k_is)
    (case t_Rule_longest => k_is)
    (case r_Rule_longest => k_is)
    (case l_Rule_longest => k_is)
    (case c_Rule_longest => k_is)
    (case a_Rule_put_in => k_is)
    (case i_Rule_put_in => k_is)
    (case l_Rule_put_in => k_is)
    (case c_Rule_put_in => k_is)
    (case k_Rule_put_in => k_is)
    (case a_Rule_is_endless => k_is)
    (case i_Rule_is_endless => k_is)
    (case l_Rule_is_endless => k_is)
    (case c_Rule_is_endless => k_is)
    (case k_Rule_is_endless => k_is)
    (case a_Rule_init => k_is)
    (case i_Rule_init => k_is)
    (case l_Rule_init => k_is)
    (case c_Rule_init => k_is)
    (case k_Rule_init => k_is)
    (case dl_Rule_init => k_is)
    (case dlE_Rule => k_is)
    (case aC_InvalidRule => k_is)
    (case elk_InvalidRule => k_is)
    (case erf_InvalidRule => decide +kernel)
    (case sa_InvalidRule => k_is)
    (case exC_InvalidRule => k_is)
    (case tyC_InvalidRule => k_is)
    (case kC_InvalidRule => k_is)
    (case no_InvalidRule => k_is)
    (case a_InvalidRule => k_is)
    (case t_InvalidRule => k_is)
    (case lk_InvalidRule => k_is)
    (case cd_InvalidRule => k_is)
    (case cell_InvalidRule => k_is)
    (case code_InvalidRule => k_is)
    (case cfl_InvalidRule => exact rfl)
    (case fl_InvalidRule => decide +kernel)
    (case tp_InvalidRule => decide +kernel)
    (case sub_InvalidRule => k_is)
    (case sup_InvalidRule => k_is)
    (case opq_InvalidRule => k_is)
    (case ini_InvalidRule => kernel_rfl)
    (case ve_InvalidRule => k_is)
    (case ehd_InvalidRule => k_is)
    (case esb_InvalidRule => k_is)
    (case ega_InvalidRule => k_is)
    (case egg_InvalidRule => k_is)
    (case mro_Rule => k_is)
    (case cls_Rule => k_is)
    (case clg_X => k_is)
    (case clt_X => k_is)
    (case kon_rt => kernel_rfl)
    (case kon_rl => kernel_rfl)
    (case kon_rs => kernel_rfl)
    (case aGI_FlipError => k_is)
    (case aGI_InvalidCheck => k_is)
    (case xg_InvalidRule => k_is)
    (case xk_InvalidRule => k_is)
    (case xs_InvalidRule => k_is)
    (case xd_InvalidRule => k_is)
    (case xa_InvalidRule => k_is)
    (case xm_InvalidRule => k_is)
    (case kon_if => kernel_rfl)
    (case kon_ic => kernel_rfl)
    (case gBITS => k_is)
    (case z_len => k_is)
    (case z_abs => k_is)
    (case z_int => k_is)
    (case z_range => k_is)
    (case z_max => k_is)
    (case z_min => k_is)
    (case z_enumerate => k_is)
    (case z_zip => k_is)
    (case z_dict => k_is)
    (case z_list => k_is)
    (case z_tuple => k_is)
    (case z_isinstance => k_is)
    (case z_bool => k_is)
    (case z_str => k_is)
    (case z_all => k_is)
    (case z_any => k_is)
    (case z_sum => k_is)
    (case z_sorted => k_is)
    (case z_repr => k_is)
#print axioms PySem.Challenge.cw_unseenflips_k03_rules_refused_holds