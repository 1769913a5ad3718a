import PyProof.Rows.All
import Wide.All
import OpenK.AllK
import Wide.FinOn
import HandS.ForMost
import HandS.Codes
import HandS.FStr
import HandS.IsInst
import HandS.Star
import HandS.TupAny
import HandS.Style
import HandS.Walk
import KE.GoesEnum
import KE.GoesNew
import HandS.Property
import HandS.Defaults
import HandS.ClsMeth
import HandS.MakeKw
import KE.GoesZip
import HandS.SortOrd
import HandS.SortRule
import HandS.OwnEq
import HandS.CallLocal
import KE.KCallOwn
import HandS.ExcInit
import HandS.Nested
import HandS.TryOnly
import KE.KExcSuper
import HandS.ExcOwn
import HandS.ExcIs
import HandS.DictComp
import HandS.Iter
import KE.KDictList
import PyProof.TupleOfSeq
import HandS.Replace
import PySem.Challenge.RW_unseenflips_k29_any_values_as_papers
set_option Elab.async false
set_option linter.all false
set_option maxRecDepth 100000
set_option maxHeartbeats 4000000
namespace Lx
open PySem PySem.Spec PyProof.Rows L2

/-! enumerate over a text -/
def ItES (x : Str) : It := ⟨fun i _ => i < x.cps.size, fun i H v H' => ∃ T c, v = .ref T ∧ H T = none ∧ H' = upd H T (.tup [.int (i : Nat), .str ⟨#[c]⟩]) ∧ x.cps[i]? = some c, fun i _ => x.cps.size ≤ i⟩
theorem turn_enumS {P : Program} {w : World} {K : PySem.W.Frag} {elts : List Expr} {kk : Nat} {tpos : Pos} (x : Str) (t : Tok) (e it : Addr) :
    Turn P w K (.Tuple elts kk tpos) (ItES x) [e, it] e (fun i h => (∃ old, IsEnum h e it ((i : Nat) : Int) old) ∧ h.IsStrIter it (strIterType x) x t i ∧ e ≠ it ∧ i ≤ x.cps.size) where
  mem := by simp
  obj := fun i h st b hb => by
    obtain ⟨⟨old, he⟩, ⟨o, ho, hc, hd⟩, _⟩ := st
    have e' : b = e ∨ b = it := by simpa using hb
    rcases e' with z | z
    · rw [z]; exact ⟨_, he, fun v q => nomatch q⟩
    · rw [z]; exact ⟨o, ho, fun v q => by rw [hd] at q; cases q⟩
  keep := fun i h h' st k => by
    obtain ⟨⟨old, he⟩, ⟨o, ho, r⟩, hne⟩ := st
    exact ⟨⟨old, k e (by simp) _ he⟩, ⟨o, k it (by simp) o ho, r⟩, hne⟩
  item := by
    intro X hP hw hK hc i pins s σ H E I hf st hg
    subst hP hw hK
    obtain ⟨⟨old, he⟩, hit, hne, _⟩ := st
    have hlt : i < x.cps.size := hg
    have hel : e < s.heap.objs.size := Heap.lt_size he
    have hil : it < s.heap.objs.size := by obtain ⟨_, q, _⟩ := hit; exact Heap.lt_size q
    have hh : X.A.in1.handled = none := I.ok.hd hc
    refine wpAny_pyNext_enum_itemC (Draws.text hh it x t) he hit hlt hne (by simpa using hne) fun v h' tk hP ho hit' hT hsz hk => ?_
    obtain ⟨c, u, hcx, rfl⟩ := hP
    refine ⟨_, rfl, wpAny_letOwnedTupleGo_enum (s := { s with heap := h', toks := tk + 1 }) ho fun h'' he' sb => ?_⟩
    have hT2 : h''.get? s.heap.objs.size = some { cls := .type "tuple", data := .seq #[.int i tk, .str ⟨#[c]⟩ u] } := (sb.2 _ (Nat.ne_of_gt hel)).trans hT
    have new : ObjOk X.prog X.w (upd H s.heap.objs.size (.tup [.int (i : Nat), .str ⟨#[c]⟩])) h'' s.heap.objs.size (.tup [.int (i : Nat), .str ⟨#[c]⟩]) :=
      ⟨by show 2 ≤ sizeLine; decide, [.int i tk, .str ⟨#[c]⟩ u], .cons ⟨_, rfl⟩ (.cons ⟨_, rfl⟩ .nil), ⟨_, hT2, rfl, _, rfl⟩⟩
    have I1 : Inv X pins σ (upd H s.heap.objs.size (.tup [.int (i : Nat), .str ⟨#[c]⟩])) { s with heap := h'', toks := tk + 1 } :=
      I.turnedNew (ch := [e, it]) (fun b ob hb q => (sb.2 b (fun z => hb (by simp [z]))).trans (hk b ob (fun z => hb (by simp [z])) (fun z => hb (by simp [z])) q)) hf (Nat.le_refl _) new
    refine ⟨.ref s.heap.objs.size, _, I1, rfl, ⟨_, c, rfl, I.hok.fresh (Nat.le_refl _), rfl, hcx⟩, ⟨⟨.str ⟨#[c]⟩ u, ?_⟩, ?_, hne, hlt⟩, fun b hb => ?_⟩
    · have e1 : ((i + 1 : Nat) : Int) = (i : Int) + 1 := by omega
      rw [e1]; exact he'
    · obtain ⟨o, ho', r⟩ := hit'
      exact ⟨o, (sb.2 it (Ne.symm hne)).trans ho', r⟩
    · have hb' : b < s.heap.objs.size := by
        have e' : b = e ∨ b = it := by simpa using hb
        rcases e' with z | z
        · rw [z]; exact hel
        · rw [z]; exact hil
      rw [upd_ne (Nat.ne_of_lt hb')]
      exact (hf b hb).1
  done := by
    intro X hP hw hK hc i pins s σ H E I hf st hg
    subst hP hw hK
    obtain ⟨⟨old, he⟩, hit, hne, hle⟩ := st
    have hge : x.cps.size ≤ i := hg
    have hi : i = x.cps.size := Nat.le_antisymm hle hge
    subst hi
    have hh : X.A.in1.handled = none := I.ok.hd hc
    obtain ⟨f0, f1, f2, f3, f4, f5⟩ := hf it (by simp)
    exact wpAny_pyNext_enum_endD (Draws.text hh it x t) he hit fun h' eb => ⟨rfl, I.turned (t' := s.toks) (fun b o hb q => eb b o hb q) f0 f1 f3 f4 f5⟩
  self := fun A i s Q E st h => let ⟨⟨_, he⟩, _⟩ := st; wpAny_pyIter_enum he h
def iEnumS (ta : TA) : TI := fun σ H R => ta σ H fun vs H1 => ∃ x, vs = [.str x] ∧ R (ItES x) H1
theorem pi_enumS {X : Cx} {e : Expr} {ta : TA} {p pos tpos : Pos} {elts : List Expr} {kk : Nat} (hg : Gl X "enumerate") (hm : X.mg "enumerate" = none) (ha : PA X [e] ta) (hs : starEach [e] X.env = [(false, eval e X.env)] := by rfl) :
    PI X (.Tuple elts kk tpos) (.Call (.Name "enumerate" p) [e] [] pos) (iEnumS ta) := by
  refine ⟨fun pins s σ H R I h => ?_⟩
  refine Call_ (ld_blt I hg hm boot_enumerate (PyProof.Rows.callWith_type1 (thn (ha.run pos pins s σ H _ I h) fun us s1 ⟨vs, H1, I1, r1, q1⟩ => ?_) hs rfl))
  obtain ⟨x, ex, q⟩ := q1
  subst ex
  cases r1 with
  | cons r rr =>
    cases rr
    obtain ⟨t, rfl⟩ := r
    refine call_enumerate_str fun h' he hit hsz hk => wpAny_pyIter_enum he ?_
    have I2 : Inv X pins σ H1 { s1 with heap := h' } := I1.kept (t' := s1.toks) hk
    refine ⟨s1.heap.objs.size + 1, [s1.heap.objs.size + 1, s1.heap.objs.size], _, _, H1, rfl, I2, turn_enumS x t (s1.heap.objs.size + 1) s1.heap.objs.size, ⟨⟨.none, he⟩, hit, Nat.succ_ne_self _, Nat.zero_le _⟩, fun b hb => ?_, q⟩
    have e' : b = s1.heap.objs.size + 1 ∨ b = s1.heap.objs.size := by simpa using hb
    have hle : s1.heap.objs.size ≤ b := by
      rcases e' with z | z
      · rw [z]; exact Nat.le_add_right _ _
      · rw [z]; exact Nat.le_refl _
    exact I1.fpOk hle (I1.hok.fresh hle)

/-! enumerate over a tuple -/
def ItET (K : PySem.W.Frag) (a : Addr) : It :=
  ⟨fun i H => ∃ (xs : List V) (x : V), SqT K H a xs ∧ xs[i]? = some x, fun i H v H' => ∃ T x, v = .ref T ∧ H T = none ∧ H' = upd H T (.tup [.int (i : Nat), x]) ∧ ∀ xs, SqT K H a xs → xs[i]? = some x, fun i H => ∃ xs : List V, SqT K H a xs ∧ xs.length ≤ i⟩
theorem meets_enumerate_newT (l : Addr) (items : Array Value) (n : Nat) (dct : Option Addr) (sl : Array (Option Value)) :
    Meets (Builtin.«enumerate.__new__» ⟨[.type "enumerate", .ref l], []⟩) (fun _ R s => s.heap.get? l = some { cls := .type "tuple", dict := dct, data := .seq items n, slots := sl } ∧
      R (.ok (.ret (.ref (s.heap.push { cls := .type "tuple_iterator", data := .fields #[.ref l, .int 0 0] }).objs.size)))
        { s with heap := (s.heap.push { cls := .type "tuple_iterator", data := .fields #[.ref l, .int 0 0] }).push { cls := .type "enumerate", data := .fields #[.none, .bool false, .ref s.heap.objs.size, rawInt 0, .none, .none] } }) :=
  .of_wp fun prog w A R s h => by
    obtain ⟨hp, g, d, tk, os⟩ := s; obtain ⟨hl, h⟩ := h
    have hsub := sub_enumerate
    have hL : Heap.IsTuple (Shared.heap ⟨hp, g, d, tk, os⟩) l items := ⟨_, hl, rfl, n, rfl⟩
    wp_walk using AutoSeq1.wpAny_loadPart' hl
    refine wpAny_stack_any fun st => wpAny_pure ?_
    split
    · rename_i c _ _ _ _ _
      cases (c == Value.type "enumerate")
      · wp_walk using AutoSeq1.wpAny_loadPart' hl, wpAny_pyIter_tuple hL
        exact ⟨_, rfl, h⟩
      · wp_walk using AutoSeq1.wpAny_loadPart' hl, wpAny_pyIter_tuple hL
        exact ⟨_, rfl, h⟩
    · wp_walk using AutoSeq1.wpAny_loadPart' hl, wpAny_pyIter_tuple hL
      exact ⟨_, rfl, h⟩
theorem call_enumerate_tup {prog : Program} {w : World} {A : Around} {E : Value → Shared → Prop} {s : Shared} {l : Addr} {items : Array Value} {Q : Value → Shared → Prop} (hL : s.heap.IsTuple l items)
    (h : ∀ h', IsEnum h' (s.heap.objs.size + 1) s.heap.objs.size 0 .none → h'.IsTupleIter s.heap.objs.size l 0 → h'.objs.size = s.heap.objs.size + 2 →
      (∀ b o, s.heap.get? b = some o → h'.get? b = some o) → Q (.ref (s.heap.objs.size + 1)) { s with heap := h' }) :
    wpAny (model prog w) A (call (.type "enumerate") [.ref l]) Q E s := by
  obtain ⟨⟨c, dct, dt, sl⟩, hl, hc, n, hd⟩ := hL
  replace hc : c = .type "tuple" := hc
  replace hd : dt = .seq items n := hd
  subst hc hd
  refine callType_new F.called_enumerate (by decide) (F.typeCall_enumerate_1 _) (F.newCall_enumerate_1 _) (fun obj => F.args_object_init_2 obj _) F.entry_enumerate_new
    (meets_enumerate_newT l items n dct sl) ⟨hl, ?_⟩
  have hz : (s.heap.push { cls := .type "tuple_iterator", data := .fields #[.ref l, .int 0 0] }).objs.size = s.heap.objs.size + 1 := Heap.size_push ..
  show _ ∧ _
  rw [hz]
  have he : IsEnum ((s.heap.push { cls := .type "tuple_iterator", data := .fields #[.ref l, .int 0 0] }).push
      { cls := .type "enumerate", data := .fields #[.none, .bool false, .ref s.heap.objs.size, rawInt 0, .none, .none] }) (s.heap.objs.size + 1) s.heap.objs.size 0 .none := by
    have := Heap.get?_push_size (s.heap.push { cls := .type "tuple_iterator", data := .fields #[.ref l, .int 0 0] })
      (o := { cls := .type "enumerate", data := .fields #[.none, .bool false, .ref s.heap.objs.size, rawInt 0, .none, .none] }) rfl
    rw [hz] at this; exact this
  refine ⟨⟨_, he, rfl⟩, h _ he ⟨_, Heap.get?_push_of_some _ (Heap.get?_push_size _ rfl), rfl, rfl⟩ (by rw [Heap.size_push, hz]) fun b o x => Heap.get?_push_of_some _ (Heap.get?_push_of_some _ x)⟩
theorem turn_enumT {P : Program} {w : World} {K : PySem.W.Frag} {elts : List Expr} {kk : Nat} {tpos : Pos} (a e it : Addr) :
    Turn P w K (.Tuple elts kk tpos) (ItET K a) [e, it] e (fun i h => (∃ old, IsEnum h e it ((i : Nat) : Int) old) ∧ h.IsTupleIter it a i ∧ e ≠ it ∧ a ≠ it ∧ a ≠ e) where
  mem := by simp
  obj := fun i h st b hb => by
    obtain ⟨⟨old, he⟩, ⟨o, ho, hc, hd⟩, _⟩ := st
    have e' : b = e ∨ b = it := by simpa using hb
    rcases e' with z | z
    · rw [z]; exact ⟨_, he, fun v q => nomatch q⟩
    · rw [z]; exact ⟨o, ho, fun v q => by rw [hd] at q; cases q⟩
  keep := fun i h h' st k => by
    obtain ⟨⟨old, he⟩, ⟨o, ho, r⟩, hne⟩ := st
    exact ⟨⟨old, k e (by simp) _ he⟩, ⟨o, k it (by simp) o ho, r⟩, hne⟩
  item := by
    intro X hP hw hK hc i pins s σ H E I hf st hg
    subst hP hw hK
    obtain ⟨⟨old, he⟩, hit, hne, hai, hae⟩ := st
    obtain ⟨xs, x, hq, hx⟩ := hg
    obtain ⟨its, rv, p, hz⟩ := I.tuple hq
    obtain ⟨u, hu, ru⟩ := rv.get hx
    have hel : e < s.heap.objs.size := Heap.lt_size he
    have hil : it < s.heap.objs.size := by obtain ⟨_, q, _⟩ := hit; exact Heap.lt_size q
    have hh : X.A.in1.handled = none := I.ok.hd hc
    have pT : s.heap.IsTuple a its.toArray := p
    have hlt : i < its.toArray.size := by
      have := (List.getElem?_eq_some_iff.mp hu).1
      simpa using this
    refine wpAny_pyNext_enum_itemC (Draws.tuple hh it a hai its.toArray) he ⟨hit, pT⟩ hlt hne (by simp [hne, Ne.symm hae]) fun v h' tk hP ho hit' hT hsz hk => ?_
    have ev : v = u := by
      have hP' : its.toArray[i]? = some v := hP
      rw [List.getElem?_toArray, hu] at hP'
      exact (Option.some.inj hP').symm
    subst ev
    refine ⟨_, rfl, wpAny_letOwnedTupleGo_enum (s := { s with heap := h', toks := tk + 1 }) ho fun h'' he' sb => ?_⟩
    have hT2 : h''.get? s.heap.objs.size = some { cls := .type "tuple", data := .seq #[.int i tk, v] } := (sb.2 _ (Nat.ne_of_gt hel)).trans hT
    have new : ObjOk X.prog X.w (upd H s.heap.objs.size (.tup [.int (i : Nat), x])) h'' s.heap.objs.size (.tup [.int (i : Nat), x]) :=
      ⟨by show 2 ≤ sizeLine; decide, [.int i tk, v], .cons ⟨_, rfl⟩ (.cons ru .nil), ⟨_, hT2, rfl, _, rfl⟩⟩
    have I1 : Inv X pins σ (upd H s.heap.objs.size (.tup [.int (i : Nat), x])) { s with heap := h'', toks := tk + 1 } :=
      I.turnedNew (ch := [e, it]) (fun b ob hb q => (sb.2 b (fun z => hb (by simp [z]))).trans (hk b ob (fun z => hb (by simp [z])) (fun z => hb (by simp [z])) q)) hf (Nat.le_refl _) new
    refine ⟨.ref s.heap.objs.size, _, I1, rfl, ⟨_, x, rfl, I.hok.fresh (Nat.le_refl _), rfl, fun ys hy => by rw [I.tuple_inj hy hq]; exact hx⟩, ⟨⟨v, ?_⟩, ?_, hne, hai, hae⟩, fun b hb => ?_⟩
    · have e1 : ((i + 1 : Nat) : Int) = (i : Int) + 1 := by omega
      rw [e1]; exact he'
    · obtain ⟨⟨o, ho', r⟩, _⟩ := hit'
      exact ⟨o, (sb.2 it (Ne.symm hne)).trans ho', r⟩
    · have hb' : b < s.heap.objs.size := by
        have e' : b = e ∨ b = it := by simpa using hb
        rcases e' with z | z
        · rw [z]; exact hel
        · rw [z]; exact hil
      rw [upd_ne (Nat.ne_of_lt hb')]
      exact (hf b hb).1
  done := by
    intro X hP hw hK hc i pins s σ H E I hf st hg
    subst hP hw hK
    obtain ⟨⟨old, he⟩, hit, hne, hai, hae⟩ := st
    obtain ⟨xs, hq, hx⟩ := hg
    obtain ⟨its, rv, p, hz⟩ := I.tuple hq
    have hl := rv.length
    have pT : s.heap.IsTuple a its.toArray := p
    have hh : X.A.in1.handled = none := I.ok.hd hc
    obtain ⟨f0, f1, f2, f3, f4, f5⟩ := hf it (by simp)
    have D : Draws X.prog X.w X.A.in1 it [it, a] i (fun _ _ => True) (fun j h => j = i ∧ h.IsTupleIter it a i ∧ h.IsTuple a its.toArray) :=
      { live := fun _ _ st => let ⟨o, ho, _⟩ := st.2.1; ⟨o, ho⟩
        frame := fun _ _ _ st hk => ⟨st.1, st.2.1.at fun o e => hk it (by simp) o e, st.2.2.at fun o e => hk a (by simp) o e⟩
        item := fun j s Q E hj st hQ => absurd st.1 (Nat.ne_of_lt hj)
        done := fun s Q E st hE => wpAny_nextOf_tuple_end hh st.2.1 st.2.2 (by simp; omega) hE }
    exact wpAny_pyNext_enum_endD D he ⟨rfl, hit, pT⟩ fun h' eb => ⟨rfl, I.turned (t' := s.toks) (fun b o hb q => eb b o hb q) f0 f1 f3 f4 f5⟩
  self := fun A i s Q E st h => let ⟨⟨_, he⟩, _⟩ := st; wpAny_pyIter_enum he h
def iEnumT (K : PySem.W.Frag) (ta : TA) : TI := fun σ H R => ta σ H fun vs H1 => ∃ a xs, vs = [.ref a] ∧ SqT K H1 a xs ∧ R (ItET K a) H1
theorem pi_enumT {X : Cx} {e : Expr} {ta : TA} {p pos tpos : Pos} {elts : List Expr} {kk : Nat} (hg : Gl X "enumerate") (hm : X.mg "enumerate" = none) (ha : PA X [e] ta) (hs : starEach [e] X.env = [(false, eval e X.env)] := by rfl) :
    PI X (.Tuple elts kk tpos) (.Call (.Name "enumerate" p) [e] [] pos) (iEnumT X.K ta) := by
  refine ⟨fun pins s σ H R I h => ?_⟩
  refine Call_ (ld_blt I hg hm boot_enumerate (PyProof.Rows.callWith_type1 (thn (ha.run pos pins s σ H _ I h) fun us s1 ⟨vs, H1, I1, r1, q1⟩ => ?_) hs rfl))
  obtain ⟨a, xs, ex, hq, q⟩ := q1
  subst ex
  cases r1 with
  | cons r rr =>
    cases rr
    cases r
    obtain ⟨its, rv, p', hz⟩ := I1.tuple hq
    have pT : s1.heap.IsTuple a its.toArray := p'
    have hlt : a < s1.heap.objs.size := by obtain ⟨o, ho, _⟩ := pT; exact Heap.lt_size ho
    refine call_enumerate_tup pT fun h' he hit hsz hk => wpAny_pyIter_enum he ?_
    have I2 : Inv X pins σ H1 { s1 with heap := h' } := I1.kept (t' := s1.toks) hk
    refine ⟨s1.heap.objs.size + 1, [s1.heap.objs.size + 1, s1.heap.objs.size], _, _, H1, rfl, I2, turn_enumT a (s1.heap.objs.size + 1) s1.heap.objs.size, ⟨⟨.none, he⟩, hit, Nat.succ_ne_self _, Nat.ne_of_lt hlt, Nat.ne_of_lt (Nat.lt_succ_of_lt hlt)⟩, fun b hb => ?_, q⟩
    have e' : b = s1.heap.objs.size + 1 ∨ b = s1.heap.objs.size := by simpa using hb
    have hle : s1.heap.objs.size ≤ b := by
      rcases e' with z | z
      · rw [z]; exact Nat.le_add_right _ _
      · rw [z]; exact Nat.le_refl _
    exact I1.fpOk hle (I1.hok.fresh hle)
/-- a list or a tuple, enumerated -/
def iEnumQ (K : PySem.W.Frag) (ta : TA) : TI := fun σ H R => iEnum K ta σ H R ∨ iEnumT K ta σ H R
theorem pi_enumQ {X : Cx} {e : Expr} {ta : TA} {p pos tpos : Pos} {elts : List Expr} {kk : Nat} (hg : Gl X "enumerate") (hm : X.mg "enumerate" = none) (ha : PA X [e] ta) (hs : starEach [e] X.env = [(false, eval e X.env)] := by rfl) :
    PI X (.Tuple elts kk tpos) (.Call (.Name "enumerate" p) [e] [] pos) (iEnumQ X.K ta) := by
  refine ⟨fun pins s σ H R I h => ?_⟩
  rcases h with h | h
  · exact (pi_enum hg hm ha hs).run pins s σ H R I h
  · exact (pi_enumT hg hm ha hs).run pins s σ H R I h
theorem walk_enumT {K : PySem.W.Frag} {a : Addr} {xs : List V} : Walk (ItET K a) xs.length (fun H => SqT K H a xs) (YPair (fun i => some (.int (i : Nat))) (fun i => xs[i]?)) := by
  refine ⟨fun i _ hi q => ⟨xs, xs[i], q, by simp [hi]⟩, fun _ q => ⟨xs, q, Nat.le_refl _⟩, fun i H v H' _ q y => ?_⟩
  obtain ⟨T, x, h1, h2, h3, h4⟩ := y
  exact ⟨T, .int (i : Nat), x, h1, h2, h3, rfl, h4 xs q⟩
theorem walk_enumS {x : Str} : Walk (ItES x) x.cps.size (fun _ => True) (fun i H v H' => ∃ T c, v = .ref T ∧ H T = none ∧ H' = upd H T (.tup [.int (i : Nat), .str ⟨#[c]⟩]) ∧ x.cps[i]? = some c) :=
  ⟨fun _ _ hi _ => hi, fun _ _ => Nat.le_refl _, fun _ _ _ _ _ _ y => y⟩
end Lx

set_option maxRecDepth 100000
set_option maxHeartbeats 4000000
namespace Lx
open PySem PySem.Spec PyProof.Rows L2
/-- n turns, each a new tuple whose items are as f says -/
def ItTup (n : Nat) (f : Nat → List V → Prop) : It :=
  ⟨fun i _ => i < n, fun i H v H' => ∃ T xs, v = .ref T ∧ H T = none ∧ H' = upd H T (.tup xs) ∧ f i xs, fun i _ => n ≤ i⟩
theorem turn_tuples {P : Program} {w : World} {K : PySem.W.Frag} {elts : List Expr} {kk : Nat} {tpos : Pos} {it : Addr} {fp wr : List Addr} {n : Nat} {Pt : Nat → Array Value → Prop} {St : Nat → Heap → Prop} {Mid : Nat → Addr → Heap → Prop} {f : Nat → List V → Prop}
    (Wk : ∀ A : Around, A.in1.handled = none → WalksT P w A it fp wr n Pt St Mid) (hrel : ∀ i vals, Pt i vals → ∃ xs, Vals xs vals.toList ∧ f i xs ∧ xs.length ≤ 8)
    (hobj : ∀ i h, St i h → ∀ b ∈ fp, ∃ o, h.get? b = some o ∧ ∀ v, o.data ≠ .cell v) (hmem : it ∈ fp)
    (hself : ∀ (A : Around) (i : Nat) (s : Shared) (Q : Value → Shared → Prop) (E : Value → Shared → Prop), St i s.heap → Q (.ref it) s → wpAny (model P w) A (pyIter (.ref it)) Q E s) :
    Turn P w K (.Tuple elts kk tpos) (ItTup n f) fp it (fun i h => St i h ∧ i ≤ n) where
  mem := hmem
  obj := fun i h st => hobj i h st.1
  keep := fun i h h' st k => ⟨(Wk {} rfl).frame i h h' st.1 k, st.2⟩
  item := by
    intro X hP hw hK hc i pins s σ H E I hf st hg
    subst hP hw hK
    have hh : X.A.in1.handled = none := I.ok.hd hc
    have hlt : i < n := hg
    refine (GoesN.ofWalksT (elts := elts) (k := kk) (pos := tpos) (Wk X.A hh)).goes i s _ _ hlt st.1 fun v h' tk hY st' hk htk => ?_
    obtain ⟨T, vals, rfl, hnew, hPt, hT⟩ := hY
    obtain ⟨xs, rv, hfx, hl⟩ := hrel i vals hPt
    have new : ObjOk X.prog X.w (upd H T (.tup xs)) h' T (.tup xs) := ⟨Nat.le_trans hl (by decide), vals.toList, rv, by rw [Array.toArray_toList]; exact hT⟩
    have I1 : Inv X pins σ (upd H T (.tup xs)) { s with heap := h', toks := tk } :=
      I.turnedNew (ch := fp) (fun b ob hb q => hk b ob (fun z => hb ((Wk X.A hh).sub b z)) q) hf hnew new
    refine ⟨.ref T, _, I1, rfl, ⟨T, xs, rfl, I.hok.fresh hnew, rfl, hfx⟩, ⟨st', hlt⟩, fun b hb => ?_⟩
    have hb' : b < s.heap.objs.size := by obtain ⟨o, ho, _⟩ := hobj i _ st.1 b hb; exact Heap.lt_size ho
    rw [upd_ne (Nat.ne_of_lt (Nat.lt_of_lt_of_le hb' hnew))]
    exact (hf b hb).1
  done := by
    intro X hP hw hK hc i pins s σ H E I hf st hg
    subst hP hw hK
    have hh : X.A.in1.handled = none := I.ok.hd hc
    have hge : n ≤ i := hg
    have hi : i = n := Nat.le_antisymm st.2 hge
    subst hi
    refine (Wk X.A hh).done s _ _ st.1 fun h' tk hk => ⟨rfl, ?_⟩
    exact I.turnedL (ch := fp) (fun c o hb q => hk c o (fun z => hb ((Wk X.A hh).sub c z)) q) hf
  self := fun A i s Q E st h => hself A i s Q E st.1 h
theorem walk_tuples {n : Nat} {f : Nat → List V → Prop} : Walk (ItTup n f) n (fun _ => True) (fun i H v H' => ∃ T xs, v = .ref T ∧ H T = none ∧ H' = upd H T (.tup xs) ∧ f i xs) :=
  ⟨fun _ _ hi _ => hi, fun _ _ => Nat.le_refl _, fun _ _ _ _ _ _ y => y⟩
/-! zip of two texts -/
def zipF (x y : Str) : Nat → List V → Prop := fun i xs => ∃ c d, x.cps[i]? = some c ∧ y.cps[i]? = some d ∧ xs = [.str ⟨#[c]⟩, .str ⟨#[d]⟩]
def iZipS (ta : TA) : TI := fun σ H R => ta σ H fun vs H1 => ∃ x y, vs = [.str x, .str y] ∧ R (ItTup (min x.cps.size y.cps.size) (zipF x y)) H1
theorem pi_zipS {X : Cx} {e e2 : Expr} {ta : TA} {p pos tpos : Pos} {elts : List Expr} {kk : Nat} (hg : Gl X "zip") (hm : X.mg "zip" = none) (ha : PA X [e, e2] ta)
    (hs : starEach [e, e2] X.env = (false, eval e X.env) :: starEach [e2] X.env := by rfl) (hpl : (backTo pos (starEach [e2] X.env)).any (·.1) = false := by rfl) :
    PI X (.Tuple elts kk tpos) (.Call (.Name "zip" p) [e, e2] [] pos) (iZipS ta) := by
  refine ⟨fun pins s σ H R I h => ?_⟩
  refine Call_ (ld_blt I hg hm PyProof.Rows.boot_zip (PyProof.Rows.callWith_type1 (thn (ha.run pos pins s σ H _ I h) fun us s1 ⟨vs, H1, I1, r1, q1⟩ => ?_) hs hpl))
  obtain ⟨x, y, ex, q⟩ := q1
  subst ex
  cases r1 with
  | cons r rr =>
    cases rr with
    | cons r' rr =>
      cases rr
      obtain ⟨t, rfl⟩ := r
      obtain ⟨t', rfl⟩ := r'
      refine zip_begins2 (begins_text x t) (begins_text y t') trivial trivial fun h' hz hTI hTO h1 h2 hsz hk => wpAny_pyIter_zip hz ?_
      have I2 : Inv X pins σ H1 { s1 with heap := h' } := I1.kept (t' := s1.toks) hk
      have sep := zip_sep2 (N := s1.heap.objs.size) (fp1 := []) (fp2 := []) (fun b hb => nomatch hb) (fun b hb => nomatch hb)
      have tn := turn_tuples (P := X.prog) (w := X.w) (K := X.K) (elts := elts) (kk := kk) (tpos := tpos) (f := zipF x y)
        (fun A hh => WalksT.zipD2 sep (Draws.text (prog := X.prog) (w := X.w) hh s1.heap.objs.size x t) (Draws.text (prog := X.prog) (w := X.w) hh (s1.heap.objs.size + 1) y t'))
        (fun i vals hv => by
          obtain ⟨x1, x2, ⟨c, u, hc, rfl⟩, ⟨d, u', hd, rfl⟩, rfl⟩ := hv
          exact ⟨[.str ⟨#[c]⟩, .str ⟨#[d]⟩], .cons ⟨_, rfl⟩ (.cons ⟨_, rfl⟩ .nil), ⟨c, d, hc, hd, rfl⟩, by show 2 ≤ 8; decide⟩)
        (fun i h st b hb => by
          obtain ⟨z1, z2, ⟨a1, a2, z3⟩, ⟨o1, e1, _, d1⟩, ⟨o2, e2, _, d2⟩⟩ := st
          have e' : b = s1.heap.objs.size + 4 ∨ b = s1.heap.objs.size + 2 ∨ b = s1.heap.objs.size + 3 ∨ b = s1.heap.objs.size ∨ b = s1.heap.objs.size + 1 := by simpa using hb
          rcases e' with q | q | q | q | q
          · rw [q]; exact ⟨_, z1, fun v q => nomatch q⟩
          · rw [q]; exact ⟨_, z2, fun v q => nomatch q⟩
          · rw [q]; exact ⟨_, z3, fun v q => nomatch q⟩
          · rw [q]; exact ⟨o1, e1, fun v q => by rw [d1] at q; cases q⟩
          · rw [q]; exact ⟨o2, e2, fun v q => by rw [d2] at q; cases q⟩)
        (by simp) (fun A i s Q E st h => wpAny_pyIter_zip st.1 h)
      refine ⟨s1.heap.objs.size + 4, _, _, _, H1, rfl, I2, tn, ⟨⟨hz, hTI, ⟨_, _, hTO⟩, ⟨_, h1, rfl, rfl⟩, ⟨_, h2, rfl, rfl⟩⟩, Nat.zero_le _⟩, fun c hcm => ?_, q⟩
      have e' : c = s1.heap.objs.size + 4 ∨ c = s1.heap.objs.size + 2 ∨ c = s1.heap.objs.size + 3 ∨ c = s1.heap.objs.size ∨ c = s1.heap.objs.size + 1 := by simpa using hcm
      have hle : s1.heap.objs.size ≤ c := by
        rcases e' with z | z | z | z | z
        · rw [z]; exact Nat.le_add_right _ _
        · rw [z]; exact Nat.le_add_right _ _
        · rw [z]; exact Nat.le_add_right _ _
        · rw [z]; exact Nat.le_refl _
        · rw [z]; exact Nat.le_add_right _ _
      exact I1.fpOk hle (I1.hok.fresh hle)
/-! text * int -/
section
variable {X : Cx}
theorem op_rep_str : OpR X (binaryOp .Mult) (fun x y H Q => ∃ (z : Str) (n : Int), x = .str z ∧ y = .int n ∧ n < 2 ^ 20 ∧ -(2 ^ 20) < n ∧ z.length * n.toNat ≤ 100000 ∧ Q (.str (Txt.mul z n)) H) := by
  intro pins s σ H x y u v Q I rx ry h
  obtain ⟨z, n, rfl, rfl, h1, h2, h3, q⟩ := h
  obtain ⟨t, rfl⟩ := rx
  obtain ⟨t', rfl⟩ := ry
  refine SB.mul ⟨?_, fun a b => ?_, fun a b => ?_⟩ fun t' k => ⟨.str (Txt.mul z n), H, I.tok _, ⟨_, rfl⟩, q⟩
  · rw [decide_eq_false (by omega), decide_eq_false (by omega)]; rfl
  · have e1 : ((z.length : Int)) ≤ 100000 := by
      have : z.length * 1 ≤ z.length * n.toNat := Nat.mul_le_mul_left _ (by omega)
      omega
    have e2 : (100000 : Int) ≤ (2 ^ 63 - 1) / n := by
      refine (Int.le_ediv_iff_mul_le (by omega)).mpr ?_
      omega
    omega
  · show decide (z.length * n.toNat > sizeLine) = false
    exact decide_eq_false (Nat.not_lt.mpr (Nat.le_trans h3 (by decide)))
end
/-! a class made without arguments; a def called without; a property -/
open C8 in
theorem pe_mk0 {X : Cx} {k j : Nat} {C : Addr} {x : Str} {sp : Sp} {dvs : List V} {p pos : Pos} (c : Mak X.prog X.w X.K X.mg X.base k x C sp dvs) (hr : Room j X.A) (hk : k + 1 ≤ j) (hg : Gl X x) (hdb : (x == ("__debug__" : Str)) = false := by decide) :
    PE X (.Call (.Name x p) [] [] pos) (tMake C sp dvs C8.E0 tNil) := by
  obtain ⟨f, fd, ps, ds, M, F, hm, b, d⟩ := c.ex
  exact pe_make0 M F (hr.mono hk) hg hm b d C8.pass0 hdb
open C8 in
theorem pe_c0 {X : Cx} {k j : Nat} {x : Str} {sp : Sp} {dvs : List V} {p pos : Pos} (c : Cal X.prog X.w X.K X.mg X.base k x sp dvs) (hr : Room j X.A) (hk : k ≤ j) (hg : Gl X x) (hdb : (x == ("__debug__" : Str)) = false := by decide) :
    PE X (.Call (.Name x p) [] [] pos) (tCall sp dvs C8.E0 tNil) := by
  obtain ⟨f, fd, ps, ds, F, hm, kp, b, d⟩ := c.ex
  exact pe_call0 F (hr.mono hk) hg hm kp b d C8.pass0 hdb
/-- a property of the class at C -/
structure Prp (P : Program) (w : World) (K : PySem.W.Frag) (mg : Str → Option Value) (base : Heap) (k : Nat) (C : Addr) (m : Str) (sp : Sp) : Prop where
  ex : ∃ (p f : Addr) (fd : FuncData) (ps : List Str), Cls K C ∧ PropOf K C m p f ∧ FnOk P w K mg base C8.CX0 k f fd ps sp ∧ Binds K fd ps []
theorem pe_pr {X : Cx} {k j : Nat} {C : Addr} {m : Str} {sp : Sp} {e : Expr} {ta : TE} {pos : Pos} (c : Prp X.prog X.w X.K X.mg X.base k C m sp) (hr : Room j X.A) (hk : k + 1 ≤ j) (he : PE X e ta) (hab : attributeBase e m X.env (eval e X.env) = eval e X.env := by rfl) :
    PE X (.Attribute e m pos) (tProp C sp [] C8.E0 ta) := by
  obtain ⟨p, f, fd, ps, hc, hp, F, b⟩ := c.ex
  exact pe_prop he hc hp F (hr.mono hk) b .nil C8.pass0 hab
end Lx

set_option maxRecDepth 100000
set_option maxHeartbeats 4000000
/-! sorted of pairs of texts -/
namespace SrT
open PySem PyProof.Rows SrtO
def IsTT (h : Heap) (v : Value) (x y : Str) : Prop := ∃ a o t u n, v = .ref a ∧ h.get? a = some o ∧ o.cls = .type "tuple" ∧ o.data = .seq #[.str x t, .str y u] n
theorem IsTT.keeps {h h' : Heap} {v : Value} {x y : Str} (p : IsTT h v x y) (k : ∀ b o, h.get? b = some o → o.cls = .type "tuple" → h'.get? b = some o) : IsTT h' v x y := by
  obtain ⟨a, o, t, u, n, e, ho, hc, hd⟩ := p
  exact ⟨a, o, t, u, n, e, k _ _ ho hc, hc, hd⟩
def lexT (p q : Str × Str) : Bool := if p.1 = q.1 then decide (p.2.cps.toList < q.2.cps.toList) else decide (p.1.cps.toList < q.1.cps.toList)
theorem str_of {a b : Str} (h : a.cps.toList = b.cps.toList) : a = b := TL.ext_tl h
theorem tri {a b : Str} (h1 : ¬ a.cps.toList < b.cps.toList) (h2 : ¬ b.cps.toList < a.cps.toList) : a = b :=
  str_of (List.le_antisymm (List.not_lt.mp h2) (List.not_lt.mp h1))
theorem lexT_no {p q : Str × Str} : lexT p q = false ↔ q.1.cps.toList < p.1.cps.toList ∨ (p.1 = q.1 ∧ ¬ p.2.cps.toList < q.2.cps.toList) := by
  unfold lexT
  by_cases e : p.1 = q.1
  · rw [if_pos e, decide_eq_false_iff_not]
    constructor
    · intro h; exact .inr ⟨e, h⟩
    · rintro (h | h)
      · rw [e] at h; exact absurd h (List.lt_irrefl _)
      · exact h.2
  · rw [if_neg e, decide_eq_false_iff_not]
    constructor
    · intro h
      by_cases c : q.1.cps.toList < p.1.cps.toList
      · exact .inl c
      · exact absurd (tri h c) e
    · rintro (h | h)
      · exact List.lt_asymm h
      · exact absurd h.1 e
theorem lexT_yes {p q : Str × Str} : lexT p q = true ↔ p.1.cps.toList < q.1.cps.toList ∨ (p.1 = q.1 ∧ p.2.cps.toList < q.2.cps.toList) := by
  unfold lexT
  by_cases e : p.1 = q.1
  · rw [if_pos e, decide_eq_true_eq]
    constructor
    · intro h; exact .inr ⟨e, h⟩
    · rintro (h | h)
      · rw [e] at h; exact absurd h (List.lt_irrefl _)
      · exact h.2
  · rw [if_neg e, decide_eq_true_eq]
    constructor
    · intro h; exact .inl h
    · rintro (h | h)
      · exact h
      · exact absurd h.1 e
theorem swo_T {α : Type} (k : α → Str × Str) : Swo fun v u => lexT (k v) (k u) := by
  refine ⟨fun x y h => ?_, fun x y z h1 h2 => ?_⟩
  · rcases lexT_yes.mp h with a | ⟨a, b⟩
    · exact lexT_no.mpr (.inl a)
    · exact lexT_no.mpr (.inr ⟨a.symm, List.lt_asymm b⟩)
  · refine lexT_no.mpr ?_
    rcases lexT_no.mp h1 with a | ⟨a, b⟩ <;> rcases lexT_no.mp h2 with c | ⟨c, d⟩
    · exact .inl (List.lt_trans a c)
    · rw [← c] at a; exact .inl a
    · rw [a] at c; exact .inl c
    · refine .inr ⟨c.trans a, fun hz => ?_⟩
      by_cases e : (k y).2.cps.toList < (k x).2.cps.toList
      · exact b e
      · by_cases g : (k z).2 = (k y).2
        · rw [g] at hz; exact b hz
        · by_cases i : (k y).2.cps.toList < (k z).2.cps.toList
          · exact b (List.lt_trans i hz)
          · exact g (tri d i)
section
variable {prog : Program} {w : World} {A : Around} {E : Value → Shared → Prop} {s : Shared}
theorem tt_cmp {vs : List Value} {k : Value → Str × Str} (hp : ∀ v ∈ vs, IsTT s.heap v (k v).1 (k v).2) : Cmp prog w A s (tuples' true) (fun p => p.1 ∈ vs) (lt2 fun v u => lexT (k v) (k u)) := by
  intro p q hm hm'
  have h1 := hp _ hm
  have h2 := hp _ hm'
  show wpAny (model prog w) A (keyLt' (tuples' true) p.1 q.1) (fun r s' => s' = s ∧ r = lexT (k p.1) (k q.1)) (fun _ _ => False) s
  unfold lexT
  generalize (k p.1).1 = x at h1 ⊢
  generalize (k p.1).2 = y at h1 ⊢
  generalize (k q.1).1 = x' at h2 ⊢
  generalize (k q.1).2 = y' at h2 ⊢
  obtain ⟨a, o, t, u, n, e, ho, hc, hd⟩ := h1
  obtain ⟨a', o', t', u', n', e', ho', hc', hd'⟩ := h2
  rw [e, e']
  refine PySem.W.kat_lt ho hd ho' hd' ?_
  show PySem.W.KatLex prog w A true (decide (2 < 2)) _ [(.str x t, .str x' t'), (.str y u, .str y' u')] 0 s
  refine PySem.W.kat_cons (SeqAt.EqAt.str_str x t x' t' prog w _ _ ?_)
  refine PySem.W.kat_go (fun e1 => ?_) (fun e1 => ?_)
  · have ex : x = x' := by simpa using e1
    refine PySem.W.kat_yes (PySem.W.kat_cons (SeqAt.EqAt.str_str y u y' u' prog w _ _ ?_))
    refine PySem.W.kat_go (fun e2 => ?_) (fun e2 => ?_)
    · have ey : y = y' := by simpa using e2
      have e3 : (if x = x' then decide (y.cps.toList < y'.cps.toList) else decide (x.cps.toList < x'.cps.toList)) = false := by
        rw [if_pos ex, ey]
        exact decide_eq_false (List.lt_irrefl _)
      exact PySem.W.kat_yes (PySem.W.kat_nil ⟨rfl, e3.symm⟩)
    · have e3 : (if x = x' then decide (y.cps.toList < y'.cps.toList) else decide (x.cps.toList < x'.cps.toList)) = decide (y.cps.toList < y'.cps.toList) := if_pos ex
      refine PySem.W.kat_no (PySem.W.kat_one _ _ (PyProof.Rows.lt_str ?_))
      exact (show s = s ∧ decide (y.cps.toList < y'.cps.toList) = (if x = x' then decide (y.cps.toList < y'.cps.toList) else decide (x.cps.toList < x'.cps.toList)) from ⟨rfl, e3.symm⟩)
  · have ex : ¬ x = x' := by simpa using e1
    have e3 : (if x = x' then decide (y.cps.toList < y'.cps.toList) else decide (x.cps.toList < x'.cps.toList)) = decide (x.cps.toList < x'.cps.toList) := if_neg ex
    exact PySem.W.kat_no (oneLt_str ⟨rfl, e3.symm⟩)
theorem firsts_T {h : Heap} : ∀ {vs : List Value}, (∀ v ∈ vs, ∃ x y, IsTT h v x y) → ∃ fs : List Value, PySem.W.KatTups h vs fs ∧ fs.length = vs.length ∧ ∀ f ∈ fs, ∃ x t, f = Value.str x t
  | [], _ => ⟨[], PySem.W.KatTups.nil, rfl, fun _ hm => by simp at hm⟩
  | v :: vs, hp => by
    obtain ⟨fs, h1, h2, h3⟩ := firsts_T (vs := vs) fun v' hm => hp v' (List.mem_cons_of_mem _ hm)
    obtain ⟨x, y, a, o, t, u, n, e, ho, hc, hd⟩ := hp v (List.mem_cons_self ..)
    subst e
    refine ⟨.str x t :: fs, PySem.W.KatTups.cons ho hc hd rfl h1, by rw [List.length_cons, List.length_cons, h2], fun f hm => ?_⟩
    rcases List.mem_cons.mp hm with rfl | hm
    · exact ⟨x, t, rfl⟩
    · exact h3 f hm
theorem tt_sortable {a : Addr} {vs : List Value} {k : Value → Str × Str} (h0 : 0 < vs.length) (hp : ∀ v ∈ vs, IsTT s.heap v (k v).1 (k v).2) (ha : ∀ o, s.heap.get? a = some o → o.cls ≠ .type "tuple") : SortableO prog w A s a vs fun v u => lexT (k v) (k u) := by
  intro h' keep
  have hp' : ∀ v ∈ vs, IsTT h' v (k v).1 (k v).2 := fun v hm => (hp v hm).keeps fun b o e c => keep b o (fun z => by subst z; exact ha o e c) e
  obtain ⟨fs, h1, h2, h3⟩ := firsts_T fun v hm => ⟨_, _, hp' v hm⟩
  refine ⟨tuples' true, fun Q E hq => ?_, tt_cmp hp'⟩
  refine PySem.W.kat_kind (T := .type "str") h1 (by omega) (fun f hm => ?_) (by rfl) ?_
  · obtain ⟨x, t, rfl⟩ := h3 f hm
    exact PySem.W.Looks.now
  · have e : (Value.type "str" != Value.type "tuple") = true := by first | decide +kernel | rfl | decide
    rw [e]
    exact hq
theorem collect_tup {l : Addr} {vs : List Value} {Q : List Value → Shared → Prop} (hl : s.heap.IsTuple l vs.toArray)
    (h : Q vs { s with heap := (s.heap.push (seqObj "list" #[] 0)).update s.heap.objs.size (Obj.mapSeq (· ++ vs.toArray)) }) (hsz : vs.length ≤ sizeLine) :
    wpAny (model prog w) A (collect (.ref l)) Q E s := by
  obtain ⟨o, ho, hc, n, hd⟩ := id hl
  unfold collect
  refine wpAny_bind (wpAny_runValue (codeAny_builtin entry_proto_collect' ?_))
  show wpAny _ _ (do again (.builtin "list.__iadd__" ⟨[← newList [], .ref l], []⟩)) _ _ s
  refine wpAny_bind (wpAny_newList (wpAny_pure ⟨Code.quiet_builtin _ (by decide +kernel), codeAny_builtin entry_list_iadd' ?_⟩))
  show wpAny _ _ (Builtin.List.listExtendWith (.ref s.heap.objs.size) (.ref l) (.ref s.heap.objs.size)) _ _ { s with heap := s.heap.push (seqObj "list" #[] 0) }
  unfold Builtin.List.listExtendWith
  have ho' : (s.heap.push (seqObj "list" #[] 0)).get? l = some o := Heap.get?_push_of_some _ ho
  refine wpAny_bind (wpAny_typeOf (T := "tuple") ⟨o, ho', hc⟩ ?_)
  have ht : (Value.type "tuple" == Value.type "tuple") = true := by rfl
  rw [if_pos (by rw [ht]; simp)]
  refine wpAny_bind (listItems_at ho' hd ?_)
  refine wpAny_bind (listItems_at (xs := #[]) (n := 0) (Heap.get?_push_size _ rfl) rfl ?_)
  rw [if_neg (by simp)]
  refine wpAny_bind (listUpdate_at (xs := #[]) (n := 0) (Heap.get?_push_size _ rfl) rfl ?_ (Nat.zero_le _) (by show (#[] ++ vs.toArray).size ≤ sizeLine + 1; simp only [Array.size_append, List.size_toArray, List.length_nil]; omega))
  refine wpAny_pure ?_
  show wpAny (model prog w) A (do
      let o ← load s.heap.objs.size
      match o.data with
      | .seq xs _ => pure xs.toList
      | _ => unsupported "internal:collect") Q E { s with heap := (s.heap.push (seqObj "list" #[] 0)).update s.heap.objs.size (Obj.mapSeq (· ++ vs.toArray)) }
  refine wpAny_bind (wpAny_load (get?_update_seq (Heap.get?_push_size _ rfl) _) ?_)
  show wpAny _ _ (pure ((#[] : Array Value) ++ vs.toArray).toList) Q E _
  rw [show ((#[] : Array Value) ++ vs.toArray).toList = vs by simp]
  exact wpAny_pure h
/-- sorted(x) of what is collected -/
theorem sorted_col {x : Value} {vs : List Value} {ltv : Value → Value → Bool} {Q : Value → Shared → Prop} (O : Swo ltv)
    (hcol : ∀ (A : Around) (E : Value → Shared → Prop) (Q : List Value → Shared → Prop), Q vs { s with heap := (s.heap.push (seqObj "list" #[] 0)).update s.heap.objs.size (Obj.mapSeq (· ++ vs.toArray)) } → wpAny (model prog w) A (collect x) Q E s) (hz : vs.length ≤ sizeLine)
    (hS : 2 ≤ vs.length → ∀ (h₁ : Heap) (a : Addr), h₁.get? a = some (seqObj "list" vs.toArray 0) → (∀ b o, s.heap.get? b = some o → b ≠ a ∧ h₁.get? b = some o) → SortableO prog w A.in1.in1 { s with heap := h₁ } a vs ltv)
    (h : ∀ out : List Value, Srtd ltv out → Stb ltv out vs → Q (.ref (s.heap.objs.size + 1)) { s with heap := sortedAll s.heap vs out.toArray }) :
    wpAny (model prog w) A (call (.builtin "sorted") [x]) Q E s := by
  refine Calls.call_function_entry kind_sorted plain_sorted entry_sorted (args_sorted1 _) ?_
  unfold Builtin.«sorted»
  refine wpAny_bind (m := checkCount "sorted" 1 1 _) (wpAny_pure ?_)
  refine wpAny_bind (hcol _ _ _ ?_)
  refine wpAny_bind (wpAny_newList ?_ hz)
  have hsz : ((s.heap.push (seqObj "list" #[] 0)).update s.heap.objs.size (Obj.mapSeq (· ++ vs.toArray))).objs.size = s.heap.objs.size + 1 := by
    rw [Heap.size_update, size_push']
  have hoL : (((s.heap.push (seqObj "list" #[] 0)).update s.heap.objs.size (Obj.mapSeq (· ++ vs.toArray))).push (seqObj "list" vs.toArray 0)).get? (s.heap.objs.size + 1) = some (seqObj "list" vs.toArray 0) := by
    rw [← hsz]; exact Heap.get?_push_size _ rfl
  have keep : ∀ b o, s.heap.get? b = some o → b ≠ s.heap.objs.size + 1 ∧ (((s.heap.push (seqObj "list" #[] 0)).update s.heap.objs.size (Obj.mapSeq (· ++ vs.toArray))).push (seqObj "list" vs.toArray 0)).get? b = some o := fun b o q => by
    have hlt : b < s.heap.objs.size := Heap.lt_size q
    refine ⟨Nat.ne_of_lt (Nat.lt_succ_of_lt hlt), Heap.get?_push_of_some _ ?_⟩
    rw [Heap.get?_update_ne _ _ _ _ (Nat.ne_of_lt hlt)]
    exact Heap.get?_push_of_some _ q
  show wpAny _ _ _ _ _ { s with heap := ((s.heap.push (seqObj "list" #[] 0)).update s.heap.objs.size (Obj.mapSeq (· ++ vs.toArray))).push (seqObj "list" vs.toArray 0) }
  rw [hsz]
  refine wpAny_bind (wpAny_holding (wpAny_call_entry slot_list_sort ⟨_, hoL, rfl⟩ entry_list_sort (list_sort_ord O hoL hz (fun h2 => hS h2 _ _ hoL keep) fun out hs hb => ⟨_, rfl, ?_⟩) (args_list_sort _)))
  exact wpAny_pure ⟨_, rfl, h out hs hb⟩
end
end SrT
namespace Lx
open PySem PySem.Spec PyProof.Rows L2
/-- sorted(xs), xs a list or a tuple of pairs of texts -/
def rSortedT (K : PySem.W.Frag) : List V → Hp → VK → Prop := fun vs H Q => ∃ (a : Addr) (ps : List Addr) (k : Addr → Str × Str), vs = [V.ref a] ∧ (SqL K H a (ps.map V.ref) ∨ SqT K H a (ps.map V.ref)) ∧ (∀ t ∈ ps, H t = some (.tup [.str (k t).1, .str (k t).2])) ∧
  ∀ (qs : List Addr) p, SrtO.Srtd (fun x y => SrT.lexT (k x) (k y)) qs → qs.Perm ps → H p = none → Q (.ref p) (upd H p (.lst (qs.map V.ref)))
section
variable {X : Cx}
theorem cr_sortedT : CallR X (.builtin "sorted") (rSortedT X.K) := by
  intro pins s σ H vs us Q I r h
  obtain ⟨a, ps, k, rfl, hs, hx, q⟩ := h
  obtain ⟨u, rfl, ru⟩ := vals1 r
  obtain rfl : u = Value.ref a := ru
  have com : ∀ its : List Value, Vals (ps.map V.ref) its → its.length ≤ sizeLine → (∀ (A : Around) (E : Value → Shared → Prop) (Q : List Value → Shared → Prop), Q its { s with heap := (s.heap.push (seqObj "list" #[] 0)).update s.heap.objs.size (Obj.mapSeq (· ++ its.toArray)) } → wpAny (model X.prog X.w) A (collect (.ref a)) Q E s) →
      wpAny (model X.prog X.w) X.A (call (.builtin "sorted") [Value.ref a]) (EP X pins σ Q) X.xe s := by
    intro its rv hz hcol
    have ei : its = ps.map Value.ref := by
      clear hcol hz hx q hs
      induction ps generalizing its with
      | nil => cases rv; rfl
      | cons x l ih =>
        cases rv with
        | cons h1 h2 =>
          rw [List.map_cons, ← ih _ h2]
          congr 1
    subst ei
    have hp : ∀ v ∈ ps.map Value.ref, SrT.IsTT s.heap v (match v with | .ref t => k t | _ => ("", "")).1 (match v with | .ref t => k t | _ => ("", "")).2 := by
      intro v hv
      obtain ⟨t, ht, rfl⟩ := List.mem_map.mp hv
      obtain ⟨_, its2, r2, o, ho, hc, n, hd⟩ := I.hok _ _ (hx t ht)
      obtain ⟨u1, u2, rfl, ri, rj⟩ := vals2 r2
      obtain ⟨t1, rfl⟩ := ri
      obtain ⟨t2, rfl⟩ := rj
      exact ⟨t, o, t1, t2, n, rfl, ho, hc, hd⟩
    refine SrT.sorted_col (SrT.swo_T fun v : Value => match v with | .ref t => k t | _ => ("", "")) hcol hz (fun h2 h₁ b hb kk => ?_) fun out h1 h2 => ?_
    · refine SrT.tt_sortable (s := { s with heap := h₁ }) (by omega) (fun v hm => (hp v hm).keeps fun b o e _ => (kk b o e).2) fun o e => ?_
      have e' : some o = some (seqObj "list" (ps.map Value.ref).toArray 0) := e.symm.trans hb
      cases e'
      intro c
      exact absurd (Value.type.inj c) (by decide)
    · obtain ⟨qs, rfl⟩ : ∃ qs : List Addr, out = qs.map Value.ref := by
        have hm : ∀ v ∈ out, ∃ t, v = Value.ref t := fun v hv => by
          obtain ⟨t, _, e⟩ := List.mem_map.mp (h2.perm.mem_iff.mp hv)
          exact ⟨t, e.symm⟩
        clear h1 h2
        induction out with
        | nil => exact ⟨[], rfl⟩
        | cons v r ih =>
          obtain ⟨t, rfl⟩ := hm v List.mem_cons_self
          obtain ⟨qs, rfl⟩ := ih fun v hv => hm v (List.mem_cons_of_mem _ hv)
          exact ⟨t :: qs, rfl⟩
      have perm : qs.Perm ps := by
        have h3 := h2.perm.map (fun v : Value => match v with | .ref t => t | _ => 0)
        rw [List.map_map, List.map_map] at h3
        have ef : ((fun v : Value => match v with | .ref t => t | _ => 0) ∘ Value.ref) = id := by funext t; rfl
        rw [ef, List.map_id, List.map_id] at h3
        exact h3
      have srt : SrtO.Srtd (fun x y => SrT.lexT (k x) (k y)) qs := List.pairwise_map.mp h1
      obtain ⟨n, hn⟩ := PyProof.Rows.sortedAll_at s.heap (ps.map Value.ref) (qs.map Value.ref).toArray
      have hd : s.heap.objs.size ≤ s.heap.objs.size + 1 := Nat.le_succ _
      have rq : Vals (qs.map V.ref) (qs.map Value.ref) := by
        clear h1 h2 perm srt hn
        induction qs with
        | nil => exact .nil
        | cons x l ih => exact .cons rfl ih
      refine ⟨.ref (s.heap.objs.size + 1), upd H (s.heap.objs.size + 1) (.lst (qs.map V.ref)), I.laid (t' := s.toks) (fun b o e => PyProof.Rows.sortedAll_old e) hd ⟨?_, _, n, rq, hn⟩, rfl, q qs _ srt perm (I.hok.fresh hd)⟩
      rw [List.length_map, perm.length_eq, ← List.length_map (f := Value.ref)]
      exact hz
  rcases hs with hs | hs
  · obtain ⟨its, rv, hl, hz⟩ := I.list hs
    exact com its rv (by rw [← rv.length]; exact hz) fun A E Q h => collect_list hl.isList h (by rw [← rv.length]; exact hz)
  · obtain ⟨its, rv, hl, hz⟩ := I.tuple hs
    exact com its rv (by rw [← rv.length]; exact hz) fun A E Q h => SrT.collect_tup (show s.heap.IsTuple a its.toArray from hl) h (by rw [← rv.length]; exact hz)
/-- a list or a tuple, walked -/
def iSeq (K : PySem.W.Frag) (tl : TE) : TI := fun σ H R => iList K tl σ H R ∨ iTup K tl σ H R
theorem pi_seq {tg l : Expr} {tl : TE} (hl : PE X l tl) : PI X tg l (iSeq X.K tl) := by
  refine ⟨fun pins s σ H R I h => ?_⟩
  rcases h with h | h
  · exact (pi_list hl).run pins s σ H R I h
  · exact (pi_tup hl).run pins s σ H R I h
theorem ty_list {K : PySem.W.Frag} {H : Hp} {a : Addr} {xs : List V} (h : SqL K H a xs) : TyX K H (.ref a) (.type "list") := by
  rcases h with (h | ⟨o, h⟩) | ⟨o, its, n, hk, hc, _⟩
  · exact .base (.lst h)
  · exact .base (.frz h)
  · exact .kList hk hc
theorem ty_tup {K : PySem.W.Frag} {H : Hp} {a : Addr} {xs : List V} (h : SqT K H a xs) : TyX K H (.ref a) (.type "tuple") := by
  rcases h with (h | ⟨o, h⟩) | ⟨o, its, n, hk, hc, _⟩
  · exact .base (.tup h)
  · exact .fTuple h
  · exact .kTuple hk hc
theorem same_tup {K : PySem.W.Frag} {H H' : Hp} {a : Addr} {xs : List V} (e : Same H H') (h : SqT K H a xs) : SqT K H' a xs := by
  rcases h with (h | ⟨o, h⟩) | h
  · exact .inl (.inl (e _ _ h))
  · exact .inl (.inr ⟨o, e _ _ h⟩)
  · exact .inr h
/-- a list or a tuple -/
def Sq (K : PySem.W.Frag) (H : Hp) (a : Addr) (xs : List V) : Prop := SqL K H a xs ∨ SqT K H a xs
theorem Sq.same {K : PySem.W.Frag} {H H' : Hp} {a : Addr} {xs : List V} (h : Sq K H a xs) (e : Same H H') : Sq K H' a xs := h.elim (fun h => .inl (e.seq h)) (fun h => .inr (same_tup e h))
end
end Lx

set_option maxRecDepth 100000
set_option maxHeartbeats 4000000
namespace Lx
open PySem PySem.Spec PyProof.Rows L2
section
variable {X : Cx} {k j : Nat} {C : Addr} {sp : Sp}
/-- a def run from a deeper place of the same frame -/
theorem run_sub {CX : CXT} {f : Addr} {fd : FuncData} {ps : List Str} {A : Around} {pins : List (Addr × Obj)} {σ : L2.St} {H : Hp} {s : Shared} {Q : VK} {E : XK} {us : List Value} {vs : List V} (F : FnOk X.prog X.w X.K X.mg X.base CX k f fd ps sp) (sb : Sub X k A) (hb : Binds X.K fd ps [])
    (hx : Passes CX X E) (I : Inv X pins σ H s) (r : Vals vs us) (h : sp vs H Q E) : wpAny (model X.prog X.w) A (call (.ref f) us) (EP X pins σ Q) X.xe s := by
  have e0 : Env0 X.prog X.w X.K X.mg X.base A X.stack s H := by
    have e := I.env0
    exact ⟨by rw [sb.fr]; exact e.frames, e.mod, e.bs, e.bsz, e.funs, e.frf, e.hok, e.bare⟩
  have hl : (us ++ []).length = ps.length := by rw [List.append_nil, ← r.length]; exact F.len _ _ _ _ h
  refine wpAny_call (codeAny_mono (F.run A X.stack s H ⟨us, []⟩ us vs Q E sb.room e0 (by have := hb s us I.kIn hl; simpa using this) r h) fun r s' hq => ?_)
  cases r with
  | error e => exact hx pins σ H s e s' I hq
  | ok fl =>
    cases fl with
    | ret w => exact I.after hq
    | next => exact False.elim hq
    | brk => exact False.elim hq
    | cont => exact False.elim hq
theorem vals_nil {ds : List Value} (h : Vals [] ds) : ds = [] := by cases h; rfl
theorem sub_in2 {A : Around} (hr : Room j A) (hk : k + 2 ≤ j) (hf : A.frames = X.A.frames) : Sub X k A.in1.in1 := by
  have s : Sub X (k + 2) A := ⟨hr.mono hk, hf⟩
  exact s.in1.in1
/-- str(o) by the text's own __str__ -/
def rStrO (C : Addr) (sp : Sp) : List V → Hp → VK → Prop := fun xs H Q => ∃ a dx fs, xs = [.ref a] ∧ H a = some (.ins C dx fs) ∧ sp [.ref a] H (fun v H' => ∃ z, v = .str z ∧ Q (.str z) H') C8.E0
theorem call_str_own (c : C8.Met X.prog X.w X.K X.mg X.base k C "__str__" sp []) (hr : Room j X.A) (hk : k + 2 ≤ j) : CallR X (.type "str") (rStrO C sp) := by
  intro pins s σ H xs us Q I rv h
  obtain ⟨a, dx, fs, rfl, ha, hsp⟩ := h
  obtain ⟨f, fd, ps, ds, _, me, F, b, d⟩ := c.ex
  obtain rfl := vals_nil d
  cases rv with
  | cons r rr =>
    cases rr
    cases r
    obtain ⟨mA, J, _⟩ := ins_get I.hok ha
    obtain ⟨od, J, _⟩ := J.look
    have sb : Sub X k X.A.in1.in1 := sub_in2 hr hk rfl
    refine PySem.W.kso_call sb.room.units0 I.kIn J me.at_ me.fn (wpAny_mono (run_sub (vs := [.ref a]) F sb b C8.pass0 I (.cons rfl .nil) hsp) (fun u s' q => ?_) fun _ _ x => x)
    obtain ⟨v, H', I', ru, z, ez, q⟩ := q
    subst ez
    obtain ⟨t, rfl⟩ := ru
    exact ⟨.str z, H', I', ⟨t, rfl⟩, q⟩
/-- len(o) by the text's own __len__ -/
def rLenO (C : Addr) (sp : Sp) : List V → Hp → VK → Prop := fun xs H Q => ∃ a dx fs, xs = [.ref a] ∧ H a = some (.ins C dx fs) ∧ sp [.ref a] H (fun v H' => ∃ n : Int, v = .int n ∧ 0 ≤ n ∧ n < 2 ^ 63 ∧ Q (.int n) H') C8.E0
theorem call_len_own (c : C8.Met X.prog X.w X.K X.mg X.base k C "__len__" sp []) (hr : Room j X.A) (hk : k + 2 ≤ j) : CallR X (.builtin "len") (rLenO C sp) := by
  intro pins s σ H xs us Q I rv h
  obtain ⟨a, dx, fs, rfl, ha, hsp⟩ := h
  obtain ⟨f, fd, ps, ds, _, me, F, b, d⟩ := c.ex
  obtain rfl := vals_nil d
  cases rv with
  | cons r rr =>
    cases rr
    cases r
    obtain ⟨mA, J, _⟩ := ins_get I.hok ha
    obtain ⟨od, J, _⟩ := J.look
    have sb : Sub X k X.A.in1 := (show Sub X (k + 1) X.A from ⟨hr.mono (by omega), rfl⟩).in1
    obtain ⟨m, hF⟩ := I.fr
    refine PySem.W.len_K hF I.ok.mod.kin J me.at_ me.fn (wpAny_mono (run_sub (vs := [.ref a]) F sb b C8.pass0 I (.cons rfl .nil) hsp) (fun u s' q => ?_) fun _ _ x => x)
    obtain ⟨v, H', I', ru, z, ez, h0, h1, q⟩ := q
    subst ez
    obtain ⟨t, rfl⟩ := ru
    exact ⟨⟨h0, h1⟩, .int z, H', I'.tok _, ⟨_, rfl⟩, q⟩
/-- o == p, both of the class at C, by the text's own __eq__ -/
def rEqO (C : Addr) (sp : Sp) : R2 := fun x y H Q => ∃ a b dx dy fs gs, x = .ref a ∧ y = .ref b ∧ H a = some (.ins C dx fs) ∧ H b = some (.ins C dy gs) ∧ sp [.ref a, .ref b] H (fun v H' => ∃ t : Bool, v = .bl t ∧ Q (.bl t) H') C8.E0
theorem op_eqOwn (c : C8.Met X.prog X.w X.K X.mg X.base k C "__eq__" sp []) (hr : Room j X.A) (hk : k ≤ j) : OpR X (compareOp .Eq) (rEqO C sp) := by
  intro pins s σ H x y v u Q I rx ry h
  obtain ⟨a, b, dx, dy, fs, gs, rfl, rfl, ha, hb, hsp⟩ := h
  obtain ⟨f, fd, ps, ds, _, me, F, bn, d⟩ := c.ex
  obtain rfl := vals_nil d
  cases rx
  cases ry
  obtain ⟨mA, J, _⟩ := ins_get I.hok ha
  obtain ⟨mB, J', _⟩ := ins_get I.hok hb
  obtain ⟨od, J, _⟩ := J.look
  obtain ⟨od', J', _⟩ := J'.look
  obtain ⟨m, hF⟩ := I.fr
  have sb : Sub X k X.A := ⟨hr.mono hk, rfl⟩
  show wpAny (model X.prog X.w) X.A (richCompare .Eq (.ref a) (.ref b)) (EP X pins σ Q) X.xe s
  refine PySem.W.cmp_K (op := .Eq) (tb := .ref C) sb.room.units0 hF I.ok.mod.kin J J'.type (by simp [PySem.W.notFirst]) me.at_ me.fn ?_
  refine wpAny_mono (run_sub (vs := [.ref a, .ref b]) F sb bn C8.pass0 I (.cons rfl (.cons rfl .nil)) hsp) (fun u s' q => ?_) fun _ _ x => x
  obtain ⟨v, H', I', ru, t, ez, q⟩ := q
  subst ez
  cases (show u = Value.bool t from ru)
  exact ⟨.bl t, H', I', rfl, q⟩
end
/-- what of the text != wants -/
structure NeT (K : PySem.W.Frag) (C : Addr) : Prop where
  mro : PySem.W.mroIn K C (.type "object") = some true
  ne : PySem.W.findIn K (.ref C) "__ne__" = some (some (.builtin "object.__ne__"))
section
open PySem.W
variable {M : Model} {prog : Program} {w : World} {A : Around} {E : Value → Shared → Prop} {s : Shared} {K : PySem.W.Frag} {x C f : Addr} {ox : Obj} {od : Option Obj} {b tb : Value}
theorem ifBound_bltn {name : Str} {id : String} {args : List Value} {Q : Option Value → Shared → Prop} (X : K.In s.heap) (I : PySem.W.InstAt s.heap x ox C od) (hs : PySem.W.findIn K (.ref C) name = some (some (.builtin id)))
    (hb : ∀ self, bindSpecial (.builtin id) self = pure (.builtin id, [self])) (h : wpAny M A (call (.builtin id) (.ref x :: args)) (fun v => Q (some v)) E s) : wpAny M A (callSpecialIfBound? (.ref x) name args) Q E s := by
  simp only [callSpecialIfBound?, bindSpecialIfBound?]
  refine wpAny_holding (wpAny_bind (wpAny_bind (wpAny_bind (I.type.here ((PySem.W.looks_findIn X hs).here ?_)))))
  refine wpAny_bind (wpAny_askSetting (wpAny_ite ?_))
  have fin : wpAny M A (call (.builtin id) ([.ref x] ++ args) >>= fun v => pure (some v)) Q E s := wpAny_bind (wpAny_mono h (fun v s' h' => wpAny_pure h') fun _ _ h' => h')
  split
  · exact wpAny_bind (wpAny_of_eq (hb _) (wpAny_pure (by exact fin)))
  · exact wpAny_tryCatch (wpAny_bind (wpAny_of_eq (hb _) (wpAny_pure (by exact fin))))
theorem ne_tree {Q : Fin → Shared → Prop} (hu : A.units < cLine) (X : K.In s.heap) (I : PySem.W.InstAt s.heap x ox C od) (he : PySem.W.findIn K (.ref C) "__eq__" = some (some (.ref f))) (hf : PySem.W.isFn K (.ref f) = true)
    (h : wpAny M A (call (.ref f) [.ref x, b]) (fun v s' => ∃ t : Bool, v = .bool t ∧ Q (.done (.ret (.bool (!t)))) s') E s) : wpAny M A (Builtin.«object.__ne__» ⟨[.ref x, b], []⟩) Q E s := by
  unfold Builtin.«object.__ne__»
  refine wpAny_bind (m := slotArgs "__ne__" 1 _) (wpAny_pure ?_)
  refine wpAny_bind (m := cRoomFor _ _) (wpAny_cRoomFor hu ?_)
  refine wpAny_bind (m := callSpecialIfBound? (.ref x) (Str.ofString "__eq__") _) (ifBound_K X I he hf (wpAny_mono h (fun r s' hr => ?_) fun _ _ y => y))
  obtain ⟨t, rfl, q⟩ := hr
  exact wpAny_bind (wpAny_truthy_bool (wpAny_pure q))
theorem cmp_neK {Q : Value → Shared → Prop} (hu : A.units < cLine) (hu1 : A.in1.units < cLine) (X : K.In s.heap) (I : PySem.W.InstAt s.heap x ox C od) (hb : Looks (model prog w) s.heap (typeOf b) tb) (hn : PySem.W.notFirst K C tb = true) (N : NeT K C)
    (he : PySem.W.findIn K (.ref C) "__eq__" = some (some (.ref f))) (hf : PySem.W.isFn K (.ref f) = true)
    (h : wpAny (model prog w) A.in1 (call (.ref f) [.ref x, b]) (fun v s' => ∃ t : Bool, v = .bool t ∧ Q (.bool (!t)) s') E s) : wpAny (model prog w) A (richCompare .NotEq (.ref x) b) Q E s := by
  have one : wpAny (model prog w) A (tryCompare (.ref x) (cmpInfo .NotEq).2.1 b) (fun r s' => ∃ v, r = some v ∧ Q v s') E s := by
    unfold tryCompare
    refine wpAny_bind (ifBound_bltn X I N.ne F.cmp_object.ne.bind ?_)
    refine wpAny_call (codeAny_call_builtin F.cmp_object.ne.plain F.cmpEntry_ne (PySem.W.check_slot F.cmpKind_ne F.cmpSplit_ne (I.type.andThen (PySem.W.looks_mroIn X N.mro)) (F.cmpArgs_ne _ _) (ne_tree hu1 X I he hf (wpAny_mono h (fun v s' hv => ?_) fun _ _ e => e))))
    obtain ⟨t, rfl, q⟩ := hv
    exact ⟨t, rfl, wpAny_pure ⟨_, rfl, q⟩⟩
  unfold richCompare
  simp only [oneThing_ref]
  refine wpAny_holding (wpAny_bind (wpAny_cRoomFor hu ?_))
  refine wpAny_bind (I.type.here (wpAny_bind (hb.here ?_)))
  split
  · rename_i q
    have e : subIn K tb (.ref C) = some false := by
      rcases Bool.or_eq_true_iff.mp hn with e | e
      · rw [beq_iff_eq.mp e] at q; simp at q
      · exact beq_iff_eq.mp e
    refine wpAny_bind ((looks_subIn X e).here ?_)
    simp only [Bool.false_eq_true, if_false]
    refine wpAny_bind (wpAny_mono one (fun r s' z => ?_) fun _ _ e => e)
    obtain ⟨v, rfl, hq⟩ := z
    exact wpAny_pure hq
  · refine wpAny_bind (wpAny_pure ?_)
    simp only [Bool.false_eq_true, if_false]
    refine wpAny_bind (wpAny_mono one (fun r s' z => ?_) fun _ _ e => e)
    obtain ⟨v, rfl, hq⟩ := z
    exact wpAny_pure hq
end
section
variable {X : Cx} {k j i : Nat} {C : Addr} {sp : Sp} {x y : Str} {dvs : List V} {p pos : Pos} {e : Expr} {es : List Expr} {t : TA}
/-- o != p -/
def rNeO (C : Addr) (sp : Sp) : R2 := fun x y H Q => ∃ a b dx dy fs gs, x = .ref a ∧ y = .ref b ∧ H a = some (.ins C dx fs) ∧ H b = some (.ins C dy gs) ∧ sp [.ref a, .ref b] H (fun v H' => ∃ t : Bool, v = .bl t ∧ Q (.bl (!t)) H') C8.E0
theorem op_neOwn (c : C8.Met X.prog X.w X.K X.mg X.base k C "__eq__" sp []) (N : NeT X.K C) (hr : Room j X.A) (hk : k + 1 ≤ j) : OpR X (compareOp .NotEq) (rNeO C sp) := by
  intro pins s σ H x y v u Q I rx ry h
  obtain ⟨a, b, dx, dy, fs, gs, rfl, rfl, ha, hb, hsp⟩ := h
  obtain ⟨f, fd, ps, ds, _, me, F, bn, d⟩ := c.ex
  obtain rfl := vals_nil d
  cases rx
  cases ry
  obtain ⟨mA, J, _⟩ := ins_get I.hok ha
  obtain ⟨mB, J', _⟩ := ins_get I.hok hb
  obtain ⟨od, J, _⟩ := J.look
  obtain ⟨od', J', _⟩ := J'.look
  have sb1 : Sub X (k + 1) X.A := ⟨hr.mono hk, rfl⟩
  have sb := sb1.in1
  show wpAny (model X.prog X.w) X.A (richCompare .NotEq (.ref a) (.ref b)) (EP X pins σ Q) X.xe s
  refine cmp_neK (tb := .ref C) sb1.room.units0 sb.room.units0 I.kIn J J'.type (by simp [PySem.W.notFirst]) N me.at_ me.fn ?_
  refine wpAny_mono (run_sub (vs := [.ref a, .ref b]) F sb bn C8.pass0 I (.cons rfl (.cons rfl .nil)) hsp) (fun u s' q => ?_) fun _ _ x => x
  obtain ⟨v, H', I', ru, t, ez, q⟩ := q
  subst ez
  cases (show u = Value.bool t from ru)
  exact ⟨t, rfl, .bl (!t), H', I', rfl, q⟩
/-- the class in the i-th slot is made -/
def tMakeL (i : Nat) (C : Addr) (sp : Sp) (dvs : List V) (t : TA) : TE := fun σ H Q => σ[i]? = some (some (.ref C)) ∧ tMake C sp dvs C8.E0 t σ H Q
theorem pe_mkL (i : Nat) (c : C8.Mak X.prog X.w X.K X.mg X.base k y C sp dvs) (hr : Room j X.A) (hk : k + 1 ≤ j) (ha : PA X (e :: es) t) (hN : X.N[i]? = some x := by rfl) (hv : Vis X.env.scope x := by first | exact Or.inl rfl | exact Or.inr (Or.inl rfl) | exact Or.inr (Or.inr rfl))
    (hdb : (x == ("__debug__" : Str)) = false := by decide) (hcd : (x == ("__classdict__" : Str)) = false := by decide)
    (he : starEach (e :: es) X.env = (false, eval e X.env) :: starEach es X.env := by rfl) (hpl : (backTo pos (starEach es X.env)).any (·.1) = false := by rfl) : PE X (.Call (.Name x p) (e :: es) [] pos) (tMakeL i C sp dvs t) := by
  obtain ⟨f, fd, ps, ds, M, F, hm, b, d⟩ := c.ex
  refine ⟨fun pins s σ H Q I h => ?_⟩
  obtain ⟨hs, ht⟩ := h
  refine wpAny_Call_Name_kw (thn ((pe_var (pos := p) hN hv hdb hcd).run pins s σ H (fun v H1 => v = .ref C ∧ H1 = H) I ⟨.ref C, hs, rfl, rfl⟩) fun u s1 ⟨v, H1, I1, r1, q1⟩ => ?_)
  obtain ⟨rfl, rfl⟩ := q1
  cases r1
  refine PySem.W.callWith_K (h₀ := X.base) I.ok.mod.kin M.kp (thn (ha.run pos pins s1 σ _ _ I1 ht) fun us s2 ⟨vs, H2, I2, r, q⟩ => ⟨I2.kIn, ?_⟩) he hpl
  exact run_make M F (hr.mono hk) b d C8.pass0 I2 r q
theorem pe_mkL0 (i : Nat) (c : C8.Mak X.prog X.w X.K X.mg X.base k y C sp dvs) (hr : Room j X.A) (hk : k + 1 ≤ j) (hN : X.N[i]? = some x := by rfl) (hv : Vis X.env.scope x := by first | exact Or.inl rfl | exact Or.inr (Or.inl rfl) | exact Or.inr (Or.inr rfl))
    (hdb : (x == ("__debug__" : Str)) = false := by decide) (hcd : (x == ("__classdict__" : Str)) = false := by decide) : PE X (.Call (.Name x p) [] [] pos) (tMakeL i C sp dvs tNil) := by
  obtain ⟨f, fd, ps, ds, M, F, hm, b, d⟩ := c.ex
  refine ⟨fun pins s σ H Q I h => ?_⟩
  obtain ⟨hs, ht⟩ := h
  refine wpAny_Call_Name_kw (thn ((pe_var (pos := p) hN hv hdb hcd).run pins s σ H (fun v H1 => v = .ref C ∧ H1 = H) I ⟨.ref C, hs, rfl, rfl⟩) fun u s1 ⟨v, H1, I1, r1, q1⟩ => ?_)
  obtain ⟨rfl, rfl⟩ := q1
  cases r1
  exact PySem.W.callWith_K0 I1.kIn M.kp (run_make (us := []) M F (hr.mono hk) b d C8.pass0 I1 .nil ht)
/-- a classmethod of the class at C, C the module's name x -/
structure CMt (P : Program) (w : World) (K : PySem.W.Frag) (mg : Str → Option Value) (base : Heap) (k : Nat) (x : Str) (C : Addr) (m : Str) (sp : Sp) : Prop where
  ex : ∃ (mc : Value) (p g : Addr) (fd : FuncData) (ps : List Str), mg x = some (.ref C) ∧ ClX.CRead K C mc ∧ ClX.CMet K C mc m p g ∧ FnOk P w K mg base C8.CX0 k g fd ps sp ∧ Binds K fd ps []
theorem pe_cm {m : Str} {apos : Pos} {pl : Sem Bool} (c : CMt X.prog X.w X.K X.mg X.base k x C m sp) (hr : Room j X.A) (hk : k ≤ j) (hg : Gl X x) (ha : PA X (e :: es) t) (hdb : (x == ("__debug__" : Str)) = false := by decide)
    (hst : starEach (e :: es) X.env = (false, eval e X.env) :: starEach es X.env := by rfl) (hpl : (backTo pos (starEach es X.env)).any (·.1) = false := by rfl)
    (ht : eval (.Call (.Attribute (.Name x p) m apos) (e :: es) [] pos) X.env = (do
      let ov ← eval (.Name x p) X.env
      standAt apos.atName
      let (f, first) ← holding [ov] (getMethod ov m pl)
      callWith pos f first (backTo pos (starEach (e :: es) X.env)) (backToKw pos (keywordEach [] X.env))) := by rfl) :
    PE X (.Call (.Attribute (.Name x p) m apos) (e :: es) [] pos) (ClX.tCMeth C sp C8.E0 (tC (.ref C)) t) := by
  obtain ⟨mc, q, g, fd, ps, hm, r, cm, F, b⟩ := c.ex
  exact ClX.pe_cmeth (pe_glob (v := .ref C) hg hm rfl hdb) r cm (F.raw b .nil |>.imp fun vs H Q E h => by rw [List.append_nil]; exact h) (hr.mono hk) C8.pass0 ha hst hpl ht
end
/-- what isinstance wants of a class -/
structure IsT (K : PySem.W.Frag) (C : Addr) : Prop where
  cl : Cls K C
  ha : PySem.W.findIn K (.ref C) "__class__" = some (some (.builtin "object.__class__"))
  hn : PySem.W.specialIn K (.builtin "object.__class__") "__get__" = some (some (.builtin "getset_descriptor.__get__"))
  ht : PySem.W.takesIn K (.builtin "object.__class__") = some true
  hm : PySem.W.mroIn K C (.type "object") = some true
theorem IsT.ty {K : PySem.W.Frag} {C a dx : Addr} {H : Hp} {fs : List (Str × V)} (I : IsT K C) (e : H a = some (.ins C dx fs)) : TyX K H (.ref a) (.ref C) := .base (.ins e I.cl I.ha I.hn I.ht I.hm)
theorem IsT.one {K : PySem.W.Frag} {C : Addr} (_ : IsT K C) : PySem.W.kitOne K (.ref C) (.ref C) = some true := by
  unfold PySem.W.kitOne
  rw [if_pos (beq_self_eq_true _)]
/-- an f-string inside a comprehension: its reading by a name -/
def tJn (ts : List TE) : TE := fun σ H Q => tJs ts Str.empty σ H fun out H1 => Q (.str out) H1
theorem pe_jn {X : Cx} {v1 v2 : Expr} {rest : List Expr} {ts : List TE} {pos : Pos} (h : PJ X (v1 :: v2 :: rest) ts) : PE X (.JoinedStr (v1 :: v2 :: rest) pos) (tJn ts) := pe_joined h
end Lx

set_option maxRecDepth 100000
set_option maxHeartbeats 4000000
/-! own errors whose __init__ says super().__init__(text, x) and self.f = x -/
namespace ExS
open PySem PySem.Spec PyProof.Rows L2 NdefX
/-- what such an __init__ does to the error at a -/
def spXI (C : Addr) (fld : Str) : Sp := fun vs H Q _ => ∃ (a : Addr) (v : V), vs = [.ref a, v] ∧ H a = some (exo a C none) ∧
  ∀ dx, H dx = none → dx ≠ a → Q .non (upd (upd H dx (exd dx [(fld, v)])) a (exo a C (some dx)))
/-- the built-in __init__ bound to the error, called: nothing of it is told -/
theorem call_mw {X : Cx} {pins : List (Addr × Obj)} {σ : L2.St} {H : Hp} {s : Shared} {a C u : Addr} {us : List Value} {Q : Value → Shared → Prop} {E : Value → Shared → Prop} {A : Around}
    (T : OexC X.K C) (I : Inv X pins σ H s) (e : H a = some (exo a C none)) (hu : s.heap.get? u = some (PySem.W.kxs_mw "ValueError.__init__" a)) (hl : us.length ≤ sizeLine) (h : ∀ s', Inv X pins σ H s' → Q .none s') :
    wpAny (model X.prog X.w) A (call (.ref u) us) Q E s := by
  obtain ⟨nm, q, N, bs, bm, sn, sub, ab, col, dd, k0, k1, k2, k3, k5, hC, hbm⟩ := T.cls
  obtain ⟨t1, ho⟩ := exo_at I.hok e
  obtain ⟨hp, g, d, t, os⟩ := s
  have fin : ∀ h' : Heap, (∀ b o, b ≠ a → hp.get? b = some o → h'.get? b = some o) → h'.get? a = some (PySem.W.excObj C hp.objs.size none .none) → Q .none ⟨h', g, d, t, os⟩ := fun h' k hx => by
    have J := I.write (t' := t) (x := a) (e := a) (o := exo a C none) (by rw [e]; exact True.intro) (.inl rfl) k ⟨_, hx⟩ (exo_ok hx)
    have eu : upd H a (exo a C none) = H := funext fun b => by
      by_cases hb : b = a
      · rw [hb, upd_same, e]
      · rw [upd_ne hb]
    rw [eu] at J
    exact h _ J
  refine wpAny_call (codeAny_of_tree ?_)
  show wpAny _ A.in1 (callAny (.ref u) ⟨us, []⟩) _ _ _
  simp only [callAny]
  refine wpAny_bind (wpAny_load hu ?_)
  simp only [PySem.W.kxs_mw, show (Value.type "method-wrapper" == Value.type "method" || Value.type "method-wrapper" == Value.type "builtin_function_or_method" || Value.type "method-wrapper" == Value.type "method-wrapper") = true by decide, if_true]
  refine PySem.W.KFB.if_so (by decide) ?_
  refine wpAny_bind (PySem.W.check_bound_init F.excBase_ValueError.toExcCallFacts (I.kIn _ _ hC) ho rfl ?_)
  refine wpAny_bind (wpAny_pure (wpAny_pure ?_))
  refine ⟨plainId_quiet F.excBase_ValueError.init.plain _, codeAny_builtin F.excBase_ValueError.initEntry ?_⟩
  exact PySem.W.exc_init_tree (cls := .ref C) (t0 := t1) (dv := none) (c2 := .none) (c3 := .none) (b4 := .bool false) ho hl fun h' k hx _ => fin h' k hx
/-- the two statements of such an __init__ -/
def Body2 (self word fld text : Str) (body : List Stmt) : Prop := ∃ (p0 p1 p2 p3 p4 p5 p6 p7 p8 p9 p10 : Pos) (j : Nat), body = [.Expr (.Call (.Attribute (.Call (.Name "super" p0) [] [] p1) "__init__" p2) [.Constant (.str text) j p3, .Name word p4] [] p5) p6, .Assign [.Attribute (.Name self p7) fld p8] (.Name word p9) p10] ∧ (p2.endLine == p5.line) = true
theorem eval_sup {o : Expr} {name : Str} {apos pos : Pos} {e1 e2 : Expr} {env : Env} (hl : (apos.endLine == pos.line) = true) (h1 : starEach [e1, e2] env = [(false, eval e1 env), (false, eval e2 env)]) :
    eval (.Call (.Attribute o name apos) [e1, e2] [] pos) env = (do
      let ov ← attributeBase o name env (eval o env)
      standAt apos.atName
      let (f, first) ← holding [ov] (getMethod ov name (do return (← importBound o env).getD true))
      callWith pos f first (backTo pos (starEach [e1, e2] env)) []) := by
  have hp : methodCallPos true o env apos pos = pure pos := by unfold methodCallPos; rw [hl]; rfl
  show (do
    let ov ← attributeBase o name env (eval o env)
    standAt apos.atName
    methodCall o name apos pos env ov 2 (backTo pos (starEach [e1, e2] env)) []) = _
  rw [h1]
  have hm : ∀ ov, methodCall o name apos pos env ov 2 (backTo pos [(false, eval e1 env), (false, eval e2 env)]) [] = (do
      let (f, first) ← holding [ov] (getMethod ov name (do return (← importBound o env).getD true))
      callWith pos f first (backTo pos [(false, eval e1 env), (false, eval e2 env)]) []) := fun ov => by
    unfold methodCall
    have hf : methodCallForm 2 (backTo pos [(false, eval e1 env), (false, eval e2 env)]) [] = true := rfl
    rw [hf, hp]
    rfl
  simp only [hm]
structure ExF (P : Program) (K : PySem.W.Frag) (mg : Str → Option Value) (C : Addr) (fld : Str) (f cc cda : Addr) (file : Str) : Prop where
  T : OexC K C
  no : PySem.W.findIn K (.ref C) fld = some none
  cell : ∃ cl cld csl, K.lookup cc = some ⟨cl, cld, .cell (some (.ref C)), csl⟩
  code : ∃ ccl cdd vs ccs tf, K.lookup cda = some ⟨ccl, cdd, .fields vs, ccs⟩ ∧ vs[2]? = some (.str file tf)
  file : ((P.main.file : Str) == file) = true
  top : (P.main.scope.names.lookup ("super" : Str)).isSome = false
  sub : PySem.W.mroIn K C (.ref C) = some true
  sup : mg "super" = none
  opq : PySem.W.nsIn K cStatics "thirdparty.any" = some none
  ini : PySem.W.ks_superIn K C C "__init__" = some (some (.builtin "ValueError.__init__"))
  ve : PySem.W.subIn K (.ref C) (.type "ValueError") = some true
theorem fn_exc {P : Program} {w : World} {K : PySem.W.Frag} {mg : Str → Option Value} {base : Heap} {C f cc cda : Addr} {name qual self word fld text file : Str} {params : Arguments} {body : List Stmt} {scope : Scope} {dV kV doc pm ct oc : Value} {an od : Option Addr} {osl : Array (Option Value)} {ar : Arg} {k : Nat}
    (X : ExF P K mg C fld f cc cda file) (lk : K.lookup f = some ⟨oc, od, .func (PySem.W.fnX name qual params body scope [("__class__", cc)] dV kV doc pm an (.ref cda) ct), osl⟩) (hcd : PySem.W.codeIn K (.ref cda) qual = true)
    (S : NScope [self, word, "__class__"] [self, word] ["__class__"] scope) (hks : scope.names.lookup ("super" : Str) = some .globalImplicit) (hp : (params.posonlyargs ++ params.args).head? = some ar) (har : ar.arg = self) (hb2 : Body2 self word fld text body) (hd0 : (self == ("__debug__" : Str)) = false) (hd1 : (word == ("__debug__" : Str)) = false) (hc0 : (self == ("__classdict__" : Str)) = false) (hc1 : (word == ("__classdict__" : Str)) = false) :
    FnOk P w K mg base CX0 (k + 1) f (PySem.W.fnX name qual params body scope [("__class__", cc)] dV kV doc pm an (.ref cda) ct) [self, word] (spXI C fld) := by
  refine ⟨fun vs H Q E h => by obtain ⟨_, _, rfl, _⟩ := h; rfl, fun A outer s H args us vs Q E hr e0 hb r hsp => ?_⟩
  obtain ⟨a, v, rfl, ha, kk⟩ := hsp
  obtain ⟨u1, rfl, rv⟩ : ∃ u1, us = [.ref a, u1] ∧ RelV v u1 := by
    cases r with
    | @cons _ u0 _ ur ra rr =>
      obtain rfl : u0 = Value.ref a := ra
      cases rr with
      | @cons _ u1 _ ur2 rv rn =>
        cases rn
        exact ⟨u1, rfl, rv⟩
  have KX : K.In s.heap := e0.mod.kin.keeps fun b o e => (e0.bs b o e).1
  have lim : s.heap.NoLimit := e0.mod.nolimit.keeps fun b o e => (e0.bs b o e).1
  obtain ⟨cl, cld, csl, lcc⟩ := X.cell
  obtain ⟨ccl, cdd, cvs, ccs, tf, lcd, hvs⟩ := X.code
  refine codeAny_call_function hr.depth (KX _ _ lk) rfl S.co S.gen rfl (PySem.W.codeRec_of KX hcd) (hb _ _ _ _ ?_)
  refine wpAny_newFunctionEnv S.nocell (fun ⟨n, _⟩ hy => S.par n (List.of_mem_zip hy).1) (fun h₁ hns hsb => ⟨lim.fresh _ hsb, ?_⟩) S.kind
  show codeAny _ _ (.func body (PySem.W.envX qual scope s.heap.objs.size f (.ref cda) [("__class__", cc)])) _ _
  refine ks_codeAny_funcAt ?_
  have kp : ∀ b o, s.heap.get? b = some o → h₁.get? b = some o := fun b o e => hsb.extBut b o (Nat.ne_of_lt (Heap.lt_size e)) (Heap.get?_push_of_some _ e)
  have hcb := e0.bs _ _ (e0.mod.kin _ _ lcc)
  have C0 : CellsAt [("__class__", cc)] ["__class__"] [some (.ref C)] s.heap H := by
    have one : ∀ y c, ([("__class__", cc)] : List (Str × Addr)).lookup y = some c → y = "__class__" ∧ c = cc := fun y c e => by
      rw [List.lookup_cons] at e
      split at e
      · rename_i z
        exact ⟨eq_of_beq z, (Option.some.inj e).symm⟩
      · cases e
    refine ⟨rfl, fun y c e => ?_, fun x y c e1 e2 => (one x c e1).1.trans (one y c e2).1.symm, fun i y e => ?_⟩
    · rw [(one y c e).2]
      exact ⟨hcb.2, _, _, hcb.1, rfl⟩
    · match i, e with
      | 0, e =>
        rw [← Option.some.inj e]
        exact ⟨cc, rfl, fun v hv => ⟨.ref C, by cases hv; exact rfl, _, hcb.1, rfl⟩⟩
  have I : Inv (ncx CX0 P w K mg base [self, word, "__class__"] ⟨name, qual, params, body, scope, [("__class__", cc)], cda⟩ f A outer s H E) [] (startF [self, word, "__class__"] [.ref a, v] [some (.ref C)]) H { s with heap := h₁, toks := s.toks + ([self, word].zip [Value.ref a, u1]).length } :=
    inv_startN (F := ⟨name, qual, params, body, scope, [("__class__", cc)], cda⟩) S hr.hd e0 rfl r C0 hns kp
  have KX1 : K.In h₁ := KX.keeps kp
  obtain ⟨p0, p1, p2, p3, p4, p5, p6, p7, p8, p9, p10, j, rfl, hline⟩ := hb2
  have hkc : scope.names.lookup ("__class__" : Str) = some .free := S.frk _ (List.mem_singleton.mpr rfl)
  have hself : scope.names.lookup self = some .local := S.par _ List.mem_cons_self
  have hword : scope.names.lookup word = some .local := S.par _ (List.mem_cons_of_mem _ List.mem_cons_self)
  obtain ⟨nm, q, N, bs, bm, sn, sub, ab, col, dd, k0, k1, k2, k3, k5, hC, hbm⟩ := X.T.cls
  have hcl : PySem.W.clsIn K C = some { name := nm, bases := bs, mro := .ref C :: bm, ns := N, qualname := q, hasDict := true, slotNames := sn, subclasses := sub, abstract := ab, collection := col, hasDel := false } := by unfold PySem.W.clsIn; rw [hC] <;> rfl
  obtain ⟨t1, hoa⟩ := exo_at I.hok ha
  obtain ⟨mb, b1, b2⟩ := I.mod.blt
  have boot : bootBuiltins "super" = some (.type "super") := by first | boot_by_name | rfl | kernel_rfl
  have hne : a ≠ C := fun z => by
    have := KX1 _ _ hC
    rw [← z, hoa] at this
    cases this
  refine ks_wpAt_execs_cons (ks_wpAt_Expr_any (ks_wpAt_MethodCall ?_ (eval_sup hline rfl)) I.quiet rfl)
  refine ks_wpAt_super_base (f := f) (cc := cda) hks hkc (by decide) rfl (KX1 _ _ lk) rfl hp rfl (KX1 _ _ lcd) rfl hvs X.file X.top ?_
  refine PySem.W.ks_loadName_global I.ok.kind hks (Calls.loadGlobal_builtin (I.mod.glob.keeps I.bk) X.sup (b1.keeps I.bk) ((b2 _ (by decide)).trans boot) ⟨rfl, ?_⟩)
  refine wpAny_loadName_free I.ok.kind hkc rfl ⟨_, kp _ _ hcb.1, rfl⟩ ?_
  rw [har]
  have ndp : [self, word].Nodup := (List.nodup_append.mp (show ([self, word] ++ [("__class__" : Str)]).Nodup from S.nd)).1
  refine wpAny_loadName_local I.ok.kind hself hns (zip_look (i := 0) ndp rfl rfl) ?_
  refine ks_wpAny_isType_cls (KX1 _ _ hC) rfl ⟨rfl, ?_⟩
  refine ks_wpAny_call_super (KX1 _ _ hC) rfl hoa rfl (fun c z => by cases z) (PySem.W.looks_mroIn KX1 X.sub) (fun h2 e2 kq => ?_)
  have I2 := I.kept (h' := h2) (t' := s.toks + ([self, word].zip [Value.ref a, u1]).length) kq
  have KX2 : K.In h2 := KX1.keeps kq
  have hoa2 := kq _ _ hoa
  have hal : PySem.W.alongIn K "__init__" (((Value.ref C :: bm).dropWhile (· != .ref C)).drop 1) = some (some (.builtin "ValueError.__init__")) := by
    have := X.ini
    unfold PySem.W.ks_superIn at this
    rw [hcl] at this
    exact this
  have IA : PySem.W.InstAt h2 a (PySem.W.excObj C t1 none .none) C none := ⟨hoa2, rfl, rfl, trivial⟩
  refine PySem.W.kxs_getMethod PySem.W.kxs_ValueError (l₀ := .ref C :: bm) e2 (PySem.W.looks_opaque KX2 X.opq) ?_ rfl KX2 hal (IA.type.andThen (PySem.W.looks_subIn KX2 X.ve)) hne (by decide) ?_
  · exact fun A Q E s k q => wpAny_bind ((PySem.W.looks_clsIn KX2 hcl) A _ E s k (wpAny_pure q))
  have kp3 : ∀ b o, h2.get? b = some o → (h2.push (PySem.W.kxs_mw "ValueError.__init__" a)).get? b = some o := fun b o e => Heap.get?_push_of_some _ e
  have I3 := I2.kept (h' := h2.push (PySem.W.kxs_mw "ValueError.__init__" a)) (t' := s.toks + ([self, word].zip [Value.ref a, u1]).length + 1) kp3
  have hu3 : (h2.push (PySem.W.kxs_mw "ValueError.__init__" a)).get? h2.objs.size = some (PySem.W.kxs_mw "ValueError.__init__" a) := Heap.get?_push_at rfl rfl
  have I4 := I3.pins_of (pins' := [(h2.objs.size, PySem.W.kxs_mw "ValueError.__init__" a)]) fun p hp => by
    rw [List.mem_singleton.mp hp]
    exact ⟨hu3, I2.hok.fresh (Nat.le_refl _), (Nat.ne_of_lt I2.lt).symm, I2.nofs (Nat.le_refl _), fun v z => by cases z⟩
  have pw : PE (ncx CX0 P w K mg base [self, word, "__class__"] ⟨name, qual, params, [.Expr (.Call (.Attribute (.Call (.Name "super" p0) [] [] p1) "__init__" p2) [.Constant (.str text) j p3, .Name word p4] [] p5) p6, .Assign [.Attribute (.Name self p7) fld p8] (.Name word p9) p10], scope, [("__class__", cc)], cda⟩ f A outer s H E) (.Name word p4) (tVar 1) := pe_var rfl (.inl hword) hd1 hc1
  have pa := pa_cons (pe_str (x := text) (j := j) (pos := p3)) (pa_cons pw pa_nil)
  refine PySem.W.kxs_callWith (i := "ValueError.__init__") (x := a) rfl (PySem.Calls.evalArgs_plain (thn (pa.run p5 _ _ _ _ (fun vs H1 => vs = [.str text, v] ∧ H1 = H) I4 ⟨v, rfl, rfl, rfl⟩) fun ws s5 h5 => ?_))
  obtain ⟨vs5, H5, I5, r5, rfl, rfl⟩ := h5
  have hu5 := (I5.pin _ (List.mem_append_right _ (List.mem_singleton.mpr rfl))).1
  have l5 : ws.length ≤ sizeLine := by
    have := Paired.length r5
    rw [← this]
    show 2 ≤ sizeLine
    decide
  refine ⟨hu5, ?_⟩
  refine call_mw X.T (I5.pins_of (pins' := []) fun p hp => absurd hp (by exact List.not_mem_nil)) ha hu5 l5 fun s6 I6 => ?_
  have pself : PE (ncx CX0 P w K mg base [self, word, "__class__"] ⟨name, qual, params, [.Expr (.Call (.Attribute (.Call (.Name "super" p0) [] [] p1) "__init__" p2) [.Constant (.str text) j p3, .Name word p4] [] p5) p6, .Assign [.Attribute (.Name self p7) fld p8] (.Name word p9) p10], scope, [("__class__", cc)], cda⟩ f A outer s H5 E) (.Name self p7) (tVar 0) := pe_var rfl (.inl hself) hd0 hc0
  have pword : PE (ncx CX0 P w K mg base [self, word, "__class__"] ⟨name, qual, params, [.Expr (.Call (.Attribute (.Call (.Name "super" p0) [] [] p1) "__init__" p2) [.Constant (.str text) j p3, .Name word p4] [] p5) p6, .Assign [.Attribute (.Name self p7) fld p8] (.Name word p9) p10], scope, [("__class__", cc)], cda⟩ f A outer s H5 E) (.Name word p9) (tVar 1) := pe_var rfl (.inl hword) hd1 hc1
  have st := pss_one (ps_ost (f := fld) (p' := p8) (pos := p10) pself pword)
  refine wpAt_of_wpAny (wpAny_mono (st.run [] s6 _ H5 { nx := fun _ H' => Q .non H', rt := Q } I6 ⟨v, rfl, .ref a, rfl, a, C, rfl, X.T, X.no, .inl ⟨ha, fun dx n ne => kk dx n ne⟩⟩) (fun fl s7 hs => ?_) fun e s' hs => hs)
  cases fl with
  | ret u =>
    obtain ⟨v7, σ7, H7, J, r7, q7⟩ := hs
    exact ⟨v7, H7, J.os, J.bare, J.base, J.hok, r7, q7⟩
  | next =>
    obtain ⟨σ7, H7, J, q7⟩ := hs
    exact ⟨.non, H7, J.os, J.bare, J.base, J.hok, rfl, q7⟩
  | brk =>
    obtain ⟨_, _, _, q7⟩ := hs
    exact False.elim q7
  | cont =>
    obtain ⟨_, _, _, q7⟩ := hs
    exact False.elim q7
end ExS

set_option maxRecDepth 100000
set_option maxHeartbeats 4000000
namespace ExS
open PySem PySem.Spec PyProof.Rows L2
/-- an own error's class under its name -/
structure XMk (P : Program) (w : World) (K : PySem.W.Frag) (mg : Str → Option Value) (base : Heap) (k : Nat) (x : Str) (C : Addr) (fld : Str) : Prop where
  ex : ∃ (fI : Addr) (fd : FuncData) (ps : List Str), OexC K C ∧ PySem.W.findIn K (.ref C) "__init__" = some (some (.ref fI)) ∧ PySem.W.typeIn K (.ref fI) = some (.type "function") ∧ FnOk P w K mg base L2.CX0 k fI fd ps (spXI C fld) ∧ Binds K fd ps [] ∧ mg x = some (.ref C)
section
variable {X : Cx} {x fld : Str} {C : Addr} {k j : Nat} {p pos : Pos} {e : Expr} {es : List Expr} {ta : TA}
theorem pmk_x (c : XMk X.prog X.w X.K X.mg X.base k x C fld) (hr : Room j X.A) (hk : k + 1 ≤ j) (hg : Gl X x) (ha : PA X (e :: es) ta)
    (hdb : (x == ("__debug__" : Str)) = false := by decide) (he : starEach (e :: es) X.env = (false, eval e X.env) :: starEach es X.env := by rfl) (hpl : (backTo pos (starEach es X.env)).any (·.1) = false := by rfl) :
    PMk X (.Call (.Name x p) (e :: es) [] pos) (tMkO C (spXI C fld) [] ta) := by
  obtain ⟨fI, fd, ps, T, iC, tI, F, b, hm⟩ := c.ex
  exact pmk_oex T iC tI F (hr.mono hk) b .nil L2.pass0 hg hm ha hdb he hpl
end
theorem exo_exd {a C d : Addr} {o : Option Addr} {fs : List (Str × V)} {H : Hp} (h1 : H a = some (exo a C o)) (h2 : H d = none) : d ≠ a := fun z => by
  rw [z, h1] at h2
  cases h2
/-- what the making of such an error asks -/
theorem rd_x {C : Addr} {fld : Str} {H1 : Hp} {v : V} {Q : XK} (k : ∀ d H', Same H1 H' → H1 d = none → H' d = some (.xd [(fld, v)]) → Q (.ref C) (some d) H') :
    [v].length ≤ 1000 ∧ ∀ a, H1 a = none → spXI C fld (.ref a :: ([v] ++ [])) (upd H1 a (exo a C none)) (fun w H2 => w = .non ∧ ∃ (d : Addr) (fs : List (Str × V)), H2 a = some (exo a C (some d)) ∧ H2 d = some (exd d fs) ∧ H1 d = none ∧ Q (.ref C) (some d) (upd (del H2 a) d (.xd fs))) (fun _ _ _ => False) := by
  refine ⟨by show 1 ≤ 1000; decide, fun a na => ⟨a, v, rfl, upd_same, fun dx nd ne => ⟨rfl, dx, [(fld, v)], upd_same, by rw [upd_ne ne, upd_same], ?_, ?_⟩⟩⟩
  · rw [upd_ne ne] at nd
    exact nd
  · rw [upd_ne ne] at nd
    refine k dx _ (fun b o e => ?_) nd upd_same
    have b1 : b ≠ a := ne_of_none e na
    have b2 : b ≠ dx := ne_of_none e nd
    rw [upd_ne b2, del_ne b1, upd_ne b1, upd_ne b2, upd_ne b1]
    exact e
theorem takes0 {X : Cx} : L2.Takes X (fun _ _ _ _ => False) := fun _ _ ⟨_, _, _, _, _, _, _, _, _, _, _, _, _, _, _, _, w⟩ => w.elim
/-- a class whose __init__ may raise -/
structure MakX (P : Program) (w : World) (K : PySem.W.Frag) (mg : Str → Option Value) (base : Heap) (k : Nat) (x : Str) (C : Addr) (sp : Sp) (dvs : List V) : Prop where
  ex : ∃ (f : Addr) (fd : FuncData) (ps : List Str) (ds : List Value), Mk K C f ∧ FnOk P w K mg base (L2.CX P w) k f fd ps sp ∧ mg x = some (.ref C) ∧ Binds K fd ps ds ∧ Vals dvs ds
def tMakeS (C : Addr) (sp : Sp) (dvs : List V) (E : L2.St → XK) (t : TA) : TE := fun σ H Q => t σ H fun vs H1 => ∀ x dx, H1 x = none → H1 dx = none → dx ≠ x →
  sp (.ref x :: (vs ++ dvs)) (upd (upd H1 dx (.own x)) x (.ins C dx [])) (fun v H2 => v = .non ∧ Q (.ref x) H2) (E σ)
section
variable {X : Cx} {x : Str} {C : Addr} {k j : Nat} {p pos : Pos} {e : Expr} {es : List Expr} {t : TA} {sp : Sp} {dvs : List V} {W : WX}
theorem pe_mkT (c : MakX X.prog X.w X.K X.mg X.base k x C sp dvs) (hr : Room j X.A) (hk : k + 1 ≤ j) (tk : Takes X W) (hg : Gl X x) (ha : PA X (e :: es) t)
    (hdb : (x == ("__debug__" : Str)) = false := by decide) (he : starEach (e :: es) X.env = (false, eval e X.env) :: starEach es X.env := by rfl) (hpl : (backTo pos (starEach es X.env)).any (·.1) = false := by rfl) :
    PE X (.Call (.Name x p) (e :: es) [] pos) (tMakeS C sp dvs (WE W) t) := by
  obtain ⟨f, fd, ps, ds, M, F, hm, b, d⟩ := c.ex
  refine ⟨fun pins s σ H Q I h => wpAny_Call_Name_kw (ld_glob I hg hm ?_ hdb)⟩
  refine PySem.W.callWith_K (h₀ := X.base) I.ok.mod.kin M.kp (thn (ha.run pos pins s σ H _ I h) fun us s1 ⟨vs, H1, I1, r, q⟩ => ⟨I1.kIn, ?_⟩) he hpl
  have q1 := q (s1.heap.objs.size + 1) s1.heap.objs.size (I1.hok.fresh (Nat.le_succ _)) (I1.hok.fresh (Nat.le_refl _)) (Nat.ne_of_lt (Nat.lt_succ_self _))
  have J := Inv.made (C := C) I1
  have rr : Vals (V.ref (s1.heap.objs.size + 1) :: (vs ++ dvs)) (Value.ref (s1.heap.objs.size + 1) :: (us ++ ds)) := .cons rfl (r.append d)
  have len : (Value.ref (s1.heap.objs.size + 1) :: us ++ ds).length = ps.length := (rr.length).symm.trans (F.len _ _ _ _ q1)
  have go := F.run (X.A.under (.builtin "type.__call__" ⟨.ref C :: us, []⟩)) X.stack _ _ ⟨Value.ref (s1.heap.objs.size + 1) :: us, []⟩ _ _ _ _ ((hr.mono hk).make C us []) (J.env0.make C us []) (b _ (Value.ref (s1.heap.objs.size + 1) :: us) J.kIn len) rr q1
  refine wpAny_call (make_map (f := f) I1.kIn M.makes M.init (beq_iff_eq.mp M.fn) (codeAny_mono go fun res s2 hres => ?_))
  match res, hres with
  | .error er, hres => exact passAt tk σ pins _ _ er s2 J hres
  | .ok (.ret u), hres =>
    obtain ⟨v, H2, J2, rv, ev, q2⟩ := J.after hres
    subst ev
    exact ⟨rv, V.ref (s1.heap.objs.size + 1), H2, J2, rfl, q2⟩
  | .ok .next, hres => exact False.elim hres
  | .ok .brk, hres => exact False.elim hres
  | .ok .cont, hres => exact False.elim hres
end
section
variable {P : Program} {w : World} {K : PySem.W.Frag} {mg : Str → Option Value} {base : Heap}
/-- a def that may raise, by its body -/
theorem fnR {x qual : Str} {st : Stmt} {f : Addr} {fd : FuncData} {N ps : List Str} {k : Nat} {sp : Sp} (F : C8.Fun K x qual st f fd) (S : FnScope N ps (C8.fnScope st)) (len : ∀ vs H Q E, sp vs H Q E → vs.length = ps.length)
    (hbody : ∀ (cdv : Value) (A : Around) (outer : List Env) (s : Shared) (H : Hp) (vs : List V) (Q : VK) (E : XK), Room k (A.deeper (envOfC qual (C8.fnScope st) s.heap.objs.size f cdv)) → sp vs H Q E →
      ∃ t, PSs (cxOf (L2.CX P w) P w K mg base N qual (C8.fnScope st) f cdv A outer s H E) (C8.fnBody st) t ∧ t { nx := fun _ H' => Q .non H', rt := Q } (start N vs) H) : FnOk P w K mg base (L2.CX P w) (k + 1) f fd ps sp := by
  obtain ⟨oc, od, dV, kV, doc, pm, an, cdv, ct, osl, rfl, lk, hcd⟩ := F.ex
  exact fn_of lk hcd S len fun A outer s H vs Q E hr hsp => hbody cdv A outer s H vs Q E hr hsp
end
end ExS

set_option maxRecDepth 100000
set_option maxHeartbeats 4000000
/-! isinstance of a caught error that has a field -/
namespace PySem.W
open PySem PySem.Spec PySem.Calls PyProof.Rows
section
variable {prog : Program} {w : World} {A : Around} {E : Value → Shared → Prop} {s : Shared} {K : Frag} {x D : Addr} {ox : Obj} {od : Option Obj}
theorem findObj_dataD {C : Addr} {name : Str} {a g : Value} (hc : (clsIn K C).isSome = true) (ha : findIn K (.ref C) name = some (some a)) (hg : specialIn K a "__get__" = some (some g)) (ht : takesIn K a = some true) : findObj K C od name = some (.bind g a) := by
  obtain ⟨cd, hc⟩ := Option.isSome_iff_exists.mp hc
  unfold findObj
  rw [hc, Option.bind_some, ha, Option.bind_some]
  simp [hg, ht]
theorem class_of_err {Q : Option Value → Shared → Prop} (T : L2.ExcC K D) (X : K.In s.heap) (I : InstAt s.heap x ox D od) (h : Q (some (.ref D)) { s with toks := s.toks + 1 }) : wpAny (model prog w) A (getAttr? (.ref x) "__class__") Q E s := by
  have hf : findObj K D od "__class__" = some (.bind (.builtin "getset_descriptor.__get__") (.builtin "object.__class__")) := findObj_dataD (by obtain ⟨cd, hc, _⟩ := any_some T.hd; rw [hc]; rfl) T.ha T.hn T.ht
  obtain ⟨hp, g, d, t, os⟩ := s
  have L0 := I.type (M := model prog w)
  have L1 := looks_findIn (M := model prog w) X T.hg
  have L2 := looks_findIn (M := model prog w) X T.hk
  have L3 := looks_find (M := model prog w) X I hf
  have sub : Looks (model prog w) hp (isInstance (.ref x) (.type "BaseException")) true := L0.andThen (looks_subIn X T.hs)
  have n2 : (Value.builtin "BaseException.__getattribute__" == Value.builtin "object.__getattribute__") = false := by decide +kernel
  have n1 : (onTheHeap (Value.ref D) && Value.builtin "BaseException.__getattribute__" == Value.builtin "object.__getattribute__") = false := by rw [n2]; rfl
  have n0 : (false && onTheHeap (Value.builtin "BaseException.__getattribute__")) = false := rfl
  unfold getAttr? getAttrBy? getAttrBy
  refine wpAny_bind (wpAny_mkText (wpAny_bind (wpAny_attempt (wpAny_holding (wpAny_bind (L0.at (wpAny_bind (L1.at ?_))))))))
  show wpAny _ _ (if (onTheHeap (Value.ref D) && Value.builtin "BaseException.__getattribute__" == Value.builtin "object.__getattribute__") = true then _ else _) _ _ _
  rw [n1, if_neg Bool.false_ne_true]
  unfold getAttrByItsOwn hookBefore
  refine wpAny_bind ?_
  rw [if_pos (show onTheHeap (Value.ref D) = true from rfl)]
  refine L2.at ?_
  refine wpAny_bind (wpAny_attempt (wpAny_holding ?_))
  unfold callGetattribute
  rw [n0, if_neg Bool.false_ne_true]
  unfold boundAndCalled
  rw [PySem.F.excAttr_ValueError.ga.bind (.ref x)]
  refine wpAny_bind (wpAny_pure ?_)
  show wpAny _ _ (call (.builtin "BaseException.__getattribute__") [.ref x, .str "__class__" t]) _ _ _
  refine wpAny_call (codeAny_call_builtin PySem.F.excAttr_ValueError.ga.plain PySem.F.entry_bexc_ga ?_)
  refine @check_slot (model prog w) _ _ ⟨hp, g, d, t + 1, os⟩ "BaseException.__getattribute__" "BaseException" "__getattribute__" (.ref x) [.str "__class__" t] [] _ (by decide +kernel) (by decide +kernel) sub (PySem.F.args_bexc_ga (.ref x) (.str "__class__" t)) ?_
  unfold Builtin.«object.__getattribute__»
  refine wpAny_bind (wpAny_of_eq (a := ((Value.ref x : Value), [Value.str "__class__" t])) (by first | rfl | (simp only [slotArgs]; rfl)) ?_)
  refine wpAny_bind (wpAny_pure (wpAny_bind (L0.at (wpAny_bind (L3.at ?_)))))
  show wpAny _ _ (holding [Value.builtin "object.__class__"] (call (.builtin "getset_descriptor.__get__") [.builtin "object.__class__", .ref x, .ref D]) >>= ret) _ _ _
  refine wpAny_bind (wpAny_holding (wpAny_call (class_get (s := ⟨hp, g, d, t + 1, os⟩) (ox := ox) (od := od) X I T.hm ?_)))
  refine wpAny_pure ?_
  show wpAny _ _ (handedOut (.ref D)) _ _ _
  rw [handedOut_of (v := .ref D) rfl]
  first
    | exact wpAny_pure (wpAny_pure h)
    | exact wpAny_pure h
    | exact wpAny_pure (wpAny_bind (wpAny_pure (wpAny_pure h)))
theorem kitx_err (T : L2.ExcC K D) : KitX K (.ref x) (.ref D) (fun h => InstAt h x ox D od) where
  ty := fun _ _ _ I => I.type
  it := fun _ _ X _ => by
    obtain ⟨cdD, hcD, _⟩ := any_some T.hd
    unfold clsIn at hcD
    split at hcD
    · rename_i c' d' cd' sl' ho
      intro A' Q' E' s' k q
      unfold isType loadHead
      exact wpAny_bind (wpAny_loadPart (k _ _ (X _ _ ho)) (wpAny_pure q))
    · cases hcD
  ne := fun h tp dd its n sl X htp => by
    obtain ⟨cdD, hcD, _⟩ := any_some T.hd
    refine Bool.eq_false_iff.mpr fun q => ?_
    have e : D = tp := Value.ref.inj (beq_iff_eq.mp q)
    subst e
    unfold clsIn at hcD
    split at hcD
    · rename_i c' d' cd' sl' ho
      have z := (X _ _ ho).symm.trans htp
      cases z
    · cases hcD
  ca := fun X I k => class_of_err T X I k
end
end PySem.W
namespace ExS
open PySem PySem.Spec PyProof.Rows L2
/-- isinstance(e, c), e the error that the suite holds, with its field -/
def rIsD (K : PySem.W.Frag) (a : Addr) (cls : Value) (d : Option Addr) : List V → Hp → VK → Prop := fun xs H Q => ∃ (D dd : Addr) (fs : List (Str × V)) (c : V) (cv : Value) (b : Bool), xs = [.ref a, c] ∧ cls = .ref D ∧ d = some dd ∧ H dd = some (.xd fs) ∧ ExcC K D ∧ ClsV c cv ∧ PySem.W.kitOne K (.ref D) cv = some b ∧ Q (.bl b) H
theorem call_isD {X : Cx} {a : Addr} {cls : Value} {d : Option Addr} {oe : Obj} {pn : List (Addr × Obj)} (hz : Zc cls d oe) (hf : ∃ vs, oe.data = .fields vs) : CallR (X.suite a ((a, oe) :: pn)) (.builtin "isinstance") (rIsD X.K a cls d) := by
  intro pins s σ H xs us Q I r h
  obtain ⟨D, dd, fs, c, cv, b, rfl, rfl, rfl, ea, T, hcv, e, q⟩ := h
  obtain ⟨u1, u2, rfl, rx, rt⟩ := vals2 r
  have ec := hcv.eq rt
  subst ec
  obtain rfl : u1 = Value.ref a := rx
  obtain ⟨ha, _⟩ := I.pin (a, oe) (List.mem_append.mpr (.inl List.mem_cons_self))
  obtain ⟨vs, hd⟩ := hf
  have hx : ObjOk X.prog X.w H s.heap dd (.xd fs) := I.hok dd _ ea
  obtain ⟨mA, hns, hr⟩ := hx
  obtain ⟨od, ho, hl⟩ := lookIn_ns hns
  have J : PySem.W.InstAt s.heap a oe D (some od) := ⟨ha, hz.1, by unfold PySem.W.notCls; rw [hd] <;> rfl, by rw [hz.2]; exact ho⟩
  exact PySem.W.kia_one (PySem.W.kitx_err T) I.kIn J e (fun z => nomatch z) fun tk => ⟨.bl b, H, I.kept (t' := tk) fun _ _ z => z, rfl, q⟩
end ExS

set_option maxRecDepth 100000
set_option maxHeartbeats 4000000
namespace Lx
open PySem PySem.Spec PyProof.Rows L2
open AutoSeq1 (wpAny_loadPart')
/-! tuple(d), d a dict -/
section
variable {prog : Program} {w : World} {A : Around} {E : Value → Shared → Prop} {s : Shared} {T : String} {r d : Addr} {n : Nat} {P : Nat → Value → Prop} {OK : Heap → Prop}
theorem collect_kdl {Q : List Value → Shared → Prop} (K : PySem.W.KdlSrc prog w T r d n P OK) (hh : A.handled = none) (hok : OK s.heap) (hn : n ≤ sizeLine)
    (hQ : ∀ h' tk (acc : Array Value), (∀ b o, s.heap.get? b = some o → h'.get? b = some o) → s.heap.objs.size ≤ h'.objs.size → ItemsOf P acc n → Q acc.toList { s with heap := h', toks := tk }) : wpAny (model prog w) A (collect (.ref r)) Q E s := by
  have there := K.there _ hok
  unfold collect; refine wpAny_bind (wpAny_runValue (codeAny_builtin PySem.F.entry_proto_collect ?_)); rw [Around.under_plainId PySem.F.plain_proto_collect _]
  show wpAny _ A.in1 (newList [] >>= fun z => again (.builtin "list.__iadd__" ⟨[z, .ref r], []⟩)) _ _ s
  refine wpAny_bind (wpAny_newObj_type (wpAny_pure ⟨plainId_quiet PySem.F.plain_list_iadd _, codeAny_builtin PySem.F.entry_list_iadd ?_⟩)); rw [Around.under_plainId PySem.F.plain_list_iadd _]
  show wpAny _ A.in1 (Builtin.List.listExtendWith (.ref s.heap.objs.size) (.ref r) (.ref s.heap.objs.size)) _ _ _
  have fin : ∀ s', (∃ (h' : Heap) (tk : Nat) (acc : Array Value) (c : Nat), s' = { s with heap := h', toks := tk } ∧ (∀ b o, b ≠ s.heap.objs.size → (s.heap.push { cls := .type "list", data := .seq ([] : List Value).toArray }).get? b = some o → h'.get? b = some o) ∧ h'.get? s.heap.objs.size = some { cls := .type "list", dict := none, data := .seq acc c, slots := #[] } ∧ ItemsOf P acc n) →
      wpAny (model prog w) A (match Value.ref s.heap.objs.size with
        | Value.ref a => do
          match (← load a).data with
            | Data.seq xs _ => pure xs.toList
            | _ => unsupported "internal:collect"
        | _ => unsupported "internal:collect") Q E s' := by
    rintro s' ⟨h', tk, acc, c, rfl, hk, hS, hacc⟩
    show wpAny _ A (load s.heap.objs.size >>= _) _ _ _
    refine wpAny_bind (wpAny_load hS (wpAny_pure ?_))
    exact hQ h' tk acc (fun b o e => hk b o (Nat.ne_of_lt (Heap.lt_size e)) (Heap.get?_push_of_some _ e)) (Nat.le_of_lt (Heap.lt_size hS)) hacc
  have ext := PySem.W.kdl_extend (A := A) (s := { s with heap := s.heap.push { cls := .type "list", data := .seq ([] : List Value).toArray } })
    (R := fun q s' => q = .ok (.ret (.ref s.heap.objs.size)) ∧ ∃ (h' : Heap) (tk : Nat) (acc : Array Value) (c : Nat), s' = { s with heap := h', toks := tk } ∧ (∀ b o, b ≠ s.heap.objs.size → (s.heap.push { cls := .type "list", data := .seq ([] : List Value).toArray }).get? b = some o → h'.get? b = some o) ∧ h'.get? s.heap.objs.size = some { cls := .type "list", dict := none, data := .seq acc c, slots := #[] } ∧ ItemsOf P acc n)
    K hh (K.keep _ _ hok fun b _ o e => Heap.get?_push_of_some _ e) _ (Nat.ne_of_gt there.1) (Nat.ne_of_gt there.2) (.ref s.heap.objs.size) 0 (Heap.get?_push_size _ rfl) (fun h' tk acc c hk hS hacc => ⟨rfl, h', tk, acc, c, rfl, hk, hS, hacc⟩) hn
  refine wpAny_mono ext (fun q s' h => ?_) (fun e s' h => absurd h.1 (by simp))
  cases q with
  | done y =>
    obtain ⟨e, h⟩ := h
    cases e
    exact fin s' h
  | again c' => exact ⟨h.1, codeAny_mono h.2 fun y s2 hy => by obtain ⟨rfl, hy⟩ := hy; exact fin s2 hy⟩
theorem tuple_kdl {Q : Value → Shared → Prop} (K : PySem.W.KdlSrc prog w T r d n P OK) (hh : A.handled = none) (hok : OK s.heap) (hn : n ≤ sizeLine)
    (h : ∀ (h' : Heap) (tk : Nat) (acc : Array Value), (∀ b o, s.heap.get? b = some o → h'.get? b = some o) → s.heap.objs.size ≤ h'.objs.size → ItemsOf P acc n → Q (.ref h'.objs.size) { s with heap := h'.push { cls := .type "tuple", data := .seq acc }, toks := tk }) :
    wpAny (model prog w) A (call (.type "tuple") [.ref r]) Q E s := by
  refine callType_codes (T := "tuple") (Bi := Builtin.«object.__init__») (Q₁ := fun v s1 => (∃ o, s1.heap.get? (match v with | .ref b => b | _ => 0) = some o ∧ o.cls = .type "tuple") ∧ (∃ b, v = .ref b) ∧ Q v s1) PySem.F.called_tuple (PySem.F.typeCall_tuple_1 _) PySem.F.entry_object_init (codeAny_of_tree ?_) ?_
  · show wpAny _ A.in1.in1 (do checkBuiltinCall "tuple.__new__" ⟨[.type "tuple", .ref r], []⟩; again (.builtin "tuple.__new__" ⟨[.type "tuple", .ref r], []⟩)) _ _ s
    refine wpAny_bind (wpAny_of_eq (PySem.F.newCall_tuple_1 _) (wpAny_pure ⟨plainId_quiet (by decide +kernel) _, codeAny_builtin PySem.F.entry_tuple_new ?_⟩)); rw [Around.under_plainId (by decide +kernel) _]
    obtain ⟨hp, g, dd, tk, os⟩ := s
    have f1 := sub_tuple_self
    have f2 := init_tuple_lookup
    have f3 := madeHere_tuple
    have hTy : Shared.TypeIs ⟨hp, g, dd, tk, os⟩ (.ref r) T := K.type _ hok
    have hnt := K.notTuple
    have hc := fun {Q : List Value → Shared → Prop} {E : Value → Shared → Prop} => collect_kdl (A := A.in1.in1) (E := E) (Q := Q) K hh hok hn
    wp_walk using wpAny_typeOf hTy, hc
    intro h' tk2 acc hk hz hacc
    have ea : acc.toList.toArray = acc := by simp
    refine wpAny_bind (wpAny_pure ?_)
    show wpAny _ _ (Builtin.Tuple.tupleExact acc.toList.toArray >>= fun v => ret v) _ _ _
    rw [ea]; unfold Builtin.Tuple.tupleExact
    exact wpAny_bind (wpAny_newObj_type (wpAny_pure ⟨⟨_, Heap.get?_push_size _ rfl, rfl⟩, ⟨_, rfl⟩, h h' tk2 acc hk hz hacc⟩) (by show acc.size ≤ sizeLine; rw [hacc.1]; exact hn))
  · rintro obj s1 ⟨⟨o, ho, hoc⟩, ⟨b, rfl⟩, hq⟩
    have hTy : s1.TypeIs (.ref b) "tuple" := ⟨o, ho, hoc⟩
    exact ⟨hTy, PySem.F.args_object_init_2 _ _, object_init_meets PySem.F.called_tuple.init.lookup PySem.F.called_tuple.made (by decide) prog w A.in1 _ s1 ⟨hTy, rfl, hq⟩⟩
end
theorem call_tupleD {X : Cx} (hcalm : X.calm = true) : CallR X (.type "tuple") (fun xs H Q => ∃ (a : Addr) (kvs : List (Key × V)), xs = [.ref a] ∧ Rd H a (.dK kvs) ∧ ∀ p, H p = none → Q (.ref p) (upd H p (.tup (kvs.map fun kv => kV kv.1)))) := by
  intro pins s σ H xs us Q I rv q
  obtain ⟨a, kvs, rfl, hd, q⟩ := q
  obtain ⟨u, rfl, rx⟩ := vals1 rv
  cases rx
  obtain ⟨z, lo, vs, rel, dd⟩ := dk_rd I.hok hd
  obtain ⟨ep, hat⟩ := dd.dictAt
  have hks : (kvs.map fun kv => kV kv.1) = vs.map fun p => kV p.1 := by have e := congrArg (List.map kV) rel.keys; rw [List.map_map, List.map_map] at e; exact e
  have hz : vs.length ≤ sizeLine := by rw [← rel.length]; exact z
  refine tuple_kdl (PySem.W.kdl_dict (knd := mixKind X.prog X.w) (kvs := vs) (ep := ep) lo) (I.ok.hd hcalm) hat hz fun h' tk acc hk hsz hacc => ?_
  have hv : Vals (vs.map fun p => kV p.1) acc.toList := keys_at (by rw [Array.length_toList]; exact hacc.1) fun j v e => hacc.2 j v (by rw [← Array.getElem?_toList]; exact e)
  have hT : (h'.push { cls := .type "tuple", data := .seq acc }).get? h'.objs.size = some { cls := .type "tuple", data := .seq acc } := Heap.get?_push_size _ rfl
  refine ⟨.ref h'.objs.size, upd H h'.objs.size (.tup (kvs.map fun kv => kV kv.1)), I.laid (t' := tk) (fun b o e => Heap.get?_push_of_some _ (hk b o e)) hsz ?_, rfl, q _ (I.hok.fresh hsz)⟩
  exact (show ObjOk X.prog X.w (upd H h'.objs.size (.tup (kvs.map fun kv => kV kv.1))) (h'.push { cls := .type "tuple", data := .seq acc }) h'.objs.size (.tup (kvs.map fun kv => kV kv.1)) from ⟨by rw [List.length_map]; exact z, acc.toList, by rw [hks]; exact hv, ⟨_, hT, rfl, 0, by rw [Array.toArray_toList]⟩⟩)
end Lx

set_option maxRecDepth 100000
set_option maxHeartbeats 4000000
namespace U
open PySem PySem.Spec PyProof.Rows
open L2 hiding Fun CX0 E0 pass0 Fun.binds
open C8 Lx SX
/-! words of bits as texts -/
def bt (b : Bool) : Nat := if b then 49 else 48
def W (l : List Bool) : Str := S (l.map bt)
theorem bt_inj : ∀ {a b : Bool}, bt a = bt b → a = b := by decide
theorem map_bt_inj : ∀ {a b : List Bool}, a.map bt = b.map bt → a = b
  | [], [], _ => rfl
  | [], _ :: _, h => by simp at h
  | _ :: _, [], h => by simp at h
  | x :: l, y :: m, h => by
    rw [List.map_cons, List.map_cons] at h
    injection h with h1 h2
    rw [bt_inj h1, map_bt_inj h2]
theorem W_inj {a b : List Bool} (h : W a = W b) : a = b := map_bt_inj (S_inj h)
theorem W_eq {a b : List Bool} : (W a = W b) ↔ a = b := ⟨W_inj, fun h => by rw [h]⟩
theorem W_len (a : List Bool) : (W a).length = a.length := by unfold W; rw [S_len, List.length_map]
theorem W_size (a : List Bool) : (W a).cps.size = a.length := by unfold W; simp
theorem W_cat (a b : List Bool) : W a ++ W b = W (a ++ b) := by unfold W; rw [S_cat, List.map_append]
theorem W_nil : ("" : Str) = W [] := by decide +kernel
theorem W_0 : ("0" : Str) = W [false] := by decide +kernel
theorem W_1 : ("1" : Str) = W [true] := by decide +kernel
theorem W_get {a : List Bool} {i : Nat} {c : Nat} (h : (W a).cps[i]? = some c) : ∃ b, a[i]? = some b ∧ c = bt b := by
  unfold W S at h
  rw [List.getElem?_toArray, List.getElem?_map] at h
  cases e : a[i]? with
  | none => rw [e] at h; cases h
  | some b => rw [e] at h; exact ⟨b, rfl, (Option.some.inj h).symm⟩
theorem W_bit (b : Bool) : (⟨#[bt b]⟩ : Str) = W [b] := rfl
theorem W_tl (a : List Bool) : (W a).cps.toList = a.map bt := rfl
theorem joinL_nil : ∀ ys : List (List Nat), TL.joinL [] ys = ys.flatten
  | [] => rfl
  | [p] => by simp [TL.joinL]
  | p :: q :: r => by
    show p ++ ([] ++ TL.joinL [] (q :: r)) = _
    rw [List.nil_append, joinL_nil (q :: r)]
    rfl
theorem join_W (ls : List (List Bool)) : Txt.join "" (ls.map W) = W ls.flatten := by
  have e : (ls.map W) = (ls.map (·.map bt)).map S := by rw [List.map_map]; rfl
  have e2 : ("" : Str) = S [] := by decide +kernel
  rw [e, e2, join_S, joinL_nil]
  unfold W
  rw [List.map_flatten]
theorem join_bits (l : List Bool) : Txt.join "" (l.map fun b => W [b]) = W l := by
  have e : (l.map fun b => W [b]) = (l.map fun b => [b]).map W := by rw [List.map_map]; rfl
  rw [e, join_W]
  congr 1
  induction l with
  | nil => rfl
  | cons b r ih => simp [ih]
theorem sum_lens : ∀ ls : List (List Bool), ((ls.map W).map (·.length)).sum = (ls.map (·.length)).sum
  | [] => rfl
  | l :: r => by
    rw [List.map_cons, List.map_cons, List.map_cons, List.sum_cons, List.sum_cons, W_len, sum_lens r]
theorem sl_len {n : Nat} (h : n ≤ 100000) : n ≤ sizeLine := Nat.le_trans h (by decide)
theorem sl_lt {n : Nat} (h : n < 100000) : n < sizeLine := Nat.lt_of_lt_of_le h (by decide)
def bitsV (l : List Bool) : List V := (l.map fun b => W [b]).map V.str
theorem lens_bits (l : List Bool) : ((l.map fun b => W [b]).map (·.length)).sum = l.length := by
  induction l with
  | nil => rfl
  | cons b r ih => rw [List.map_cons, List.map_cons, List.sum_cons, ih, W_len, List.length_cons]; simp only [List.length_cons, List.length_nil]; omega
theorem bitsV_len (l : List Bool) : (bitsV l).length = l.length := by unfold bitsV; rw [List.length_map, List.length_map]
theorem bitsV_snoc (l : List Bool) (b : Bool) : bitsV l ++ [V.str (W [b])] = bitsV (l ++ [b]) := by unfold bitsV; simp
theorem mem2 {v : V} (h : v ∈ ([.str "0", .str "1"] : List V)) : ∃ b : Bool, v = .str (W [b]) := by
  rcases List.mem_cons.mp h with rfl | h
  · exact ⟨false, by rw [W_0]⟩
  · rcases List.mem_cons.mp h with rfl | h
    · exact ⟨true, by rw [W_1]⟩
    · cases h
theorem empty_len : ("" : Str).length = 0 := by decide +kernel
/-! tests whose answer is known -/
theorem q_dec {c : Prop} [Decidable c] {Q : VK} {H : Hp} (hc : c) (h : Q (.bl true) H) : Q (.bl (decide c)) H := by rw [decide_eq_true hc]; exact h
theorem q_ndec {c : Prop} [Decidable c] {Q : VK} {H : Hp} (hc : ¬ c) (h : Q (.bl false) H) : Q (.bl (decide c)) H := by rw [decide_eq_false hc]; exact h
theorem iteDT {c A B : Prop} [Decidable c] (hc : c) (h : A) : if decide c = true then A else B := by rw [decide_eq_true hc]; exact iteT h
theorem iteDF {c A B : Prop} [Decidable c] (hc : ¬ c) (h : B) : if decide c = true then A else B := by rw [decide_eq_false hc]; exact iteF h
theorem iteNT {c A B : Prop} [Decidable c] (hc : ¬ c) (h : A) : if (!decide c) = true then A else B := by rw [decide_eq_false hc]; exact iteT h
theorem iteBT {b : Bool} {A B : Prop} (hc : b = true) (h : A) : if b = true then A else B := by rw [hc]; exact iteT h
theorem iteBF {b : Bool} {A B : Prop} (hc : b = false) (h : B) : if b = true then A else B := by rw [hc]; exact iteF h
def oW : Option (List Bool) → V
  | none => .non
  | some x => .str (W x)
/-! slices -/
theorem W_drop {a : List Bool} {i : Int} (h : 0 ≤ i) : Txt.slice (W a) (some i) none = W (a.drop i.toNat) := by
  unfold W; rw [slice_from h, List.map_drop]
theorem W_take {a : List Bool} {i : Int} (h : 0 ≤ i) : Txt.slice (W a) none (some i) = W (a.take i.toNat) := by
  unfold W; rw [slice_to h, List.map_take]
theorem repl_succ (l : List Bool) (n : Nat) : (List.replicate (n + 1) l).flatten = l ++ (List.replicate n l).flatten := by rw [List.replicate_succ]; rfl
theorem foldl_app : ∀ (n : Nat) (a b : Array Nat), ((List.replicate n a).foldl (· ++ ·) b).toList = b.toList ++ (List.replicate n a.toList).flatten
  | 0, a, b => by simp
  | n + 1, a, b => by
    rw [List.replicate_succ, List.foldl_cons, foldl_app n a (b ++ a), List.replicate_succ, List.flatten_cons, Array.toList_append, List.append_assoc]
theorem mul_W {l : List Bool} {n : Nat} (h : 1 ≤ n) : Txt.mul (W l) (n : Int) = W (List.replicate n l).flatten := by
  refine TL.ext_tl ?_
  unfold Txt.mul
  rw [if_neg (by omega)]
  by_cases c : (((n : Int) == 1) || (W l).length == 0) = true
  · rw [if_pos c]
    simp only [Bool.or_eq_true, beq_iff_eq] at c
    rcases c with c | c
    · have : n = 1 := by omega
      subst this
      simp
    · rw [W_len] at c
      have : l = [] := List.length_eq_zero_iff.mp c
      subst this
      rw [show (List.replicate n ([] : List Bool)).flatten = [] by simp]
  · rw [if_neg c]
    show ((List.replicate (n : Int).toNat (W l).cps).foldl (· ++ ·) #[]).toList = _
    rw [foldl_app, Int.toNat_natCast]
    show [] ++ (List.replicate n (l.map bt)).flatten = ((List.replicate n l).flatten).map bt
    rw [List.map_flatten, List.map_replicate, List.nil_append]
end U

set_option maxRecDepth 100000
set_option maxHeartbeats 4000000
/-! rules, in plain Lean -/
namespace U
abbrev Stf := List Bool × Bool
def putM (ss : List Stf) (l : List Bool) : Option Bool := (ss.find? fun s => s.1.isSuffixOf l).map (·.2)
/-- the bits that are put in behind l -/
inductive Ins (ss : List Stf) : List Bool → List Bool → Prop
  | stop {l : List Bool} : putM ss l = none → Ins ss l []
  | more {l x : List Bool} {b : Bool} : putM ss l = some b → Ins ss (l ++ [b]) x → Ins ss l (b :: x)
inductive Reach (ss : List Stf) : List Bool → Prop
  | nil : Reach ss []
  | next {l x : List Bool} {b : Bool} : Reach ss l → Ins ss (l ++ [b]) x → Reach ss (l ++ [b] ++ x)
def OkR (ss : List Stf) : Prop := ∀ l, Reach ss l → ∀ b, ∃ x, Ins ss (l ++ [b]) x
/-- each message ends, within n bits that are put in at a time -/
def OkN (n : Nat) (ss : List Stf) : Prop := ∀ l, Reach ss l → ∀ b, ∃ x, Ins ss (l ++ [b]) x ∧ x.length ≤ n
abbrev OkS (ss : List Stf) : Prop := OkN 19 ss
theorem OkN.ok {n : Nat} {ss : List Stf} (h : OkN n ss) : OkR ss := fun l r b => by
  obtain ⟨x, hx, _⟩ := h l r b
  exact ⟨x, hx⟩
theorem OkN.mono {n m : Nat} {ss : List Stf} (h : OkN n ss) (hn : n ≤ m) : OkN m ss := fun l r b => by
  obtain ⟨x, hx, h1⟩ := h l r b
  exact ⟨x, hx, Nat.le_trans h1 hn⟩
def tl (n : Nat) (l : List Bool) : List Bool := l.drop (l.length - n)
theorem tl_len (n : Nat) (l : List Bool) : (tl n l).length = min n l.length := by unfold tl; rw [List.length_drop]; omega
theorem tl_le (n : Nat) (l : List Bool) : (tl n l).length ≤ n := by rw [tl_len]; omega
theorem tl_id {n : Nat} {l : List Bool} (h : l.length ≤ n) : tl n l = l := by
  unfold tl
  rw [show l.length - n = 0 by omega, List.drop_zero]
theorem tl_tl {a b : Nat} (h : a ≤ b) (l : List Bool) : tl a (tl b l) = tl a l := by
  unfold tl
  rw [List.drop_drop, List.length_drop]
  congr 1
  omega
theorem tl_of {a b : Nat} (h : a ≤ b) {l m : List Bool} (e : tl b l = tl b m) : tl a l = tl a m := by rw [← tl_tl h l, e, tl_tl h m]
theorem tl_snoc0 (n : Nat) (l : List Bool) (b : Bool) : tl (n + 1) (l ++ [b]) = tl n l ++ [b] := by
  unfold tl
  rw [List.length_append, List.length_cons, List.length_nil, List.drop_append]
  have e : l.length + (0 + 1) - (n + 1) = l.length - n := by omega
  rw [e, show l.length - n - l.length = 0 by omega]
  rfl
theorem tl_zero (l : List Bool) : tl 0 l = [] := by unfold tl; rw [List.drop_eq_nil_iff]; omega
theorem tl_snoc {n : Nat} {l m : List Bool} {b : Bool} (e : tl n l = tl n m) : tl n (l ++ [b]) = tl n (m ++ [b]) := by
  cases n with
  | zero => rw [tl_zero, tl_zero]
  | succ n => rw [tl_snoc0, tl_snoc0, tl_of (Nat.le_succ n) e]
theorem tl_app {n : Nat} {l m : List Bool} (e : tl n l = tl n m) : ∀ x : List Bool, tl n (l ++ x) = tl n (m ++ x)
  | [] => by rw [List.append_nil, List.append_nil]; exact e
  | b :: x => by
    have := tl_app (tl_snoc (b := b) e) x
    rw [List.append_assoc, List.append_assoc] at this
    exact this
theorem suf_iff {p l : List Bool} : p.isSuffixOf l = true ↔ p = tl p.length l := by
  rw [List.isSuffixOf_iff_suffix, List.suffix_iff_eq_drop]
  rfl
theorem suf_tl {L : Nat} {p l m : List Bool} (h : p.length ≤ L) (e : tl L l = tl L m) : p.isSuffixOf l = p.isSuffixOf m := by
  rw [Bool.eq_iff_iff, suf_iff, suf_iff, tl_of h e]
theorem put_tl {L : Nat} {l m : List Bool} (e : tl L l = tl L m) : ∀ {ss : List Stf}, (∀ s ∈ ss, s.1.length ≤ L) → putM ss l = putM ss m
  | [], _ => rfl
  | s :: r, h => by
    have ih := put_tl e (ss := r) fun s hs => h s (List.mem_cons_of_mem _ hs)
    have es := suf_tl (h s List.mem_cons_self) e
    unfold putM at ih ⊢
    rw [List.find?_cons, List.find?_cons, es]
    cases s.1.isSuffixOf m with
    | true => rfl
    | false => exact ih
theorem Ins.tl {ss : List Stf} {L : Nat} (hL : ∀ s ∈ ss, s.1.length ≤ L) {l x : List Bool} (h : Ins ss l x) : ∀ {m}, tl L l = tl L m → Ins ss m x := by
  induction h with
  | stop h => intro m e; exact .stop (by rw [← put_tl e hL]; exact h)
  | more h _ ih => intro m e; exact .more (by rw [← put_tl e hL]; exact h) (ih (tl_snoc e))
theorem Ins.det {ss : List Stf} {l x : List Bool} (h : Ins ss l x) : ∀ {y}, Ins ss l y → x = y := by
  induction h with
  | stop h =>
    intro y hy
    cases hy with
    | stop _ => rfl
    | more h2 _ => rw [h] at h2; cases h2
  | more h _ ih =>
    intro y hy
    cases hy with
    | stop h2 => rw [h] at h2; cases h2
    | more h2 hx =>
      rw [h] at h2
      cases h2
      rw [ih hx]
theorem Ins.end {ss : List Stf} {l x : List Bool} (h : Ins ss l x) : putM ss (l ++ x) = none := by
  induction h with
  | stop h => rw [List.append_nil]; exact h
  | more _ _ ih => rw [List.append_assoc] at ih; exact ih
theorem Ins.drop {ss : List Stf} {l x : List Bool} (h : Ins ss l x) : ∀ {i}, i ≤ x.length → Ins ss (l ++ x.take i) (x.drop i) := by
  induction h with
  | stop h => intro i hi; rw [List.take_nil, List.drop_nil, List.append_nil]; exact .stop h
  | more h hx ih =>
    intro i hi
    cases i with
    | zero => rw [List.take_zero, List.append_nil, List.drop_zero]; exact .more h hx
    | succ i =>
      have := ih (i := i) (by rw [List.length_cons] at hi; omega)
      rw [List.append_assoc] at this
      exact this
theorem Ins.at {ss : List Stf} {l x : List Bool} (h : Ins ss l x) {i : Nat} {b : Bool} (hb : x[i]? = some b) : putM ss (l ++ x.take i) = some b := by
  have hi := (List.getElem?_eq_some_iff.mp hb).1
  have h2 := h.drop (Nat.le_of_lt hi)
  rw [List.drop_eq_getElem_cons hi] at h2
  cases h2 with
  | more h3 _ => rw [h3, ← hb, List.getElem?_eq_getElem hi]
theorem Ins.apart {ss : List Stf} {L : Nat} (hL : ∀ s ∈ ss, s.1.length ≤ L) {l x : List Bool} (h : Ins ss l x) {i j : Nat} (hi : i ≤ x.length) (hj : j ≤ x.length) (e : U.tl L (l ++ x.take i) = U.tl L (l ++ x.take j)) : i = j := by
  have := congrArg List.length (((h.drop hi).tl hL e).det (h.drop hj))
  rw [List.length_drop, List.length_drop] at this
  omega
/-! how many words there are -/
def allW : Nat → List (List Bool)
  | 0 => [[]]
  | n + 1 => [] :: ((allW n).map (false :: ·) ++ (allW n).map (true :: ·))
theorem allW_len : ∀ n, (allW n).length + 1 = 2 ^ (n + 1)
  | 0 => rfl
  | n + 1 => by
    have := allW_len n
    show ([] :: ((allW n).map (false :: ·) ++ (allW n).map (true :: ·))).length + 1 = _
    rw [List.length_cons, List.length_append, List.length_map, List.length_map, Nat.pow_succ]
    omega
theorem mem_allW : ∀ {n : Nat} {w : List Bool}, w.length ≤ n → w ∈ allW n
  | 0, [], _ => List.mem_cons_self
  | 0, _ :: _, h => by rw [List.length_cons] at h; omega
  | n + 1, [], _ => List.mem_cons_self
  | n + 1, b :: w, h => by
    have := mem_allW (n := n) (w := w) (by rw [List.length_cons] at h; omega)
    refine List.mem_cons_of_mem _ (List.mem_append.mpr ?_)
    cases b with
    | false => exact .inl (List.mem_map_of_mem this)
    | true => exact .inr (List.mem_map_of_mem this)
theorem nodup_le {α : Type} [DecidableEq α] : ∀ {l m : List α}, l.Nodup → (∀ x ∈ l, x ∈ m) → l.length ≤ m.length
  | [], _, _, _ => Nat.zero_le _
  | x :: r, m, hn, hs => by
    have hx := hs x List.mem_cons_self
    have hn' := List.nodup_cons.mp hn
    have h2 := nodup_le (l := r) (m := m.erase x) hn'.2 fun y hy => by
      have hne : y ≠ x := fun e => hn'.1 (e ▸ hy)
      exact (List.mem_erase_of_ne hne).mpr (hs y (List.mem_cons_of_mem _ hy))
    rw [List.length_erase_of_mem hx] at h2
    have := List.length_pos_of_mem hx
    rw [List.length_cons]
    omega
theorem words_le {ws : List (List Bool)} {n : Nat} (hn : ws.Nodup) (hl : ∀ w ∈ ws, w.length ≤ n) : ws.length + 1 ≤ 2 ^ (n + 1) := by
  have := nodup_le hn fun w hw => mem_allW (hl w hw)
  have := allW_len n
  omega
theorem Ins.len {ss : List Stf} {L : Nat} (hL : ∀ s ∈ ss, s.1.length ≤ L) {l x : List Bool} (h : Ins ss l x) : x.length + 1 ≤ 2 ^ (L + 1) := by
  have := words_le (ws := (List.range x.length).map fun i => U.tl L (l ++ x.take i)) (n := L) (by
    rw [List.nodup_iff_pairwise_ne, List.pairwise_map]
    refine List.Pairwise.imp_of_mem ?_ List.nodup_range
    intro a b ha hb hne e
    have ha' := List.mem_range.mp ha
    have hb' := List.mem_range.mp hb
    exact hne (h.apart hL (Nat.le_of_lt ha') (Nat.le_of_lt hb') e)) (fun w hw => by
      obtain ⟨i, _, rfl⟩ := List.mem_map.mp hw
      exact tl_le _ _)
  rw [List.length_map, List.length_range] at this
  exact this
/-! the order of the stuffs does not matter -/
def SufFree (ss : List Stf) : Prop := ss.Pairwise fun a b => ¬ a.1 <:+ b.1 ∧ ¬ b.1 <:+ a.1
theorem SufFree.ne {ss : List Stf} (h : SufFree ss) {a b : Stf} (ha : a ∈ ss) (hb : b ∈ ss) (n : a ≠ b) : ¬ a.1 <:+ b.1 := by
  unfold SufFree at h
  induction ss with
  | nil => cases ha
  | cons s r ih =>
    obtain ⟨h1, h2⟩ := List.pairwise_cons.mp h
    rcases List.mem_cons.mp ha with ea | ha'
    · rcases List.mem_cons.mp hb with eb | hb'
      · exact absurd (ea.trans eb.symm) n
      · rw [ea]; exact (h1 _ hb').1
    · rcases List.mem_cons.mp hb with eb | hb'
      · rw [eb]; exact (h1 _ ha').2
      · exact ih h2 ha' hb'
theorem put_iff {ss : List Stf} (h : SufFree ss) {l : List Bool} {b : Bool} : putM ss l = some b ↔ ∃ p, (p, b) ∈ ss ∧ p <:+ l := by
  unfold putM
  constructor
  · intro e
    obtain ⟨s, hs, rfl⟩ := Option.map_eq_some_iff.mp e
    exact ⟨s.1, List.mem_of_find?_eq_some hs, List.isSuffixOf_iff_suffix.mp (List.find?_some (p := fun s : Stf => s.1.isSuffixOf l) hs)⟩
  · rintro ⟨p, hm, hp⟩
    cases e : ss.find? fun s => s.1.isSuffixOf l with
    | none =>
      have := List.find?_eq_none.mp e _ hm
      exact absurd (List.isSuffixOf_iff_suffix.mpr hp) this
    | some s =>
      have hs := List.mem_of_find?_eq_some e
      have hq : s.1 <:+ l := List.isSuffixOf_iff_suffix.mp (List.find?_some (p := fun s : Stf => s.1.isSuffixOf l) e)
      by_cases n : s = (p, b)
      · rw [n]; rfl
      · rcases List.suffix_or_suffix_of_suffix hq hp with z | z
        · exact absurd z (h.ne hs hm n)
        · exact absurd z (h.ne hm hs (Ne.symm n))
theorem SufFree.perm {ss ts : List Stf} (h : SufFree ss) (p : ss.Perm ts) : SufFree ts := by
  unfold SufFree at h ⊢
  exact (List.Perm.pairwise_iff (fun ⟨a, b⟩ => ⟨b, a⟩) p).mp h
theorem put_perm {ss ts : List Stf} (h : SufFree ss) (p : ss.Perm ts) (l : List Bool) : putM ss l = putM ts l := by
  refine Option.ext fun b => ?_
  rw [put_iff h, put_iff (h.perm p)]
  constructor
  · rintro ⟨q, hm, hq⟩; exact ⟨q, p.mem_iff.mp hm, hq⟩
  · rintro ⟨q, hm, hq⟩; exact ⟨q, p.mem_iff.mpr hm, hq⟩
theorem Ins.congr {ss ts : List Stf} (h : ∀ l, putM ss l = putM ts l) {l x : List Bool} (i : Ins ss l x) : Ins ts l x := by
  induction i with
  | stop e => exact .stop (by rw [← h]; exact e)
  | more e _ ih => exact .more (by rw [← h]; exact e) ih
theorem Reach.congr {ss ts : List Stf} (h : ∀ l, putM ss l = putM ts l) {l : List Bool} (r : Reach ss l) : Reach ts l := by
  induction r with
  | nil => exact .nil
  | next _ i ih => exact .next ih (i.congr h)
theorem OkR.congr {ss ts : List Stf} (h : ∀ l, putM ss l = putM ts l) (o : OkR ss) : OkR ts := fun l r b => by
  obtain ⟨x, hx⟩ := o l (r.congr fun l => (h l).symm) b
  exact ⟨x, hx.congr h⟩
/-! so many puts, one behind another -/
def stP (ss : List Stf) (l : List Bool) : List Bool := match putM ss l with
  | none => l
  | some b => l ++ [b]
def itP (ss : List Stf) : Nat → List Bool → List Bool
  | 0, l => l
  | n + 1, l => itP ss n (stP ss l)
theorem itP_succ (ss : List Stf) : ∀ (n : Nat) (l : List Bool), itP ss (n + 1) l = stP ss (itP ss n l)
  | 0, _ => rfl
  | n + 1, l => itP_succ ss n (stP ss l)
theorem itP_stop {ss : List Stf} {l : List Bool} (h : putM ss l = none) : ∀ n, itP ss n l = l
  | 0 => rfl
  | n + 1 => by
    show itP ss n (stP ss l) = l
    have e : stP ss l = l := by unfold stP; rw [h]
    rw [e, itP_stop h n]
theorem itP_add (ss : List Stf) : ∀ (i j : Nat) (l : List Bool), itP ss (i + j) l = itP ss j (itP ss i l)
  | 0, j, l => by rw [Nat.zero_add]; rfl
  | i + 1, j, l => by rw [show i + 1 + j = (i + j) + 1 by omega]; exact itP_add ss i j (stP ss l)
theorem itP_rest {ss : List Stf} {i n : Nat} {l : List Bool} (h : putM ss (itP ss i l) = none) (hi : i ≤ n) : itP ss n l = itP ss i l := by
  rw [show n = i + (n - i) by omega, itP_add, itP_stop h]
theorem itP_or (ss : List Stf) : ∀ (n : Nat) (l : List Bool), (itP ss n l).length = l.length + n ∨ ∃ x, Ins ss l x ∧ itP ss n l = l ++ x
  | 0, l => .inl rfl
  | n + 1, l => by
    cases e : putM ss l with
    | none => exact .inr ⟨[], .stop e, by rw [itP_stop e, List.append_nil]⟩
    | some b =>
      have es : stP ss l = l ++ [b] := by unfold stP; rw [e]
      show (itP ss n (stP ss l)).length = _ ∨ ∃ x, Ins ss l x ∧ itP ss n (stP ss l) = l ++ x
      rw [es]
      rcases itP_or ss n (l ++ [b]) with h | ⟨x, h1, h2⟩
      · left; rw [h, List.length_append, List.length_cons, List.length_nil]; omega
      · exact .inr ⟨b :: x, .more e h1, by rw [h2, List.append_assoc]; rfl⟩
theorem itP_le (ss : List Stf) : ∀ (n : Nat) (l : List Bool), l.length ≤ (itP ss n l).length ∧ (itP ss n l).length ≤ l.length + n
  | 0, l => ⟨Nat.le_refl _, Nat.le_refl _⟩
  | n + 1, l => by
    have h := itP_le ss n (stP ss l)
    have e : l.length ≤ (stP ss l).length ∧ (stP ss l).length ≤ l.length + 1 := by
      unfold stP
      cases putM ss l with
      | none => exact ⟨Nat.le_refl _, Nat.le_succ _⟩
      | some b => show l.length ≤ (l ++ [b]).length ∧ (l ++ [b]).length ≤ _; rw [List.length_append, List.length_cons, List.length_nil]; omega
    show l.length ≤ (itP ss n (stP ss l)).length ∧ (itP ss n (stP ss l)).length ≤ _
    omega
/-- a closed set of standings, of 5 bits at most, shows that no message is without end -/
theorem okS_of {ss : List Stf} (kn : List (List Bool)) (hL : ∀ s ∈ ss, s.1.length ≤ 5) (h0 : [] ∈ kn) (hc : ∀ w ∈ kn, ∀ b, (itP ss 24 (w ++ [b])).length ≤ w.length + 20 ∧ tl 5 (itP ss 24 (w ++ [b])) ∈ kn) : OkS ss := by
  have hx : ∀ w ∈ kn, ∀ b, ∃ x, Ins ss (w ++ [b]) x ∧ tl 5 (w ++ [b] ++ x) ∈ kn ∧ x.length ≤ 19 := fun w hw b => by
    obtain ⟨h1, h2⟩ := hc w hw b
    rcases itP_or ss 24 (w ++ [b]) with h | ⟨x, hi, e⟩
    · rw [h, List.length_append, List.length_cons, List.length_nil] at h1; omega
    · rw [e] at h2 h1; exact ⟨x, hi, h2, by rw [List.length_append, List.length_append, List.length_cons, List.length_nil] at h1; omega⟩
  have hr : ∀ l, Reach ss l → ∃ w ∈ kn, tl 5 w = tl 5 l := fun l r => by
    induction r with
    | nil => exact ⟨[], h0, rfl⟩
    | @next l x b r i ih =>
      obtain ⟨w, hw, e⟩ := ih
      obtain ⟨y, hy, hm, _⟩ := hx w hw b
      have e2 := tl_snoc (b := b) e
      have ey := (hy.tl hL e2).det i
      subst ey
      exact ⟨_, hm, by rw [tl_tl (Nat.le_refl 5)]; exact tl_app e2 y⟩
  intro l r b
  obtain ⟨w, hw, e⟩ := hr l r
  obtain ⟨y, hy, _, h19⟩ := hx w hw b
  exact ⟨y, hy.tl hL (tl_snoc e), h19⟩
theorem okS_dec {ss : List Stf} (hL : (ss.all fun s => decide (s.1.length ≤ 5)) = true) (h : ((allW 5).all fun w => [false, true].all fun b => decide ((itP ss 24 (w ++ [b])).length ≤ w.length + 20)) = true) : OkS ss := by
  refine okS_of (allW 5) (fun s hs => of_decide_eq_true (List.all_eq_true.mp hL s hs)) (mem_allW (by decide)) fun w hw b => ⟨?_, mem_allW (tl_le _ _)⟩
  have := List.all_eq_true.mp (List.all_eq_true.mp h w hw) b (by cases b <;> decide)
  exact of_decide_eq_true this
theorem okS_11 : OkS [([true, true], false)] := okS_dec (by decide +kernel) (by decide +kernel)
theorem okS_001 : OkS [([false, false, true], true)] := okS_dec (by decide +kernel) (by decide +kernel)
theorem okS_1 : OkS [([true], false)] := okS_dec (by decide +kernel) (by decide +kernel)
theorem okS_00 : OkS [([false, false], true)] := okS_dec (by decide +kernel) (by decide +kernel)
theorem okS_nil : OkS [] := okS_dec (by decide +kernel) (by decide +kernel)
theorem okR_nil : OkR [] := okS_nil.ok
theorem OkN.congr {n : Nat} {ss ts : List Stf} (h : ∀ l, putM ss l = putM ts l) (o : OkN n ss) : OkN n ts := fun l r b => by
  obtain ⟨x, hx, hl⟩ := o l (r.congr fun l => (h l).symm) b
  exact ⟨x, hx.congr h, hl⟩
/-- the line for a message -/
inductive Body (ss : List Stf) : List Bool → List Bool → Prop
  | nil : Body ss [] []
  | snoc {m l x : List Bool} {b : Bool} : Body ss m l → Ins ss (l ++ [b]) x → Body ss (m ++ [b]) (l ++ [b] ++ x)
theorem Body.reach {ss : List Stf} {m l : List Bool} (h : Body ss m l) : Reach ss l := by
  induction h with
  | nil => exact .nil
  | snoc _ i ih => exact .next ih i
theorem Body.congr {ss ts : List Stf} (h : ∀ l, putM ss l = putM ts l) {m l : List Bool} (b : Body ss m l) : Body ts m l := by
  induction b with
  | nil => exact .nil
  | snoc _ i ih => exact .snoc ih (i.congr h)
theorem body_steps {N : Nat} {ss : List Stf} (o : OkN N ss) (m : List Bool) : ∃ f : Nat → List Bool, f 0 = [] ∧ (∀ i b, m[i]? = some b → ∃ x, Ins ss (f i ++ [b]) x ∧ x.length ≤ N ∧ f (i + 1) = f i ++ [b] ++ x) ∧ (∀ i, i ≤ m.length → Body ss (m.take i) (f i) ∧ (f i).length ≤ (N + 1) * i) := by
  have step : ∀ (n : Nat) (hn : n ≤ m.length), ∃ f : Nat → List Bool, f 0 = [] ∧ (∀ i b, i < n → m[i]? = some b → ∃ x, Ins ss (f i ++ [b]) x ∧ x.length ≤ N ∧ f (i + 1) = f i ++ [b] ++ x) ∧ (∀ i, i ≤ n → Body ss (m.take i) (f i) ∧ (f i).length ≤ (N + 1) * i) := by
    intro n
    induction n with
    | zero => exact fun _ => ⟨fun _ => [], rfl, fun i b h => absurd h (Nat.not_lt_zero _), fun i h => by rw [Nat.le_zero.mp h, List.take_zero]; exact ⟨.nil, Nat.le_refl _⟩⟩
    | succ n ih =>
      intro hn
      obtain ⟨f, h0, h1, h2⟩ := ih (by omega)
      have hb : m[n]? = some m[n] := List.getElem?_eq_getElem (by omega)
      obtain ⟨hB, hl⟩ := h2 n (Nat.le_refl _)
      obtain ⟨x, hx, hx19⟩ := o (f n) hB.reach m[n]
      refine ⟨fun i => if i = n + 1 then f n ++ [m[n]] ++ x else f i, ?_, fun i b hi hb' => ?_, fun i hi => ?_⟩
      · show (if 0 = n + 1 then _ else f 0) = []
        rw [if_neg (by omega), h0]
      · show ∃ y, Ins ss ((if i = n + 1 then _ else f i) ++ [b]) y ∧ _ ∧ (if i + 1 = n + 1 then f n ++ [m[n]] ++ x else f (i + 1)) = (if i = n + 1 then f n ++ [m[n]] ++ x else f i) ++ [b] ++ y
        rw [if_neg (show ¬ i = n + 1 by omega)]
        by_cases e : i = n
        · subst e
          rw [hb] at hb'
          cases hb'
          rw [if_pos rfl]
          exact ⟨x, hx, hx19, rfl⟩
        · rw [if_neg (by omega)]
          exact h1 i b (by omega) hb'
      · show Body ss (m.take i) (if i = n + 1 then _ else f i) ∧ (if i = n + 1 then f n ++ [m[n]] ++ x else f i).length ≤ (N + 1) * i
        by_cases e : i = n + 1
        · subst e
          rw [if_pos rfl, List.take_add_one, hb]
          refine ⟨.snoc hB hx, ?_⟩
          rw [List.length_append, List.length_append, List.length_cons, List.length_nil, Nat.mul_add]
          omega
        · rw [if_neg e]
          exact h2 i (by omega)
  obtain ⟨f, h0, h1, h2⟩ := step m.length (Nat.le_refl _)
  exact ⟨f, h0, fun i b hb => h1 i b (List.getElem?_eq_some_iff.mp hb).1 hb, h2⟩
theorem Ins.itP {ss : List Stf} {l x : List Bool} (h : Ins ss l x) : ∀ n, itP ss n l = l ++ x.take n := by
  induction h with
  | stop h => intro n; rw [itP_stop h, List.take_nil, List.append_nil]
  | @more l x b h _ ih =>
    intro n
    cases n with
    | zero => rw [List.take_zero, List.append_nil]; rfl
    | succ n =>
      have es : stP ss l = l ++ [b] := by unfold stP; rw [h]
      show U.itP ss n (stP ss l) = _
      rw [es, ih n, List.append_assoc]
      rfl
theorem ins_of_itP {ss : List Stf} {l y : List Bool} {j : Nat} (h : itP ss j l = l ++ y) (hn : putM ss (l ++ y) = none) (hj : y.length = j) : Ins ss l y := by
  rcases itP_or ss (j + 1) l with c | ⟨x, hx, e⟩
  · rw [itP_succ, h] at c
    unfold stP at c
    rw [hn] at c
    have c' : (l ++ y).length = l.length + (j + 1) := c
    rw [List.length_append] at c'
    omega
  · rw [itP_succ, h] at e
    unfold stP at e
    rw [hn] at e
    have e' : l ++ y = l ++ x := e
    rw [List.append_cancel_left e']
    exact hx
/-- the line for a message, as a function -/
def bodyF (ss : List Stf) (m : List Bool) : List Bool := m.foldl (fun l b => itP ss 40 (l ++ [b])) []
theorem Body.isF {ss : List Stf} (o : OkN 39 ss) {m l : List Bool} (h : Body ss m l) : l = bodyF ss m := by
  induction h with
  | nil => rfl
  | @snoc m l x b hb hi ih =>
    obtain ⟨y, hy, h39⟩ := o l hb.reach b
    have e := hi.det hy
    subst e
    unfold bodyF
    rw [List.foldl_append]
    show _ = itP ss 40 (bodyF ss m ++ [b])
    rw [← ih, hi.itP, List.take_of_length_le (by omega)]
theorem body_ex {ss : List Stf} (o : OkN 39 ss) (m : List Bool) : Body ss m (bodyF ss m) := by
  obtain ⟨f, _, _, h⟩ := body_steps o m
  have := (h m.length (Nat.le_refl _)).1
  rw [List.take_length] at this
  rw [← this.isF o]
  exact this
end U

set_option maxRecDepth 100000
set_option maxHeartbeats 4000000
namespace U
open PySem PySem.Spec PyProof.Rows L2
def top (i : Nat) : Stmt := PySem.Challenge.pw_unseenflips_k29_any_values_as_papers.main.body.getD i (.Pass ⟨0, 0, 0, 0⟩)
abbrev s_wall : Stmt := top 0
abbrev s_is_sequence : Stmt := top 3
abbrev s_is_word : Stmt := top 4
abbrev s_is_bit : Stmt := top 5
abbrev s_tail : Stmt := top 6
abbrev s_width : Stmt := top 8
abbrev s_last_bits : Stmt := top 9
abbrev s_is_border_clean : Stmt := top 10
abbrev s_grown : Stmt := top 11
abbrev s_is_right_step : Stmt := top 12
abbrev s_walk : Stmt := top 13
abbrev s_clean_paper : Stmt := top 14
abbrev s_clean_paper_holds : Stmt := top 15
abbrev s_InvalidRule_init : Stmt := inClass (top 18) 0
abbrev s_InvalidText_init : Stmt := inClass (top 19) 0
abbrev s_is_stuff : Stmt := top 21
abbrev s_are_stuffs : Stmt := top 22
abbrev s_stuff_in : Stmt := top 23
abbrev s_Rule_init : Stmt := inClass (top 24) 0
abbrev s_Rule_read : Stmt := inClass (top 24) 1
abbrev s_Rule_longest : Stmt := inClass (top 24) 2
abbrev s_Rule_swapped : Stmt := inClass (top 24) 3
abbrev s_Rule_put : Stmt := inClass (top 24) 4
abbrev s_Rule_put_in : Stmt := inClass (top 24) 5
abbrev s_Rule_is_endless : Stmt := inClass (top 24) 6
abbrev s_Rule_len : Stmt := inClass (top 24) 7
abbrev s_Rule_iter : Stmt := inClass (top 24) 8
abbrev s_Rule_eq : Stmt := inClass (top 24) 9
abbrev s_Rule_str : Stmt := inClass (top 24) 10
abbrev s_l_seed : Stmt := top 26
abbrev s_l_choose : Stmt := top 27
abbrev s_l_one_of : Stmt := top 28
abbrev s_l_deep : Stmt := top 29
abbrev s_l_leaf : Stmt := top 30
abbrev s_l_any : Stmt := top 31
abbrev s_law : Stmt := top 32
structure Tx (mg : Str → Option Value) : Prop where
  b_len : mg "len" = none
  b_abs : mg "abs" = none
  b_int : mg "int" = none
  b_range : mg "range" = none
  b_max : mg "max" = none
  b_min : mg "min" = none
  b_enumerate : mg "enumerate" = none
  b_zip : mg "zip" = none
  b_dict : mg "dict" = none
  b_list : mg "list" = none
  b_tuple : mg "tuple" = none
  b_isinstance : mg "isinstance" = none
  b_bool : mg "bool" = none
  b_str : mg "str" = none
  b_all : mg "all" = none
  b_any : mg "any" = none
  b_sum : mg "sum" = none
  b_sorted : mg "sorted" = none
  b_repr : mg "repr" = none
end U

set_option maxRecDepth 100000
set_option maxHeartbeats 4000000
namespace U
open PySem PySem.Spec PyProof.Rows
open L2 hiding Fun CX0 E0 pass0 Fun.binds
open C8 Lx
local macro_rules | `(tactic| walk_at "g") => `(tactic| repeat (first | (refine ⟨_, rfl, ?_⟩) | (refine ⟨_, _, rfl, rfl, ?_⟩) | (refine ⟨rfl, ?_⟩) | (refine .inl ⟨_, rfl, ?_⟩)))
/-- the box: a list of two ints -/
def Box (H : Hp) (b : Addr) : Prop := ∃ x y : Int, H b = some (.lst [.int x, .int y])
/-- all but the box at b stands as it stood; the box is a box -/
def Up (b : Addr) (H H' : Hp) : Prop := (∀ c o, H c = some o → c ≠ b → H' c = some o) ∧ Box H' b
theorem Box.same {b : Addr} {H H' : Hp} (h : Box H b) (y : Same H H') : Box H' b := by obtain ⟨i, j, e⟩ := h; exact ⟨i, j, y _ _ e⟩
theorem Up.refl {b : Addr} {H : Hp} (h : Box H b) : Up b H H := ⟨fun _ _ e _ => e, h⟩
theorem Up.trans {b : Addr} {H H1 H2 : Hp} (x : Up b H H1) (y : Up b H1 H2) : Up b H H2 := ⟨fun c o e n => y.1 c o (x.1 c o e n) n, y.2⟩
theorem Up.same {b : Addr} {H H1 H2 : Hp} (x : Up b H H1) (y : Same H1 H2) : Up b H H2 := ⟨fun c o e n => y c o (x.1 c o e n), x.2.same y⟩
theorem Up.of_same {b : Addr} {H H2 : Hp} (h : Box H b) (y : Same H H2) : Up b H H2 := (Up.refl h).same y
theorem same_upd {H : Hp} {p : Addr} {o : HO} (h : H p = none) : Same H (upd H p o) := fun b x e => by
  rw [upd_ne (ne_of_none e h)]
  exact e
theorem same_mut' {H H1 : Hp} {p : Addr} {o : HO} (s : Same H H1) (n : H p = none) : Same H (upd H1 p o) := fun c u e => by
  rw [upd_ne (ne_of_none e n)]
  exact s _ _ e
theorem Box.ne {H : Hp} {b p : Addr} (h : Box H b) (n : H p = none) : p ≠ b := by
  obtain ⟨i, j, e⟩ := h
  intro z
  rw [z, e] at n
  cases n
/-- a thing that is no list of two ints is not the box -/
theorem Box.neT {H : Hp} {b p : Addr} {xs : List V} (h : Box H b) (n : H p = some (.tup xs)) : p ≠ b := by
  obtain ⟨i, j, e⟩ := h
  intro z
  rw [z, e] at n
  cases n
/-- an object that H doesn't know, changed -/
theorem Up.mut {b : Addr} {H H1 : Hp} {p : Addr} {o : HO} (x : Up b H H1) (h : H p = none) (n : p ≠ b) : Up b H (upd H1 p o) :=
  ⟨fun c u e nc => by rw [upd_ne (ne_of_none e h)]; exact x.1 c u e nc, by obtain ⟨i, j, e⟩ := x.2; exact ⟨i, j, by rw [upd_ne (Ne.symm n)]; exact e⟩⟩
theorem Up.free {b : Addr} {H H1 : Hp} {p : Addr} (x : Up b H H1) (h : H1 p = none) : H p = none := by
  cases e : H p with
  | none => rfl
  | some o =>
    by_cases n : p = b
    · obtain ⟨i, j, e2⟩ := x.2
      rw [n, e2] at h
      cases h
    · rw [x.1 p o e n] at h
      cases h
/-- what is no list stands as it stood -/
def NL (H H' : Hp) : Prop := ∀ c o, H c = some o → (∀ xs, o ≠ .lst xs) → H' c = some o
theorem NL.refl (H : Hp) : NL H H := fun _ _ e _ => e
theorem NL.trans {H H1 H2 : Hp} (a : NL H H1) (b : NL H1 H2) : NL H H2 := fun c o e n => b c o (a c o e n) n
theorem NL.of {H H' : Hp} (s : Same H H') : NL H H' := fun c o e _ => s c o e
theorem Up.nl {b : Addr} {H H' : Hp} (hb : Box H b) (u : Up b H H') : NL H H' := fun c o e n => u.1 c o e fun z => by
  obtain ⟨i, j, hb⟩ := hb
  rw [z, hb] at e
  exact n _ (Option.some.inj e).symm
theorem nl_upd {H : Hp} {q : Addr} {xs : List V} {o : HO} (h : H q = some (.lst xs)) : NL H (upd H q o) := fun c u e n => by
  have nq : c ≠ q := fun z => by
    rw [z, h] at e
    exact n _ (Option.some.inj e).symm
  rw [upd_ne nq]
  exact e
theorem NL.tup {H H' : Hp} {a : Addr} {xs : List V} (n : NL H H') (h : H a = some (.tup xs)) : H' a = some (.tup xs) := n _ _ h fun _ z => by cases z
theorem NL.ins {H H' : Hp} {a C dx : Addr} {fs : List (Str × V)} (n : NL H H') (h : H a = some (.ins C dx fs)) : H' a = some (.ins C dx fs) := n _ _ h fun _ z => by cases z
def spSeed (K : PySem.W.Frag) : Sp := fun vs H Q _ => ∃ (a : Addr) (ns : List Int) (k : Nat), vs = [.ref a, .int k] ∧ SqL K H a (ns.map V.int) ∧
  ∀ p H', H p = none → Same H H' → Box H' p → Q (.ref p) H'
def spChoose : Sp := fun vs H Q _ => ∃ (b : Addr) (m : Int), vs = [.ref b, .int m] ∧ Box H b ∧ 0 < m ∧ m < 1073741824 ∧
  ∀ (d : Int) H', 0 ≤ d → d < m → Up b H H' → Q (.int d) H'
def spOneOf : Sp := fun vs H Q _ => ∃ (b l : Addr) (xs : List V), vs = [.ref b, .ref l] ∧ Box H b ∧ H l = some (.lst xs) ∧ l ≠ b ∧ 0 < xs.length ∧ xs.length < 1000 ∧
  ∀ (v : V) H', v ∈ xs → Up b H H' → Q v H'
theorem cell_at {ns : List Int} {k : Int} (h0 : 0 ≤ k) (h1 : k < ns.length) : ∃ z, atI (ns.map V.int) k = some (V.int z) := by
  obtain ⟨j, rfl⟩ := Int.eq_ofNat_of_zero_le h0
  have h2 : j < ns.length := by omega
  exact ⟨ns[j], atI_nat (by simp [h2])⟩
section
variable {P : Program} {w : World} {K : PySem.W.Frag} {mg : Str → Option Value} {base : Heap}
theorem sc_l_choose : FnScope ["_law_box", "_law_many", "_law_digit", "_law_raw"] ["_law_box", "_law_many"] (fnScope s_l_choose) := fnScope_by (by decide +kernel)
theorem cal_l_choose {f : Addr} {fd : FuncData} (F : Def K mg "_law_choose" s_l_choose f fd) (b : Binds K fd ["_law_box", "_law_many"] []) (T : Tx mg) : Cal P w K mg base 1 "_law_choose" spChoose [] := by
  refine cal0 F b .nil sc_l_choose (fun vs H Q E h => ?_) (fun cdv A outer s H vs Q E hr h => ?_)
  · obtain ⟨_, _, rfl, _⟩ := h; rfl
  · obtain ⟨bx, m, rfl, ⟨x, y, hb⟩, m0, m1, k⟩ := h
    refine ⟨_, (pss_cons (ps_if (pt_cmpR op_gt (pe_ix ix_list (pv 0) pe_int (fun _ _ => rfl)) pe_int (nomark _)) (pss_cons (ps_set (i := 2) sc_l_choose.nd rfl (.inl rfl) (pe_op op_mod (pe_callTy call_int1 (by rfl) T.b_int (by decide +kernel) (pa_cons (pe_ix ix_list (pv 0) pe_int (fun _ _ => rfl)) pa_nil)) (pv 1)))
    (pss_cons (ps_asg (pe_op op_fdiv (pe_ix ix_list (pv 0) pe_int (fun _ _ => rfl)) (pv 1)) (pg_sub (pv 0) pe_int set_list))
    (pss_one (ps_ret (pv 2))))) pss_nil)
    (pss_cons (ps_set (i := 3) sc_l_choose.nd rfl (.inl rfl) (pe_op op_mod (pe_callTy call_int1 (by rfl) T.b_int (by decide +kernel) (pa_cons (pe_op op_add (pe_op op_mul (pe_ix ix_list (pv 0) pe_int (fun _ _ => rfl)) pe_int) pe_int) pa_nil)) pe_int))
    (pss_cons (ps_asg (pe_op op_add (pe_op op_mod (pe_callTy call_int1 (by rfl) T.b_int (by decide +kernel) (pa_cons (pe_op op_add (pe_op op_mul (pv 3) pe_int) pe_int) pa_nil)) pe_int) pe_int) (pg_sub (pv 0) pe_int set_list))
    (pss_one (ps_ret (pe_op op_mod (pe_callTy call_int1 (by rfl) T.b_int (by decide +kernel) (pa_cons (pe_op op_fdiv (pe_op op_add (pe_op op_mul (pv 3) pe_int) (pe_ix ix_list (pv 0) pe_int (fun _ _ => rfl))) pe_int) pa_nil)) (pv 1))))))), ?_⟩
    have up : ∀ x' y' : Int, Up bx H (upd H bx (.lst [.int x', .int y'])) := fun x' y' => ⟨fun c o e n => by rw [upd_ne n]; exact e, _, _, upd_same⟩
    refine ⟨_, rfl, bx, _, _, _, rfl, rfl, SqL.of hb, atI_nat (j := 0) rfl, _, _, rfl, rfl, _, rfl, ?_⟩
    refine ite2 (fun h1 => ?_) (fun h1 => ?_)
    · refine ⟨_, rfl, bx, _, _, _, rfl, rfl, SqL.of hb, atI_nat (j := 0) rfl, .inl ⟨_, rfl, _, rfl, _, _, rfl, rfl, m0, ?_⟩⟩
      refine ⟨_, rfl, bx, _, _, _, rfl, rfl, SqL.of hb, atI_nat (j := 0) rfl, _, rfl, _, _, rfl, rfl, ⟨m0, m1⟩, _, rfl, bx, _, _, 0, rfl, rfl, hb, rfl, ?_⟩
      exact ⟨_, rfl, k _ _ (Int.emod_nonneg _ (by omega)) (Int.emod_lt_of_pos _ m0) (up _ _)⟩
    · refine ⟨_, rfl, bx, _, _, _, rfl, rfl, SqL.of hb, atI_nat (j := 1) rfl, _, _, rfl, rfl, .inr ⟨by decide, by decide⟩, _, _, rfl, rfl, .inl ⟨_, rfl, _, _, rfl, rfl, (by show (0 : Int) < 2147483563; decide), ?_⟩⟩
      refine ⟨_, rfl, _, _, rfl, rfl, .inr ⟨by decide, by decide⟩, _, _, rfl, rfl, .inl ⟨_, rfl, _, _, rfl, rfl, (by show (0 : Int) < 2147483629; decide), _, _, rfl, rfl, _, rfl, bx, _, _, 1, rfl, rfl, hb, rfl, ?_⟩⟩
      refine ⟨_, rfl, _, _, rfl, rfl, .inr ⟨by decide, by decide⟩, _, rfl, bx, _, _, _, rfl, rfl, SqL.of upd_same, atI_nat (j := 1) rfl, _, _, rfl, rfl, _, _, rfl, rfl, ⟨by decide, by decide⟩, .inl ⟨_, rfl, _, rfl, _, _, rfl, rfl, m0, ?_⟩⟩
      exact k _ _ (Int.emod_nonneg _ (by omega)) (Int.emod_lt_of_pos _ m0) (up _ _)
theorem sc_l_seed : FnScope ["_law_script", "_law_k", "_law_cell"] ["_law_script", "_law_k"] (fnScope s_l_seed) := fnScope_by (by decide +kernel)
theorem cal_l_seed {f : Addr} {fd : FuncData} (F : Def K mg "_law_seed" s_l_seed f fd) (b : Binds K fd ["_law_script", "_law_k"] []) (T : Tx mg) : Cal P w K mg base 1 "_law_seed" (spSeed K) [] := by
  refine cal0 F b .nil sc_l_seed (fun vs H Q E h => ?_) (fun cdv A outer s H vs Q E hr h => ?_)
  · obtain ⟨_, _, _, rfl, _⟩ := h; rfl
  · obtain ⟨a, ns, n, rfl, hS, k⟩ := h
    refine ⟨_, (pss_cons (ps_set (i := 2) sc_l_seed.nd rfl (.inl rfl) (pe_op op_add (pe_op op_mul pe_int (pv 1)) pe_int))
    (pss_cons (ps_if (pt_cmpR op_lt (pv 1) (pe_callB call_len_seq (by rfl) T.b_len (by decide +kernel) (pa_cons (pv 0) pa_nil)) (nomark _)) (pss_one (ps_set (i := 2) sc_l_seed.nd rfl (.inl rfl) (pe_callB call_abs (by rfl) T.b_abs (by decide +kernel) (pa_cons (pe_ix ix_list (pv 0) (pv 1) (fun _ _ => rfl)) pa_nil)))) (pss_one (ps_if (pt_cmpR op_gt (pe_callB call_len_seq (by rfl) T.b_len (by decide +kernel) (pa_cons (pv 0) pa_nil)) pe_int (nomark _)) (pss_one (ps_set (i := 2) sc_l_seed.nd rfl (.inl rfl) (pe_op op_add (pv 2) (pe_op op_mul (pe_op op_mod (pe_callTy call_int1 (by rfl) T.b_int (by decide +kernel) (pa_cons (pe_callB call_abs (by rfl) T.b_abs (by decide +kernel) (pa_cons (pe_ix ix_list (pv 0) (pe_op op_mod (pe_callTy call_int1 (by rfl) T.b_int (by decide +kernel) (pa_cons (pv 1) pa_nil)) (pe_callB call_len_seq (by rfl) T.b_len (by decide +kernel) (pa_cons (pv 0) pa_nil))) (fun _ _ => rfl)) pa_nil)) pa_nil)) pe_int) pe_int)))) pss_nil)))
    (pss_one (ps_ret (pe_lst (pa_cons (pe_ifExp (pt_cmpR op_ge (pv 2) (pe_op op_pow pe_int pe_int) (nomark _)) (pv 2) pe_int) (pa_cons (pe_op op_add (pe_op op_mod (pe_callTy call_int1 (by rfl) T.b_int (by decide +kernel) (pa_cons (pe_op op_add (pe_op op_mul (pe_op op_mod (pe_callTy call_int1 (by rfl) T.b_int (by decide +kernel) (pa_cons (pv 2) pa_nil)) pe_int) pe_int) (pe_op op_mul pe_int (pv 1))) pa_nil)) pe_int) pe_int) pa_nil))))))), ?_⟩
    have fin : ∀ z : Int, tRet (tLst (tCons (tIf (tTest (tOp (rI0 fun i j => V.bl (decide (j ≤ i))) (tVar 2) (tOp (rI CPow fun i j => V.int (i ^ j.toNat)) (tC (V.int 10)) (tC (V.int 18))))) (tVar 2) (tC (V.int 0))) (tCons (tOp (rI0 fun i j => V.int (i + j)) (tOp (rI (fun _ j => 0 < j) fun i j => V.int (i % j)) (tCB (fun xs H Q => (∃ i, xs = [V.int i] ∧ Q (V.int i) H) ∨ ∃ k, xs = [V.bl k] ∧ Q (V.int (if k = true then 1 else 0)) H) (tCons (tOp (rI0 fun i j => V.int (i + j)) (tOp (rI CMul fun i j => V.int (i * j)) (tOp (rI (fun _ j => 0 < j) fun i j => V.int (i % j)) (tCB (fun xs H Q => (∃ i, xs = [V.int i] ∧ Q (V.int i) H) ∨ ∃ k, xs = [V.bl k] ∧ Q (V.int (if k = true then 1 else 0)) H) (tCons (tVar 2) tNil)) (tC (V.int 2147483629))) (tC (V.int 48271))) (tOp (rI CMul fun i j => V.int (i * j)) (tC (V.int 39019)) (tVar 1))) tNil)) (tC (V.int 2147483629))) (tC (V.int 1))) tNil))) { nx := fun _ H' => Q .non H', rt := Q } [some (.ref a), some (.int n), some (.int z)] H := by
      intro z
      refine ⟨_, rfl, _, _, rfl, rfl, ⟨by decide, by decide, by decide⟩, _, _, rfl, rfl, _, rfl, ?_⟩
      refine ite2 (fun h1 => ?_) (fun h1 => ?_)
      all_goals
        first
          | refine ⟨_, rfl, _, rfl, .inl ⟨_, rfl, _, _, rfl, rfl, (by show (0 : Int) < 2147483629; decide), _, _, rfl, rfl, .inr ⟨by decide, by decide⟩, _, rfl, _, _, rfl, rfl, .inl ⟨by decide, by decide⟩, _, _, rfl, rfl, .inl ⟨_, rfl, _, _, rfl, rfl, (by show (0 : Int) < 2147483629; decide), _, _, rfl, rfl, ?_⟩⟩⟩
          | refine ⟨_, rfl, .inl ⟨_, rfl, _, _, rfl, rfl, (by show (0 : Int) < 2147483629; decide), _, _, rfl, rfl, .inr ⟨by decide, by decide⟩, _, rfl, _, _, rfl, rfl, .inl ⟨by decide, by decide⟩, _, _, rfl, rfl, .inl ⟨_, rfl, _, _, rfl, rfl, (by show (0 : Int) < 2147483629; decide), _, _, rfl, rfl, ?_⟩⟩⟩
        exact ⟨by show 2 ≤ sizeLine; decide, fun p hp => k p _ hp (same_upd hp) ⟨_, _, upd_same⟩⟩
    refine ⟨_, rfl, _, _, rfl, rfl, .inl ⟨by decide, by decide⟩, _, _, rfl, rfl, ?_⟩
    refine ⟨_, rfl, _, rfl, a, _, rfl, .inl hS, _, _, rfl, rfl, _, rfl, ?_⟩
    refine ite2 (fun h1 => ?_) (fun h1 => ?_)
    · have h2 : (n : Int) < ((ns.map V.int).length : Int) := of_decide_eq_true h1
      rw [List.length_map] at h2
      obtain ⟨z, hz⟩ := cell_at (ns := ns) (by omega : (0 : Int) ≤ n) h2
      refine ⟨_, rfl, _, rfl, a, _, _, _, rfl, rfl, hS, hz, _, rfl, ?_⟩
      exact fin _
    · refine ⟨_, rfl, a, _, rfl, .inl hS, _, _, rfl, rfl, _, rfl, ?_⟩
      refine ite2 (fun h3 => ?_) (fun h3 => ?_)
      · have h4 : (0 : Int) < ((ns.map V.int).length : Int) := of_decide_eq_true h3
        have h5 := h4
        rw [List.length_map] at h5
        obtain ⟨z, hz⟩ := cell_at (ns := ns) (k := (n : Int) % ((ns.map V.int).length : Int)) (Int.emod_nonneg _ (by omega)) (by have := Int.emod_lt_of_pos (n : Int) h4; rw [List.length_map] at this ⊢; exact this)
        refine ⟨_, rfl, _, rfl, _, rfl, .inl ⟨_, rfl, _, rfl, a, _, rfl, .inl hS, _, _, rfl, rfl, h4, a, _, _, _, rfl, rfl, hS, hz, _, rfl, .inl ⟨_, rfl, _, _, rfl, rfl, (by show (0 : Int) < 2147483629; decide), _, _, rfl, rfl, .inr ⟨by decide, by decide⟩, _, _, rfl, rfl, ?_⟩⟩⟩
        exact fin _
      · exact fin _
theorem sc_l_one_of : FnScope ["_law_box", "_law_some"] ["_law_box", "_law_some"] (fnScope s_l_one_of) := fnScope_by (by decide +kernel)
theorem cal_l_one_of {f : Addr} {fd : FuncData} (F : Def K mg "_law_one_of" s_l_one_of f fd) (b : Binds K fd ["_law_box", "_law_some"] []) (T : Tx mg) (c_l_choose : Cal P w K mg base 1 "_law_choose" spChoose []) : Cal P w K mg base 2 "_law_one_of" spOneOf [] := by
  refine cal0 F b .nil sc_l_one_of (fun vs H Q E h => ?_) (fun cdv A outer s H vs Q E hr h => ?_)
  · obtain ⟨_, _, _, rfl, _⟩ := h; rfl
  · obtain ⟨bx, l, xs, rfl, hb, hl, nl, x0, x1, k⟩ := h
    refine ⟨_, (pss_one (ps_ret (pe_ix ix_list (pv 1) (pe_c c_l_choose hr (by decide) rfl (pa_cons (pv 0) (pa_cons (pe_callB call_len_seq (by rfl) T.b_len (by decide +kernel) (pa_cons (pv 1) pa_nil)) pa_nil))) (fun _ _ => rfl)))), ?_⟩
    refine ⟨_, rfl, _, rfl, _, rfl, l, _, rfl, .inl (SqL.of hl), bx, _, rfl, hb, by omega, by omega, fun d H' d0 d1 u => ?_⟩
    obtain ⟨j, rfl⟩ := Int.eq_ofNat_of_zero_le d0
    have hj : j < xs.length := by omega
    have g : xs[j]? = some xs[j] := by simp [hj]
    exact ⟨l, xs, _, xs[j], rfl, rfl, SqL.of (u.1 l _ hl nl), atI_nat g, k _ _ (List.getElem_mem hj) u⟩
end
end U

set_option maxRecDepth 100000
set_option maxHeartbeats 4000000
namespace U
open PySem PySem.Spec PyProof.Rows
open L2 hiding Fun CX0 E0 pass0 Fun.binds
open C8 Lx SX
/-! words told -/
def isW (z : Str) : Bool := z.cps.toList.all fun c => decide (c ∈ ("01" : Str).cps.toList)
theorem isW_W (l : List Bool) : isW (W l) = true := by
  unfold isW
  rw [W_tl, List.all_map, List.all_eq_true]
  intro b _
  cases b <;> decide +kernel
/-- is_word of any value: a text, or a thing whose type is not str -/
def spIsWord (K : PySem.W.Frag) : Sp := fun vs H Q _ => ∃ x, vs = [x] ∧ ((∃ z : Str, x = .str z ∧ z.length ≤ 100000 ∧ ∀ H', Same H H' → Q (.bl (isW z)) H') ∨
  (∃ t, TyX K H x t ∧ PySem.W.kitOne K t (.type "str") = some false ∧ Q (.bl false) H))
theorem spIsWord.word {K : PySem.W.Frag} {H : Hp} {Q : VK} {E : XK} {l : List Bool} (hl : l.length ≤ 100000) (k : ∀ H', Same H H' → Q (.bl true) H') : spIsWord K [.str (W l)] H Q E :=
  ⟨_, rfl, .inl ⟨_, rfl, by rw [W_len]; exact hl, fun H' s => by rw [isW_W]; exact k H' s⟩⟩
section
variable {P : Program} {w : World} {K : PySem.W.Frag} {mg : Str → Option Value} {base : Heap}
theorem sc_is_word : FnScope ["value", "sign"] ["value"] (fnScope s_is_word) := fnScope_by (by decide +kernel)
theorem cal_is_word {f : Addr} {fd : FuncData} {tB : Tok} (F : Def K mg "is_word" s_is_word f fd) (b : Binds K fd ["value"] []) (T : Tx mg) (g_BITS : mg "BITS" = some (.str "01" tB)) : Cal P w K mg base 1 "is_word" (spIsWord K) [] := by
  refine cal0 F b .nil sc_is_word (fun vs H Q E h => ?_) (fun cdv A outer s H vs Q E hr h => ?_)
  · obtain ⟨_, rfl, _⟩ := h; rfl
  · obtain ⟨_, rfl, h⟩ := h
    refine ⟨_, (pss_one (ps_ret (pe_and (pe_callB call_isi (by rfl) T.b_isinstance (by decide +kernel) (pa_cons (pv 0) (pa_cons (pe_bltn (v := .ty "str") (u := .type "str") (by rfl) T.b_str (by decide +kernel) rfl) pa_nil))) (pe_one (pe_callB (cr_all rfl) (by rfl) T.b_all (by decide +kernel) (pa_cons (pe_lc (own := [("sign", 1)]) (g := gName 1) (by rfl) sc_is_word.nd (pi_str (pv 0)) (blkOk_by (own := [("sign", 1)]) (N := ["value", "sign"]) (sc := fnScope s_is_word) (by decide +kernel)) (fun _ _ _ _ _ => (pg_name (i := 1) sc_is_word.nd rfl (.inl rfl))) (fun _ _ _ _ _ => pts_nil) (fun _ _ _ _ _ => (pe_cmpR op_in_sign (pv 1) (pe_glob (v := .str "01") (by rfl) g_BITS ⟨_, rfl⟩) (by with_unfolding_all rfl)))) pa_nil)))))), ?_⟩
    rcases h with ⟨z, rfl, hz, k⟩ | ⟨t, ht, hk, k⟩
    · refine ⟨_, rfl, _, _, _, _, true, rfl, .ty _, .base (.str z), kit_ty (by decide +kernel), _, rfl, ?_⟩
      refine ⟨_, rfl, z, rfl, fun D nD => ?_⟩
      refine lc_it walk_str (fun i H2 => Same H H2 ∧ H2 D = some (.lst (((z.cps.toList.take i).map fun c => decide (c ∈ ("01" : Str).cps.toList)).map V.bl))) ⟨same_upd nD, upd_same⟩ (fun _ _ _ _ => trivial) ?_ ?_
      · rintro i x H2 H3 hi ⟨s2, hD⟩ ⟨rfl, c, hc, rfl⟩
        refine ⟨rfl, ?_⟩
        refine ⟨_, rfl, c, _, rfl, rfl, _, hD, ?_, ?_, ?_⟩
        · rw [List.length_map, List.length_map, List.length_take]
          have e : z.length = z.cps.toList.length := TL.len_tl z
          exact sl_lt (by have : z.cps.size = z.cps.toList.length := by simp
                          omega)
        · intro c' o e
          rw [upd_ne (ne_of_none e nD)]
          exact s2 _ _ e
        · have hc' : z.cps.toList[i]? = some c := by rw [Array.getElem?_toList]; exact hc
          rw [upd_same, List.take_add_one, hc']
          simp
      · rintro H2 ⟨s2, hD⟩
        have e : z.cps.toList.take z.cps.size = z.cps.toList := List.take_of_length_le (by simp)
        rw [e] at hD
        refine ⟨D, _, rfl, SqL.of hD, ?_⟩
        have e2 : (List.map (fun c => decide (c ∈ ("01" : Str).cps.toList)) z.cps.toList).all id = isW z := by
          unfold isW
          rw [List.all_map]
          rfl
        rw [e2]
        exact k H2 s2
    · exact ⟨_, rfl, _, _, _, _, false, rfl, .ty _, ht, hk, _, rfl, k⟩
end
end U

set_option maxRecDepth 100000
set_option maxHeartbeats 4000000
set_option pp.maxSteps 400
namespace U
open PySem PySem.Spec PyProof.Rows
open L2 hiding Fun CX0 E0 pass0 Fun.binds
open C8 Lx SX
/-! any values -/
/-- a text, or a thing whose type is not str, whatever is made beside it -/
def AnyS (K : PySem.W.Frag) (H : Hp) (x : V) : Prop := (∃ z : Str, x = .str z ∧ z.length ≤ 10000 ∧ PyData.strOk z = true) ∨ ((∀ z, x ≠ .str z) ∧ ∃ t, PySem.W.kitOne K t (.type "str") = some false ∧ ∀ H', Same H H' → TyX K H' x t)
theorem AnyS.same {K : PySem.W.Frag} {H H' : Hp} {x : V} (h : AnyS K H x) (s : Same H H') : AnyS K H' x := by
  rcases h with h | ⟨h1, t, h2, h3⟩
  · exact .inl h
  · exact .inr ⟨h1, t, h2, fun H2 s2 => h3 H2 (s.trans s2)⟩
/-- the same, while the box at b turns -/
def AnyU (K : PySem.W.Frag) (b : Addr) (H : Hp) (x : V) : Prop := ∀ H', Up b H H' → AnyS K H' x
theorem AnyU.up {K : PySem.W.Frag} {b : Addr} {H H' : Hp} {x : V} (h : AnyU K b H x) (u : Up b H H') : AnyU K b H' x := fun H2 u2 => h H2 (u.trans u2)
theorem AnyU.now {K : PySem.W.Frag} {b : Addr} {H : Hp} {x : V} (h : AnyU K b H x) (hb : Box H b) : AnyS K H x := h H (Up.refl hb)
theorem anyS_str {K : PySem.W.Frag} {H : Hp} {z : Str} (h : z.length ≤ 10000) (o : PyData.strOk z = true) : AnyS K H (.str z) := .inl ⟨z, rfl, h, o⟩
theorem anyS_non {K : PySem.W.Frag} {H : Hp} : AnyS K H .non := .inr ⟨(fun _ z => by cases z), _, kit_ty (by decide +kernel), fun _ _ => .base .non⟩
theorem anyS_bl {K : PySem.W.Frag} {H : Hp} (x : Bool) : AnyS K H (.bl x) := .inr ⟨(fun _ z => by cases z), _, kit_ty (by decide +kernel), fun _ _ => .base (.bl x)⟩
theorem anyS_int {K : PySem.W.Frag} {H : Hp} (i : Int) : AnyS K H (.int i) := .inr ⟨(fun _ z => by cases z), _, kit_ty (by decide +kernel), fun _ _ => .base (.int i)⟩
theorem anyS_lst {K : PySem.W.Frag} {H : Hp} {a : Addr} {xs : List V} (e : H a = some (.lst xs)) : AnyS K H (.ref a) := .inr ⟨(fun _ z => by cases z), _, kit_ty (by decide +kernel), fun _ s => .base (.lst (s _ _ e))⟩
theorem anyS_tup {K : PySem.W.Frag} {H : Hp} {a : Addr} {xs : List V} (e : H a = some (.tup xs)) : AnyS K H (.ref a) := .inr ⟨(fun _ z => by cases z), _, kit_ty (by decide +kernel), fun _ s => .base (.tup (s _ _ e))⟩
theorem anyU_str {K : PySem.W.Frag} {b : Addr} {H : Hp} {z : Str} (h : z.length ≤ 10000) (o : PyData.strOk z = true) : AnyU K b H (.str z) := fun _ _ => anyS_str h o
theorem anyU_lst {K : PySem.W.Frag} {b : Addr} {H : Hp} {a : Addr} {xs : List V} (e : H a = some (.lst xs)) (n : a ≠ b) : AnyU K b H (.ref a) := fun _ u => anyS_lst (u.1 _ _ e n)
theorem anyU_tup {K : PySem.W.Frag} {b : Addr} {H : Hp} {a : Addr} {xs : List V} (hb : Box H b) (e : H a = some (.tup xs)) : AnyU K b H (.ref a) := fun _ u => anyS_tup (u.1 _ _ e (hb.neT e))
/-- whether a value is a word -/
def wordB : V → Bool
  | .str z => isW z
  | _ => false
theorem AnyS.no {K : PySem.W.Frag} {H : Hp} {x : V} (h : ∀ z, x ≠ .str z) : wordB x = false := by
  unfold wordB
  split
  · exact absurd rfl (h _)
  · rfl
theorem spIsWord.any {K : PySem.W.Frag} {H : Hp} {Q : VK} {E : XK} {x : V} (h : AnyS K H x) (k : ∀ H', Same H H' → Q (.bl (wordB x)) H') : spIsWord K [x] H Q E := by
  rcases h with ⟨z, rfl, hz, _⟩ | ⟨h1, t, h2, h3⟩
  · exact ⟨_, rfl, .inl ⟨z, rfl, by omega, k⟩⟩
  · refine ⟨_, rfl, .inr ⟨t, h3 H (Same.refl H), h2, ?_⟩⟩
    have := k H (Same.refl H)
    rw [AnyS.no (K := K) (H := H) h1] at this
    exact this
/-- the bits of a text -/
def unW (z : Str) : List Bool := z.cps.toList.map fun c => decide (c = 49)
theorem isW_un {z : Str} (h : isW z = true) : z = W (unW z) := by
  refine TL.ext_tl ?_
  have e : TL.tl (W (unW z)) = (unW z).map bt := W_tl _
  rw [e]
  unfold unW
  rw [List.map_map]
  unfold isW at h
  rw [List.all_eq_true] at h
  have e2 : TL.tl z = z.cps.toList := rfl
  rw [e2]
  have key : ∀ l : List Nat, (∀ c ∈ l, decide (c ∈ ("01" : Str).cps.toList) = true) → l = l.map (bt ∘ fun c => decide (c = 49)) := fun l => by
    induction l with
    | nil => intro _; rfl
    | cons c r ih =>
      intro hl
      rw [List.map_cons, ← ih fun u hu => hl u (List.mem_cons_of_mem _ hu)]
      have hc := of_decide_eq_true (hl c List.mem_cons_self)
      have e0 : ("01" : Str).cps.toList = [48, 49] := by decide +kernel
      rw [e0] at hc
      congr 1
      rcases List.mem_cons.mp hc with rfl | hc
      · rfl
      · rw [List.mem_singleton.mp hc]; rfl
  exact key _ h
theorem wordB_W {l : List Bool} : wordB (.str (W l)) = true := isW_W l
theorem wordB_some {x : V} (h : wordB x = true) : ∃ l, x = .str (W l) := by
  unfold wordB at h
  split at h
  · rename_i z
    exact ⟨unW z, by rw [← isW_un h]⟩
  · cases h
end U

set_option maxRecDepth 100000
set_option maxHeartbeats 4000000
namespace Lx
open PySem PySem.Spec PyProof.Rows L2
theorem Sq.of_same {K : PySem.W.Frag} {H H' : Hp} {a : Addr} {xs : List V} (h : Sq K H a xs) (e : Same H H') : Sq K H' a xs := h.same e
/-- a list or a tuple, walked: what holds behind -/
theorem iSeq_var {K : PySem.W.Frag} {i : Nat} {σ : L2.St} {H : Hp} {R : It → Hp → Prop} {a : Addr} {xs : List V} (hv : σ[i]? = some (some (.ref a))) (hS : Sq K H a xs)
    (h : ∀ (J : It) (G : Hp → Prop), (∀ H', Same H H' → G H') → Walk J xs.length G (YAt xs) → R J H) : iSeq K (tVar i) σ H R := by
  rcases hS with hS | hS
  · exact .inl ⟨_, hv, a, rfl, ⟨xs, hS⟩, h _ _ (fun H' s => s.seq hS) walk_list⟩
  · exact .inr ⟨_, hv, a, rfl, ⟨xs, hS⟩, h _ _ (fun H' s => same_tup s hS) walk_tup⟩
theorem iEnumQ_var {K : PySem.W.Frag} {i : Nat} {σ : L2.St} {H : Hp} {R : It → Hp → Prop} {a : Addr} {xs : List V} (hv : σ[i]? = some (some (.ref a))) (hS : Sq K H a xs)
    (h : ∀ (J : It) (G : Hp → Prop), (∀ H', Same H H' → G H') → Walk J xs.length G (YPair (fun i => some (.int (i : Nat))) (fun i => xs[i]?)) → R J H) : iEnumQ K (tCons (tVar i) tNil) σ H R := by
  rcases hS with hS | hS
  · exact .inl ⟨_, hv, a, xs, rfl, hS, h _ _ (fun H' s => s.seq hS) walk_enum⟩
  · exact .inr ⟨_, hv, a, xs, rfl, hS, h _ _ (fun H' s => same_tup s hS) walk_enumT⟩
theorem cut_whole {xs : List V} {lo hi : Option Int} (h1 : HT.sIx xs.length 0 lo = 0) (h2 : HT.sIx xs.length xs.length hi = xs.length) : cutV xs lo hi = xs := by
  unfold cutV
  rw [h1, h2, List.drop_zero, Nat.sub_zero, List.take_length]
theorem slQ_of {K : PySem.W.Frag} {H : Hp} {Q : VK} {a : Addr} {xs : List V} {lo hi : Option Int} (hS : Sq K H a xs) (h : ∀ p H', Same H H' → Sq K H' p (cutV xs lo hi) → Q (.ref p) H') : rSlL K (.ref a) lo hi H Q ∨ rSlA K (.ref a) lo hi H Q := by
  rcases hS with hS | hS
  · exact .inl ⟨a, xs, rfl, hS, fun p hp => h p _ (fun b x e => by rw [upd_ne (ne_of_none e hp)]; exact e) (.inl (SqL.of upd_same))⟩
  · refine .inr ⟨a, xs, rfl, hS, fun c => h a H (Same.refl H) ?_, fun _ p hp => h p _ (fun b x e => by rw [upd_ne (ne_of_none e hp)]; exact e) (.inr (SqT.of upd_same))⟩
    rw [cut_whole c.1 c.2]
    exact .inr hS
theorem Sq.star {K : PySem.W.Frag} {H : Hp} {a : Addr} {xs : List V} (h : Sq K H a xs) : SqT K H a xs ∨ SqL K H a xs := h.elim .inr .inl
end Lx
namespace U
open PySem PySem.Spec PyProof.Rows
open L2 hiding Fun CX0 E0 pass0 Fun.binds
open C8 Lx SX StX
/-! texts -/
theorem W_ends (l p : List Bool) : Txt.endswith (W l) (W p) = p.isSuffixOf l := by
  unfold Txt.endswith
  rw [PySem.StrLaws.subAt_eq, W_len, W_len, W_tl, W_tl, ← List.map_drop, ← List.map_take, Bool.eq_iff_iff, List.isSuffixOf_iff_suffix, Bool.and_eq_true, decide_eq_true_eq, beq_iff_eq]
  constructor
  · rintro ⟨h1, h2⟩
    have h3 := map_bt_inj h2
    rw [List.take_of_length_le (by rw [List.length_drop]; omega)] at h3
    rw [← h3]
    exact List.drop_suffix _ _
  · intro h
    have hl := h.length_le
    refine ⟨by omega, ?_⟩
    rw [List.take_of_length_le (by rw [List.length_drop]; omega), ← List.suffix_iff_eq_drop.mp h]
theorem W_tail (l : List Bool) (n : Nat) : Txt.slice (W l) (some (if (((W l).length : Nat) : Int) - (n : Int) > 0 then (((W l).length : Nat) : Int) - (n : Int) else 0)) none = W (tl n l) := by
  rw [W_drop (by split <;> omega)]
  congr 1
  unfold tl
  rw [W_len]
  congr 1
  split <;> omega
/-! stuffs -/
def StV (H : Hp) (kb : Addr → Stf) (ps : List Addr) : Prop := ∀ t ∈ ps, H t = some (.tup [.str (W (kb t).1), .str (W [(kb t).2])])
theorem StV.same {H H' : Hp} {kb : Addr → Stf} {ps : List Addr} (h : StV H kb ps) (e : Same H H') : StV H' kb ps := fun t ht => e _ _ (h t ht)
theorem StV.nl {H H' : Hp} {kb : Addr → Stf} {ps : List Addr} (h : StV H kb ps) (e : NL H H') : StV H' kb ps := fun t ht => e.tup (h t ht)
theorem StV.perm {H : Hp} {kb : Addr → Stf} {ps qs : List Addr} (h : StV H kb ps) (p : qs.Perm ps) : StV H kb qs := fun t ht => h t (p.mem_iff.mp ht)
def ruF (f : List Bool) (t : Addr) : List (Str × V) := putF "stuffs" (.ref t) (putF "flag" (.str (W f)) [])
theorem fs_ne : ¬ (("flag" : Str) = "stuffs") := by decide +kernel
theorem ruF_flag (f : List Bool) (t : Addr) : (ruF f t).lookup ("flag" : Str) = some (.str (W f)) := by
  unfold ruF
  rw [lookup_putF, if_neg fs_ne, lookup_putF, if_pos rfl]
theorem ruF_stuffs (f : List Bool) (t : Addr) : (ruF f t).lookup ("stuffs" : Str) = some (.ref t) := by
  unfold ruF
  rw [lookup_putF, if_pos rfl]
theorem ruF_no (f : List Bool) (t : Addr) {m : Str} (h1 : ¬ m = "stuffs") (h2 : ¬ m = "flag") : (ruF f t).lookup m = none := by
  unfold ruF
  rw [lookup_putF, if_neg h1, lookup_putF, if_neg h2]
  all_goals rfl
def RuAt (C : Addr) (H : Hp) (a : Addr) (f : List Bool) (ss : List Stf) : Prop :=
  ∃ dx t ps kb, H a = some (.ins C dx (ruF f t)) ∧ H t = some (.tup (ps.map V.ref)) ∧ StV H kb ps ∧ ss = ps.map kb
theorem RuAt.same {C : Addr} {H H' : Hp} {a : Addr} {f : List Bool} {ss : List Stf} (h : RuAt C H a f ss) (e : Same H H') : RuAt C H' a f ss := by
  obtain ⟨dx, t, ps, kb, h1, h2, h3, h4⟩ := h
  exact ⟨dx, t, ps, kb, e _ _ h1, e _ _ h2, h3.same e, h4⟩
theorem RuAt.nl {C : Addr} {H H' : Hp} {a : Addr} {f : List Bool} {ss : List Stf} (h : RuAt C H a f ss) (e : NL H H') : RuAt C H' a f ss := by
  obtain ⟨dx, t, ps, kb, h1, h2, h3, h4⟩ := h
  exact ⟨dx, t, ps, kb, e.ins h1, e.tup h2, h3.nl e, h4⟩
def longM (ss : List Stf) : Nat := ss.foldr (fun s m => max s.1.length m) 0
theorem longM_le : ∀ {ss : List Stf} {s : Stf}, s ∈ ss → s.1.length ≤ longM ss
  | x :: r, s, h => by
    show s.1.length ≤ max x.1.length (longM r)
    rcases List.mem_cons.mp h with e | h
    · rw [e]; omega
    · have := longM_le h; omega
theorem longM_max : ∀ {ss : List Stf} {n : Nat}, (∀ s ∈ ss, s.1.length ≤ n) → longM ss ≤ n
  | [], _, _ => Nat.zero_le _
  | x :: r, n, h => by
    have := longM_max (ss := r) fun s hs => h s (List.mem_cons_of_mem _ hs)
    have := h x List.mem_cons_self
    show max x.1.length (longM r) ≤ n
    omega
theorem longM_perm {ss ts : List Stf} (p : ss.Perm ts) : longM ss = longM ts :=
  Nat.le_antisymm (longM_max fun s hs => longM_le (p.mem_iff.mp hs)) (longM_max fun s hs => longM_le (p.mem_iff.mpr hs))
theorem longM_is {ss : List Stf} {m : Int} (hm : m ∈ (0 : Int) :: ss.map fun s => (s.1.length : Int)) (hx : ∀ y ∈ (0 : Int) :: ss.map fun s => (s.1.length : Int), y ≤ m) : m = (longM ss : Nat) := by
  have h0 := hx 0 List.mem_cons_self
  have h1 : longM ss ≤ m.toNat := longM_max fun s hs => by
    have := hx _ (List.mem_cons_of_mem _ (List.mem_map_of_mem (f := fun s : Stf => (s.1.length : Int)) hs))
    omega
  rcases List.mem_cons.mp hm with e | h
  · omega
  · obtain ⟨s, hs, rfl⟩ := List.mem_map.mp h
    have := longM_le hs
    omega
def oB : Option Bool → V
  | none => .non
  | some b => .str (W [b])
theorem oB_non (o : Option Bool) : decide (oB o = .non) = o.isNone := by
  cases o with
  | none => exact decide_eq_true rfl
  | some b => exact decide_eq_false (fun z => by cases z)
/-- the class as the top leaves it -/
structure RuT (K : PySem.W.Frag) (C : Addr) : Prop where
  cl : Cls K C
  nF : NoAttr K C "flag"
  nS : NoAttr K C "stuffs"
def spIsSeq (K : PySem.W.Frag) : Sp := fun vs H Q _ => ∃ a xs, vs = [.ref a] ∧ Sq K H a xs ∧ ∀ H', Same H H' → Q (.bl true) H'
def spIsBit : Sp := fun vs H Q _ => ∃ b, vs = [.str (W [b])] ∧ ∀ H', Same H H' → Q (.bl true) H'
def spIsStuff : Sp := fun vs H Q _ => ∃ (t : Addr) (p : List Bool) (b : Bool), vs = [.ref t] ∧ H t = some (.tup [.str (W p), .str (W [b])]) ∧ p ≠ [] ∧ p.length ≤ 1000 ∧ ∀ H', Same H H' → Q (.bl true) H'
def spTail : Sp := fun vs H Q _ => ∃ (l : List Bool) (n : Nat), vs = [.str (W l), .int n] ∧ l.length ≤ 100000 ∧ Q (.str (W (tl n l))) H
def spLongest (C : Addr) : Sp := fun vs H Q _ => ∃ (a : Addr) (f : List Bool) (ss : List Stf), vs = [.ref a] ∧ RuAt C H a f ss ∧ ss.length ≤ 1000 ∧ (∀ s ∈ ss, s.1.length ≤ 1000) ∧ ∀ H', Same H H' → Q (.int (longM ss : Nat)) H'
def spPut (C : Addr) : Sp := fun vs H Q _ => ∃ (a : Addr) (f : List Bool) (ss : List Stf) (l : List Bool), vs = [.ref a, .str (W l)] ∧ RuAt C H a f ss ∧ ∀ H', Same H H' → Q (oB (putM ss l)) H'
section
variable {P : Program} {w : World} {K : PySem.W.Frag} {mg : Str → Option Value} {base : Heap}
theorem sc_is_sequence : FnScope ["value"] ["value"] (fnScope s_is_sequence) := fnScope_by (by decide +kernel)
theorem cal_is_sequence {f : Addr} {fd : FuncData} (F : Def K mg "is_sequence" s_is_sequence f fd) (b : Binds K fd ["value"] []) (T : Tx mg) : Cal P w K mg base 1 "is_sequence" (spIsSeq K) [] := by
  refine cal0 F b .nil sc_is_sequence (fun vs H Q E h => ?_) (fun cdv A outer s H vs Q E hr h => ?_)
  · obtain ⟨_, _, rfl, _⟩ := h; rfl
  · obtain ⟨a, xs, rfl, hS, k⟩ := h
    refine ⟨_, (pss_one (ps_ret (pe_callB call_isiT (by rfl) T.b_isinstance (by decide +kernel) (pa_cons (pv 0) (pa_cons (pe_tup (pa_cons (pe_bltn (v := .ty "list") (u := .type "list") (by rfl) T.b_list (by decide +kernel) rfl) (pa_cons (pe_bltn (v := .ty "tuple") (u := .type "tuple") (by rfl) T.b_tuple (by decide +kernel) rfl) pa_nil))) pa_nil))))), ?_⟩
    refine ⟨_, rfl, by show 2 ≤ sizeLine; decide, fun tp htp => ?_⟩
    have hS' := hS.same (same_upd (o := .tup [.ty "list", .ty "tuple"]) htp)
    rcases hS' with hS' | hS'
    · exact ⟨_, tp, _, _, _, true, rfl, upd_same, .cons (.ty _) (.cons (.ty _) .nil), ty_list hS', by first | exact kit_any (by decide +kernel) | rfl | decide +kernel, k _ (same_upd htp)⟩
    · exact ⟨_, tp, _, _, _, true, rfl, upd_same, .cons (.ty _) (.cons (.ty _) .nil), ty_tup hS', by first | exact kit_any (by decide +kernel) | rfl | decide +kernel, k _ (same_upd htp)⟩
theorem sc_is_bit : FnScope ["value"] ["value"] (fnScope s_is_bit) := fnScope_by (by decide +kernel)
theorem cal_is_bit {f : Addr} {fd : FuncData} (F : Def K mg "is_bit" s_is_bit f fd) (b : Binds K fd ["value"] []) (T : Tx mg) (c_is_word : Cal P w K mg base 1 "is_word" (spIsWord K) []) : Cal P w K mg base 2 "is_bit" spIsBit [] := by
  refine cal0 F b .nil sc_is_bit (fun vs H Q E h => ?_) (fun cdv A outer s H vs Q E hr h => ?_)
  · obtain ⟨_, rfl, _⟩ := h; rfl
  · obtain ⟨x, rfl, k⟩ := h
    refine ⟨_, (pss_one (ps_ret (pe_and (pe_c c_is_word hr (by decide) rfl (pa_cons (pv 0) pa_nil)) (pe_one (pe_cmpR op_eq (pe_callB call_len_str (by rfl) T.b_len (by decide +kernel) (pa_cons (pv 0) pa_nil)) pe_int (nomark _)))))), ?_⟩
    have l1 : (W [x]).length = 1 := W_len _
    refine ⟨_, rfl, _, rfl, .inl ⟨_, rfl, by rw [l1]; decide, fun H1 s1 => ⟨_, rfl, iteBT (isW_W _) ?_⟩⟩⟩
    refine ⟨_, rfl, _, rfl, by rw [l1]; decide, ?_⟩
    rw [l1]
    exact ⟨rfl, q_dec (Q := Q) rfl (k H1 s1)⟩
theorem sc_is_stuff : FnScope ["value"] ["value"] (fnScope s_is_stuff) := fnScope_by (by decide +kernel)
theorem cal_is_stuff {f : Addr} {fd : FuncData} (F : Def K mg "is_stuff" s_is_stuff f fd) (b : Binds K fd ["value"] []) (T : Tx mg) (c_is_word : Cal P w K mg base 1 "is_word" (spIsWord K) []) (c_is_bit : Cal P w K mg base 2 "is_bit" spIsBit []) : Cal P w K mg base 3 "is_stuff" spIsStuff [] := by
  refine cal0 F b .nil sc_is_stuff (fun vs H Q E h => ?_) (fun cdv A outer s H vs Q E hr h => ?_)
  · obtain ⟨_, _, _, rfl, _⟩ := h; rfl
  · obtain ⟨t, p, x, rfl, ht, hp, hl, k⟩ := h
    refine ⟨_, (pss_cons (ps_if (PW.pt (pw_or (pt_not (pt_val (pe_callB call_isi (by rfl) T.b_isinstance (by decide +kernel) (pa_cons (pv 0) (pa_cons (pe_bltn (v := .ty "tuple") (u := .type "tuple") (by rfl) T.b_tuple (by decide +kernel) rfl) pa_nil))))) (pw_or1 (pt_cmpR op_ne (pe_callB call_len_seq (by rfl) T.b_len (by decide +kernel) (pa_cons (pv 0) pa_nil)) pe_int (nomark _))))) (pss_one (ps_ret pe_bl)) pss_nil)
    (pss_one (ps_ret (pe_and (pe_c c_is_word hr (by decide) rfl (pa_cons (pe_ix ix_tup (pv 0) pe_int (fun _ _ => rfl)) pa_nil)) (pe_and (pe_cmpR op_gt (pe_callB call_len_str (by rfl) T.b_len (by decide +kernel) (pa_cons (pe_ix ix_tup (pv 0) pe_int (fun _ _ => rfl)) pa_nil)) pe_int (nomark _)) (pe_one (pe_c c_is_bit hr (by decide) rfl (pa_cons (pe_ix ix_tup (pv 0) pe_int (fun _ _ => rfl)) pa_nil)))))))), ?_⟩
    have lp : (W p).length ≤ sizeLine := by rw [W_len]; exact sl_len (by omega)
    refine ⟨_, rfl, _, _, _, _, true, rfl, .ty _, .base (.tup ht), kit_ty (by decide +kernel), _, rfl, ?_⟩
    refine ⟨_, rfl, t, _, rfl, .inr (SqT.of ht), rfl, _, rfl, iteNS rfl ?_⟩
    refine ⟨_, rfl, t, _, 0, _, rfl, rfl, SqT.of ht, rfl, _, rfl, .inl ⟨_, rfl, by rw [W_len]; omega, fun H1 s1 => ⟨_, rfl, iteBT (isW_W _) ?_⟩⟩⟩
    have ht1 := s1 _ _ ht
    refine ⟨_, rfl, t, _, 0, _, rfl, rfl, SqT.of ht1, rfl, _, rfl, lp, ?_⟩
    refine ⟨_, _, rfl, rfl, _, rfl, iteDT ?_ ?_⟩
    · rw [W_len]
      have : p.length ≠ 0 := fun z => hp (List.length_eq_zero_iff.mp z)
      omega
    · refine ⟨_, rfl, t, _, 1, _, rfl, rfl, SqT.of ht1, rfl, x, rfl, fun H2 s2 => k H2 (s1.trans s2)⟩
theorem sc_tail : FnScope ["line", "size"] ["line", "size"] (fnScope s_tail) := fnScope_by (by decide +kernel)
theorem cal_tail {f : Addr} {fd : FuncData} (F : Def K mg "tail" s_tail f fd) (b : Binds K fd ["line", "size"] []) (T : Tx mg) : Cal P w K mg base 1 "tail" spTail [] := by
  refine cal0 F b .nil sc_tail (fun vs H Q E h => ?_) (fun cdv A outer s H vs Q E hr h => ?_)
  · obtain ⟨_, _, rfl, _⟩ := h; rfl
  · obtain ⟨l, n, rfl, hl, k⟩ := h
    refine ⟨_, (pss_one (ps_ret (pe_slice sl_txt (pv 0) (po_some (pe_callB (call_max2 rfl) (by rfl) T.b_max (by decide +kernel) (pa_cons pe_int (pa_cons (pe_op op_sub (pe_callB call_len_str (by rfl) T.b_len (by decide +kernel) (pa_cons (pv 0) pa_nil)) (pv 1)) pa_nil)))) po_none))), ?_⟩
    have lw : (W l).length ≤ sizeLine := by rw [W_len]; exact sl_len (by omega)
    refine ⟨_, rfl, _, rfl, _, rfl, lw, _, rfl, _, _, rfl, rfl, _, _, rfl, _, rfl, _, rfl, lw, ?_⟩
    rw [W_tail]
    exact k
theorem sc_Rule_longest : FnScope ["self", "pattern", "bit"] ["self"] (fnScope s_Rule_longest) := fnScope_by (by decide +kernel)
theorem ok_longest {f C : Addr} {fd : FuncData} (F : C8.Fun K "longest" "Rule.longest" s_Rule_longest f fd) (T : Tx mg) (RT : RuT K C) : FnOk P w K mg base CX0 1 f fd ["self"] (spLongest C) := by
  refine fn0 F sc_Rule_longest (fun vs H Q E h => ?_) (fun cdv A outer s H vs Q E hr h => ?_)
  · obtain ⟨_, _, _, rfl, _⟩ := h; rfl
  · obtain ⟨a, fl, ss, rfl, ⟨dx, t, ps, kb, ha, ht, hs, rfl⟩, hn, hl, k⟩ := h
    refine ⟨_, (pss_one (ps_ret (pe_callB (cr_max rfl) (by rfl) T.b_max (by decide +kernel) (pa_cons (pe_lst (pa_cons pe_int (pa_star (pe_lc (own := [("pattern", 1), ("bit", 2)]) (g := gTup K 2 (gCons (gName 1) (gCons (gName 2) gNil))) (by rfl) sc_Rule_longest.nd (pi_tup (pe_fld (pv 0) rfl)) (blkOk_by (own := [("pattern", 1), ("bit", 2)]) (N := ["self", "pattern", "bit"]) (sc := fnScope s_Rule_longest) (by decide +kernel)) (fun _ _ _ _ _ => (pg_tup rfl (pgs_cons (pg_name (i := 1) sc_Rule_longest.nd rfl (.inl rfl)) (pgs_cons (pg_name (i := 2) sc_Rule_longest.nd rfl (.inl rfl)) pgs_nil)))) (fun _ _ _ _ _ => pts_nil) (fun _ _ _ _ _ => (pe_callB call_len_str (by rfl) T.b_len (by decide +kernel) (pa_cons (pv 1) pa_nil)))) pa_nil))) pa_nil)))), ?_⟩
    refine ⟨_, rfl, a, C, dx, _, _, rfl, ha, RT.cl, RT.nS, ruF_stuffs _ _, t, rfl, ⟨_, SqT.of ht⟩, fun D nD => ?_⟩
    refine lc_it (walk_tup (xs := ps.map V.ref)) (fun i H2 => Same H H2 ∧ H2 D = some (.lst ((((ps.take i).map kb).map fun s => (s.1.length : Int)).map V.int))) ⟨same_upd nD, upd_same⟩ (fun i H2 _ h2 => SqT.of (h2.1 _ _ ht)) ?_ ?_
    · rintro i x H2 H3 hi ⟨s2, hD⟩ ⟨rfl, hx⟩
      rw [List.getElem?_map] at hx
      obtain ⟨q, hq, rfl⟩ := Option.map_eq_some_iff.mp hx
      have hqm : q ∈ ps := List.mem_of_getElem? hq
      have lq : (kb q).1.length ≤ 1000 := hl _ (List.mem_map_of_mem hqm)
      refine ⟨q, _, rfl, SqT.of (s2 _ _ (hs q hqm)), rfl, ?_⟩
      refine ⟨_, _, rfl, _, _, rfl, rfl, rfl, ?_⟩
      refine ⟨_, rfl, _, rfl, by rw [W_len]; exact sl_len (by omega), _, hD, ?_, ?_, ?_⟩
      · rw [List.length_map] at hi
        rw [List.length_map, List.length_map, List.length_map, List.length_take]
        rw [List.length_map] at hn
        exact sl_lt (by omega)
      · intro c' o e
        rw [upd_ne (ne_of_none e nD)]
        exact s2 _ _ e
      · rw [upd_same, List.take_add_one, hq, W_len]
        simp
    · rintro H2 ⟨s2, hD⟩
      rw [List.length_map, List.take_length] at hD
      refine ⟨D, _, rfl, .inr (SqL.of hD), ?_⟩
      have hn' : ps.length ≤ 1000 := by rw [List.length_map] at hn; exact hn
      refine ⟨?_, fun p hp => ?_⟩
      · simp only [List.length_cons, List.length_append, List.length_map, List.length_nil]
        exact sl_len (by omega)
      · refine ⟨p, (0 : Int) :: (ps.map kb).map fun s => (s.1.length : Int), rfl, ?_, by rw [List.length_cons]; omega, fun m hm hx => ?_⟩
        · refine SqL.of (upd_same.trans ?_)
          simp
        · rw [longM_is hm hx]
          exact k _ (s2.trans (same_upd hp))
theorem sc_Rule_put : FnScope ["self", "line", "pattern", "bit"] ["self", "line"] (fnScope s_Rule_put) := fnScope_by (by decide +kernel)
theorem met_put {f C : Addr} {fd : FuncData} (F : C8.Fun K "put" "Rule.put" s_Rule_put f fd) (me : Meth K C "put" f) (b : Binds K fd ["self", "line"] []) (T : Tx mg) (RT : RuT K C) : Met P w K mg base 1 C "put" (spPut C) [] := by
  refine met0 RT.cl me F b sc_Rule_put (fun vs H Q E h => ?_) (fun cdv A outer s H vs Q E hr h => ?_)
  · obtain ⟨_, _, _, _, rfl, _⟩ := h; rfl
  · obtain ⟨a, fl, ss, l, rfl, ⟨dx, t, ps, kb, ha, ht, hs, rfl⟩, k⟩ := h
    refine ⟨_, (pss_cons (ps_for PassesOwn.never rfl (pi_tup (pe_fld (pv 0) rfl)) (pg_tup rfl (pgs_cons (pg_name (i := 2) sc_Rule_put.nd rfl (.inl rfl)) (pgs_cons (pg_name (i := 3) sc_Rule_put.nd rfl (.inl rfl)) pgs_nil)))
    (pss_one (ps_if (pt_val (pe_m1 PySem.F.slot_str_endswith PySem.F.type_str_endswith mt_endswith (pv 1) (pv 2))) (pss_one (ps_ret (pv 3))) pss_nil)))
    (pss_one (ps_ret pe_non))), ?_⟩
    refine ⟨_, rfl, a, C, dx, _, _, rfl, ha, RT.cl, RT.nS, ruF_stuffs _ _, t, rfl, ⟨_, SqT.of ht⟩, ?_⟩
    refine for_it (walk_tup (xs := ps.map V.ref)) (fun i σ H2 => ∃ v2 v3 : Option V, σ = [some (.ref a), some (.str (W l)), v2, v3] ∧ H2 = H ∧ ∀ j q, j < i → ps[j]? = some q → (kb q).1.isSuffixOf l = false) ⟨none, none, rfl, rfl, fun j q hj => absurd hj (Nat.not_lt_zero _)⟩ (fun i σ H2 _ h2 => by obtain ⟨_, _, _, rfl, _⟩ := h2; exact SqT.of ht) ?_ ?_
    · rintro i x σ H2 H3 hi ⟨v2, v3, rfl, rfl, hno⟩ ⟨rfl, hx⟩
      rw [List.getElem?_map] at hx
      obtain ⟨q, hq, rfl⟩ := Option.map_eq_some_iff.mp hx
      have hqm : q ∈ ps := List.mem_of_getElem? hq
      refine ⟨q, _, rfl, SqT.of (hs q hqm), rfl, ?_⟩
      refine ⟨_, _, rfl, _, _, rfl, rfl, ?_⟩
      refine ⟨_, rfl, ⟨_, rfl⟩, _, rfl, _, _, rfl, rfl, _, rfl, ?_⟩
      rw [W_ends]
      cases e : (kb q).1.isSuffixOf l with
      | true =>
        refine ⟨_, rfl, ?_⟩
        have ep : putM (ps.map kb) l = some (kb q).2 := by
          have hf : (ps.map kb).find? (fun s => s.1.isSuffixOf l) = some (kb q) := by
            rw [List.find?_eq_some_iff_getElem]
            have hi' := (List.getElem?_eq_some_iff.mp hq)
            obtain ⟨hi1, hi2⟩ := hi'
            refine ⟨e, i, by rw [List.length_map]; exact hi1, by rw [List.getElem_map, hi2], fun j hj => ?_⟩
            rw [List.getElem_map]
            have := hno j ps[j] hj (List.getElem?_eq_getElem _)
            rw [this]
            rfl
          unfold putM
          rw [hf]
          rfl
        have := k _ (Same.refl _)
        rw [ep] at this
        exact this
      | false =>
        refine ⟨_, _, rfl, rfl, fun j q' hj hq' => ?_⟩
        by_cases ej : j = i
        · subst ej
          rw [hq] at hq'
          cases hq'
          exact e
        · exact hno j q' (by omega) hq'
    · rintro σ H2 ⟨v2, v3, rfl, rfl, hno⟩
      have ep : putM (ps.map kb) l = none := by
        have hf : (ps.map kb).find? (fun s => s.1.isSuffixOf l) = none := by
          rw [List.find?_eq_none]
          intro s hs'
          obtain ⟨q, hq, rfl⟩ := List.mem_map.mp hs'
          obtain ⟨j, hj⟩ := List.getElem?_of_mem hq
          have := hno j q (by rw [List.length_map]; exact (List.getElem?_eq_some_iff.mp hj).1) hj
          rw [this]
          decide
        unfold putM
        rw [hf]
        rfl
      have := k _ (Same.refl _)
      rw [ep] at this
      exact this
end
end U

set_option maxRecDepth 100000
set_option maxHeartbeats 4000000
namespace U
open PySem PySem.Spec PyProof.Rows
open L2 hiding Fun CX0 E0 pass0 Fun.binds
open C8 Lx SX StX
theorem sf_at {ps : List Addr} {kb : Addr → Stf} {i : Nat} {q : Addr} (h : SufFree (ps.map kb)) (hq : ps[i]? = some q) : ∀ q' ∈ ps.take i ++ ps.drop (i + 1), ¬ (kb q').1 <:+ (kb q).1 := by
  obtain ⟨hi, rfl⟩ := List.getElem?_eq_some_iff.mp hq
  have e : ps = ps.take i ++ ps[i] :: ps.drop (i + 1) := by rw [← List.drop_eq_getElem_cons hi, List.take_append_drop]
  unfold SufFree at h
  rw [List.pairwise_map] at h
  generalize ps.take i = A at e ⊢
  generalize ps.drop (i + 1) = B at e ⊢
  generalize ps[i] = q at e ⊢
  rw [e, List.pairwise_append, List.pairwise_cons] at h
  obtain ⟨_, ⟨h2, _⟩, h3⟩ := h
  intro q' hq'
  rcases List.mem_append.mp hq' with m | m
  · exact (h3 q' m q List.mem_cons_self).1
  · exact (h2 q' m).2
theorem cut_to {xs : List V} {i : Nat} (h : i < xs.length) : cutV xs none (some (i : Int)) = xs.take i := by
  unfold cutV
  rw [HT.sIx_none, HT.sIx_nat, List.drop_zero, Nat.sub_zero, Nat.min_eq_left (Nat.le_of_lt h)]
theorem cut_from {xs : List V} {i : Nat} (h : i < xs.length) : cutV xs (some ((i : Int) + 1)) none = xs.drop (i + 1) := by
  unfold cutV
  rw [HT.sIx_none, show ((i : Int) + 1) = ((i + 1 : Nat) : Int) by omega, HT.sIx_nat, Nat.min_eq_left (by omega), List.take_of_length_le (by rw [List.length_drop]; omega)]
/-- stuffs that make a rule -/
structure StOk (ss : List Stf) : Prop where
  few : ss.length ≤ 1000
  pos : ∀ s ∈ ss, s.1 ≠ []
  long : longM ss ≤ 9
  free : SufFree ss
theorem StOk.l9 {ss : List Stf} (h : StOk ss) : ∀ s ∈ ss, s.1.length ≤ 9 := fun s hs => Nat.le_trans (longM_le hs) h.long
theorem StOk.perm {ss ts : List Stf} (h : StOk ss) (p : ss.Perm ts) : StOk ts := ⟨by rw [← p.length_eq]; exact h.few, fun s hs => h.pos s (p.mem_iff.mpr hs), by rw [← longM_perm p]; exact h.long, h.free.perm p⟩
def spAre (K : PySem.W.Frag) : Sp := fun vs H Q _ => ∃ (a : Addr) (ps : List Addr) (kb : Addr → Stf), vs = [.ref a] ∧ Sq K H a (ps.map V.ref) ∧ StV H kb ps ∧ StOk (ps.map kb) ∧ ∀ H', Same H H' → Q (.bl true) H'
def spPutIn (C : Addr) : Sp := fun vs H Q _ => ∃ (a : Addr) (f : List Bool) (ss : List Stf) (l x : List Bool), vs = [.ref a, .str (W l)] ∧ RuAt C H a f ss ∧ ss.length ≤ 1000 ∧ longM ss ≤ 9 ∧ l.length ≤ 50000 ∧ Ins ss l x ∧ ∀ H', Same H H' → Q (.str (W x)) H'
def spEndless (C : Addr) : Sp := fun vs H Q _ => ∃ (a : Addr) (f : List Bool) (ss : List Stf), vs = [.ref a] ∧ RuAt C H a f ss ∧ ss.length ≤ 1000 ∧ longM ss ≤ 9 ∧ OkR ss ∧ ∀ H', Same H H' → Q (.bl false) H'
def kst (ws : List (List Bool)) : List (Key × V) := ws.map fun w => (Sum.inr (W w), V.bl true)
theorem val_in {ws : List (List Bool)} {w : List Bool} (h : w ∈ ws) : valV (kst ws) (Sum.inr (W w)) = some (.bl true) := by
  unfold valV kst
  induction ws with
  | nil => cases h
  | cons x r ih =>
    rw [List.map_cons, List.find?_cons]
    by_cases e : x = w
    · rw [e, decide_eq_true rfl]; rfl
    · rw [decide_eq_false (fun z => e (W_inj (Sum.inr.inj z)))]
      rcases List.mem_cons.mp h with z | h
      · exact absurd z.symm e
      · exact ih h
theorem val_out {ws : List (List Bool)} {w : List Bool} (h : ¬ w ∈ ws) : valV (kst ws) (Sum.inr (W w)) = none := by
  unfold valV kst
  have : (ws.map fun w => ((Sum.inr (W w) : Key), V.bl true)).find? (fun kv => decide (kv.1 = Sum.inr (W w))) = none := by
    rw [List.find?_eq_none]
    intro kv hk
    obtain ⟨x, hx, rfl⟩ := List.mem_map.mp hk
    rw [decide_eq_true_eq]
    intro z
    exact h (W_inj (Sum.inr.inj z) ▸ hx)
  rw [this]
  rfl
theorem put_out {ws : List (List Bool)} {w : List Bool} (h : ¬ w ∈ ws) : putK (kst ws) (Sum.inr (W w)) (.bl true) = kst (ws ++ [w]) := by
  have e : ((kst ws).any fun kv => decide (kv.1 = Sum.inr (W w))) = false := by
    rw [List.any_eq_false]
    intro kv hk
    unfold kst at hk
    obtain ⟨x, hx, rfl⟩ := List.mem_map.mp hk
    rw [decide_eq_true_eq]
    intro z
    exact h (W_inj (Sum.inr.inj z) ▸ hx)
  unfold putK
  rw [e]
  unfold kst
  rw [List.map_append]
  rfl
section
variable {P : Program} {w : World} {K : PySem.W.Frag} {mg : Str → Option Value} {base : Heap}
theorem sc_are_stuffs : FnScope ["value", "one", "at", "stuff", "rest", "pattern", "bit"] ["value"] (fnScope s_are_stuffs) := fnScope_by (by decide +kernel)
theorem cal_are_stuffs {f : Addr} {fd : FuncData} (F : Def K mg "are_stuffs" s_are_stuffs f fd) (b : Binds K fd ["value"] []) (T : Tx mg) (c_is_sequence : Cal P w K mg base 1 "is_sequence" (spIsSeq K) []) (c_is_stuff : Cal P w K mg base 3 "is_stuff" spIsStuff []) : Cal P w K mg base 4 "are_stuffs" (spAre K) [] := by
  refine cal0 F b .nil sc_are_stuffs (fun vs H Q E h => ?_) (fun cdv A outer s H vs Q E hr h => ?_)
  · obtain ⟨_, _, _, rfl, _⟩ := h; rfl
  · obtain ⟨a, ps, kb, rfl, hS, hs, ok, k⟩ := h
    refine ⟨_, (pss_cons (ps_if (PW.pt (pw_or (pt_not (pt_val (pe_c c_is_sequence hr (by decide) rfl (pa_cons (pv 0) pa_nil)))) (pw_or1 (pt_not (pt_val (pe_callB (cr_all rfl) (by rfl) T.b_all (by decide +kernel) (pa_cons (pe_lc (own := [("one", 1)]) (g := gName 1) (by rfl) sc_are_stuffs.nd (pi_seq (pv 0)) (blkOk_by (own := [("one", 1)]) (N := ["value", "one", "at", "stuff", "rest", "pattern", "bit"]) (sc := fnScope s_are_stuffs) (by decide +kernel)) (fun _ _ _ _ _ => (pg_name (i := 1) sc_are_stuffs.nd rfl (.inl rfl))) (fun _ _ _ _ _ => pts_nil) (fun _ _ _ _ _ => (pe_c c_is_stuff hr (by decide) rfl (pa_cons (pv 1) pa_nil)))) pa_nil))))))) (pss_one (ps_ret pe_bl)) pss_nil)
    (pss_cons (ps_for PassesOwn.never rfl (pi_enumQ (by rfl) T.b_enumerate (pa_cons (pv 0) pa_nil)) (pg_tup rfl (pgs_cons (pg_name (i := 2) sc_are_stuffs.nd rfl (.inl rfl)) (pgs_cons (pg_name (i := 3) sc_are_stuffs.nd rfl (.inr rfl)) pgs_nil)))
    (pss_cons (ps_set (i := 4) sc_are_stuffs.nd rfl (.inl rfl) (pe_lst (pa_star (pe_slice (SlR.or sl_list sl_tupA) (pv 0) po_none (po_some (pv 2))) (pa_star (pe_slice (SlR.or sl_list sl_tupA) (pv 0) (po_some (pe_op op_add (pv 2) pe_int)) po_none) pa_nil))))
    (pss_one (ps_if (pt_val (pe_callB (cr_any rfl) (by rfl) T.b_any (by decide +kernel) (pa_cons (pe_lc (own := [("pattern", 5), ("bit", 6)]) (g := gTup K 2 (gCons (gName 5) (gCons (gName 6) gNil))) (by rfl) sc_are_stuffs.nd (pi_list (pv 4)) (blkOk_by (own := [("pattern", 5), ("bit", 6)]) (N := ["value", "one", "at", "stuff", "rest", "pattern", "bit"]) (sc := fnScope s_are_stuffs) (by decide +kernel)) (fun _ _ _ _ _ => (pg_tup rfl (pgs_cons (pg_name (i := 5) sc_are_stuffs.nd rfl (.inl rfl)) (pgs_cons (pg_name (i := 6) sc_are_stuffs.nd rfl (.inl rfl)) pgs_nil)))) (fun _ _ _ _ _ => pts_nil) (fun _ _ _ _ _ => (pe_m1 PySem.F.slot_str_endswith PySem.F.type_str_endswith mt_endswith (pe_ix (show IxR _ (rIxT K) from ix_tup) (pv 3) pe_int (fun _ _ => rfl)) (pv 5)))) pa_nil))) (pss_one (ps_ret pe_bl)) pss_nil))))
    (pss_one (ps_ret pe_bl)))), ?_⟩
    have hn : ps.length ≤ 1000 := by have := ok.few; rw [List.length_map] at this; exact this
    refine ⟨_, rfl, a, _, rfl, hS, fun H1 s1 => ⟨_, rfl, ?_⟩⟩
    have hS1 := hS.same s1
    refine iSeq_var rfl hS1 fun J G hG wk D nD => ?_
    refine lc_it wk (fun i H2 => Same H1 H2 ∧ H2 D = some (.lst ((List.replicate i true).map V.bl))) ⟨same_upd nD, upd_same⟩ (fun i H2 _ h2 => hG _ h2.1) ?_ ?_
    · rintro i x H2 H3 hi ⟨s2, hD⟩ ⟨rfl, hx⟩
      rw [List.getElem?_map] at hx
      obtain ⟨q, hq, rfl⟩ := Option.map_eq_some_iff.mp hx
      have hqm : q ∈ ps := List.mem_of_getElem? hq
      have mk : kb q ∈ ps.map kb := List.mem_map_of_mem hqm
      rw [List.length_map] at hi
      refine ⟨rfl, ?_⟩
      refine ⟨_, rfl, q, (kb q).1, (kb q).2, rfl, (s1.trans s2) _ _ (hs q hqm), ok.pos _ mk, Nat.le_trans (ok.l9 _ mk) (by decide), fun H4 s4 => ⟨_, s4 _ _ hD, ?_, ?_, ?_⟩⟩
      · rw [List.length_map, List.length_replicate]; exact sl_lt (by omega)
      · intro c' o e
        rw [upd_ne (ne_of_none e nD)]
        exact (s2.trans s4) _ _ e
      · rw [upd_same, List.replicate_succ', List.map_append]; rfl
    · rintro H2 ⟨s2, hD⟩
      refine ⟨D, _, rfl, SqL.of hD, _, rfl, ?_⟩
      have et : (List.replicate (ps.map V.ref).length true).all id = true := by simp
      rw [et]
      have hS2 := hS1.same s2
      have s02 := s1.trans s2
      refine iEnumQ_var rfl hS2 fun J G hG wk => ?_
      refine for_it wk (fun i σ H3 => ∃ v1 v2 v3 v4 v5 v6 : Option V, σ = [some (.ref a), v1, v2, v3, v4, v5, v6] ∧ Same H2 H3) ⟨none, none, none, none, none, none, rfl, Same.refl _⟩ (fun i σ H3 _ h3 => by obtain ⟨_, _, _, _, _, _, _, s3⟩ := h3; exact hG _ s3) ?_ ?_
      · rintro i x σ H3 H4 hi ⟨v1, v2, v3, v4, v5, v6, rfl, s3⟩ ⟨T', y1, y2, rfl, nT, rfl, h1, h2⟩
        cases h1
        replace h2 : (ps.map V.ref)[i]? = some y2 := h2
        rw [List.getElem?_map] at h2
        obtain ⟨q, hq, rfl⟩ := Option.map_eq_some_iff.mp h2
        have hqm : q ∈ ps := List.mem_of_getElem? hq
        refine ⟨T', _, rfl, SqT.of upd_same, rfl, _, _, rfl, _, _, rfl, rfl, ?_⟩
        have s4 : Same H2 (upd H3 T' (.tup [.int (i : Nat), .ref q])) := s3.trans (same_upd nT)
        generalize upd H3 T' (.tup [.int (i : Nat), .ref q]) = H4 at s4
        have hS4 := hS2.same s4
        refine ⟨_, rfl, _, rfl, _, rfl, slQ_of hS4 fun p1 H5 s5 h5 => ⟨p1, _, rfl, h5.star, ?_⟩⟩
        refine ⟨_, rfl, _, rfl, _, _, rfl, rfl, _, rfl, slQ_of (hS4.same s5) fun p2 H6 s6 h6 => ⟨p2, _, rfl, h6.star, ?_⟩⟩
        have el : cutV (ps.map V.ref) none (some ((i : Nat) : Int)) ++ (cutV (ps.map V.ref) (some (((i : Nat) : Int) + 1)) none ++ []) = (ps.take i ++ ps.drop (i + 1)).map V.ref := by
          rw [cut_to hi, cut_from hi, List.append_nil, List.map_append, List.map_take, List.map_drop]
        refine ⟨?_, fun R nR => ?_⟩
        · show (cutV (ps.map V.ref) none (some ((i : Nat) : Int)) ++ (cutV (ps.map V.ref) (some (((i : Nat) : Int) + 1)) none ++ [])).length ≤ sizeLine
          rw [el, List.length_map, List.length_append, List.length_take, List.length_drop]
          exact sl_len (by omega)
        · have hR : upd H6 R (.lst (cutV (ps.map V.ref) none (some ((i : Nat) : Int)) ++ (cutV (ps.map V.ref) (some (((i : Nat) : Int) + 1)) none ++ []))) R = some (.lst ((ps.take i ++ ps.drop (i + 1)).map V.ref)) := by rw [upd_same, el]
          have s7 : Same H2 (upd H6 R (.lst (cutV (ps.map V.ref) none (some ((i : Nat) : Int)) ++ (cutV (ps.map V.ref) (some (((i : Nat) : Int) + 1)) none ++ [])))) := ((s4.trans s5).trans s6).trans (same_upd nR)
          show gName 4 _ _ (upd H6 R (.lst (cutV (ps.map V.ref) none (some ((i : Nat) : Int)) ++ (cutV (ps.map V.ref) (some (((i : Nat) : Int) + 1)) none ++ [])))) _
          generalize upd H6 R (.lst (cutV (ps.map V.ref) none (some ((i : Nat) : Int)) ++ (cutV (ps.map V.ref) (some (((i : Nat) : Int) + 1)) none ++ []))) = H7 at hR s7 ⊢
          refine ⟨_, rfl, R, rfl, ⟨_, SqL.of hR⟩, fun D2 nD2 => ?_⟩
          have ne := sf_at ok.free hq
          have hlen : (ps.take i ++ ps.drop (i + 1)).length ≤ 1000 := by
            rw [List.length_append, List.length_take, List.length_drop]; omega
          have hsub : ∀ q' ∈ ps.take i ++ ps.drop (i + 1), q' ∈ ps := fun q' hq' => by
            rcases List.mem_append.mp hq' with m | m
            · exact List.mem_of_mem_take m
            · exact List.mem_of_mem_drop m
          generalize ps.take i ++ ps.drop (i + 1) = rs at hR ne hlen hsub
          refine lc_it (walk_list (xs := rs.map V.ref)) (fun j H8 => Same H7 H8 ∧ H8 D2 = some (.lst ((List.replicate j false).map V.bl))) ⟨same_upd nD2, upd_same⟩ (fun j H8 _ h8 => h8.1.seq (SqL.of hR)) ?_ ?_
          · rintro j x H8 H9 hj ⟨s8, hD2⟩ ⟨rfl, hx⟩
            rw [List.getElem?_map] at hx
            obtain ⟨q', hq', rfl⟩ := Option.map_eq_some_iff.mp hx
            have hm' : q' ∈ rs := List.mem_of_getElem? hq'
            rw [List.length_map] at hj
            have s28 := s02.trans (s7.trans s8)
            refine ⟨q', _, rfl, SqT.of (s28 _ _ (hs q' (hsub _ hm'))), rfl, _, _, rfl, _, _, rfl, rfl, rfl, ?_⟩
            refine ⟨_, rfl, q, _, 0, _, rfl, rfl, SqT.of (s28 _ _ (hs q hqm)), rfl, ⟨_, rfl⟩, _, rfl, _, _, rfl, rfl, _, hD2, ?_, ?_, ?_⟩
            · rw [List.length_map, List.length_replicate]; exact sl_lt (by omega)
            · intro c' o e
              rw [upd_ne (ne_of_none e nD2)]
              exact s8 _ _ e
            · have ef : Txt.endswith (W (kb q).1) (W (kb q').1) = false := by
                rw [W_ends]
                cases e : (kb q').1.isSuffixOf (kb q).1 with
                | false => rfl
                | true => exact absurd (List.isSuffixOf_iff_suffix.mp e) (ne q' hm')
              rw [upd_same, ef, List.replicate_succ', List.map_append]
              rfl
          · rintro H8 ⟨s8, hD2⟩
            refine ⟨D2, _, rfl, SqL.of hD2, _, rfl, ?_⟩
            have et : (List.replicate (rs.map V.ref).length false).any id = false := by simp
            rw [et]
            exact ⟨_, _, _, _, _, _, rfl, s7.trans s8⟩
      · rintro σ H3 ⟨v1, v2, v3, v4, v5, v6, rfl, s3⟩
        exact k H3 (s02.trans s3)
end
end U

set_option maxRecDepth 100000
set_option maxHeartbeats 4000000
namespace U
open PySem PySem.Spec PyProof.Rows
open L2 hiding Fun CX0 E0 pass0 Fun.binds
open C8 Lx SX StX
theorem p10 {n : Nat} (h : n ≤ 9) : 2 ^ (n + 1) ≤ 1024 := Nat.le_trans (Nat.pow_le_pow_right (by decide) (show n + 1 ≤ 10 by omega)) (by decide)
section
variable {P : Program} {w : World} {K : PySem.W.Frag} {mg : Str → Option Value} {base : Heap}
theorem sc_Rule_put_in : FnScope ["self", "line", "found", "known", "bit", "standing"] ["self", "line"] (fnScope s_Rule_put_in) := fnScope_by (by decide +kernel)
theorem met_put_in {f C : Addr} {fd : FuncData} (F : C8.Fun K "put_in" "Rule.put_in" s_Rule_put_in f fd) (me : Meth K C "put_in" f) (b : Binds K fd ["self", "line"] []) (T : Tx mg) (RT : RuT K C)
    (c_put : Met P w K mg base 1 C "put" (spPut C) []) (p_longest : Prp P w K mg base 1 C "longest" (spLongest C)) (c_tail : Cal P w K mg base 1 "tail" spTail []) : Met P w K mg base 3 C "put_in" (spPutIn C) [] := by
  refine met0 RT.cl me F b sc_Rule_put_in (fun vs H Q E h => ?_) (fun cdv A outer s H vs Q E hr h => ?_)
  · obtain ⟨_, _, _, _, _, rfl, _⟩ := h; rfl
  · obtain ⟨a, fl, ss, l, x, rfl, hR, hn, h9, hl, hI, k⟩ := h
    refine ⟨_, (pss_cons (ps_par (i := 2) (j := 3) (by rfl) sc_Rule_put_in.nd rfl rfl (by decide) rfl rfl (pa_cons pe_str (pa_cons pe_dnewK pa_nil)) (by rfl))
    (pss_cons (ps_set (i := 4) sc_Rule_put_in.nd rfl (.inl rfl) (pe_mt (pl := _) c_put hr (by decide) (pv 0) (pa_cons (pv 1) pa_nil)))
    (pss_cons (ps_while PassesOwn.never (pt_cmpR op_notN (pv 4) pe_non (nomark _))
    (pss_cons (ps_set (i := 5) sc_Rule_put_in.nd rfl (.inl rfl) (pe_c c_tail hr (by decide) rfl (pa_cons (pe_op op_add_str (pv 1) (pv 2)) (pa_cons (pe_pr p_longest hr (by decide) (pv 0)) pa_nil))))
    (pss_cons (ps_if (pt_cmp (pc_din (hu_of hr) (pv 5) (pv 3))) (pss_one (ps_ret pe_non)) pss_nil)
    (pss_cons (ps_dput (hu_of hr) (pv 3) (pv 5) pe_bl rfl)
    (pss_cons (ps_aug (i := 2) sc_Rule_put_in.nd rfl (.inl rfl) (pv 4) iop_add_str)
    (pss_one (ps_set (i := 4) sc_Rule_put_in.nd rfl (.inl rfl) (pe_mt (pl := _) c_put hr (by decide) (pv 0) (pa_cons (pe_op op_add_str (pv 1) (pv 2)) pa_nil)))))))))
    (pss_one (ps_ret (pv 2)))))), ?_⟩
    have hL : ∀ s ∈ ss, s.1.length ≤ longM ss := fun s hs => longM_le hs
    have hx : x.length ≤ 1024 := by have := hI.len hL; have := p10 h9; omega
    have hat : ∀ {H2 : Hp}, Same H H2 → ∃ dx t, H2 a = some (.ins C dx (ruF fl t)) := fun s2 => by
      obtain ⟨dx, t, _, _, ha, _⟩ := hR.same s2
      exact ⟨dx, t, ha⟩
    refine fun D nD => ⟨_, _, rfl, ?_⟩
    have s1 : Same H (upd H D (.dK [])) := same_upd nD
    have hD1 : upd H D (.dK []) D = some (.dK []) := upd_same
    generalize upd H D (.dK []) = H1 at s1 hD1
    obtain ⟨dx, t, ha⟩ := hat s1
    refine ⟨_, rfl, a, dx, _, rfl, ha, ruF_no _ _ (by decide +kernel) (by decide +kernel), _, rfl, a, fl, ss, l, rfl, hR.same s1, fun H2 s2 => ?_⟩
    refine ⟨fun m σ H3 => ∃ (j : Nat) (v5 : Option V), j + m = x.length ∧ σ = [some (.ref a), some (.str (W l)), some (.str (W (x.take j))), some (.ref D), some (oB (putM ss (l ++ x.take j))), v5] ∧ Same H H3 ∧ H3 D = some (.dK (kst ((List.range j).map fun i => tl (longM ss) (l ++ x.take i)))),
      ⟨x.length, 0, none, by omega, by rw [List.take_zero, List.append_nil, ← W_nil]; rfl, s1.trans s2, s2 _ _ hD1⟩, ?_⟩
    rintro m σ H3 ⟨j, v5, hj, rfl, s3, hD3⟩
    refine ⟨_, rfl, rfl, _, rfl, ?_⟩
    rw [oB_non]
    by_cases hlt : j < x.length
    · have hb : x[j]? = some x[j] := List.getElem?_eq_getElem hlt
      have hput := hI.at hb
      rw [hput]
      have lx : (x.take j).length ≤ 1024 := by rw [List.length_take]; omega
      have e1 : (W l).length = l.length := W_len l
      have e2 : (W (x.take j)).length = (x.take j).length := W_len _
      refine ⟨fun σ' H' => ∃ m', m' < m ∧ ∃ (j : Nat) (v5 : Option V), j + m' = x.length ∧ σ' = [some (.ref a), some (.str (W l)), some (.str (W (x.take j))), some (.ref D), some (oB (putM ss (l ++ x.take j))), v5] ∧ Same H H' ∧ H' D = some (.dK (kst ((List.range j).map fun i => tl (longM ss) (l ++ x.take i)))), fun _ _ h => h, ?_⟩
      obtain ⟨dx3, t3, ha3⟩ := hat s3
      refine ⟨_, rfl, _, rfl, _, _, rfl, rfl, by rw [e1, e2]; exact sl_len (by omega), _, rfl, a, dx3, _, rfl, ha3, a, fl, ss, rfl, hR.same s3, hn, fun s hs => Nat.le_trans (longM_le hs) (by omega), fun H4 s4 => ?_⟩
      refine ⟨l ++ x.take j, longM ss, by rw [← W_cat]; rfl, by rw [List.length_append]; omega, ?_⟩
      have hD4 := s4 _ _ hD3
      have nin : ¬ tl (longM ss) (l ++ x.take j) ∈ (List.range j).map fun i => tl (longM ss) (l ++ x.take i) := fun hm => by
        obtain ⟨i, hi, e⟩ := List.mem_map.mp hm
        have hi' := List.mem_range.mp hi
        have := hI.apart hL (Nat.le_of_lt (Nat.lt_trans hi' hlt)) (Nat.le_of_lt hlt) e
        omega
      refine ⟨_, rfl, _, rfl, D, _, rfl, DGet.k (k := .inr (W (tl (longM ss) (l ++ x.take j)))) hD4, _, rfl, iteBF (by rw [val_out nin]; rfl) ?_⟩
      refine ⟨_, rfl, _, rfl, D, _, rfl, DPut.k (k := .inr (W (tl (longM ss) (l ++ x.take j)))) hD4 (by unfold kst; rw [List.length_map, List.length_map, List.length_range]; exact sl_lt (by omega)), ?_⟩
      rw [put_out nin]
      have et : x.take (j + 1) = x.take j ++ [x[j]] := by rw [List.take_add_one, hb]; rfl
      have ek : ((List.range j).map fun i => tl (longM ss) (l ++ x.take i)) ++ [tl (longM ss) (l ++ x.take j)] = (List.range (j + 1)).map fun i => tl (longM ss) (l ++ x.take i) := by
        rw [List.range_succ, List.map_append]; rfl
      rw [ek]
      have s5 : Same H (upd H4 D (.dK (kst ((List.range (j + 1)).map fun i => tl (longM ss) (l ++ x.take i))))) := fun c o e => by
        rw [upd_ne (ne_of_none e nD)]
        exact (s3.trans s4) _ _ e
      have hD5 : upd H4 D (.dK (kst ((List.range (j + 1)).map fun i => tl (longM ss) (l ++ x.take i)))) D = some (.dK (kst ((List.range (j + 1)).map fun i => tl (longM ss) (l ++ x.take i)))) := upd_same
      generalize upd H4 D (.dK (kst ((List.range (j + 1)).map fun i => tl (longM ss) (l ++ x.take i)))) = H5 at s5 hD5
      have e3 : (W [x[j]]).length = 1 := W_len _
      refine ⟨_, rfl, _, rfl, _, _, rfl, rfl, by rw [e2, e3]; exact sl_len (by omega), ?_⟩
      rw [W_cat, ← et]
      have e4 : (W (x.take (j + 1))).length = (x.take (j + 1)).length := W_len _
      obtain ⟨dx5, t5, ha5⟩ := hat s5
      refine ⟨_, rfl, a, dx5, _, rfl, ha5, ruF_no _ _ (by decide +kernel) (by decide +kernel), _, rfl, _, rfl, _, _, rfl, rfl, by rw [e1, e4, et, List.length_append]; exact sl_len (by simp only [List.length_cons, List.length_nil]; omega), ?_⟩
      refine ⟨a, fl, ss, l ++ x.take (j + 1), by rw [← W_cat]; rfl, hR.same s5, fun H6 s6 => ?_⟩
      exact ⟨m - 1, by omega, j + 1, _, by omega, rfl, s5.trans s6, s6 _ _ hD5⟩
    · have hj' : j = x.length := by omega
      subst hj'
      rw [List.take_length, hI.end]
      exact ⟨_, rfl, k H3 s3⟩
end
end U

set_option maxRecDepth 100000
set_option maxHeartbeats 4000000
namespace U
open PySem PySem.Spec PyProof.Rows
open L2 hiding Fun CX0 E0 pass0 Fun.binds
open C8 Lx SX StX
/-- the standings that wait, and are known -/
structure Bfs (ss : List Stf) (H H2 : Hp) (q d : Addr) (ws : List (List Bool)) : Prop where
  same : Same H H2
  wait : H2 q = some (.lst (ws.map fun w => V.str (W w)))
  known : H2 d = some (.dK (kst ws))
  nodup : ws.Nodup
  short : ∀ w ∈ ws, w.length ≤ longM ss
  reach : ∀ w ∈ ws, ∃ l, Reach ss l ∧ tl (longM ss) l = w
theorem Bfs.on {ss : List Stf} {H H2 H3 : Hp} {q d : Addr} {ws : List (List Bool)} (b : Bfs ss H H2 q d ws) (s : Same H2 H3) : Bfs ss H H3 q d ws :=
  ⟨b.same.trans s, s _ _ b.wait, s _ _ b.known, b.nodup, b.short, b.reach⟩
theorem Bfs.few {ss : List Stf} {H H2 : Hp} {q d : Addr} {ws : List (List Bool)} (b : Bfs ss H H2 q d ws) : ws.length + 1 ≤ 2 ^ (longM ss + 1) := words_le b.nodup b.short
def key (s : Stf) : Str × Str := (W s.1, W [s.2])
def SortedS (ss : List Stf) : Prop := SrtO.Srtd (fun x y => SrT.lexT (key x) (key y)) ss
def spRuInit (K : PySem.W.Frag) (C : Addr) : Sp := fun vs H Q _ => ∃ (a dx s : Addr) (f : List Bool) (ps : List Addr) (kb : Addr → Stf), vs = [.ref a, .str (W f), .ref s] ∧ H a = some (.ins C dx []) ∧ Sq K H s (ps.map V.ref) ∧ StV H kb ps ∧ StOk (ps.map kb) ∧ OkR (ps.map kb) ∧ 2 ≤ f.length ∧ f.length ≤ 1000 ∧
  ∀ H' ss, (∀ b o, H b = some o → b ≠ a → H' b = some o) → ss.Perm (ps.map kb) → SortedS ss → RuAt C H' a f ss → Q .non H'
theorem pwS {qs : List Addr} {kb : Addr → Stf} (h : SrtO.Srtd (fun x y => SrT.lexT (key (kb x)) (key (kb y))) qs) : SortedS (qs.map kb) := List.pairwise_map.mpr h
section
variable {P : Program} {w : World} {K : PySem.W.Frag} {mg : Str → Option Value} {base : Heap}
theorem sc_Rule_is_endless : FnScope ["self", "waiting", "known", "at", "bit", "line", "more", "standing"] ["self"] (fnScope s_Rule_is_endless) := fnScope_by (by decide +kernel)
theorem met_is_endless {f C : Addr} {fd : FuncData} {tB : Tok} (F : C8.Fun K "is_endless" "Rule.is_endless" s_Rule_is_endless f fd) (me : Meth K C "is_endless" f) (b : Binds K fd ["self"] []) (T : Tx mg) (RT : RuT K C) (g_BITS : mg "BITS" = some (.str "01" tB))
    (c_put_in : Met P w K mg base 3 C "put_in" (spPutIn C) []) (p_longest : Prp P w K mg base 1 C "longest" (spLongest C)) (c_tail : Cal P w K mg base 1 "tail" spTail []) : Met P w K mg base 4 C "is_endless" (spEndless C) [] := by
  refine met0 RT.cl me F b sc_Rule_is_endless (fun vs H Q E h => ?_) (fun cdv A outer s H vs Q E hr h => ?_)
  · obtain ⟨_, _, _, rfl, _⟩ := h; rfl
  · obtain ⟨a, fl, ss, rfl, hR, hn, h9, hO, k⟩ := h
    refine ⟨_, (pss_cons (ps_par3 (i := 1) (j := 2) (l := 3) (by rfl) sc_Rule_is_endless.nd rfl rfl rfl (by decide) (by decide) (by decide) rfl rfl rfl (pa_cons (pe_lst (pa_cons pe_str pa_nil)) (pa_cons (pe_disp (pps_cons pe_str pe_bl pps_nil) (by rfl) (by rfl) (fun z => by cases z) (by decide)) (pa_cons pe_int pa_nil))) (by rfl))
    (pss_cons (ps_while PassesOwn.never (pt_cmpR op_lt (pv 3) (pe_callB call_len_seq (by rfl) T.b_len (by decide +kernel) (pa_cons (pv 1) pa_nil)) (nomark _))
    (pss_cons (ps_for PassesOwn.never rfl (pi_str (pe_glob (v := .str "01") (by rfl) g_BITS ⟨_, rfl⟩)) (pg_name (i := 4) sc_Rule_is_endless.nd rfl (.inl rfl))
    (pss_cons (ps_set (i := 5) sc_Rule_is_endless.nd rfl (.inl rfl) (pe_op op_add_str (pe_ix ix_list (pv 1) (pv 3) (fun _ _ => rfl)) (pv 4)))
    (pss_cons (ps_set (i := 6) sc_Rule_is_endless.nd rfl (.inl rfl) (pe_mt (pl := _) c_put_in hr (by decide) (pv 0) (pa_cons (pv 5) pa_nil)))
    (pss_cons (ps_if (pt_cmpR op_isN (pv 6) pe_non (nomark _)) (pss_one (ps_ret pe_bl)) pss_nil)
    (pss_cons (ps_set (i := 7) sc_Rule_is_endless.nd rfl (.inl rfl) (pe_c c_tail hr (by decide) rfl (pa_cons (pe_op op_add_str (pv 5) (pv 6)) (pa_cons (pe_pr p_longest hr (by decide) (pv 0)) pa_nil))))
    (pss_one (ps_if (pt_cmp (pc_dnotin (hu_of hr) (pv 7) (pv 2))) (pss_cons (ps_dput (hu_of hr) (pv 2) (pv 7) pe_bl rfl)
    (pss_one (ps_expr (pe_bm PySem.F.plainAttrs_list PySem.F.slot_list_append PySem.F.type_list_append mt_append (pv 1) (pa_cons (pv 7) pa_nil))))) pss_nil)))))))
    (pss_one (ps_aug (i := 3) sc_Rule_is_endless.nd rfl (.inl rfl) pe_int ip_add))))
    (pss_one (ps_ret pe_bl)))), ?_⟩
    have hL : ∀ s ∈ ss, s.1.length ≤ longM ss := fun s hs => longM_le hs
    have hpw := p10 h9
    have hat : ∀ {H2 : Hp}, Same H H2 → ∃ dx t, H2 a = some (.ins C dx (ruF fl t)) := fun s2 => by
      obtain ⟨dx, t, _, _, ha, _⟩ := hR.same s2
      exact ⟨dx, t, ha⟩
    refine ⟨by show 1 ≤ sizeLine; decide, fun q nq d nd => ⟨upd_same, [(.inr "", .bl true)], rfl, by decide, _, _, _, rfl, ?_⟩⟩
    have nqd : q ≠ d := fun z => by rw [← z, upd_same] at nd; cases nd
    have b0 : Bfs ss H (upd (upd (upd H q (.lst [.str ""])) d (.dK [])) d (.dK (mergeK [] [(.inr "", .bl true)]))) q d [[]] := by
      refine ⟨fun c o e => ?_, ?_, ?_, ?_, ?_, ?_⟩
      · have n1 := ne_of_none e nq
        have n2 : c ≠ d := fun z => by rw [z] at e n1; rw [upd_ne n1, e] at nd; cases nd
        rw [upd_ne n2, upd_ne n2, upd_ne n1]
        exact e
      · rw [upd_ne nqd, upd_ne nqd, upd_same, W_nil]; rfl
      · rw [upd_same, W_nil]; rfl
      · simp
      · intro w hw; rw [List.mem_singleton.mp hw]; exact Nat.zero_le _
      · intro w hw; rw [List.mem_singleton.mp hw]; exact ⟨[], .nil, by unfold tl; rw [List.drop_nil]⟩
    have nq0 : H q = none := nq
    have nd0 : H d = none := by
      cases e : H d with
      | none => rfl
      | some o => rw [upd_ne (Ne.symm nqd), e] at nd; cases nd
    generalize upd (upd (upd H q (.lst [.str ""])) d (.dK [])) d (.dK (mergeK [] [(.inr "", .bl true)])) = H1 at b0
    refine ⟨fun m σ H2 => ∃ (n : Nat) (ws : List (List Bool)) (v4 v5 v6 v7 : Option V), σ = [some (.ref a), some (.ref q), some (.ref d), some (.int n), v4, v5, v6, v7] ∧ Bfs ss H H2 q d ws ∧ n ≤ ws.length ∧ m + n = 2 ^ (longM ss + 1),
      ⟨2 ^ (longM ss + 1), 0, [[]], none, none, none, none, rfl, b0, Nat.zero_le _, by omega⟩, ?_⟩
    rintro m σ H2 ⟨n, ws, v4, v5, v6, v7, rfl, B2, hn2, hm⟩
    have few2 := B2.few
    refine ⟨_, rfl, _, rfl, q, _, rfl, .inl (SqL.of B2.wait), _, _, rfl, rfl, _, rfl, ?_⟩
    rw [List.length_map]
    by_cases hlt : n < ws.length
    · refine iteDT (by omega) ?_
      refine ⟨fun σ' H' => ∃ m', m' < m ∧ ∃ (n : Nat) (ws : List (List Bool)) (v4 v5 v6 v7 : Option V), σ' = [some (.ref a), some (.ref q), some (.ref d), some (.int n), v4, v5, v6, v7] ∧ Bfs ss H H' q d ws ∧ n ≤ ws.length ∧ m' + n = 2 ^ (longM ss + 1), fun _ _ h => h, ?_⟩
      refine ⟨_, rfl, for_it walk_str (fun i σ H3 => ∃ (ws : List (List Bool)) (v4 v5 v6 v7 : Option V), σ = [some (.ref a), some (.ref q), some (.ref d), some (.int n), v4, v5, v6, v7] ∧ Bfs ss H H3 q d ws ∧ n < ws.length) ⟨ws, _, _, _, _, rfl, B2, hlt⟩ (fun _ _ _ _ _ => trivial) ?_ ?_⟩
      · rintro i x σ H3 H3' hi ⟨ws, v4, v5, v6, v7, rfl, B3, hlt3⟩ ⟨rfl, c, hc, rfl⟩
        have e01 : ("01" : Str) = W [false, true] := by decide +kernel
        rw [e01] at hc
        obtain ⟨bb, _, rfl⟩ := W_get hc
        have hw : (ws.map fun w => V.str (W w))[n]? = some (.str (W ws[n])) := by rw [List.getElem?_map, List.getElem?_eq_getElem hlt3]; rfl
        have hmem : ws[n] ∈ ws := List.getElem_mem hlt3
        generalize ws[n] = w0 at hw hmem
        have hs0 := B3.short _ hmem
        have few3 := B3.few
        obtain ⟨l0, hr0, rfl⟩ := B3.reach _ hmem
        obtain ⟨y, hy⟩ := hO l0 hr0 bb
        have ht0 : tl (longM ss) l0 = tl (longM ss) (tl (longM ss) l0) := (tl_tl (Nat.le_refl _) _).symm
        have hy' := hy.tl hL (tl_snoc (b := bb) ht0)
        have hyl := hy.len hL
        have hnx : tl (longM ss) (l0 ++ [bb] ++ y) = tl (longM ss) (tl (longM ss) l0 ++ [bb] ++ y) := tl_app (tl_snoc (b := bb) ht0) y
        have hrn : Reach ss (l0 ++ [bb] ++ y) := .next hr0 hy
        generalize tl (longM ss) l0 = w0 at *
        have ew : W w0 ++ (⟨#[bt bb]⟩ : Str) = W (w0 ++ [bb]) := W_cat w0 [bb]
        have el : (W w0).length + (⟨#[bt bb]⟩ : Str).length ≤ sizeLine := by
          have e1 : (W w0).length = w0.length := W_len _
          have e2 : (⟨#[bt bb]⟩ : Str).length = 1 := W_len [bb]
          rw [e1, e2]; exact sl_len (by omega)
        refine ⟨_, rfl, _, rfl, q, _, _, _, rfl, rfl, SqL.of B3.wait, atI_nat hw, _, rfl, _, _, rfl, rfl, el, ?_⟩
        rw [ew]
        obtain ⟨dx3, t3, ha3⟩ := hat B3.same
        have hl1 : (w0 ++ [bb]).length ≤ 10 := by rw [List.length_append, List.length_cons, List.length_nil]; omega
        refine ⟨_, rfl, a, dx3, _, rfl, ha3, ruF_no _ _ (by decide +kernel) (by decide +kernel), _, rfl, a, fl, ss, w0 ++ [bb], y, rfl, hR.same B3.same, hn, h9, by omega, hy', fun H4 s4 => ?_⟩
        have B4 := B3.on s4
        refine ⟨_, rfl, rfl, _, rfl, iteDF (fun z => by cases z) ?_⟩
        obtain ⟨dx4, t4, ha4⟩ := hat B4.same
        have e3 : (W (w0 ++ [bb])).length = (w0 ++ [bb]).length := W_len _
        have e4 : (W y).length = y.length := W_len _
        refine ⟨_, rfl, _, rfl, _, _, rfl, rfl, by rw [e3, e4]; exact sl_len (by omega), _, rfl, a, dx4, _, rfl, ha4, a, fl, ss, rfl, hR.same B4.same, hn, fun s hs => Nat.le_trans (longM_le hs) (by omega), fun H5 s5 => ?_⟩
        have B5 := B4.on s5
        refine ⟨w0 ++ [bb] ++ y, longM ss, by rw [← W_cat (w0 ++ [bb]) y]; rfl, by rw [List.length_append]; omega, ?_⟩
        refine ⟨_, rfl, _, rfl, d, _, rfl, DGet.k (k := .inr (W (tl (longM ss) (w0 ++ [bb] ++ y)))) B5.known, _, rfl, ?_⟩
        by_cases hin : tl (longM ss) (w0 ++ [bb] ++ y) ∈ ws
        · refine iteBF (by rw [val_in hin]; rfl) ?_
          exact ⟨ws, _, _, _, _, rfl, B5, hlt3⟩
        · refine iteBT (by rw [val_out hin]; rfl) ?_
          refine ⟨_, rfl, _, rfl, d, _, rfl, DPut.k (k := .inr (W (tl (longM ss) (w0 ++ [bb] ++ y)))) B5.known (by unfold kst; rw [List.length_map]; exact sl_lt (by omega)), ?_⟩
          rw [put_out hin]
          have hW6 : upd H5 d (.dK (kst (ws ++ [tl (longM ss) (w0 ++ [bb] ++ y)]))) q = some (.lst (ws.map fun w => V.str (W w))) := by rw [upd_ne nqd]; exact B5.wait
          refine ⟨_, rfl, .inl ⟨rfl, _, SqL.of hW6⟩, _, rfl, q, _, _, rfl, rfl, hW6, by rw [List.length_map]; exact sl_lt (by omega), ?_⟩
          refine ⟨ws ++ [tl (longM ss) (w0 ++ [bb] ++ y)], _, _, _, _, rfl, ⟨fun c o e => ?_, ?_, ?_, ?_, ?_, ?_⟩, ?_⟩
          · rw [upd_ne (ne_of_none e nq0), upd_ne (ne_of_none e nd0)]
            exact B5.same _ _ e
          · rw [upd_same, List.map_append]; rfl
          · rw [upd_ne (Ne.symm nqd), upd_same]
          · rw [List.nodup_append]
            refine ⟨B5.nodup, by simp, fun u hu v hv e => ?_⟩
            rw [List.mem_singleton.mp hv] at e
            exact hin (e ▸ hu)
          · intro u hu
            rcases List.mem_append.mp hu with m | m
            · exact B5.short _ m
            · rw [List.mem_singleton.mp m]; exact tl_le _ _
          · intro u hu
            rcases List.mem_append.mp hu with m | m
            · exact B5.reach _ m
            · rw [List.mem_singleton.mp m]; exact ⟨_, hrn, hnx⟩
          · rw [List.length_append]; omega
      · rintro σ H3 ⟨ws, v4, v5, v6, v7, rfl, B3, hlt3⟩
        refine ⟨_, rfl, _, _, rfl, rfl, ?_⟩
        refine ⟨m - 1, by omega, n + 1, ws, _, _, _, _, rfl, B3, hlt3, by omega⟩
    · refine iteDF (by omega) ?_
      exact k H2 B2.same
theorem sc_Rule_init : FnScope ["self", "flag", "stuffs"] ["self", "flag", "stuffs"] (fnScope s_Rule_init) := fnScope_by (by decide +kernel)
theorem ok_Rule_init {f C : Addr} {fd : FuncData} (F : C8.Fun K "__init__" "Rule.__init__" s_Rule_init f fd) (T : Tx mg) (RT : RuT K C) (c_is_word : Cal P w K mg base 1 "is_word" (spIsWord K) []) (c_are_stuffs : Cal P w K mg base 4 "are_stuffs" (spAre K) []) (c_is_endless : Met P w K mg base 4 C "is_endless" (spEndless C) []) :
    FnOk P w K mg base CX0 5 f fd ["self", "flag", "stuffs"] (spRuInit K C) := by
  refine fn0 F sc_Rule_init (fun vs H Q E h => ?_) (fun cdv A outer s H vs Q E hr h => ?_)
  · obtain ⟨_, _, _, _, _, _, rfl, _⟩ := h; rfl
  · obtain ⟨a, dx, sq, fl, ps, kb, rfl, ha, hS, hs, ok, hO, h2, hl, k⟩ := h
    refine ⟨_, (pss_cons (ps_if (PW.pt (pw_or (pt_not (pt_val (pe_c c_is_word hr (by decide) rfl (pa_cons (pv 1) pa_nil)))) (pw_or1 (pt_cmpR op_lt (pe_callB call_len_str (by rfl) T.b_len (by decide +kernel) (pa_cons (pv 1) pa_nil)) pe_int (nomark _))))) (pss_one ps_never) pss_nil)
    (pss_cons (ps_if (pt_not (pt_val (pe_c c_are_stuffs hr (by decide) rfl (pa_cons (pv 2) pa_nil)))) (pss_one ps_never) pss_nil)
    (pss_cons (ps_fld (pv 0) (pv 1) rfl)
    (pss_cons (ps_fld (pv 0) (pe_callTy call_tuple_of (by rfl) T.b_tuple (by decide +kernel) (pa_cons (pe_callB cr_sortedT (by rfl) T.b_sorted (by decide +kernel) (pa_cons (pv 2) pa_nil)) pa_nil)) rfl)
    (pss_one (ps_if (pt_val (pe_mt0 (pl := _) c_is_endless hr (by decide) (pv 0))) (pss_one ps_never) pss_nil)))))), ?_⟩
    have lf : (W fl).length = fl.length := W_len fl
    refine ⟨_, rfl, _, rfl, .inl ⟨_, rfl, by rw [lf]; omega, fun H1 s1 => ⟨_, rfl, iteBF (by rw [isW_W]; rfl) ?_⟩⟩⟩
    refine ⟨_, rfl, _, rfl, by rw [lf]; exact sl_len (by omega), _, _, rfl, rfl, _, rfl, iteDF (by rw [lf]; omega) ?_⟩
    refine ⟨_, rfl, sq, ps, kb, rfl, hS.same s1, hs.same s1, ok, fun H2 s2 => ⟨_, rfl, ?_⟩⟩
    have s02 := s1.trans s2
    have ha2 := s02 _ _ ha
    refine ⟨_, rfl, _, rfl, a, C, dx, _, rfl, ha2, RT.cl, RT.nF, by decide, ?_⟩
    have keep3 : ∀ c o, H c = some o → c ≠ a → upd H2 a (.ins C dx (putF "flag" (.str (W fl)) [])) c = some o := fun c o e n => by rw [upd_ne n]; exact s02 _ _ e
    have ha3 : upd H2 a (.ins C dx (putF "flag" (.str (W fl)) [])) a = some (.ins C dx (putF "flag" (.str (W fl)) [])) := upd_same
    have hs3 : StV (upd H2 a (.ins C dx (putF "flag" (.str (W fl)) []))) kb ps := fun t ht => keep3 _ _ (hs t ht) (ne_of (hs t ht) ha (by intro z; cases z))
    have hS3 : SqL K (upd H2 a (.ins C dx (putF "flag" (.str (W fl)) []))) sq (ps.map V.ref) ∨ SqT K (upd H2 a (.ins C dx (putF "flag" (.str (W fl)) []))) sq (ps.map V.ref) := by
      rcases hS with ((h | ⟨o, h⟩) | h) | ((h | ⟨o, h⟩) | h)
      · exact .inl (.inl (.inl (keep3 _ _ h (ne_of h ha (by intro z; cases z)))))
      · exact .inl (.inl (.inr ⟨o, keep3 _ _ h (ne_of h ha (by intro z; cases z))⟩))
      · exact .inl (.inr h)
      · exact .inr (.inl (.inl (keep3 _ _ h (ne_of h ha (by intro z; cases z)))))
      · exact .inr (.inl (.inr ⟨o, keep3 _ _ h (ne_of h ha (by intro z; cases z))⟩))
      · exact .inr (.inr h)
    generalize upd H2 a (.ins C dx (putF "flag" (.str (W fl)) [])) = H3 at keep3 ha3 hs3 hS3
    refine ⟨_, rfl, sq, ps, fun t => key (kb t), rfl, hS3, fun t ht => hs3 t ht, fun qs p1 srt prm n1 => ?_⟩
    refine ⟨p1, _, rfl, .inl ⟨SqL.of upd_same, fun p2 n2 => ?_⟩⟩
    have s5 : Same H3 (upd (upd H3 p1 (.lst (qs.map V.ref))) p2 (.tup (qs.map V.ref))) := (same_upd n1).trans (same_upd n2)
    have hT5 : upd (upd H3 p1 (.lst (qs.map V.ref))) p2 (.tup (qs.map V.ref)) p2 = some (.tup (qs.map V.ref)) := upd_same
    generalize upd (upd H3 p1 (.lst (qs.map V.ref))) p2 (.tup (qs.map V.ref)) = H5 at s5 hT5
    have ha5 := s5 _ _ ha3
    refine ⟨_, rfl, a, C, dx, _, rfl, ha5, RT.cl, RT.nS, by show 1 < 1000; decide, ?_⟩
    have na2 : p2 ≠ a := ne_of hT5 ha5 (by intro z; cases z)
    have keep6 : ∀ c o, H3 c = some o → c ≠ a → upd H5 a (.ins C dx (putF "stuffs" (.ref p2) (putF "flag" (.str (W fl)) []))) c = some o := fun c o e n => by rw [upd_ne n]; exact s5 _ _ e
    have ha6 : upd H5 a (.ins C dx (putF "stuffs" (.ref p2) (putF "flag" (.str (W fl)) []))) a = some (.ins C dx (ruF fl p2)) := upd_same
    have hT6 : upd H5 a (.ins C dx (putF "stuffs" (.ref p2) (putF "flag" (.str (W fl)) []))) p2 = some (.tup (qs.map V.ref)) := by rw [upd_ne na2]; exact hT5
    generalize upd H5 a (.ins C dx (putF "stuffs" (.ref p2) (putF "flag" (.str (W fl)) []))) = H6 at keep6 ha6 hT6
    have hs6 : StV H6 kb qs := StV.perm (fun t ht => keep6 _ _ (hs3 t ht) (ne_of (hs3 t ht) ha3 (by intro z; cases z))) prm
    have pm : (qs.map kb).Perm (ps.map kb) := prm.map kb
    have hR6 : RuAt C H6 a fl (qs.map kb) := ⟨dx, p2, qs, kb, ha6, hT6, hs6, rfl⟩
    have ok6 := ok.perm pm.symm
    refine ⟨_, rfl, a, dx, _, rfl, ha6, ruF_no _ _ (by decide +kernel) (by decide +kernel), a, fl, qs.map kb, rfl, hR6, ok6.few, ok6.long, hO.congr fun l => put_perm ok.free pm.symm l, fun H7 s7 => ⟨_, rfl, ?_⟩⟩
    exact k H7 (qs.map kb) (fun c o e n => s7 _ _ (keep6 _ _ (keep3 _ _ e n) n)) pm (pwS srt) (hR6.same s7)
end
end U


set_option maxRecDepth 100000
set_option maxHeartbeats 4000000
namespace U
open PySem PySem.Spec PyProof.Rows
open L2 hiding Fun CX0 E0 pass0 Fun.binds
open C8 Lx SX StX
/-- a rule as the law tells it -/
def Told (H : Hp) (t : Addr) (f : List Bool) (ss : List Stf) : Prop := ∃ l ps kb, H t = some (.tup [.str (W f), .ref l]) ∧ H l = some (.lst (ps.map V.ref)) ∧ StV H kb ps ∧ ss = ps.map kb
theorem Told.same {H H' : Hp} {t : Addr} {f : List Bool} {ss : List Stf} (h : Told H t f ss) (e : Same H H') : Told H' t f ss := by
  obtain ⟨l, ps, kb, h1, h2, h3, h4⟩ := h
  exact ⟨l, ps, kb, e _ _ h1, e _ _ h2, h3.same e, h4⟩
theorem refs_ne {ps : List Addr} {i j : Int} : ps.map V.ref ≠ [.int i, .int j] := fun z => by
  cases ps with
  | nil => cases z
  | cons p r => cases (List.cons.inj z).1
theorem Box.neL {H : Hp} {b l : Addr} {ps : List Addr} (hb : Box H b) (h : H l = some (.lst (ps.map V.ref))) : l ≠ b := fun z => by
  obtain ⟨i, j, hb⟩ := hb
  rw [z, hb] at h
  exact refs_ne (HO.lst.inj (Option.some.inj h)).symm
theorem Told.up {b : Addr} {H H' : Hp} {t : Addr} {f : List Bool} {ss : List Stf} (hb : Box H b) (h : Told H t f ss) (e : Up b H H') : Told H' t f ss := by
  obtain ⟨l, ps, kb, h1, h2, h3, h4⟩ := h
  exact ⟨l, ps, kb, e.1 _ _ h1 (hb.neT h1), e.1 _ _ h2 (hb.neL h2), fun t ht => e.1 _ _ (h3 t ht) (hb.neT (h3 t ht)), h4⟩
theorem RuAt.up {C b : Addr} {H H' : Hp} {a : Addr} {f : List Bool} {ss : List Stf} (hb : Box H b) (h : RuAt C H a f ss) (e : Up b H H') : RuAt C H' a f ss := h.nl (e.nl hb)
def putL (ss : List Stf) (l : List Bool) : List Bool := match putM ss l with
  | none => []
  | some b => [b]
theorem putL_len (ss : List Stf) (l : List Bool) : (putL ss l).length ≤ 1 := by unfold putL; cases putM ss l <;> simp
theorem stP_eq (ss : List Stf) (l : List Bool) : stP ss l = l ++ putL ss l := by
  unfold stP putL
  cases putM ss l with
  | none => rw [List.append_nil]
  | some b => rfl
theorem putL_head {ss : List Stf} {l : List Bool} : putM ss l = ((ss.filter fun s => s.1.isSuffixOf l).map (·.2)).head? := by
  unfold putM
  rw [List.head?_map, List.head?_filter]
def dS (x : List Bool) : PyData := .str (W x)
theorem dp_strs {K : PySem.W.Frag} {H : Hp} : ∀ xs : List (List Bool), DpAll K H (xs.map fun x => V.str (W x)) (xs.map dS)
  | [] => .nil
  | x :: r => .cons (.str _) (dp_strs r)
theorem strOk_W (x : List Bool) : PyData.strOk (W x) = true := by
  unfold PyData.strOk
  simp only [W, S, List.all_toArray, List.all_map, List.all_eq_true]
  intro b _
  cases b <;> decide +kernel
/-- data that can be compared -/
def DOk (n : Nat) (d : PyData) : Prop := PyData.canLay0 d = true ∧ PyData.depth d ≤ n
theorem dok_str (x : List Bool) : DOk 0 (.str (W x)) := ⟨strOk_W x, Nat.le_refl _⟩
theorem dok_all {n : Nat} : ∀ {ds : List PyData}, (∀ d ∈ ds, DOk n d) → PyData.canLayAll0 ds = true ∧ PyData.depthAll ds ≤ n
  | [], _ => ⟨rfl, Nat.zero_le _⟩
  | d :: r, h => by
    have h1 := h d List.mem_cons_self
    have h2 := dok_all (ds := r) fun d hd => h d (List.mem_cons_of_mem _ hd)
    refine ⟨?_, ?_⟩
    · show (PyData.canLay0 d && PyData.canLayAll0 r) = true
      rw [h1.1, h2.1]; rfl
    · show max (PyData.depth d) (PyData.depthAll r) ≤ n
      have := h1.2; have := h2.2; omega
theorem dok_list {n : Nat} {ds : List PyData} (h : ∀ d ∈ ds, DOk n d) : DOk (n + 1) (.list ds) := ⟨(dok_all h).1, Nat.succ_le_succ (dok_all h).2⟩
theorem dok_tup {n : Nat} {ds : List PyData} (h : ∀ d ∈ ds, DOk n d) : DOk (n + 1) (.tuple ds) := ⟨(dok_all h).1, Nat.succ_le_succ (dok_all h).2⟩
theorem DOk.shaped {n : Nat} {d : PyData} (h : DOk n d) (hn : n ≤ 64) : SeqAt.shaped d = true := by
  unfold SeqAt.shaped
  rw [h.1, decide_eq_true (Nat.le_trans h.2 hn)]
  rfl
theorem shaped_strs (xs : List (List Bool)) : SeqAt.shaped (.list (xs.map dS)) = true := (dok_list (n := 0) fun d hd => by
  obtain ⟨x, _, rfl⟩ := List.mem_map.mp hd
  exact dok_str x).shaped (by decide)
theorem shaped_nil : SeqAt.shaped (.list []) = true := by decide +kernel
theorem eqv_nil (ds : List PyData) : PyData.eqv (.list ds) (.list []) = ds.isEmpty := by cases ds <;> rfl
end U

set_option maxRecDepth 100000
set_option maxHeartbeats 4000000
namespace U
open PySem PySem.Spec PyProof.Rows
open L2 hiding Fun CX0 E0 pass0 Fun.binds
open C8 Lx SX
/-- where f begins in l first -/
def posM (l f : List Bool) : Option Nat := (List.range (l.length + 1)).find? fun i => f.isPrefixOf (l.drop i)
theorem posM_some {l f : List Bool} {i : Nat} : posM l f = some i ↔ (i ≤ l.length ∧ f <+: l.drop i ∧ ∀ k, k < i → ¬ f <+: l.drop k) := by
  unfold posM
  rw [List.find?_range_eq_some, List.isPrefixOf_iff_prefix]
  constructor
  · rintro ⟨h1, h2, h3⟩
    refine ⟨by have := List.mem_range.mp h2; omega, h1, fun k hk z => ?_⟩
    have := h3 k hk
    rw [List.isPrefixOf_iff_prefix.mpr z] at this
    cases this
  · rintro ⟨h1, h2, h3⟩
    refine ⟨h2, List.mem_range.mpr (by omega), fun k hk => ?_⟩
    cases e : f.isPrefixOf (l.drop k) with
    | false => rfl
    | true => exact absurd (List.isPrefixOf_iff_prefix.mp e) (h3 k hk)
theorem posM_none {l f : List Bool} : posM l f = none ↔ ∀ i, i ≤ l.length → ¬ f <+: l.drop i := by
  unfold posM
  rw [List.find?_eq_none]
  constructor
  · intro h i hi z
    exact h i (List.mem_range.mpr (by omega)) (List.isPrefixOf_iff_prefix.mpr z)
  · intro h i hi z
    exact h i (by have := List.mem_range.mp hi; omega) (List.isPrefixOf_iff_prefix.mp z)
theorem at_W {l f : List Bool} {i : Nat} : StrLaws.At (W l) (W f) (W l).length i ↔ (i ≤ l.length ∧ f <+: l.drop i) := by
  unfold StrLaws.At
  rw [StrLaws.subAt_eq, W_len, W_len, W_tl, W_tl, ← List.map_drop, ← List.map_take, beq_iff_eq]
  constructor
  · rintro ⟨h1, h2⟩
    refine ⟨by omega, List.prefix_iff_eq_take.mpr (map_bt_inj h2).symm⟩
  · rintro ⟨h1, h2⟩
    have hl := h2.length_le
    rw [List.length_drop] at hl
    exact ⟨by omega, by rw [← List.prefix_iff_eq_take.mp h2]⟩
theorem occ_none {l f : List Bool} (h : posM l f = none) : Builtin.Str.occurrences (W l) (W f) 0 (W l).length 1 = [] := by
  rcases StrLaws.occ_head (W l) (W f) 1 (Nat.le_refl _) with ⟨h1, _⟩ | ⟨i, r, _, h2, _⟩
  · exact h1
  · obtain ⟨h3, h4⟩ := at_W.mp h2
    exact absurd h4 (posM_none.mp h i h3)
theorem occ_some {l f : List Bool} {i : Nat} (h : posM l f = some i) : ∃ r, Builtin.Str.occurrences (W l) (W f) 0 (W l).length 1 = i :: r := by
  obtain ⟨p1, p2, p3⟩ := posM_some.mp h
  rcases StrLaws.occ_head (W l) (W f) 1 (Nat.le_refl _) with ⟨_, h2⟩ | ⟨j, r, h1, h2, h3⟩
  · exact absurd (at_W.mpr ⟨p1, p2⟩) (h2 i)
  · obtain ⟨q1, q2⟩ := at_W.mp h2
    have e : j = i := by
      rcases Nat.lt_trichotomy i j with c | c | c
      · exact absurd (at_W.mpr ⟨p1, p2⟩) (h3 i c)
      · exact c.symm
      · exact absurd q2 (p3 j c)
    subst e
    exact ⟨r, h1⟩
theorem find_W {l f : List Bool} {i : Nat} (h : posM l f = some i) : Txt.find (W l) (W f) = (i : Int) := by
  obtain ⟨r, e⟩ := occ_some h
  unfold Txt.find
  rw [e]
theorem posM_end (l f : List Bool) : ∃ i, posM (l ++ f) f = some i ∧ i ≤ l.length := by
  cases e : posM (l ++ f) f with
  | none =>
    refine absurd ?_ (posM_none.mp e l.length (by rw [List.length_append]; omega))
    rw [List.drop_left]
    exact List.prefix_refl _
  | some i =>
    refine ⟨i, rfl, ?_⟩
    obtain ⟨_, _, h3⟩ := posM_some.mp e
    rcases Nat.lt_or_ge l.length i with c | c
    · refine absurd ?_ (h3 _ c)
      rw [List.drop_left]
      exact List.prefix_refl _
    · exact c
end U

set_option maxRecDepth 100000
namespace U
theorem nodup1 {α : Type} (a : α) : [a].Nodup := by simp
theorem tl_nil (w : Nat) : tl w [] = [] := by unfold tl; simp
/-! flags in lines -/
/-- a flag ahead of the one at the end -/
def SpL (f l : List Bool) : Prop := ∃ i, i < l.length ∧ f <+: (l ++ f).drop i
theorem posM_sp {f l : List Bool} : posM (l ++ f) f = some l.length ↔ ¬ SpL f l := by
  constructor
  · intro h ⟨i, hi, hp⟩
    exact (posM_some.mp h).2.2 i hi hp
  · intro h
    refine posM_some.mpr ⟨by rw [List.length_append]; omega, by rw [List.drop_left]; exact List.prefix_refl _, fun k hk hp => h ⟨k, hk, hp⟩⟩
theorem pre_cut {f a r : List Bool} {i : Nat} (h : f <+: (a ++ r).drop i) (hi : i + f.length ≤ a.length) : f <+: a.drop i := by
  rw [List.prefix_iff_eq_take] at h ⊢
  rw [List.drop_append_of_le_length (by omega), List.take_append_of_le_length (by rw [List.length_drop]; omega)] at h
  exact h
theorem pre_ext {f a r : List Bool} {i : Nat} (h : f <+: a.drop i) (hi : i ≤ a.length) : f <+: (a ++ r).drop i := by
  rw [List.drop_append_of_le_length hi]
  exact h.trans (List.prefix_append _ _)
theorem drop_add' (u v : List Bool) (j : Nat) : (u ++ v).drop (u.length + j) = v.drop j := by
  rw [← List.drop_drop, List.drop_left]
/-- f stands in l -/
def infx (f l : List Bool) : Bool := (posM l f).isSome
theorem infx_iff {f l : List Bool} : infx f l = true ↔ ∃ i, i ≤ l.length ∧ f <+: l.drop i := by
  unfold infx
  cases e : posM l f with
  | none =>
    constructor
    · intro h; cases h
    · rintro ⟨i, hi, hp⟩
      exact absurd hp (posM_none.mp e i hi)
  | some i =>
    obtain ⟨h1, h2, _⟩ := posM_some.mp e
    exact ⟨fun _ => ⟨i, h1, h2⟩, fun _ => rfl⟩
theorem infx_false {f l : List Bool} : infx f l = false ↔ ∀ i, i ≤ l.length → ¬ f <+: l.drop i := by
  rw [← Bool.not_eq_true, infx_iff]
  constructor
  · intro h i hi hp; exact h ⟨i, hi, hp⟩
  · rintro h ⟨i, hi, hp⟩; exact h i hi hp
def bordM (f l : List Bool) : Bool := decide (posM (l ++ f) f = some l.length)
theorem bordM_iff {f l : List Bool} : bordM f l = true ↔ ¬ SpL f l := by
  unfold bordM
  rw [decide_eq_true_iff]
  exact posM_sp
theorem tl_split (n : Nat) (l : List Bool) : l = l.take (l.length - n) ++ tl n l := by unfold tl; rw [List.take_append_drop]
theorem SpL.infx {f l : List Bool} (hf : f ≠ []) (h : U.infx f l = true) : SpL f l := by
  obtain ⟨i, hi, hp⟩ := infx_iff.mp h
  have := hp.length_le
  rw [List.length_drop] at this
  have h0 : 0 < f.length := List.length_pos_iff.mpr hf
  exact ⟨i, by omega, pre_ext hp hi⟩
theorem sp_front {f u v : List Bool} (h : SpL f v) : SpL f (u ++ v) := by
  obtain ⟨i, hi, hp⟩ := h
  refine ⟨u.length + i, by rw [List.length_append]; omega, ?_⟩
  rw [List.append_assoc, drop_add']
  exact hp
/-- the test of one step -/
theorem sp_step {f l st y : List Bool} {w : Nat} (hf : f ≠ []) (hw : f.length ≤ w + 1) (hst : st = tl w l) (hl : ¬ SpL f l) : SpL f (l ++ y) ↔ (infx f (st ++ y) = true ∨ SpL f (tl w (st ++ y))) := by
  have h0 : 0 < f.length := List.length_pos_iff.mpr hf
  have el := tl_split w l
  rw [← hst] at el
  generalize hu : l.take (l.length - w) = u at el
  have lu : u.length = l.length - w := by rw [← hu, List.length_take]; omega
  have ly : l ++ y = u ++ (st ++ y) := by rw [← List.append_assoc, ← el]
  have lst : st.length = min w l.length := by rw [hst, tl_len]
  constructor
  · rintro ⟨i, hi, hp⟩
    by_cases c : i + f.length ≤ (l ++ y).length
    · left
      have h1 := pre_cut hp c
      by_cases c2 : i + f.length ≤ l.length
      · exfalso
        have h2 := pre_cut h1 c2
        exact hl ⟨i, by omega, pre_ext h2 (by omega)⟩
      · have hiu : u.length ≤ i := by omega
        refine infx_iff.mpr ⟨i - u.length, by rw [List.length_append] at hi ⊢; omega, ?_⟩
        rw [ly, show i = u.length + (i - u.length) by omega, drop_add'] at h1
        exact h1
    · right
      -- the line's last bits
      have e2 := tl_split w (st ++ y)
      generalize hv : (st ++ y).take ((st ++ y).length - w) = v at e2
      have lv : v.length = (st ++ y).length - w := by rw [← hv, List.length_take]; omega
      have e3 : l ++ y = (u ++ v) ++ tl w (st ++ y) := by rw [List.append_assoc, ← e2]; exact ly
      have l3 : (l ++ y).length = u.length + v.length + (tl w (st ++ y)).length := by rw [e3, List.length_append, List.length_append]
      have l4 : (tl w (st ++ y)).length = min w (st ++ y).length := tl_len _ _
      have l5 : (st ++ y).length = st.length + y.length := List.length_append
      have l6 : (l ++ y).length = l.length + y.length := List.length_append
      refine ⟨i - (u ++ v).length, ?_, ?_⟩
      · rw [List.length_append]; omega
      · have hge : (u ++ v).length ≤ i := by rw [List.length_append]; omega
        rw [e3, List.append_assoc, show i = (u ++ v).length + (i - (u ++ v).length) by omega, drop_add'] at hp
        exact hp
  · rintro (h | h)
    · rw [ly]
      exact sp_front (SpL.infx hf h)
    · have e2 := tl_split w (st ++ y)
      rw [ly, e2, ← List.append_assoc]
      exact sp_front h
/-! the walk over standings -/
def wid (ss : List Stf) (f : List Bool) : Nat := max (ss.foldr (fun s m => max s.1.length m) 0) f.length - 1
def edge (ss : List Stf) (f : List Bool) (w : Nat) (st : List Bool) (b : Bool) : Option (List Bool) :=
  if infx f (itP ss 40 (st ++ [b])) || !bordM f (tl w (itP ss 40 (st ++ [b]))) then none else some (tl w (itP ss 40 (st ++ [b])))
theorem bodyF_snoc (ss : List Stf) (m : List Bool) (b : Bool) : bodyF ss (m ++ [b]) = itP ss 40 (bodyF ss m ++ [b]) := by unfold bodyF; rw [List.foldl_append]; rfl
theorem ins40 {ss : List Stf} (o : OkN 39 ss) (m : List Bool) (b : Bool) : ∃ x, Ins ss (bodyF ss m ++ [b]) x ∧ x.length ≤ 39 ∧ bodyF ss (m ++ [b]) = bodyF ss m ++ [b] ++ x := by
  obtain ⟨x, hx, hl⟩ := o _ (body_ex o m).reach b
  refine ⟨x, hx, hl, ?_⟩
  rw [bodyF_snoc, hx.itP, List.take_of_length_le (by omega)]
/-- the standing of a message -/
def stand (ss : List Stf) (w : Nat) (m : List Bool) : List Bool := tl w (bodyF ss m)
theorem edge_at {ss : List Stf} {f : List Bool} {w : Nat} (o : OkN 39 ss) (hf : f ≠ []) (hw : f.length ≤ w + 1) (hL : ∀ s ∈ ss, s.1.length ≤ w + 1) {m : List Bool} (hm : ¬ SpL f (bodyF ss m)) (b : Bool) :
    (∃ x, Ins ss (stand ss w m ++ [b]) x ∧ x.length ≤ 39 ∧ itP ss 40 (stand ss w m ++ [b]) = stand ss w m ++ [b] ++ x) ∧
    (SpL f (bodyF ss (m ++ [b])) → edge ss f w (stand ss w m) b = none) ∧ (¬ SpL f (bodyF ss (m ++ [b])) → edge ss f w (stand ss w m) b = some (stand ss w (m ++ [b]))) := by
  obtain ⟨x, hx, hl, eb⟩ := ins40 o m b
  have et : tl (w + 1) (bodyF ss m ++ [b]) = tl (w + 1) (stand ss w m ++ [b]) := by
    rw [tl_snoc0, tl_snoc0]
    unfold stand
    rw [tl_tl (Nat.le_refl w)]
  have hx2 : Ins ss (stand ss w m ++ [b]) x := hx.tl hL et
  have e40 : itP ss 40 (stand ss w m ++ [b]) = stand ss w m ++ [b] ++ x := by rw [hx2.itP, List.take_of_length_le (by omega)]
  have key := sp_step (y := [b] ++ x) hf hw (show stand ss w m = tl w (bodyF ss m) from rfl) hm
  rw [← List.append_assoc, ← List.append_assoc] at key
  have etl : tl w (stand ss w m ++ [b] ++ x) = stand ss w (m ++ [b]) := by
    unfold stand
    rw [eb, List.append_assoc, List.append_assoc]
    exact tl_app (tl_tl (Nat.le_refl w) _) _
  refine ⟨⟨x, hx2, hl, e40⟩, fun h => ?_, fun h => ?_⟩
  · rw [eb] at h
    unfold edge
    rw [e40]
    rcases key.mp h with h1 | h1
    · rw [h1]; rfl
    · have : bordM f (tl w (stand ss w m ++ [b] ++ x)) = false := by
        rw [← Bool.not_eq_true, bordM_iff]
        exact fun z => z h1
      rw [this, Bool.not_false, Bool.or_true]
      rfl
  · rw [eb] at h
    unfold edge
    rw [e40]
    have h1 : infx f (stand ss w m ++ [b] ++ x) = false := by
      rw [← Bool.not_eq_true]
      exact fun z => h (key.mpr (.inl z))
    have h2 : bordM f (tl w (stand ss w m ++ [b] ++ x)) = true := bordM_iff.mpr fun z => h (key.mpr (.inr z))
    rw [h1, h2, etl]
    rfl
/-- a word as a number -/
def num (m : List Bool) : Nat := m.foldl (fun n b => 2 * n + (if b then 1 else 0)) 0
theorem num_snoc (m : List Bool) (b : Bool) : num (m ++ [b]) = 2 * num m + (if b then 1 else 0) := by unfold num; rw [List.foldl_append]; rfl
/-- how things stand ahead of a layer -/
structure WkL (ss : List Stf) (f : List Bool) (w n : Nat) (kn : List (List Bool)) (ly : List (List Bool × List Bool)) : Prop where
  a : ∀ m, m.length ≤ n → ¬ SpL f (bodyF ss m)
  nd : kn.Nodup
  sh : ∀ t ∈ kn, t.length ≤ w
  g : ∀ t ∈ kn, ∃ m, m.length ≤ n ∧ t = stand ss w m
  nil : [] ∈ kn
  l1 : ∀ p ∈ ly, p.1.length = n ∧ p.2 = stand ss w p.1 ∧ p.2 ∈ kn
  srt : ly.Pairwise fun p q => num p.1 < num q.1
  d : ∀ t ∈ kn, (∃ p ∈ ly, p.2 = t) ∨ ∀ b, ∃ u ∈ kn, edge ss f w t b = some u
  e : ∀ m, m.length = n → (∀ b, ∃ u ∈ kn, edge ss f w (stand ss w m) b = some u) ∨ ∃ p ∈ ly, p.2 = stand ss w m ∧ num p.1 ≤ num m
def Dn (ly : List (List Bool × List Bool)) (i : Nat) (c : Bool) (p : List Bool × List Bool) (b : Bool) : Prop := p ∈ ly.take i ∨ (c = true ∧ ly[i]? = some p ∧ b = false)
/-- within a layer: the edges of the first i are done, and the first one of the next if c -/
structure WkE (ss : List Stf) (f : List Bool) (w n : Nat) (k0 : List (List Bool)) (ly : List (List Bool × List Bool)) (i : Nat) (c : Bool) (kn : List (List Bool)) (lt : List (List Bool × List Bool)) : Prop where
  nd : kn.Nodup
  sh : ∀ t ∈ kn, t.length ≤ w
  g : ∀ t ∈ kn, ∃ m, m.length ≤ n + 1 ∧ t = stand ss w m
  sub : ∀ t ∈ k0, t ∈ kn
  app : kn.length = k0.length + lt.length
  l1 : ∀ p ∈ lt, p.1.length = n + 1 ∧ p.2 = stand ss w p.1 ∧ p.2 ∈ kn
  srt : lt.Pairwise fun p q => num p.1 < num q.1
  ltd : ∀ p ∈ lt, ∃ q b, Dn ly i c q b ∧ p.1 = q.1 ++ [b]
  new : ∀ t ∈ kn, t ∈ k0 ∨ ∃ p ∈ lt, p.2 = t
  ed : ∀ q b, Dn ly i c q b → ∃ u ∈ kn, edge ss f w q.2 b = some u ∧ (u ∈ k0 ∨ ∃ p ∈ lt, p.2 = u ∧ num p.1 ≤ num (q.1 ++ [b]))
theorem WkE.start {ss : List Stf} {f : List Bool} {w n : Nat} {kn : List (List Bool)} {ly : List (List Bool × List Bool)} (h : WkL ss f w n kn ly) : WkE ss f w n kn ly 0 false kn [] :=
  ⟨h.nd, h.sh, fun t ht => by obtain ⟨m, h1, h2⟩ := h.g t ht; exact ⟨m, by omega, h2⟩, fun _ h => h, rfl, (fun _ h => nomatch h), .nil, (fun _ h => nomatch h), fun t ht => .inl ht, fun q b hd => by
    rcases hd with h | ⟨h, _⟩
    · rw [List.take_zero] at h; cases h
    · cases h⟩
theorem Dn.lt {ss : List Stf} {f : List Bool} {w n : Nat} {k0 : List (List Bool)} {ly : List (List Bool × List Bool)} (h : WkL ss f w n k0 ly) {i : Nat} {c : Bool} {p : List Bool × List Bool} (hp : ly[i]? = some p) {q : List Bool × List Bool} {b : Bool} (hd : Dn ly i c q b) : num (q.1 ++ [b]) < num (p.1 ++ [c]) := by
  rw [num_snoc, num_snoc]
  rcases hd with h1 | ⟨rfl, h1, rfl⟩
  · have hi := (List.getElem?_eq_some_iff.mp hp).1
    have hs : ly = ly.take i ++ ly.drop i := (List.take_append_drop i ly).symm
    have hpd : p ∈ ly.drop i := by
      rw [List.drop_eq_getElem_cons hi]
      rw [List.getElem?_eq_getElem hi] at hp
      rw [Option.some.inj hp]
      exact List.mem_cons_self
    have := h.srt
    rw [hs] at this
    have := (List.pairwise_append.mp this).2.2 q h1 p hpd
    split <;> split <;> omega
  · rw [hp] at h1
    rw [Option.some.inj h1]
    simp
/-- the edges that are done grow by one -/
theorem Dn.step {ly : List (List Bool × List Bool)} {i : Nat} {c : Bool} {p : List Bool × List Bool} (hp : ly[i]? = some p) {q : List Bool × List Bool} {b : Bool} : Dn ly (if c then i + 1 else i) (!c) q b → Dn ly i c q b ∨ (q = p ∧ b = c) := by
  cases c with
  | false =>
    rintro (h | ⟨_, h1, h2⟩)
    · exact .inl (.inl h)
    · rw [show (if false = true then i + 1 else i) = i from rfl, hp] at h1
      exact .inr ⟨(Option.some.inj h1).symm, h2⟩
  | true =>
    rintro (h | ⟨h, _⟩)
    · rw [show (if true = true then i + 1 else i) = i + 1 from rfl, List.take_add_one, hp] at h
      rcases List.mem_append.mp h with h | h
      · exact .inl (.inl h)
      · have e : q = p := by simpa using h
        cases b with
        | false => exact .inl (.inr ⟨rfl, by rw [e]; exact hp, rfl⟩)
        | true => exact .inr ⟨e, rfl⟩
    · cases h
theorem WkE.next {ss : List Stf} {f : List Bool} {w n : Nat} (o : OkN 39 ss) (hf : f ≠ []) (hw : f.length ≤ w + 1) (hL : ∀ s ∈ ss, s.1.length ≤ w + 1) {k0 kn : List (List Bool)} {ly lt : List (List Bool × List Bool)} (h : WkL ss f w n k0 ly) {i : Nat} {c : Bool} (E : WkE ss f w n k0 ly i c kn lt) {p : List Bool × List Bool} (hp : ly[i]? = some p)
    {u : List Bool} (hu : edge ss f w p.2 c = some u) :
    (u ∈ kn → WkE ss f w n k0 ly (if c then i + 1 else i) (!c) kn lt) ∧ (u ∉ kn → WkE ss f w n k0 ly (if c then i + 1 else i) (!c) (kn ++ [u]) (lt ++ [(p.1 ++ [c], u)])) := by
  have hpm := List.mem_of_getElem? hp
  obtain ⟨p1, p2, p3⟩ := h.l1 p hpm
  have hm : ¬ SpL f (bodyF ss p.1) := h.a p.1 (by omega)
  obtain ⟨_, e1, e2⟩ := edge_at o hf hw hL hm c
  rw [← p2] at e1 e2
  have us : u = stand ss w (p.1 ++ [c]) := by
    by_cases z : SpL f (bodyF ss (p.1 ++ [c]))
    · rw [e1 z] at hu; cases hu
    · rw [e2 z] at hu; exact (Option.some.inj hu).symm
  have hdn : ∀ {q b}, Dn ly i c q b → Dn ly (if c then i + 1 else i) (!c) q b := by
    intro q b hd
    cases c with
    | false =>
      rcases hd with h | ⟨h, _⟩
      · exact .inl h
      · cases h
    | true =>
      refine .inl ?_
      rw [show (if true = true then i + 1 else i) = i + 1 from rfl, List.take_add_one, hp]
      rcases hd with h | ⟨_, h1, _⟩
      · exact List.mem_append_left _ h
      · rw [hp] at h1
        exact List.mem_append_right _ (by simp [Option.some.inj h1])
  have hpn : Dn ly (if c then i + 1 else i) (!c) p c := by
    cases c with
    | false => exact .inr ⟨rfl, hp, rfl⟩
    | true =>
      refine .inl ?_
      rw [show (if true = true then i + 1 else i) = i + 1 from rfl, List.take_add_one, hp]
      exact List.mem_append_right _ (by simp)
  constructor
  · intro hk
    refine ⟨E.nd, E.sh, E.g, E.sub, E.app, E.l1, E.srt, fun q hq => ?_, E.new, fun q b hd => ?_⟩
    · obtain ⟨q2, b, h1, h2⟩ := E.ltd q hq
      exact ⟨q2, b, hdn h1, h2⟩
    · rcases Dn.step hp hd with h1 | ⟨rfl, rfl⟩
      · exact E.ed q b h1
      · refine ⟨u, hk, hu, ?_⟩
        rcases E.new u hk with h1 | ⟨r, h1, h2⟩
        · exact .inl h1
        · refine .inr ⟨r, h1, h2, ?_⟩
          obtain ⟨q2, b2, h3, h4⟩ := E.ltd r h1
          rw [h4]
          exact Nat.le_of_lt (Dn.lt h hp h3)
  · intro hk
    refine ⟨?_, ?_, ?_, fun t ht => List.mem_append_left _ (E.sub t ht), by rw [List.length_append, List.length_append, E.app]; show _ + 1 = _ + (_ + 1); omega, ?_, ?_, ?_, ?_, ?_⟩
    · rw [List.nodup_append]
      exact ⟨E.nd, nodup1 _, fun x hx y hy z => hk (by rw [← List.mem_singleton.mp hy, ← z]; exact hx)⟩
    · intro t ht
      rcases List.mem_append.mp ht with h1 | h1
      · exact E.sh t h1
      · rw [List.mem_singleton.mp h1, us]
        exact tl_le _ _
    · intro t ht
      rcases List.mem_append.mp ht with h1 | h1
      · exact E.g t h1
      · exact ⟨p.1 ++ [c], by rw [List.length_append, p1]; exact Nat.le_refl _, by rw [List.mem_singleton.mp h1]; exact us⟩
    · intro q hq
      rcases List.mem_append.mp hq with h1 | h1
      · obtain ⟨a1, a2, a3⟩ := E.l1 q h1
        exact ⟨a1, a2, List.mem_append_left _ a3⟩
      · rw [List.mem_singleton.mp h1]
        exact ⟨by rw [List.length_append, p1]; rfl, us, List.mem_append_right _ (List.mem_singleton.mpr rfl)⟩
    · rw [List.pairwise_append]
      refine ⟨E.srt, List.pairwise_singleton _ _, fun q hq r hr => ?_⟩
      rw [List.mem_singleton.mp hr]
      obtain ⟨q2, b2, h3, h4⟩ := E.ltd q hq
      rw [h4]
      exact Dn.lt h hp h3
    · intro q hq
      rcases List.mem_append.mp hq with h1 | h1
      · obtain ⟨q2, b, h1, h2⟩ := E.ltd q h1
        exact ⟨q2, b, hdn h1, h2⟩
      · rw [List.mem_singleton.mp h1]
        exact ⟨p, c, hpn, rfl⟩
    · intro t ht
      rcases List.mem_append.mp ht with h1 | h1
      · rcases E.new t h1 with h2 | ⟨r, h2, h3⟩
        · exact .inl h2
        · exact .inr ⟨r, List.mem_append_left _ h2, h3⟩
      · exact .inr ⟨_, List.mem_append_right _ (List.mem_singleton.mpr rfl), (List.mem_singleton.mp h1).symm⟩
    · intro q b hd
      rcases Dn.step hp hd with h1 | ⟨rfl, rfl⟩
      · obtain ⟨v, h2, h3, h4⟩ := E.ed q b h1
        refine ⟨v, List.mem_append_left _ h2, h3, ?_⟩
        rcases h4 with h4 | ⟨r, h5, h6⟩
        · exact .inl h4
        · exact .inr ⟨r, List.mem_append_left _ h5, h6⟩
      · exact ⟨u, List.mem_append_right _ (List.mem_singleton.mpr rfl), hu, .inr ⟨_, List.mem_append_right _ (List.mem_singleton.mpr rfl), rfl, Nat.le_refl _⟩⟩
/-- the end of a layer -/
theorem WkE.done {ss : List Stf} {f : List Bool} {w n : Nat} (o : OkN 39 ss) (hf : f ≠ []) (hw : f.length ≤ w + 1) (hL : ∀ s ∈ ss, s.1.length ≤ w + 1) {k0 kn : List (List Bool)} {ly lt : List (List Bool × List Bool)} (h : WkL ss f w n k0 ly) (E : WkE ss f w n k0 ly ly.length false kn lt) : WkL ss f w (n + 1) kn lt := by
  have dn : ∀ {q b}, q ∈ ly → Dn ly ly.length false q b := fun hq => .inl (by rw [List.take_length]; exact hq)
  -- each message that is one bit longer
  have step : ∀ m b, m.length = n → ∃ u ∈ kn, edge ss f w (stand ss w m) b = some u ∧ (u ∈ k0 ∨ ∃ p ∈ lt, p.2 = u ∧ num p.1 ≤ num (m ++ [b])) := by
    intro m b hm
    rcases h.e m hm with h1 | ⟨p, h1, h2, h3⟩
    · obtain ⟨u, h4, h5⟩ := h1 b
      exact ⟨u, E.sub u h4, h5, .inl h4⟩
    · obtain ⟨u, h4, h5, h6⟩ := E.ed p b (dn h1)
      rw [h2] at h5
      refine ⟨u, h4, h5, ?_⟩
      rcases h6 with h6 | ⟨r, h7, h8, h9⟩
      · exact .inl h6
      · refine .inr ⟨r, h7, h8, Nat.le_trans h9 ?_⟩
        rw [num_snoc, num_snoc]
        omega
  have old : ∀ t ∈ k0, ∀ b, ∃ u ∈ kn, edge ss f w t b = some u := by
    intro t ht b
    rcases h.d t ht with ⟨p, h1, rfl⟩ | h1
    · obtain ⟨u, h4, h5, _⟩ := E.ed p b (dn h1)
      exact ⟨u, h4, h5⟩
    · obtain ⟨u, h4, h5⟩ := h1 b
      exact ⟨u, E.sub u h4, h5⟩
  have cut : ∀ m : List Bool, m.length = n + 1 → ∃ m' b, m = m' ++ [b] ∧ m'.length = n := by
    intro m hm
    rcases List.eq_nil_or_concat m with z | ⟨m', b, z⟩
    · rw [z] at hm; cases hm
    · rw [List.concat_eq_append] at z
      exact ⟨m', b, z, by rw [z, List.length_append] at hm; simpa using hm⟩
  have unsp : ∀ m b, m.length = n → ¬ SpL f (bodyF ss (m ++ [b])) ∧ edge ss f w (stand ss w m) b = some (stand ss w (m ++ [b])) := by
    intro m b hm
    obtain ⟨u, _, h2, _⟩ := step m b hm
    obtain ⟨_, e1, e2⟩ := edge_at o hf hw hL (h.a m (by omega)) b
    have hn : ¬ SpL f (bodyF ss (m ++ [b])) := fun z => by rw [e1 z] at h2; cases h2
    exact ⟨hn, e2 hn⟩
  refine ⟨fun m hm => ?_, E.nd, E.sh, E.g, E.sub _ h.nil, E.l1, E.srt, fun t ht => ?_, fun m hm => ?_⟩
  · rcases Nat.lt_or_ge m.length (n + 1) with c | c
    · exact h.a m (by omega)
    · obtain ⟨m', b, rfl, h1⟩ := cut m (by omega)
      exact (unsp m' b h1).1
  · rcases E.new t ht with h1 | h1
    · exact .inr (old t h1)
    · exact .inl h1
  · obtain ⟨m', b, rfl, h1⟩ := cut m hm
    obtain ⟨u, h2, h3, h4⟩ := step m' b h1
    rw [(unsp m' b h1).2] at h3
    have eu := Option.some.inj h3
    rw [eu]
    rcases h4 with h4 | h4
    · exact .inl (old u h4)
    · exact .inr h4
/-- m is the first spoiled message -/
def FirstSp (ss : List Stf) (f m : List Bool) : Prop := SpL f (bodyF ss m) ∧ ∀ m', (m'.length < m.length ∨ (m'.length = m.length ∧ num m' < num m)) → ¬ SpL f (bodyF ss m')
theorem WkE.bad {ss : List Stf} {f : List Bool} {w n : Nat} (o : OkN 39 ss) (hf : f ≠ []) (hw : f.length ≤ w + 1) (hL : ∀ s ∈ ss, s.1.length ≤ w + 1) {k0 kn : List (List Bool)} {ly lt : List (List Bool × List Bool)} (h : WkL ss f w n k0 ly) {i : Nat} {c : Bool} (E : WkE ss f w n k0 ly i c kn lt) {p : List Bool × List Bool} (hp : ly[i]? = some p)
    (hu : edge ss f w p.2 c = none) : FirstSp ss f (p.1 ++ [c]) := by
  have hpm := List.mem_of_getElem? hp
  obtain ⟨p1, p2, p3⟩ := h.l1 p hpm
  obtain ⟨_, e1, e2⟩ := edge_at o hf hw hL (h.a p.1 (by omega)) c
  rw [← p2] at e2
  refine ⟨?_, fun m' hm' => ?_⟩
  · by_cases z : SpL f (bodyF ss (p.1 ++ [c]))
    · exact z
    · rw [e2 z] at hu; cases hu
  · rw [List.length_append, p1] at hm'
    simp only [List.length_cons, List.length_nil] at hm'
    rcases hm' with h1 | ⟨h1, h2⟩
    · exact h.a m' (by omega)
    · have : ∃ v b, m' = v ++ [b] ∧ v.length = n := by
        rcases List.eq_nil_or_concat m' with z | ⟨v, b, z⟩
        · rw [z] at h1; simp at h1
        · rw [List.concat_eq_append] at z
          exact ⟨v, b, z, by rw [z, List.length_append] at h1; simpa using h1⟩
      obtain ⟨v, b, rfl, hv⟩ := this
      obtain ⟨_, f1, f2⟩ := edge_at o hf hw hL (h.a v (by omega)) b
      intro z
      have hz := f1 z
      rcases h.e v hv with h3 | ⟨q, h3, h4, h5⟩
      · obtain ⟨u, _, h6⟩ := h3 b
        rw [hz] at h6; cases h6
      · have hd : Dn ly i c q b := by
          obtain ⟨j, hj⟩ := List.getElem?_of_mem h3
          rcases Nat.lt_trichotomy j i with c1 | c1 | c1
          · exact .inl (List.mem_of_getElem? (i := j) (by rw [List.getElem?_take, if_pos c1]; exact hj))
          · subst c1
            rw [hp] at hj
            have eq := Option.some.inj hj
            subst eq
            rw [num_snoc, num_snoc] at h2
            cases c with
            | false =>
              exfalso
              simp only [Bool.false_eq_true, if_false] at h2
              split at h2 <;> omega
            | true =>
              cases b with
              | false => exact .inr ⟨rfl, hp, rfl⟩
              | true =>
                exfalso
                simp only [if_true] at h2
                omega
          · exfalso
            have hjl := (List.getElem?_eq_some_iff.mp hj).1
            have := List.pairwise_iff_getElem.mp h.srt i j (by omega) hjl c1
            rw [List.getElem?_eq_getElem (by omega)] at hp
            rw [List.getElem?_eq_getElem hjl] at hj
            rw [Option.some.inj hp, Option.some.inj hj] at this
            rw [num_snoc, num_snoc] at h2
            split at h2 <;> split at h2 <;> omega
        obtain ⟨u, _, h6, _⟩ := E.ed q b hd
        rw [h4, hz] at h6
        cases h6
/-- the standings of a clean rule -/
structure Paper (ss : List Stf) (f : List Bool) (w : Nat) (kn : List (List Bool)) : Prop where
  nd : kn.Nodup
  sh : ∀ t ∈ kn, t.length ≤ w
  nil : [] ∈ kn
  cl : ∀ t ∈ kn, ∀ b, ∃ u ∈ kn, edge ss f w t b = some u
  g : ∀ t ∈ kn, ∃ m, t = stand ss w m
theorem WkL.clean {ss : List Stf} {f : List Bool} {w n : Nat} (o : OkN 39 ss) (hf : f ≠ []) (hw : f.length ≤ w + 1) (hL : ∀ s ∈ ss, s.1.length ≤ w + 1) {kn : List (List Bool)} (h : WkL ss f w n kn []) : Paper ss f w kn ∧ ∀ m, ¬ SpL f (bodyF ss m) := by
  have cl : ∀ t ∈ kn, ∀ b, ∃ u ∈ kn, edge ss f w t b = some u := fun t ht => by
    rcases h.d t ht with ⟨p, h1, _⟩ | h1
    · cases h1
    · exact h1
  refine ⟨⟨h.nd, h.sh, h.nil, cl, fun t ht => by obtain ⟨m, _, e⟩ := h.g t ht; exact ⟨m, e⟩⟩, ?_⟩
  have all : ∀ k m, m.length = k → ¬ SpL f (bodyF ss m) ∧ stand ss w m ∈ kn := by
    intro k
    induction k with
    | zero =>
      intro m hm
      have : m = [] := List.length_eq_zero_iff.mp hm
      subst this
      exact ⟨h.a [] (Nat.zero_le _), by show tl w [] ∈ kn; rw [tl_nil]; exact h.nil⟩
    | succ k ih =>
      intro m hm
      rcases List.eq_nil_or_concat m with z | ⟨v, b, z⟩
      · rw [z] at hm; cases hm
      · rw [List.concat_eq_append] at z
        subst z
        obtain ⟨h1, h2⟩ := ih v (by rw [List.length_append] at hm; simpa using hm)
        obtain ⟨u, h3, h4⟩ := cl _ h2 b
        obtain ⟨_, e1, e2⟩ := edge_at o hf hw hL h1 b
        have hn : ¬ SpL f (bodyF ss (v ++ [b])) := fun z => by rw [e1 z] at h4; cases h4
        rw [e2 hn] at h4
        exact ⟨hn, by rw [Option.some.inj h4]; exact h3⟩
  exact fun m => (all m.length m rfl).1
theorem WkL.begin {ss : List Stf} {f : List Bool} {w : Nat} : WkL ss f w 0 [[]] [([], [])] := by
  have st0 : stand ss w [] = [] := tl_nil w
  have z0 : ∀ m : List Bool, m.length ≤ 0 → m = [] := fun m h => List.length_eq_zero_iff.mp (by omega)
  refine ⟨fun m hm => ?_, nodup1 _, fun t ht => by rw [List.mem_singleton.mp ht]; exact Nat.zero_le _, fun t ht => ⟨[], Nat.le_refl _, by rw [List.mem_singleton.mp ht, st0]⟩, List.mem_singleton.mpr rfl, fun p hp => by rw [List.mem_singleton.mp hp]; exact ⟨rfl, st0.symm, List.mem_singleton.mpr rfl⟩, List.pairwise_singleton _ _, fun t ht => .inl ⟨_, List.mem_singleton.mpr rfl, (List.mem_singleton.mp ht).symm⟩, fun m hm => .inr ⟨_, List.mem_singleton.mpr rfl, ?_, ?_⟩⟩
  · rw [z0 m hm]
    rintro ⟨i, hi, _⟩
    exact absurd hi (Nat.not_lt_zero _)
  · rw [z0 m (by omega)]; exact st0.symm
  · rw [z0 m (by omega)]; exact Nat.le_refl _
end U

set_option maxRecDepth 100000
set_option maxHeartbeats 4000000
namespace U
open PySem PySem.Spec PyProof.Rows
open L2 hiding Fun CX0 E0 pass0 Fun.binds
open C8 Lx SX StX
theorem wid_eq (ss : List Stf) (f : List Bool) : wid ss f = max (longM ss) f.length - 1 := rfl
/-- bits that are put in one behind another -/
inductive Puts (ss : List Stf) (l : List Bool) : List Bool → Prop
  | nil : Puts ss l []
  | snoc {y : List Bool} {b : Bool} : Puts ss l y → putM ss (l ++ y) = some b → Puts ss l (y ++ [b])
theorem Puts.ins {ss : List Stf} {l y : List Bool} (h : Puts ss l y) : ∀ {x}, Ins ss (l ++ y) x → Ins ss l (y ++ x) := by
  induction h with
  | nil => intro x hx; rw [List.append_nil] at hx; exact hx
  | @snoc y b hp hb ih =>
    intro x hx
    rw [← List.append_assoc] at hx
    have := ih (.more hb hx)
    rw [List.append_assoc]
    exact this
theorem Puts.pre {ss : List Stf} {l y : List Bool} (h : Puts ss l y) : ∀ {x}, Ins ss l x → ∃ z, x = y ++ z ∧ Ins ss (l ++ y) z := by
  induction h with
  | nil => intro x hx; exact ⟨x, rfl, by rw [List.append_nil]; exact hx⟩
  | @snoc y b hp hb ih =>
    intro x hx
    obtain ⟨z, rfl, hz⟩ := ih hx
    cases hz with
    | stop h => rw [hb] at h; cases h
    | @more _ z' b' h1 h2 =>
      rw [hb] at h1
      cases Option.some.inj h1
      exact ⟨z', by simp, by rw [← List.append_assoc]; exact h2⟩
/-- what grows of a line, or that it has no end -/
def GrowR (ss : List Stf) (l : List Bool) (o : Option (List Bool)) : Prop := (∀ x, Ins ss l x → o = some (l ++ x)) ∧ ((∀ x, ¬ Ins ss l x) → o = none)
def spLast : Sp := fun vs H Q _ => ∃ (l : List Bool) (n : Nat), vs = [.str (W l), .int n] ∧ l.length ≤ 100000 ∧ Q (.str (W (tl n l))) H
def spWidth (C : Addr) : Sp := fun vs H Q _ => ∃ (a : Addr) (f : List Bool) (ss : List Stf), vs = [.ref a] ∧ RuAt C H a f ss ∧ ss.length ≤ 1000 ∧ (∀ s ∈ ss, s.1.length ≤ 1000) ∧ 1 ≤ f.length ∧ f.length ≤ 1000 ∧ ∀ H', Same H H' → Q (.int (wid ss f : Nat)) H'
def spBord (C : Addr) : Sp := fun vs H Q _ => ∃ (a : Addr) (f : List Bool) (ss : List Stf) (st : List Bool), vs = [.ref a, .str (W st)] ∧ RuAt C H a f ss ∧ st.length ≤ 50000 ∧ f.length ≤ 1000 ∧ ∀ H', Same H H' → Q (.bl (bordM f st)) H'
def spGrown (C : Addr) : Sp := fun vs H Q _ => ∃ (a : Addr) (f : List Bool) (ss : List Stf) (st : List Bool) (b : Bool), vs = [.ref a, .str (W st), .str (W [b])] ∧ RuAt C H a f ss ∧ ss.length ≤ 1000 ∧ longM ss ≤ 9 ∧ st.length ≤ 40000 ∧
  ∀ o H', GrowR ss (st ++ [b]) o → Same H H' → Q (oW o) H'
theorem eW (l : List Bool) : Str.empty ++ W l = W l := by
  have e : Str.empty = W [] := by decide +kernel
  rw [e, W_cat]; rfl
section
variable {P : Program} {w : World} {K : PySem.W.Frag} {mg : Str → Option Value} {base : Heap}
theorem sc_last_bits : FnScope ["line", "many"] ["line", "many"] (fnScope s_last_bits) := fnScope_by (by decide +kernel)
theorem cal_last_bits {f : Addr} {fd : FuncData} (F : Def K mg "last_bits" s_last_bits f fd) (b : Binds K fd ["line", "many"] []) (T : Tx mg) : Cal P w K mg base 1 "last_bits" spLast [] := by
  refine cal0 F b .nil sc_last_bits (fun vs H Q E h => ?_) (fun cdv A outer s H vs Q E hr h => ?_)
  · obtain ⟨_, _, rfl, _⟩ := h; rfl
  · obtain ⟨l, n, rfl, hl, k⟩ := h
    refine ⟨_, (pss_one (ps_ret (pe_slice sl_txt (pv 0) (po_some (pe_callB (call_max2 rfl) (by rfl) T.b_max (by decide +kernel) (pa_cons pe_int (pa_cons (pe_op op_sub (pe_callB call_len_str (by rfl) T.b_len (by decide +kernel) (pa_cons (pv 0) pa_nil)) (pv 1)) pa_nil)))) po_none))), ?_⟩
    have lw : (W l).length ≤ sizeLine := by rw [W_len]; exact sl_len hl
    refine ⟨_, rfl, _, rfl, _, rfl, lw, _, rfl, _, _, rfl, rfl, _, _, rfl, _, rfl, _, rfl, lw, ?_⟩
    have e := W_tail l n
    rw [e]
    exact k
theorem sc_width : FnScope ["rule"] ["rule"] (fnScope s_width) := fnScope_by (by decide +kernel)
theorem cal_width {f C : Addr} {fd : FuncData} (F : Def K mg "width" s_width f fd) (b : Binds K fd ["rule"] []) (T : Tx mg) (RT : RuT K C) (p_longest : Prp P w K mg base 1 C "longest" (spLongest C)) : Cal P w K mg base 3 "width" (spWidth C) [] := by
  refine cal0 F b .nil sc_width (fun vs H Q E h => ?_) (fun cdv A outer s H vs Q E hr h => ?_)
  · obtain ⟨_, _, _, rfl, _⟩ := h; rfl
  · obtain ⟨a, fl, ss, rfl, hR, h1, h2, h3, h4, k⟩ := h
    refine ⟨_, (pss_one (ps_ret (pe_op op_sub (pe_callB (call_max2 rfl) (by rfl) T.b_max (by decide +kernel) (pa_cons (pe_callTy call_int1 (by rfl) T.b_int (by decide +kernel) (pa_cons (pe_pr p_longest hr (by decide) (pv 0)) pa_nil)) (pa_cons (pe_callB call_len_str (by rfl) T.b_len (by decide +kernel) (pa_cons (pe_fld (pv 0) rfl) pa_nil)) pa_nil))) pe_int))), ?_⟩
    obtain ⟨dx, t, ps, kb, ha, _⟩ := id hR
    refine ⟨_, rfl, a, dx, _, rfl, ha, a, fl, ss, rfl, hR, h1, h2, fun H1 s1 => .inl ⟨_, rfl, ?_⟩⟩
    refine ⟨_, rfl, a, C, dx, _, _, rfl, s1 _ _ ha, RT.cl, RT.nF, ruF_flag _ _, _, rfl, by rw [W_len]; exact sl_len (by omega), _, _, rfl, _, _, rfl, rfl, ?_⟩
    have e : (if (((W fl).length : Nat) : Int) > ((longM ss : Nat) : Int) then (((W fl).length : Nat) : Int) else ((longM ss : Nat) : Int)) - 1 = ((wid ss fl : Nat) : Int) := by
      rw [W_len, wid_eq]
      split <;> omega
    have kk := k H1 s1
    rw [← e] at kk
    exact kk
theorem sc_is_border_clean : FnScope ["rule", "standing"] ["rule", "standing"] (fnScope s_is_border_clean) := fnScope_by (by decide +kernel)
theorem cal_is_border_clean {f C : Addr} {fd : FuncData} (F : Def K mg "is_border_clean" s_is_border_clean f fd) (b : Binds K fd ["rule", "standing"] []) (T : Tx mg) (RT : RuT K C) : Cal P w K mg base 1 "is_border_clean" (spBord C) [] := by
  refine cal0 F b .nil sc_is_border_clean (fun vs H Q E h => ?_) (fun cdv A outer s H vs Q E hr h => ?_)
  · obtain ⟨_, _, _, _, rfl, _⟩ := h; rfl
  · obtain ⟨a, fl, ss, st, rfl, hR, h1, h2, k⟩ := h
    refine ⟨_, (pss_one (ps_ret (pe_cmpR op_eq (pe_m1 PySem.F.slot_str_index PySem.F.type_str_index mt_sindex (pe_joined (.cons (pe_fmt (pv 1)) (.cons (pe_fmt (pe_fld (pv 0) rfl)) .nil))) (pe_fld (pv 0) rfl)) (pe_callB call_len_str (by rfl) T.b_len (by decide +kernel) (pa_cons (pv 1) pa_nil)) (nomark _)))), ?_⟩
    obtain ⟨dx, t, ps, kb, ha, _⟩ := id hR
    have el : (W st).length = st.length := W_len _
    have ef : (W fl).length = fl.length := W_len _
    refine ⟨_, rfl, .inl ⟨_, rfl, by rw [el]; exact sl_len (by omega), _, rfl, by rw [eW, el]; exact sl_len (by omega), ?_⟩⟩
    refine ⟨_, rfl, a, C, dx, _, _, rfl, ha, RT.cl, RT.nF, ruF_flag _ _, .inl ⟨_, rfl, by rw [ef]; exact sl_len (by omega), _, rfl, by rw [eW, W_cat, W_len, List.length_append]; exact sl_len (by omega), ?_⟩⟩
    obtain ⟨i, hi, hil⟩ := posM_end st fl
    obtain ⟨r, hr'⟩ := occ_some hi
    refine ⟨⟨_, rfl⟩, _, rfl, a, C, dx, _, _, rfl, ha, RT.cl, RT.nF, ruF_flag _ _, _, _, i, r, rfl, rfl, by rw [eW, W_cat]; exact hr', ?_⟩
    refine ⟨_, rfl, _, rfl, by rw [el]; exact sl_len (by omega), rfl, ?_⟩
    have e : decide (V.int (i : Nat) = V.int (((W st).length : Nat) : Int)) = bordM fl st := by
      unfold bordM
      rw [hi, decide_eq_decide, el]
      constructor
      · intro z; have := V.int.inj z; congr 1; omega
      · intro z; rw [Option.some.inj z]
    rw [e]
    exact k H (Same.refl _)
theorem sc_grown : FnScope ["rule", "standing", "bit", "line", "seen", "put", "tail"] ["rule", "standing", "bit"] (fnScope s_grown) := fnScope_by (by decide +kernel)
theorem cal_grown {f C : Addr} {fd : FuncData} (F : Def K mg "grown" s_grown f fd) (b : Binds K fd ["rule", "standing", "bit"] []) (T : Tx mg) (RT : RuT K C) (c_put : Met P w K mg base 1 C "put" (spPut C) []) (p_longest : Prp P w K mg base 1 C "longest" (spLongest C)) (c_last_bits : Cal P w K mg base 1 "last_bits" spLast []) : Cal P w K mg base 3 "grown" (spGrown C) [] := by
  refine cal0 F b .nil sc_grown (fun vs H Q E h => ?_) (fun cdv A outer s H vs Q E hr h => ?_)
  · obtain ⟨_, _, _, _, _, rfl, _⟩ := h; rfl
  · obtain ⟨a, fl, ss, st, bb, rfl, hR, hn, h9, hl, k⟩ := h
    refine ⟨_, (pss_cons (ps_par (i := 3) (j := 4) (by rfl) sc_grown.nd rfl rfl (by decide) rfl rfl (pa_cons (pe_joined (.cons (pe_fmt (pv 1)) (.cons (pe_fmt (pv 2)) .nil))) (pa_cons pe_dnewK pa_nil)) (by rfl))
    (pss_cons (ps_set (i := 5) sc_grown.nd rfl (.inl rfl) (pe_mt (pl := _) c_put hr (by decide) (pv 0) (pa_cons (pv 3) pa_nil)))
    (pss_cons (ps_while PassesOwn.never (pt_cmpR op_notN (pv 5) pe_non (nomark _))
    (pss_cons (ps_set (i := 6) sc_grown.nd rfl (.inl rfl) (pe_c c_last_bits hr (by decide) rfl (pa_cons (pv 3) (pa_cons (pe_pr p_longest hr (by decide) (pv 0)) pa_nil))))
    (pss_cons (ps_if (pt_cmp (pc_din (hu_of hr) (pv 6) (pv 4))) (pss_one (ps_ret pe_non)) pss_nil)
    (pss_cons (ps_dput (hu_of hr) (pv 4) (pv 6) pe_bl rfl)
    (pss_cons (ps_set (i := 3) sc_grown.nd rfl (.inl rfl) (pe_joined (.cons (pe_fmt (pv 3)) (.cons (pe_fmt (pv 5)) .nil))))
    (pss_one (ps_set (i := 5) sc_grown.nd rfl (.inl rfl) (pe_mt (pl := _) c_put hr (by decide) (pv 0) (pa_cons (pv 3) pa_nil)))))))))
    (pss_one (ps_ret (pv 3)))))), ?_⟩
    have hL : ∀ s ∈ ss, s.1.length ≤ longM ss := fun s hs => longM_le hs
    have hpw : 2 ^ (longM ss + 1) ≤ 1024 := Nat.le_trans (Nat.pow_le_pow_right (by decide) (show longM ss + 1 ≤ 10 by omega)) (by decide)
    have hat : ∀ {H2 : Hp}, Same H H2 → ∃ dx t, H2 a = some (.ins C dx (ruF fl t)) := fun s2 => by
      obtain ⟨dx, t, _, _, ha, _⟩ := hR.same s2
      exact ⟨dx, t, ha⟩
    have e1 : (W st).length = st.length := W_len _
    have e2 : (W [bb]).length = 1 := W_len _
    refine ⟨_, rfl, .inl ⟨_, rfl, by rw [e1]; exact sl_len (by omega), _, rfl, by rw [eW, e1]; exact sl_len (by omega), ?_⟩⟩
    refine ⟨_, rfl, .inl ⟨_, rfl, by rw [e2]; decide, _, rfl, by rw [eW, W_cat, W_len, List.length_append]; exact sl_len (by show _ + 1 ≤ _; omega), ?_⟩⟩
    rw [eW, W_cat]
    have ll : (st ++ [bb]).length ≤ 40001 := by rw [List.length_append]; show _ + 1 ≤ _; omega
    generalize st ++ [bb] = l at ll k
    refine fun D nD => ⟨_, _, rfl, ?_⟩
    have s1 : Same H (upd H D (.dK [])) := same_upd nD
    have hD1 : upd H D (.dK []) D = some (.dK []) := upd_same
    generalize upd H D (.dK []) = H1 at s1 hD1
    obtain ⟨dx, t, ha⟩ := hat s1
    refine ⟨_, rfl, a, dx, _, rfl, ha, ruF_no _ _ (by decide +kernel) (by decide +kernel), _, rfl, a, fl, ss, l, rfl, hR.same s1, fun H2 s2 => ?_⟩
    refine ⟨fun m σ H3 => ∃ (y : List Bool) (v6 : Option V), y.length + m = 1024 ∧ Puts ss l y ∧ ((List.range y.length).map fun i => tl (longM ss) (l ++ y.take i)).Nodup ∧ σ = [some (.ref a), some (.str (W st)), some (.str (W [bb])), some (.str (W (l ++ y))), some (.ref D), some (oB (putM ss (l ++ y))), v6] ∧ Same H H3 ∧ H3 D = some (.dK (kst ((List.range y.length).map fun i => tl (longM ss) (l ++ y.take i)))),
      ⟨1024, [], none, rfl, .nil, List.nodup_nil, by rw [List.append_nil]; rfl, s1.trans s2, s2 _ _ hD1⟩, ?_⟩
    rintro m σ H3 ⟨y, v6, hm, hP, hnd, rfl, s3, hD3⟩
    refine ⟨_, rfl, rfl, _, rfl, ?_⟩
    rw [oB_non]
    cases hput : putM ss (l ++ y) with
    | none =>
      refine ⟨_, rfl, ?_⟩
      have := k (some (l ++ y)) H3 ⟨fun x hx => by
        have e := hP.ins (.stop hput)
        rw [List.append_nil] at e
        rw [hx.det e], fun hx => by
        have e := hP.ins (.stop hput)
        rw [List.append_nil] at e
        exact absurd e (hx y)⟩ s3
      exact this
    | some c =>
      refine ⟨fun σ' H' => ∃ m', m' < m ∧ ∃ (y : List Bool) (v6 : Option V), y.length + m' = 1024 ∧ Puts ss l y ∧ ((List.range y.length).map fun i => tl (longM ss) (l ++ y.take i)).Nodup ∧ σ' = [some (.ref a), some (.str (W st)), some (.str (W [bb])), some (.str (W (l ++ y))), some (.ref D), some (oB (putM ss (l ++ y))), v6] ∧ Same H H' ∧ H' D = some (.dK (kst ((List.range y.length).map fun i => tl (longM ss) (l ++ y.take i)))), fun _ _ h => h, ?_⟩
      have hfew : y.length + 1 ≤ 2 ^ (longM ss + 1) := by
        have := words_le hnd (fun w hw => by obtain ⟨i, _, rfl⟩ := List.mem_map.mp hw; exact tl_le _ _)
        rw [List.length_map, List.length_range] at this
        exact this
      have ly : (l ++ y).length ≤ 41100 := by rw [List.length_append]; omega
      have elw : (W (l ++ y)).length = (l ++ y).length := W_len _
      obtain ⟨dx3, t3, ha3⟩ := hat s3
      refine ⟨_, rfl, _, rfl, a, dx3, _, rfl, ha3, a, fl, ss, rfl, hR.same s3, hn, fun s hs => Nat.le_trans (longM_le hs) (by omega), fun H4 s4 => ?_⟩
      refine ⟨l ++ y, longM ss, rfl, by omega, ?_⟩
      have hD4 := s4 _ _ hD3
      have s34 := s3.trans s4
      by_cases nin : tl (longM ss) (l ++ y) ∈ (List.range y.length).map fun i => tl (longM ss) (l ++ y.take i)
      · refine ⟨_, rfl, _, rfl, D, _, rfl, DGet.k (k := .inr (W (tl (longM ss) (l ++ y)))) hD4, _, rfl, iteBT (by rw [val_in nin]; rfl) ?_⟩
        refine k none H4 ⟨fun x hx => ?_, fun _ => rfl⟩ s34
        exfalso
        obtain ⟨z, rfl, hz⟩ := hP.pre hx
        obtain ⟨i, hi, e⟩ := List.mem_map.mp nin
        have hi' := List.mem_range.mp hi
        have t1 : (y ++ z).take i = y.take i := List.take_append_of_le_length (by omega)
        have t2 : (y ++ z).take y.length = y := List.take_left' rfl
        have := hx.apart hL (i := i) (j := y.length) (by rw [List.length_append]; omega) (by rw [List.length_append]; omega) (by rw [t1, t2]; exact e)
        omega
      · refine ⟨_, rfl, _, rfl, D, _, rfl, DGet.k (k := .inr (W (tl (longM ss) (l ++ y)))) hD4, _, rfl, iteBF (by rw [val_out nin]; rfl) ?_⟩
        refine ⟨_, rfl, _, rfl, D, _, rfl, DPut.k (k := .inr (W (tl (longM ss) (l ++ y)))) hD4 (by unfold kst; rw [List.length_map, List.length_map, List.length_range]; exact sl_lt (by omega)), ?_⟩
        rw [put_out nin]
        have ek : ((List.range y.length).map fun i => tl (longM ss) (l ++ y.take i)) ++ [tl (longM ss) (l ++ y)] = (List.range (y ++ [c]).length).map fun i => tl (longM ss) (l ++ (y ++ [c]).take i) := by
          rw [List.length_append, show [c].length = 1 from rfl, List.range_succ, List.map_append]
          congr 1
          · refine List.map_congr_left fun i hi => ?_
            have := List.mem_range.mp hi
            rw [List.take_append_of_le_length (by omega)]
          · show [tl (longM ss) (l ++ y)] = [tl (longM ss) (l ++ (y ++ [c]).take y.length)]
            rw [List.take_left' rfl]
        have hnd2 : ((List.range (y ++ [c]).length).map fun i => tl (longM ss) (l ++ (y ++ [c]).take i)).Nodup := by
          rw [← ek, List.nodup_append]
          exact ⟨hnd, nodup1 _, fun x hx z hz e => nin (by rw [← List.mem_singleton.mp hz, ← e]; exact hx)⟩
        rw [ek]
        have s5 : Same H (upd H4 D (.dK (kst ((List.range (y ++ [c]).length).map fun i => tl (longM ss) (l ++ (y ++ [c]).take i))))) := fun c o e => by
          rw [upd_ne (ne_of_none e nD)]
          exact s34 _ _ e
        have hD5 : upd H4 D (.dK (kst ((List.range (y ++ [c]).length).map fun i => tl (longM ss) (l ++ (y ++ [c]).take i)))) D = some (.dK (kst ((List.range (y ++ [c]).length).map fun i => tl (longM ss) (l ++ (y ++ [c]).take i)))) := upd_same
        generalize upd H4 D (.dK (kst ((List.range (y ++ [c]).length).map fun i => tl (longM ss) (l ++ (y ++ [c]).take i)))) = H5 at s5 hD5
        have e3 : (W [c]).length = 1 := W_len _
        refine ⟨_, rfl, .inl ⟨_, rfl, by rw [elw]; exact sl_len (by omega), _, rfl, by rw [eW, elw]; exact sl_len (by omega), ?_⟩⟩
        refine ⟨_, rfl, .inl ⟨_, rfl, by rw [e3]; decide, _, rfl, by rw [eW, W_cat, W_len, List.length_append]; exact sl_len (by show _ + 1 ≤ _; omega), ?_⟩⟩
        rw [eW, W_cat, List.append_assoc]
        obtain ⟨dx5, t5, ha5⟩ := hat s5
        refine ⟨_, rfl, a, dx5, _, rfl, ha5, ruF_no _ _ (by decide +kernel) (by decide +kernel), _, rfl, a, fl, ss, l ++ (y ++ [c]), rfl, hR.same s5, fun H6 s6 => ?_⟩
        exact ⟨m - 1, by omega, y ++ [c], _, by rw [List.length_append]; show _ + 1 + _ = _; omega, hP.snoc hput, hnd2, rfl, s5.trans s6, s6 _ _ hD5⟩
end
end U

set_option maxRecDepth 100000
set_option maxHeartbeats 4000000
namespace U
open PySem PySem.Spec PyProof.Rows
open L2 hiding Fun CX0 E0 pass0 Fun.binds
open C8 Lx SX StX
theorem in_W (f l : List Bool) : (!(Builtin.Str.occurrences (W l) (W f) 0 (W l).length 1).isEmpty) = infx f l := by
  unfold infx
  cases e : posM l f with
  | none => rw [occ_none e]; rfl
  | some i =>
    obtain ⟨r, h⟩ := occ_some e
    rw [h]; rfl
abbrev Pr := List Bool × List Bool
/-- pairs of words at addresses -/
def LyT (H : Hp) (kb : Addr → Pr) (ps : List Addr) : Prop := ∀ t ∈ ps, H t = some (.tup [.str (W (kb t).1), .str (W (kb t).2)])
/-- pairs of words in a list -/
def LyAt (H : Hp) (q : Addr) (ly : List Pr) : Prop := ∃ (ps : List Addr) (kb : Addr → Pr), H q = some (.lst (ps.map V.ref)) ∧ LyT H kb ps ∧ ly = ps.map kb
theorem LyAt.same {H H' : Hp} {q : Addr} {ly : List Pr} (h : LyAt H q ly) (s : Same H H') : LyAt H' q ly := by
  obtain ⟨ps, kb, h1, h2, h3⟩ := h
  exact ⟨ps, kb, s _ _ h1, fun t ht => s _ _ (h2 t ht), h3⟩
theorem LyT.dk {H : Hp} {kb : Addr → Pr} {ps : List Addr} {d : Addr} {kvs : List (Key × V)} {o : HO} (h : LyT H kb ps) (hd : H d = some (.dK kvs)) : LyT (upd H d o) kb ps := fun t ht => by
  rw [upd_ne (ne_of (h t ht) hd (by intro z; cases z))]
  exact h t ht
theorem LyAt.dk {H : Hp} {q : Addr} {ly : List Pr} {d : Addr} {kvs : List (Key × V)} {o : HO} (h : LyAt H q ly) (hd : H d = some (.dK kvs)) : LyAt (upd H d o) q ly := by
  obtain ⟨ps, kb, h1, h2, h3⟩ := h
  exact ⟨ps, kb, by rw [upd_ne (ne_of h1 hd (by intro z; cases z))]; exact h1, h2.dk hd, h3⟩
theorem LyAt.len {H : Hp} {q : Addr} {ly : List Pr} (h : LyAt H q ly) : ∃ ps : List Addr, H q = some (.lst (ps.map V.ref)) ∧ ps.length = ly.length := by
  obtain ⟨ps, kb, h1, h2, h3⟩ := h
  exact ⟨ps, h1, by rw [h3, List.length_map]⟩
/-- a pair more at the end -/
theorem ly_push {H : Hp} {q z : Addr} {ly : List Pr} {p : Pr} {ps : List Addr} {kb : Addr → Pr} (hq : H q = some (.lst (ps.map V.ref))) (hT : LyT H kb ps) (hl : ly = ps.map kb) (nz : H z = none) :
    LyAt (upd (upd H z (.tup [.str (W p.1), .str (W p.2)])) q (.lst (ps.map V.ref ++ [.ref z]))) q (ly ++ [p]) := by
  have zq : ∀ y ∈ ps, y ≠ z := fun y hy => ne_of_none (hT y hy) nz
  have nqz : z ≠ q := (ne_of_none hq nz).symm
  refine ⟨ps ++ [z], fun y => if y = z then p else kb y, by rw [upd_same, List.map_append]; rfl, fun y hy => ?_, ?_⟩
  · have ny : y ≠ q := by
      rcases List.mem_append.mp hy with h1 | h1
      · exact ne_of (hT y h1) hq (by intro z; cases z)
      · rw [List.mem_singleton.mp h1]; exact nqz
    rw [upd_ne ny]
    dsimp only
    rcases List.mem_append.mp hy with h1 | h1
    · rw [if_neg (zq y h1), upd_ne (zq y h1)]
      exact hT y h1
    · rw [List.mem_singleton.mp h1, if_pos rfl]
      exact upd_same
  · rw [List.map_append, hl]
    congr 1
    · exact List.map_congr_left fun y hy => (if_neg (zq y hy)).symm
    · show [p] = [if z = z then p else kb z]
      rw [if_pos rfl]
def WalkR (ss : List Stf) (f : List Bool) (o : Option (List Bool)) (ws : List (List Bool)) : Prop := match o with
  | none => Paper ss f (wid ss f) ws ∧ ∀ m, ¬ SpL f (bodyF ss m)
  | some m => FirstSp ss f m ∧ m.length ≤ 600
def spWalk (C : Addr) : Sp := fun vs H Q _ => ∃ (a : Addr) (f : List Bool) (ss : List Stf), vs = [.ref a] ∧ RuAt C H a f ss ∧ StOk ss ∧ OkN 39 ss ∧ 2 ≤ f.length ∧ f.length ≤ 9 ∧
  ∀ t d o ws H', H t = none → H d = none → Same H H' → H' t = some (.tup [oW o, .ref d]) → H' d = some (.dK (kst ws)) → WalkR ss f o ws → Q (.ref t) H'
def spSpoiled (C : Addr) : Sp := fun vs H Q _ => ∃ (a : Addr) (f : List Bool) (ss : List Stf), vs = [.ref a] ∧ RuAt C H a f ss ∧ StOk ss ∧ OkN 39 ss ∧ 2 ≤ f.length ∧ f.length ≤ 9 ∧
  ∀ o H', Same H H' → (∃ ws, WalkR ss f o ws) → Q (oW o) H'
def spIsClean (C : Addr) : Sp := fun vs H Q _ => ∃ (a : Addr) (f : List Bool) (ss : List Stf), vs = [.ref a] ∧ RuAt C H a f ss ∧ StOk ss ∧ OkN 39 ss ∧ 2 ≤ f.length ∧ f.length ≤ 9 ∧
  ∀ b H', Same H H' → (b = true ↔ ∀ m, ¬ SpL f (bodyF ss m)) → Q (.bl b) H'
section
variable {P : Program} {w : World} {K : PySem.W.Frag} {mg : Str → Option Value} {base : Heap}
theorem sc_walk : FnScope ["rule", "known", "layer", "later", "message", "standing", "bit", "line", "there"] ["rule"] (fnScope s_walk) := fnScope_by (by decide +kernel)
theorem cal_walk {f C : Addr} {fd : FuncData} {tB : Tok} (F : Def K mg "walk" s_walk f fd) (b : Binds K fd ["rule"] []) (T : Tx mg) (RT : RuT K C) (g_BITS : mg "BITS" = some (.str "01" tB))
    (c_grown : Cal P w K mg base 3 "grown" (spGrown C) []) (c_last_bits : Cal P w K mg base 1 "last_bits" spLast []) (c_width : Cal P w K mg base 3 "width" (spWidth C) []) (c_is_border_clean : Cal P w K mg base 1 "is_border_clean" (spBord C) []) : Cal P w K mg base 4 "walk" (spWalk C) [] := by
  refine cal0 F b .nil sc_walk (fun vs H Q E h => ?_) (fun cdv A outer s H vs Q E hr h => ?_)
  · obtain ⟨_, _, _, rfl, _⟩ := h; rfl
  · obtain ⟨a, fl, ss, rfl, hR, ok, hO, f2, f9, k⟩ := h
    refine ⟨_, (pss_cons (ps_par (i := 1) (j := 2) (by rfl) sc_walk.nd rfl rfl (by decide) rfl rfl (pa_cons (pe_disp (pps_cons pe_str pe_bl pps_nil) (by rfl) (by rfl) (fun z => by cases z) (by decide)) (pa_cons (pe_lst (pa_cons (pe_tup (pa_cons pe_str (pa_cons pe_str pa_nil))) pa_nil)) pa_nil)) (by rfl))
    (pss_cons (ps_while PassesOwn.never (pt_cmpR op_gt (pe_callB call_len_seq (by rfl) T.b_len (by decide +kernel) (pa_cons (pv 2) pa_nil)) pe_int (nomark _))
    (pss_cons (ps_set (i := 3) sc_walk.nd rfl (.inl rfl) (pe_lst pa_nil))
    (pss_cons (ps_for PassesOwn.never rfl (pi_list (pv 2)) (pg_tup rfl (pgs_cons (pg_name (i := 4) sc_walk.nd rfl (.inl rfl)) (pgs_cons (pg_name (i := 5) sc_walk.nd rfl (.inl rfl)) pgs_nil)))
    (pss_one (ps_for PassesOwn.never rfl (pi_str (pe_glob (v := .str "01") (by rfl) g_BITS ⟨_, rfl⟩)) (pg_name (i := 6) sc_walk.nd rfl (.inl rfl))
    (pss_cons (ps_set (i := 7) sc_walk.nd rfl (.inl rfl) (pe_c c_grown hr (by decide) rfl (pa_cons (pv 0) (pa_cons (pv 5) (pa_cons (pv 6) pa_nil)))))
    (pss_cons (ps_set (i := 8) sc_walk.nd rfl (.inl rfl) (pe_c c_last_bits hr (by decide) rfl (pa_cons (pv 7) (pa_cons (pe_c c_width hr (by decide) rfl (pa_cons (pv 0) pa_nil)) pa_nil))))
    (pss_cons (ps_if (PW.pt (pw_or (pt_cmpR op_in_str (pe_fld (pv 0) rfl) (pv 7) (by with_unfolding_all rfl)) (pw_or1 (pt_not (pt_val (pe_c c_is_border_clean hr (by decide) rfl (pa_cons (pv 0) (pa_cons (pv 8) pa_nil)))))))) (pss_one (ps_ret (pe_tup (pa_cons (pe_joined (.cons (pe_fmt (pv 4)) (.cons (pe_fmt (pv 6)) .nil))) (pa_cons (pv 1) pa_nil))))) pss_nil)
    (pss_one (ps_if (pt_cmp (pc_dnotin (hu_of hr) (pv 8) (pv 1))) (pss_cons (ps_dput (hu_of hr) (pv 1) (pv 8) pe_bl rfl)
    (pss_one (ps_expr (pe_bm PySem.F.plainAttrs_list PySem.F.slot_list_append PySem.F.type_list_append mt_append (pv 3) (pa_cons (pe_tup (pa_cons (pe_joined (.cons (pe_fmt (pv 4)) (.cons (pe_fmt (pv 6)) .nil))) (pa_cons (pv 8) pa_nil))) pa_nil))))) pss_nil))))))))
    (pss_one (ps_set (i := 2) sc_walk.nd rfl (.inl rfl) (pv 3))))))
    (pss_one (ps_ret (pe_tup (pa_cons pe_non (pa_cons (pv 1) pa_nil))))))), ?_⟩
    have hf : fl ≠ [] := fun z => by rw [z] at f2; cases f2
    have hlm := ok.long
    have hw : fl.length ≤ wid ss fl + 1 := by rw [wid_eq]; omega
    have hw8 : wid ss fl ≤ 8 := by rw [wid_eq]; omega
    have hL : ∀ s ∈ ss, s.1.length ≤ wid ss fl + 1 := fun s hs => by have := longM_le hs; rw [wid_eq]; omega
    have hpw : 2 ^ (wid ss fl + 1) ≤ 512 := Nat.le_trans (Nat.pow_le_pow_right (by decide) (show wid ss fl + 1 ≤ 9 by omega)) (by decide)
    generalize hwd : wid ss fl = wd at hw hw8 hL hpw
    -- known, layer
    refine fun d nd => ⟨upd_same, [(.inr "", .bl true)], rfl, by decide, ?_⟩
    refine ⟨by show 2 ≤ sizeLine; decide, fun t0 nt0 => ⟨by show 1 ≤ sizeLine; decide, fun q0 nq0 => ⟨_, _, rfl, ?_⟩⟩⟩
    have e1 : mergeK [] [((.inr "" : Key), V.bl true)] = kst [[]] := by unfold kst; rw [List.map_cons, List.map_nil, ← W_nil]; rfl
    rw [e1] at nt0 nq0 ⊢
    have sd : Same H (upd (upd H d (.dK [])) d (.dK (kst [[]]))) := same_mut' (same_upd nd) nd
    have hd0 : upd (upd H d (.dK [])) d (.dK (kst [[]])) d = some (.dK (kst [[]])) := upd_same
    generalize upd (upd H d (.dK [])) d (.dK (kst [[]])) = H1 at nt0 nq0 sd hd0
    have st1 := same_upd (o := .tup [.str "", .str ""]) nt0
    have sq1 := same_upd (o := .lst [.ref t0]) nq0
    have hly0 : LyAt (upd (upd H1 t0 (.tup [.str "", .str ""])) q0 (.lst [.ref t0])) q0 [([], [])] := ⟨[t0], fun _ => ([], []), upd_same, fun t ht => by rw [List.mem_singleton.mp ht]; show _ = some (HO.tup [V.str (W []), V.str (W [])]); rw [← W_nil]; exact sq1 _ _ upd_same, rfl⟩
    have s1 := (sd.trans st1).trans sq1
    have hd1 := sq1 _ _ (st1 _ _ hd0)
    have nqH : H q0 = none := (sd.trans st1).free nq0
    generalize upd (upd H1 t0 (.tup [.str "", .str ""])) q0 (.lst [.ref t0]) = H2 at hly0 s1 hd1
    -- the layers
    refine ⟨fun m σ H3 => ∃ (n : Nat) (kn : List (List Bool)) (ly : List Pr) (q : Addr) (v3 v4 v5 v6 v7 v8 : Option V), σ = [some (.ref a), some (.ref d), some (.ref q), v3, v4, v5, v6, v7, v8] ∧ Same H H3 ∧ H3 d = some (.dK (kst kn)) ∧ LyAt H3 q ly ∧ WkL ss fl wd n kn ly ∧ (ly = [] ∨ n + 1 ≤ kn.length) ∧ m = (512 - kn.length) + (if ly = [] then 0 else 1),
      ⟨_, 0, [[]], [([], [])], q0, none, none, none, none, none, none, rfl, s1, hd1, hly0, .begin, .inr (Nat.le_refl _), rfl⟩, ?_⟩
    rintro m σ H3 ⟨n, kn, ly, q, v3, v4, v5, v6, v7, v8, rfl, s3, hd3, hly3, hk, hnk, hm⟩
    have fewk := words_le hk.nd hk.sh
    obtain ⟨ps, kb, hq3, hT3, rfl⟩ := id hly3
    refine ⟨_, rfl, q, _, rfl, .inl (SqL.of hq3), _, _, rfl, rfl, _, rfl, ?_⟩
    rw [List.length_map]
    by_cases hl0 : ps = []
    · -- the end
      subst hl0
      refine iteDF (by show ¬ (0 : Int) < ((0 : Nat) : Int); omega) ?_
      refine ⟨_, rfl, by show 2 ≤ sizeLine; decide, fun t nt => ?_⟩
      have ndH : H d = none := nd
      refine k t d none kn _ (s3.free nt) ndH (s3.trans (same_upd nt)) upd_same (same_upd nt _ _ hd3) ?_
      have := hk.clean hO hf hw hL
      rw [← hwd] at this
      exact this
    · have hpl : 0 < ps.length := List.length_pos_iff.mpr hl0
      have hnk := hnk.resolve_left fun z => hl0 (List.map_eq_nil_iff.mp z)
      refine iteDT (by show (0 : Int) < ((ps.length : Nat) : Int); omega) ?_
      refine ⟨fun σ' H' => ∃ m', m' < m ∧ ∃ (n : Nat) (kn : List (List Bool)) (ly : List Pr) (q : Addr) (v3 v4 v5 v6 v7 v8 : Option V), σ' = [some (.ref a), some (.ref d), some (.ref q), v3, v4, v5, v6, v7, v8] ∧ Same H H' ∧ H' d = some (.dK (kst kn)) ∧ LyAt H' q ly ∧ WkL ss fl wd n kn ly ∧ (ly = [] ∨ n + 1 ≤ kn.length) ∧ m' = (512 - kn.length) + (if ly = [] then 0 else 1), fun _ _ h => h, ?_⟩
      refine ⟨Nat.zero_le _, fun r nr => ?_⟩
      have sr := same_upd (o := .lst []) nr
      have ndH : H d = none := nd
      have nrH : H r = none := s3.free nr
      have hr4 : LyAt (upd H3 r (.lst [])) r [] := ⟨[], fun _ => ([], []), upd_same, (fun _ h => nomatch h), rfl⟩
      have s4 := s3.trans sr
      have hd4 := sr _ _ hd3
      have hq4 := sr _ _ hq3
      have hT4 : LyT (upd H3 r (.lst [])) kb ps := fun t ht => sr _ _ (hT3 t ht)
      have nqr : q ≠ r := ne_of_none hq3 nr
      generalize upd H3 r (.lst []) = H4 at hr4 s4 hd4 hq4 hT4
      refine ⟨_, rfl, q, rfl, ⟨_, SqL.of hq4⟩, ?_⟩
      refine for_it (walk_list (xs := ps.map V.ref)) (fun i σ H5 => ∃ (k1 : List (List Bool)) (lt : List Pr) (v4 v5 v6 v7 v8 : Option V), σ = [some (.ref a), some (.ref d), some (.ref q), some (.ref r), v4, v5, v6, v7, v8] ∧ Same H H5 ∧ H5 d = some (.dK (kst k1)) ∧ H5 q = some (.lst (ps.map V.ref)) ∧ LyT H5 kb ps ∧ LyAt H5 r lt ∧ WkE ss fl wd n kn (ps.map kb) i false k1 lt)
        ⟨kn, [], _, _, _, _, _, rfl, s4, hd4, hq4, hT4, hr4, .start hk⟩ (fun i σ H5 _ h5 => by obtain ⟨_, _, _, _, _, _, _, _, _, _, h, _⟩ := h5; exact SqL.of h) ?_ ?_
      · rintro i x σ H5 H5' hi ⟨k1, lt, v4, v5, v6, v7, v8, rfl, s5, hd5, hq5, hT5, hr5, hE5⟩ ⟨rfl, hx⟩
        rw [List.getElem?_map] at hx
        obtain ⟨y, hy, rfl⟩ := Option.map_eq_some_iff.mp hx
        have hym := List.mem_of_getElem? hy
        have hpi : (ps.map kb)[i]? = some (kb y) := by rw [List.getElem?_map, hy]; rfl
        have hpm : kb y ∈ ps.map kb := List.mem_of_getElem? hpi
        refine ⟨y, _, rfl, SqT.of (hT5 y hym), rfl, _, _, rfl, _, _, rfl, rfl, ?_⟩
        obtain ⟨⟨msg, st⟩, hkb⟩ : ∃ z, kb y = z := ⟨_, rfl⟩
        rw [hkb] at hpi hpm
        obtain ⟨lm, lst, lkn⟩ := hk.l1 _ hpm
        dsimp only at lm lst lkn
        have lst8 : st.length ≤ wd := hk.sh _ lkn
        -- both bits
        have e01 : ("01" : Str) = W [false, true] := by decide +kernel
        refine ⟨_, rfl, for_it walk_str (fun j σ H6 => ∃ (k1 : List (List Bool)) (lt : List Pr) (v6 v7 v8 : Option V), σ = [some (.ref a), some (.ref d), some (.ref q), some (.ref r), some (.str (W msg)), some (.str (W st)), v6, v7, v8] ∧ Same H H6 ∧ H6 d = some (.dK (kst k1)) ∧ H6 q = some (.lst (ps.map V.ref)) ∧ LyT H6 kb ps ∧ LyAt H6 r lt ∧ WkE ss fl wd n kn (ps.map kb) (if j = 2 then i + 1 else i) (decide (j = 1)) k1 lt)
          ⟨k1, lt, _, _, _, by rw [hkb]; rfl, s5, hd5, hq5, hT5, hr5, hE5⟩ (fun _ _ _ _ _ => trivial) ?_ ?_⟩
        · rintro j x σ H6 H6' hj ⟨k1, lt, v6, v7, v8, rfl, s6, hd6, hq6, hT6, hr6, hE6⟩ ⟨rfl, c, hc, rfl⟩
          rw [e01] at hc
          obtain ⟨bb, hbb, rfl⟩ := W_get hc
          have hj2 : j < 2 := (List.getElem?_eq_some_iff.mp hbb).1
          have ebb : bb = decide (j = 1) := by
            match j, hj2, hbb with
            | 0, _, h => exact (Option.some.inj h).symm
            | 1, _, h => exact (Option.some.inj h).symm
          rw [if_neg (by omega : ¬ j = 2), ← ebb] at hE6
          have enx : (if j + 1 = 2 then i + 1 else i) = (if bb = true then i + 1 else i) ∧ decide (j + 1 = 1) = !bb := by
            match j, hj2 with
            | 0, _ => rw [ebb]; exact ⟨rfl, rfl⟩
            | 1, _ => rw [ebb]; exact ⟨rfl, rfl⟩
          have fewk1 := words_le hE6.nd hE6.sh
          have hum : ¬ SpL fl (bodyF ss msg) := hk.a msg (by omega)
          obtain ⟨⟨gx, hgx, lgx, e40⟩, _, _⟩ := edge_at hO hf hw hL hum bb
          rw [← lst] at hgx e40
          -- line
          refine ⟨_, rfl, _, rfl, _, rfl, a, fl, ss, st, bb, rfl, hR.same s6, ok.few, hlm, by omega, fun o H7 hG s7 => ?_⟩
          have eo := hG.1 gx hgx
          subst eo
          have llen : (st ++ [bb] ++ gx).length ≤ 60 := by simp only [List.length_append, List.length_cons, List.length_nil]; omega
          have hed : edge ss fl wd st bb = if infx fl (st ++ [bb] ++ gx) || !bordM fl (tl wd (st ++ [bb] ++ gx)) then none else some (tl wd (st ++ [bb] ++ gx)) := by unfold edge; rw [e40]
          generalize st ++ [bb] ++ gx = ln at llen hed
          have s67 := s6.trans s7
          -- there
          refine ⟨_, rfl, _, rfl, a, fl, ss, rfl, hR.same s67, ok.few, fun s hs => Nat.le_trans (ok.l9 s hs) (by decide), by omega, by omega, fun H8 s8 => ?_⟩
          rw [hwd]
          refine ⟨ln, wd, rfl, by omega, ?_⟩
          have s68 := s67.trans s8
          have s78 := s7.trans s8
          have hd8 := s78 _ _ hd6
          have lt8 : (tl wd ln).length ≤ 8 := Nat.le_trans (tl_le _ _) hw8
          obtain ⟨dx, t, ha⟩ := (show ∃ dx t, H8 a = some (.ins C dx (ruF fl t)) from by obtain ⟨dx, t, _, _, ha, _⟩ := hR.same s68; exact ⟨dx, t, ha⟩)
          have m2000 : msg.length + 1 ≤ 600 := by omega
          have lms : (W msg).length = msg.length := W_len _
          have lbb : (⟨#[bt bb]⟩ : Str).length = 1 := W_len [bb]
          have lmb : W msg ++ (⟨#[bt bb]⟩ : Str) = W (msg ++ [bb]) := W_cat msg [bb]
          have bad : edge ss fl wd st bb = none → ∀ {H9 : Hp}, Same H8 H9 → tTup (tCons (fun σ H Q => tJs [tFmt (tVar 4), tFmt (tVar 6)] Str.empty σ H fun out H1 => Q (.str out) H1) (tCons (tVar 1) tNil)) [some (.ref a), some (.ref d), some (.ref q), some (.ref r), some (.str (W msg)), some (.str (W st)), some (.str ⟨#[bt bb]⟩), some (.str (W ln)), some (.str (W (tl wd ln)))] H9 Q := by
            intro hb H9 s9
            refine ⟨_, rfl, .inl ⟨_, rfl, by rw [lms]; exact sl_len (by omega), _, rfl, by rw [eW, lms]; exact sl_len (by omega), ?_⟩⟩
            refine ⟨_, rfl, .inl ⟨_, rfl, by rw [lbb]; decide, _, rfl, by rw [eW, lmb, W_len, List.length_append]; exact sl_len (by show _ + 1 ≤ _; omega), ?_⟩⟩
            rw [eW, lmb]
            refine ⟨_, rfl, by show 2 ≤ sizeLine; decide, fun tt ntt => ?_⟩
            have s9' := s68.trans s9
            exact k tt d (some (msg ++ [bb])) k1 _ (s9'.free ntt) ndH (s9'.trans (same_upd ntt)) upd_same (same_upd ntt _ _ (s9 _ _ hd8)) ⟨WkE.bad hO hf hw hL hk hE6 hpi hb, by rw [List.length_append]; exact m2000⟩
          refine ⟨_, rfl, a, C, dx, _, _, rfl, ha, RT.cl, RT.nF, ruF_flag _ _, _, rfl, _, _, rfl, rfl, _, rfl, ?_⟩
          rw [in_W]
          cases hin : infx fl ln with
          | true =>
            refine iteT (bad (by rw [hed, hin]; rfl) (Same.refl _))
          | false =>
            refine iteF ⟨_, rfl, _, rfl, a, fl, ss, _, rfl, hR.same s68, by omega, by omega, fun H9 s9 => ⟨_, rfl, ?_⟩⟩
            have s69 := s68.trans s9
            have s79 := s78.trans s9
            cases hbo : bordM fl (tl wd ln) with
            | false => exact iteT (bad (by rw [hed, hin, hbo]; rfl) s9)
            | true =>
              have hes : edge ss fl wd st bb = some (tl wd ln) := by rw [hed, hin, hbo]; rfl
              obtain ⟨nx1, nx2⟩ := hE6.next hO hf hw hL hk hpi hes
              rw [← enx.1, ← enx.2] at nx1 nx2
              have hd9 := s79 _ _ hd6
              have hq9 := s79 _ _ hq6
              have hT9 : LyT H9 kb ps := fun t ht => s79 _ _ (hT6 t ht)
              have hr9 := hr6.same s79
              refine iteF ⟨_, rfl, _, rfl, d, _, rfl, DGet.k (k := .inr (W (tl wd ln))) hd9, _, rfl, ?_⟩
              by_cases nin : tl wd ln ∈ k1
              · refine iteBF (by rw [val_in nin]; rfl) ?_
                exact ⟨k1, lt, _, _, _, rfl, s69, hd9, hq9, hT9, hr9, nx1 nin⟩
              · refine iteBT (by rw [val_out nin]; rfl) ?_
                refine ⟨_, rfl, _, rfl, d, _, rfl, DPut.k (k := .inr (W (tl wd ln))) hd9 (by unfold kst; rw [List.length_map]; exact sl_lt (by omega)), ?_⟩
                rw [put_out nin]
                have s10 : Same H (upd H9 d (.dK (kst (k1 ++ [tl wd ln])))) := same_mut' s69 ndH
                have hd10 : upd H9 d (.dK (kst (k1 ++ [tl wd ln]))) d = some (.dK (kst (k1 ++ [tl wd ln]))) := upd_same
                have hq10 : upd H9 d (.dK (kst (k1 ++ [tl wd ln]))) q = some (.lst (ps.map V.ref)) := by rw [upd_ne (ne_of hq9 hd9 (by intro z; cases z))]; exact hq9
                have hT10 := hT9.dk (o := .dK (kst (k1 ++ [tl wd ln]))) hd9
                have hr10 := hr9.dk (o := .dK (kst (k1 ++ [tl wd ln]))) hd9
                generalize upd H9 d (.dK (kst (k1 ++ [tl wd ln]))) = H10 at s10 hd10 hq10 hT10 hr10
                obtain ⟨rs, kc, hr11, hTr, elt⟩ := hr10
                have lrs : rs.length ≤ 512 := by
                  have := hE6.app
                  have := congrArg List.length elt
                  rw [List.length_map] at this
                  omega
                refine ⟨_, rfl, .inl ⟨rfl, _, SqL.of hr11⟩, ?_⟩
                refine ⟨_, rfl, .inl ⟨_, rfl, by rw [lms]; exact sl_len (by omega), _, rfl, by rw [eW, lms]; exact sl_len (by omega), ?_⟩⟩
                refine ⟨_, rfl, .inl ⟨_, rfl, by rw [lbb]; decide, _, rfl, by rw [eW, lmb, W_len, List.length_append]; exact sl_len (by show _ + 1 ≤ _; omega), ?_⟩⟩
                rw [eW, lmb]
                refine ⟨_, rfl, by show 2 ≤ sizeLine; decide, fun tt ntt => ?_⟩
                have stt := same_upd (o := .tup [.str (W (msg ++ [bb])), .str (W (tl wd ln))]) ntt
                refine ⟨r, _, _, rfl, rfl, stt _ _ hr11, by rw [List.length_map]; exact sl_lt (by omega), ?_⟩
                have hpush := ly_push (p := (msg ++ [bb], tl wd ln)) hr11 hTr elt ntt
                refine ⟨k1 ++ [tl wd ln], lt ++ [(msg ++ [bb], tl wd ln)], _, _, _, rfl, same_mut' (s10.trans stt) nrH, ?_, ?_, fun t ht => ?_, hpush, nx2 nin⟩
                · rw [upd_ne (ne_of hd10 hr11 (by intro z; cases z))]
                  exact stt _ _ hd10
                · rw [upd_ne nqr]
                  exact stt _ _ hq10
                · rw [upd_ne (ne_of (hT10 t ht) hr11 (by intro z; cases z))]
                  exact stt _ _ (hT10 t ht)
        · rintro σ H6 ⟨k1, lt, v6, v7, v8, rfl, s6, hd6, hq6, hT6, hr6, hE6⟩
          exact ⟨k1, lt, _, _, _, _, _, rfl, s6, hd6, hq6, hT6, hr6, hE6⟩
      · rintro σ H5 ⟨k1, lt, v4, v5, v6, v7, v8, rfl, s5, hd5, hq5, hT5, hr5, hE5⟩
        rw [List.length_map] at hE5
        have hE5' : WkE ss fl wd n kn (ps.map kb) (ps.map kb).length false k1 lt := by rw [List.length_map]; exact hE5
        have hk' := hE5'.done hO hf hw hL hk
        have fewk1 := words_le hE5.nd hE5.sh
        have happ := hE5.app
        refine ⟨_, rfl, _, ?_, n + 1, k1, lt, r, _, _, _, _, _, _, rfl, s5, hd5, hr5, hk', ?_, rfl⟩
        · have : ¬ ps.map kb = [] := fun z => hl0 (List.map_eq_nil_iff.mp z)
          rw [hm, if_neg this]
          split
          · omega
          · rename_i c
            have := List.length_pos_iff.mpr c
            omega
        · by_cases c : lt = []
          · exact .inl c
          · have := List.length_pos_iff.mpr c
            exact .inr (by omega)
end
end U

set_option maxRecDepth 100000
set_option maxHeartbeats 4000000
namespace U
open PySem PySem.Spec PyProof.Rows
open L2 hiding Fun CX0 E0 pass0 Fun.binds
open C8 Lx SX StX
/-! papers that a rule is clean -/
def wvs (ws : List (List Bool)) : List V := ws.map fun w => V.str (W w)
theorem wvs_get {ws : List (List Bool)} {i : Nat} {x : V} (h : (wvs ws)[i]? = some x) : ∃ w, ws[i]? = some w ∧ x = .str (W w) := by
  unfold wvs at h
  rw [List.getElem?_map] at h
  obtain ⟨w, hw, rfl⟩ := Option.map_eq_some_iff.mp h
  exact ⟨w, hw, rfl⟩
theorem kst_keys (ws : List (List Bool)) : ((kst ws).map fun kv => kV kv.1) = wvs ws := by unfold kst wvs; rw [List.map_map]; rfl
theorem put_in {ws : List (List Bool)} {w : List Bool} (h : w ∈ ws) : putK (kst ws) (Sum.inr (W w)) (.bl true) = kst ws := by
  have e : ((kst ws).any fun kv => decide (kv.1 = Sum.inr (W w))) = true := by
    rw [List.any_eq_true]
    exact ⟨(Sum.inr (W w), .bl true), List.mem_map.mpr ⟨w, h, rfl⟩, decide_eq_true rfl⟩
  unfold putK
  rw [if_pos e]
  refine (List.map_congr_left fun kv hk => ?_).trans (List.map_id _)
  unfold kst at hk
  obtain ⟨x, _, rfl⟩ := List.mem_map.mp hk
  split <;> rfl
/-- the words of a row, each once -/
def dd (ws : List (List Bool)) : List (List Bool) := ws.foldl (fun l w => if w ∈ l then l else l ++ [w]) []
theorem dd_snoc (ws : List (List Bool)) (w : List Bool) : dd (ws ++ [w]) = if w ∈ dd ws then dd ws else dd ws ++ [w] := by unfold dd; rw [List.foldl_append]; rfl
theorem mem_dd {x : List Bool} : ∀ {ws : List (List Bool)}, x ∈ dd ws ↔ x ∈ ws := by
  intro ws
  have : ∀ n (ws : List (List Bool)), ws.length = n → (x ∈ dd ws ↔ x ∈ ws) := by
    intro n
    induction n with
    | zero => intro ws h; rw [List.length_eq_zero_iff.mp h]; exact Iff.rfl
    | succ n ih =>
      intro ws h
      rcases List.eq_nil_or_concat ws with z | ⟨l, w, z⟩
      · rw [z] at h; cases h
      · rw [List.concat_eq_append] at z
        subst z
        have il := ih l (by rw [List.length_append] at h; simpa using h)
        rw [dd_snoc, List.mem_append, List.mem_singleton]
        split
        · rename_i c
          constructor
          · intro q; exact .inl (il.mp q)
          · rintro (q | q)
            · exact il.mpr q
            · rw [q]; exact c
        · rw [List.mem_append, List.mem_singleton, il]
  exact this ws.length ws rfl
theorem dd_len (ws : List (List Bool)) : (dd ws).length ≤ ws.length := by
  have : ∀ n (ws : List (List Bool)), ws.length = n → (dd ws).length ≤ ws.length := by
    intro n
    induction n with
    | zero => intro ws h; rw [List.length_eq_zero_iff.mp h]; exact Nat.le_refl _
    | succ n ih =>
      intro ws h
      rcases List.eq_nil_or_concat ws with z | ⟨l, w, z⟩
      · rw [z] at h; cases h
      · rw [List.concat_eq_append] at z
        subst z
        have il := ih l (by rw [List.length_append] at h; simpa using h)
        rw [dd_snoc, List.length_append]
        split
        · simp; omega
        · rw [List.length_append]; simp; omega
  exact this ws.length ws rfl
/-- a bit leads from a standing, without a flag, to a known one -/
def StepOk (ss : List Stf) (f : List Bool) (ws : List (List Bool)) (t : List Bool) (b : Bool) : Prop := ∃ x, Ins ss (t ++ [b]) x ∧ infx f (t ++ [b] ++ x) = false ∧ tl (wid ss f) (t ++ [b] ++ x) ∈ ws
def Holds (ss : List Stf) (f : List Bool) (ws : List (List Bool)) : Prop := [] ∈ ws ∧ ∀ t ∈ ws, infx f t = false ∧ bordM f t = true ∧ ∀ b, StepOk ss f ws t b
structure RuC (ss : List Stf) (f : List Bool) : Prop where
  ok : StOk ss
  f2 : 2 ≤ f.length
  f9 : f.length ≤ 9
def spRStep (C : Addr) : Sp := fun vs H Q _ => ∃ (a d : Addr) (f : List Bool) (ss : List Stf) (st : List Bool) (b : Bool) (ws : List (List Bool)), vs = [.ref a, .str (W st), .str (W [b]), .ref d] ∧ RuAt C H a f ss ∧ RuC ss f ∧ st.length ≤ 1000 ∧ Rd H d (.dK (kst ws)) ∧
  ∀ r H', Same H H' → (r = true ↔ StepOk ss f ws st b) → Q (.bl r) H'
def spPaper (C : Addr) : Sp := fun vs H Q _ => ∃ (a : Addr) (f : List Bool) (ss : List Stf), vs = [.ref a] ∧ RuAt C H a f ss ∧ RuC ss f ∧ OkN 39 ss ∧
  ∀ v H', Same H H' → ((∃ t ws, v = .ref t ∧ H t = none ∧ H' t = some (.tup (wvs ws)) ∧ Paper ss f (wid ss f) ws ∧ ∀ m, ¬ SpL f (bodyF ss m)) ∨ (v = .non ∧ ∃ m, SpL f (bodyF ss m))) → Q v H'
def spHolds (K : PySem.W.Frag) (C : Addr) : Sp := fun vs H Q _ => ∃ (a : Addr) (f : List Bool) (ss : List Stf) (v : V), vs = [.ref a, v] ∧ RuAt C H a f ss ∧ RuC ss f ∧
  ((∃ t ws, v = .ref t ∧ H t = some (.tup (wvs ws)) ∧ ws.length ≤ 5000 ∧ (∀ w ∈ ws, w.length ≤ 1000) ∧ ∀ r H', Same H H' → (r = true ↔ Holds ss f ws) → Q (.bl r) H') ∨
   (∃ ty, TyX K H v ty ∧ PySem.W.kitOne K ty (.type "tuple") = some false ∧ Q (.bl false) H))
theorem Rd.same {H H' : Hp} {a : Addr} {u : HO} (h : Rd H a u) (s : Same H H') : Rd H' a u := h.elim (fun h => .inl (s _ _ h)) fun ⟨o, h⟩ => .inr ⟨o, s _ _ h⟩
/-- the standings of a clean rule are a right paper -/
theorem Paper.holds {ss : List Stf} {f : List Bool} {ws : List (List Bool)} (o : OkN 39 ss) (c : RuC ss f) (p : Paper ss f (wid ss f) ws) (cl : ∀ m, ¬ SpL f (bodyF ss m)) : Holds ss f ws := by
  have hf : f ≠ [] := fun z => by have := c.f2; rw [z] at this; cases this
  have hw : f.length ≤ wid ss f + 1 := by rw [wid_eq]; omega
  have hL : ∀ s ∈ ss, s.1.length ≤ wid ss f + 1 := fun s hs => by have := longM_le hs; rw [wid_eq]; omega
  refine ⟨p.nil, fun t ht => ?_⟩
  obtain ⟨m, rfl⟩ := p.g t ht
  have nsp : ¬ SpL f (stand ss (wid ss f) m) := fun z => cl m (by
    have e := tl_split (wid ss f) (bodyF ss m)
    rw [e]
    exact sp_front z)
  refine ⟨?_, bordM_iff.mpr nsp, fun b => ?_⟩
  · rw [← Bool.not_eq_true]
    exact fun z => nsp (SpL.infx hf z)
  · obtain ⟨⟨x, hx, _, e40⟩, _, _⟩ := edge_at o hf hw hL (cl m) b
    obtain ⟨u, hu, he⟩ := p.cl _ ht b
    unfold edge at he
    rw [e40] at he
    split at he
    · cases he
    · rename_i hn
      have hn : (infx f (stand ss (wid ss f) m ++ [b] ++ x) || !bordM f (tl (wid ss f) (stand ss (wid ss f) m ++ [b] ++ x))) = false := by rw [← Bool.not_eq_true]; exact hn
      refine ⟨x, hx, (Bool.or_eq_false_iff.mp hn).1, ?_⟩
      rw [Option.some.inj he]
      exact hu
section
variable {P : Program} {w : World} {K : PySem.W.Frag} {mg : Str → Option Value} {base : Heap}
theorem sc_is_right_step : FnScope ["rule", "standing", "bit", "known", "line"] ["rule", "standing", "bit", "known"] (fnScope s_is_right_step) := fnScope_by (by decide +kernel)
theorem cal_is_right_step {f C : Addr} {fd : FuncData} (F : Def K mg "is_right_step" s_is_right_step f fd) (b : Binds K fd ["rule", "standing", "bit", "known"] []) (T : Tx mg) (RT : RuT K C)
    (c_grown : Cal P w K mg base 3 "grown" (spGrown C) []) (c_last_bits : Cal P w K mg base 1 "last_bits" spLast []) (c_width : Cal P w K mg base 3 "width" (spWidth C) []) : Cal P w K mg base 4 "is_right_step" (spRStep C) [] := by
  refine cal0 F b .nil sc_is_right_step (fun vs H Q E h => ?_) (fun cdv A outer s H vs Q E hr h => ?_)
  · obtain ⟨_, _, _, _, _, _, _, rfl, _⟩ := h; rfl
  · obtain ⟨a, d, fl, ss, st, bb, ws, rfl, hR, c, hl, hd, k⟩ := h
    refine ⟨_, (pss_cons (ps_set (i := 4) sc_is_right_step.nd rfl (.inl rfl) (pe_c c_grown hr (by decide) rfl (pa_cons (pv 0) (pa_cons (pv 1) (pa_cons (pv 2) pa_nil)))))
    (pss_one (ps_ret (pe_and (pe_cmpR op_notN (pv 4) pe_non (nomark _)) (pe_and (pe_cmpR op_notin_str (pe_fld (pv 0) rfl) (pv 4) (by with_unfolding_all rfl)) (pe_one (pe_cmp (pc_din (hu_of hr) (pe_c c_last_bits hr (by decide) rfl (pa_cons (pv 4) (pa_cons (pe_c c_width hr (by decide) rfl (pa_cons (pv 0) pa_nil)) pa_nil))) (pv 3))))))))), ?_⟩
    have hlm := c.ok.long
    have f2 := c.f2
    have f9 := c.f9
    refine ⟨_, rfl, _, rfl, _, rfl, a, fl, ss, st, bb, rfl, hR, c.ok.few, hlm, by omega, fun o H1 hG s1 => ?_⟩
    refine ⟨_, rfl, rfl, ?_⟩
    have en : decide (oW o = .non) = o.isNone := by cases o with
      | none => rfl
      | some x => exact decide_eq_false nofun
    rw [en]
    cases o with
    | none =>
      refine ⟨_, rfl, k false H1 s1 ⟨fun z => (by cases z), fun ⟨x, hx, _⟩ => ?_⟩⟩
      have := hG.1 x hx
      cases this
    | some ln =>
      obtain ⟨x, hx, rfl⟩ : ∃ x, Ins ss (st ++ [bb]) x ∧ ln = st ++ [bb] ++ x := by
        rcases Classical.em (∃ x, Ins ss (st ++ [bb]) x) with ⟨x, hx⟩ | h
        · exact ⟨x, hx, Option.some.inj (hG.1 x hx)⟩
        · have := hG.2 fun x hx => h ⟨x, hx⟩
          cases this
      have lx : x.length ≤ 1100 := by
        have := hx.len (L := longM ss) fun s hs => longM_le hs
        have h2 : 2 ^ (longM ss + 1) ≤ 1024 := Nat.le_trans (Nat.pow_le_pow_right (by decide) (show longM ss + 1 ≤ 10 by omega)) (by decide)
        omega
      have fin : ∀ {r : Bool} {H2 : Hp}, Same H H2 → (r = true ↔ (infx fl (st ++ [bb] ++ x) = false ∧ tl (wid ss fl) (st ++ [bb] ++ x) ∈ ws)) → Q (.bl r) H2 := fun s2 hr => k _ _ s2 (hr.trans ⟨fun z => ⟨x, hx, z⟩, fun ⟨y, hy, z⟩ => by rw [hx.det hy]; exact z⟩)
      have ll : (st ++ [bb] ++ x).length ≤ 3000 := by simp only [List.length_append, List.length_cons, List.length_nil]; omega
      generalize st ++ [bb] ++ x = ln at fin ll
      obtain ⟨dx, t, _, _, ha, _⟩ := id (hR.same s1)
      refine ⟨_, rfl, iteT ⟨_, rfl, a, C, dx, _, _, rfl, ha, RT.cl, RT.nF, ruF_flag _ _, _, rfl, _, _, rfl, rfl, ?_⟩⟩
      have ein : (Builtin.Str.occurrences (W ln) (W fl) 0 (W ln).length 1).isEmpty = !infx fl ln := by rw [← in_W, Bool.not_not]
      refine ⟨_, rfl, ?_⟩
      rw [ein]
      cases hin : infx fl ln with
      | true => exact fin s1 ⟨fun z => (by cases z), fun z => (by rw [hin] at z; exact absurd z.1 (by decide))⟩
      | false =>
        refine iteT ⟨_, rfl, _, rfl, a, fl, ss, rfl, hR.same s1, c.ok.few, fun s hs => Nat.le_trans (c.ok.l9 s hs) (by decide), by omega, by omega, fun H2 s2 => ?_⟩
        refine ⟨ln, wid ss fl, rfl, by omega, _, rfl, d, _, rfl, .inl ⟨kst ws, .inr (W (tl (wid ss fl) ln)), Rd.same hd (s1.trans s2), rfl, rfl⟩, ?_⟩
        by_cases nin : tl (wid ss fl) ln ∈ ws
        · rw [val_in nin]
          exact fin (s1.trans s2) ⟨fun _ => ⟨hin, nin⟩, fun _ => rfl⟩
        · rw [val_out nin]
          exact fin (s1.trans s2) ⟨fun z => (by cases z), fun z => absurd z.2 nin⟩
theorem sc_clean_paper : FnScope ["rule", "message", "known"] ["rule"] (fnScope s_clean_paper) := fnScope_by (by decide +kernel)
theorem cal_clean_paper {f C : Addr} {fd : FuncData} (F : Def K mg "clean_paper" s_clean_paper f fd) (b : Binds K fd ["rule"] []) (T : Tx mg) (c_walk : Cal P w K mg base 4 "walk" (spWalk C) []) : Cal P w K mg base 5 "clean_paper" (spPaper C) [] := by
  refine cal0 F b .nil sc_clean_paper (fun vs H Q E h => ?_) (fun cdv A outer s H vs Q E hr h => ?_)
  · obtain ⟨_, _, _, rfl, _⟩ := h; rfl
  · obtain ⟨a, fl, ss, rfl, hR, c, hO, k⟩ := h
    refine ⟨_, (pss_cons (ps_asg (pe_c c_walk hr (by decide) rfl (pa_cons (pv 0) pa_nil)) (pg_tup rfl (pgs_cons (pg_name (i := 1) sc_clean_paper.nd rfl (.inl rfl)) (pgs_cons (pg_name (i := 2) sc_clean_paper.nd rfl (.inl rfl)) pgs_nil))))
    (pss_one (ps_ret (pe_ifExp (pt_cmpR op_isN (pv 1) pe_non (nomark _)) (pe_callTy (call_tupleD rfl) (by rfl) T.b_tuple (by decide +kernel) (pa_cons (pv 2) pa_nil)) pe_non)))), ?_⟩
    refine ⟨_, rfl, a, fl, ss, rfl, hR, c.ok, hO, c.f2, c.f9, fun t d o ws H1 nt nd s1 ht hd hW => ?_⟩
    refine ⟨t, _, rfl, SqT.of ht, rfl, _, _, rfl, _, _, rfl, rfl, ?_⟩
    refine ⟨_, rfl, rfl, _, rfl, ?_⟩
    have en : decide (oW o = .non) = o.isNone := by cases o with
      | none => rfl
      | some x => exact decide_eq_false nofun
    rw [en]
    cases o with
    | none =>
      refine iteT ⟨_, rfl, d, _, rfl, .inl hd, fun p np => ?_⟩
      rw [kst_keys]
      exact k _ _ (s1.trans (same_upd np)) (.inl ⟨p, ws, rfl, s1.free np, upd_same, hW.1, hW.2⟩)
    | some m => exact k .non H1 s1 (.inr ⟨rfl, m, hW.1.1⟩)
theorem sc_clean_paper_holds : FnScope ["rule", "value", "standing", "known", "bit"] ["rule", "value"] (fnScope s_clean_paper_holds) := fnScope_by (by decide +kernel)
theorem cal_clean_paper_holds {f C : Addr} {fd : FuncData} {tB : Tok} (F : Def K mg "clean_paper_holds" s_clean_paper_holds f fd) (b : Binds K fd ["rule", "value"] []) (T : Tx mg) (RT : RuT K C) (g_BITS : mg "BITS" = some (.str "01" tB))
    (c_is_word : Cal P w K mg base 1 "is_word" (spIsWord K) []) (c_is_border_clean : Cal P w K mg base 1 "is_border_clean" (spBord C) []) (c_is_right_step : Cal P w K mg base 4 "is_right_step" (spRStep C) []) : Cal P w K mg base 5 "clean_paper_holds" (spHolds K C) [] := by
  refine cal0 F b .nil sc_clean_paper_holds (fun vs H Q E h => ?_) (fun cdv A outer s H vs Q E hr h => ?_)
  · obtain ⟨_, _, _, _, rfl, _⟩ := h; rfl
  · obtain ⟨a, fl, ss, v, rfl, hR, c, hv⟩ := h
    refine ⟨_, (pss_cons (ps_if (PW.pt (pw_or (pt_not (pt_val (pe_callB call_isi (by rfl) T.b_isinstance (by decide +kernel) (pa_cons (pv 1) (pa_cons (pe_bltn (v := .ty "tuple") (u := .type "tuple") (by rfl) T.b_tuple (by decide +kernel) rfl) pa_nil))))) (pw_or (pt_not (pt_val (pe_callB (cr_all rfl) (by rfl) T.b_all (by decide +kernel) (pa_cons (pe_lc (own := [("standing", 2)]) (g := gName 2) (by rfl) sc_clean_paper_holds.nd (pi_tup (pv 1)) (blkOk_by (own := [("standing", 2)]) (N := ["rule", "value", "standing", "known", "bit"]) (sc := fnScope s_clean_paper_holds) (by decide +kernel)) (fun _ _ _ _ _ => (pg_name (i := 2) sc_clean_paper_holds.nd rfl (.inl rfl))) (fun _ _ _ _ _ => pts_nil) (fun _ _ _ _ _ => (pe_c c_is_word hr (by decide) rfl (pa_cons (pv 2) pa_nil)))) pa_nil)))) (pw_or1 (pt_cmpR op_notIn_seq pe_str (pv 1) (by with_unfolding_all rfl)))))) (pss_one (ps_ret pe_bl)) pss_nil)
    (pss_cons (ps_set (i := 3) sc_clean_paper_holds.nd rfl (.inr rfl) (pe_dc (own := [("standing", 2)]) (g := gName 2) (by rfl) sc_clean_paper_holds.nd (pi_tup (pv 1)) (blkOk_by (own := [("standing", 2)]) (N := ["rule", "value", "standing", "known", "bit"]) (sc := fnScope s_clean_paper_holds) (by decide +kernel)) (fun _ _ _ _ _ => (pg_name (i := 2) sc_clean_paper_holds.nd rfl (.inl rfl))) (fun _ _ _ _ _ => pts_nil) (fun _ _ _ _ _ => (pv 2)) (fun _ _ _ _ _ => pe_bl)))
    (pss_cons (ps_lock (ps_for PassesOwn.never rfl (pi_keys (pv 3)) (pg_name (i := 2) sc_clean_paper_holds.nd rfl (.inr rfl))
    (pss_cons (ps_if (PW.pt (pw_or (pt_cmpR op_in_str (pe_fld (pv 0) rfl) (pv 2) (by with_unfolding_all rfl)) (pw_or1 (pt_not (pt_val (pe_c c_is_border_clean hr (by decide) rfl (pa_cons (pv 0) (pa_cons (pv 2) pa_nil)))))))) (pss_one (ps_ret pe_bl)) pss_nil)
    (pss_one (ps_if (pt_not (pt_val (pe_callB (cr_all rfl) (by rfl) T.b_all (by decide +kernel) (pa_cons (pe_lc (own := [("bit", 4)]) (g := gName 4) (by rfl) sc_clean_paper_holds.nd (pi_str (pe_glob (v := .str "01") (by rfl) g_BITS ⟨_, rfl⟩)) (blkOk_by (own := [("bit", 4)]) (N := ["rule", "value", "standing", "known", "bit"]) (sc := fnScope s_clean_paper_holds) (by decide +kernel)) (fun _ _ _ _ _ => (pg_name (i := 4) sc_clean_paper_holds.nd rfl (.inl rfl))) (fun _ _ _ _ _ => pts_nil) (fun _ _ _ _ _ => (pe_c c_is_right_step hr (by decide) rfl (pa_cons (pv 0) (pa_cons (pv 2) (pa_cons (pv 4) (pa_cons (pv 3) pa_nil))))))) pa_nil)))) (pss_one (ps_ret pe_bl)) pss_nil)))))
    (pss_one (ps_ret pe_bl))))), ?_⟩
    rcases hv with ⟨t, ws, rfl, ht, lws, lw, k⟩ | ⟨ty, hty, hk, k⟩
    · refine ⟨_, rfl, _, _, _, _, true, rfl, .ty _, .base (.tup ht), kit_ty (by decide +kernel), _, rfl, iteF ?_⟩
      -- all words
      refine ⟨_, rfl, t, rfl, ⟨_, SqT.of ht⟩, fun D nD => ?_⟩
      refine lc_it (walk_tup (xs := wvs ws)) (fun i H2 => Same H H2 ∧ H2 D = some (.lst ((List.replicate i true).map V.bl))) ⟨same_upd nD, upd_same⟩ (fun i H2 _ h2 => SqT.of (h2.1 _ _ ht)) ?_ ?_
      · rintro i x H2 H3 hi ⟨s2, hD⟩ ⟨rfl, hx⟩
        obtain ⟨v, hv, rfl⟩ := wvs_get hx
        have lv := lw v (List.mem_of_getElem? hv)
        have hi' := (List.getElem?_eq_some_iff.mp hv).1
        refine ⟨rfl, _, rfl, _, rfl, .inl ⟨_, rfl, by rw [W_len]; omega, fun H4 s4 => ⟨_, s4 _ _ hD, by rw [List.length_map, List.length_replicate]; exact sl_lt (by omega), same_mut' (s2.trans s4) nD, ?_⟩⟩⟩
        rw [upd_same, isW_W, List.replicate_succ', List.map_append]
        rfl
      · rintro H2 ⟨s2, hD⟩
        refine ⟨D, _, rfl, SqL.of hD, _, rfl, iteBF (by rw [Bool.not_eq_false', List.all_eq_true]; intro x hx; rw [(List.mem_replicate.mp hx).2]; rfl) ?_⟩
        have ht2 := s2 _ _ ht
        refine ⟨_, rfl, t, _, rfl, .inr (SqT.of ht2), rfl, by unfold wvs; rw [List.all_map, List.all_eq_true]; intro x _; rfl, _, rfl, ?_⟩
        have ein : inV (.str "") (wvs ws) = decide ([] ∈ ws) := by
          unfold inV wvs
          rw [List.any_map, Bool.eq_iff_iff, List.any_eq_true, decide_eq_true_iff]
          constructor
          · rintro ⟨x, hx, e⟩
            have e : eqV (.str (W x)) (.str "") = true := e
            have : W x = W [] := by rw [← W_nil]; simpa [eqV] using e
            rw [← W_inj this]; exact hx
          · intro h
            refine ⟨[], h, ?_⟩
            show eqV (.str (W [])) (.str "") = true
            rw [W_nil]
            simp [eqV]
        show if (!inV (.str "") (wvs ws)) = true then _ else _
        rw [ein]
        by_cases h0 : [] ∈ ws
        · refine iteBF (by rw [decide_eq_true h0]; rfl) ?_
          -- known
          refine ⟨_, rfl, t, rfl, ⟨_, SqT.of ht2⟩, fun d nd => ?_⟩
          have ndH : H d = none := s2.free nd
          refine dc_tup (xs := wvs ws) (fun i H3 => Same H2 H3 ∧ H3 d = some (.dK (kst (dd (ws.take i))))) ⟨same_upd nd, upd_same⟩ (fun i H3 _ h3 => SqT.of (h3.1 _ _ ht2)) ?_ ?_
          · rintro i x H3 hx ⟨s3, hd3⟩
            obtain ⟨v, hv, rfl⟩ := wvs_get hx
            have hi' := (List.getElem?_eq_some_iff.mp hv).1
            have ldd := dd_len (ws.take i)
            rw [List.length_take] at ldd
            refine ⟨rfl, _, rfl, _, .inr (W v), rfl, hd3, by unfold kst; rw [List.length_map]; exact sl_lt (by omega), same_mut' s3 nd, ?_⟩
            rw [upd_same, List.take_add_one, hv]
            show some (HO.dK (putK (kst (dd (ws.take i))) (Sum.inr (W v)) (.bl true))) = some (HO.dK (kst (dd (ws.take i ++ [v]))))
            rw [dd_snoc]
            split
            · rename_i cm; rw [put_in cm]
            · rename_i cm; rw [put_out cm]
          · rintro H3 ⟨s3, hd3⟩
            have ewl : (wvs ws).length = ws.length := List.length_map _
            rw [ewl, List.take_length] at hd3
            have s23 := s2.trans s3
            have hmem : ∀ t, t ∈ dd ws ↔ t ∈ ws := fun t => mem_dd
            have ldd := dd_len ws
            refine ⟨d, _, hd3, trivial, fun od => ?_⟩
            have hdf : upd H3 d (.frz od (.dK (kst (dd ws)))) d = some (.frz od (.dK (kst (dd ws)))) := upd_same
            have sf : Same H (upd H3 d (.frz od (.dK (kst (dd ws))))) := same_mut' s23 ndH
            generalize upd H3 d (.frz od (.dK (kst (dd ws)))) = H4 at hdf sf
            have hst : ∀ t b, StepOk ss fl (dd ws) t b ↔ StepOk ss fl ws t b := fun t b => by unfold StepOk; simp only [hmem]
            have lkst : (kst (dd ws)).length = (dd ws).length := List.length_map _
            refine ⟨_, rfl, d, od, rfl, .inl ⟨_, hdf, ?_⟩⟩
            refine for_it (walk_keys (kvs := kst (dd ws))) (fun i σ H5 => ∃ (v2 v4 : Option V), σ = [some (.ref a), some (.ref t), v2, some (.ref d), v4] ∧ Same H H5 ∧ H5 d = some (.frz od (.dK (kst (dd ws)))) ∧ ∀ j u, j < i → (dd ws)[j]? = some u → infx fl u = false ∧ bordM fl u = true ∧ ∀ b, StepOk ss fl ws u b)
              ⟨_, _, rfl, sf, hdf, fun j u hj => absurd hj (Nat.not_lt_zero _)⟩ (fun i σ H5 _ h5 => by obtain ⟨_, _, _, _, h, _⟩ := h5; exact h) ?_ ?_
            · rintro i x σ H5 H5' hi ⟨v2, v4, rfl, s5, hd5, hdone⟩ ⟨rfl, kk, vv, hkv, rfl⟩
              have hkv' : (dd ws)[i]?.map (fun w => ((Sum.inr (W w) : Key), V.bl true)) = some (kk, vv) := by rw [← List.getElem?_map]; exact hkv
              obtain ⟨u, hu, e⟩ := Option.map_eq_some_iff.mp hkv'
              cases e
              have hum : u ∈ ws := (hmem u).mp (List.mem_of_getElem? hu)
              have lu := lw u hum
              obtain ⟨dx, tt, _, _, ha, _⟩ := id (hR.same s5)
              have bad : ¬ (infx fl u = false ∧ bordM fl u = true ∧ ∀ b, StepOk ss fl ws u b) → ∀ {H6 : Hp}, Same H H6 → Q (.bl false) H6 := fun hb H6 s6 => k false H6 s6 ⟨fun z => (by cases z), fun z => absurd (z.2 u hum) hb⟩
              have unl : ∀ {H6 : Hp}, Same H5' H6 → Same H (upd H6 d (.dK (kst (dd ws)))) := fun s6 => same_mut' (s5.trans s6) ndH
              refine ⟨_, rfl, a, C, dx, _, _, rfl, ha, RT.cl, RT.nF, ruF_flag _ _, _, rfl, _, _, rfl, rfl, _, rfl, ?_⟩
              show if (!(Builtin.Str.occurrences (W u) (W fl) 0 (W u).length 1).isEmpty) = true then _ else _
              rw [in_W]
              cases hin : infx fl u with
              | true => exact iteT ⟨hd5, bad (fun z => by rw [hin] at z; exact absurd z.1 (by decide)) (unl (Same.refl _))⟩
              | false =>
                refine iteF ⟨_, rfl, _, rfl, a, fl, ss, u, rfl, hR.same s5, by omega, by have := c.f9; omega, fun H6 s6 => ⟨_, rfl, ?_⟩⟩
                have hd6 := s6 _ _ hd5
                have s56 := s5.trans s6
                cases hbo : bordM fl u with
                | false => exact iteT ⟨hd6, bad (fun z => by rw [hbo] at z; exact absurd z.2.1 (by decide)) (unl s6)⟩
                | true =>
                  -- both bits
                  have e01 : ("01" : Str) = W [false, true] := by decide +kernel
                  refine iteF ⟨_, rfl, fun D2 nD2 => ?_⟩
                  have nD2d : D2 ≠ d := (ne_of_none hd6 nD2).symm
                  refine lc_it walk_str (fun j H7 => ∃ rs : List Bool, Same H H7 ∧ H7 d = some (.frz od (.dK (kst (dd ws)))) ∧ H7 D2 = some (.lst (rs.map V.bl)) ∧ rs.length = j ∧ (0 < j → (rs[0]? = some true ↔ StepOk ss fl ws u false)) ∧ (1 < j → (rs[1]? = some true ↔ StepOk ss fl ws u true)))
                    ⟨[], same_mut' s56 (s56.free nD2), by rw [upd_ne nD2d.symm]; exact hd6, upd_same, rfl, fun z => absurd z (by decide), fun z => absurd z (by decide)⟩ (fun _ _ _ _ => trivial) ?_ ?_
                  · rintro j x H7 H7' hj ⟨rs, s7, hd7, hD7, lrs, c0, c1⟩ ⟨rfl, cc, hcc, rfl⟩
                    rw [e01] at hcc
                    obtain ⟨bb, hbb, rfl⟩ := W_get hcc
                    have hj2 : j < 2 := (List.getElem?_eq_some_iff.mp hbb).1
                    refine ⟨rfl, _, rfl, _, rfl, _, rfl, _, rfl, a, d, fl, ss, u, bb, dd ws, rfl, hR.same s7, c, by omega, .inr ⟨od, hd7⟩, fun r H8 s8 hr => ?_⟩
                    rw [hst] at hr
                    refine ⟨_, s8 _ _ hD7, by rw [List.length_map]; exact sl_lt (by omega), rs ++ [r], same_mut' (s7.trans s8) (s56.free nD2), by rw [upd_ne nD2d.symm]; exact s8 _ _ hd7, by rw [upd_same, List.map_append]; rfl, by rw [List.length_append, lrs]; rfl, ?_, ?_⟩
                    · match j, hj2, hbb, lrs, c0 with
                      | 0, _, hb, l0, _ =>
                        intro _
                        have eb : bb = false := (Option.some.inj hb).symm
                        have : rs = [] := List.length_eq_zero_iff.mp l0
                        subst this eb
                        show some r = some true ↔ _
                        rw [← hr]
                        exact ⟨Option.some.inj, fun z => by rw [z]⟩
                      | 1, _, _, l1, c0 =>
                        intro _
                        rw [List.getElem?_append_left (by omega)]
                        exact c0 (by decide)
                    · match j, hj2, hbb, lrs with
                      | 0, _, _, _ => exact fun z => absurd z (by decide)
                      | 1, _, hb, l1 =>
                        intro _
                        have eb : bb = true := (Option.some.inj hb).symm
                        subst eb
                        rw [List.getElem?_append_right (by omega), l1]
                        show some r = some true ↔ _
                        rw [← hr]
                        exact ⟨Option.some.inj, fun z => by rw [z]⟩
                  · rintro H7 ⟨rs, s7, hd7, hD7, lrs, c0, c1⟩
                    have lrs2 : rs.length = 2 := by rw [lrs, e01, W_size]; rfl
                    match rs, lrs2, hD7, c0, c1 with
                    | [r0, r1], _, hD7, c0, c1 =>
                      have c0' : r0 = true ↔ StepOk ss fl ws u false := by
                        have := c0 (by rw [e01, W_size]; decide)
                        exact ⟨fun z => this.mp (by rw [z]; rfl), fun z => Option.some.inj (this.mpr z)⟩
                      have c1' : r1 = true ↔ StepOk ss fl ws u true := by
                        have := c1 (by rw [e01, W_size]; decide)
                        exact ⟨fun z => this.mp (by rw [z]; rfl), fun z => Option.some.inj (this.mpr z)⟩
                      refine ⟨D2, _, rfl, SqL.of hD7, _, rfl, ?_⟩
                      have ea : ([r0, r1].all id) = (r0 && r1) := by simp
                      rw [ea]
                      cases r0 with
                      | false => exact iteT ⟨hd7, bad (fun z => by have := c0'.mpr (z.2.2 false); cases this) (same_mut' s7 ndH)⟩
                      | true =>
                        cases r1 with
                        | false => exact iteT ⟨hd7, bad (fun z => by have := c1'.mpr (z.2.2 true); cases this) (same_mut' s7 ndH)⟩
                        | true =>
                          refine iteF ⟨_, _, rfl, s7, hd7, fun j y hj hy => ?_⟩
                          rcases Nat.lt_or_ge j i with q | q
                          · exact hdone j y q hy
                          · have : j = i := by omega
                            subst this
                            rw [hu] at hy
                            cases Option.some.inj hy
                            exact ⟨hin, hbo, fun b => match b with | false => c0'.mp rfl | true => c1'.mp rfl⟩
            · rintro σ H5 ⟨v2, v4, rfl, s5, hd5, hdone⟩
              refine ⟨hd5, k true _ (same_mut' s5 ndH) ⟨fun _ => ⟨h0, fun u hu => ?_⟩, fun _ => rfl⟩⟩
              obtain ⟨j, hj⟩ := List.getElem?_of_mem ((hmem u).mpr hu)
              exact hdone j u (by rw [lkst]; exact (List.getElem?_eq_some_iff.mp hj).1) hj
        · refine iteBT (by rw [decide_eq_false h0]; rfl) ?_
          exact k false H2 s2 ⟨fun z => (by cases z), fun z => absurd z.1 h0⟩
    · exact ⟨_, rfl, _, _, _, _, false, rfl, .ty _, hty, hk, _, rfl, iteT k⟩
end
end U

set_option maxRecDepth 100000
set_option maxHeartbeats 4000000
namespace U
open PySem PySem.Spec PyProof.Rows
open L2 hiding Fun CX0 E0 pass0 Fun.binds
open C8 Lx SX StX
/-! all words of a size, ascending -/
def wdsP : Nat → List (List Bool)
  | 0 => [[]]
  | n + 1 => (wdsP n).map (false :: ·) ++ (wdsP n).map (true :: ·)
theorem wdsP_len : ∀ n, (wdsP n).length = 2 ^ n
  | 0 => rfl
  | n + 1 => by
    show ((wdsP n).map (false :: ·) ++ (wdsP n).map (true :: ·)).length = _
    rw [List.length_append, List.length_map, List.length_map, wdsP_len n, Nat.pow_succ]
    omega
theorem wdsP_size : ∀ {n : Nat} {w : List Bool}, w ∈ wdsP n → w.length = n
  | 0, w, h => by rw [List.mem_singleton.mp h]; rfl
  | n + 1, w, h => by
    rcases List.mem_append.mp h with h1 | h1
    · obtain ⟨v, hv, rfl⟩ := List.mem_map.mp h1
      rw [List.length_cons, wdsP_size hv]
    · obtain ⟨v, hv, rfl⟩ := List.mem_map.mp h1
      rw [List.length_cons, wdsP_size hv]
theorem num_acc : ∀ (w : List Bool) (a : Nat), w.foldl (fun n b => 2 * n + (if b then 1 else 0)) a = a * 2 ^ w.length + num w
  | [], a => by show a = a * 1 + 0; omega
  | b :: r, a => by
    have h1 := num_acc r (2 * a + (if b then 1 else 0))
    have h2 := num_acc r (2 * 0 + (if b then 1 else 0))
    show r.foldl _ (2 * a + (if b then 1 else 0)) = a * 2 ^ (r.length + 1) + r.foldl _ (2 * 0 + (if b then 1 else 0))
    rw [h1, h2, Nat.pow_succ, Nat.add_mul, Nat.add_mul]
    have : 2 * a * 2 ^ r.length = a * (2 ^ r.length * 2) := by rw [Nat.mul_comm 2 a, Nat.mul_assoc, Nat.mul_comm 2]
    omega
theorem num_cons (b : Bool) (w : List Bool) : num (b :: w) = (if b then 2 ^ w.length else 0) + num w := by
  have := num_acc w (2 * 0 + (if b then 1 else 0))
  show w.foldl _ (2 * 0 + (if b then 1 else 0)) = _
  rw [this]
  cases b <;> simp
theorem num_lt : ∀ w : List Bool, num w < 2 ^ w.length
  | [] => by show 0 < 1; decide
  | b :: r => by
    have := num_lt r
    rw [num_cons, List.length_cons, Nat.pow_succ]
    split <;> omega
theorem wdsP_at : ∀ (m : List Bool), (wdsP m.length)[num m]? = some m
  | [] => rfl
  | b :: r => by
    have ih := wdsP_at r
    have hl := num_lt r
    have e : (wdsP r.length).length = 2 ^ r.length := wdsP_len _
    rw [num_cons]
    show ((wdsP r.length).map (false :: ·) ++ (wdsP r.length).map (true :: ·))[_]? = _
    cases b with
    | false =>
      rw [if_neg (by decide), Nat.zero_add, List.getElem?_append_left (by rw [List.length_map]; omega), List.getElem?_map, ih]
      rfl
    | true =>
      rw [if_pos rfl, List.getElem?_append_right (by rw [List.length_map]; omega), List.length_map, e, List.getElem?_map, show 2 ^ r.length + num r - 2 ^ r.length = num r by omega, ih]
      rfl
theorem num_inj : ∀ {a b : List Bool}, a.length = b.length → num a = num b → a = b := by
  intro a b hl hn
  have h1 := wdsP_at a
  have h2 := wdsP_at b
  rw [hl, hn, h2] at h1
  exact (Option.some.inj h1).symm
theorem wdsP_num {n i : Nat} {w : List Bool} (h : (wdsP n)[i]? = some w) : num w = i := by
  have hs := wdsP_size (List.mem_of_getElem? h)
  have hi := (List.getElem?_eq_some_iff.mp h).1
  rw [wdsP_len] at hi
  -- the words are told one by one
  have : ∀ n i w, (wdsP n)[i]? = some w → num w = i := by
    intro n
    induction n with
    | zero =>
      intro i w h
      have := (List.getElem?_eq_some_iff.mp h).1
      have hi : i = 0 := by simpa [wdsP] using this
      subst hi
      have : w = [] := by simpa [wdsP] using h.symm
      rw [this]; rfl
    | succ n ih =>
      intro i w h
      have e : (wdsP n).length = 2 ^ n := wdsP_len _
      have h' : ((wdsP n).map (false :: ·) ++ (wdsP n).map (true :: ·))[i]? = some w := h
      by_cases c : i < 2 ^ n
      · rw [List.getElem?_append_left (by rw [List.length_map]; omega), List.getElem?_map] at h'
        obtain ⟨v, hv, rfl⟩ := Option.map_eq_some_iff.mp h'
        rw [num_cons, if_neg (by decide), ih i v hv, Nat.zero_add]
      · rw [List.getElem?_append_right (by rw [List.length_map]; omega), List.length_map, e, List.getElem?_map] at h'
        obtain ⟨v, hv, rfl⟩ := Option.map_eq_some_iff.mp h'
        rw [num_cons, if_pos rfl, ih _ v hv, wdsP_size (List.mem_of_getElem? hv)]
        omega
  exact this n i w h
theorem first_of {n : Nat} {p : List Bool → Bool} {m : List Bool} {r : List (List Bool)} (h : (wdsP n).filter p = m :: r) : m.length = n ∧ p m = true ∧ ∀ m', m'.length = n → num m' < num m → p m' = false := by
  have h1 : (wdsP n).find? p = some m := by rw [← List.head?_filter, h]; rfl
  have hm := List.mem_of_find?_eq_some h1
  refine ⟨wdsP_size hm, List.find?_some h1, fun m' hl hn => ?_⟩
  obtain ⟨_, i, hi, e1, e2⟩ := List.find?_eq_some_iff_getElem.mp h1
  have ei : num m = i := wdsP_num (n := n) (by rw [List.getElem?_eq_getElem hi, e1])
  have h3 := wdsP_at m'
  rw [hl] at h3
  obtain ⟨h4, h5⟩ := List.getElem?_eq_some_iff.mp h3
  have := e2 (num m') (by omega)
  rw [h5] at this
  simpa using this
theorem none_of {n : Nat} {p : List Bool → Bool} (h : (wdsP n).filter p = []) : ∀ m', m'.length = n → p m' = false := fun m' hl => by
  have h3 := wdsP_at m'
  rw [hl] at h3
  have := List.filter_eq_nil_iff.mp h m' (List.mem_of_getElem? h3)
  simpa using this
/-! words in a list -/
def wdsV (ws : List (List Bool)) : List V := ws.map fun w => V.str (W w)
def wdsD (ws : List (List Bool)) : List PyData := ws.map fun w => PyData.str (W w)
theorem wdsV_len (ws : List (List Bool)) : (wdsV ws).length = ws.length := List.length_map _
theorem wdsV_app (a b : List (List Bool)) : wdsV (a ++ b) = wdsV a ++ wdsV b := List.map_append
theorem wdsV_get {ws : List (List Bool)} {i : Nat} {x : V} (h : (wdsV ws)[i]? = some x) : ∃ w, ws[i]? = some w ∧ x = .str (W w) := by
  unfold wdsV at h
  rw [List.getElem?_map] at h
  obtain ⟨w, hw, rfl⟩ := Option.map_eq_some_iff.mp h
  exact ⟨w, hw, rfl⟩
theorem dp_wds {K : PySem.W.Frag} {H : Hp} : ∀ ws : List (List Bool), DpAll K H (wdsV ws) (wdsD ws)
  | [] => .nil
  | w :: r => .cons (.str _) (dp_wds r)
theorem ok_W (l : List Bool) : PyData.strOk (W l) = true := by
  unfold PyData.strOk
  show ((l.map bt).toArray.all _) = true
  rw [List.all_toArray, List.all_map, List.all_eq_true]
  intro b _
  cases b <;> rfl
theorem lay_wds : ∀ ws : List (List Bool), PyData.canLayAll0 (wdsD ws) = true ∧ PyData.depthAll (wdsD ws) = 0
  | [] => by simp [wdsD, PyData.canLayAll0, PyData.depthAll]
  | w :: r => by
    obtain ⟨h1, h2⟩ := lay_wds r
    show PyData.canLayAll0 (PyData.str (W w) :: wdsD r) = true ∧ PyData.depthAll (PyData.str (W w) :: wdsD r) = 0
    rw [PyData.canLayAll0, PyData.depthAll, h1, h2, PyData.canLay0, PyData.depth, ok_W]
    exact ⟨rfl, rfl⟩
theorem shaped_wds (ws : List (List Bool)) : SeqAt.shaped (.list (wdsD ws)) = true := by
  unfold SeqAt.shaped
  rw [PyData.canLay0, (lay_wds ws).1, PyData.depth, (lay_wds ws).2]
  rfl
theorem eqv_wnil (ws : List (List Bool)) : PyData.eqv (.list (wdsD ws)) (.list []) = ws.isEmpty := by
  cases ws with
  | nil => simp [wdsD, PyData.eqv, PyData.eqvAll]
  | cons w r => simp [wdsD, PyData.eqv, PyData.eqvAll]
def spWordsP : Sp := fun vs H Q _ => ∃ n : Nat, vs = [.int n] ∧ n ≤ 12 ∧ ∀ l H', H l = none → Same H H' → H' l = some (.lst (wdsV (wdsP n))) → Q (.ref l) H'
section
variable {P : Program} {w : World} {K : PySem.W.Frag} {mg : Str → Option Value} {base : Heap}
end
end U

set_option maxRecDepth 100000
set_option maxHeartbeats 4000000
set_option pp.maxSteps 400
namespace U
/-! two rules compared -/
/-- a place among all words, shorter ones first -/
def sl (m : List Bool) : Nat := num (true :: m)
theorem sl_snoc (m : List Bool) (b : Bool) : sl (m ++ [b]) = 2 * sl m + (if b then 1 else 0) := num_snoc (true :: m) b
theorem sl_nil : sl [] = 1 := rfl
theorem sl_pos : ∀ m : List Bool, 1 ≤ sl m := by
  intro m
  unfold sl
  rw [num_cons, if_pos rfl]
  have := Nat.one_le_two_pow (n := m.length)
  omega
def Al (s1 s2 : List Stf) (m : List Bool) : Prop := bodyF s1 m = bodyF s2 m
def PartR (s1 s2 : List Stf) : Option (List Bool) → Prop
  | none => ∀ m, Al s1 s2 m
  | some m => ¬ Al s1 s2 m ∧ ∀ m', sl m' < sl m → Al s1 s2 m'
theorem sl_inj {a b : List Bool} (h : sl a = sl b) : a = b := by
  unfold sl at h
  rw [num_cons, num_cons, if_pos rfl, if_pos rfl] at h
  have ha := num_lt a
  have hb := num_lt b
  have el : a.length = b.length := by
    rcases Nat.lt_trichotomy a.length b.length with c | c | c
    · have : 2 ^ (a.length + 1) ≤ 2 ^ b.length := Nat.pow_le_pow_right (by decide) c
      rw [Nat.pow_succ] at this
      omega
    · exact c
    · have : 2 ^ (b.length + 1) ≤ 2 ^ a.length := Nat.pow_le_pow_right (by decide) c
      rw [Nat.pow_succ] at this
      omega
  rw [el] at h
  exact num_inj el (by omega)
theorem PartR.det {s1 s2 : List Stf} : ∀ {o o' : Option (List Bool)}, PartR s1 s2 o → PartR s1 s2 o' → o = o'
  | none, none, _, _ => rfl
  | none, some m, h, h' => absurd (h m) h'.1
  | some m, none, h, h' => absurd (h' m) h.1
  | some m, some m', h, h' => by
    rcases Nat.lt_trichotomy (sl m) (sl m') with c | c | c
    · exact absurd (h'.2 m c) h.1
    · rw [sl_inj c]
    · exact absurd (h.2 m' c) h'.1
theorem PartR.symm {s1 s2 : List Stf} : ∀ {o : Option (List Bool)}, PartR s1 s2 o → PartR s2 s1 o
  | none, h => fun m => (h m).symm
  | some m, h => ⟨fun z => h.1 z.symm, fun m' hm => (h.2 m' hm).symm⟩
/-- both rules at one standing -/
theorem al_step {s1 s2 : List Stf} {L : Nat} (o1 : OkN 39 s1) (o2 : OkN 39 s2) (h1 : ∀ s ∈ s1, s.1.length ≤ L) (h2 : ∀ s ∈ s2, s.1.length ≤ L) {p u : List Bool} (ap : Al s1 s2 p) (au : Al s1 s2 u) (e : tl L (bodyF s1 p) = tl L (bodyF s1 u)) (b : Bool) :
    (Al s1 s2 (p ++ [b]) → Al s1 s2 (u ++ [b])) ∧ tl L (bodyF s1 (p ++ [b])) = tl L (bodyF s1 (u ++ [b])) := by
  obtain ⟨x1, i1, l1, e1⟩ := ins40 o1 p b
  obtain ⟨x2, i2, l2, e2⟩ := ins40 o2 p b
  obtain ⟨y1, j1, k1, f1⟩ := ins40 o1 u b
  obtain ⟨y2, j2, k2, f2⟩ := ins40 o2 u b
  unfold Al at ap au ⊢
  rw [← ap] at i2 e2
  rw [← au] at j2 f2
  have es := tl_snoc (b := b) e
  have z1 := (i1.tl h1 es).det j1
  have z2 := (i2.tl h2 es).det j2
  subst z1 z2
  refine ⟨fun h => ?_, ?_⟩
  · rw [e1, e2] at h
    rw [f1, f2, List.append_cancel_left h]
  · rw [e1, f1]
    exact tl_app es _
/-- both put in the same at once -/
theorem al_ins {s1 s2 : List Stf} {L : Nat} (o1 : OkN 39 s1) (o2 : OkN 39 s2) (h1 : ∀ s ∈ s1, s.1.length ≤ L) (h2 : ∀ s ∈ s2, s.1.length ≤ L) {p t : List Bool} (ap : Al s1 s2 p) (e : t = tl L (bodyF s1 p)) (b : Bool) :
    ∃ x1 x2, Ins s1 (t ++ [b]) x1 ∧ Ins s2 (t ++ [b]) x2 ∧ x1.length ≤ 39 ∧ x2.length ≤ 39 ∧ (Al s1 s2 (p ++ [b]) ↔ x1 = x2) ∧ tl L (t ++ [b] ++ x1) = tl L (bodyF s1 (p ++ [b])) := by
  obtain ⟨x1, i1, l1, e1⟩ := ins40 o1 p b
  obtain ⟨x2, i2, l2, e2⟩ := ins40 o2 p b
  unfold Al at ap ⊢
  rw [← ap] at i2 e2
  have es : tl L (bodyF s1 p ++ [b]) = tl L (t ++ [b]) := tl_snoc (by rw [e, tl_tl (Nat.le_refl _)])
  refine ⟨x1, x2, i1.tl h1 es, i2.tl h2 es, l1, l2, ?_, ?_⟩
  · rw [e1, e2]
    exact ⟨fun h => List.append_cancel_left h, fun h => by rw [h]⟩
  · rw [e1]
    exact (tl_app es _).symm
/-- the search: messages with their standings in order, the edges of the first n done, and the first one of the next if c -/
structure PtI (s1 s2 : List Stf) (L : Nat) (od : List (List Bool × List Bool)) (n : Nat) (c : Bool) : Prop where
  st : ∀ p ∈ od, Al s1 s2 p.1 ∧ p.2 = tl L (bodyF s1 p.1)
  nd : (od.map Prod.snd).Nodup
  srt : od.Pairwise fun p q => sl p.1 < sl q.1
  hd : ∃ p ∈ od, p.1 = []
  ltd : ∀ p ∈ od, p.1 = [] ∨ ∃ q b, Dn od n c q b ∧ p.1 = q.1 ++ [b]
  ed : ∀ q b, Dn od n c q b → Al s1 s2 (q.1 ++ [b]) ∧ ∃ p ∈ od, p.2 = tl L (bodyF s1 (q.1 ++ [b])) ∧ sl p.1 ≤ sl (q.1 ++ [b])
  len : ∀ (j : Nat) (p : List Bool × List Bool), od[j]? = some p → p.1.length ≤ j
theorem PtI.start {s1 s2 : List Stf} {L : Nat} : PtI s1 s2 L [([], [])] 0 false := by
  refine ⟨fun p hp => ?_, ?_, List.pairwise_singleton _ _, ⟨_, List.mem_singleton.mpr rfl, rfl⟩, fun p hp => .inl ?_, fun q b h => ?_, fun j p h => ?_⟩
  · rw [List.mem_singleton.mp hp]
    exact ⟨rfl, (tl_nil L).symm⟩
  · exact nodup1 _
  · rw [List.mem_singleton.mp hp]
  · rcases h with h | ⟨h, _⟩
    · rw [List.take_zero] at h; cases h
    · cases h
  · match j, h with
    | 0, h => rw [← Option.some.inj h]; exact Nat.le_refl _
theorem PtI.few {s1 s2 : List Stf} {L : Nat} {od : List (List Bool × List Bool)} {n : Nat} {c : Bool} (h : PtI s1 s2 L od n c) : od.length + 1 ≤ 2 ^ (L + 1) := by
  have := words_le h.nd (n := L) fun w hw => by
    obtain ⟨p, hp, rfl⟩ := List.mem_map.mp hw
    rw [(h.st p hp).2]
    exact tl_le _ _
  rw [List.length_map] at this
  exact this
theorem Dn.lt2 {s1 s2 : List Stf} {L : Nat} {od : List (List Bool × List Bool)} {n : Nat} {c : Bool} (h : PtI s1 s2 L od n c) {p : List Bool × List Bool} (hp : od[n]? = some p) {q : List Bool × List Bool} {b : Bool} (hd : Dn od n c q b) : sl (q.1 ++ [b]) < sl (p.1 ++ [c]) := by
  rw [sl_snoc, sl_snoc]
  rcases hd with h1 | ⟨rfl, h1, rfl⟩
  · have hi := (List.getElem?_eq_some_iff.mp hp).1
    have hs : od = od.take n ++ od.drop n := (List.take_append_drop n od).symm
    have hpd : p ∈ od.drop n := by
      rw [List.drop_eq_getElem_cons hi]
      rw [List.getElem?_eq_getElem hi] at hp
      rw [Option.some.inj hp]
      exact List.mem_cons_self
    have := h.srt
    rw [hs] at this
    have := (List.pairwise_append.mp this).2.2 q h1 p hpd
    split <;> split <;> omega
  · rw [hp] at h1
    rw [Option.some.inj h1]
    simp
/-- an edge is done or not before the one that stands next -/
theorem Dn.of_lt {s1 s2 : List Stf} {L : Nat} {od : List (List Bool × List Bool)} {n : Nat} {c : Bool} (h : PtI s1 s2 L od n c) {p : List Bool × List Bool} (hp : od[n]? = some p) {q : List Bool × List Bool} (hq : q ∈ od) {b : Bool} (hl : sl (q.1 ++ [b]) < sl (p.1 ++ [c])) : Dn od n c q b := by
  rw [sl_snoc, sl_snoc] at hl
  obtain ⟨j, hj⟩ := List.getElem?_of_mem hq
  rcases Nat.lt_trichotomy j n with z | z | z
  · exact .inl (List.mem_of_getElem? (i := j) (by rw [List.getElem?_take, if_pos z]; exact hj))
  · subst z
    rw [hp] at hj
    cases Option.some.inj hj
    refine .inr ?_
    cases b <;> cases c
    · simp at hl
    · exact ⟨rfl, hp, rfl⟩
    · simp at hl; omega
    · simp at hl
  · exfalso
    have hn := (List.getElem?_eq_some_iff.mp hp)
    have hj' := (List.getElem?_eq_some_iff.mp hj)
    obtain ⟨hn1, hn2⟩ := hn
    obtain ⟨hj1, hj2⟩ := hj'
    have := List.pairwise_iff_getElem.mp h.srt n j hn1 hj1 z
    rw [hn2, hj2] at this
    split at hl <;> split at hl <;> omega
theorem PtI.rep {s1 s2 : List Stf} {L : Nat} (o1 : OkN 39 s1) (o2 : OkN 39 s2) (h1 : ∀ s ∈ s1, s.1.length ≤ L) (h2 : ∀ s ∈ s2, s.1.length ≤ L) {od : List (List Bool × List Bool)} {n : Nat} {c : Bool} (h : PtI s1 s2 L od n c) (X : Nat)
    (hX : ∀ q ∈ od, ∀ b, sl (q.1 ++ [b]) < X → Dn od n c q b) : ∀ k (u : List Bool), u.length = k → sl u < X → Al s1 s2 u ∧ ∃ p ∈ od, p.2 = tl L (bodyF s1 u) ∧ sl p.1 ≤ sl u
  | 0, u, hu, _ => by
    have := List.length_eq_zero_iff.mp hu
    subst this
    obtain ⟨p, hp, e⟩ := h.hd
    refine ⟨rfl, p, hp, ?_, by rw [e]; exact Nat.le_refl _⟩
    rw [(h.st p hp).2, e]
  | k + 1, u, hu, hlt => by
    obtain ⟨v, b, rfl⟩ : ∃ v b, u = v ++ [b] := by
      rcases List.eq_nil_or_concat u with z | ⟨v, b, z⟩
      · rw [z] at hu; cases hu
      · exact ⟨v, b, by rw [z, List.concat_eq_append]⟩
    have hv : v.length = k := by rw [List.length_append] at hu; simpa using hu
    have hs := sl_snoc v b
    have hp1 := sl_pos v
    obtain ⟨av, p, hp, e, hle⟩ := rep o1 o2 h1 h2 h X hX k v hv (by split at hs <;> omega)
    have hps := sl_snoc p.1 b
    have hd := hX p hp b (by split at hs <;> simp_all <;> omega)
    obtain ⟨ap, e2⟩ := h.st p hp
    obtain ⟨a2, r, hr, e3, hle2⟩ := h.ed p b hd
    obtain ⟨z1, z2⟩ := al_step o1 o2 h1 h2 ap av (by rw [← e2]; exact e) b
    refine ⟨z1 a2, r, hr, by rw [e3, z2], ?_⟩
    split at hs <;> simp_all <;> omega
theorem PtI.fin {s1 s2 : List Stf} {L : Nat} (o1 : OkN 39 s1) (o2 : OkN 39 s2) (h1 : ∀ s ∈ s1, s.1.length ≤ L) (h2 : ∀ s ∈ s2, s.1.length ≤ L) {od : List (List Bool × List Bool)} {n : Nat} (h : PtI s1 s2 L od n false) (hn : od.length ≤ n) : PartR s1 s2 none := by
  intro m
  refine (h.rep o1 o2 h1 h2 (sl m + 1) (fun q hq b _ => .inl ?_) m.length m rfl (Nat.lt_succ_self _)).1
  rw [List.take_of_length_le hn]
  exact hq
theorem PtI.hit {s1 s2 : List Stf} {L : Nat} (o1 : OkN 39 s1) (o2 : OkN 39 s2) (h1 : ∀ s ∈ s1, s.1.length ≤ L) (h2 : ∀ s ∈ s2, s.1.length ≤ L) {od : List (List Bool × List Bool)} {n : Nat} {c : Bool} (h : PtI s1 s2 L od n c) {p : List Bool × List Bool} (hp : od[n]? = some p) (hb : ¬ Al s1 s2 (p.1 ++ [c])) : PartR s1 s2 (some (p.1 ++ [c])) :=
  ⟨hb, fun m hm => (h.rep o1 o2 h1 h2 (sl (p.1 ++ [c])) (fun q hq b hl => Dn.of_lt h hp hq hl) m.length m rfl hm).1⟩
theorem Dn.grow {ly : List (List Bool × List Bool)} {i : Nat} {c : Bool} {p : List Bool × List Bool} (hp : ly[i]? = some p) {q : List Bool × List Bool} {b : Bool} (hd : Dn ly i c q b) (z : List (List Bool × List Bool)) : Dn (ly ++ z) (if c then i + 1 else i) (!c) q b := by
  have hi := (List.getElem?_eq_some_iff.mp hp).1
  cases c with
  | false =>
    rcases hd with h | ⟨h, _⟩
    · refine .inl ?_
      rw [show (if false = true then i + 1 else i) = i from rfl, List.take_append_of_le_length (by omega)]
      exact h
    · cases h
  | true =>
    refine .inl ?_
    rw [show (if true = true then i + 1 else i) = i + 1 from rfl, List.take_append_of_le_length (by omega), List.take_add_one, hp]
    rcases hd with h | ⟨_, h1, _⟩
    · exact List.mem_append_left _ h
    · rw [hp] at h1
      exact List.mem_append_right _ (by simp [Option.some.inj h1])
theorem Dn.own {ly : List (List Bool × List Bool)} {i : Nat} {c : Bool} {p : List Bool × List Bool} (hp : ly[i]? = some p) (z : List (List Bool × List Bool)) : Dn (ly ++ z) (if c then i + 1 else i) (!c) p c := by
  have hi := (List.getElem?_eq_some_iff.mp hp).1
  cases c with
  | false => exact .inr ⟨rfl, by rw [show (if false = true then i + 1 else i) = i from rfl, List.getElem?_append_left hi]; exact hp, rfl⟩
  | true =>
    refine .inl ?_
    rw [show (if true = true then i + 1 else i) = i + 1 from rfl, List.take_append_of_le_length (by omega), List.take_add_one, hp]
    exact List.mem_append_right _ (by simp)
theorem Dn.back {ly : List (List Bool × List Bool)} {i : Nat} {c : Bool} {p : List Bool × List Bool} (hp : ly[i]? = some p) {z : List (List Bool × List Bool)} {q : List Bool × List Bool} {b : Bool} (h : Dn (ly ++ z) (if c then i + 1 else i) (!c) q b) : Dn ly i c q b ∨ (q = p ∧ b = c) := by
  have hi := (List.getElem?_eq_some_iff.mp hp).1
  refine Dn.step hp ?_
  cases c with
  | false =>
    rcases h with h | ⟨h1, h2, h3⟩
    · refine .inl ?_
      rw [show (if false = true then i + 1 else i) = i from rfl, List.take_append_of_le_length (by omega)] at h
      exact h
    · refine .inr ⟨h1, ?_, h3⟩
      rw [show (if false = true then i + 1 else i) = i from rfl, List.getElem?_append_left hi] at h2
      exact h2
  | true =>
    rcases h with h | ⟨h, _⟩
    · refine .inl ?_
      rw [show (if true = true then i + 1 else i) = i + 1 from rfl, List.take_append_of_le_length (by omega)] at h
      exact h
    · cases h
theorem PtI.old {s1 s2 : List Stf} {L : Nat} {od : List (List Bool × List Bool)} {n : Nat} {c : Bool} (h : PtI s1 s2 L od n c) {p : List Bool × List Bool} (hp : od[n]? = some p) (ha : Al s1 s2 (p.1 ++ [c])) (hk : tl L (bodyF s1 (p.1 ++ [c])) ∈ od.map Prod.snd) : PtI s1 s2 L od (if c then n + 1 else n) (!c) := by
  have up : ∀ {q b}, Dn od n c q b → Dn od (if c then n + 1 else n) (!c) q b := fun hd => by have := Dn.grow hp hd []; rw [List.append_nil] at this; exact this
  refine ⟨h.st, h.nd, h.srt, h.hd, fun r hr => ?_, fun q b hd => ?_, h.len⟩
  · rcases h.ltd r hr with e | ⟨q, b, h1, h2⟩
    · exact .inl e
    · exact .inr ⟨q, b, up h1, h2⟩
  · rcases Dn.step hp hd with h1 | ⟨rfl, rfl⟩
    · exact h.ed q b h1
    · refine ⟨ha, ?_⟩
      obtain ⟨r, hr, e⟩ := List.mem_map.mp hk
      refine ⟨r, hr, e, ?_⟩
      rcases h.ltd r hr with e2 | ⟨q2, b2, h1, h2⟩
      · rw [e2]; exact sl_pos _
      · rw [h2]; exact Nat.le_of_lt (Dn.lt2 h hp h1)
theorem PtI.new {s1 s2 : List Stf} {L : Nat} {od : List (List Bool × List Bool)} {n : Nat} {c : Bool} (h : PtI s1 s2 L od n c) {p : List Bool × List Bool} (hp : od[n]? = some p) (ha : Al s1 s2 (p.1 ++ [c])) (hk : tl L (bodyF s1 (p.1 ++ [c])) ∉ od.map Prod.snd) : PtI s1 s2 L (od ++ [(p.1 ++ [c], tl L (bodyF s1 (p.1 ++ [c])))]) (if c then n + 1 else n) (!c) := by
  have hi := (List.getElem?_eq_some_iff.mp hp).1
  refine ⟨fun r hr => ?_, ?_, ?_, ?_, fun r hr => ?_, fun q b hd => ?_, fun j r hr => ?_⟩
  · rcases List.mem_append.mp hr with z | z
    · exact h.st r z
    · rw [List.mem_singleton.mp z]
      exact ⟨ha, rfl⟩
  · rw [List.map_append, List.nodup_append]
    exact ⟨h.nd, nodup1 _, fun x hx y hy z => hk (by
      have e : y = tl L (bodyF s1 (p.1 ++ [c])) := List.mem_singleton.mp hy
      rw [← e, ← z]; exact hx)⟩
  · refine List.pairwise_append.mpr ⟨h.srt, List.pairwise_singleton _ _, fun x hx y hy => ?_⟩
    rw [List.mem_singleton.mp hy]
    show sl x.1 < sl (p.1 ++ [c])
    rcases h.ltd x hx with e | ⟨q, b, h1, h2⟩
    · rw [e, sl_nil, sl_snoc]
      have := sl_pos p.1
      omega
    · rw [h2]; exact Dn.lt2 h hp h1
  · obtain ⟨r, hr, e⟩ := h.hd
    exact ⟨r, List.mem_append_left _ hr, e⟩
  · rcases List.mem_append.mp hr with z | z
    · rcases h.ltd r z with e | ⟨q, b, h1, h2⟩
      · exact .inl e
      · exact .inr ⟨q, b, Dn.grow hp h1 _, h2⟩
    · rw [List.mem_singleton.mp z]
      exact .inr ⟨p, c, Dn.own hp _, rfl⟩
  · rcases Dn.back hp hd with h1 | ⟨rfl, rfl⟩
    · obtain ⟨a, r, hr, e⟩ := h.ed q b h1
      exact ⟨a, r, List.mem_append_left _ hr, e⟩
    · exact ⟨ha, _, List.mem_append_right _ (List.mem_singleton.mpr rfl), rfl, Nat.le_refl _⟩
  · rcases Nat.lt_or_ge j od.length with z | z
    · rw [List.getElem?_append_left z] at hr
      exact h.len j r hr
    · rw [List.getElem?_append_right z] at hr
      have ej : j - od.length = 0 := by
        have := (List.getElem?_eq_some_iff.mp hr).1
        simp at this
        exact this
      rw [ej] at hr
      rw [← Option.some.inj hr]
      have := h.len n p hp
      show (p.1 ++ [c]).length ≤ j
      rw [List.length_append]
      show _ + 1 ≤ j
      omega
end U

set_option maxRecDepth 100000
set_option maxHeartbeats 400000
set_option pp.maxSteps 400
namespace U
open PySem PySem.Spec PyProof.Rows
open L2 hiding Fun CX0 E0 pass0 Fun.binds
open C8 Lx SX StX
/-- a rule that can be made -/
structure Giv (f : List Bool) (ss : List Stf) : Prop where
  ok : StOk ss
  o : OkN 39 ss
  f2 : 2 ≤ f.length
  f9 : f.length ≤ 9
def givB (f : List Bool) (ss : List Stf) : Bool := decide (ss.length ≤ 1000) && (ss.all fun s => !s.1.isEmpty) && decide (longM ss ≤ 9) && decide (ss.Pairwise fun a b => ¬ a.1 <:+ b.1 ∧ ¬ b.1 <:+ a.1) && (ss.all fun s => decide (s.1.length ≤ 5)) && ((allW 5).all fun w => [false, true].all fun b => decide ((itP ss 24 (w ++ [b])).length ≤ w.length + 20)) && decide (2 ≤ f.length) && decide (f.length ≤ 9)
theorem giv_dec {f : List Bool} {ss : List Stf} (h : givB f ss = true) : Giv f ss := by
  unfold givB at h
  simp only [Bool.and_eq_true] at h
  obtain ⟨⟨⟨⟨⟨⟨⟨h1, h2⟩, h3⟩, h4⟩, h5⟩, h6⟩, h7⟩, h8⟩ := h
  refine ⟨⟨of_decide_eq_true h1, fun s hs => ?_, of_decide_eq_true h3, (show ss.Pairwise _ from of_decide_eq_true h4)⟩, OkN.mono (okS_dec h5 h6) (by decide), of_decide_eq_true h7, of_decide_eq_true h8⟩
  have := List.all_eq_true.mp h2 s hs
  intro z
  rw [z] at this
  cases this
theorem Giv.nn {f : List Bool} {ss : List Stf} (g : Giv f ss) : f ≠ [] := fun z => by have := g.f2; rw [z] at this; cases this
theorem Giv.perm {f : List Bool} {ss ts : List Stf} (g : Giv f ss) (p : ts.Perm ss) : Giv f ts :=
  ⟨g.ok.perm p.symm, g.o.congr fun l => put_perm g.ok.free p.symm l, g.f2, g.f9⟩
/-! two given rules compared by the kernel -/
def reachQ (ss : List Stf) (L : Nat) : Nat → List (List Bool) → List (List Bool)
  | 0, kn => kn
  | n + 1, kn => reachQ ss L n (kn.foldl (fun k t => [false, true].foldl (fun k b => if tl L (itP ss 40 (t ++ [b])) ∈ k then k else k ++ [tl L (itP ss 40 (t ++ [b]))]) k) kn)
def parNB (s1 s2 : List Stf) (L : Nat) : Bool := decide ([] ∈ reachQ s1 L 12 [[]]) && (s1.all fun s => decide (s.1.length ≤ L)) && (s2.all fun s => decide (s.1.length ≤ L)) && (reachQ s1 L 12 [[]]).all fun t => [false, true].all fun b => decide (itP s1 40 (t ++ [b]) = itP s2 40 (t ++ [b])) && decide (tl L (itP s1 40 (t ++ [b])) ∈ reachQ s1 L 12 [[]])
theorem parN_dec {s1 s2 : List Stf} {L : Nat} (o1 : OkN 39 s1) (o2 : OkN 39 s2) (h : parNB s1 s2 L = true) : PartR s1 s2 none := by
  unfold parNB at h
  generalize reachQ s1 L 12 [[]] = kn at h
  simp only [Bool.and_eq_true] at h
  obtain ⟨⟨⟨h0, h1⟩, h2⟩, h3⟩ := h
  have h1' : ∀ s ∈ s1, s.1.length ≤ L := fun s hs => of_decide_eq_true (List.all_eq_true.mp h1 s hs)
  have h2' : ∀ s ∈ s2, s.1.length ≤ L := fun s hs => of_decide_eq_true (List.all_eq_true.mp h2 s hs)
  have all : ∀ k m, m.length = k → Al s1 s2 m ∧ tl L (bodyF s1 m) ∈ kn := by
    intro k
    induction k with
    | zero =>
      intro m hm
      have : m = [] := List.length_eq_zero_iff.mp hm
      subst this
      refine ⟨rfl, ?_⟩
      show tl L [] ∈ kn
      rw [tl_nil]
      exact of_decide_eq_true h0
    | succ k ih =>
      intro m hm
      rcases List.eq_nil_or_concat m with z | ⟨v, b, z⟩
      · rw [z] at hm; cases hm
      · rw [List.concat_eq_append] at z
        subst z
        obtain ⟨a1, a2⟩ := ih v (by rw [List.length_append] at hm; simpa using hm)
        obtain ⟨x1, x2, i1, i2, l1, l2, hiff, htl⟩ := al_ins o1 o2 h1' h2' a1 rfl b
        have e1 : itP s1 40 (tl L (bodyF s1 v) ++ [b]) = tl L (bodyF s1 v) ++ [b] ++ x1 := by rw [i1.itP, List.take_of_length_le (by omega)]
        have e2 : itP s2 40 (tl L (bodyF s1 v) ++ [b]) = tl L (bodyF s1 v) ++ [b] ++ x2 := by rw [i2.itP, List.take_of_length_le (by omega)]
        have h4 := List.all_eq_true.mp (List.all_eq_true.mp h3 _ a2) b (by cases b <;> decide)
        rw [e1, e2, Bool.and_eq_true] at h4
        obtain ⟨h5, h6⟩ := h4
        exact ⟨hiff.mpr (List.append_cancel_left (of_decide_eq_true h5)), by rw [← htl]; exact of_decide_eq_true h6⟩
  exact fun m => (all m.length m rfl).1
def parSB (s1 s2 : List Stf) (m : List Bool) : Bool := !decide (bodyF s1 m = bodyF s2 m) && (List.range (m.length + 1)).all fun n => (wdsP n).all fun v => decide (sl m ≤ sl v) || decide (bodyF s1 v = bodyF s2 v)
theorem sl_le {a b : List Bool} (h : sl a < sl b) : a.length ≤ b.length := by
  unfold sl at h
  rw [num_cons, num_cons, if_pos rfl, if_pos rfl] at h
  have hb := num_lt b
  rcases Nat.lt_or_ge b.length a.length with c | c
  · have : 2 ^ (b.length + 1) ≤ 2 ^ a.length := Nat.pow_le_pow_right (by decide) c
    rw [Nat.pow_succ] at this
    omega
  · exact c
theorem parS_dec {s1 s2 : List Stf} {m : List Bool} (h : parSB s1 s2 m = true) : PartR s1 s2 (some m) := by
  unfold parSB at h
  obtain ⟨h1, h2⟩ := Bool.and_eq_true_iff.mp h
  refine ⟨fun z => ?_, fun v hv => ?_⟩
  · rw [decide_eq_true (show bodyF s1 m = bodyF s2 m from z)] at h1
    cases h1
  · have h3 := List.all_eq_true.mp (List.all_eq_true.mp h2 v.length (List.mem_range.mpr (by have := sl_le hv; omega))) v (List.mem_of_getElem? (wdsP_at v))
    rcases Bool.or_eq_true_iff.mp h3 with z | z
    · exact absurd (of_decide_eq_true z) (by omega)
    · exact (show bodyF s1 v = bodyF s2 v from of_decide_eq_true z)
def parB (s1 s2 : List Stf) (o : Option (List Bool)) : Bool := o.elim (parNB s1 s2 4) (parSB s1 s2)
theorem par_dec {s1 s2 : List Stf} (o1 : OkN 39 s1) (o2 : OkN 39 s2) {o : Option (List Bool)} (h : parB s1 s2 o = true) : PartR s1 s2 o := by
  unfold parB at h
  cases o with
  | none =>
    rw [Option.elim_none] at h
    exact parN_dec o1 o2 h
  | some m =>
    rw [Option.elim_some] at h
    exact parS_dec h
theorem PartR.congr {s1 s2 t1 t2 : List Stf} (e1 : ∀ m, bodyF s1 m = bodyF t1 m) (e2 : ∀ m, bodyF s2 m = bodyF t2 m) : ∀ {o : Option (List Bool)}, PartR s1 s2 o → PartR t1 t2 o
  | none, h => fun m => by have := h m; unfold Al at this ⊢; rw [← e1, ← e2]; exact this
  | some m, h => ⟨fun z => h.1 (by unfold Al at z ⊢; rw [e1, e2]; exact z), fun v hv => by have := h.2 v hv; unfold Al at this ⊢; rw [← e1, ← e2]; exact this⟩
end U

set_option maxRecDepth 100000
set_option maxHeartbeats 4000000
set_option pp.maxSteps 400
namespace U
open PySem PySem.Spec PyProof.Rows
open L2 hiding Fun CX0 E0 pass0 Fun.binds
open C8 Lx SX StX
/-! clean rules given by hand: looked at by the kernel -/
theorem wid_eq0 (ss : List Stf) (f : List Bool) : wid ss f = max (longM ss) f.length - 1 := rfl
def spL (f l : List Bool) : Bool := !bordM f l
theorem spL_iff {f l : List Bool} : spL f l = true ↔ SpL f l := by
  unfold spL
  rw [Bool.not_eq_true', ← Bool.not_eq_true, bordM_iff]
  exact Classical.not_not
theorem spL_false {f l : List Bool} : spL f l = false ↔ ¬ SpL f l := by rw [← Bool.not_eq_true, spL_iff]
theorem clean_of {ss : List Stf} {f : List Bool} {w : Nat} (o : OkN 39 ss) (hf : f ≠ []) (hw : f.length ≤ w + 1) (hL : ∀ s ∈ ss, s.1.length ≤ w + 1) {kn : List (List Bool)} (h0 : [] ∈ kn) (cl : ∀ t ∈ kn, ∀ b, ∃ u ∈ kn, edge ss f w t b = some u) : ∀ m, ¬ SpL f (bodyF ss m) := by
  have all : ∀ k m, m.length = k → ¬ SpL f (bodyF ss m) ∧ stand ss w m ∈ kn := by
    intro k
    induction k with
    | zero =>
      intro m hm
      have : m = [] := List.length_eq_zero_iff.mp hm
      subst this
      refine ⟨fun ⟨i, hi, _⟩ => absurd hi (Nat.not_lt_zero _), ?_⟩
      show tl w [] ∈ kn
      rw [tl_nil]
      exact h0
    | succ k ih =>
      intro m hm
      rcases List.eq_nil_or_concat m with z | ⟨v, b, z⟩
      · rw [z] at hm; cases hm
      · rw [List.concat_eq_append] at z
        subst z
        obtain ⟨h1, h2⟩ := ih v (by rw [List.length_append] at hm; simpa using hm)
        obtain ⟨u, h3, h4⟩ := cl _ h2 b
        obtain ⟨_, e1, e2⟩ := edge_at o hf hw hL h1 b
        have hn : ¬ SpL f (bodyF ss (v ++ [b])) := fun z => by rw [e1 z] at h4; cases h4
        rw [e2 hn] at h4
        exact ⟨hn, by rw [Option.some.inj h4]; exact h3⟩
  exact fun m => (all m.length m rfl).1
def reachK (ss : List Stf) (f : List Bool) (w : Nat) : Nat → List (List Bool) → List (List Bool)
  | 0, kn => kn
  | n + 1, kn => reachK ss f w n (kn ++ ((kn.flatMap fun t => [edge ss f w t false, edge ss f w t true].filterMap id).filter fun u => !decide (u ∈ kn)).eraseDups)
theorem reachK_sub (ss : List Stf) (f : List Bool) (w : Nat) : ∀ (n : Nat) (kn : List (List Bool)) (t : List Bool), t ∈ kn → t ∈ reachK ss f w n kn
  | 0, _, _, h => h
  | n + 1, _, t, h => reachK_sub ss f w n _ t (List.mem_append_left _ h)
def isClB (ss : List Stf) (f : List Bool) : Bool := (reachK ss f (wid ss f) 12 [[]]).all fun t => [false, true].all fun b => match edge ss f (wid ss f) t b with
  | some u => decide (u ∈ reachK ss f (wid ss f) 12 [[]])
  | none => false
theorem clean_dec {ss : List Stf} {f : List Bool} (o : OkN 39 ss) (hf : f ≠ []) (h : isClB ss f = true) : ∀ m, ¬ SpL f (bodyF ss m) := by
  have hw : f.length ≤ wid ss f + 1 := by rw [wid_eq0]; omega
  have hL : ∀ s ∈ ss, s.1.length ≤ wid ss f + 1 := fun s hs => by have := longM_le hs; rw [wid_eq0]; omega
  refine clean_of (kn := reachK ss f (wid ss f) 12 [[]]) o hf hw hL (reachK_sub _ _ _ _ _ _ (List.mem_singleton.mpr rfl)) fun t ht b => ?_
  have h1 := List.all_eq_true.mp (List.all_eq_true.mp h t ht) b (by cases b <;> decide)
  cases he : edge ss f (wid ss f) t b with
  | none => rw [he] at h1; cases h1
  | some u => rw [he] at h1; exact ⟨u, of_decide_eq_true h1, rfl⟩
end U

set_option maxRecDepth 100000
set_option maxHeartbeats 4000000
namespace U
open PySem PySem.Spec PyProof.Rows
open L2 hiding Fun CX0 E0 pass0 Fun.binds
open C8 Lx SX StX
/-! texts of rules -/
def stT (s : Stf) : Str := W s.1 ++ ":" ++ W [s.2]
def ruWs (f : List Bool) (ss : List Stf) : List Str := "flag" :: W f :: (if ss = [] then [] else "put" :: ss.map stT)
def ruT (f : List Bool) (ss : List Stf) : Str := Txt.join " " (ruWs f ss)
theorem lenC (a b : Str) : (a ++ b).length = a.length + b.length := by
  rw [TL.len_tl, TL.len_tl a, TL.len_tl b]
  have := TL.tl_append a b
  show (TL.tl (a ++ b)).length = _
  rw [this, List.length_append]
theorem no_in (c : Nat) (h : ¬ c = 48 ∧ ¬ c = 49) (l : List Bool) : c ∉ TL.tl (W l) := by
  show c ∉ l.map bt
  intro z
  obtain ⟨b, _, e⟩ := List.mem_map.mp z
  cases b
  · exact h.1 e.symm
  · exact h.2 e.symm
theorem sp_tl : TL.tl (" " : Str) = 32 :: [] := by decide +kernel
theorem co_tl : TL.tl (":" : Str) = 58 :: [] := by decide +kernel
theorem sp_st (s : Stf) : (32 : Nat) ∉ TL.tl (stT s) := by
  unfold stT
  rw [TL.tl_append, TL.tl_append, co_tl]
  intro z
  rcases List.mem_append.mp z with z | z
  · rcases List.mem_append.mp z with z | z
    · exact no_in 32 (by decide) _ z
    · exact absurd (List.mem_singleton.mp z) (by decide)
  · exact no_in 32 (by decide) _ z
theorem sp_ws (f : List Bool) (ss : List Stf) : ∀ p ∈ ruWs f ss, (32 : Nat) ∉ TL.tl p := by
  intro p hp
  unfold ruWs at hp
  rcases List.mem_cons.mp hp with rfl | hp
  · decide +kernel
  · rcases List.mem_cons.mp hp with rfl | hp
    · exact no_in 32 (by decide) _
    · split at hp
      · cases hp
      · rcases List.mem_cons.mp hp with rfl | hp
        · decide +kernel
        · obtain ⟨s, _, rfl⟩ := List.mem_map.mp hp
          exact sp_st s
theorem ruT_split (f : List Bool) (ss : List Stf) : Txt.split (ruT f ss) " " = ruWs f ss :=
  TL.split_join sp_tl (by decide +kernel) (by unfold ruWs; exact List.cons_ne_nil _ _) (sp_ws f ss)
theorem stT_part (s : Stf) : Txt.partition (stT s) ":" = (W s.1, (":" : Str), W [s.2]) := TL.partition_app co_tl (no_in 58 (by decide) _)
theorem stT_inj {s t : Stf} (h : stT s = stT t) : s = t := by
  have e := congrArg (fun z => Txt.partition z ":") h
  simp only [stT_part] at e
  have e1 := W_inj (congrArg Prod.fst e)
  have e2 := W_inj (congrArg (fun z => z.2.2) e)
  exact Prod.ext e1 (List.cons.inj e2).1
theorem map_stT_inj : ∀ {ss ts : List Stf}, ss.map stT = ts.map stT → ss = ts
  | [], [], _ => rfl
  | [], _ :: _, h => by simp at h
  | _ :: _, [], h => by simp at h
  | a :: l, b :: m, h => by
    rw [List.map_cons, List.map_cons] at h
    injection h with h1 h2
    rw [stT_inj h1, map_stT_inj h2]
theorem ruT_inj {f f' : List Bool} {ss ss' : List Stf} (h : ruT f ss = ruT f' ss') : f = f' ∧ ss = ss' := by
  have e := congrArg (fun z => Txt.split z " ") h
  simp only [ruT_split] at e
  unfold ruWs at e
  injection e with _ e
  injection e with e1 e2
  refine ⟨W_inj e1, ?_⟩
  by_cases c : ss = []
  · by_cases c' : ss' = []
    · rw [c, c']
    · rw [if_pos c, if_neg c'] at e2; cases e2
  · by_cases c' : ss' = []
    · rw [if_neg c, if_pos c'] at e2; cases e2
    · rw [if_neg c, if_neg c'] at e2
      injection e2 with _ e2
      exact map_stT_inj e2
theorem ruT_eq {f f' : List Bool} {ss ss' : List Stf} : ruT f ss = ruT f' ss' ↔ (f = f' ∧ ss = ss') := ⟨ruT_inj, fun h => by rw [h.1, h.2]⟩
/-! a sorted row of stuffs is one -/
theorem key_inj {s t : Stf} (h : key s = key t) : s = t := by
  have e1 := W_inj (congrArg Prod.fst h)
  have e2 := W_inj (congrArg Prod.snd h)
  exact Prod.ext e1 (List.cons.inj e2).1
theorem lex_anti {s t : Stf} (h1 : SrT.lexT (key s) (key t) = false) (h2 : SrT.lexT (key t) (key s) = false) : s = t := by
  refine key_inj ?_
  rcases SrT.lexT_no.mp h1 with a | ⟨a, b⟩
  · rcases SrT.lexT_no.mp h2 with c | ⟨c, d⟩
    · exact absurd c (List.lt_asymm a)
    · rw [c] at a; exact absurd a (List.lt_irrefl _)
  · rcases SrT.lexT_no.mp h2 with c | ⟨c, d⟩
    · rw [a] at c; exact absurd c (List.lt_irrefl _)
    · refine Prod.ext a ?_
      exact TL.ext_tl (List.le_antisymm (List.not_lt.mp d) (List.not_lt.mp b))
theorem sorted_one : ∀ {ss ts : List Stf}, ss.Perm ts → SortedS ss → SortedS ts → ss = ts
  | [], ts, p, _, _ => (List.Perm.nil_eq p)
  | a :: l, [], p, _, _ => absurd (List.Perm.eq_nil p) (List.cons_ne_nil _ _)
  | a :: l, b :: m, p, h1, h2 => by
    obtain ⟨a1, a2⟩ := List.pairwise_cons.mp h1
    obtain ⟨b1, b2⟩ := List.pairwise_cons.mp h2
    have e : a = b := by
      rcases List.mem_cons.mp (p.mem_iff.mp (List.mem_cons_self (a := a) (l := l))) with z | z
      · exact z
      · rcases List.mem_cons.mp (p.mem_iff.mpr (List.mem_cons_self (a := b) (l := m))) with y | y
        · exact y.symm
        · exact lex_anti (b1 a z) (a1 b y)
    subst e
    rw [sorted_one (List.Perm.cons_inv p) a2 b2]
theorem RuAt.few {C : Addr} {H : Hp} {a : Addr} {f : List Bool} {ss : List Stf} (h : RuAt C H a f ss) : ∃ dx t, H a = some (.ins C dx (ruF f t)) := by
  obtain ⟨dx, t, _, _, h1, _⟩ := h
  exact ⟨dx, t, h1⟩
/-- a rule that is small enough for its text -/
structure RuSm (f : List Bool) (ss : List Stf) : Prop where
  fl : f.length ≤ 1000
  few : ss.length ≤ 1000
  long : ∀ s ∈ ss, s.1.length ≤ 9
theorem StOk.sm {f : List Bool} {ss : List Stf} (h : StOk ss) (hf : f.length ≤ 1000) : RuSm f ss := ⟨hf, h.few, h.l9⟩
def spRuStr (C : Addr) : Sp := fun vs H Q _ => ∃ (a : Addr) (f : List Bool) (ss : List Stf), vs = [.ref a] ∧ RuAt C H a f ss ∧ RuSm f ss ∧ ∀ H', Same H H' → Q (.str (ruT f ss)) H'
def spRuEq (C : Addr) : Sp := fun vs H Q _ => ∃ (a b : Addr) (f f' : List Bool) (ss ss' : List Stf), vs = [.ref a, .ref b] ∧ RuAt C H a f ss ∧ RuSm f ss ∧ RuAt C H b f' ss' ∧ RuSm f' ss' ∧ ∀ H', Same H H' → Q (.bl (decide (f = f' ∧ ss = ss'))) H'
def spRuLen (C : Addr) : Sp := fun vs H Q _ => ∃ (a : Addr) (f : List Bool) (ss : List Stf), vs = [.ref a] ∧ RuAt C H a f ss ∧ Q (.int (ss.length : Nat)) H
theorem stT_len {s : Stf} (h : s.1.length ≤ 9) : (stT s).length ≤ 11 := by
  unfold stT
  rw [lenC, lenC, W_len, W_len, show (":" : Str).length = 1 by decide +kernel]
  simp only [List.length_cons, List.length_nil]
  omega
theorem sum_st : ∀ {ss : List Stf}, (∀ s ∈ ss, s.1.length ≤ 9) → ((ss.map stT).map (·.length)).sum ≤ 11 * ss.length
  | [], _ => Nat.le_refl _
  | s :: r, h => by
    have h1 := stT_len (h s List.mem_cons_self)
    have h2 := sum_st fun t ht => h t (List.mem_cons_of_mem _ ht)
    rw [List.map_cons, List.map_cons, List.sum_cons, List.length_cons]
    omega
section
variable {P : Program} {w : World} {K : PySem.W.Frag} {mg : Str → Option Value} {base : Heap}
theorem sc_Rule_str : FnScope ["self", "told", "pattern", "bit"] ["self"] (fnScope s_Rule_str) := fnScope_by (by decide +kernel)
theorem met_Rule_str {f C : Addr} {fd : FuncData} (F : C8.Fun K "__str__" "Rule.__str__" s_Rule_str f fd) (me : Meth K C "__str__" f) (b : Binds K fd ["self"] []) (T : Tx mg) (RT : RuT K C) : Met P w K mg base 1 C "__str__" (spRuStr C) [] := by
  refine met0 RT.cl me F b sc_Rule_str (fun vs H Q E h => ?_) (fun cdv A outer s H vs Q E hr h => ?_)
  · obtain ⟨_, _, _, rfl, _⟩ := h; rfl
  · obtain ⟨a, fl, ss, rfl, hR, sm, k⟩ := h
    refine ⟨_, (pss_cons (ps_setLc (i := 1) (own := [("pattern", 2), ("bit", 3)]) (g := gTup K 2 (gCons (gName 2) (gCons (gName 3) gNil))) (by rfl) sc_Rule_str.nd rfl rfl (sw_true rfl rfl rfl (by decide +kernel)) (pi_tup (pe_fld (pv 0) rfl)) (blkOk_by (own := [("pattern", 2), ("bit", 3)]) (N := ["self", "told", "pattern", "bit"]) (sc := fnScope s_Rule_str) (by decide +kernel)) (fun _ _ _ _ _ => (pg_tup rfl (pgs_cons (pg_name (i := 2) sc_Rule_str.nd rfl (.inl rfl)) (pgs_cons (pg_name (i := 3) sc_Rule_str.nd rfl (.inl rfl)) pgs_nil)))) (fun _ _ _ _ _ => pts_nil) (fun _ _ _ _ _ => (pe_jn (.cons (pe_fmt (pv 2)) (.cons pe_str (.cons (pe_fmt (pv 3)) .nil))))))
    (pss_one (ps_ret (pe_join pe_str (pe_lst (pa_cons pe_str (pa_cons (pe_fld (pv 0) rfl) (pa_star (pe_ifExp (pt_cmpR op_gt (pe_callB call_len_seq (by rfl) T.b_len (by decide +kernel) (pa_cons (pv 1) pa_nil)) pe_int (nomark _)) (pe_lst (pa_cons pe_str (pa_star (pv 1) pa_nil))) (pe_lst pa_nil)) pa_nil)))))))), ?_⟩
    obtain ⟨dx, t, ps, kb, ha, ht, hv, rfl⟩ := id hR
    refine ⟨_, rfl, a, C, dx, _, _, rfl, ha, RT.cl, RT.nS, ruF_stuffs _ _, t, rfl, ⟨_, SqT.of ht⟩, fun D nD => ?_⟩
    refine lc_it (walk_tup (xs := ps.map V.ref)) (fun i H2 => Same H H2 ∧ H2 D = some (.lst ((((ps.map kb).take i).map stT).map V.str))) ⟨same_upd nD, upd_same⟩ (fun i H2 _ h2 => SqT.of (h2.1 _ _ ht)) ?_ ?_
    · rintro i x H2 H3 hi ⟨s2, hD⟩ ⟨rfl, hx⟩
      rw [List.getElem?_map] at hx
      obtain ⟨q, hq, rfl⟩ := Option.map_eq_some_iff.mp hx
      have hqm := List.mem_of_getElem? hq
      have hqv := s2 _ _ (hv q hqm)
      have l9 := sm.long (kb q) (List.mem_map.mpr ⟨q, hqm, rfl⟩)
      have e1 : Str.empty ++ W (kb q).1 = W (kb q).1 := by
        have e : Str.empty = W [] := by decide +kernel
        rw [e, W_cat]; rfl
      have l1 : (":" : Str).length = 1 := by decide +kernel
      refine ⟨q, _, rfl, SqT.of hqv, rfl, _, _, rfl, _, _, rfl, rfl, rfl, ?_⟩
      refine ⟨_, rfl, .inl ⟨_, rfl, by rw [W_len]; exact sl_len (by omega), _, rfl, by rw [e1, W_len]; exact sl_len (by omega), ?_⟩⟩
      refine ⟨_, rfl, by rw [e1, lenC, W_len, l1]; exact sl_len (by omega), ?_⟩
      refine ⟨_, rfl, .inl ⟨_, rfl, by rw [W_len]; exact sl_len (by show 1 ≤ 100000; decide), _, rfl, by rw [e1, lenC, lenC, W_len, W_len, l1]; exact sl_len (by simp only [List.length_cons, List.length_nil]; omega), ?_⟩⟩
      refine ⟨_, hD, ?_, ?_, ?_⟩
      · rw [List.length_map, List.length_map, List.length_take]
        have := sm.few
        exact sl_lt (by omega)
      · intro c o e
        rw [upd_ne (ne_of_none e nD)]
        exact s2 _ _ e
      · rw [upd_same, e1, List.take_add_one, List.getElem?_map, hq]
        simp [stT]
    · rintro H2 ⟨s2, hD⟩
      have el : ((ps.map kb).take (ps.map V.ref).length) = ps.map kb := List.take_of_length_le (by simp)
      rw [el] at hD
      have lk : (ps.map kb).length ≤ 1000 := sm.few
      have ls := sum_st sm.long
      refine ⟨⟨_, rfl⟩, ?_⟩
      refine ⟨_, rfl, a, C, dx, _, _, rfl, s2 _ _ ha, RT.cl, RT.nF, ruF_flag _ _, ?_⟩
      refine ⟨_, rfl, D, _, rfl, .inl (SqL.of hD), _, _, rfl, rfl, _, rfl, ?_⟩
      have l4 : ("flag" : Str).length = 4 := by decide +kernel
      have l3 : ("put" : Str).length = 3 := by decide +kernel
      have l1 : (" " : Str).length = 1 := by decide +kernel
      by_cases c : ps.map kb = []
      · refine iteDF (by rw [c]; decide) ?_
        refine ⟨Nat.zero_le _, fun p np => ?_⟩
        refine ⟨p, _, rfl, .inr (SqL.of upd_same), ?_⟩
        refine ⟨by show 2 ≤ sizeLine; decide, fun q nq => ?_⟩
        refine ⟨_, q, ["flag", W fl], rfl, rfl, .inl (SqL.of upd_same), ?_, ?_⟩
        · rw [l1]
          simp only [List.map_cons, List.map_nil, List.sum_cons, List.sum_nil, l4, W_len, List.length_cons, List.length_nil]
          have := sm.fl
          omega
        · have := k _ ((s2.trans (same_upd np)).trans (same_upd (o := .lst [.str "flag", .str (W fl)]) nq))
          unfold ruT ruWs at this
          rw [if_pos c] at this
          exact this
      · have c1 : 0 < (ps.map kb).length := List.length_pos_iff.mpr c
        refine iteDT (by rw [List.length_map, List.length_map]; omega) ?_
        refine ⟨_, rfl, D, _, rfl, .inr (SqL.of hD), by rw [List.length_cons, List.append_nil, List.length_map, List.length_map]; exact sl_len (by omega), fun p np => ?_⟩
        refine ⟨p, _, rfl, .inr (SqL.of upd_same), by rw [List.length_cons, List.length_cons, List.append_nil, List.length_cons, List.append_nil, List.length_map, List.length_map]; exact sl_len (by omega), fun q nq => ?_⟩
        refine ⟨_, q, "flag" :: W fl :: "put" :: (ps.map kb).map stT, rfl, rfl, .inl (SqL.of (by rw [upd_same]; simp)), ?_, ?_⟩
        · rw [l1]
          simp only [List.map_cons, List.sum_cons, l4, l3, W_len, List.length_cons, List.length_map] at ls lk ⊢
          have := sm.fl
          omega
        · have e := (s2.trans (same_upd np)).trans (same_upd (o := .lst ((V.str "flag" :: V.str (W fl) :: ((V.str "put" :: (((ps.map kb).map stT).map V.str ++ [])) ++ [])))) nq)
          have := k _ e
          unfold ruT ruWs at this
          rw [if_neg c] at this
          exact this
theorem sc_Rule_eq : FnScope ["self", "other"] ["self", "other"] (fnScope s_Rule_eq) := fnScope_by (by decide +kernel)
theorem met_Rule_eq {f C : Addr} {fd : FuncData} (F : C8.Fun K "__eq__" "Rule.__eq__" s_Rule_eq f fd) (me : Meth K C "__eq__" f) (b : Binds K fd ["self", "other"] []) (T : Tx mg) (RT : RuT K C) (g_Rule : mg "Rule" = some (.ref C)) (IS_Rule : IsT K C)
    (c_Rule_str : Met P w K mg base 1 C "__str__" (spRuStr C) []) : Met P w K mg base 4 C "__eq__" (spRuEq C) [] := by
  refine met0 RT.cl me F b sc_Rule_eq (fun vs H Q E h => ?_) (fun cdv A outer s H vs Q E hr h => ?_)
  · obtain ⟨_, _, _, _, _, _, rfl, _⟩ := h; rfl
  · obtain ⟨a, b, fl, fl', ss, ss', rfl, ra, h1, rb, h2, k⟩ := h
    refine ⟨_, (pss_one (ps_ret (pe_and (pe_callB call_isi (by rfl) T.b_isinstance (by decide +kernel) (pa_cons (pv 1) (pa_cons (pe_glob (v := .ref C) (by rfl) g_Rule rfl) pa_nil))) (pe_one (pe_cmpR op_eq (pe_callTy (call_str_own c_Rule_str hr (by decide)) (by rfl) T.b_str (by decide +kernel) (pa_cons (pv 0) pa_nil)) (pe_callTy (call_str_own c_Rule_str hr (by decide)) (by rfl) T.b_str (by decide +kernel) (pa_cons (pv 1) pa_nil)) (nomark _)))))), ?_⟩
    obtain ⟨dx, t, ha⟩ := ra.few
    obtain ⟨dy, t', hb⟩ := rb.few
    refine ⟨_, rfl, _, _, _, _, true, rfl, .own C, IS_Rule.ty hb, IS_Rule.one, _, rfl, ?_⟩
    refine ⟨_, rfl, a, dx, _, rfl, ha, a, fl, ss, rfl, ra, h1, fun H1 s1 => ⟨_, rfl, ?_⟩⟩
    refine ⟨_, rfl, b, dy, _, rfl, s1 _ _ hb, b, fl', ss', rfl, rb.same s1, h2, fun H2 s2 => ⟨_, rfl, rfl, ?_⟩⟩
    have e : decide (V.str (ruT fl ss) = V.str (ruT fl' ss')) = decide (fl = fl' ∧ ss = ss') := by
      rw [decide_eq_decide]
      exact ⟨fun z => ruT_inj (V.str.inj z), fun z => by rw [z.1, z.2]⟩
    rw [e]
    exact k H2 (s1.trans s2)
theorem sc_Rule_len : FnScope ["self"] ["self"] (fnScope s_Rule_len) := fnScope_by (by decide +kernel)
theorem met_Rule_len {f C : Addr} {fd : FuncData} (F : C8.Fun K "__len__" "Rule.__len__" s_Rule_len f fd) (me : Meth K C "__len__" f) (b : Binds K fd ["self"] []) (T : Tx mg) (RT : RuT K C) : Met P w K mg base 1 C "__len__" (spRuLen C) [] := by
  refine met0 RT.cl me F b sc_Rule_len (fun vs H Q E h => ?_) (fun cdv A outer s H vs Q E hr h => ?_)
  · obtain ⟨_, _, _, rfl, _⟩ := h; rfl
  · obtain ⟨a, fl, ss, rfl, hR, k⟩ := h
    refine ⟨_, (pss_one (ps_ret (pe_callB call_len_seq (by rfl) T.b_len (by decide +kernel) (pa_cons (pe_fld (pv 0) rfl) pa_nil)))), ?_⟩
    obtain ⟨dx, t, ps, kb, ha, ht, hv, rfl⟩ := id hR
    refine ⟨_, rfl, a, C, dx, _, _, rfl, ha, RT.cl, RT.nS, ruF_stuffs _ _, t, _, rfl, .inr (SqT.of ht), ?_⟩
    rw [List.length_map] at k ⊢
    exact k
end
end U

set_option maxRecDepth 100000
namespace U
/-! 0 and 1 exchanged -/
def sw (l : List Bool) : List Bool := l.map not
def swS (s : Stf) : Stf := (sw s.1, !s.2)
theorem sw_len (l : List Bool) : (sw l).length = l.length := List.length_map _
theorem sw_sw (l : List Bool) : sw (sw l) = l := by
  unfold sw
  rw [List.map_map]
  exact (List.map_congr_left fun b _ => Bool.not_not b).trans (List.map_id l)
theorem sw_app (a b : List Bool) : sw (a ++ b) = sw a ++ sw b := List.map_append
theorem sw_inj {a b : List Bool} (h : sw a = sw b) : a = b := by rw [← sw_sw a, h, sw_sw]
theorem swS_swS (s : Stf) : swS (swS s) = s := by
  unfold swS
  exact Prod.ext (sw_sw s.1) (Bool.not_not s.2)
theorem map_sw2 (ss : List Stf) : (ss.map swS).map swS = ss := by
  rw [List.map_map]
  exact (List.map_congr_left fun s _ => swS_swS s).trans (List.map_id ss)
theorem sw_suf {p l : List Bool} : sw p <:+ sw l ↔ p <:+ l := by
  constructor
  · rintro ⟨t, h⟩
    refine ⟨sw t, ?_⟩
    have := congrArg sw h
    rw [sw_app, sw_sw, sw_sw] at this
    exact this
  · rintro ⟨t, rfl⟩
    exact ⟨sw t, by rw [sw_app]⟩
theorem sw_isSuf (p l : List Bool) : (sw p).isSuffixOf (sw l) = p.isSuffixOf l := by
  rw [Bool.eq_iff_iff, List.isSuffixOf_iff_suffix, List.isSuffixOf_iff_suffix]
  exact sw_suf
theorem put_sw (l : List Bool) : ∀ ss : List Stf, putM (ss.map swS) (sw l) = (putM ss l).map not
  | [] => rfl
  | s :: r => by
    unfold putM
    rw [List.map_cons, List.find?_cons, List.find?_cons]
    show Option.map (fun x => x.2) (match (sw s.1).isSuffixOf (sw l) with | true => some (swS s) | false => _) = _
    rw [sw_isSuf]
    cases s.1.isSuffixOf l with
    | true => rfl
    | false => exact put_sw l r
theorem Ins.sw {ss : List Stf} {l x : List Bool} (h : Ins ss l x) : Ins (ss.map swS) (U.sw l) (U.sw x) := by
  induction h with
  | stop h => exact .stop (by rw [put_sw, h]; rfl)
  | more h _ ih =>
    refine .more (by rw [put_sw, h]; rfl) ?_
    rw [sw_app] at ih
    exact ih
theorem Reach.sw {ss : List Stf} {l : List Bool} (h : Reach ss l) : Reach (ss.map swS) (U.sw l) := by
  induction h with
  | nil => exact .nil
  | next _ i ih =>
    have := i.sw
    rw [sw_app] at this
    have r := Reach.next ih this
    rw [sw_app, sw_app]
    exact r
theorem OkN.sw {n : Nat} {ss : List Stf} (h : OkN n ss) : OkN n (ss.map swS) := fun l r b => by
  have r2 := r.sw
  rw [map_sw2] at r2
  obtain ⟨x, hx, hl⟩ := h _ r2 (!b)
  refine ⟨U.sw x, ?_, by rw [sw_len]; exact hl⟩
  have := hx.sw
  rw [sw_app, sw_sw] at this
  have e : U.sw [!b] = [b] := by cases b <;> rfl
  rw [e] at this
  exact this
theorem OkR.sw {ss : List Stf} (h : OkR ss) : OkR (ss.map swS) := fun l r b => by
  have r2 := r.sw
  rw [map_sw2] at r2
  obtain ⟨x, hx⟩ := h _ r2 (!b)
  refine ⟨U.sw x, ?_⟩
  have := hx.sw
  rw [sw_app, sw_sw] at this
  have e : U.sw [!b] = [b] := by cases b <;> rfl
  rw [e] at this
  exact this
theorem Body.sw {ss : List Stf} {m l : List Bool} (h : Body ss m l) : Body (ss.map swS) (U.sw m) (U.sw l) := by
  induction h with
  | nil => exact .nil
  | snoc _ i ih =>
    have := i.sw
    rw [sw_app] at this
    have r := Body.snoc ih this
    rw [sw_app, sw_app, sw_app]
    exact r
theorem SufFree.sw {ss : List Stf} (h : SufFree ss) : SufFree (ss.map swS) := by
  unfold SufFree at h ⊢
  rw [List.pairwise_map]
  refine h.imp fun {a b} hab => ?_
  exact ⟨fun z => hab.1 (sw_suf.mp z), fun z => hab.2 (sw_suf.mp z)⟩
end U

set_option maxRecDepth 100000
set_option maxHeartbeats 4000000
namespace U
open PySem PySem.Spec PyProof.Rows
open L2 hiding Fun CX0 E0 pass0 Fun.binds
open C8 Lx SX StX
theorem longM_sw : ∀ ss : List Stf, longM (ss.map swS) = longM ss
  | [] => rfl
  | s :: r => by
    show max (sw s.1).length (longM (r.map swS)) = max s.1.length (longM r)
    rw [sw_len, longM_sw r]
theorem StOk.sw {ss : List Stf} (h : StOk ss) : StOk (ss.map swS) := ⟨by rw [List.length_map]; exact h.few, fun s hs => by
    obtain ⟨t, ht, rfl⟩ := List.mem_map.mp hs
    intro z
    exact h.pos t ht (List.length_eq_zero_iff.mp (by rw [← sw_len]; exact List.length_eq_zero_iff.mpr z)), by rw [longM_sw]; exact h.long, h.free.sw⟩
def spOther : Sp := fun vs H Q _ => ∃ b : Bool, vs = [.str (W [b])] ∧ Q (.str (W [!b])) H
def spSwW : Sp := fun vs H Q _ => ∃ l : List Bool, vs = [.str (W l)] ∧ l.length ≤ 10000 ∧ ∀ H', Same H H' → Q (.str (W (sw l))) H'
def spSwapped (C : Addr) : Sp := fun vs H Q _ => ∃ (a : Addr) (f : List Bool) (ss : List Stf), vs = [.ref a] ∧ RuAt C H a f ss ∧ StOk ss ∧ OkR ss ∧ 2 ≤ f.length ∧ f.length ≤ 1000 ∧
  ∀ x ss' H', Same H H' → ss'.Perm (ss.map swS) → SortedS ss' → RuAt C H' x (sw f) ss' → Q (.ref x) H'
/-- a pair more in a list of stuffs -/
theorem st_push {H : Hp} {D z : Addr} {qs : List Addr} {kc : Addr → Stf} {zs : List V} {s : Stf} (hD : H D = some (.lst (qs.map V.ref))) (hS : StV H kc qs) (hz : H z = none) (ez : zs = [.str (W s.1), .str (W [s.2])]) :
    ∃ kc' : Addr → Stf, upd (upd H z (.tup zs)) D (.lst (qs.map V.ref ++ [.ref z])) D = some (.lst ((qs ++ [z]).map V.ref)) ∧ StV (upd (upd H z (.tup zs)) D (.lst (qs.map V.ref ++ [.ref z]))) kc' (qs ++ [z]) ∧ (qs ++ [z]).map kc' = qs.map kc ++ [s] := by
  subst ez
  have zq : ∀ y ∈ qs, y ≠ z := fun y hy => ne_of_none (hS y hy) hz
  have nDz : z ≠ D := (ne_of_none hD hz).symm
  refine ⟨fun y => if y = z then s else kc y, by rw [upd_same, List.map_append]; rfl, fun y hy => ?_, ?_⟩
  · have ny : y ≠ D := by
      rcases List.mem_append.mp hy with h1 | h1
      · exact ne_of (hS y h1) hD (by intro z; cases z)
      · rw [List.mem_singleton.mp h1]; exact nDz
    rw [upd_ne ny]
    dsimp only
    rcases List.mem_append.mp hy with h1 | h1
    · rw [if_neg (zq y h1), upd_ne (zq y h1)]
      exact hS y h1
    · rw [List.mem_singleton.mp h1, if_pos rfl]
      exact upd_same
  · rw [List.map_append]
    congr 1
    · exact List.map_congr_left fun y hy => if_neg (zq y hy)
    · show [if z = z then s else kc z] = [s]
      rw [if_pos rfl]
/-- a rule made of stuffs in a list or a tuple -/
theorem mk_ru {K : PySem.W.Frag} {C : Addr} {H : Hp} {l : Addr} {z : Str} {f : List Bool} {ps : List Addr} {kb : Addr → Stf} {R : Addr → Hp → Prop} {E : XK} (hz : z = W f) (hl : Sq K H l (ps.map V.ref)) (hs : StV H kb ps) (ok : StOk (ps.map kb)) (hO : OkR (ps.map kb)) (h2 : 2 ≤ f.length) (h3 : f.length ≤ 1000)
    (k : ∀ x ss' H', Same H H' → ss'.Perm (ps.map kb) → SortedS ss' → RuAt C H' x f ss' → R x H') :
    ∀ x dx, H x = none → H dx = none → dx ≠ x → spRuInit K C [.ref x, .str z, .ref l] (upd (upd H dx (.own x)) x (.ins C dx [])) (fun v H2 => v = .non ∧ R x H2) E := by
  subst hz
  intro x dx nx ndx nex
  have sm : Same H (upd (upd H dx (.own x)) x (.ins C dx [])) := fun c o e => by
    rw [upd_ne (ne_of_none e nx), upd_ne (ne_of_none e ndx)]; exact e
  exact ⟨x, dx, l, f, ps, kb, rfl, upd_same, hl.of_same sm, hs.same sm, ok, hO, h2, h3, fun H' ss' keep pm srt hR => ⟨rfl, k x ss' H' (Same.made nx ndx keep) pm srt hR⟩⟩
/-- a rule with one stuff, written -/
theorem mk_one {K : PySem.W.Frag} {C : Addr} {H : Hp} {p1 p2 : Addr} {z u v : Str} {f p : List Bool} {b : Bool} {R : Addr → Hp → Prop} {E : XK} (hz : z = W f) (hu : u = W p) (hv : v = W [b]) (n1 : H p1 = none) (n2 : upd H p1 (.tup [.str u, .str v]) p2 = none) (ok : StOk [(p, b)]) (hO : OkR [(p, b)]) (h2 : 2 ≤ f.length) (h3 : f.length ≤ 1000)
    (k : ∀ x H', Same H H' → RuAt C H' x f [(p, b)] → R x H') :
    ∀ x dx, upd (upd H p1 (.tup [.str u, .str v])) p2 (.lst [.ref p1]) x = none → upd (upd H p1 (.tup [.str u, .str v])) p2 (.lst [.ref p1]) dx = none → dx ≠ x →
      spRuInit K C [.ref x, .str z, .ref p2] (upd (upd (upd (upd H p1 (.tup [.str u, .str v])) p2 (.lst [.ref p1])) dx (.own x)) x (.ins C dx [])) (fun v H2 => v = .non ∧ R x H2) E := by
  subst hu hv
  refine mk_ru (ps := [p1]) (kb := fun _ => (p, b)) hz (.inl (SqL.of upd_same)) (fun t ht => ?_) ok hO h2 h3 fun x ss' H' s pm srt hR => ?_
  · rw [List.mem_singleton.mp ht, upd_ne (fun z => by rw [z, upd_same] at n2; cases n2)]
    exact upd_same
  · have es : ss' = [(p, b)] := List.perm_singleton.mp pm
    subst es
    exact k x H' (((same_upd n1).trans (same_upd n2)).trans s) hR
section
variable {P : Program} {w : World} {K : PySem.W.Frag} {mg : Str → Option Value} {base : Heap}
end
end U

set_option maxRecDepth 100000
set_option maxHeartbeats 4000000
set_option pp.maxSteps 400
namespace U
open PySem PySem.Spec PyProof.Rows
open L2 hiding Fun CX0 E0 pass0 Fun.binds
open C8 Lx SX StX
/-! a law's any values, as data -/
def lfV : List V := [.non, .bl true, .bl false, .int 0, .int 1, .int (0 - 1), .int 2, .str "", .str "0", .str "1", .str "01", .str "turn", .str "012", .str " 0", .str "cut"]
def AnV : Nat → Hp → V → Prop
  | 0, _, v => v ∈ lfV
  | n + 1, H, v => v ∈ lfV ∨ ∃ a xs, v = .ref a ∧ (H a = some (.lst xs) ∨ H a = some (.tup xs)) ∧ xs.length ≤ 3 ∧ ∀ x ∈ xs, AnV n H x
/-- a value that hangs on nothing but what is new from H to H' -/
def AnX (n : Nat) (H H' : Hp) (v : V) : Prop := ∀ H'', (∀ c o, H c = none → H' c = some o → H'' c = some o) → AnV n H'' v
theorem AnX.now {n : Nat} {H H' : Hp} {v : V} (h : AnX n H H' v) : AnV n H' v := h H' fun _ _ _ e => e
theorem AnX.up {n : Nat} {b : Addr} {H H' H2 : Hp} {v : V} (h : AnX n H H' v) (hb : Box H b) (u : Up b H' H2) : AnX n H H2 v := fun H'' k => h H'' fun c o e1 e2 => k c o e1 (u.1 _ _ e2 (fun z => by obtain ⟨x, y, e⟩ := hb; rw [z, e] at e1; cases e1))
theorem AnX.of {n : Nat} {b : Addr} {H0 H H' : Hp} {v : V} (h : AnX n H H' v) (hb : Box H b) (u : Up b H0 H) : AnX n H0 H' v := fun H'' k => h H'' fun c o e1 e2 => k c o (by
  cases e : H0 c with
  | none => rfl
  | some z =>
    have nb : c ≠ b := fun z => by obtain ⟨x, y, e⟩ := hb; rw [z, e] at e1; cases e1
    have := u.1 _ _ e nb
    rw [e1] at this
    cases this) e2
theorem AnV.leaf {n : Nat} {H : Hp} {v : V} (h : v ∈ lfV) : AnV n H v := by
  cases n with
  | zero => exact h
  | succ n => exact .inl h
theorem AnV.same {H H' : Hp} (s : Same H H') : ∀ {n : Nat} {v : V}, AnV n H v → AnV n H' v
  | 0, _, h => h
  | n + 1, v, h => by
    rcases h with h | ⟨a, xs, e, h, l, k⟩
    · exact .inl h
    · exact .inr ⟨a, xs, e, h.imp (s _ _) (s _ _), l, fun x hx => AnV.same s (k x hx)⟩
theorem lf_scal : ∀ v ∈ lfV, (match v with | .non => true | .bl _ => true | .int _ => true | .str z => decide (z.length ≤ 10000) && PyData.strOk z | _ => false) = true := List.all_eq_true.mp (by decide +kernel)
theorem lf_any {K : PySem.W.Frag} {H : Hp} {v : V} (hv : v ∈ lfV) : AnyS K H v := by
  have h := lf_scal v hv
  cases v with
  | non => exact anyS_non
  | bl x => exact anyS_bl x
  | int i => exact anyS_int i
  | str z =>
    have h : (decide (z.length ≤ 10000) && PyData.strOk z) = true := h
    rw [Bool.and_eq_true, decide_eq_true_iff] at h
    exact anyS_str h.1 h.2
  | _ => cases h
theorem AnV.any {K : PySem.W.Frag} {H : Hp} {n : Nat} {v : V} (h : AnV n H v) : AnyS K H v := by
  cases n with
  | zero => exact lf_any h
  | succ n =>
    rcases h with h | ⟨a, xs, rfl, h | h, _⟩
    · exact lf_any h
    · exact anyS_lst h
    · exact anyS_tup h
/-- a value with nothing in it but data; d tells it -/
def Dat (K : PySem.W.Frag) (H : Hp) (n : Nat) (v : V) (d : PyData) : Prop := Dp K H v d ∧ DOk n d ∧ ∀ a, v = .ref a → H a = some (.tup []) → d = .tuple []
theorem lf_dat {K : PySem.W.Frag} {H : Hp} {n : Nat} {v : V} (hv : v ∈ lfV) : ∃ d, Dat K H n v d := by
  have h := lf_scal v hv
  have none0 : ∀ {d : PyData}, PyData.canLay0 d = true → PyData.depth d = 0 → DOk n d := fun h1 h2 => ⟨h1, by omega⟩
  cases v with
  | non => exact ⟨.none, .non, none0 rfl rfl, fun _ z => by cases z⟩
  | bl x => exact ⟨.bool x, .bl x, none0 rfl rfl, fun _ z => by cases z⟩
  | int i => exact ⟨.int i, .int i, none0 rfl rfl, fun _ z => by cases z⟩
  | str z =>
    have h : (decide (z.length ≤ 10000) && PyData.strOk z) = true := h
    rw [Bool.and_eq_true, decide_eq_true_iff] at h
    exact ⟨.str z, .str z, none0 h.2 rfl, fun _ z => by cases z⟩
  | _ => cases h
theorem all_dat {K : PySem.W.Frag} {H : Hp} {n : Nat} : ∀ {xs : List V}, (∀ x ∈ xs, ∃ d, Dat K H n x d) → ∃ ds, DpAll K H xs ds ∧ (∀ d ∈ ds, DOk n d) ∧ ds.length = xs.length
  | [], _ => ⟨[], .nil, fun _ h => (nomatch h), rfl⟩
  | x :: r, h => by
    obtain ⟨d, h1, h2, _⟩ := h x List.mem_cons_self
    obtain ⟨ds, h3, h4, h5⟩ := all_dat (K := K) (H := H) (n := n) (xs := r) fun y hy => h y (List.mem_cons_of_mem _ hy)
    refine ⟨d :: ds, .cons h1 h3, fun e he => ?_, by rw [List.length_cons, List.length_cons, h5]⟩
    rcases List.mem_cons.mp he with rfl | he
    · exact h2
    · exact h4 e he
theorem AnV.dat {K : PySem.W.Frag} {H : Hp} : ∀ {n : Nat} {v : V}, AnV n H v → ∃ d, Dat K H n v d
  | 0, v, h => lf_dat h
  | n + 1, v, h => by
    rcases h with h | ⟨a, xs, rfl, h, l, k⟩
    · exact lf_dat h
    · obtain ⟨ds, h1, h2, h3⟩ := all_dat (K := K) (H := H) (n := n) fun x hx => AnV.dat (k x hx)
      rcases h with h | h
      · exact ⟨.list ds, .lst (SqL.of h) h1, dok_list h2, fun a' e h' => by cases e; rw [h] at h'; cases h'⟩
      · refine ⟨.tuple ds, .tup (SqT.of h) h1, dok_tup h2, fun a' e h' => ?_⟩
        cases e
        rw [h] at h'
        cases h'
        rw [List.length_nil, List.length_eq_zero_iff] at h3
        rw [h3]
def spLeafV : Sp := fun vs H Q _ => ∃ b : Addr, vs = [.ref b] ∧ Box H b ∧ ∀ v H', Up b H H' → v ∈ lfV → Q v H'
def spAnyV (n : Nat) : Sp := fun vs H Q _ => ∃ b : Addr, vs = [.ref b, .int n] ∧ Box H b ∧ ∀ v H', Up b H H' → AnX n H H' v → Q v H'
def spAnyW : Sp := fun vs H Q _ => ∃ (b : Addr) (n : Nat), vs = [.ref b, .int n] ∧ n ≤ 8 ∧ Box H b ∧ ∀ v H', Up b H H' → AnX n H H' v → Q v H'
section
variable {P : Program} {w : World} {K : PySem.W.Frag} {mg : Str → Option Value} {base : Heap}
theorem sc_l_leaf : FnScope ["_law_box"] ["_law_box"] (fnScope s_l_leaf) := fnScope_by (by decide +kernel)
theorem cal_l_leaf {f : Addr} {fd : FuncData} (F : Def K mg "_law_leaf" s_l_leaf f fd) (b : Binds K fd ["_law_box"] []) (T : Tx mg) (c_l_one_of : Cal P w K mg base 2 "_law_one_of" spOneOf []) : Cal P w K mg base 3 "_law_leaf" spLeafV [] := by
  refine cal0 F b .nil sc_l_leaf (fun vs H Q E h => ?_) (fun cdv A outer s H vs Q E hr h => ?_)
  · obtain ⟨_, rfl, _⟩ := h; rfl
  · obtain ⟨bx, rfl, hb, k⟩ := h
    refine ⟨_, (pss_one (ps_ret (pe_c c_l_one_of hr (by decide) rfl (pa_cons (pv 0) (pa_cons (pe_lst (pa_cons pe_non (pa_cons pe_bl (pa_cons pe_bl (pa_cons pe_int (pa_cons pe_int (pa_cons (pe_op op_sub pe_int pe_int) (pa_cons pe_int (pa_cons pe_str (pa_cons pe_str (pa_cons pe_str (pa_cons pe_str (pa_cons pe_str (pa_cons pe_str (pa_cons pe_str (pa_cons pe_str pa_nil)))))))))))))))) pa_nil))))), ?_⟩
    refine ⟨_, rfl, _, _, rfl, rfl, by show 15 ≤ sizeLine; decide, fun l1 n1 => ?_⟩
    have s1 := same_upd (o := .lst lfV) n1
    exact ⟨bx, l1, _, rfl, hb.same s1, upd_same, hb.ne n1, by show 0 < 15; decide, by show 15 < 1000; decide, fun v H' hv u => k v H' ((Up.of_same hb s1).trans u) hv⟩
theorem sc_l_any : FnScope ["_law_box", "_law_deep_here", "_law_form", "_law_found", "_law_turn"] ["_law_box", "_law_deep_here"] (fnScope s_l_any) := fnScope_by (by decide +kernel)
theorem any_fn {f : Addr} {fd : FuncData} (F : Def K mg "_law_any" s_l_any f fd) (b : Binds K fd ["_law_box", "_law_deep_here"] []) (T : Tx mg) (c_l_choose : Cal P w K mg base 1 "_law_choose" spChoose []) (c_l_leaf : Cal P w K mg base 3 "_law_leaf" spLeafV []) (n : Nat) : FnOk P w K mg base CX0 (4 + n) f fd ["_law_box", "_law_deep_here"] (spAnyV n) := by
  induction n with
  | zero =>
    refine fn0 F.fn sc_l_any (fun vs H Q E h => ?_) (fun cdv A outer s H vs Q E hr h => ?_)
    · obtain ⟨_, rfl, _⟩ := h; rfl
    · obtain ⟨bx, rfl, hb, k⟩ := h
      refine ⟨_, (pss_cons (ps_set (i := 2) sc_l_any.nd rfl (.inl rfl) (pe_ifExp (pt_cmpR op_gt (pv 1) pe_int (nomark _)) (pe_c c_l_choose hr (by decide) rfl (pa_cons (pv 0) (pa_cons pe_int pa_nil))) pe_int))
        (pss_cons (ps_if (pt_cmpR op_gt (pv 2) pe_int (nomark _)) (pss_one (ps_ret (pe_c c_l_leaf hr (by decide) rfl (pa_cons (pv 0) pa_nil)))) pss_nil) pss_never)), ?_⟩
      refine ⟨_, rfl, _, _, rfl, rfl, _, rfl, iteDF (by decide) ?_⟩
      refine ⟨_, rfl, _, _, rfl, rfl, _, rfl, iteDT (by decide) ?_⟩
      exact ⟨_, rfl, bx, rfl, hb, fun v H' u hv => k v H' u fun _ _ => AnV.leaf hv⟩
  | succ n ih =>
    have c_l_any : Cal P w K mg base (4 + n) "_law_any" (spAnyV n) [] := ⟨f, fd, _, [], ih, F.mgf, F.kp, b, .nil⟩
    refine fn0 F.fn sc_l_any (fun vs H Q E h => ?_) (fun cdv A outer s H vs Q E hr h => ?_)
    · obtain ⟨_, rfl, _⟩ := h; rfl
    · obtain ⟨bx, rfl, hb, k⟩ := h
      refine ⟨_, (pss_cons (ps_set (i := 2) sc_l_any.nd rfl (.inl rfl) (pe_ifExp (pt_cmpR op_gt (pv 1) pe_int (nomark _)) (pe_c c_l_choose hr (by show _ ≤ 4 + n; omega) rfl (pa_cons (pv 0) (pa_cons pe_int pa_nil))) pe_int))
    (pss_cons (ps_if (pt_cmpR op_gt (pv 2) pe_int (nomark _)) (pss_one (ps_ret (pe_c c_l_leaf hr (by show _ ≤ 4 + n; omega) rfl (pa_cons (pv 0) pa_nil)))) pss_nil)
    (pss_cons (ps_setLc (i := 3) (own := [("_law_turn", 4)]) (g := gName 4) (by rfl) sc_l_any.nd rfl rfl (sw_true rfl rfl rfl (by decide +kernel)) (pi_range1 (by rfl) T.b_range (pa_cons (pe_c c_l_choose hr (by show _ ≤ 4 + n; omega) rfl (pa_cons (pv 0) (pa_cons pe_int pa_nil))) pa_nil)) (blkOk_by (own := [("_law_turn", 4)]) (N := ["_law_box", "_law_deep_here", "_law_form", "_law_found", "_law_turn"]) (sc := fnScope s_l_any) (by decide +kernel)) (fun _ _ _ _ _ => (pg_name (i := 4) sc_l_any.nd rfl (.inl rfl))) (fun _ _ _ _ _ => pts_nil) (fun _ _ _ _ _ => (pe_c c_l_any hr (by show _ ≤ 4 + n; omega) rfl (pa_cons (pv 0) (pa_cons (pe_op op_sub (pv 1) pe_int) pa_nil)))))
    (pss_one (ps_ret (pe_ifExp (pt_cmpR op_eq (pv 2) pe_int (nomark _)) (pe_callTy call_tuple_of (by rfl) T.b_tuple (by decide +kernel) (pa_cons (pv 3) pa_nil)) (pv 3))))))), ?_⟩
      refine ⟨_, rfl, _, _, rfl, rfl, _, rfl, iteDT (by show (0 : Int) < ((n + 1 : Nat) : Int); omega) ?_⟩
      refine ⟨_, rfl, bx, 6, rfl, hb, by decide, by decide, fun d H1 d0 d6 u1 => ?_⟩
      refine ⟨_, rfl, _, _, rfl, rfl, _, rfl, ?_⟩
      by_cases c1 : d > 1
      · refine iteDT c1 ?_
        exact ⟨_, rfl, bx, rfl, u1.2, fun v H' u hv => k v H' (u1.trans u) fun _ _ => AnV.leaf hv⟩
      · refine iteDF c1 ?_
        refine ⟨_, rfl, bx, 4, rfl, u1.2, by decide, by decide, fun e H2 e0 e4 u2 => ?_⟩
        refine ⟨_, rfl, by omega, by omega, fun D nD => ?_⟩
        have u12 := u1.trans u2
        have Db : D ≠ bx := u2.2.ne nD
        have nD2 : H2 D = none := nD
        have bx2 : ∀ c, H2 c = none → c ≠ bx := fun c e z => by
          obtain ⟨x, y, e'⟩ := u2.2
          rw [z, e'] at e
          cases e
        refine lc_it (walk_range (lo := 0) (n := e.toNat)) (fun i H3 => Up bx H2 H3 ∧ ∃ vs : List V, H3 D = some (.lst vs) ∧ vs.length = i ∧ ∀ v ∈ vs, ∀ H'', (∀ c o, H2 c = none → c ≠ D → H3 c = some o → H'' c = some o) → AnV n H'' v) ⟨(Up.refl u2.2).mut nD Db, [], upd_same, rfl, fun _ h => nomatch h⟩ (fun _ _ _ _ => trivial) ?_ ?_
        · rintro i x H3' H3 hi ⟨u3, vs, hD, lvs, av0⟩ ⟨rfl, rfl⟩
          refine ⟨rfl, _, rfl, _, rfl, _, _, rfl, rfl, bx, by show [V.ref bx, V.int (((n + 1 : Nat) : Int) - 1)] = _; rw [show ((n + 1 : Nat) : Int) - 1 = (n : Int) by omega], u3.2, fun v H4 u4 av => ?_⟩
          refine ⟨_, u4.1 _ _ hD Db, sl_lt (by omega), (u3.trans u4).mut nD Db, vs ++ [v], by rw [upd_same], by rw [List.length_append, lvs]; rfl, fun z hz H'' hk => ?_⟩
          rcases List.mem_append.mp hz with hz | hz
          · exact av0 z hz H'' fun c o e1 e2 e3 => hk c o e1 e2 (by rw [upd_ne e2]; exact u4.1 _ _ e3 (bx2 c e1))
          · rw [List.mem_singleton.mp hz]
            refine av H'' fun c o e1 e2 => ?_
            have cD : c ≠ D := fun z => by rw [z, hD] at e1; cases e1
            have c2 : H2 c = none := by
              cases e' : H2 c with
              | none => rfl
              | some z =>
                by_cases cb : c = bx
                · obtain ⟨x, y, e''⟩ := u3.2
                  rw [cb, e''] at e1
                  cases e1
                · have := u3.1 _ _ e' cb
                  rw [e1] at this
                  cases this
            exact hk c o c2 cD (by rw [upd_ne cD]; exact e2)
        rintro H3 ⟨u3, vs, hD, lvs, av⟩
        have u13 := u12.trans u3
        have l3 : vs.length ≤ 3 := by omega
        have nHD : H D = none := by
          cases e' : H D with
          | none => rfl
          | some z =>
            have := u12.1 _ _ e' Db
            rw [nD2] at this
            cases this
        have nH : ∀ c, H2 c = none → H c = none := fun c e1 => by
          cases e' : H c with
          | none => rfl
          | some z =>
            have := u12.1 _ _ e' (bx2 c e1)
            rw [e1] at this
            cases this
        refine ⟨_, rfl, rfl, _, rfl, ?_⟩
        by_cases c2 : d = 0
        · refine iteDT (by rw [c2]) ?_
          refine ⟨_, rfl, D, _, rfl, .inl ⟨SqL.of hD, fun t nt => ?_⟩⟩
          have st := same_upd (o := .tup vs) nt
          have nHt : H t = none := u13.free nt
          exact k _ _ (u13.same st) fun H'' hk => .inr ⟨t, vs, rfl, .inr (hk _ _ nHt upd_same), l3, fun x hx => av x hx H'' fun c o e1 _ e3 => hk c o (nH c e1) (st _ _ e3)⟩
        · refine iteDF (fun z => c2 (V.int.inj z)) ?_
          exact ⟨_, rfl, k _ _ u13 fun H'' hk => .inr ⟨D, vs, rfl, .inl (hk _ _ nHD hD), l3, fun x hx => av x hx H'' fun c o e1 _ e3 => hk c o (nH c e1) e3⟩⟩
theorem cal_l_any {f : Addr} {fd : FuncData} (F : Def K mg "_law_any" s_l_any f fd) (b : Binds K fd ["_law_box", "_law_deep_here"] []) (T : Tx mg) (c_l_choose : Cal P w K mg base 1 "_law_choose" spChoose []) (c_l_leaf : Cal P w K mg base 3 "_law_leaf" spLeafV []) : Cal P w K mg base 12 "_law_any" spAnyW [] := by
  refine ⟨f, fd, _, [], ⟨fun vs H Q E h => ?_, fun A outer s H args us vs Q E hr e0 hb r h => ?_⟩, F.mgf, F.kp, b, .nil⟩
  · obtain ⟨_, _, rfl, _⟩ := h; rfl
  · obtain ⟨bx, n, rfl, hn, hbx, k⟩ := h
    exact (any_fn F b T c_l_choose c_l_leaf n).run A outer s H args us _ Q E (hr.mono (by omega)) e0 hb r ⟨bx, rfl, hbx, k⟩
end
end U

set_option maxRecDepth 100000
set_option maxHeartbeats 4000000
set_option pp.maxSteps 400
namespace ExS
open PySem PySem.Spec PyProof.Rows L2
theorem pe_or {X : Cx} {e : Expr} {t1 t2 : TE} (h1 : PE X e t1) (h2 : PE X e t2) : PE X e (fun σ H Q => t1 σ H Q ∨ t2 σ H Q) :=
  ⟨fun pins s σ H Q I h => h.elim (fun h => h1.run pins s σ H Q I h) fun h => h2.run pins s σ H Q I h⟩
end ExS
namespace Lx
open PySem PySem.Spec PyProof.Rows L2
theorem op_or {X : Cx} {f : Value → Value → Sem Value} {r1 r2 : R2} (h1 : OpR X f r1) (h2 : OpR X f r2) : OpR X f (fun x y H Q => r1 x y H Q ∨ r2 x y H Q) := fun pins s σ H x y v u Q I rx ry h =>
  h.elim (fun h => h1 pins s σ H x y v u Q I rx ry h) fun h => h2 pins s σ H x y v u Q I rx ry h
/-- an instance != a tuple, by its own __eq__ -/
def rNeT (K : PySem.W.Frag) (C : Addr) (sp : Sp) : R2 := fun x y H Q => ∃ a b dx fs ys, x = .ref a ∧ y = .ref b ∧ H a = some (.ins C dx fs) ∧ SqT K H b ys ∧ sp [.ref a, .ref b] H (fun v H' => ∃ t : Bool, v = .bl t ∧ Q (.bl (!t)) H') C8.E0
theorem op_neT {X : Cx} {k j : Nat} {C : Addr} {sp : Sp} (c : C8.Met X.prog X.w X.K X.mg X.base k C "__eq__" sp []) (N : NeT X.K C) (nf : PySem.W.notFirst X.K C (.type "tuple") = true) (hr : Room j X.A) (hk : k + 1 ≤ j) : OpR X (compareOp .NotEq) (rNeT X.K C sp) := by
  intro pins s σ H x y v u Q I rx ry h
  obtain ⟨a, b, dx, fs, ys, rfl, rfl, ha, hb, hsp⟩ := h
  obtain ⟨f, fd, ps, ds, _, me, F, bn, d⟩ := c.ex
  obtain rfl := vals_nil d
  cases rx
  cases ry
  obtain ⟨mA, J, _⟩ := ins_get I.hok ha
  obtain ⟨od, J, _⟩ := J.look
  obtain ⟨its, r, ⟨o, ho, hc, n, hd⟩, _⟩ := I.tuple hb
  have sb1 : Sub X (k + 1) X.A := ⟨hr.mono hk, rfl⟩
  have sb := sb1.in1
  have ty : PySem.W.Looks (model X.prog X.w) s.heap (typeOf (.ref b)) (.type "tuple") := fun A Q E s k q => wpAny_typeOf_ref (k _ _ ho) (by rw [hc]; exact q)
  show wpAny (model X.prog X.w) X.A (richCompare .NotEq (.ref a) (.ref b)) (EP X pins σ Q) X.xe s
  refine cmp_neK (tb := .type "tuple") sb1.room.units0 sb.room.units0 I.kIn J ty nf N me.at_ me.fn ?_
  refine wpAny_mono (run_sub (vs := [.ref a, .ref b]) F sb bn C8.pass0 I (.cons rfl (.cons rfl .nil)) hsp) (fun u s' q => ?_) fun _ _ x => x
  obtain ⟨v, H', I', ru, t, ez, q⟩ := q
  subst ez
  cases (show u = Value.bool t from ru)
  exact ⟨t, rfl, .bl (!t), H', I', rfl, q⟩
end Lx
namespace U
open PySem PySem.Spec PyProof.Rows
open L2 hiding Fun CX0 E0 pass0 Fun.binds
open C8 Lx SX StX
def spHoldsBad (K : PySem.W.Frag) : Sp := fun vs H Q _ => ∃ (a t : Addr) (xs : List V), vs = [.ref a, .ref t] ∧ H t = some (.tup xs) ∧ xs.length ≤ 5000 ∧ (∀ x ∈ xs, AnyS K H x) ∧ (∃ x ∈ xs, wordB x = false) ∧ ∀ H', Same H H' → Q (.bl false) H'
def spDeep : Sp := fun vs H Q _ => vs = [] ∧ ∀ a xs H', Same H H' → H a = none → H' a = some (.lst xs) → Q (.ref a) H'
def spRuEqT : Sp := fun vs H Q _ => ∃ (a b : Addr) (ys : List V), vs = [.ref a, .ref b] ∧ H b = some (.tup ys) ∧ Q (.bl false) H
section
variable {P : Program} {w : World} {K : PySem.W.Frag} {mg : Str → Option Value} {base : Heap}
theorem sc_l_deep : FnScope ["_law_found", "_law_turn"] [] (fnScope s_l_deep) := fnScope_by (by decide +kernel)
theorem cal_l_deep {f : Addr} {fd : FuncData} (F : Def K mg "_law_deep" s_l_deep f fd) (b : Binds K fd [] []) (T : Tx mg) : Cal P w K mg base 1 "_law_deep" spDeep [] := by
  refine cal0 F b .nil sc_l_deep (fun vs H Q E h => ?_) (fun cdv A outer s H vs Q E hr h => ?_)
  · obtain ⟨rfl, _⟩ := h; rfl
  · obtain ⟨rfl, k⟩ := h
    refine ⟨_, (pss_cons (ps_set (i := 0) sc_l_deep.nd rfl (.inl rfl) pe_int)
    (pss_cons (ps_for PassesOwn.never rfl (pi_range1 (by rfl) T.b_range (pa_cons pe_int pa_nil)) (pg_name (i := 1) sc_l_deep.nd rfl (.inl rfl))
    (pss_one (ps_set (i := 0) sc_l_deep.nd rfl (.inl rfl) (pe_ifExp (pt_cmpR op_eq (pe_op op_mod (pv 1) pe_int) pe_int (nomark _)) (pe_lst (pa_cons (pv 0) pa_nil)) (pe_tup (pa_cons (pv 0) pa_nil))))))
    (pss_one (ps_ret (pv 0))))), ?_⟩
    refine ⟨_, rfl, by decide, by decide, ?_⟩
    refine for_it (walk_range (lo := 0) (n := 7)) (fun i σ H2 => ∃ (x : V) (v1 : Option V), σ = [some x, v1] ∧ Same H H2 ∧ (i % 2 = 1 → ∃ a xs, x = .ref a ∧ H a = none ∧ H2 a = some (.lst xs)))
      ⟨_, none, rfl, Same.refl _, fun z => by cases z⟩ (fun _ _ _ _ _ => trivial) ?_ ?_
    · rintro i x σ H2' H2 hi ⟨x, v1, rfl, s2, hx⟩ ⟨rfl, rfl⟩
      refine ⟨_, rfl, _, _, rfl, rfl, (by show (0 : Int) < 2; decide), rfl, _, rfl, ?_⟩
      by_cases c : i % 2 = 0
      · refine iteDT (by show V.int ((0 + (i : Int)) % 2) = V.int 0; congr 1; omega) ?_
        refine ⟨_, rfl, by show 1 ≤ sizeLine; decide, fun a na => ?_⟩
        exact ⟨_, _, rfl, s2.trans (same_upd na), fun _ => ⟨a, _, rfl, s2.free na, upd_same⟩⟩
      · refine iteDF (by show ¬ V.int ((0 + (i : Int)) % 2) = V.int 0; intro z; have := V.int.inj z; omega) ?_
        refine ⟨_, rfl, by show 1 ≤ sizeLine; decide, fun a na => ?_⟩
        exact ⟨_, _, rfl, s2.trans (same_upd na), fun z => by omega⟩
    · rintro σ H2 ⟨x, v1, rfl, s2, hx⟩
      obtain ⟨a, xs, rfl, na, ha⟩ := hx (by decide)
      exact ⟨_, rfl, k a xs H2 s2 na ha⟩

theorem cal_clean_paper_holdsX {f : Addr} {fd : FuncData} (F : Def K mg "clean_paper_holds" s_clean_paper_holds f fd) (b : Binds K fd ["rule", "value"] []) (T : Tx mg) (c_is_word : Cal P w K mg base 1 "is_word" (spIsWord K) []) : Cal P w K mg base 5 "clean_paper_holds" (spHoldsBad K) [] := by
  refine cal0 F b .nil sc_clean_paper_holds (fun vs H Q E h => ?_) (fun cdv A outer s H vs Q E hr h => ?_)
  · obtain ⟨_, _, _, rfl, _⟩ := h; rfl
  · obtain ⟨a, t, xs, rfl, ht, lxs, hA, hB, k⟩ := h
    refine ⟨_, (pss_cons (ps_if (PW.pt (pw_or (pt_not (pt_val (pe_callB call_isi (by rfl) T.b_isinstance (by decide +kernel) (pa_cons (pv 1) (pa_cons (pe_bltn (v := .ty "tuple") (u := .type "tuple") (by rfl) T.b_tuple (by decide +kernel) rfl) pa_nil))))) (pw_or (pt_not (pt_val (pe_callB (cr_all rfl) (by rfl) T.b_all (by decide +kernel) (pa_cons (pe_lc (own := [("standing", 2)]) (g := gName 2) (by rfl) sc_clean_paper_holds.nd (pi_tup (pv 1)) (blkOk_by (own := [("standing", 2)]) (N := ["rule", "value", "standing", "known", "bit"]) (sc := fnScope s_clean_paper_holds) (by decide +kernel)) (fun _ _ _ _ _ => (pg_name (i := 2) sc_clean_paper_holds.nd rfl (.inl rfl))) (fun _ _ _ _ _ => pts_nil) (fun _ _ _ _ _ => (pe_c c_is_word hr (by decide) rfl (pa_cons (pv 2) pa_nil)))) pa_nil)))) (pw_or1 (pt_cmpR op_notIn_seq pe_str (pv 1) (by with_unfolding_all rfl)))))) (pss_one (ps_ret pe_bl)) pss_nil) pss_never), ?_⟩
    refine ⟨_, rfl, _, _, _, _, true, rfl, .ty _, .base (.tup ht), kit_ty (by decide +kernel), _, rfl, iteF ?_⟩
    refine ⟨_, rfl, t, rfl, ⟨_, SqT.of ht⟩, fun D nD => ?_⟩
    refine lc_it (walk_tup (xs := xs)) (fun i H2 => Same H H2 ∧ H2 D = some (.lst (((xs.take i).map wordB).map V.bl))) ⟨same_upd nD, upd_same⟩ (fun i H2 _ h2 => SqT.of (h2.1 _ _ ht)) ?_ ?_
    · rintro i x H2' H2 hi ⟨s2, hD⟩ ⟨rfl, hx⟩
      have hxm := List.mem_of_getElem? hx
      refine ⟨rfl, _, rfl, ?_⟩
      try dsimp only [tNil, List.append_nil]
      refine spIsWord.any ((hA x hxm).same s2) fun H3 s3 => ?_
      refine ⟨_, s3 _ _ hD, by rw [List.length_map, List.length_map, List.length_take]; exact sl_lt (by omega), same_mut' (s2.trans s3) nD, ?_⟩
      rw [upd_same, List.take_add_one, hx, List.map_append, List.map_append]
      rfl
    · rintro H2 ⟨s2, hD⟩
      rw [List.take_length] at hD
      refine ⟨D, _, rfl, SqL.of hD, _, rfl, iteBT ?_ ?_⟩
      · obtain ⟨x, hx, hw⟩ := hB
        rw [Bool.not_eq_true', ← Bool.not_eq_true, List.all_eq_true]
        intro z
        have := z _ (List.mem_map.mpr ⟨x, hx, rfl⟩)
        rw [hw] at this
        cases this
      · exact k _ s2

theorem met_Rule_eqT {f C : Addr} {fd : FuncData} (F : C8.Fun K "__eq__" "Rule.__eq__" s_Rule_eq f fd) (me : Meth K C "__eq__" f) (b : Binds K fd ["self", "other"] []) (T : Tx mg) (RT : RuT K C) (g_Rule : mg "Rule" = some (.ref C)) (kon_tuple_rule : PySem.W.kitOne K (.type "tuple") (.ref C) = some false) (c_Rule_str : Met P w K mg base 1 C "__str__" (spRuStr C) []) : Met P w K mg base 4 C "__eq__" spRuEqT [] := by
  refine met0 RT.cl me F b sc_Rule_eq (fun vs H Q E h => ?_) (fun cdv A outer s H vs Q E hr h => ?_)
  · obtain ⟨_, _, _, rfl, _⟩ := h; rfl
  · obtain ⟨a, b, ys, rfl, hb, k⟩ := h
    refine ⟨_, (pss_one (ps_ret (pe_and (pe_callB call_isi (by rfl) T.b_isinstance (by decide +kernel) (pa_cons (pv 1) (pa_cons (pe_glob (v := .ref C) (by rfl) g_Rule rfl) pa_nil))) (pe_one (pe_cmpR op_eq (pe_callTy (call_str_own c_Rule_str hr (by decide)) (by rfl) T.b_str (by decide +kernel) (pa_cons (pv 0) pa_nil)) (pe_callTy (call_str_own c_Rule_str hr (by decide)) (by rfl) T.b_str (by decide +kernel) (pa_cons (pv 1) pa_nil)) (nomark _)))))), ?_⟩
    refine ⟨_, rfl, _, _, _, _, false, rfl, .own C, .base (.tup hb), kon_tuple_rule, _, rfl, ?_⟩
    exact k
end
end U

set_option maxRecDepth 100000
set_option maxHeartbeats 4000000
set_option pp.maxSteps 400
namespace U
open PySem PySem.Spec PyProof.Rows
open L2 hiding Fun CX0 E0 pass0 Fun.binds
open C8 Lx SX StX
def spLaw (K : PySem.W.Frag) : Sp := fun vs H Q _ => ∃ (a : Addr) (ns : List Int), vs = [.ref a] ∧ SqL K H a (ns.map V.int) ∧ ns.length ≤ 63 ∧ ∀ H', Q (.bl true) H'
/-- a value that is no word -/
def badB : V → Bool
  | .str z => decide (z.length ≤ 10000) && PyData.strOk z && !isW z
  | .non => true
  | .bl _ => true
  | .int _ => true
  | _ => false
theorem bad_any {K : PySem.W.Frag} {H : Hp} {v : V} (h : badB v = true) : AnyS K H v ∧ wordB v = false := by
  cases v with
  | non => exact ⟨anyS_non, rfl⟩
  | bl x => exact ⟨anyS_bl x, rfl⟩
  | int i => exact ⟨anyS_int i, rfl⟩
  | str z =>
    have h : (decide (z.length ≤ 10000) && PyData.strOk z && !isW z) = true := h
    simp only [Bool.and_eq_true, decide_eq_true_iff] at h
    refine ⟨anyS_str h.1.1 h.1.2, ?_⟩
    show isW z = false
    cases e : isW z with
    | true => rw [e] at h; exact absurd h.2 (by decide)
    | false => rfl
  | _ => cases h
theorem DOk.mono {n m : Nat} {d : PyData} (h : DOk n d) (hn : n ≤ m) : DOk m d := ⟨h.1, Nat.le_trans h.2 hn⟩
theorem suf {α : Type} {B G : α → Prop} {R : Prop} (h1 : (∀ x, B x → G x) → R) (h2 : ∀ x, B x → G x) : R := h1 h2
def f0 : List Bool := [false, true, true, true, false]
def s0 : List Stf := [([true, true], false)]
theorem g0 : Giv f0 s0 := giv_dec (by decide +kernel)
theorem c0 : RuC s0 f0 := ⟨g0.ok, g0.f2, g0.f9⟩
theorem cl0 : ∀ m, ¬ SpL f0 (bodyF s0 m) := clean_dec g0.o g0.nn (by decide +kernel)
theorem ins_nil {l x : List Bool} (h : Ins s0 l x) (e : itP s0 40 l = l) : x = [] := by
  have := h.itP (n := 40)
  rw [e] at this
  have h2 : x.take 40 = [] := by
    have h3 := congrArg List.length this
    rw [List.length_append] at h3
    exact List.length_eq_zero_iff.mp (by omega)
  cases x with
  | nil => rfl
  | cons _ _ => cases h2
/-- short words are no paper -/
theorem no_small {ws : List (List Bool)} (h : ∀ w ∈ ws, w ∈ [[], [false], [true], [false, true]]) : ¬ Holds s0 f0 ws := fun H => by
  obtain ⟨h0, hs⟩ := H
  obtain ⟨x, i1, _, m1⟩ := (hs _ h0).2.2 true
  have e1 : x = [] := ins_nil i1 (by decide +kernel)
  subst e1
  have m1 : [true] ∈ ws := m1
  obtain ⟨y, i2, _, m2⟩ := (hs _ m1).2.2 true
  have i2' := i2.itP (n := 40)
  have e2 : itP s0 40 ([true] ++ [true]) = [true, true, false] := by decide +kernel
  rw [e2] at i2'
  have hy : y.take 40 = [false] := by
    have : [true, true] ++ [false] = [true, true] ++ y.take 40 := i2'
    exact (List.append_cancel_left this).symm
  have hl : y = [false] := by
    match y, hy with
    | [], z => cases z
    | [b], z => exact z
    | _ :: _ :: _, z => cases z
  subst hl
  have m2 : tl (wid s0 f0) [true, true, false] ∈ ws := m2
  have e3 : tl (wid s0 f0) [true, true, false] = [true, true, false] := by decide +kernel
  rw [e3] at m2
  have := h _ m2
  revert this
  decide
theorem lf_word : ∀ v ∈ lfV, wordB v = true → v ∈ ([.str (W []), .str (W [false]), .str (W [true]), .str (W [false, true])] : List V) := by
  have h : lfV.all (fun v => !wordB v || ([.str (W []), .str (W [false]), .str (W [true]), .str (W [false, true])] : List V).contains v) = true := by decide +kernel
  intro v hv hw
  have := List.all_eq_true.mp h v hv
  rw [hw] at this
  simpa using this
/-- what clean_paper_holds is asked of a value -/
inductive HF (K : PySem.W.Frag) (H : Hp) (v : V) : Prop
  | no (ty : Value) (h : ∀ H', Same H H' → TyX K H' v ty) (hk : PySem.W.kitOne K ty (.type "tuple") = some false)
  | bad (t : Addr) (xs : List V) (e : v = .ref t) (ht : H t = some (.tup xs)) (l : xs.length ≤ 5000) (ha : ∀ x ∈ xs, AnyS K H x) (hb : ∃ x ∈ xs, wordB x = false)
  | small (t : Addr) (ws : List (List Bool)) (e : v = .ref t) (ht : H t = some (.tup (wvs ws))) (l : ws.length ≤ 5000) (hs : ∀ w ∈ ws, w ∈ [[], [false], [true], [false, true]])
theorem lf_hf {K : PySem.W.Frag} {H : Hp} {v : V} (hv : v ∈ lfV) : HF K H v := by
  have h := lf_scal v hv
  cases v with
  | non => exact .no _ (fun _ _ => .base .non) (kit_ty (by decide +kernel))
  | bl x => exact .no _ (fun _ _ => .base (.bl x)) (kit_ty (by decide +kernel))
  | int i => exact .no _ (fun _ _ => .base (.int i)) (kit_ty (by decide +kernel))
  | str z => exact .no _ (fun _ _ => .base (.str z)) (kit_ty (by decide +kernel))
  | _ => cases h
theorem AnV.hf {K : PySem.W.Frag} {H : Hp} {n : Nat} {v : V} (h : AnV n H v) : HF K H v := by
  cases n with
  | zero => exact lf_hf h
  | succ n =>
    rcases h with h | ⟨a, xs, rfl, h | h, l, k⟩
    · exact lf_hf h
    · exact .no _ (fun _ s => .base (.lst (s _ _ h))) (kit_ty (by decide +kernel))
    · by_cases c : ∃ x ∈ xs, wordB x = false
      · exact .bad a xs rfl h (by omega) (fun x hx => (k x hx).any) c
      · have hw : ∀ x ∈ xs, ∃ w ∈ ([[], [false], [true], [false, true]] : List (List Bool)), x = .str (W w) := fun x hx => by
          have hwx : wordB x = true := by
            cases e : wordB x with
            | true => rfl
            | false => exact absurd ⟨x, hx, e⟩ c
          have hlf : x ∈ lfV := by
            have := k x hx
            cases n with
            | zero => exact this
            | succ n =>
              rcases this with h2 | ⟨a', _, rfl, _⟩
              · exact h2
              · cases hwx
          have := lf_word x hlf hwx
          simp only [List.mem_cons, List.not_mem_nil, or_false] at this ⊢
          rcases this with h | h | h | h
          · exact ⟨[], .inl rfl, h⟩
          · exact ⟨[false], .inr (.inl rfl), h⟩
          · exact ⟨[true], .inr (.inr (.inl rfl)), h⟩
          · exact ⟨[false, true], .inr (.inr (.inr rfl)), h⟩
        obtain ⟨ws, e, hs⟩ : ∃ ws : List (List Bool), xs = wvs ws ∧ ∀ w ∈ ws, w ∈ ([[], [false], [true], [false, true]] : List (List Bool)) := by
          clear h l k c
          induction xs with
          | nil => exact ⟨[], rfl, fun _ h => nomatch h⟩
          | cons x r ih =>
            obtain ⟨ws, e, hs⟩ := ih fun y hy => hw y (List.mem_cons_of_mem _ hy)
            obtain ⟨w, hm, e1⟩ := hw x List.mem_cons_self
            refine ⟨w :: ws, by rw [e1, e]; rfl, fun u hu => ?_⟩
            rcases List.mem_cons.mp hu with rfl | hu
            · exact hm
            · exact hs u hu
        subst e
        exact .small a ws rfl h (by unfold wvs at l; rw [List.length_map] at l; omega) hs
theorem slA {K : PySem.W.Frag} {H : Hp} {t : Addr} {xs : List V} {lo hi : Option Int} {Q : VK} (ht : H t = some (.tup xs)) (k : ∀ p vs H', Same H H' → H' p = some (.tup vs) → (∀ v ∈ vs, v ∈ xs) → vs.length ≤ xs.length → Q (.ref p) H') : rSlA K (.ref t) lo hi H Q :=
  ⟨t, xs, rfl, SqT.of ht, fun _ => k t xs H (Same.refl H) ht (fun _ h => h) (Nat.le_refl _), fun _ p np => k p _ _ (same_upd np) upd_same (fun v hv => List.mem_of_mem_drop (List.mem_of_mem_take hv)) (cutV_length _ _ _)⟩
theorem caA {K : PySem.W.Frag} {H : Hp} {t u : Addr} {xs ys : List V} {Q : VK} (ht : H t = some (.tup xs)) (hu : H u = some (.tup ys)) (hl : xs.length + ys.length ≤ 100000) (k : ∀ p H', Same H H' → H' p = some (.tup (xs ++ ys)) → Q (.ref p) H') : rCatA K (.ref t) (.ref u) H Q := by
  refine ⟨t, u, xs, ys, rfl, rfl, SqT.of ht, SqT.of hu, sl_len hl, fun e => ?_, fun _ e => ?_, fun _ _ p np => k p _ (same_upd np) upd_same⟩
  · subst e
    exact k u H (Same.refl H) hu
  · subst e
    exact k t H (Same.refl H) (by rw [List.append_nil]; exact ht)
section
variable {P : Program} {w : World} {K : PySem.W.Frag} {mg : Str → Option Value} {base : Heap}
theorem sc_law : FnScope ["_law_script", "_law_made", "_law_page", "_law_k", "_law_box", "_law_turn", "_law_at", "_law_odd", "_law_value"] ["_law_script"] (fnScope s_law) := fnScope_by (by decide +kernel)
theorem ok_law {f C : Addr} {fd : FuncData} (F : Def K mg "law" s_law f fd) (T : Tx mg) (RT : RuT K C) (IS_Rule : IsT K C) (NE_Rule : NeT K C) (kon_rule_str : PySem.W.kitOne K (.ref C) (.type "str") = some false) (kon_rule_tuple : PySem.W.kitOne K (.ref C) (.type "tuple") = some false) (kon_nf_rule_tuple : PySem.W.notFirst K C (.type "tuple") = true)
    (c_l_seed : Cal P w K mg base 1 "_law_seed" (spSeed K) []) (c_l_choose : Cal P w K mg base 1 "_law_choose" spChoose []) (c_l_one_of : Cal P w K mg base 2 "_law_one_of" spOneOf []) (c_l_deep : Cal P w K mg base 1 "_law_deep" spDeep []) (c_l_any : Cal P w K mg base 12 "_law_any" spAnyW [])
    (c_clean_paper : Cal P w K mg base 5 "clean_paper" (spPaper C) []) (c_clean_paper_holds : Cal P w K mg base 5 "clean_paper_holds" (spHolds K C) []) (c_clean_paper_holdsX : Cal P w K mg base 5 "clean_paper_holds" (spHoldsBad K) []) (c_Rule_eqT : Met P w K mg base 4 C "__eq__" spRuEqT []) (m_Rule2 : Mak P w K mg base 5 "Rule" C (spRuInit K C) []) :
    FnOk P w K mg base CX0 14 f fd ["_law_script"] (spLaw K) := by
  refine fn0 F.fn sc_law (fun vs H Q E h => ?_) (fun cdv A outer s H vs Q E hr h => ?_)
  · obtain ⟨_, _, rfl, _⟩ := h; rfl
  · obtain ⟨a, ns, rfl, hS, hlen, k⟩ := h
    refine ⟨_, (pss_cons (ps_set (i := 1) sc_law.nd rfl (.inl rfl) (pe_mk m_Rule2 hr (by decide) rfl (pa_cons pe_str (pa_cons (pe_lst (pa_cons (pe_tup (pa_cons pe_str (pa_cons pe_str pa_nil))) pa_nil)) pa_nil))))
    (pss_cons (ps_set (i := 2) sc_law.nd rfl (.inl rfl) (pe_c c_clean_paper hr (by decide) rfl (pa_cons (pv 1) pa_nil)))
    (pss_cons (ps_for PassesOwn.never rfl (pi_range1 (by rfl) T.b_range (pa_cons (pe_callB (call_max2 rfl) (by rfl) T.b_max (by decide +kernel) (pa_cons pe_int (pa_cons (pe_callB (call_min2 rfl) (by rfl) T.b_min (by decide +kernel) (pa_cons pe_int (pa_cons (pe_callB call_len_seq (by rfl) T.b_len (by decide +kernel) (pa_cons (pv 0) pa_nil)) pa_nil))) pa_nil))) pa_nil)) (pg_name (i := 3) sc_law.nd rfl (.inl rfl))
    (pss_cons (ps_set (i := 4) sc_law.nd rfl (.inl rfl) (pe_c c_l_seed hr (by decide) rfl (pa_cons (pv 0) (pa_cons (pv 3) pa_nil))))
    (pss_cons (ps_for PassesOwn.never rfl (pi_range1 (by rfl) T.b_range (pa_cons pe_int pa_nil)) (pg_name (i := 5) sc_law.nd rfl (.inl rfl))
    (pss_cons (ps_set (i := 6) sc_law.nd rfl (.inl rfl) (pe_c c_l_choose hr (by decide) rfl (pa_cons (pv 4) (pa_cons (pe_op op_add (pe_callB call_len_seq (by rfl) T.b_len (by decide +kernel) (pa_cons (pv 2) pa_nil)) pe_int) pa_nil))))
    (pss_cons (ps_set (i := 7) sc_law.nd rfl (.inl rfl) (pe_c c_l_one_of hr (by decide) rfl (pa_cons (pv 4) (pa_cons (pe_lst (pa_cons pe_non (pa_cons pe_int (pa_cons pe_int (pa_cons pe_bl (pa_cons pe_str (pa_cons pe_str (pa_cons pe_str (pa_cons (pe_lst (pa_cons pe_str pa_nil)) (pa_cons (pe_tup (pa_cons pe_str pa_nil)) (pa_cons (pv 1) (pa_cons (pe_c0 c_l_deep hr (by decide) rfl) (pa_cons pe_str pa_nil))))))))))))) pa_nil))))
    (pss_cons (ps_if (pt_cmpR op_notBl (pe_c c_clean_paper_holdsX hr (by decide) rfl (pa_cons (pv 1) (pa_cons (pe_op op_catA (pe_op op_catA (pe_slice sl_tupA (pv 2) po_none (po_some (pv 6))) (pe_tup (pa_cons (pv 7) pa_nil))) (pe_slice sl_tupA (pv 2) (po_some (pv 6)) po_none)) pa_nil))) pe_bl (nomark _)) (pss_one (ps_ret pe_bl)) pss_nil)
    (pss_cons (ps_set (i := 8) sc_law.nd rfl (.inl rfl) (pe_c c_l_one_of hr (by decide) rfl (pa_cons (pv 4) (pa_cons (pe_lst (pa_cons (pe_c c_l_any hr (by decide) rfl (pa_cons (pv 4) (pa_cons pe_int pa_nil))) (pa_cons (pe_c c_l_any hr (by decide) rfl (pa_cons (pv 4) (pa_cons pe_int pa_nil))) (pa_cons (pv 1) (pa_cons pe_str (pa_cons pe_str (pa_cons (pe_callTy call_list_of (by rfl) T.b_list (by decide +kernel) (pa_cons (pv 2) pa_nil)) (pa_cons pe_non pa_nil)))))))) pa_nil))))
    (pss_one (ps_if (PW.pt (pw_and (pt_cmpR (op_or (op_neD hr.units) (op_neT c_Rule_eqT NE_Rule kon_nf_rule_tuple hr (by decide))) (pv 8) (pe_tup pa_nil) (nomark _)) (pw_and1 (pt_cmpR op_notBl (ExS.pe_or (pe_c c_clean_paper_holds hr (by decide) rfl (pa_cons (pv 1) (pa_cons (pv 8) pa_nil))) (pe_c c_clean_paper_holdsX hr (by decide) rfl (pa_cons (pv 1) (pa_cons (pv 8) pa_nil)))) pe_bl (nomark _))))) (pss_one (ps_ret pe_bl)) pss_nil)))))))
    (pss_one (ps_if (pt_cmpR op_notBl (pe_c c_clean_paper_holds hr (by decide) rfl (pa_cons (pv 1) (pa_cons (pv 2) pa_nil))) pe_bl (nomark _)) (pss_one (ps_ret pe_bl)) pss_nil)))))
    (pss_one (ps_ret pe_bl))))), ?_⟩
    refine ⟨by show 2 ≤ sizeLine; decide, fun p1 n1 => ⟨by show 1 ≤ sizeLine; decide, fun p2 n2 => ?_⟩⟩
    refine mk_one (f := f0) (p := [true, true]) (b := false) (by decide +kernel) (by decide +kernel) W_0 n1 n2 g0.ok g0.o.ok (by decide) (by decide) fun m H1 s1 hR => ?_
    refine ⟨_, rfl, m, f0, s0, rfl, hR, c0, g0.o, fun v H2 s2 hv => ?_⟩
    have s12 := s1.trans s2
    have hR2 := hR.same s2
    have hS2 := s12.seq hS
    rcases hv with ⟨t, ws, rfl, _, ht, hP, hcl⟩ | ⟨rfl, mm, hm⟩
    · have hH : Holds s0 f0 ws := hP.holds g0.o c0 hcl
      have lws : ws.length ≤ 512 := by
        have few := words_le hP.nd hP.sh
        have hpw : 2 ^ (wid s0 f0 + 1) ≤ 512 := by decide +kernel
        omega
      have lw8 : ∀ w ∈ ws, w.length ≤ 1000 := fun w hw => Nat.le_trans (hP.sh w hw) (by decide +kernel)
      clear s1 s2 hR s12 n1 n2 hS
      refine ⟨_, rfl, a, _, rfl, .inl hS2, _, _, rfl, _, _, rfl, _, rfl, by split <;> split <;> omega, by rw [List.length_map]; split <;> split <;> omega, ?_⟩
      refine for_it walk_range (fun i σ H3 => ∃ v3 v4 v5 v6 v7 v8 : Option V, σ = [some (.ref a), some (.ref m), some (.ref t), v3, v4, v5, v6, v7, v8] ∧ Same H2 H3) ⟨_, _, _, _, _, _, rfl, Same.refl _⟩ (fun _ _ _ _ _ => trivial) ?_ ?_
      · rintro i x σ H3' H3 hi ⟨v3, v4, v5, v6, v7, v8, rfl, s3⟩ ⟨rfl, rfl⟩
        refine ⟨_, rfl, _, rfl, a, ns, i, (by show [V.ref a, V.int (0 + (i : Int))] = _; rw [Int.zero_add]), s3.seq hS2, fun bx H4 nb s4 hb => ?_⟩
        have hR4 := (hR2.same s3).same s4
        have ht4 := s4 _ _ (s3 _ _ ht)
        have back : ∀ {H'}, Up bx H4 H' → Same H2 H' := fun u c o e => u.1 c o (s4 _ _ (s3 _ _ e)) (ne_of_none (s3 _ _ e) nb)
        refine ⟨_, rfl, by decide, by decide, for_it walk_range (fun j σ H5 => ∃ v3 v5 v6 v7 v8 : Option V, σ = [some (.ref a), some (.ref m), some (.ref t), v3, some (.ref bx), v5, v6, v7, v8] ∧ Up bx H4 H5) ⟨_, _, _, _, _, rfl, Up.refl hb⟩ (fun _ _ _ _ _ => trivial) ?_ ?_⟩
        · rintro j y σ H5' H5 hj ⟨v3, v5, v6, v7, v8, rfl, u5⟩ ⟨rfl, rfl⟩
          have ht5 := u5.1 _ _ ht4 (hb.neT ht4)
          have lwv : (wvs ws).length = ws.length := List.length_map _
          refine ⟨_, rfl, _, rfl, t, _, rfl, .inr (SqT.of ht5), _, _, rfl, rfl, bx, _, rfl, u5.2, by rw [lwv]; omega, by rw [lwv]; omega, fun d H6 d0 d1 u6 => ?_⟩
          obtain ⟨dd, rfl⟩ := Int.eq_ofNat_of_zero_le d0
          refine ⟨_, rfl, by show 1 ≤ sizeLine; decide, fun a1 n1 => ⟨by show 1 ≤ sizeLine; decide, fun a2 n2 => ⟨_, rfl, rfl, fun a3 x3 H7 s7 n3 h3 => ⟨by show 12 ≤ sizeLine; decide, fun l1 n4 => ?_⟩⟩⟩⟩
          have u56 := u5.trans u6
          have sA := same_upd (o := .lst [.str "0"]) n1
          have sB := same_upd (o := .tup [.str "0"]) n2
          have hA1 := s7 _ _ (sB _ _ (upd_same (H := H6) (a := a1) (o := .lst [.str "0"])))
          have hA2 := s7 _ _ (upd_same (H := upd H6 a1 (.lst [.str "0"])) (a := a2) (o := .tup [.str "0"]))
          have sl1 := same_upd (o := .lst [.non, .int 0, .int 1, .bl true, .str "2", .str " ", .str "01 ", .ref a1, .ref a2, .ref m, .ref a3, .str "o"]) n4
          have hl1 : upd H7 l1 (.lst [.non, .int 0, .int 1, .bl true, .str "2", .str " ", .str "01 ", .ref a1, .ref a2, .ref m, .ref a3, .str "o"]) l1 = some (.lst [.non, .int 0, .int 1, .bl true, .str "2", .str " ", .str "01 ", .ref a1, .ref a2, .ref m, .ref a3, .str "o"]) := upd_same
          have s68 := ((sA.trans sB).trans s7).trans sl1
          have u8 := u56.same s68
          have nl1 : l1 ≠ bx := (u56.same ((sA.trans sB).trans s7)).2.ne n4
          have na1 : a1 ≠ bx := u56.2.ne n1
          have na3 : a3 ≠ bx := (u56.same (sA.trans sB)).2.ne n3
          have hA1' := sl1 _ _ hA1
          have hA2' := sl1 _ _ hA2
          have hA3' := sl1 _ _ h3
          generalize upd H7 l1 (.lst [.non, .int 0, .int 1, .bl true, .str "2", .str " ", .str "01 ", .ref a1, .ref a2, .ref m, .ref a3, .str "o"]) = H8 at sl1 hl1 s68 u8 hA1' hA2' hA3' ⊢
          clear sA sB hA1 hA2 sl1 s68 n1 n2 n3 n4 h3 s7 u56 u5 u6 ht5
          refine ⟨bx, l1, _, rfl, u8.2, hl1, nl1, by show 0 < 12; decide, by show 12 < 1000; decide, fun v H9 hv u9 => ?_⟩
          have u89 := u8.trans u9
          have hR9 := hR4.up hb u89
          have ht9 := u89.1 _ _ ht4 (hb.neT ht4)
          have hbad : AnyS K H9 v ∧ wordB v = false := by
            have hsc : ∀ v ∈ ([.non, .int 0, .int 1, .bl true, .str "2", .str " ", .str "01 ", .str "o"] : List V), badB v = true := List.all_eq_true.mp (by decide +kernel)
            have hv' : v ∈ ([.non, .int 0, .int 1, .bl true, .str "2", .str " ", .str "01 ", .str "o"] : List V) ∨ v = .ref a1 ∨ v = .ref a2 ∨ v = .ref m ∨ v = .ref a3 := by
              simp only [List.mem_cons, List.not_mem_nil, or_false] at hv ⊢
              rcases hv with h | h | h | h | h | h | h | h | h | h | h | h <;> simp [h]
            rcases hv' with h | rfl | rfl | rfl | rfl
            · exact bad_any (hsc v h)
            · exact ⟨anyS_lst (u9.1 _ _ hA1' na1), rfl⟩
            · exact ⟨anyS_tup (u9.1 _ _ hA2' (u8.2.neT hA2')), rfl⟩
            · obtain ⟨d1, t1, e1⟩ := hR9.few
              exact ⟨.inr ⟨(fun _ z => by cases z), _, kon_rule_str, fun _ s => IS_Rule.ty (s _ _ e1)⟩, rfl⟩
            · exact ⟨anyS_lst (u9.1 _ _ hA3' na3), rfl⟩
          clear hA1' hA2' hA3' hl1 hv u9 u8 nl1 na1 na3
          refine ⟨_, rfl, _, rfl, _, rfl, _, rfl, ?_⟩
          refine slA ht9 fun q1 v1 H10 s10 hq1 sub1 le1 => ?_
          refine ⟨_, rfl, by show 1 ≤ sizeLine; decide, fun t1 nt1 => ?_⟩
          have st1 := same_upd (o := .tup [v]) nt1
          refine caA (st1 _ _ hq1) upd_same (by show v1.length + 1 ≤ 100000; rw [lwv] at le1; omega) fun q2 H11 s11 hq2 => ?_
          have s911 := (s10.trans st1).trans s11
          refine ⟨_, rfl, _, rfl, _, rfl, ?_⟩
          dsimp only [tNoPart]
          refine slA (s911 _ _ ht9) fun q3 v3' H12 s12 hq3 sub3 le3 => ?_
          rw [lwv] at le1 le3
          refine caA (s12 _ _ hq2) hq3 (by rw [List.length_append]; show v1.length + 1 + v3'.length ≤ 100000; omega) fun q4 H13 s13 hq4 => ?_
          have s913 := (s911.trans s12).trans s13
          have hwv : ∀ x ∈ wvs ws, AnyS K H13 x := fun x hx => by
            obtain ⟨u, hu, rfl⟩ := List.mem_map.mp hx
            exact anyS_str (by rw [W_len]; have := lw8 u hu; omega) (strOk_W u)
          refine ⟨m, q4, _, rfl, hq4, by rw [List.length_append, List.length_append]; show v1.length + 1 + v3'.length ≤ 5000; omega, fun x hx => ?_, ⟨v, List.mem_append_left _ (List.mem_append_right _ (List.mem_singleton.mpr rfl)), hbad.2⟩, fun H14 s14 => ?_⟩
          · rcases List.mem_append.mp hx with hx | hx
            · rcases List.mem_append.mp hx with hx | hx
              · exact hwv x (sub1 x hx)
              · rw [List.mem_singleton.mp hx]
                exact hbad.1.same s913
            · exact hwv x (sub3 x hx)
          refine ⟨false, false, rfl, rfl, _, rfl, iteBF (by decide) ?_⟩
          have u14 := u89.same (s913.trans s14)
          clear hwv hq4 hq3 hq2 hq1 s913 s911 s14 s13 s12 s11 s10 st1 hbad hR9 ht9 u89 nt1 sub1 sub3
          -- any value
          refine ⟨_, rfl, _, rfl, bx, 7, rfl, by decide, u14.2, fun va H15 u15 hva => ?_⟩
          refine ⟨_, rfl, bx, 7, rfl, by decide, (u14.trans u15).2, fun vb H16 u16 hvb => ?_⟩
          have u1416 := u15.trans u16
          have u416 := u14.trans u1416
          have ht16 := u416.1 _ _ ht4 (hb.neT ht4)
          refine ⟨_, rfl, _, rfl, t, _, rfl, .inr (SqT.of ht16), fun lp nlp => ⟨by show 7 ≤ sizeLine; decide, fun l7 nl7 => ?_⟩⟩
          have slp := same_upd (o := .lst (wvs ws)) nlp
          have hlp := upd_same (H := H16) (a := lp) (o := .lst (wvs ws))
          have lpb : lp ≠ bx := u416.2.ne nlp
          generalize upd H16 lp (.lst (wvs ws)) = H17 at slp hlp nl7 ⊢
          have sl7 := same_upd (o := .lst [va, vb, .ref m, .str "", .str "0", .ref lp, .non]) nl7
          have hl7 : upd H17 l7 (.lst [va, vb, .ref m, .str "", .str "0", .ref lp, .non]) l7 = some (.lst [va, vb, .ref m, .str "", .str "0", .ref lp, .non]) := upd_same
          have hlp8 := sl7 _ _ hlp
          have l7b : l7 ≠ bx := (u416.same slp).2.ne nl7
          have u18 := u416.same (slp.trans sl7)
          have u1418 := u1416.same (slp.trans sl7)
          have u1618 : Up bx H16 _ := (Up.refl u416.2).same (slp.trans sl7)
          generalize upd H17 l7 (.lst [va, vb, .ref m, .str "", .str "0", .ref lp, .non]) = H18 at sl7 hl7 hlp8 u18 u1418 u1618 ⊢
          refine ⟨bx, l7, _, rfl, u18.2, hl7, l7b, by show 0 < 7; decide, by show 7 < 1000; decide, fun y H19 hy u19 => ?_⟩
          have u419 := u18.trans u19
          have hR19 := hR4.up hb u419
          have hlp9 := u19.1 _ _ hlp8 lpb
          have hA : AnV 7 H19 va := ((hva.up u14.2 (u16.trans (u1618.trans u19)))).now
          have hB : AnV 7 H19 vb := (hvb.up (u14.trans u15).2 (u1618.trans u19)).now
          have nilS : SeqAt.shaped (.tuple []) = true := by decide +kernel
          refine ⟨_, rfl, Nat.zero_le _, fun e ne => ?_⟩
          have se := same_upd (o := .tup []) ne
          have he : upd H19 e (.tup []) e = some (.tup []) := upd_same
          have u420 := u419.same se
          generalize upd H19 e (.tup []) = H20 at se he u420 ⊢
          have hA := hA.same se
          have hB := hB.same se
          have hR20 := hR19.same se
          have hlp9 := se _ _ hlp9
          obtain ⟨dm, tm, em⟩ := hR20.few
          -- what is asked of it
          have hf : HF K H20 y := by
            simp only [List.mem_cons, List.not_mem_nil, or_false] at hy
            rcases hy with rfl | rfl | rfl | rfl | rfl | rfl | rfl
            · exact hA.hf
            · exact hB.hf
            · exact .no _ (fun _ s => IS_Rule.ty (s _ _ em)) kon_rule_tuple
            · exact .no _ (fun _ _ => .base (.str _)) (kit_ty (by decide +kernel))
            · exact .no _ (fun _ _ => .base (.str _)) (kit_ty (by decide +kernel))
            · exact .no _ (fun _ s => .base (.lst (s _ _ hlp9))) (kit_ty (by decide +kernel))
            · exact .no _ (fun _ _ => .base .non) (kit_ty (by decide +kernel))
          have hd : (∃ d, Dp K H20 y d ∧ DOk 9 d) ∨ y = .ref m := by
            simp only [List.mem_cons, List.not_mem_nil, or_false] at hy
            rcases hy with rfl | rfl | rfl | rfl | rfl | rfl | rfl
            · obtain ⟨d, h1, h2, _⟩ := hA.dat (K := K)
              exact .inl ⟨d, h1, h2.mono (by decide)⟩
            · obtain ⟨d, h1, h2, _⟩ := hB.dat (K := K)
              exact .inl ⟨d, h1, h2.mono (by decide)⟩
            · exact .inr rfl
            · exact .inl ⟨.str "", .str _, ⟨by decide +kernel, Nat.zero_le _⟩⟩
            · exact .inl ⟨.str "0", .str _, ⟨by decide +kernel, Nat.zero_le _⟩⟩
            · refine .inl ⟨.list (ws.map dS), .lst (SqL.of hlp9) (dp_strs ws), DOk.mono (dok_list (n := 0) fun d hd => ?_) (by decide)⟩
              obtain ⟨u, _, rfl⟩ := List.mem_map.mp hd
              exact dok_str u
            · exact .inl ⟨.none, .non, ⟨rfl, Nat.zero_le _⟩⟩
          clear hA hB hva hvb hy u14 u15 u16 u1416 u416 u1418 u1618 u18 hl7 hlp8 hlp9 slp sl7 hlp l7b lpb nl7 nlp ht16 u19 hR19 u419 ne se
          apply @suf Hp (fun x => Same H20 x)
          · intro go
            rcases id hd with ⟨d, h1, h2⟩ | ey
            · refine .inl ⟨d, .tuple [], h1, .tup (SqT.of he) .nil, h2.shaped (by decide), nilS, _, rfl, ?_⟩
              cases eb : PyData.eqv d (.tuple []) with
              | true =>
                refine iteBF rfl ?_
                exact ⟨_, _, _, _, _, rfl, u420⟩
              | false =>
                refine iteBT rfl ?_
                generalize eH : H20 = H29
                exact go H29 (by rw [← eH]; exact Same.refl _)
            · refine .inr ⟨m, e, dm, _, [], ey, rfl, em, SqT.of he, m, e, [], rfl, he, false, rfl, _, rfl, iteBT rfl ?_⟩
              generalize eH : H20 = H29
              exact go H29 (by rw [← eH]; exact Same.refl _)
          · intro H21 s21
            have hR21 := hR20.same s21
            cases hf with
            | no ty h1 h2 =>
              refine .inl ⟨_, rfl, _, rfl, m, f0, s0, y, rfl, hR21, c0, .inr ⟨ty, h1 H21 s21, h2, ?_⟩⟩
              refine ⟨false, false, rfl, rfl, _, rfl, iteBF (by decide) ?_⟩
              exact ⟨_, _, _, _, _, rfl, u420.same s21⟩
            | bad t2 xs2 e2 ht2 l2 ha2 hb2 =>
              subst e2
              refine .inr ⟨_, rfl, _, rfl, m, t2, xs2, rfl, s21 _ _ ht2, l2, fun x hx => (ha2 x hx).same s21, hb2, fun H22 s22 => ?_⟩
              refine ⟨false, false, rfl, rfl, _, rfl, iteBF (by decide) ?_⟩
              exact ⟨_, _, _, _, _, rfl, (u420.same s21).same s22⟩
            | small t2 ws2 e2 ht2 l2 hs2 =>
              subst e2
              refine .inl ⟨_, rfl, _, rfl, m, f0, s0, .ref t2, rfl, hR21, c0, .inl ⟨t2, ws2, rfl, s21 _ _ ht2, l2, fun u hu => ?_, fun r H22 s22 hr22 => ?_⟩⟩
              · have := hs2 u hu
                simp only [List.mem_cons, List.not_mem_nil, or_false] at this
                rcases this with rfl | rfl | rfl | rfl <;> decide
              · have er : r = false := by
                  cases r with
                  | false => rfl
                  | true => exact absurd (hr22.mp rfl) (no_small hs2)
                subst er
                refine ⟨false, false, rfl, rfl, _, rfl, iteBF (by decide) ?_⟩
                exact ⟨_, _, _, _, _, rfl, (u420.same s21).same s22⟩
        · rintro σ H5 ⟨v3, v5, v6, v7, v8, rfl, u5⟩
          refine ⟨_, rfl, _, rfl, m, f0, s0, .ref t, rfl, hR4.up hb u5, c0, .inl ⟨t, ws, rfl, u5.1 _ _ ht4 (hb.neT ht4), by omega, lw8, fun r H6 s6 hr6 => ?_⟩⟩
          have er : r = true := hr6.mpr hH
          subst er
          refine ⟨true, true, rfl, rfl, _, rfl, iteBF (by decide) ?_⟩
          exact ⟨_, _, _, _, _, _, rfl, back (u5.same s6)⟩
      · rintro σ H3 ⟨v3, v4, v5, v6, v7, v8, rfl, s3⟩
        exact k H3
    · exact absurd hm (cl0 mm)
end
end U

set_option maxRecDepth 100000
set_option maxHeartbeats 4000000
namespace U
open PySem PySem.Spec PyProof.Rows
open L2 hiding Fun CX0 E0 pass0 Fun.binds
open C8 Lx
theorem all_mk {l : PySem.W.OpenLaw} {w : World} {K : PySem.W.Frag} {h : Heap} {mg : Str → Option Value} {fa : Addr} (X : K.In h) (G : h.Ns mainGlobals mg) (hfa : mg "law" = some (.ref fa))
    {f_is_sequence : Addr} {od_is_sequence an_is_sequence : Option Addr} {sl_is_sequence : Array (Option Value)} {oc_is_sequence kV_is_sequence dc_is_sequence pm_is_sequence cd_is_sequence ct_is_sequence : Value}
    {f_is_word : Addr} {od_is_word an_is_word : Option Addr} {sl_is_word : Array (Option Value)} {oc_is_word kV_is_word dc_is_word pm_is_word cd_is_word ct_is_word : Value}
    {f_is_bit : Addr} {od_is_bit an_is_bit : Option Addr} {sl_is_bit : Array (Option Value)} {oc_is_bit kV_is_bit dc_is_bit pm_is_bit cd_is_bit ct_is_bit : Value}
    {f_tail : Addr} {od_tail an_tail : Option Addr} {sl_tail : Array (Option Value)} {oc_tail kV_tail dc_tail pm_tail cd_tail ct_tail : Value}
    {f_width : Addr} {od_width an_width : Option Addr} {sl_width : Array (Option Value)} {oc_width kV_width dc_width pm_width cd_width ct_width : Value}
    {f_last_bits : Addr} {od_last_bits an_last_bits : Option Addr} {sl_last_bits : Array (Option Value)} {oc_last_bits kV_last_bits dc_last_bits pm_last_bits cd_last_bits ct_last_bits : Value}
    {f_is_border_clean : Addr} {od_is_border_clean an_is_border_clean : Option Addr} {sl_is_border_clean : Array (Option Value)} {oc_is_border_clean kV_is_border_clean dc_is_border_clean pm_is_border_clean cd_is_border_clean ct_is_border_clean : Value}
    {f_grown : Addr} {od_grown an_grown : Option Addr} {sl_grown : Array (Option Value)} {oc_grown kV_grown dc_grown pm_grown cd_grown ct_grown : Value}
    {f_is_right_step : Addr} {od_is_right_step an_is_right_step : Option Addr} {sl_is_right_step : Array (Option Value)} {oc_is_right_step kV_is_right_step dc_is_right_step pm_is_right_step cd_is_right_step ct_is_right_step : Value}
    {f_walk : Addr} {od_walk an_walk : Option Addr} {sl_walk : Array (Option Value)} {oc_walk kV_walk dc_walk pm_walk cd_walk ct_walk : Value}
    {f_clean_paper : Addr} {od_clean_paper an_clean_paper : Option Addr} {sl_clean_paper : Array (Option Value)} {oc_clean_paper kV_clean_paper dc_clean_paper pm_clean_paper cd_clean_paper ct_clean_paper : Value}
    {f_clean_paper_holds : Addr} {od_clean_paper_holds an_clean_paper_holds : Option Addr} {sl_clean_paper_holds : Array (Option Value)} {oc_clean_paper_holds kV_clean_paper_holds dc_clean_paper_holds pm_clean_paper_holds cd_clean_paper_holds ct_clean_paper_holds : Value}
    {f_is_stuff : Addr} {od_is_stuff an_is_stuff : Option Addr} {sl_is_stuff : Array (Option Value)} {oc_is_stuff kV_is_stuff dc_is_stuff pm_is_stuff cd_is_stuff ct_is_stuff : Value}
    {f_are_stuffs : Addr} {od_are_stuffs an_are_stuffs : Option Addr} {sl_are_stuffs : Array (Option Value)} {oc_are_stuffs kV_are_stuffs dc_are_stuffs pm_are_stuffs cd_are_stuffs ct_are_stuffs : Value}
    {f_l_seed : Addr} {od_l_seed an_l_seed : Option Addr} {sl_l_seed : Array (Option Value)} {oc_l_seed kV_l_seed dc_l_seed pm_l_seed cd_l_seed ct_l_seed : Value}
    {f_l_choose : Addr} {od_l_choose an_l_choose : Option Addr} {sl_l_choose : Array (Option Value)} {oc_l_choose kV_l_choose dc_l_choose pm_l_choose cd_l_choose ct_l_choose : Value}
    {f_l_one_of : Addr} {od_l_one_of an_l_one_of : Option Addr} {sl_l_one_of : Array (Option Value)} {oc_l_one_of kV_l_one_of dc_l_one_of pm_l_one_of cd_l_one_of ct_l_one_of : Value}
    {f_l_deep : Addr} {od_l_deep an_l_deep : Option Addr} {sl_l_deep : Array (Option Value)} {oc_l_deep kV_l_deep dc_l_deep pm_l_deep cd_l_deep ct_l_deep : Value}
    {f_l_leaf : Addr} {od_l_leaf an_l_leaf : Option Addr} {sl_l_leaf : Array (Option Value)} {oc_l_leaf kV_l_leaf dc_l_leaf pm_l_leaf cd_l_leaf ct_l_leaf : Value}
    {f_l_any : Addr} {od_l_any an_l_any : Option Addr} {sl_l_any : Array (Option Value)} {oc_l_any kV_l_any dc_l_any pm_l_any cd_l_any ct_l_any : Value}
    {f_law : Addr} {od_law an_law : Option Addr} {sl_law : Array (Option Value)} {oc_law kV_law dc_law pm_law cd_law ct_law : Value}
    {C_Rule : Addr}
    {f_Rule_put : Addr} {od_Rule_put an_Rule_put : Option Addr} {sl_Rule_put : Array (Option Value)} {oc_Rule_put kV_Rule_put dc_Rule_put pm_Rule_put cd_Rule_put ct_Rule_put : Value}
    {f_Rule_longest : Addr} {od_Rule_longest an_Rule_longest : Option Addr} {sl_Rule_longest : Array (Option Value)} {oc_Rule_longest kV_Rule_longest dc_Rule_longest pm_Rule_longest cd_Rule_longest ct_Rule_longest : Value}
    {p_Rule_longest : Addr} {pr_Rule_longest : List Value}
    {f_Rule_str : Addr} {od_Rule_str an_Rule_str : Option Addr} {sl_Rule_str : Array (Option Value)} {oc_Rule_str kV_Rule_str dc_Rule_str pm_Rule_str cd_Rule_str ct_Rule_str : Value}
    {f_Rule_eq : Addr} {od_Rule_eq an_Rule_eq : Option Addr} {sl_Rule_eq : Array (Option Value)} {oc_Rule_eq kV_Rule_eq dc_Rule_eq pm_Rule_eq cd_Rule_eq ct_Rule_eq : Value}
    {f_Rule_put_in : Addr} {od_Rule_put_in an_Rule_put_in : Option Addr} {sl_Rule_put_in : Array (Option Value)} {oc_Rule_put_in kV_Rule_put_in dc_Rule_put_in pm_Rule_put_in cd_Rule_put_in ct_Rule_put_in : Value}
    {f_Rule_is_endless : Addr} {od_Rule_is_endless an_Rule_is_endless : Option Addr} {sl_Rule_is_endless : Array (Option Value)} {oc_Rule_is_endless kV_Rule_is_endless dc_Rule_is_endless pm_Rule_is_endless cd_Rule_is_endless ct_Rule_is_endless : Value}
    {f_Rule_init : Addr} {od_Rule_init an_Rule_init : Option Addr} {sl_Rule_init : Array (Option Value)} {oc_Rule_init kV_Rule_init dc_Rule_init pm_Rule_init cd_Rule_init ct_Rule_init : Value}
    {dT_Rule_init : Addr} {dd_Rule_init : Option Addr} {dn_Rule_init : Nat} {ds_Rule_init : Array (Option Value)} {dE_R : Addr} {dde_R : Option Addr} {dne_R : Nat} {dse_R : Array (Option Value)}
    {tB : Tok}
    (a_is_sequence : PySem.W.nsIn K mainGlobals "is_sequence" = some (some (.ref f_is_sequence)))
    (l_is_sequence : K.lookup f_is_sequence = some ⟨oc_is_sequence, od_is_sequence, .func (PySem.W.fnOf "is_sequence" "is_sequence" (fnArgs s_is_sequence) (fnBody s_is_sequence) (fnScope s_is_sequence) .none kV_is_sequence dc_is_sequence pm_is_sequence an_is_sequence cd_is_sequence ct_is_sequence), sl_is_sequence⟩)
    (c_is_sequence : PySem.W.codeIn K cd_is_sequence "is_sequence" = true)
    (k_is_sequence : PySem.W.keepIn K (.ref f_is_sequence) = true)
    (a_is_word : PySem.W.nsIn K mainGlobals "is_word" = some (some (.ref f_is_word)))
    (l_is_word : K.lookup f_is_word = some ⟨oc_is_word, od_is_word, .func (PySem.W.fnOf "is_word" "is_word" (fnArgs s_is_word) (fnBody s_is_word) (fnScope s_is_word) .none kV_is_word dc_is_word pm_is_word an_is_word cd_is_word ct_is_word), sl_is_word⟩)
    (c_is_word : PySem.W.codeIn K cd_is_word "is_word" = true)
    (k_is_word : PySem.W.keepIn K (.ref f_is_word) = true)
    (a_is_bit : PySem.W.nsIn K mainGlobals "is_bit" = some (some (.ref f_is_bit)))
    (l_is_bit : K.lookup f_is_bit = some ⟨oc_is_bit, od_is_bit, .func (PySem.W.fnOf "is_bit" "is_bit" (fnArgs s_is_bit) (fnBody s_is_bit) (fnScope s_is_bit) .none kV_is_bit dc_is_bit pm_is_bit an_is_bit cd_is_bit ct_is_bit), sl_is_bit⟩)
    (c_is_bit : PySem.W.codeIn K cd_is_bit "is_bit" = true)
    (k_is_bit : PySem.W.keepIn K (.ref f_is_bit) = true)
    (a_tail : PySem.W.nsIn K mainGlobals "tail" = some (some (.ref f_tail)))
    (l_tail : K.lookup f_tail = some ⟨oc_tail, od_tail, .func (PySem.W.fnOf "tail" "tail" (fnArgs s_tail) (fnBody s_tail) (fnScope s_tail) .none kV_tail dc_tail pm_tail an_tail cd_tail ct_tail), sl_tail⟩)
    (c_tail : PySem.W.codeIn K cd_tail "tail" = true)
    (k_tail : PySem.W.keepIn K (.ref f_tail) = true)
    (a_width : PySem.W.nsIn K mainGlobals "width" = some (some (.ref f_width)))
    (l_width : K.lookup f_width = some ⟨oc_width, od_width, .func (PySem.W.fnOf "width" "width" (fnArgs s_width) (fnBody s_width) (fnScope s_width) .none kV_width dc_width pm_width an_width cd_width ct_width), sl_width⟩)
    (c_width : PySem.W.codeIn K cd_width "width" = true)
    (k_width : PySem.W.keepIn K (.ref f_width) = true)
    (a_last_bits : PySem.W.nsIn K mainGlobals "last_bits" = some (some (.ref f_last_bits)))
    (l_last_bits : K.lookup f_last_bits = some ⟨oc_last_bits, od_last_bits, .func (PySem.W.fnOf "last_bits" "last_bits" (fnArgs s_last_bits) (fnBody s_last_bits) (fnScope s_last_bits) .none kV_last_bits dc_last_bits pm_last_bits an_last_bits cd_last_bits ct_last_bits), sl_last_bits⟩)
    (c_last_bits : PySem.W.codeIn K cd_last_bits "last_bits" = true)
    (k_last_bits : PySem.W.keepIn K (.ref f_last_bits) = true)
    (a_is_border_clean : PySem.W.nsIn K mainGlobals "is_border_clean" = some (some (.ref f_is_border_clean)))
    (l_is_border_clean : K.lookup f_is_border_clean = some ⟨oc_is_border_clean, od_is_border_clean, .func (PySem.W.fnOf "is_border_clean" "is_border_clean" (fnArgs s_is_border_clean) (fnBody s_is_border_clean) (fnScope s_is_border_clean) .none kV_is_border_clean dc_is_border_clean pm_is_border_clean an_is_border_clean cd_is_border_clean ct_is_border_clean), sl_is_border_clean⟩)
    (c_is_border_clean : PySem.W.codeIn K cd_is_border_clean "is_border_clean" = true)
    (k_is_border_clean : PySem.W.keepIn K (.ref f_is_border_clean) = true)
    (a_grown : PySem.W.nsIn K mainGlobals "grown" = some (some (.ref f_grown)))
    (l_grown : K.lookup f_grown = some ⟨oc_grown, od_grown, .func (PySem.W.fnOf "grown" "grown" (fnArgs s_grown) (fnBody s_grown) (fnScope s_grown) .none kV_grown dc_grown pm_grown an_grown cd_grown ct_grown), sl_grown⟩)
    (c_grown : PySem.W.codeIn K cd_grown "grown" = true)
    (k_grown : PySem.W.keepIn K (.ref f_grown) = true)
    (a_is_right_step : PySem.W.nsIn K mainGlobals "is_right_step" = some (some (.ref f_is_right_step)))
    (l_is_right_step : K.lookup f_is_right_step = some ⟨oc_is_right_step, od_is_right_step, .func (PySem.W.fnOf "is_right_step" "is_right_step" (fnArgs s_is_right_step) (fnBody s_is_right_step) (fnScope s_is_right_step) .none kV_is_right_step dc_is_right_step pm_is_right_step an_is_right_step cd_is_right_step ct_is_right_step), sl_is_right_step⟩)
    (c_is_right_step : PySem.W.codeIn K cd_is_right_step "is_right_step" = true)
    (k_is_right_step : PySem.W.keepIn K (.ref f_is_right_step) = true)
    (a_walk : PySem.W.nsIn K mainGlobals "walk" = some (some (.ref f_walk)))
    (l_walk : K.lookup f_walk = some ⟨oc_walk, od_walk, .func (PySem.W.fnOf "walk" "walk" (fnArgs s_walk) (fnBody s_walk) (fnScope s_walk) .none kV_walk dc_walk pm_walk an_walk cd_walk ct_walk), sl_walk⟩)
    (c_walk : PySem.W.codeIn K cd_walk "walk" = true)
    (k_walk : PySem.W.keepIn K (.ref f_walk) = true)
    (a_clean_paper : PySem.W.nsIn K mainGlobals "clean_paper" = some (some (.ref f_clean_paper)))
    (l_clean_paper : K.lookup f_clean_paper = some ⟨oc_clean_paper, od_clean_paper, .func (PySem.W.fnOf "clean_paper" "clean_paper" (fnArgs s_clean_paper) (fnBody s_clean_paper) (fnScope s_clean_paper) .none kV_clean_paper dc_clean_paper pm_clean_paper an_clean_paper cd_clean_paper ct_clean_paper), sl_clean_paper⟩)
    (c_clean_paper : PySem.W.codeIn K cd_clean_paper "clean_paper" = true)
    (k_clean_paper : PySem.W.keepIn K (.ref f_clean_paper) = true)
    (a_clean_paper_holds : PySem.W.nsIn K mainGlobals "clean_paper_holds" = some (some (.ref f_clean_paper_holds)))
    (l_clean_paper_holds : K.lookup f_clean_paper_holds = some ⟨oc_clean_paper_holds, od_clean_paper_holds, .func (PySem.W.fnOf "clean_paper_holds" "clean_paper_holds" (fnArgs s_clean_paper_holds) (fnBody s_clean_paper_holds) (fnScope s_clean_paper_holds) .none kV_clean_paper_holds dc_clean_paper_holds pm_clean_paper_holds an_clean_paper_holds cd_clean_paper_holds ct_clean_paper_holds), sl_clean_paper_holds⟩)
    (c_clean_paper_holds : PySem.W.codeIn K cd_clean_paper_holds "clean_paper_holds" = true)
    (k_clean_paper_holds : PySem.W.keepIn K (.ref f_clean_paper_holds) = true)
    (a_is_stuff : PySem.W.nsIn K mainGlobals "is_stuff" = some (some (.ref f_is_stuff)))
    (l_is_stuff : K.lookup f_is_stuff = some ⟨oc_is_stuff, od_is_stuff, .func (PySem.W.fnOf "is_stuff" "is_stuff" (fnArgs s_is_stuff) (fnBody s_is_stuff) (fnScope s_is_stuff) .none kV_is_stuff dc_is_stuff pm_is_stuff an_is_stuff cd_is_stuff ct_is_stuff), sl_is_stuff⟩)
    (c_is_stuff : PySem.W.codeIn K cd_is_stuff "is_stuff" = true)
    (k_is_stuff : PySem.W.keepIn K (.ref f_is_stuff) = true)
    (a_are_stuffs : PySem.W.nsIn K mainGlobals "are_stuffs" = some (some (.ref f_are_stuffs)))
    (l_are_stuffs : K.lookup f_are_stuffs = some ⟨oc_are_stuffs, od_are_stuffs, .func (PySem.W.fnOf "are_stuffs" "are_stuffs" (fnArgs s_are_stuffs) (fnBody s_are_stuffs) (fnScope s_are_stuffs) .none kV_are_stuffs dc_are_stuffs pm_are_stuffs an_are_stuffs cd_are_stuffs ct_are_stuffs), sl_are_stuffs⟩)
    (c_are_stuffs : PySem.W.codeIn K cd_are_stuffs "are_stuffs" = true)
    (k_are_stuffs : PySem.W.keepIn K (.ref f_are_stuffs) = true)
    (a_l_seed : PySem.W.nsIn K mainGlobals "_law_seed" = some (some (.ref f_l_seed)))
    (l_l_seed : K.lookup f_l_seed = some ⟨oc_l_seed, od_l_seed, .func (PySem.W.fnOf "_law_seed" "_law_seed" (fnArgs s_l_seed) (fnBody s_l_seed) (fnScope s_l_seed) .none kV_l_seed dc_l_seed pm_l_seed an_l_seed cd_l_seed ct_l_seed), sl_l_seed⟩)
    (c_l_seed : PySem.W.codeIn K cd_l_seed "_law_seed" = true)
    (k_l_seed : PySem.W.keepIn K (.ref f_l_seed) = true)
    (a_l_choose : PySem.W.nsIn K mainGlobals "_law_choose" = some (some (.ref f_l_choose)))
    (l_l_choose : K.lookup f_l_choose = some ⟨oc_l_choose, od_l_choose, .func (PySem.W.fnOf "_law_choose" "_law_choose" (fnArgs s_l_choose) (fnBody s_l_choose) (fnScope s_l_choose) .none kV_l_choose dc_l_choose pm_l_choose an_l_choose cd_l_choose ct_l_choose), sl_l_choose⟩)
    (c_l_choose : PySem.W.codeIn K cd_l_choose "_law_choose" = true)
    (k_l_choose : PySem.W.keepIn K (.ref f_l_choose) = true)
    (a_l_one_of : PySem.W.nsIn K mainGlobals "_law_one_of" = some (some (.ref f_l_one_of)))
    (l_l_one_of : K.lookup f_l_one_of = some ⟨oc_l_one_of, od_l_one_of, .func (PySem.W.fnOf "_law_one_of" "_law_one_of" (fnArgs s_l_one_of) (fnBody s_l_one_of) (fnScope s_l_one_of) .none kV_l_one_of dc_l_one_of pm_l_one_of an_l_one_of cd_l_one_of ct_l_one_of), sl_l_one_of⟩)
    (c_l_one_of : PySem.W.codeIn K cd_l_one_of "_law_one_of" = true)
    (k_l_one_of : PySem.W.keepIn K (.ref f_l_one_of) = true)
    (a_l_deep : PySem.W.nsIn K mainGlobals "_law_deep" = some (some (.ref f_l_deep)))
    (l_l_deep : K.lookup f_l_deep = some ⟨oc_l_deep, od_l_deep, .func (PySem.W.fnOf "_law_deep" "_law_deep" (fnArgs s_l_deep) (fnBody s_l_deep) (fnScope s_l_deep) .none kV_l_deep dc_l_deep pm_l_deep an_l_deep cd_l_deep ct_l_deep), sl_l_deep⟩)
    (c_l_deep : PySem.W.codeIn K cd_l_deep "_law_deep" = true)
    (k_l_deep : PySem.W.keepIn K (.ref f_l_deep) = true)
    (a_l_leaf : PySem.W.nsIn K mainGlobals "_law_leaf" = some (some (.ref f_l_leaf)))
    (l_l_leaf : K.lookup f_l_leaf = some ⟨oc_l_leaf, od_l_leaf, .func (PySem.W.fnOf "_law_leaf" "_law_leaf" (fnArgs s_l_leaf) (fnBody s_l_leaf) (fnScope s_l_leaf) .none kV_l_leaf dc_l_leaf pm_l_leaf an_l_leaf cd_l_leaf ct_l_leaf), sl_l_leaf⟩)
    (c_l_leaf : PySem.W.codeIn K cd_l_leaf "_law_leaf" = true)
    (k_l_leaf : PySem.W.keepIn K (.ref f_l_leaf) = true)
    (a_l_any : PySem.W.nsIn K mainGlobals "_law_any" = some (some (.ref f_l_any)))
    (l_l_any : K.lookup f_l_any = some ⟨oc_l_any, od_l_any, .func (PySem.W.fnOf "_law_any" "_law_any" (fnArgs s_l_any) (fnBody s_l_any) (fnScope s_l_any) .none kV_l_any dc_l_any pm_l_any an_l_any cd_l_any ct_l_any), sl_l_any⟩)
    (c_l_any : PySem.W.codeIn K cd_l_any "_law_any" = true)
    (k_l_any : PySem.W.keepIn K (.ref f_l_any) = true)
    (a_law : PySem.W.nsIn K mainGlobals "law" = some (some (.ref f_law)))
    (l_law : K.lookup f_law = some ⟨oc_law, od_law, .func (PySem.W.fnOf "law" "law" (fnArgs s_law) (fnBody s_law) (fnScope s_law) .none kV_law dc_law pm_law an_law cd_law ct_law), sl_law⟩)
    (c_law : PySem.W.codeIn K cd_law "law" = true)
    (k_law : PySem.W.keepIn K (.ref f_law) = true)
    (aC_Rule : PySem.W.nsIn K mainGlobals "Rule" = some (some (.ref C_Rule)))
    (pg_Rule : PySem.W.plainGet K C_Rule Str.empty = true)
    (hd_Rule : PySem.W.hasDictIn K C_Rule = true)
    (po_Rule : PySem.W.plainOver K C_Rule = true)
    (sa_Rule : PySem.W.findIn K (.ref C_Rule) "__setattr__" = some (some (.builtin "object.__setattr__")))
    (mk_Rule : PySem.W.makesIn K C_Rule = true)
    (kc_Rule : PySem.W.keepIn K (.ref C_Rule) = true)
    (n_Rule_flag : PySem.W.findIn K (.ref C_Rule) "flag" = some none)
    (n_Rule_stuffs : PySem.W.findIn K (.ref C_Rule) "stuffs" = some none)
    (a_Rule_put : PySem.W.findIn K (.ref C_Rule) "put" = some (some (.ref f_Rule_put)))
    (i_Rule_put : PySem.W.isFn K (.ref f_Rule_put) = true)
    (l_Rule_put : K.lookup f_Rule_put = some ⟨oc_Rule_put, od_Rule_put, .func (PySem.W.fnOf "put" "Rule.put" (fnArgs s_Rule_put) (fnBody s_Rule_put) (fnScope s_Rule_put) .none kV_Rule_put dc_Rule_put pm_Rule_put an_Rule_put cd_Rule_put ct_Rule_put), sl_Rule_put⟩)
    (c_Rule_put : PySem.W.codeIn K cd_Rule_put "Rule.put" = true)
    (k_Rule_put : PySem.W.keepIn K (.ref f_Rule_put) = true)
    (a_Rule_longest : PySem.W.findIn K (.ref C_Rule) "longest" = some (some (.ref p_Rule_longest)))
    (g_Rule_longest : PySem.W.specialIn K (.ref p_Rule_longest) "__get__" = some (some (.builtin "property.__get__")))
    (t_Rule_longest : PySem.W.takesIn K (.ref p_Rule_longest) = some true)
    (r_Rule_longest : PySem.W.recIn K p_Rule_longest "property" = some (.ref f_Rule_longest :: pr_Rule_longest))
    (l_Rule_longest : K.lookup f_Rule_longest = some ⟨oc_Rule_longest, od_Rule_longest, .func (PySem.W.fnOf "longest" "Rule.longest" (fnArgs s_Rule_longest) (fnBody s_Rule_longest) (fnScope s_Rule_longest) .none kV_Rule_longest dc_Rule_longest pm_Rule_longest an_Rule_longest cd_Rule_longest ct_Rule_longest), sl_Rule_longest⟩)
    (c_Rule_longest : PySem.W.codeIn K cd_Rule_longest "Rule.longest" = true)
    (a_Rule_str : PySem.W.findIn K (.ref C_Rule) "__str__" = some (some (.ref f_Rule_str)))
    (i_Rule_str : PySem.W.isFn K (.ref f_Rule_str) = true)
    (l_Rule_str : K.lookup f_Rule_str = some ⟨oc_Rule_str, od_Rule_str, .func (PySem.W.fnOf "__str__" "Rule.__str__" (fnArgs s_Rule_str) (fnBody s_Rule_str) (fnScope s_Rule_str) .none kV_Rule_str dc_Rule_str pm_Rule_str an_Rule_str cd_Rule_str ct_Rule_str), sl_Rule_str⟩)
    (c_Rule_str : PySem.W.codeIn K cd_Rule_str "Rule.__str__" = true)
    (k_Rule_str : PySem.W.keepIn K (.ref f_Rule_str) = true)
    (a_Rule_eq : PySem.W.findIn K (.ref C_Rule) "__eq__" = some (some (.ref f_Rule_eq)))
    (i_Rule_eq : PySem.W.isFn K (.ref f_Rule_eq) = true)
    (l_Rule_eq : K.lookup f_Rule_eq = some ⟨oc_Rule_eq, od_Rule_eq, .func (PySem.W.fnOf "__eq__" "Rule.__eq__" (fnArgs s_Rule_eq) (fnBody s_Rule_eq) (fnScope s_Rule_eq) .none kV_Rule_eq dc_Rule_eq pm_Rule_eq an_Rule_eq cd_Rule_eq ct_Rule_eq), sl_Rule_eq⟩)
    (c_Rule_eq : PySem.W.codeIn K cd_Rule_eq "Rule.__eq__" = true)
    (k_Rule_eq : PySem.W.keepIn K (.ref f_Rule_eq) = true)
    (a_Rule_put_in : PySem.W.findIn K (.ref C_Rule) "put_in" = some (some (.ref f_Rule_put_in)))
    (i_Rule_put_in : PySem.W.isFn K (.ref f_Rule_put_in) = true)
    (l_Rule_put_in : K.lookup f_Rule_put_in = some ⟨oc_Rule_put_in, od_Rule_put_in, .func (PySem.W.fnOf "put_in" "Rule.put_in" (fnArgs s_Rule_put_in) (fnBody s_Rule_put_in) (fnScope s_Rule_put_in) .none kV_Rule_put_in dc_Rule_put_in pm_Rule_put_in an_Rule_put_in cd_Rule_put_in ct_Rule_put_in), sl_Rule_put_in⟩)
    (c_Rule_put_in : PySem.W.codeIn K cd_Rule_put_in "Rule.put_in" = true)
    (k_Rule_put_in : PySem.W.keepIn K (.ref f_Rule_put_in) = true)
    (a_Rule_is_endless : PySem.W.findIn K (.ref C_Rule) "is_endless" = some (some (.ref f_Rule_is_endless)))
    (i_Rule_is_endless : PySem.W.isFn K (.ref f_Rule_is_endless) = true)
    (l_Rule_is_endless : K.lookup f_Rule_is_endless = some ⟨oc_Rule_is_endless, od_Rule_is_endless, .func (PySem.W.fnOf "is_endless" "Rule.is_endless" (fnArgs s_Rule_is_endless) (fnBody s_Rule_is_endless) (fnScope s_Rule_is_endless) .none kV_Rule_is_endless dc_Rule_is_endless pm_Rule_is_endless an_Rule_is_endless cd_Rule_is_endless ct_Rule_is_endless), sl_Rule_is_endless⟩)
    (c_Rule_is_endless : PySem.W.codeIn K cd_Rule_is_endless "Rule.is_endless" = true)
    (k_Rule_is_endless : PySem.W.keepIn K (.ref f_Rule_is_endless) = true)
    (a_Rule_init : PySem.W.findIn K (.ref C_Rule) "__init__" = some (some (.ref f_Rule_init)))
    (i_Rule_init : PySem.W.isFn K (.ref f_Rule_init) = true)
    (l_Rule_init : K.lookup f_Rule_init = some ⟨oc_Rule_init, od_Rule_init, .func (PySem.W.fnOf "__init__" "Rule.__init__" (fnArgs s_Rule_init) (fnBody s_Rule_init) (fnScope s_Rule_init) (.ref dT_Rule_init) kV_Rule_init dc_Rule_init pm_Rule_init an_Rule_init cd_Rule_init ct_Rule_init), sl_Rule_init⟩)
    (c_Rule_init : PySem.W.codeIn K cd_Rule_init "Rule.__init__" = true)
    (k_Rule_init : PySem.W.keepIn K (.ref f_Rule_init) = true)
    (dl_Rule_init : K.lookup dT_Rule_init = some ⟨.type "tuple", dd_Rule_init, .seq #[.ref dE_R] dn_Rule_init, ds_Rule_init⟩)
    (dlE_Rule : K.lookup dE_R = some ⟨.type "tuple", dde_R, .seq #[] dne_R, dse_R⟩)
    (mro_Rule : PySem.W.mroIn K C_Rule (.type "object") = some true)
    (cls_Rule : PySem.W.findIn K (.ref C_Rule) "__class__" = some (some (.builtin "object.__class__")))
    (clg_X : PySem.W.specialIn K (.builtin "object.__class__") "__get__" = some (some (.builtin "getset_descriptor.__get__")))
    (clt_X : PySem.W.takesIn K (.builtin "object.__class__") = some true)
    (neq_Rule : PySem.W.findIn K (.ref C_Rule) "__ne__" = some (some (.builtin "object.__ne__")))
    (kon_rs : PySem.W.kitOne K (.ref C_Rule) (.type "str") = some false)
    (kon_rt : PySem.W.kitOne K (.ref C_Rule) (.type "tuple") = some false)
    (kon_nfr : PySem.W.notFirst K C_Rule (.type "tuple") = true)
    (gBITS : PySem.W.nsIn K mainGlobals "BITS" = some (some (.str "01" tB)))
    (kon_tr : PySem.W.kitOne K (.type "tuple") (.ref C_Rule) = some false)
    (z_len : PySem.W.nsIn K mainGlobals "len" = some none)
    (z_abs : PySem.W.nsIn K mainGlobals "abs" = some none)
    (z_int : PySem.W.nsIn K mainGlobals "int" = some none)
    (z_range : PySem.W.nsIn K mainGlobals "range" = some none)
    (z_max : PySem.W.nsIn K mainGlobals "max" = some none)
    (z_min : PySem.W.nsIn K mainGlobals "min" = some none)
    (z_enumerate : PySem.W.nsIn K mainGlobals "enumerate" = some none)
    (z_zip : PySem.W.nsIn K mainGlobals "zip" = some none)
    (z_dict : PySem.W.nsIn K mainGlobals "dict" = some none)
    (z_list : PySem.W.nsIn K mainGlobals "list" = some none)
    (z_tuple : PySem.W.nsIn K mainGlobals "tuple" = some none)
    (z_isinstance : PySem.W.nsIn K mainGlobals "isinstance" = some none)
    (z_bool : PySem.W.nsIn K mainGlobals "bool" = some none)
    (z_str : PySem.W.nsIn K mainGlobals "str" = some none)
    (z_all : PySem.W.nsIn K mainGlobals "all" = some none)
    (z_any : PySem.W.nsIn K mainGlobals "any" = some none)
    (z_sum : PySem.W.nsIn K mainGlobals "sum" = some none)
    (z_sorted : PySem.W.nsIn K mainGlobals "sorted" = some none)
    (z_repr : PySem.W.nsIn K mainGlobals "repr" = some none) :
    ∃ fd : FuncData, (∀ (s : Shared) (v : Value), BindsTo s fd ⟨[v], []⟩ [("_law_script", v)]) ∧ ∀ base : Heap, K.In base → base.Ns mainGlobals mg → FnOk l.prog w K mg base CX0 14 fa fd ["_law_script"] (spLaw K) := by
  have e : f_law = fa := Value.ref.inj (Option.some.inj ((PySem.W.mg_of X G a_law).symm.trans hfa))
  subst e
  have T : Tx mg := ⟨PySem.W.mg_none_of X G z_len, PySem.W.mg_none_of X G z_abs, PySem.W.mg_none_of X G z_int, PySem.W.mg_none_of X G z_range, PySem.W.mg_none_of X G z_max, PySem.W.mg_none_of X G z_min, PySem.W.mg_none_of X G z_enumerate, PySem.W.mg_none_of X G z_zip, PySem.W.mg_none_of X G z_dict, PySem.W.mg_none_of X G z_list, PySem.W.mg_none_of X G z_tuple, PySem.W.mg_none_of X G z_isinstance, PySem.W.mg_none_of X G z_bool, PySem.W.mg_none_of X G z_str, PySem.W.mg_none_of X G z_all, PySem.W.mg_none_of X G z_any, PySem.W.mg_none_of X G z_sum, PySem.W.mg_none_of X G z_sorted, PySem.W.mg_none_of X G z_repr⟩
  have F_is_sequence : Def K mg "is_sequence" s_is_sequence f_is_sequence (PySem.W.fnOf "is_sequence" "is_sequence" (fnArgs s_is_sequence) (fnBody s_is_sequence) (fnScope s_is_sequence) .none kV_is_sequence dc_is_sequence pm_is_sequence an_is_sequence cd_is_sequence ct_is_sequence) := ⟨⟨_, _, _, _, _, _, _, _, _, _, rfl, l_is_sequence, c_is_sequence⟩, PySem.W.mg_of X G a_is_sequence, k_is_sequence⟩
  have b_is_sequence := C8.Fun.binds (ps := ["value"]) F_is_sequence.fn rfl fun _ _ _ _ _ _ us hl => match us, hl with | [_], _ => rfl
  have F_is_word : Def K mg "is_word" s_is_word f_is_word (PySem.W.fnOf "is_word" "is_word" (fnArgs s_is_word) (fnBody s_is_word) (fnScope s_is_word) .none kV_is_word dc_is_word pm_is_word an_is_word cd_is_word ct_is_word) := ⟨⟨_, _, _, _, _, _, _, _, _, _, rfl, l_is_word, c_is_word⟩, PySem.W.mg_of X G a_is_word, k_is_word⟩
  have b_is_word := C8.Fun.binds (ps := ["value"]) F_is_word.fn rfl fun _ _ _ _ _ _ us hl => match us, hl with | [_], _ => rfl
  have F_is_bit : Def K mg "is_bit" s_is_bit f_is_bit (PySem.W.fnOf "is_bit" "is_bit" (fnArgs s_is_bit) (fnBody s_is_bit) (fnScope s_is_bit) .none kV_is_bit dc_is_bit pm_is_bit an_is_bit cd_is_bit ct_is_bit) := ⟨⟨_, _, _, _, _, _, _, _, _, _, rfl, l_is_bit, c_is_bit⟩, PySem.W.mg_of X G a_is_bit, k_is_bit⟩
  have b_is_bit := C8.Fun.binds (ps := ["value"]) F_is_bit.fn rfl fun _ _ _ _ _ _ us hl => match us, hl with | [_], _ => rfl
  have F_tail : Def K mg "tail" s_tail f_tail (PySem.W.fnOf "tail" "tail" (fnArgs s_tail) (fnBody s_tail) (fnScope s_tail) .none kV_tail dc_tail pm_tail an_tail cd_tail ct_tail) := ⟨⟨_, _, _, _, _, _, _, _, _, _, rfl, l_tail, c_tail⟩, PySem.W.mg_of X G a_tail, k_tail⟩
  have b_tail := C8.Fun.binds (ps := ["line", "size"]) F_tail.fn rfl fun _ _ _ _ _ _ us hl => match us, hl with | [_, _], _ => rfl
  have F_width : Def K mg "width" s_width f_width (PySem.W.fnOf "width" "width" (fnArgs s_width) (fnBody s_width) (fnScope s_width) .none kV_width dc_width pm_width an_width cd_width ct_width) := ⟨⟨_, _, _, _, _, _, _, _, _, _, rfl, l_width, c_width⟩, PySem.W.mg_of X G a_width, k_width⟩
  have b_width := C8.Fun.binds (ps := ["rule"]) F_width.fn rfl fun _ _ _ _ _ _ us hl => match us, hl with | [_], _ => rfl
  have F_last_bits : Def K mg "last_bits" s_last_bits f_last_bits (PySem.W.fnOf "last_bits" "last_bits" (fnArgs s_last_bits) (fnBody s_last_bits) (fnScope s_last_bits) .none kV_last_bits dc_last_bits pm_last_bits an_last_bits cd_last_bits ct_last_bits) := ⟨⟨_, _, _, _, _, _, _, _, _, _, rfl, l_last_bits, c_last_bits⟩, PySem.W.mg_of X G a_last_bits, k_last_bits⟩
  have b_last_bits := C8.Fun.binds (ps := ["line", "many"]) F_last_bits.fn rfl fun _ _ _ _ _ _ us hl => match us, hl with | [_, _], _ => rfl
  have F_is_border_clean : Def K mg "is_border_clean" s_is_border_clean f_is_border_clean (PySem.W.fnOf "is_border_clean" "is_border_clean" (fnArgs s_is_border_clean) (fnBody s_is_border_clean) (fnScope s_is_border_clean) .none kV_is_border_clean dc_is_border_clean pm_is_border_clean an_is_border_clean cd_is_border_clean ct_is_border_clean) := ⟨⟨_, _, _, _, _, _, _, _, _, _, rfl, l_is_border_clean, c_is_border_clean⟩, PySem.W.mg_of X G a_is_border_clean, k_is_border_clean⟩
  have b_is_border_clean := C8.Fun.binds (ps := ["rule", "standing"]) F_is_border_clean.fn rfl fun _ _ _ _ _ _ us hl => match us, hl with | [_, _], _ => rfl
  have F_grown : Def K mg "grown" s_grown f_grown (PySem.W.fnOf "grown" "grown" (fnArgs s_grown) (fnBody s_grown) (fnScope s_grown) .none kV_grown dc_grown pm_grown an_grown cd_grown ct_grown) := ⟨⟨_, _, _, _, _, _, _, _, _, _, rfl, l_grown, c_grown⟩, PySem.W.mg_of X G a_grown, k_grown⟩
  have b_grown := C8.Fun.binds (ps := ["rule", "standing", "bit"]) F_grown.fn rfl fun _ _ _ _ _ _ us hl => match us, hl with | [_, _, _], _ => rfl
  have F_is_right_step : Def K mg "is_right_step" s_is_right_step f_is_right_step (PySem.W.fnOf "is_right_step" "is_right_step" (fnArgs s_is_right_step) (fnBody s_is_right_step) (fnScope s_is_right_step) .none kV_is_right_step dc_is_right_step pm_is_right_step an_is_right_step cd_is_right_step ct_is_right_step) := ⟨⟨_, _, _, _, _, _, _, _, _, _, rfl, l_is_right_step, c_is_right_step⟩, PySem.W.mg_of X G a_is_right_step, k_is_right_step⟩
  have b_is_right_step := C8.Fun.binds (ps := ["rule", "standing", "bit", "known"]) F_is_right_step.fn rfl fun _ _ _ _ _ _ us hl => match us, hl with | [_, _, _, _], _ => rfl
  have F_walk : Def K mg "walk" s_walk f_walk (PySem.W.fnOf "walk" "walk" (fnArgs s_walk) (fnBody s_walk) (fnScope s_walk) .none kV_walk dc_walk pm_walk an_walk cd_walk ct_walk) := ⟨⟨_, _, _, _, _, _, _, _, _, _, rfl, l_walk, c_walk⟩, PySem.W.mg_of X G a_walk, k_walk⟩
  have b_walk := C8.Fun.binds (ps := ["rule"]) F_walk.fn rfl fun _ _ _ _ _ _ us hl => match us, hl with | [_], _ => rfl
  have F_clean_paper : Def K mg "clean_paper" s_clean_paper f_clean_paper (PySem.W.fnOf "clean_paper" "clean_paper" (fnArgs s_clean_paper) (fnBody s_clean_paper) (fnScope s_clean_paper) .none kV_clean_paper dc_clean_paper pm_clean_paper an_clean_paper cd_clean_paper ct_clean_paper) := ⟨⟨_, _, _, _, _, _, _, _, _, _, rfl, l_clean_paper, c_clean_paper⟩, PySem.W.mg_of X G a_clean_paper, k_clean_paper⟩
  have b_clean_paper := C8.Fun.binds (ps := ["rule"]) F_clean_paper.fn rfl fun _ _ _ _ _ _ us hl => match us, hl with | [_], _ => rfl
  have F_clean_paper_holds : Def K mg "clean_paper_holds" s_clean_paper_holds f_clean_paper_holds (PySem.W.fnOf "clean_paper_holds" "clean_paper_holds" (fnArgs s_clean_paper_holds) (fnBody s_clean_paper_holds) (fnScope s_clean_paper_holds) .none kV_clean_paper_holds dc_clean_paper_holds pm_clean_paper_holds an_clean_paper_holds cd_clean_paper_holds ct_clean_paper_holds) := ⟨⟨_, _, _, _, _, _, _, _, _, _, rfl, l_clean_paper_holds, c_clean_paper_holds⟩, PySem.W.mg_of X G a_clean_paper_holds, k_clean_paper_holds⟩
  have b_clean_paper_holds := C8.Fun.binds (ps := ["rule", "value"]) F_clean_paper_holds.fn rfl fun _ _ _ _ _ _ us hl => match us, hl with | [_, _], _ => rfl
  have F_is_stuff : Def K mg "is_stuff" s_is_stuff f_is_stuff (PySem.W.fnOf "is_stuff" "is_stuff" (fnArgs s_is_stuff) (fnBody s_is_stuff) (fnScope s_is_stuff) .none kV_is_stuff dc_is_stuff pm_is_stuff an_is_stuff cd_is_stuff ct_is_stuff) := ⟨⟨_, _, _, _, _, _, _, _, _, _, rfl, l_is_stuff, c_is_stuff⟩, PySem.W.mg_of X G a_is_stuff, k_is_stuff⟩
  have b_is_stuff := C8.Fun.binds (ps := ["value"]) F_is_stuff.fn rfl fun _ _ _ _ _ _ us hl => match us, hl with | [_], _ => rfl
  have F_are_stuffs : Def K mg "are_stuffs" s_are_stuffs f_are_stuffs (PySem.W.fnOf "are_stuffs" "are_stuffs" (fnArgs s_are_stuffs) (fnBody s_are_stuffs) (fnScope s_are_stuffs) .none kV_are_stuffs dc_are_stuffs pm_are_stuffs an_are_stuffs cd_are_stuffs ct_are_stuffs) := ⟨⟨_, _, _, _, _, _, _, _, _, _, rfl, l_are_stuffs, c_are_stuffs⟩, PySem.W.mg_of X G a_are_stuffs, k_are_stuffs⟩
  have b_are_stuffs := C8.Fun.binds (ps := ["value"]) F_are_stuffs.fn rfl fun _ _ _ _ _ _ us hl => match us, hl with | [_], _ => rfl
  have F_l_seed : Def K mg "_law_seed" s_l_seed f_l_seed (PySem.W.fnOf "_law_seed" "_law_seed" (fnArgs s_l_seed) (fnBody s_l_seed) (fnScope s_l_seed) .none kV_l_seed dc_l_seed pm_l_seed an_l_seed cd_l_seed ct_l_seed) := ⟨⟨_, _, _, _, _, _, _, _, _, _, rfl, l_l_seed, c_l_seed⟩, PySem.W.mg_of X G a_l_seed, k_l_seed⟩
  have b_l_seed := C8.Fun.binds (ps := ["_law_script", "_law_k"]) F_l_seed.fn rfl fun _ _ _ _ _ _ us hl => match us, hl with | [_, _], _ => rfl
  have F_l_choose : Def K mg "_law_choose" s_l_choose f_l_choose (PySem.W.fnOf "_law_choose" "_law_choose" (fnArgs s_l_choose) (fnBody s_l_choose) (fnScope s_l_choose) .none kV_l_choose dc_l_choose pm_l_choose an_l_choose cd_l_choose ct_l_choose) := ⟨⟨_, _, _, _, _, _, _, _, _, _, rfl, l_l_choose, c_l_choose⟩, PySem.W.mg_of X G a_l_choose, k_l_choose⟩
  have b_l_choose := C8.Fun.binds (ps := ["_law_box", "_law_many"]) F_l_choose.fn rfl fun _ _ _ _ _ _ us hl => match us, hl with | [_, _], _ => rfl
  have F_l_one_of : Def K mg "_law_one_of" s_l_one_of f_l_one_of (PySem.W.fnOf "_law_one_of" "_law_one_of" (fnArgs s_l_one_of) (fnBody s_l_one_of) (fnScope s_l_one_of) .none kV_l_one_of dc_l_one_of pm_l_one_of an_l_one_of cd_l_one_of ct_l_one_of) := ⟨⟨_, _, _, _, _, _, _, _, _, _, rfl, l_l_one_of, c_l_one_of⟩, PySem.W.mg_of X G a_l_one_of, k_l_one_of⟩
  have b_l_one_of := C8.Fun.binds (ps := ["_law_box", "_law_some"]) F_l_one_of.fn rfl fun _ _ _ _ _ _ us hl => match us, hl with | [_, _], _ => rfl
  have F_l_deep : Def K mg "_law_deep" s_l_deep f_l_deep (PySem.W.fnOf "_law_deep" "_law_deep" (fnArgs s_l_deep) (fnBody s_l_deep) (fnScope s_l_deep) .none kV_l_deep dc_l_deep pm_l_deep an_l_deep cd_l_deep ct_l_deep) := ⟨⟨_, _, _, _, _, _, _, _, _, _, rfl, l_l_deep, c_l_deep⟩, PySem.W.mg_of X G a_l_deep, k_l_deep⟩
  have b_l_deep := C8.Fun.binds (ps := []) F_l_deep.fn rfl fun _ _ _ _ _ _ us hl => match us, hl with | [], _ => rfl
  have F_l_leaf : Def K mg "_law_leaf" s_l_leaf f_l_leaf (PySem.W.fnOf "_law_leaf" "_law_leaf" (fnArgs s_l_leaf) (fnBody s_l_leaf) (fnScope s_l_leaf) .none kV_l_leaf dc_l_leaf pm_l_leaf an_l_leaf cd_l_leaf ct_l_leaf) := ⟨⟨_, _, _, _, _, _, _, _, _, _, rfl, l_l_leaf, c_l_leaf⟩, PySem.W.mg_of X G a_l_leaf, k_l_leaf⟩
  have b_l_leaf := C8.Fun.binds (ps := ["_law_box"]) F_l_leaf.fn rfl fun _ _ _ _ _ _ us hl => match us, hl with | [_], _ => rfl
  have F_l_any : Def K mg "_law_any" s_l_any f_l_any (PySem.W.fnOf "_law_any" "_law_any" (fnArgs s_l_any) (fnBody s_l_any) (fnScope s_l_any) .none kV_l_any dc_l_any pm_l_any an_l_any cd_l_any ct_l_any) := ⟨⟨_, _, _, _, _, _, _, _, _, _, rfl, l_l_any, c_l_any⟩, PySem.W.mg_of X G a_l_any, k_l_any⟩
  have b_l_any := C8.Fun.binds (ps := ["_law_box", "_law_deep_here"]) F_l_any.fn rfl fun _ _ _ _ _ _ us hl => match us, hl with | [_, _], _ => rfl
  have F_law : Def K mg "law" s_law f_law (PySem.W.fnOf "law" "law" (fnArgs s_law) (fnBody s_law) (fnScope s_law) .none kV_law dc_law pm_law an_law cd_law ct_law) := ⟨⟨_, _, _, _, _, _, _, _, _, _, rfl, l_law, c_law⟩, PySem.W.mg_of X G a_law, k_law⟩
  have b_law := C8.Fun.binds (ps := ["_law_script"]) F_law.fn rfl fun _ _ _ _ _ _ us hl => match us, hl with | [_], _ => rfl
  have CL_Rule : Cls K C_Rule := ⟨pg_Rule, hd_Rule, po_Rule, sa_Rule⟩
  have F_Rule_put : C8.Fun K "put" "Rule.put" s_Rule_put f_Rule_put (PySem.W.fnOf "put" "Rule.put" (fnArgs s_Rule_put) (fnBody s_Rule_put) (fnScope s_Rule_put) .none kV_Rule_put dc_Rule_put pm_Rule_put an_Rule_put cd_Rule_put ct_Rule_put) := ⟨_, _, _, _, _, _, _, _, _, _, rfl, l_Rule_put, c_Rule_put⟩
  have b_Rule_put := C8.Fun.binds (ps := ["self", "line"]) F_Rule_put rfl fun _ _ _ _ _ _ us hl => match us, hl with | [_, _], _ => rfl
  have F_Rule_longest : C8.Fun K "longest" "Rule.longest" s_Rule_longest f_Rule_longest (PySem.W.fnOf "longest" "Rule.longest" (fnArgs s_Rule_longest) (fnBody s_Rule_longest) (fnScope s_Rule_longest) .none kV_Rule_longest dc_Rule_longest pm_Rule_longest an_Rule_longest cd_Rule_longest ct_Rule_longest) := ⟨_, _, _, _, _, _, _, _, _, _, rfl, l_Rule_longest, c_Rule_longest⟩
  have b_Rule_longest := C8.Fun.binds (ps := ["self"]) F_Rule_longest rfl fun _ _ _ _ _ _ us hl => match us, hl with | [_], _ => rfl
  have F_Rule_str : C8.Fun K "__str__" "Rule.__str__" s_Rule_str f_Rule_str (PySem.W.fnOf "__str__" "Rule.__str__" (fnArgs s_Rule_str) (fnBody s_Rule_str) (fnScope s_Rule_str) .none kV_Rule_str dc_Rule_str pm_Rule_str an_Rule_str cd_Rule_str ct_Rule_str) := ⟨_, _, _, _, _, _, _, _, _, _, rfl, l_Rule_str, c_Rule_str⟩
  have b_Rule_str := C8.Fun.binds (ps := ["self"]) F_Rule_str rfl fun _ _ _ _ _ _ us hl => match us, hl with | [_], _ => rfl
  have F_Rule_eq : C8.Fun K "__eq__" "Rule.__eq__" s_Rule_eq f_Rule_eq (PySem.W.fnOf "__eq__" "Rule.__eq__" (fnArgs s_Rule_eq) (fnBody s_Rule_eq) (fnScope s_Rule_eq) .none kV_Rule_eq dc_Rule_eq pm_Rule_eq an_Rule_eq cd_Rule_eq ct_Rule_eq) := ⟨_, _, _, _, _, _, _, _, _, _, rfl, l_Rule_eq, c_Rule_eq⟩
  have b_Rule_eq := C8.Fun.binds (ps := ["self", "other"]) F_Rule_eq rfl fun _ _ _ _ _ _ us hl => match us, hl with | [_, _], _ => rfl
  have F_Rule_put_in : C8.Fun K "put_in" "Rule.put_in" s_Rule_put_in f_Rule_put_in (PySem.W.fnOf "put_in" "Rule.put_in" (fnArgs s_Rule_put_in) (fnBody s_Rule_put_in) (fnScope s_Rule_put_in) .none kV_Rule_put_in dc_Rule_put_in pm_Rule_put_in an_Rule_put_in cd_Rule_put_in ct_Rule_put_in) := ⟨_, _, _, _, _, _, _, _, _, _, rfl, l_Rule_put_in, c_Rule_put_in⟩
  have b_Rule_put_in := C8.Fun.binds (ps := ["self", "line"]) F_Rule_put_in rfl fun _ _ _ _ _ _ us hl => match us, hl with | [_, _], _ => rfl
  have F_Rule_is_endless : C8.Fun K "is_endless" "Rule.is_endless" s_Rule_is_endless f_Rule_is_endless (PySem.W.fnOf "is_endless" "Rule.is_endless" (fnArgs s_Rule_is_endless) (fnBody s_Rule_is_endless) (fnScope s_Rule_is_endless) .none kV_Rule_is_endless dc_Rule_is_endless pm_Rule_is_endless an_Rule_is_endless cd_Rule_is_endless ct_Rule_is_endless) := ⟨_, _, _, _, _, _, _, _, _, _, rfl, l_Rule_is_endless, c_Rule_is_endless⟩
  have b_Rule_is_endless := C8.Fun.binds (ps := ["self"]) F_Rule_is_endless rfl fun _ _ _ _ _ _ us hl => match us, hl with | [_], _ => rfl
  have F_Rule_init : C8.Fun K "__init__" "Rule.__init__" s_Rule_init f_Rule_init (PySem.W.fnOf "__init__" "Rule.__init__" (fnArgs s_Rule_init) (fnBody s_Rule_init) (fnScope s_Rule_init) (.ref dT_Rule_init) kV_Rule_init dc_Rule_init pm_Rule_init an_Rule_init cd_Rule_init ct_Rule_init) := ⟨_, _, _, _, _, _, _, _, _, _, rfl, l_Rule_init, c_Rule_init⟩
  have FD_Rule_init : FunD K "__init__" "Rule.__init__" (fnArgs s_Rule_init) (fnBody s_Rule_init) (fnScope s_Rule_init) [.ref dE_R] [] f_Rule_init (PySem.W.fnOf "__init__" "Rule.__init__" (fnArgs s_Rule_init) (fnBody s_Rule_init) (fnScope s_Rule_init) (.ref dT_Rule_init) kV_Rule_init dc_Rule_init pm_Rule_init an_Rule_init cd_Rule_init ct_Rule_init) := ⟨⟨_, _, _, _, _, _, _, _, _, _, rfl, l_Rule_init, c_Rule_init, .inr ⟨List.cons_ne_nil _ _, _, _, _, _, rfl, dl_Rule_init, rfl, .cons rfl .nil⟩, .inl rfl⟩, k_Rule_init⟩
  obtain ⟨ds0_Rule_init, vd0_Rule_init, bd0_Rule_init⟩ := FD_Rule_init.binds1 (ps := ["self", "flag", "stuffs"]) 2 0 (List.cons_ne_nil _ _) rfl fun _ _ _ _ _ _ _ us its h1 h2 => match us, its, h1, h2 with | [_, _], [_], _, _ => ⟨_, rfl, rfl⟩
  obtain ⟨ds1_Rule_init, vd1_Rule_init, bd1_Rule_init⟩ := FD_Rule_init.binds1 (ps := ["self", "flag", "stuffs"]) 3 1 (List.cons_ne_nil _ _) rfl fun _ _ _ _ _ _ _ us its h1 h2 => match us, its, h1, h2 with | [_, _, _], [_], _, _ => ⟨_, rfl, rfl⟩
  refine ⟨PySem.W.fnOf "law" "law" (fnArgs s_law) (fnBody s_law) (fnScope s_law) .none kV_law dc_law pm_law an_law cd_law ct_law, fun s v => .of_eq rfl, fun base _ _ => ?_⟩
  have RT : RuT K C_Rule := ⟨CL_Rule, n_Rule_flag, n_Rule_stuffs⟩
  have IS_Rule : IsT K C_Rule := ⟨CL_Rule, cls_Rule, clg_X, clt_X, mro_Rule⟩
  have NE_Rule : NeT K C_Rule := ⟨mro_Rule, neq_Rule⟩
  have kon_rule_str := kon_rs
  have kon_rule_tuple := kon_rt
  have kon_nf_rule_tuple := kon_nfr
  have c_l_seed := cal_l_seed (P := l.prog) (w := w) (base := base) F_l_seed b_l_seed T
  have c_l_choose := cal_l_choose (P := l.prog) (w := w) (base := base) F_l_choose b_l_choose T
  have c_l_one_of := cal_l_one_of (P := l.prog) (w := w) (base := base) F_l_one_of b_l_one_of T c_l_choose
  have c_l_deep := cal_l_deep (P := l.prog) (w := w) (base := base) F_l_deep b_l_deep T
  have c_l_leaf := cal_l_leaf (P := l.prog) (w := w) (base := base) F_l_leaf b_l_leaf T c_l_one_of
  have c_l_any := cal_l_any (P := l.prog) (w := w) (base := base) F_l_any b_l_any T c_l_choose c_l_leaf
  have g_BITS := PySem.W.mg_of X G gBITS
  have c_put := met_put (P := l.prog) (w := w) (base := base) F_Rule_put ⟨a_Rule_put, i_Rule_put, k_Rule_put⟩ b_Rule_put T RT
  have p_longest : Prp l.prog w K mg base 1 C_Rule "longest" (spLongest C_Rule) := ⟨_, _, _, _, CL_Rule, ⟨a_Rule_longest, g_Rule_longest, t_Rule_longest, ⟨_, r_Rule_longest⟩⟩, ok_longest F_Rule_longest T RT, b_Rule_longest⟩
  have c_last_bits := cal_last_bits (P := l.prog) (w := w) (base := base) F_last_bits b_last_bits T
  have c_grown := cal_grown (P := l.prog) (w := w) (base := base) F_grown b_grown T RT c_put p_longest c_last_bits
  have c_width := cal_width (P := l.prog) (w := w) (base := base) F_width b_width T RT p_longest
  have c_is_border_clean := cal_is_border_clean (P := l.prog) (w := w) (base := base) F_is_border_clean b_is_border_clean T RT
  have c_walk := cal_walk (P := l.prog) (w := w) (base := base) F_walk b_walk T RT g_BITS c_grown c_last_bits c_width c_is_border_clean
  have c_clean_paper := cal_clean_paper (P := l.prog) (w := w) (base := base) F_clean_paper b_clean_paper T c_walk
  have c_is_word := cal_is_word (P := l.prog) (w := w) (base := base) F_is_word b_is_word T g_BITS
  have c_is_right_step := cal_is_right_step (P := l.prog) (w := w) (base := base) F_is_right_step b_is_right_step T RT c_grown c_last_bits c_width
  have c_clean_paper_holds := cal_clean_paper_holds (P := l.prog) (w := w) (base := base) F_clean_paper_holds b_clean_paper_holds T RT g_BITS c_is_word c_is_border_clean c_is_right_step
  have c_clean_paper_holdsX := cal_clean_paper_holdsX (P := l.prog) (w := w) (base := base) F_clean_paper_holds b_clean_paper_holds T c_is_word
  have g_Rule : mg "Rule" = some (.ref C_Rule) := PySem.W.mg_of X G aC_Rule
  have kon_tuple_rule := kon_tr
  have c_Rule_str := met_Rule_str (P := l.prog) (w := w) (base := base) F_Rule_str ⟨a_Rule_str, i_Rule_str, k_Rule_str⟩ b_Rule_str T RT
  have c_Rule_eqT := met_Rule_eqT (P := l.prog) (w := w) (base := base) F_Rule_eq ⟨a_Rule_eq, i_Rule_eq, k_Rule_eq⟩ b_Rule_eq T RT g_Rule kon_tuple_rule c_Rule_str
  have c_is_sequence := cal_is_sequence (P := l.prog) (w := w) (base := base) F_is_sequence b_is_sequence T
  have c_is_bit := cal_is_bit (P := l.prog) (w := w) (base := base) F_is_bit b_is_bit T c_is_word
  have c_is_stuff := cal_is_stuff (P := l.prog) (w := w) (base := base) F_is_stuff b_is_stuff T c_is_word c_is_bit
  have c_are_stuffs := cal_are_stuffs (P := l.prog) (w := w) (base := base) F_are_stuffs b_are_stuffs T c_is_sequence c_is_stuff
  have c_tail := cal_tail (P := l.prog) (w := w) (base := base) F_tail b_tail T
  have c_put_in := met_put_in (P := l.prog) (w := w) (base := base) F_Rule_put_in ⟨a_Rule_put_in, i_Rule_put_in, k_Rule_put_in⟩ b_Rule_put_in T RT c_put p_longest c_tail
  have c_is_endless := met_is_endless (P := l.prog) (w := w) (base := base) F_Rule_is_endless ⟨a_Rule_is_endless, i_Rule_is_endless, k_Rule_is_endless⟩ b_Rule_is_endless T RT g_BITS c_put_in p_longest c_tail
  have M_Rule : Mk K C_Rule f_Rule_init := ⟨mk_Rule, a_Rule_init, i_Rule_init, kc_Rule⟩
  have i_ok_Rule := ok_Rule_init (P := l.prog) (w := w) (base := base) F_Rule_init T RT c_is_word c_are_stuffs c_is_endless
  have m_Rule2 : Mak l.prog w K mg base 5 "Rule" C_Rule (spRuInit K C_Rule) [] := ⟨_, _, _, _, M_Rule, i_ok_Rule, PySem.W.mg_of X G aC_Rule, bd1_Rule_init, vd1_Rule_init⟩
  exact ok_law F_law T RT IS_Rule NE_Rule kon_rule_str kon_rule_tuple kon_nf_rule_tuple c_l_seed c_l_choose c_l_one_of c_l_deep c_l_any c_clean_paper c_clean_paper_holds c_clean_paper_holdsX c_Rule_eqT m_Rule2
theorem walk {l : PySem.W.OpenLaw} {q : Program} {loose : List Str} {XP : (Str → Option Value) → Heap → Prop} {YP : World → Heap → Prop} {d : DefRec} {K : Params → PySem.W.Frag} (hn : l.most = some 63) (hdf : d.params.defaults = [])
    (hY : ∀ (w : World) (h : Heap), YP w h → (K w.params).In h)
    (F : ∀ (w : World) (mg : Str → Option Value) (fa : Addr) (h : Heap), (K w.params).In h → h.Ns mainGlobals mg → mg d.name = some (.ref fa) →
      ∃ fd : FuncData, (∀ (s : Shared) (u : Value), BindsTo s fd ⟨[u], []⟩ [("_law_script", u)]) ∧ ∀ base : Heap, (K w.params).In base → base.Ns mainGlobals mg → FnOk l.prog w (K w.params) mg base CX0 14 fa fd ["_law_script"] (spLaw (K w.params))) :
    PySem.W.WalkO q loose XP YP l.row.toRowW d [] (fun f vs => PySem.call f vs) :=
  L2.walk_of (n := 63) (k := 14) (x := "_law_script") (CX := fun _ => CX0) (sp := fun w => spLaw (K w.params)) hn (by decide) hdf ⟨rfl, by decide, by decide⟩ hY F (fun _ _ a ns hl _ hS => ⟨a, ns, rfl, hS, hl, fun _ => rfl⟩) fun _ _ _ _ _ z => z
end U

set_option pp.maxSteps 300
open PySem PySem.W PyProof.Rows
set_option maxRecDepth 100000 in
set_option maxHeartbeats 0 in
theorem PySem.Challenge.cw_unseenflips_k29_any_values_as_papers_holds : PySem.Challenge.rw_unseenflips_k29_any_values_as_papers.Holds := by
  w_on; o_law; k_head; (case hw => w_witness2)
  k_fill
  refine U.walk (l := PySem.Challenge.rw_unseenflips_k29_any_values_as_papers) rfl rfl (fun w h Y => PySem.W.kIn_of Y) ?F
  case F =>
    intro w mg fa h KX G hmg
    refine' U.all_mk KX G hmg ?a_is_sequence ?l_is_sequence ?c_is_sequence ?k_is_sequence ?a_is_word ?l_is_word ?c_is_word ?k_is_word ?a_is_bit ?l_is_bit ?c_is_bit ?k_is_bit ?a_tail ?l_tail ?c_tail ?k_tail ?a_width ?l_width ?c_width ?k_width ?a_last_bits ?l_last_bits ?c_last_bits ?k_last_bits ?a_is_border_clean ?l_is_border_clean ?c_is_border_clean ?k_is_border_clean ?a_grown ?l_grown ?c_grown ?k_grown ?a_is_right_step ?l_is_right_step ?c_is_right_step ?k_is_right_step ?a_walk ?l_walk ?c_walk ?k_walk ?a_clean_paper ?l_clean_paper ?c_clean_paper ?k_clean_paper ?a_clean_paper_holds ?l_clean_paper_holds ?c_clean_paper_holds ?k_clean_paper_holds ?a_is_stuff ?l_is_stuff ?c_is_stuff ?k_is_stuff ?a_are_stuffs ?l_are_stuffs ?c_are_stuffs ?k_are_stuffs ?a_l_seed ?l_l_seed ?c_l_seed ?k_l_seed ?a_l_choose ?l_l_choose ?c_l_choose ?k_l_choose ?a_l_one_of ?l_l_one_of ?c_l_one_of ?k_l_one_of ?a_l_deep ?l_l_deep ?c_l_deep ?k_l_deep ?a_l_leaf ?l_l_leaf ?c_l_leaf ?k_l_leaf ?a_l_any ?l_l_any ?c_l_any ?k_l_any ?a_law ?l_law ?c_law ?k_law ?aC_Rule ?pg_Rule ?hd_Rule ?po_Rule ?sa_Rule ?mk_Rule ?kc_Rule ?n_Rule_flag ?n_Rule_stuffs ?a_Rule_put ?i_Rule_put ?l_Rule_put ?c_Rule_put ?k_Rule_put ?a_Rule_longest ?g_Rule_longest ?t_Rule_longest ?r_Rule_longest ?l_Rule_longest ?c_Rule_longest ?a_Rule_str ?i_Rule_str ?l_Rule_str ?c_Rule_str ?k_Rule_str ?a_Rule_eq ?i_Rule_eq ?l_Rule_eq ?c_Rule_eq ?k_Rule_eq ?a_Rule_put_in ?i_Rule_put_in ?l_Rule_put_in ?c_Rule_put_in ?k_Rule_put_in ?a_Rule_is_endless ?i_Rule_is_endless ?l_Rule_is_endless ?c_Rule_is_endless ?k_Rule_is_endless ?a_Rule_init ?i_Rule_init ?l_Rule_init ?c_Rule_init ?k_Rule_init ?dl_Rule_init ?dlE_Rule ?mro_Rule ?cls_Rule ?clg_X ?clt_X ?neq_Rule ?kon_rs ?kon_rt ?kon_nfr ?gBITS ?kon_tr ?z_len ?z_abs ?z_int ?z_range ?z_max ?z_min ?z_enumerate ?z_zip ?z_dict ?z_list ?z_tuple ?z_isinstance ?z_bool ?z_str ?z_all ?z_any ?z_sum ?z_sorted ?z_repr
    (case a_is_sequence => k_is)
    (case l_is_sequence => k_is)
    (case c_is_sequence => k_is)
    (case k_is_sequence => k_is)
    (case a_is_word => k_is)
    (case l_is_word => k_is)
    (case c_is_word => k_is)
    (case k_is_word => k_is)
    (case a_is_bit => k_is)
    (case l_is_bit => k_is)
    (case c_is_bit => k_is)
    (case k_is_bit => k_is)
    (case a_tail => k_is)
    (case l_tail => k_is)
    (case c_tail => k_is)
    (case k_tail => k_is)
    (case a_width => k_is)
    (case l_width => k_is)
    (case c_width => k_is)
    (case k_width => k_is)
    (case a_last_bits => k_is)
    (case l_last_bits => k_is)
    (case c_last_bits => k_is)
    (case k_last_bits => k_is)
    (case a_is_border_clean => k_is)
    (case l_is_border_clean => k_is)
    (case c_is_border_clean => k_is)
    (case k_is_border_clean => k_is)
    (case a_grown => k_is)
    (case l_grown => k_is)
    (case c_grown => k_is)
    (case k_grown => k_is)
    (case a_is_right_step => k_is)
    (case l_is_right_step => k_is)
    (case c_is_right_step => k_is)
    (case k_is_right_step => k_is)
    (case a_walk => k_is)
    (case l_walk => k_is)
    (case c_walk => k_is)
    (case k_walk => k_is)
    (case a_clean_paper => k_is)
    (case l_clean_paper => k_is)
    (case c_clean_paper => k_is)
    (case k_clean_paper => k_is)
    (case a_clean_paper_holds => k_is)
    (case l_clean_paper_holds => k_is)
    (case c_clean_paper_holds => k_is)
    (case k_clean_paper_holds => k_is)
    (case a_is_stuff => k_is)
    (case l_is_stuff => k_is)
    (case c_is_stuff => k_is)
    (case k_is_stuff => k_is)
    (case a_are_stuffs => k_is)
    (case l_are_stuffs => k_is)
    (case c_are_stuffs => k_is)
    (case k_are_stuffs => k_is)
    (case a_l_seed => k_is)
    (case l_l_seed => k_is)
    (case c_l_seed => k_is)
    (case k_l_seed => k_is)
    (case a_l_choose => k_is)
    (case l_l_choose => k_is)
    (case c_l_choose => k_is)
    (case k_l_choose => k_is)
    (case a_l_one_of => k_is)
    (case l_l_one_of => k_is)
    (case c_l_one_of => k_is)
    (case k_l_one_of => k_is)
    (case a_l_deep => k_is)
    (case l_l_deep => k_is)
    (case c_l_deep => k_is)
    (case k_l_deep => k_is)
    (case a_l_leaf => k_is)
    (case l_l_leaf => k_is)
    (case c_l_leaf => k_is)
    (case k_l_leaf => k_is)
    (case a_l_any => k_is)
    (case l_l_any => k_is)
    (case c_l_any => k_is)
    (case k_l_any => k_is)
    (case a_law => k_is)
    (case l_law => k_is)
    (case c_law => k_is)
    (case k_law => k_is)
    (case aC_Rule => k_is)
    (case pg_Rule => k_is)
    (case hd_Rule => k_is)
    (case po_Rule => k_is)
    (case sa_Rule => k_is)
    (case mk_Rule => k_is)
    (case kc_Rule => k_is)
    (case n_Rule_flag => k_is)
    (case n_Rule_stuffs => k_is)
    (case a_Rule_put => k_is)
    (case i_Rule_put => k_is)
    (case l_Rule_put => k_is)
    (case c_Rule_put => k_is)
    (case k_Rule_put => k_is)
    (case a_Rule_longest => k_is)
    (case g_Rule_longest => k_is)
    (case t_Rule_longest => k_is)
    (case r_Rule_longest => k_is)
    (case l_Rule_longest => k_is)
    (case c_Rule_longest => k_is)
    (case a_Rule_str => k_is)
    (case i_Rule_str => k_is)
    (case l_Rule_str => k_is)
    (case c_Rule_str => k_is)
    (case k_Rule_str => k_is)
    (case a_Rule_eq => k_is)
    (case i_Rule_eq => k_is)
    (case l_Rule_eq => k_is)
    (case c_Rule_eq => k_is)
    (case k_Rule_eq => k_is)
    (case a_Rule_put_in => k_is)
    (case i_Rule_put_in => k_is)
    (case l_Rule_put_in => k_is)
    (case c_Rule_put_in => k_is)
    (case k_Rule_put_in => k_is)
    (case a_Rule_is_endless => k_is)
    (case i_Rule_is_endless => k_is)
    (case l_Rule_is_endless => k_is)
    (case c_Rule_is_endless => k_is)
    (case k_Rule_is_endless => k_is)
    (case a_Rule_init => k_is)
    (case i_Rule_init => k_is)
    (case l_Rule_init => k_is)
    (case c_Rule_init => k_is)
    (case k_Rule_init => k_is)
    (case dl_Rule_init => k_is)
    (case dlE_Rule => k_is)
    (case mro_Rule => k_is)
    (case cls_Rule => k_is)
    (case clg_X => k_is)
    (case clt_X => k_is)
    (case neq_Rule => k_is)
    (case kon_rs => kernel_rfl)
    (case kon_rt => kernel_rfl)
    (case kon_nfr => kernel_rfl)
    (case gBITS => k_is)
    (case kon_tr => kernel_rfl)
    (case z_len => k_is)
    (case z_abs => k_is)
    (case z_int => k_is)
    (case z_range => k_is)
    (case z_max => k_is)
    (case z_min => k_is)
    (case z_enumerate => k_is)
    (case z_zip => k_is)
    (case z_dict => k_is)
    (case z_list => k_is)
    (case z_tuple => k_is)
    (case z_isinstance => k_is)
    (case z_bool => k_is)
    (case z_str => k_is)
    (case z_all => k_is)
    (case z_any => k_is)
    (case z_sum => k_is)
    (case z_sorted => k_is)
    (case z_repr => k_is)
#print axioms PySem.Challenge.cw_unseenflips_k29_any_values_as_papers_holds
