import PyProof.Rows.All
import Wide.All
import OpenK.AllK
import Wide.FinOn
import HandS.ForMost
import HandS.Codes
import HandS.FStr
import HandS.IsInst
import HandS.Star
import HandS.TupAny
import HandS.Style
import HandS.Walk
import KE.GoesEnum
import KE.GoesNew
import HandS.Property
import HandS.Defaults
import HandS.ClsMeth
import HandS.MakeKw
import KE.GoesZip
import HandS.SortOrd
import HandS.SortRule
import HandS.OwnEq
import HandS.CallLocal
import KE.KCallOwn
import PyProof.ReprRoads
import HandS.Replace
import PyProof.ReprLen
import HandS.ExcInit
import HandS.Nested
import HandS.TryOnly
import KE.KExcSuper
import HandS.ExcOwn
import HandS.ExcIs
import HandS.List
import PySem.Challenge.RW_unseenflips_k77_whole_live_receivers_and
set_option Elab.async false
set_option linter.all false
set_option maxRecDepth 100000
set_option maxHeartbeats 4000000
namespace Lx
open PySem PySem.Spec PyProof.Rows L2

/-! enumerate over a text -/
def ItES (x : Str) : It := ⟨fun i _ => i < x.cps.size, fun i H v H' => ∃ T c, v = .ref T ∧ H T = none ∧ H' = upd H T (.tup [.int (i : Nat), .str ⟨#[c]⟩]) ∧ x.cps[i]? = some c, fun i _ => x.cps.size ≤ i⟩
theorem turn_enumS {P : Program} {w : World} {K : PySem.W.Frag} {elts : List Expr} {kk : Nat} {tpos : Pos} (x : Str) (t : Tok) (e it : Addr) :
    Turn P w K (.Tuple elts kk tpos) (ItES x) [e, it] e (fun i h => (∃ old, IsEnum h e it ((i : Nat) : Int) old) ∧ h.IsStrIter it (strIterType x) x t i ∧ e ≠ it ∧ i ≤ x.cps.size) where
  mem := by simp
  obj := fun i h st b hb => by
    obtain ⟨⟨old, he⟩, ⟨o, ho, hc, hd⟩, _⟩ := st
    have e' : b = e ∨ b = it := by simpa using hb
    rcases e' with z | z
    · rw [z]; exact ⟨_, he, fun v q => nomatch q⟩
    · rw [z]; exact ⟨o, ho, fun v q => by rw [hd] at q; cases q⟩
  keep := fun i h h' st k => by
    obtain ⟨⟨old, he⟩, ⟨o, ho, r⟩, hne⟩ := st
    exact ⟨⟨old, k e (by simp) _ he⟩, ⟨o, k it (by simp) o ho, r⟩, hne⟩
  item := by
    intro X hP hw hK hc i pins s σ H E I hf st hg
    subst hP hw hK
    obtain ⟨⟨old, he⟩, hit, hne, _⟩ := st
    have hlt : i < x.cps.size := hg
    have hel : e < s.heap.objs.size := Heap.lt_size he
    have hil : it < s.heap.objs.size := by obtain ⟨_, q, _⟩ := hit; exact Heap.lt_size q
    have hh : X.A.in1.handled = none := I.ok.hd hc
    refine wpAny_pyNext_enum_itemC (Draws.text hh it x t) he hit hlt hne (by simpa using hne) fun v h' tk hP ho hit' hT hsz hk => ?_
    obtain ⟨c, u, hcx, rfl⟩ := hP
    refine ⟨_, rfl, wpAny_letOwnedTupleGo_enum (s := { s with heap := h', toks := tk + 1 }) ho fun h'' he' sb => ?_⟩
    have hT2 : h''.get? s.heap.objs.size = some { cls := .type "tuple", data := .seq #[.int i tk, .str ⟨#[c]⟩ u] } := (sb.2 _ (Nat.ne_of_gt hel)).trans hT
    have new : ObjOk X.prog X.w (upd H s.heap.objs.size (.tup [.int (i : Nat), .str ⟨#[c]⟩])) h'' s.heap.objs.size (.tup [.int (i : Nat), .str ⟨#[c]⟩]) :=
      ⟨by show 2 ≤ sizeLine; decide, [.int i tk, .str ⟨#[c]⟩ u], .cons ⟨_, rfl⟩ (.cons ⟨_, rfl⟩ .nil), ⟨_, hT2, rfl, _, rfl⟩⟩
    have I1 : Inv X pins σ (upd H s.heap.objs.size (.tup [.int (i : Nat), .str ⟨#[c]⟩])) { s with heap := h'', toks := tk + 1 } :=
      I.turnedNew (ch := [e, it]) (fun b ob hb q => (sb.2 b (fun z => hb (by simp [z]))).trans (hk b ob (fun z => hb (by simp [z])) (fun z => hb (by simp [z])) q)) hf (Nat.le_refl _) new
    refine ⟨.ref s.heap.objs.size, _, I1, rfl, ⟨_, c, rfl, I.hok.fresh (Nat.le_refl _), rfl, hcx⟩, ⟨⟨.str ⟨#[c]⟩ u, ?_⟩, ?_, hne, hlt⟩, fun b hb => ?_⟩
    · have e1 : ((i + 1 : Nat) : Int) = (i : Int) + 1 := by omega
      rw [e1]; exact he'
    · obtain ⟨o, ho', r⟩ := hit'
      exact ⟨o, (sb.2 it (Ne.symm hne)).trans ho', r⟩
    · have hb' : b < s.heap.objs.size := by
        have e' : b = e ∨ b = it := by simpa using hb
        rcases e' with z | z
        · rw [z]; exact hel
        · rw [z]; exact hil
      rw [upd_ne (Nat.ne_of_lt hb')]
      exact (hf b hb).1
  done := by
    intro X hP hw hK hc i pins s σ H E I hf st hg
    subst hP hw hK
    obtain ⟨⟨old, he⟩, hit, hne, hle⟩ := st
    have hge : x.cps.size ≤ i := hg
    have hi : i = x.cps.size := Nat.le_antisymm hle hge
    subst hi
    have hh : X.A.in1.handled = none := I.ok.hd hc
    obtain ⟨f0, f1, f2, f3, f4, f5⟩ := hf it (by simp)
    exact wpAny_pyNext_enum_endD (Draws.text hh it x t) he hit fun h' eb => ⟨rfl, I.turned (t' := s.toks) (fun b o hb q => eb b o hb q) f0 f1 f3 f4 f5⟩
  self := fun A i s Q E st h => let ⟨⟨_, he⟩, _⟩ := st; wpAny_pyIter_enum he h
def iEnumS (ta : TA) : TI := fun σ H R => ta σ H fun vs H1 => ∃ x, vs = [.str x] ∧ R (ItES x) H1
theorem pi_enumS {X : Cx} {e : Expr} {ta : TA} {p pos tpos : Pos} {elts : List Expr} {kk : Nat} (hg : Gl X "enumerate") (hm : X.mg "enumerate" = none) (ha : PA X [e] ta) (hs : starEach [e] X.env = [(false, eval e X.env)] := by rfl) :
    PI X (.Tuple elts kk tpos) (.Call (.Name "enumerate" p) [e] [] pos) (iEnumS ta) := by
  refine ⟨fun pins s σ H R I h => ?_⟩
  refine Call_ (ld_blt I hg hm boot_enumerate (PyProof.Rows.callWith_type1 (thn (ha.run pos pins s σ H _ I h) fun us s1 ⟨vs, H1, I1, r1, q1⟩ => ?_) hs rfl))
  obtain ⟨x, ex, q⟩ := q1
  subst ex
  cases r1 with
  | cons r rr =>
    cases rr
    obtain ⟨t, rfl⟩ := r
    refine call_enumerate_str fun h' he hit hsz hk => wpAny_pyIter_enum he ?_
    have I2 : Inv X pins σ H1 { s1 with heap := h' } := I1.kept (t' := s1.toks) hk
    refine ⟨s1.heap.objs.size + 1, [s1.heap.objs.size + 1, s1.heap.objs.size], _, _, H1, rfl, I2, turn_enumS x t (s1.heap.objs.size + 1) s1.heap.objs.size, ⟨⟨.none, he⟩, hit, Nat.succ_ne_self _, Nat.zero_le _⟩, fun b hb => ?_, q⟩
    have e' : b = s1.heap.objs.size + 1 ∨ b = s1.heap.objs.size := by simpa using hb
    have hle : s1.heap.objs.size ≤ b := by
      rcases e' with z | z
      · rw [z]; exact Nat.le_add_right _ _
      · rw [z]; exact Nat.le_refl _
    exact I1.fpOk hle (I1.hok.fresh hle)

/-! enumerate over a tuple -/
def ItET (K : PySem.W.Frag) (a : Addr) : It :=
  ⟨fun i H => ∃ (xs : List V) (x : V), SqT K H a xs ∧ xs[i]? = some x, fun i H v H' => ∃ T x, v = .ref T ∧ H T = none ∧ H' = upd H T (.tup [.int (i : Nat), x]) ∧ ∀ xs, SqT K H a xs → xs[i]? = some x, fun i H => ∃ xs : List V, SqT K H a xs ∧ xs.length ≤ i⟩
theorem meets_enumerate_newT (l : Addr) (items : Array Value) (n : Nat) (dct : Option Addr) (sl : Array (Option Value)) :
    Meets (Builtin.«enumerate.__new__» ⟨[.type "enumerate", .ref l], []⟩) (fun _ R s => s.heap.get? l = some { cls := .type "tuple", dict := dct, data := .seq items n, slots := sl } ∧
      R (.ok (.ret (.ref (s.heap.push { cls := .type "tuple_iterator", data := .fields #[.ref l, .int 0 0] }).objs.size)))
        { s with heap := (s.heap.push { cls := .type "tuple_iterator", data := .fields #[.ref l, .int 0 0] }).push { cls := .type "enumerate", data := .fields #[.none, .bool false, .ref s.heap.objs.size, rawInt 0, .none, .none] } }) :=
  .of_wp fun prog w A R s h => by
    obtain ⟨hp, g, d, tk, os⟩ := s; obtain ⟨hl, h⟩ := h
    have hsub := sub_enumerate
    have hL : Heap.IsTuple (Shared.heap ⟨hp, g, d, tk, os⟩) l items := ⟨_, hl, rfl, n, rfl⟩
    wp_walk using AutoSeq1.wpAny_loadPart' hl
    refine wpAny_stack_any fun st => wpAny_pure ?_
    split
    · rename_i c _ _ _ _ _
      cases (c == Value.type "enumerate")
      · wp_walk using AutoSeq1.wpAny_loadPart' hl, wpAny_pyIter_tuple hL
        exact ⟨_, rfl, h⟩
      · wp_walk using AutoSeq1.wpAny_loadPart' hl, wpAny_pyIter_tuple hL
        exact ⟨_, rfl, h⟩
    · wp_walk using AutoSeq1.wpAny_loadPart' hl, wpAny_pyIter_tuple hL
      exact ⟨_, rfl, h⟩
theorem call_enumerate_tup {prog : Program} {w : World} {A : Around} {E : Value → Shared → Prop} {s : Shared} {l : Addr} {items : Array Value} {Q : Value → Shared → Prop} (hL : s.heap.IsTuple l items)
    (h : ∀ h', IsEnum h' (s.heap.objs.size + 1) s.heap.objs.size 0 .none → h'.IsTupleIter s.heap.objs.size l 0 → h'.objs.size = s.heap.objs.size + 2 →
      (∀ b o, s.heap.get? b = some o → h'.get? b = some o) → Q (.ref (s.heap.objs.size + 1)) { s with heap := h' }) :
    wpAny (model prog w) A (call (.type "enumerate") [.ref l]) Q E s := by
  obtain ⟨⟨c, dct, dt, sl⟩, hl, hc, n, hd⟩ := hL
  replace hc : c = .type "tuple" := hc
  replace hd : dt = .seq items n := hd
  subst hc hd
  refine callType_new F.called_enumerate (by decide) (F.typeCall_enumerate_1 _) (F.newCall_enumerate_1 _) (fun obj => F.args_object_init_2 obj _) F.entry_enumerate_new
    (meets_enumerate_newT l items n dct sl) ⟨hl, ?_⟩
  have hz : (s.heap.push { cls := .type "tuple_iterator", data := .fields #[.ref l, .int 0 0] }).objs.size = s.heap.objs.size + 1 := Heap.size_push ..
  show _ ∧ _
  rw [hz]
  have he : IsEnum ((s.heap.push { cls := .type "tuple_iterator", data := .fields #[.ref l, .int 0 0] }).push
      { cls := .type "enumerate", data := .fields #[.none, .bool false, .ref s.heap.objs.size, rawInt 0, .none, .none] }) (s.heap.objs.size + 1) s.heap.objs.size 0 .none := by
    have := Heap.get?_push_size (s.heap.push { cls := .type "tuple_iterator", data := .fields #[.ref l, .int 0 0] })
      (o := { cls := .type "enumerate", data := .fields #[.none, .bool false, .ref s.heap.objs.size, rawInt 0, .none, .none] }) rfl
    rw [hz] at this; exact this
  refine ⟨⟨_, he, rfl⟩, h _ he ⟨_, Heap.get?_push_of_some _ (Heap.get?_push_size _ rfl), rfl, rfl⟩ (by rw [Heap.size_push, hz]) fun b o x => Heap.get?_push_of_some _ (Heap.get?_push_of_some _ x)⟩
theorem turn_enumT {P : Program} {w : World} {K : PySem.W.Frag} {elts : List Expr} {kk : Nat} {tpos : Pos} (a e it : Addr) :
    Turn P w K (.Tuple elts kk tpos) (ItET K a) [e, it] e (fun i h => (∃ old, IsEnum h e it ((i : Nat) : Int) old) ∧ h.IsTupleIter it a i ∧ e ≠ it ∧ a ≠ it ∧ a ≠ e) where
  mem := by simp
  obj := fun i h st b hb => by
    obtain ⟨⟨old, he⟩, ⟨o, ho, hc, hd⟩, _⟩ := st
    have e' : b = e ∨ b = it := by simpa using hb
    rcases e' with z | z
    · rw [z]; exact ⟨_, he, fun v q => nomatch q⟩
    · rw [z]; exact ⟨o, ho, fun v q => by rw [hd] at q; cases q⟩
  keep := fun i h h' st k => by
    obtain ⟨⟨old, he⟩, ⟨o, ho, r⟩, hne⟩ := st
    exact ⟨⟨old, k e (by simp) _ he⟩, ⟨o, k it (by simp) o ho, r⟩, hne⟩
  item := by
    intro X hP hw hK hc i pins s σ H E I hf st hg
    subst hP hw hK
    obtain ⟨⟨old, he⟩, hit, hne, hai, hae⟩ := st
    obtain ⟨xs, x, hq, hx⟩ := hg
    obtain ⟨its, rv, p, hz⟩ := I.tuple hq
    obtain ⟨u, hu, ru⟩ := rv.get hx
    have hel : e < s.heap.objs.size := Heap.lt_size he
    have hil : it < s.heap.objs.size := by obtain ⟨_, q, _⟩ := hit; exact Heap.lt_size q
    have hh : X.A.in1.handled = none := I.ok.hd hc
    have pT : s.heap.IsTuple a its.toArray := p
    have hlt : i < its.toArray.size := by
      have := (List.getElem?_eq_some_iff.mp hu).1
      simpa using this
    refine wpAny_pyNext_enum_itemC (Draws.tuple hh it a hai its.toArray) he ⟨hit, pT⟩ hlt hne (by simp [hne, Ne.symm hae]) fun v h' tk hP ho hit' hT hsz hk => ?_
    have ev : v = u := by
      have hP' : its.toArray[i]? = some v := hP
      rw [List.getElem?_toArray, hu] at hP'
      exact (Option.some.inj hP').symm
    subst ev
    refine ⟨_, rfl, wpAny_letOwnedTupleGo_enum (s := { s with heap := h', toks := tk + 1 }) ho fun h'' he' sb => ?_⟩
    have hT2 : h''.get? s.heap.objs.size = some { cls := .type "tuple", data := .seq #[.int i tk, v] } := (sb.2 _ (Nat.ne_of_gt hel)).trans hT
    have new : ObjOk X.prog X.w (upd H s.heap.objs.size (.tup [.int (i : Nat), x])) h'' s.heap.objs.size (.tup [.int (i : Nat), x]) :=
      ⟨by show 2 ≤ sizeLine; decide, [.int i tk, v], .cons ⟨_, rfl⟩ (.cons ru .nil), ⟨_, hT2, rfl, _, rfl⟩⟩
    have I1 : Inv X pins σ (upd H s.heap.objs.size (.tup [.int (i : Nat), x])) { s with heap := h'', toks := tk + 1 } :=
      I.turnedNew (ch := [e, it]) (fun b ob hb q => (sb.2 b (fun z => hb (by simp [z]))).trans (hk b ob (fun z => hb (by simp [z])) (fun z => hb (by simp [z])) q)) hf (Nat.le_refl _) new
    refine ⟨.ref s.heap.objs.size, _, I1, rfl, ⟨_, x, rfl, I.hok.fresh (Nat.le_refl _), rfl, fun ys hy => by rw [I.tuple_inj hy hq]; exact hx⟩, ⟨⟨v, ?_⟩, ?_, hne, hai, hae⟩, fun b hb => ?_⟩
    · have e1 : ((i + 1 : Nat) : Int) = (i : Int) + 1 := by omega
      rw [e1]; exact he'
    · obtain ⟨⟨o, ho', r⟩, _⟩ := hit'
      exact ⟨o, (sb.2 it (Ne.symm hne)).trans ho', r⟩
    · have hb' : b < s.heap.objs.size := by
        have e' : b = e ∨ b = it := by simpa using hb
        rcases e' with z | z
        · rw [z]; exact hel
        · rw [z]; exact hil
      rw [upd_ne (Nat.ne_of_lt hb')]
      exact (hf b hb).1
  done := by
    intro X hP hw hK hc i pins s σ H E I hf st hg
    subst hP hw hK
    obtain ⟨⟨old, he⟩, hit, hne, hai, hae⟩ := st
    obtain ⟨xs, hq, hx⟩ := hg
    obtain ⟨its, rv, p, hz⟩ := I.tuple hq
    have hl := rv.length
    have pT : s.heap.IsTuple a its.toArray := p
    have hh : X.A.in1.handled = none := I.ok.hd hc
    obtain ⟨f0, f1, f2, f3, f4, f5⟩ := hf it (by simp)
    have D : Draws X.prog X.w X.A.in1 it [it, a] i (fun _ _ => True) (fun j h => j = i ∧ h.IsTupleIter it a i ∧ h.IsTuple a its.toArray) :=
      { live := fun _ _ st => let ⟨o, ho, _⟩ := st.2.1; ⟨o, ho⟩
        frame := fun _ _ _ st hk => ⟨st.1, st.2.1.at fun o e => hk it (by simp) o e, st.2.2.at fun o e => hk a (by simp) o e⟩
        item := fun j s Q E hj st hQ => absurd st.1 (Nat.ne_of_lt hj)
        done := fun s Q E st hE => wpAny_nextOf_tuple_end hh st.2.1 st.2.2 (by simp; omega) hE }
    exact wpAny_pyNext_enum_endD D he ⟨rfl, hit, pT⟩ fun h' eb => ⟨rfl, I.turned (t' := s.toks) (fun b o hb q => eb b o hb q) f0 f1 f3 f4 f5⟩
  self := fun A i s Q E st h => let ⟨⟨_, he⟩, _⟩ := st; wpAny_pyIter_enum he h
def iEnumT (K : PySem.W.Frag) (ta : TA) : TI := fun σ H R => ta σ H fun vs H1 => ∃ a xs, vs = [.ref a] ∧ SqT K H1 a xs ∧ R (ItET K a) H1
theorem pi_enumT {X : Cx} {e : Expr} {ta : TA} {p pos tpos : Pos} {elts : List Expr} {kk : Nat} (hg : Gl X "enumerate") (hm : X.mg "enumerate" = none) (ha : PA X [e] ta) (hs : starEach [e] X.env = [(false, eval e X.env)] := by rfl) :
    PI X (.Tuple elts kk tpos) (.Call (.Name "enumerate" p) [e] [] pos) (iEnumT X.K ta) := by
  refine ⟨fun pins s σ H R I h => ?_⟩
  refine Call_ (ld_blt I hg hm boot_enumerate (PyProof.Rows.callWith_type1 (thn (ha.run pos pins s σ H _ I h) fun us s1 ⟨vs, H1, I1, r1, q1⟩ => ?_) hs rfl))
  obtain ⟨a, xs, ex, hq, q⟩ := q1
  subst ex
  cases r1 with
  | cons r rr =>
    cases rr
    cases r
    obtain ⟨its, rv, p', hz⟩ := I1.tuple hq
    have pT : s1.heap.IsTuple a its.toArray := p'
    have hlt : a < s1.heap.objs.size := by obtain ⟨o, ho, _⟩ := pT; exact Heap.lt_size ho
    refine call_enumerate_tup pT fun h' he hit hsz hk => wpAny_pyIter_enum he ?_
    have I2 : Inv X pins σ H1 { s1 with heap := h' } := I1.kept (t' := s1.toks) hk
    refine ⟨s1.heap.objs.size + 1, [s1.heap.objs.size + 1, s1.heap.objs.size], _, _, H1, rfl, I2, turn_enumT a (s1.heap.objs.size + 1) s1.heap.objs.size, ⟨⟨.none, he⟩, hit, Nat.succ_ne_self _, Nat.ne_of_lt hlt, Nat.ne_of_lt (Nat.lt_succ_of_lt hlt)⟩, fun b hb => ?_, q⟩
    have e' : b = s1.heap.objs.size + 1 ∨ b = s1.heap.objs.size := by simpa using hb
    have hle : s1.heap.objs.size ≤ b := by
      rcases e' with z | z
      · rw [z]; exact Nat.le_add_right _ _
      · rw [z]; exact Nat.le_refl _
    exact I1.fpOk hle (I1.hok.fresh hle)
/-- a list or a tuple, enumerated -/
def iEnumQ (K : PySem.W.Frag) (ta : TA) : TI := fun σ H R => iEnum K ta σ H R ∨ iEnumT K ta σ H R
theorem pi_enumQ {X : Cx} {e : Expr} {ta : TA} {p pos tpos : Pos} {elts : List Expr} {kk : Nat} (hg : Gl X "enumerate") (hm : X.mg "enumerate" = none) (ha : PA X [e] ta) (hs : starEach [e] X.env = [(false, eval e X.env)] := by rfl) :
    PI X (.Tuple elts kk tpos) (.Call (.Name "enumerate" p) [e] [] pos) (iEnumQ X.K ta) := by
  refine ⟨fun pins s σ H R I h => ?_⟩
  rcases h with h | h
  · exact (pi_enum hg hm ha hs).run pins s σ H R I h
  · exact (pi_enumT hg hm ha hs).run pins s σ H R I h
theorem walk_enumT {K : PySem.W.Frag} {a : Addr} {xs : List V} : Walk (ItET K a) xs.length (fun H => SqT K H a xs) (YPair (fun i => some (.int (i : Nat))) (fun i => xs[i]?)) := by
  refine ⟨fun i _ hi q => ⟨xs, xs[i], q, by simp [hi]⟩, fun _ q => ⟨xs, q, Nat.le_refl _⟩, fun i H v H' _ q y => ?_⟩
  obtain ⟨T, x, h1, h2, h3, h4⟩ := y
  exact ⟨T, .int (i : Nat), x, h1, h2, h3, rfl, h4 xs q⟩
theorem walk_enumS {x : Str} : Walk (ItES x) x.cps.size (fun _ => True) (fun i H v H' => ∃ T c, v = .ref T ∧ H T = none ∧ H' = upd H T (.tup [.int (i : Nat), .str ⟨#[c]⟩]) ∧ x.cps[i]? = some c) :=
  ⟨fun _ _ hi _ => hi, fun _ _ => Nat.le_refl _, fun _ _ _ _ _ _ y => y⟩
end Lx

set_option maxRecDepth 100000
set_option maxHeartbeats 4000000
namespace Lx
open PySem PySem.Spec PyProof.Rows L2
/-- n turns, each a new tuple whose items are as f says -/
def ItTup (n : Nat) (f : Nat → List V → Prop) : It :=
  ⟨fun i _ => i < n, fun i H v H' => ∃ T xs, v = .ref T ∧ H T = none ∧ H' = upd H T (.tup xs) ∧ f i xs, fun i _ => n ≤ i⟩
theorem turn_tuples {P : Program} {w : World} {K : PySem.W.Frag} {elts : List Expr} {kk : Nat} {tpos : Pos} {it : Addr} {fp wr : List Addr} {n : Nat} {Pt : Nat → Array Value → Prop} {St : Nat → Heap → Prop} {Mid : Nat → Addr → Heap → Prop} {f : Nat → List V → Prop}
    (Wk : ∀ A : Around, A.in1.handled = none → WalksT P w A it fp wr n Pt St Mid) (hrel : ∀ i vals, Pt i vals → ∃ xs, Vals xs vals.toList ∧ f i xs ∧ xs.length ≤ 8)
    (hobj : ∀ i h, St i h → ∀ b ∈ fp, ∃ o, h.get? b = some o ∧ ∀ v, o.data ≠ .cell v) (hmem : it ∈ fp)
    (hself : ∀ (A : Around) (i : Nat) (s : Shared) (Q : Value → Shared → Prop) (E : Value → Shared → Prop), St i s.heap → Q (.ref it) s → wpAny (model P w) A (pyIter (.ref it)) Q E s) :
    Turn P w K (.Tuple elts kk tpos) (ItTup n f) fp it (fun i h => St i h ∧ i ≤ n) where
  mem := hmem
  obj := fun i h st => hobj i h st.1
  keep := fun i h h' st k => ⟨(Wk {} rfl).frame i h h' st.1 k, st.2⟩
  item := by
    intro X hP hw hK hc i pins s σ H E I hf st hg
    subst hP hw hK
    have hh : X.A.in1.handled = none := I.ok.hd hc
    have hlt : i < n := hg
    refine (GoesN.ofWalksT (elts := elts) (k := kk) (pos := tpos) (Wk X.A hh)).goes i s _ _ hlt st.1 fun v h' tk hY st' hk htk => ?_
    obtain ⟨T, vals, rfl, hnew, hPt, hT⟩ := hY
    obtain ⟨xs, rv, hfx, hl⟩ := hrel i vals hPt
    have new : ObjOk X.prog X.w (upd H T (.tup xs)) h' T (.tup xs) := ⟨Nat.le_trans hl (by decide), vals.toList, rv, by rw [Array.toArray_toList]; exact hT⟩
    have I1 : Inv X pins σ (upd H T (.tup xs)) { s with heap := h', toks := tk } :=
      I.turnedNew (ch := fp) (fun b ob hb q => hk b ob (fun z => hb ((Wk X.A hh).sub b z)) q) hf hnew new
    refine ⟨.ref T, _, I1, rfl, ⟨T, xs, rfl, I.hok.fresh hnew, rfl, hfx⟩, ⟨st', hlt⟩, fun b hb => ?_⟩
    have hb' : b < s.heap.objs.size := by obtain ⟨o, ho, _⟩ := hobj i _ st.1 b hb; exact Heap.lt_size ho
    rw [upd_ne (Nat.ne_of_lt (Nat.lt_of_lt_of_le hb' hnew))]
    exact (hf b hb).1
  done := by
    intro X hP hw hK hc i pins s σ H E I hf st hg
    subst hP hw hK
    have hh : X.A.in1.handled = none := I.ok.hd hc
    have hge : n ≤ i := hg
    have hi : i = n := Nat.le_antisymm st.2 hge
    subst hi
    refine (Wk X.A hh).done s _ _ st.1 fun h' tk hk => ⟨rfl, ?_⟩
    exact I.turnedL (ch := fp) (fun c o hb q => hk c o (fun z => hb ((Wk X.A hh).sub c z)) q) hf
  self := fun A i s Q E st h => hself A i s Q E st.1 h
theorem walk_tuples {n : Nat} {f : Nat → List V → Prop} : Walk (ItTup n f) n (fun _ => True) (fun i H v H' => ∃ T xs, v = .ref T ∧ H T = none ∧ H' = upd H T (.tup xs) ∧ f i xs) :=
  ⟨fun _ _ hi _ => hi, fun _ _ => Nat.le_refl _, fun _ _ _ _ _ _ y => y⟩
/-! zip of two texts -/
def zipF (x y : Str) : Nat → List V → Prop := fun i xs => ∃ c d, x.cps[i]? = some c ∧ y.cps[i]? = some d ∧ xs = [.str ⟨#[c]⟩, .str ⟨#[d]⟩]
def iZipS (ta : TA) : TI := fun σ H R => ta σ H fun vs H1 => ∃ x y, vs = [.str x, .str y] ∧ R (ItTup (min x.cps.size y.cps.size) (zipF x y)) H1
theorem pi_zipS {X : Cx} {e e2 : Expr} {ta : TA} {p pos tpos : Pos} {elts : List Expr} {kk : Nat} (hg : Gl X "zip") (hm : X.mg "zip" = none) (ha : PA X [e, e2] ta)
    (hs : starEach [e, e2] X.env = (false, eval e X.env) :: starEach [e2] X.env := by rfl) (hpl : (backTo pos (starEach [e2] X.env)).any (·.1) = false := by rfl) :
    PI X (.Tuple elts kk tpos) (.Call (.Name "zip" p) [e, e2] [] pos) (iZipS ta) := by
  refine ⟨fun pins s σ H R I h => ?_⟩
  refine Call_ (ld_blt I hg hm PyProof.Rows.boot_zip (PyProof.Rows.callWith_type1 (thn (ha.run pos pins s σ H _ I h) fun us s1 ⟨vs, H1, I1, r1, q1⟩ => ?_) hs hpl))
  obtain ⟨x, y, ex, q⟩ := q1
  subst ex
  cases r1 with
  | cons r rr =>
    cases rr with
    | cons r' rr =>
      cases rr
      obtain ⟨t, rfl⟩ := r
      obtain ⟨t', rfl⟩ := r'
      refine zip_begins2 (begins_text x t) (begins_text y t') trivial trivial fun h' hz hTI hTO h1 h2 hsz hk => wpAny_pyIter_zip hz ?_
      have I2 : Inv X pins σ H1 { s1 with heap := h' } := I1.kept (t' := s1.toks) hk
      have sep := zip_sep2 (N := s1.heap.objs.size) (fp1 := []) (fp2 := []) (fun b hb => nomatch hb) (fun b hb => nomatch hb)
      have tn := turn_tuples (P := X.prog) (w := X.w) (K := X.K) (elts := elts) (kk := kk) (tpos := tpos) (f := zipF x y)
        (fun A hh => WalksT.zipD2 sep (Draws.text (prog := X.prog) (w := X.w) hh s1.heap.objs.size x t) (Draws.text (prog := X.prog) (w := X.w) hh (s1.heap.objs.size + 1) y t'))
        (fun i vals hv => by
          obtain ⟨x1, x2, ⟨c, u, hc, rfl⟩, ⟨d, u', hd, rfl⟩, rfl⟩ := hv
          exact ⟨[.str ⟨#[c]⟩, .str ⟨#[d]⟩], .cons ⟨_, rfl⟩ (.cons ⟨_, rfl⟩ .nil), ⟨c, d, hc, hd, rfl⟩, by show 2 ≤ 8; decide⟩)
        (fun i h st b hb => by
          obtain ⟨z1, z2, ⟨a1, a2, z3⟩, ⟨o1, e1, _, d1⟩, ⟨o2, e2, _, d2⟩⟩ := st
          have e' : b = s1.heap.objs.size + 4 ∨ b = s1.heap.objs.size + 2 ∨ b = s1.heap.objs.size + 3 ∨ b = s1.heap.objs.size ∨ b = s1.heap.objs.size + 1 := by simpa using hb
          rcases e' with q | q | q | q | q
          · rw [q]; exact ⟨_, z1, fun v q => nomatch q⟩
          · rw [q]; exact ⟨_, z2, fun v q => nomatch q⟩
          · rw [q]; exact ⟨_, z3, fun v q => nomatch q⟩
          · rw [q]; exact ⟨o1, e1, fun v q => by rw [d1] at q; cases q⟩
          · rw [q]; exact ⟨o2, e2, fun v q => by rw [d2] at q; cases q⟩)
        (by simp) (fun A i s Q E st h => wpAny_pyIter_zip st.1 h)
      refine ⟨s1.heap.objs.size + 4, _, _, _, H1, rfl, I2, tn, ⟨⟨hz, hTI, ⟨_, _, hTO⟩, ⟨_, h1, rfl, rfl⟩, ⟨_, h2, rfl, rfl⟩⟩, Nat.zero_le _⟩, fun c hcm => ?_, q⟩
      have e' : c = s1.heap.objs.size + 4 ∨ c = s1.heap.objs.size + 2 ∨ c = s1.heap.objs.size + 3 ∨ c = s1.heap.objs.size ∨ c = s1.heap.objs.size + 1 := by simpa using hcm
      have hle : s1.heap.objs.size ≤ c := by
        rcases e' with z | z | z | z | z
        · rw [z]; exact Nat.le_add_right _ _
        · rw [z]; exact Nat.le_add_right _ _
        · rw [z]; exact Nat.le_add_right _ _
        · rw [z]; exact Nat.le_refl _
        · rw [z]; exact Nat.le_add_right _ _
      exact I1.fpOk hle (I1.hok.fresh hle)
/-! text * int -/
section
variable {X : Cx}
theorem op_rep_str : OpR X (binaryOp .Mult) (fun x y H Q => ∃ (z : Str) (n : Int), x = .str z ∧ y = .int n ∧ n < 2 ^ 20 ∧ -(2 ^ 20) < n ∧ z.length * n.toNat ≤ 100000 ∧ Q (.str (Txt.mul z n)) H) := by
  intro pins s σ H x y u v Q I rx ry h
  obtain ⟨z, n, rfl, rfl, h1, h2, h3, q⟩ := h
  obtain ⟨t, rfl⟩ := rx
  obtain ⟨t', rfl⟩ := ry
  refine SB.mul ⟨?_, fun a b => ?_, fun a b => ?_⟩ fun t' k => ⟨.str (Txt.mul z n), H, I.tok _, ⟨_, rfl⟩, q⟩
  · rw [decide_eq_false (by omega), decide_eq_false (by omega)]; rfl
  · have e1 : ((z.length : Int)) ≤ 100000 := by
      have : z.length * 1 ≤ z.length * n.toNat := Nat.mul_le_mul_left _ (by omega)
      omega
    have e2 : (100000 : Int) ≤ (2 ^ 63 - 1) / n := by
      refine (Int.le_ediv_iff_mul_le (by omega)).mpr ?_
      omega
    omega
  · show decide (z.length * n.toNat > sizeLine) = false
    exact decide_eq_false (Nat.not_lt.mpr (Nat.le_trans h3 (by decide)))
end
/-! a class made without arguments; a def called without; a property -/
open C8 in
theorem pe_mk0 {X : Cx} {k j : Nat} {C : Addr} {x : Str} {sp : Sp} {dvs : List V} {p pos : Pos} (c : Mak X.prog X.w X.K X.mg X.base k x C sp dvs) (hr : Room j X.A) (hk : k + 1 ≤ j) (hg : Gl X x) (hdb : (x == ("__debug__" : Str)) = false := by decide) :
    PE X (.Call (.Name x p) [] [] pos) (tMake C sp dvs C8.E0 tNil) := by
  obtain ⟨f, fd, ps, ds, M, F, hm, b, d⟩ := c.ex
  exact pe_make0 M F (hr.mono hk) hg hm b d C8.pass0 hdb
open C8 in
theorem pe_c0 {X : Cx} {k j : Nat} {x : Str} {sp : Sp} {dvs : List V} {p pos : Pos} (c : Cal X.prog X.w X.K X.mg X.base k x sp dvs) (hr : Room j X.A) (hk : k ≤ j) (hg : Gl X x) (hdb : (x == ("__debug__" : Str)) = false := by decide) :
    PE X (.Call (.Name x p) [] [] pos) (tCall sp dvs C8.E0 tNil) := by
  obtain ⟨f, fd, ps, ds, F, hm, kp, b, d⟩ := c.ex
  exact pe_call0 F (hr.mono hk) hg hm kp b d C8.pass0 hdb
/-- a property of the class at C -/
structure Prp (P : Program) (w : World) (K : PySem.W.Frag) (mg : Str → Option Value) (base : Heap) (k : Nat) (C : Addr) (m : Str) (sp : Sp) : Prop where
  ex : ∃ (p f : Addr) (fd : FuncData) (ps : List Str), Cls K C ∧ PropOf K C m p f ∧ FnOk P w K mg base C8.CX0 k f fd ps sp ∧ Binds K fd ps []
theorem pe_pr {X : Cx} {k j : Nat} {C : Addr} {m : Str} {sp : Sp} {e : Expr} {ta : TE} {pos : Pos} (c : Prp X.prog X.w X.K X.mg X.base k C m sp) (hr : Room j X.A) (hk : k + 1 ≤ j) (he : PE X e ta) (hab : attributeBase e m X.env (eval e X.env) = eval e X.env := by rfl) :
    PE X (.Attribute e m pos) (tProp C sp [] C8.E0 ta) := by
  obtain ⟨p, f, fd, ps, hc, hp, F, b⟩ := c.ex
  exact pe_prop he hc hp F (hr.mono hk) b .nil C8.pass0 hab
end Lx

set_option maxRecDepth 100000
set_option maxHeartbeats 4000000
/-! sorted of pairs of texts -/
namespace SrT
open PySem PyProof.Rows SrtO
def IsTT (h : Heap) (v : Value) (x y : Str) : Prop := ∃ a o t u n, v = .ref a ∧ h.get? a = some o ∧ o.cls = .type "tuple" ∧ o.data = .seq #[.str x t, .str y u] n
theorem IsTT.keeps {h h' : Heap} {v : Value} {x y : Str} (p : IsTT h v x y) (k : ∀ b o, h.get? b = some o → o.cls = .type "tuple" → h'.get? b = some o) : IsTT h' v x y := by
  obtain ⟨a, o, t, u, n, e, ho, hc, hd⟩ := p
  exact ⟨a, o, t, u, n, e, k _ _ ho hc, hc, hd⟩
def lexT (p q : Str × Str) : Bool := if p.1 = q.1 then decide (p.2.cps.toList < q.2.cps.toList) else decide (p.1.cps.toList < q.1.cps.toList)
theorem str_of {a b : Str} (h : a.cps.toList = b.cps.toList) : a = b := TL.ext_tl h
theorem tri {a b : Str} (h1 : ¬ a.cps.toList < b.cps.toList) (h2 : ¬ b.cps.toList < a.cps.toList) : a = b :=
  str_of (List.le_antisymm (List.not_lt.mp h2) (List.not_lt.mp h1))
theorem lexT_no {p q : Str × Str} : lexT p q = false ↔ q.1.cps.toList < p.1.cps.toList ∨ (p.1 = q.1 ∧ ¬ p.2.cps.toList < q.2.cps.toList) := by
  unfold lexT
  by_cases e : p.1 = q.1
  · rw [if_pos e, decide_eq_false_iff_not]
    constructor
    · intro h; exact .inr ⟨e, h⟩
    · rintro (h | h)
      · rw [e] at h; exact absurd h (List.lt_irrefl _)
      · exact h.2
  · rw [if_neg e, decide_eq_false_iff_not]
    constructor
    · intro h
      by_cases c : q.1.cps.toList < p.1.cps.toList
      · exact .inl c
      · exact absurd (tri h c) e
    · rintro (h | h)
      · exact List.lt_asymm h
      · exact absurd h.1 e
theorem lexT_yes {p q : Str × Str} : lexT p q = true ↔ p.1.cps.toList < q.1.cps.toList ∨ (p.1 = q.1 ∧ p.2.cps.toList < q.2.cps.toList) := by
  unfold lexT
  by_cases e : p.1 = q.1
  · rw [if_pos e, decide_eq_true_eq]
    constructor
    · intro h; exact .inr ⟨e, h⟩
    · rintro (h | h)
      · rw [e] at h; exact absurd h (List.lt_irrefl _)
      · exact h.2
  · rw [if_neg e, decide_eq_true_eq]
    constructor
    · intro h; exact .inl h
    · rintro (h | h)
      · exact h
      · exact absurd h.1 e
theorem swo_T {α : Type} (k : α → Str × Str) : Swo fun v u => lexT (k v) (k u) := by
  refine ⟨fun x y h => ?_, fun x y z h1 h2 => ?_⟩
  · rcases lexT_yes.mp h with a | ⟨a, b⟩
    · exact lexT_no.mpr (.inl a)
    · exact lexT_no.mpr (.inr ⟨a.symm, List.lt_asymm b⟩)
  · refine lexT_no.mpr ?_
    rcases lexT_no.mp h1 with a | ⟨a, b⟩ <;> rcases lexT_no.mp h2 with c | ⟨c, d⟩
    · exact .inl (List.lt_trans a c)
    · rw [← c] at a; exact .inl a
    · rw [a] at c; exact .inl c
    · refine .inr ⟨c.trans a, fun hz => ?_⟩
      by_cases e : (k y).2.cps.toList < (k x).2.cps.toList
      · exact b e
      · by_cases g : (k z).2 = (k y).2
        · rw [g] at hz; exact b hz
        · by_cases i : (k y).2.cps.toList < (k z).2.cps.toList
          · exact b (List.lt_trans i hz)
          · exact g (tri d i)
section
variable {prog : Program} {w : World} {A : Around} {E : Value → Shared → Prop} {s : Shared}
theorem tt_cmp {vs : List Value} {k : Value → Str × Str} (hp : ∀ v ∈ vs, IsTT s.heap v (k v).1 (k v).2) : Cmp prog w A s (tuples' true) (fun p => p.1 ∈ vs) (lt2 fun v u => lexT (k v) (k u)) := by
  intro p q hm hm'
  have h1 := hp _ hm
  have h2 := hp _ hm'
  show wpAny (model prog w) A (keyLt' (tuples' true) p.1 q.1) (fun r s' => s' = s ∧ r = lexT (k p.1) (k q.1)) (fun _ _ => False) s
  unfold lexT
  generalize (k p.1).1 = x at h1 ⊢
  generalize (k p.1).2 = y at h1 ⊢
  generalize (k q.1).1 = x' at h2 ⊢
  generalize (k q.1).2 = y' at h2 ⊢
  obtain ⟨a, o, t, u, n, e, ho, hc, hd⟩ := h1
  obtain ⟨a', o', t', u', n', e', ho', hc', hd'⟩ := h2
  rw [e, e']
  refine PySem.W.kat_lt ho hd ho' hd' ?_
  show PySem.W.KatLex prog w A true (decide (2 < 2)) _ [(.str x t, .str x' t'), (.str y u, .str y' u')] 0 s
  refine PySem.W.kat_cons (SeqAt.EqAt.str_str x t x' t' prog w _ _ ?_)
  refine PySem.W.kat_go (fun e1 => ?_) (fun e1 => ?_)
  · have ex : x = x' := by simpa using e1
    refine PySem.W.kat_yes (PySem.W.kat_cons (SeqAt.EqAt.str_str y u y' u' prog w _ _ ?_))
    refine PySem.W.kat_go (fun e2 => ?_) (fun e2 => ?_)
    · have ey : y = y' := by simpa using e2
      have e3 : (if x = x' then decide (y.cps.toList < y'.cps.toList) else decide (x.cps.toList < x'.cps.toList)) = false := by
        rw [if_pos ex, ey]
        exact decide_eq_false (List.lt_irrefl _)
      exact PySem.W.kat_yes (PySem.W.kat_nil ⟨rfl, e3.symm⟩)
    · have e3 : (if x = x' then decide (y.cps.toList < y'.cps.toList) else decide (x.cps.toList < x'.cps.toList)) = decide (y.cps.toList < y'.cps.toList) := if_pos ex
      refine PySem.W.kat_no (PySem.W.kat_one _ _ (PyProof.Rows.lt_str ?_))
      exact (show s = s ∧ decide (y.cps.toList < y'.cps.toList) = (if x = x' then decide (y.cps.toList < y'.cps.toList) else decide (x.cps.toList < x'.cps.toList)) from ⟨rfl, e3.symm⟩)
  · have ex : ¬ x = x' := by simpa using e1
    have e3 : (if x = x' then decide (y.cps.toList < y'.cps.toList) else decide (x.cps.toList < x'.cps.toList)) = decide (x.cps.toList < x'.cps.toList) := if_neg ex
    exact PySem.W.kat_no (oneLt_str ⟨rfl, e3.symm⟩)
theorem firsts_T {h : Heap} : ∀ {vs : List Value}, (∀ v ∈ vs, ∃ x y, IsTT h v x y) → ∃ fs : List Value, PySem.W.KatTups h vs fs ∧ fs.length = vs.length ∧ ∀ f ∈ fs, ∃ x t, f = Value.str x t
  | [], _ => ⟨[], PySem.W.KatTups.nil, rfl, fun _ hm => by simp at hm⟩
  | v :: vs, hp => by
    obtain ⟨fs, h1, h2, h3⟩ := firsts_T (vs := vs) fun v' hm => hp v' (List.mem_cons_of_mem _ hm)
    obtain ⟨x, y, a, o, t, u, n, e, ho, hc, hd⟩ := hp v (List.mem_cons_self ..)
    subst e
    refine ⟨.str x t :: fs, PySem.W.KatTups.cons ho hc hd rfl h1, by rw [List.length_cons, List.length_cons, h2], fun f hm => ?_⟩
    rcases List.mem_cons.mp hm with rfl | hm
    · exact ⟨x, t, rfl⟩
    · exact h3 f hm
theorem tt_sortable {a : Addr} {vs : List Value} {k : Value → Str × Str} (h0 : 0 < vs.length) (hp : ∀ v ∈ vs, IsTT s.heap v (k v).1 (k v).2) (ha : ∀ o, s.heap.get? a = some o → o.cls ≠ .type "tuple") : SortableO prog w A s a vs fun v u => lexT (k v) (k u) := by
  intro h' keep
  have hp' : ∀ v ∈ vs, IsTT h' v (k v).1 (k v).2 := fun v hm => (hp v hm).keeps fun b o e c => keep b o (fun z => by subst z; exact ha o e c) e
  obtain ⟨fs, h1, h2, h3⟩ := firsts_T fun v hm => ⟨_, _, hp' v hm⟩
  refine ⟨tuples' true, fun Q E hq => ?_, tt_cmp hp'⟩
  refine PySem.W.kat_kind (T := .type "str") h1 (by omega) (fun f hm => ?_) (by rfl) ?_
  · obtain ⟨x, t, rfl⟩ := h3 f hm
    exact PySem.W.Looks.now
  · have e : (Value.type "str" != Value.type "tuple") = true := by first | decide +kernel | rfl | decide
    rw [e]
    exact hq
theorem collect_tup {l : Addr} {vs : List Value} {Q : List Value → Shared → Prop} (hl : s.heap.IsTuple l vs.toArray)
    (h : Q vs { s with heap := (s.heap.push (seqObj "list" #[] 0)).update s.heap.objs.size (Obj.mapSeq (· ++ vs.toArray)) }) (hsz : vs.length ≤ sizeLine) :
    wpAny (model prog w) A (collect (.ref l)) Q E s := by
  obtain ⟨o, ho, hc, n, hd⟩ := id hl
  unfold collect
  refine wpAny_bind (wpAny_runValue (codeAny_builtin entry_proto_collect' ?_))
  show wpAny _ _ (do again (.builtin "list.__iadd__" ⟨[← newList [], .ref l], []⟩)) _ _ s
  refine wpAny_bind (wpAny_newList (wpAny_pure ⟨Code.quiet_builtin _ (by decide +kernel), codeAny_builtin entry_list_iadd' ?_⟩))
  show wpAny _ _ (Builtin.List.listExtendWith (.ref s.heap.objs.size) (.ref l) (.ref s.heap.objs.size)) _ _ { s with heap := s.heap.push (seqObj "list" #[] 0) }
  unfold Builtin.List.listExtendWith
  have ho' : (s.heap.push (seqObj "list" #[] 0)).get? l = some o := Heap.get?_push_of_some _ ho
  refine wpAny_bind (wpAny_typeOf (T := "tuple") ⟨o, ho', hc⟩ ?_)
  have ht : (Value.type "tuple" == Value.type "tuple") = true := by rfl
  rw [if_pos (by rw [ht]; simp)]
  refine wpAny_bind (listItems_at ho' hd ?_)
  refine wpAny_bind (listItems_at (xs := #[]) (n := 0) (Heap.get?_push_size _ rfl) rfl ?_)
  rw [if_neg (by simp)]
  refine wpAny_bind (listUpdate_at (xs := #[]) (n := 0) (Heap.get?_push_size _ rfl) rfl ?_ (Nat.zero_le _) (by show (#[] ++ vs.toArray).size ≤ sizeLine + 1; simp only [Array.size_append, List.size_toArray, List.length_nil]; omega))
  refine wpAny_pure ?_
  show wpAny (model prog w) A (do
      let o ← load s.heap.objs.size
      match o.data with
      | .seq xs _ => pure xs.toList
      | _ => unsupported "internal:collect") Q E { s with heap := (s.heap.push (seqObj "list" #[] 0)).update s.heap.objs.size (Obj.mapSeq (· ++ vs.toArray)) }
  refine wpAny_bind (wpAny_load (get?_update_seq (Heap.get?_push_size _ rfl) _) ?_)
  show wpAny _ _ (pure ((#[] : Array Value) ++ vs.toArray).toList) Q E _
  rw [show ((#[] : Array Value) ++ vs.toArray).toList = vs by simp]
  exact wpAny_pure h
/-- sorted(x) of what is collected -/
theorem sorted_col {x : Value} {vs : List Value} {ltv : Value → Value → Bool} {Q : Value → Shared → Prop} (O : Swo ltv)
    (hcol : ∀ (A : Around) (E : Value → Shared → Prop) (Q : List Value → Shared → Prop), Q vs { s with heap := (s.heap.push (seqObj "list" #[] 0)).update s.heap.objs.size (Obj.mapSeq (· ++ vs.toArray)) } → wpAny (model prog w) A (collect x) Q E s) (hz : vs.length ≤ sizeLine)
    (hS : 2 ≤ vs.length → ∀ (h₁ : Heap) (a : Addr), h₁.get? a = some (seqObj "list" vs.toArray 0) → (∀ b o, s.heap.get? b = some o → b ≠ a ∧ h₁.get? b = some o) → SortableO prog w A.in1.in1 { s with heap := h₁ } a vs ltv)
    (h : ∀ out : List Value, Srtd ltv out → Stb ltv out vs → Q (.ref (s.heap.objs.size + 1)) { s with heap := sortedAll s.heap vs out.toArray }) :
    wpAny (model prog w) A (call (.builtin "sorted") [x]) Q E s := by
  refine Calls.call_function_entry kind_sorted plain_sorted entry_sorted (args_sorted1 _) ?_
  unfold Builtin.«sorted»
  refine wpAny_bind (m := checkCount "sorted" 1 1 _) (wpAny_pure ?_)
  refine wpAny_bind (hcol _ _ _ ?_)
  refine wpAny_bind (wpAny_newList ?_ hz)
  have hsz : ((s.heap.push (seqObj "list" #[] 0)).update s.heap.objs.size (Obj.mapSeq (· ++ vs.toArray))).objs.size = s.heap.objs.size + 1 := by
    rw [Heap.size_update, size_push']
  have hoL : (((s.heap.push (seqObj "list" #[] 0)).update s.heap.objs.size (Obj.mapSeq (· ++ vs.toArray))).push (seqObj "list" vs.toArray 0)).get? (s.heap.objs.size + 1) = some (seqObj "list" vs.toArray 0) := by
    rw [← hsz]; exact Heap.get?_push_size _ rfl
  have keep : ∀ b o, s.heap.get? b = some o → b ≠ s.heap.objs.size + 1 ∧ (((s.heap.push (seqObj "list" #[] 0)).update s.heap.objs.size (Obj.mapSeq (· ++ vs.toArray))).push (seqObj "list" vs.toArray 0)).get? b = some o := fun b o q => by
    have hlt : b < s.heap.objs.size := Heap.lt_size q
    refine ⟨Nat.ne_of_lt (Nat.lt_succ_of_lt hlt), Heap.get?_push_of_some _ ?_⟩
    rw [Heap.get?_update_ne _ _ _ _ (Nat.ne_of_lt hlt)]
    exact Heap.get?_push_of_some _ q
  show wpAny _ _ _ _ _ { s with heap := ((s.heap.push (seqObj "list" #[] 0)).update s.heap.objs.size (Obj.mapSeq (· ++ vs.toArray))).push (seqObj "list" vs.toArray 0) }
  rw [hsz]
  refine wpAny_bind (wpAny_holding (wpAny_call_entry slot_list_sort ⟨_, hoL, rfl⟩ entry_list_sort (list_sort_ord O hoL hz (fun h2 => hS h2 _ _ hoL keep) fun out hs hb => ⟨_, rfl, ?_⟩) (args_list_sort _)))
  exact wpAny_pure ⟨_, rfl, h out hs hb⟩
end
end SrT
namespace Lx
open PySem PySem.Spec PyProof.Rows L2
/-- sorted(xs), xs a list or a tuple of pairs of texts -/
def rSortedT (K : PySem.W.Frag) : List V → Hp → VK → Prop := fun vs H Q => ∃ (a : Addr) (ps : List Addr) (k : Addr → Str × Str), vs = [V.ref a] ∧ (SqL K H a (ps.map V.ref) ∨ SqT K H a (ps.map V.ref)) ∧ (∀ t ∈ ps, H t = some (.tup [.str (k t).1, .str (k t).2])) ∧
  ∀ (qs : List Addr) p, SrtO.Srtd (fun x y => SrT.lexT (k x) (k y)) qs → qs.Perm ps → H p = none → Q (.ref p) (upd H p (.lst (qs.map V.ref)))
section
variable {X : Cx}
theorem cr_sortedT : CallR X (.builtin "sorted") (rSortedT X.K) := by
  intro pins s σ H vs us Q I r h
  obtain ⟨a, ps, k, rfl, hs, hx, q⟩ := h
  obtain ⟨u, rfl, ru⟩ := vals1 r
  obtain rfl : u = Value.ref a := ru
  have com : ∀ its : List Value, Vals (ps.map V.ref) its → its.length ≤ sizeLine → (∀ (A : Around) (E : Value → Shared → Prop) (Q : List Value → Shared → Prop), Q its { s with heap := (s.heap.push (seqObj "list" #[] 0)).update s.heap.objs.size (Obj.mapSeq (· ++ its.toArray)) } → wpAny (model X.prog X.w) A (collect (.ref a)) Q E s) →
      wpAny (model X.prog X.w) X.A (call (.builtin "sorted") [Value.ref a]) (EP X pins σ Q) X.xe s := by
    intro its rv hz hcol
    have ei : its = ps.map Value.ref := by
      clear hcol hz hx q hs
      induction ps generalizing its with
      | nil => cases rv; rfl
      | cons x l ih =>
        cases rv with
        | cons h1 h2 =>
          rw [List.map_cons, ← ih _ h2]
          congr 1
    subst ei
    have hp : ∀ v ∈ ps.map Value.ref, SrT.IsTT s.heap v (match v with | .ref t => k t | _ => ("", "")).1 (match v with | .ref t => k t | _ => ("", "")).2 := by
      intro v hv
      obtain ⟨t, ht, rfl⟩ := List.mem_map.mp hv
      obtain ⟨_, its2, r2, o, ho, hc, n, hd⟩ := I.hok _ _ (hx t ht)
      obtain ⟨u1, u2, rfl, ri, rj⟩ := vals2 r2
      obtain ⟨t1, rfl⟩ := ri
      obtain ⟨t2, rfl⟩ := rj
      exact ⟨t, o, t1, t2, n, rfl, ho, hc, hd⟩
    refine SrT.sorted_col (SrT.swo_T fun v : Value => match v with | .ref t => k t | _ => ("", "")) hcol hz (fun h2 h₁ b hb kk => ?_) fun out h1 h2 => ?_
    · refine SrT.tt_sortable (s := { s with heap := h₁ }) (by omega) (fun v hm => (hp v hm).keeps fun b o e _ => (kk b o e).2) fun o e => ?_
      have e' : some o = some (seqObj "list" (ps.map Value.ref).toArray 0) := e.symm.trans hb
      cases e'
      intro c
      exact absurd (Value.type.inj c) (by decide)
    · obtain ⟨qs, rfl⟩ : ∃ qs : List Addr, out = qs.map Value.ref := by
        have hm : ∀ v ∈ out, ∃ t, v = Value.ref t := fun v hv => by
          obtain ⟨t, _, e⟩ := List.mem_map.mp (h2.perm.mem_iff.mp hv)
          exact ⟨t, e.symm⟩
        clear h1 h2
        induction out with
        | nil => exact ⟨[], rfl⟩
        | cons v r ih =>
          obtain ⟨t, rfl⟩ := hm v List.mem_cons_self
          obtain ⟨qs, rfl⟩ := ih fun v hv => hm v (List.mem_cons_of_mem _ hv)
          exact ⟨t :: qs, rfl⟩
      have perm : qs.Perm ps := by
        have h3 := h2.perm.map (fun v : Value => match v with | .ref t => t | _ => 0)
        rw [List.map_map, List.map_map] at h3
        have ef : ((fun v : Value => match v with | .ref t => t | _ => 0) ∘ Value.ref) = id := by funext t; rfl
        rw [ef, List.map_id, List.map_id] at h3
        exact h3
      have srt : SrtO.Srtd (fun x y => SrT.lexT (k x) (k y)) qs := List.pairwise_map.mp h1
      obtain ⟨n, hn⟩ := PyProof.Rows.sortedAll_at s.heap (ps.map Value.ref) (qs.map Value.ref).toArray
      have hd : s.heap.objs.size ≤ s.heap.objs.size + 1 := Nat.le_succ _
      have rq : Vals (qs.map V.ref) (qs.map Value.ref) := by
        clear h1 h2 perm srt hn
        induction qs with
        | nil => exact .nil
        | cons x l ih => exact .cons rfl ih
      refine ⟨.ref (s.heap.objs.size + 1), upd H (s.heap.objs.size + 1) (.lst (qs.map V.ref)), I.laid (t' := s.toks) (fun b o e => PyProof.Rows.sortedAll_old e) hd ⟨?_, _, n, rq, hn⟩, rfl, q qs _ srt perm (I.hok.fresh hd)⟩
      rw [List.length_map, perm.length_eq, ← List.length_map (f := Value.ref)]
      exact hz
  rcases hs with hs | hs
  · obtain ⟨its, rv, hl, hz⟩ := I.list hs
    exact com its rv (by rw [← rv.length]; exact hz) fun A E Q h => collect_list hl.isList h (by rw [← rv.length]; exact hz)
  · obtain ⟨its, rv, hl, hz⟩ := I.tuple hs
    exact com its rv (by rw [← rv.length]; exact hz) fun A E Q h => SrT.collect_tup (show s.heap.IsTuple a its.toArray from hl) h (by rw [← rv.length]; exact hz)
/-- a list or a tuple, walked -/
def iSeq (K : PySem.W.Frag) (tl : TE) : TI := fun σ H R => iList K tl σ H R ∨ iTup K tl σ H R
theorem pi_seq {tg l : Expr} {tl : TE} (hl : PE X l tl) : PI X tg l (iSeq X.K tl) := by
  refine ⟨fun pins s σ H R I h => ?_⟩
  rcases h with h | h
  · exact (pi_list hl).run pins s σ H R I h
  · exact (pi_tup hl).run pins s σ H R I h
theorem ty_list {K : PySem.W.Frag} {H : Hp} {a : Addr} {xs : List V} (h : SqL K H a xs) : TyX K H (.ref a) (.type "list") := by
  rcases h with (h | ⟨o, h⟩) | ⟨o, its, n, hk, hc, _⟩
  · exact .base (.lst h)
  · exact .base (.frz h)
  · exact .kList hk hc
theorem ty_tup {K : PySem.W.Frag} {H : Hp} {a : Addr} {xs : List V} (h : SqT K H a xs) : TyX K H (.ref a) (.type "tuple") := by
  rcases h with (h | ⟨o, h⟩) | ⟨o, its, n, hk, hc, _⟩
  · exact .base (.tup h)
  · exact .fTuple h
  · exact .kTuple hk hc
theorem same_tup {K : PySem.W.Frag} {H H' : Hp} {a : Addr} {xs : List V} (e : Same H H') (h : SqT K H a xs) : SqT K H' a xs := by
  rcases h with (h | ⟨o, h⟩) | h
  · exact .inl (.inl (e _ _ h))
  · exact .inl (.inr ⟨o, e _ _ h⟩)
  · exact .inr h
/-- a list or a tuple -/
def Sq (K : PySem.W.Frag) (H : Hp) (a : Addr) (xs : List V) : Prop := SqL K H a xs ∨ SqT K H a xs
theorem Sq.same {K : PySem.W.Frag} {H H' : Hp} {a : Addr} {xs : List V} (h : Sq K H a xs) (e : Same H H') : Sq K H' a xs := h.elim (fun h => .inl (e.seq h)) (fun h => .inr (same_tup e h))
end
end Lx

set_option maxRecDepth 100000
set_option maxHeartbeats 4000000
namespace Lx
open PySem PySem.Spec PyProof.Rows L2
section
variable {X : Cx} {k j : Nat} {C : Addr} {sp : Sp}
/-- a def run from a deeper place of the same frame -/
theorem run_sub {CX : CXT} {f : Addr} {fd : FuncData} {ps : List Str} {A : Around} {pins : List (Addr × Obj)} {σ : L2.St} {H : Hp} {s : Shared} {Q : VK} {E : XK} {us : List Value} {vs : List V} (F : FnOk X.prog X.w X.K X.mg X.base CX k f fd ps sp) (sb : Sub X k A) (hb : Binds X.K fd ps [])
    (hx : Passes CX X E) (I : Inv X pins σ H s) (r : Vals vs us) (h : sp vs H Q E) : wpAny (model X.prog X.w) A (call (.ref f) us) (EP X pins σ Q) X.xe s := by
  have e0 : Env0 X.prog X.w X.K X.mg X.base A X.stack s H := by
    have e := I.env0
    exact ⟨by rw [sb.fr]; exact e.frames, e.mod, e.bs, e.bsz, e.funs, e.frf, e.hok, e.bare⟩
  have hl : (us ++ []).length = ps.length := by rw [List.append_nil, ← r.length]; exact F.len _ _ _ _ h
  refine wpAny_call (codeAny_mono (F.run A X.stack s H ⟨us, []⟩ us vs Q E sb.room e0 (by have := hb s us I.kIn hl; simpa using this) r h) fun r s' hq => ?_)
  cases r with
  | error e => exact hx pins σ H s e s' I hq
  | ok fl =>
    cases fl with
    | ret w => exact I.after hq
    | next => exact False.elim hq
    | brk => exact False.elim hq
    | cont => exact False.elim hq
theorem vals_nil {ds : List Value} (h : Vals [] ds) : ds = [] := by cases h; rfl
theorem sub_in2 {A : Around} (hr : Room j A) (hk : k + 2 ≤ j) (hf : A.frames = X.A.frames) : Sub X k A.in1.in1 := by
  have s : Sub X (k + 2) A := ⟨hr.mono hk, hf⟩
  exact s.in1.in1
/-- str(o) by the text's own __str__ -/
def rStrO (C : Addr) (sp : Sp) : List V → Hp → VK → Prop := fun xs H Q => ∃ a dx fs, xs = [.ref a] ∧ H a = some (.ins C dx fs) ∧ sp [.ref a] H (fun v H' => ∃ z, v = .str z ∧ Q (.str z) H') C8.E0
theorem call_str_own (c : C8.Met X.prog X.w X.K X.mg X.base k C "__str__" sp []) (hr : Room j X.A) (hk : k + 2 ≤ j) : CallR X (.type "str") (rStrO C sp) := by
  intro pins s σ H xs us Q I rv h
  obtain ⟨a, dx, fs, rfl, ha, hsp⟩ := h
  obtain ⟨f, fd, ps, ds, _, me, F, b, d⟩ := c.ex
  obtain rfl := vals_nil d
  cases rv with
  | cons r rr =>
    cases rr
    cases r
    obtain ⟨mA, J, _⟩ := ins_get I.hok ha
    obtain ⟨od, J, _⟩ := J.look
    have sb : Sub X k X.A.in1.in1 := sub_in2 hr hk rfl
    refine PySem.W.kso_call sb.room.units0 I.kIn J me.at_ me.fn (wpAny_mono (run_sub (vs := [.ref a]) F sb b C8.pass0 I (.cons rfl .nil) hsp) (fun u s' q => ?_) fun _ _ x => x)
    obtain ⟨v, H', I', ru, z, ez, q⟩ := q
    subst ez
    obtain ⟨t, rfl⟩ := ru
    exact ⟨.str z, H', I', ⟨t, rfl⟩, q⟩
/-- len(o) by the text's own __len__ -/
def rLenO (C : Addr) (sp : Sp) : List V → Hp → VK → Prop := fun xs H Q => ∃ a dx fs, xs = [.ref a] ∧ H a = some (.ins C dx fs) ∧ sp [.ref a] H (fun v H' => ∃ n : Int, v = .int n ∧ 0 ≤ n ∧ n < 2 ^ 63 ∧ Q (.int n) H') C8.E0
theorem call_len_own (c : C8.Met X.prog X.w X.K X.mg X.base k C "__len__" sp []) (hr : Room j X.A) (hk : k + 2 ≤ j) : CallR X (.builtin "len") (rLenO C sp) := by
  intro pins s σ H xs us Q I rv h
  obtain ⟨a, dx, fs, rfl, ha, hsp⟩ := h
  obtain ⟨f, fd, ps, ds, _, me, F, b, d⟩ := c.ex
  obtain rfl := vals_nil d
  cases rv with
  | cons r rr =>
    cases rr
    cases r
    obtain ⟨mA, J, _⟩ := ins_get I.hok ha
    obtain ⟨od, J, _⟩ := J.look
    have sb : Sub X k X.A.in1 := (show Sub X (k + 1) X.A from ⟨hr.mono (by omega), rfl⟩).in1
    obtain ⟨m, hF⟩ := I.fr
    refine PySem.W.len_K hF I.ok.mod.kin J me.at_ me.fn (wpAny_mono (run_sub (vs := [.ref a]) F sb b C8.pass0 I (.cons rfl .nil) hsp) (fun u s' q => ?_) fun _ _ x => x)
    obtain ⟨v, H', I', ru, z, ez, h0, h1, q⟩ := q
    subst ez
    obtain ⟨t, rfl⟩ := ru
    exact ⟨⟨h0, h1⟩, .int z, H', I'.tok _, ⟨_, rfl⟩, q⟩
/-- o == p, both of the class at C, by the text's own __eq__ -/
def rEqO (C : Addr) (sp : Sp) : R2 := fun x y H Q => ∃ a b dx dy fs gs, x = .ref a ∧ y = .ref b ∧ H a = some (.ins C dx fs) ∧ H b = some (.ins C dy gs) ∧ sp [.ref a, .ref b] H (fun v H' => ∃ t : Bool, v = .bl t ∧ Q (.bl t) H') C8.E0
theorem op_eqOwn (c : C8.Met X.prog X.w X.K X.mg X.base k C "__eq__" sp []) (hr : Room j X.A) (hk : k ≤ j) : OpR X (compareOp .Eq) (rEqO C sp) := by
  intro pins s σ H x y v u Q I rx ry h
  obtain ⟨a, b, dx, dy, fs, gs, rfl, rfl, ha, hb, hsp⟩ := h
  obtain ⟨f, fd, ps, ds, _, me, F, bn, d⟩ := c.ex
  obtain rfl := vals_nil d
  cases rx
  cases ry
  obtain ⟨mA, J, _⟩ := ins_get I.hok ha
  obtain ⟨mB, J', _⟩ := ins_get I.hok hb
  obtain ⟨od, J, _⟩ := J.look
  obtain ⟨od', J', _⟩ := J'.look
  obtain ⟨m, hF⟩ := I.fr
  have sb : Sub X k X.A := ⟨hr.mono hk, rfl⟩
  show wpAny (model X.prog X.w) X.A (richCompare .Eq (.ref a) (.ref b)) (EP X pins σ Q) X.xe s
  refine PySem.W.cmp_K (op := .Eq) (tb := .ref C) sb.room.units0 hF I.ok.mod.kin J J'.type (by simp [PySem.W.notFirst]) me.at_ me.fn ?_
  refine wpAny_mono (run_sub (vs := [.ref a, .ref b]) F sb bn C8.pass0 I (.cons rfl (.cons rfl .nil)) hsp) (fun u s' q => ?_) fun _ _ x => x
  obtain ⟨v, H', I', ru, t, ez, q⟩ := q
  subst ez
  cases (show u = Value.bool t from ru)
  exact ⟨.bl t, H', I', rfl, q⟩
end
/-- what of the text != wants -/
structure NeT (K : PySem.W.Frag) (C : Addr) : Prop where
  mro : PySem.W.mroIn K C (.type "object") = some true
  ne : PySem.W.findIn K (.ref C) "__ne__" = some (some (.builtin "object.__ne__"))
section
open PySem.W
variable {M : Model} {prog : Program} {w : World} {A : Around} {E : Value → Shared → Prop} {s : Shared} {K : PySem.W.Frag} {x C f : Addr} {ox : Obj} {od : Option Obj} {b tb : Value}
theorem ifBound_bltn {name : Str} {id : String} {args : List Value} {Q : Option Value → Shared → Prop} (X : K.In s.heap) (I : PySem.W.InstAt s.heap x ox C od) (hs : PySem.W.findIn K (.ref C) name = some (some (.builtin id)))
    (hb : ∀ self, bindSpecial (.builtin id) self = pure (.builtin id, [self])) (h : wpAny M A (call (.builtin id) (.ref x :: args)) (fun v => Q (some v)) E s) : wpAny M A (callSpecialIfBound? (.ref x) name args) Q E s := by
  simp only [callSpecialIfBound?, bindSpecialIfBound?]
  refine wpAny_holding (wpAny_bind (wpAny_bind (wpAny_bind (I.type.here ((PySem.W.looks_findIn X hs).here ?_)))))
  refine wpAny_bind (wpAny_askSetting (wpAny_ite ?_))
  have fin : wpAny M A (call (.builtin id) ([.ref x] ++ args) >>= fun v => pure (some v)) Q E s := wpAny_bind (wpAny_mono h (fun v s' h' => wpAny_pure h') fun _ _ h' => h')
  split
  · exact wpAny_bind (wpAny_of_eq (hb _) (wpAny_pure (by exact fin)))
  · exact wpAny_tryCatch (wpAny_bind (wpAny_of_eq (hb _) (wpAny_pure (by exact fin))))
theorem ne_tree {Q : Fin → Shared → Prop} (hu : A.units < cLine) (X : K.In s.heap) (I : PySem.W.InstAt s.heap x ox C od) (he : PySem.W.findIn K (.ref C) "__eq__" = some (some (.ref f))) (hf : PySem.W.isFn K (.ref f) = true)
    (h : wpAny M A (call (.ref f) [.ref x, b]) (fun v s' => ∃ t : Bool, v = .bool t ∧ Q (.done (.ret (.bool (!t)))) s') E s) : wpAny M A (Builtin.«object.__ne__» ⟨[.ref x, b], []⟩) Q E s := by
  unfold Builtin.«object.__ne__»
  refine wpAny_bind (m := slotArgs "__ne__" 1 _) (wpAny_pure ?_)
  refine wpAny_bind (m := cRoomFor _ _) (wpAny_cRoomFor hu ?_)
  refine wpAny_bind (m := callSpecialIfBound? (.ref x) (Str.ofString "__eq__") _) (ifBound_K X I he hf (wpAny_mono h (fun r s' hr => ?_) fun _ _ y => y))
  obtain ⟨t, rfl, q⟩ := hr
  exact wpAny_bind (wpAny_truthy_bool (wpAny_pure q))
theorem cmp_neK {Q : Value → Shared → Prop} (hu : A.units < cLine) (hu1 : A.in1.units < cLine) (X : K.In s.heap) (I : PySem.W.InstAt s.heap x ox C od) (hb : Looks (model prog w) s.heap (typeOf b) tb) (hn : PySem.W.notFirst K C tb = true) (N : NeT K C)
    (he : PySem.W.findIn K (.ref C) "__eq__" = some (some (.ref f))) (hf : PySem.W.isFn K (.ref f) = true)
    (h : wpAny (model prog w) A.in1 (call (.ref f) [.ref x, b]) (fun v s' => ∃ t : Bool, v = .bool t ∧ Q (.bool (!t)) s') E s) : wpAny (model prog w) A (richCompare .NotEq (.ref x) b) Q E s := by
  have one : wpAny (model prog w) A (tryCompare (.ref x) (cmpInfo .NotEq).2.1 b) (fun r s' => ∃ v, r = some v ∧ Q v s') E s := by
    unfold tryCompare
    refine wpAny_bind (ifBound_bltn X I N.ne F.cmp_object.ne.bind ?_)
    refine wpAny_call (codeAny_call_builtin F.cmp_object.ne.plain F.cmpEntry_ne (PySem.W.check_slot F.cmpKind_ne F.cmpSplit_ne (I.type.andThen (PySem.W.looks_mroIn X N.mro)) (F.cmpArgs_ne _ _) (ne_tree hu1 X I he hf (wpAny_mono h (fun v s' hv => ?_) fun _ _ e => e))))
    obtain ⟨t, rfl, q⟩ := hv
    exact ⟨t, rfl, wpAny_pure ⟨_, rfl, q⟩⟩
  unfold richCompare
  simp only [oneThing_ref]
  refine wpAny_holding (wpAny_bind (wpAny_cRoomFor hu ?_))
  refine wpAny_bind (I.type.here (wpAny_bind (hb.here ?_)))
  split
  · rename_i q
    have e : subIn K tb (.ref C) = some false := by
      rcases Bool.or_eq_true_iff.mp hn with e | e
      · rw [beq_iff_eq.mp e] at q; simp at q
      · exact beq_iff_eq.mp e
    refine wpAny_bind ((looks_subIn X e).here ?_)
    simp only [Bool.false_eq_true, if_false]
    refine wpAny_bind (wpAny_mono one (fun r s' z => ?_) fun _ _ e => e)
    obtain ⟨v, rfl, hq⟩ := z
    exact wpAny_pure hq
  · refine wpAny_bind (wpAny_pure ?_)
    simp only [Bool.false_eq_true, if_false]
    refine wpAny_bind (wpAny_mono one (fun r s' z => ?_) fun _ _ e => e)
    obtain ⟨v, rfl, hq⟩ := z
    exact wpAny_pure hq
end
section
variable {X : Cx} {k j i : Nat} {C : Addr} {sp : Sp} {x y : Str} {dvs : List V} {p pos : Pos} {e : Expr} {es : List Expr} {t : TA}
/-- o != p -/
def rNeO (C : Addr) (sp : Sp) : R2 := fun x y H Q => ∃ a b dx dy fs gs, x = .ref a ∧ y = .ref b ∧ H a = some (.ins C dx fs) ∧ H b = some (.ins C dy gs) ∧ sp [.ref a, .ref b] H (fun v H' => ∃ t : Bool, v = .bl t ∧ Q (.bl (!t)) H') C8.E0
theorem op_neOwn (c : C8.Met X.prog X.w X.K X.mg X.base k C "__eq__" sp []) (N : NeT X.K C) (hr : Room j X.A) (hk : k + 1 ≤ j) : OpR X (compareOp .NotEq) (rNeO C sp) := by
  intro pins s σ H x y v u Q I rx ry h
  obtain ⟨a, b, dx, dy, fs, gs, rfl, rfl, ha, hb, hsp⟩ := h
  obtain ⟨f, fd, ps, ds, _, me, F, bn, d⟩ := c.ex
  obtain rfl := vals_nil d
  cases rx
  cases ry
  obtain ⟨mA, J, _⟩ := ins_get I.hok ha
  obtain ⟨mB, J', _⟩ := ins_get I.hok hb
  obtain ⟨od, J, _⟩ := J.look
  obtain ⟨od', J', _⟩ := J'.look
  have sb1 : Sub X (k + 1) X.A := ⟨hr.mono hk, rfl⟩
  have sb := sb1.in1
  show wpAny (model X.prog X.w) X.A (richCompare .NotEq (.ref a) (.ref b)) (EP X pins σ Q) X.xe s
  refine cmp_neK (tb := .ref C) sb1.room.units0 sb.room.units0 I.kIn J J'.type (by simp [PySem.W.notFirst]) N me.at_ me.fn ?_
  refine wpAny_mono (run_sub (vs := [.ref a, .ref b]) F sb bn C8.pass0 I (.cons rfl (.cons rfl .nil)) hsp) (fun u s' q => ?_) fun _ _ x => x
  obtain ⟨v, H', I', ru, t, ez, q⟩ := q
  subst ez
  cases (show u = Value.bool t from ru)
  exact ⟨t, rfl, .bl (!t), H', I', rfl, q⟩
/-- the class in the i-th slot is made -/
def tMakeL (i : Nat) (C : Addr) (sp : Sp) (dvs : List V) (t : TA) : TE := fun σ H Q => σ[i]? = some (some (.ref C)) ∧ tMake C sp dvs C8.E0 t σ H Q
theorem pe_mkL (i : Nat) (c : C8.Mak X.prog X.w X.K X.mg X.base k y C sp dvs) (hr : Room j X.A) (hk : k + 1 ≤ j) (ha : PA X (e :: es) t) (hN : X.N[i]? = some x := by rfl) (hv : Vis X.env.scope x := by first | exact Or.inl rfl | exact Or.inr (Or.inl rfl) | exact Or.inr (Or.inr rfl))
    (hdb : (x == ("__debug__" : Str)) = false := by decide) (hcd : (x == ("__classdict__" : Str)) = false := by decide)
    (he : starEach (e :: es) X.env = (false, eval e X.env) :: starEach es X.env := by rfl) (hpl : (backTo pos (starEach es X.env)).any (·.1) = false := by rfl) : PE X (.Call (.Name x p) (e :: es) [] pos) (tMakeL i C sp dvs t) := by
  obtain ⟨f, fd, ps, ds, M, F, hm, b, d⟩ := c.ex
  refine ⟨fun pins s σ H Q I h => ?_⟩
  obtain ⟨hs, ht⟩ := h
  refine wpAny_Call_Name_kw (thn ((pe_var (pos := p) hN hv hdb hcd).run pins s σ H (fun v H1 => v = .ref C ∧ H1 = H) I ⟨.ref C, hs, rfl, rfl⟩) fun u s1 ⟨v, H1, I1, r1, q1⟩ => ?_)
  obtain ⟨rfl, rfl⟩ := q1
  cases r1
  refine PySem.W.callWith_K (h₀ := X.base) I.ok.mod.kin M.kp (thn (ha.run pos pins s1 σ _ _ I1 ht) fun us s2 ⟨vs, H2, I2, r, q⟩ => ⟨I2.kIn, ?_⟩) he hpl
  exact run_make M F (hr.mono hk) b d C8.pass0 I2 r q
theorem pe_mkL0 (i : Nat) (c : C8.Mak X.prog X.w X.K X.mg X.base k y C sp dvs) (hr : Room j X.A) (hk : k + 1 ≤ j) (hN : X.N[i]? = some x := by rfl) (hv : Vis X.env.scope x := by first | exact Or.inl rfl | exact Or.inr (Or.inl rfl) | exact Or.inr (Or.inr rfl))
    (hdb : (x == ("__debug__" : Str)) = false := by decide) (hcd : (x == ("__classdict__" : Str)) = false := by decide) : PE X (.Call (.Name x p) [] [] pos) (tMakeL i C sp dvs tNil) := by
  obtain ⟨f, fd, ps, ds, M, F, hm, b, d⟩ := c.ex
  refine ⟨fun pins s σ H Q I h => ?_⟩
  obtain ⟨hs, ht⟩ := h
  refine wpAny_Call_Name_kw (thn ((pe_var (pos := p) hN hv hdb hcd).run pins s σ H (fun v H1 => v = .ref C ∧ H1 = H) I ⟨.ref C, hs, rfl, rfl⟩) fun u s1 ⟨v, H1, I1, r1, q1⟩ => ?_)
  obtain ⟨rfl, rfl⟩ := q1
  cases r1
  exact PySem.W.callWith_K0 I1.kIn M.kp (run_make (us := []) M F (hr.mono hk) b d C8.pass0 I1 .nil ht)
/-- a classmethod of the class at C, C the module's name x -/
structure CMt (P : Program) (w : World) (K : PySem.W.Frag) (mg : Str → Option Value) (base : Heap) (k : Nat) (x : Str) (C : Addr) (m : Str) (sp : Sp) : Prop where
  ex : ∃ (mc : Value) (p g : Addr) (fd : FuncData) (ps : List Str), mg x = some (.ref C) ∧ ClX.CRead K C mc ∧ ClX.CMet K C mc m p g ∧ FnOk P w K mg base C8.CX0 k g fd ps sp ∧ Binds K fd ps []
theorem pe_cm {m : Str} {apos : Pos} {pl : Sem Bool} (c : CMt X.prog X.w X.K X.mg X.base k x C m sp) (hr : Room j X.A) (hk : k ≤ j) (hg : Gl X x) (ha : PA X (e :: es) t) (hdb : (x == ("__debug__" : Str)) = false := by decide)
    (hst : starEach (e :: es) X.env = (false, eval e X.env) :: starEach es X.env := by rfl) (hpl : (backTo pos (starEach es X.env)).any (·.1) = false := by rfl)
    (ht : eval (.Call (.Attribute (.Name x p) m apos) (e :: es) [] pos) X.env = (do
      let ov ← eval (.Name x p) X.env
      standAt apos.atName
      let (f, first) ← holding [ov] (getMethod ov m pl)
      callWith pos f first (backTo pos (starEach (e :: es) X.env)) (backToKw pos (keywordEach [] X.env))) := by rfl) :
    PE X (.Call (.Attribute (.Name x p) m apos) (e :: es) [] pos) (ClX.tCMeth C sp C8.E0 (tC (.ref C)) t) := by
  obtain ⟨mc, q, g, fd, ps, hm, r, cm, F, b⟩ := c.ex
  exact ClX.pe_cmeth (pe_glob (v := .ref C) hg hm rfl hdb) r cm (F.raw b .nil |>.imp fun vs H Q E h => by rw [List.append_nil]; exact h) (hr.mono hk) C8.pass0 ha hst hpl ht
end
/-- what isinstance wants of a class -/
structure IsT (K : PySem.W.Frag) (C : Addr) : Prop where
  cl : Cls K C
  ha : PySem.W.findIn K (.ref C) "__class__" = some (some (.builtin "object.__class__"))
  hn : PySem.W.specialIn K (.builtin "object.__class__") "__get__" = some (some (.builtin "getset_descriptor.__get__"))
  ht : PySem.W.takesIn K (.builtin "object.__class__") = some true
  hm : PySem.W.mroIn K C (.type "object") = some true
theorem IsT.ty {K : PySem.W.Frag} {C a dx : Addr} {H : Hp} {fs : List (Str × V)} (I : IsT K C) (e : H a = some (.ins C dx fs)) : TyX K H (.ref a) (.ref C) := .base (.ins e I.cl I.ha I.hn I.ht I.hm)
theorem IsT.one {K : PySem.W.Frag} {C : Addr} (_ : IsT K C) : PySem.W.kitOne K (.ref C) (.ref C) = some true := by
  unfold PySem.W.kitOne
  rw [if_pos (beq_self_eq_true _)]
/-- an f-string inside a comprehension: its reading by a name -/
def tJn (ts : List TE) : TE := fun σ H Q => tJs ts Str.empty σ H fun out H1 => Q (.str out) H1
theorem pe_jn {X : Cx} {v1 v2 : Expr} {rest : List Expr} {ts : List TE} {pos : Pos} (h : PJ X (v1 :: v2 :: rest) ts) : PE X (.JoinedStr (v1 :: v2 :: rest) pos) (tJn ts) := pe_joined h
end Lx

set_option maxRecDepth 100000
set_option maxHeartbeats 4000000
set_option pp.maxSteps 400
/-! a tuple of any things compared with an empty one -/
namespace GQ
open PySem PySem.SeqAt
open AutoSeq1 (wpAny_loadPart')
open MeetsSeq MeetsSeq2 MeetsSeq3 SeqRoads2
section
variable {prog : Program} {w : World} {A : Around} {R : Result → Shared → Prop}
theorem tuple_eqE (l b : Addr) (items items2 : Array Value) (n n2 : Nat) (dd dd2 : Option Addr) (sl sl2 : Array (Option Value)) (h2 : items2.size = 0)
    {s : Shared} (fin : R (.ok (.ret (.bool (items.size == 0)))) s) (hl1 : s.heap.get? l = some { cls := .type "tuple", dict := dd, data := .seq items n, slots := sl }) (hb1 : s.heap.get? b = some { cls := .type "tuple", dict := dd2, data := .seq items2 n2, slots := sl2 }) :
    wpAny (model prog w) A.in1 (Builtin.«tuple.__eq__» ⟨[.ref l, .ref b], []⟩) (FinOf prog w A R) (fun e s' => R (.error e) s') s := by
  have f2 := AutoSeq1.sub_tuple_tuple
  have hZ : items.toList.zip items2.toList = [] := by
    have : items2.toList = [] := List.eq_nil_of_length_eq_zero (by simpa using h2)
    rw [this, List.zip_nil_right]
  obtain ⟨hp, g, d, tk, os⟩ := s
  wp_walk using wpAny_loadPart' hl1, wpAny_loadPart' hb1, wpAny_forIn_list _ (fun rest b s' => rest = [] ∧ b.1 = none ∧ s' = ⟨hp, g, d, tk, os⟩) _
  case turn =>
    rintro ⟨y, x⟩ rest b s' ⟨hr, _⟩
    cases hr
  case fin =>
    rintro ⟨b1, b2⟩ s' ⟨_, hb', rfl⟩
    simp only at hb'
    subst hb'
    wp_walk
    simpa [Builtin.Tuple.tupleCompareSizes, h2] using fin
  case h =>
    exact ⟨hZ, rfl, rfl⟩
end
section
variable {prog : Program} {w : World} {A : Around} {E : Value → Shared → Prop} {s : Shared}
theorem rc_tupE {l b : Addr} {items items2 : Array Value} {Q : Value → Shared → Prop} (h2 : items2.size = 0) (hu : A.units < cLine)
    (hl : s.heap.IsTuple l items) (hb : s.heap.IsTuple b items2) (fin : Q (.bool (items.size == 0)) s) : wpAny (model prog w) A (richCompare .Eq (.ref l) (.ref b)) Q E s := by
  obtain ⟨⟨cls, dd, data, sl⟩, ho, hc, n, hd⟩ := id hl
  obtain ⟨⟨cls2, dd2, data2, sl2⟩, ho2, hc2, n2, hd2⟩ := id hb
  simp only at hc hd hc2 hd2
  subst hc hd hc2 hd2
  refine wpAny_richCompare_same_room (op := .Eq) ⟨_, ho, rfl⟩ ⟨_, ho2, rfl⟩ F.slot_tuple_eq (call_here F.slot_tuple_eq ⟨_, ho, rfl⟩ F.entry_tuple_eq (F.args_tuple_eq_2 _ _) ?_) hu
  exact tuple_eqE (R := wants (fun v s' => v ≠ .notImplemented ∧ Q v s') E) l b items items2 n n2 dd dd2 sl sl2 h2 ⟨(fun x => nomatch x), fin⟩ ho ho2
end
end GQ
namespace Lx
open PySem PySem.Spec PyProof.Rows L2
/-- a tuple == () -/
def rEqE (K : PySem.W.Frag) : R2 := fun x y H Q => ∃ a b xs, x = .ref a ∧ y = .ref b ∧ SqT K H a xs ∧ SqT K H b [] ∧ Q (.bl (decide (xs = []))) H
theorem op_eqE {X : Cx} {j : Nat} (hr : Room j X.A) : OpR X (compareOp .Eq) (rEqE X.K) := by
  intro pins s σ H x y v u Q I rx ry hq
  obtain ⟨a, b, xs, rfl, rfl, ha, hb, q⟩ := hq
  cases rx
  cases ry
  obtain ⟨its, r, e, z⟩ := I.tuple ha
  obtain ⟨its2, r2, e2, z2⟩ := I.tuple hb
  show wpAny (model X.prog X.w) X.A (richCompare .Eq (.ref a) (.ref b)) (EP X pins σ Q) X.xe s
  refine GQ.rc_tupE (by rw [List.size_toArray, ← r2.length]; rfl) hr.units0 e e2 ?_
  have : (its.toArray.size == 0) = decide (xs = []) := by
    rw [List.size_toArray, ← r.length]
    cases xs <;> rfl
  rw [this]
  exact ⟨.bl _, H, I, rfl, q⟩
end Lx

set_option maxRecDepth 100000
set_option maxHeartbeats 4000000
set_option pp.maxSteps 400
/-! an attribute as one of several targets -/
namespace Lx
open PySem PySem.Spec PyProof.Rows L2
def gFld (K : PySem.W.Frag) (ta : TE) (f : Str) : TG := fun y σ H N => ta σ H fun x H1 => ∃ a C dx fs, x = .ref a ∧ H1 a = some (.ins C dx fs) ∧ Cls K C ∧ NoAttr K C f ∧ fs.length < 1000 ∧ N σ (upd H1 a (.ins C dx (putF f y fs)))
theorem pg_fld {X : Cx} {o : Expr} {f : Str} {pos : Pos} {ta : TE} (ho : PE X o ta) : PG X (.Attribute o f pos) (gFld X.K ta f) := by
  refine ⟨fun pins s σ H v u Q I r h => ?_⟩
  rw [assign_Attribute]
  refine wpAny_bind (wpAny_holding (thn (ho.run pins s σ H _ I h) fun ov s1 ⟨x, H1, I1, rx, a, C, dx, fs, ex, ea, c, n, l, q⟩ => ?_))
  subst ex
  obtain rfl : ov = Value.ref a := rx
  refine wpAny_bind (wpAny_standAt (wpAny_bind (wpAny_holding (setattr_ok I1 ea c n l r fun s2 I2 => ?_))))
  exact wpAny_release ⟨σ, _, I2, q⟩
end Lx

set_option maxRecDepth 100000
set_option maxHeartbeats 4000000
set_option pp.maxSteps 400
/-! sum(lists, a list) -/
namespace SumL
open PySem PySem.Spec PyProof.Rows
theorem args_sum2 (a b : Value) : argsOk "sum" ⟨[a, b], []⟩ := by unfold argsOk; kernel_rfl
section
variable {prog : Program} {w : World} {A : Around} {E : Value → Shared → Prop}
abbrev isRow (h : Heap) (b : Addr) (r : List Value) : Prop := ∃ n, h.get? b = some { cls := .type "list", data := .seq r.toArray n }
theorem loop {R : Result → Shared → Prop} (hh : A.handled = none) {I l S : Addr} {bs : List Addr} {rows : List (List Value)} (hlI : l ≠ I) (hlen : rows.length = bs.length) (hSI : S ≠ I) (hSl : S ≠ l) (hSb : S ∉ bs) (hIb : I ∉ bs) :
    ∀ (k i : Nat) (s : Shared) (c : Nat) (cur : List Value) (p : Addr), bs.length - i = k → i ≤ bs.length → s.heap.IsListIter I l i → s.heap.IsList l (bs.map Value.ref).toArray →
      s.heap.get? S = some { cls := .type "list", data := .seq #[.ref p] c } → isRow s.heap p cur → p ≠ S → p ≠ I → (∀ (j : Nat) (b : Addr) (r : List Value), bs[j]? = some b → rows[j]? = some r → isRow s.heap b r) → cur.length + (rows.drop i).flatten.length ≤ sizeLine →
      (∀ h' tk p', (∀ b o, b ≠ S → b ≠ I → s.heap.get? b = some o → h'.get? b = some o) → isRow h' p' (cur ++ (rows.drop i).flatten) → (i < bs.length ∨ S < p → S < p') → R (.ok (.ret (.ref p'))) { s with heap := h', toks := tk }) →
      codeAny (model prog w) A (.builtin "sum.loop" ⟨[.ref I, .ref S, rawInt 2, rawInt 0], []⟩) R s := by
  intro k
  induction k with
  | zero =>
    intro i s c cur p hk hi hit hl hS hp pS pI hrows hsz hR
    have hin : i = bs.length := by omega
    subst hin
    refine codeAny_builtin F.entry_sum_loop ?_
    rw [Around.under_plainId F.plain_sum_loop _]
    show wpAny _ A.in1 (seqItems? (.ref S) >>= _) _ _ s
    refine wpAny_bind (wpAny_seqItems hS rfl ?_)
    show wpAny _ A.in1 (tryCatch (pyNext (.ref I)) _ >>= _) _ _ s
    have W := Walks.list (prog := prog) (w := w) (A := A.in1) hh I l hlI (bs.map Value.ref).toArray
    refine wpAny_bind (wpAny_tryCatch (W.done s _ _ (by simpa using ⟨hit, hl⟩) fun h' tk hm => ?_))
    refine wpAny_pure (hR h' tk p (fun b o h1 h2 e => hm b o (by simpa using h2) e) ?_ fun h => h.elim (fun h => absurd h (Nat.lt_irrefl _)) id)
    obtain ⟨n, hn⟩ := hp
    refine ⟨n, ?_⟩
    rw [List.drop_of_length_le (by omega), List.flatten_nil, List.append_nil]
    exact hm p _ (by simpa using pI) hn
  | succ k ih =>
    intro i s c cur p hk hi hit hl hS hp pS pI hrows hsz hR
    have hlt : i < bs.length := by omega
    refine codeAny_builtin F.entry_sum_loop ?_
    rw [Around.under_plainId F.plain_sum_loop _]
    show wpAny _ A.in1 (seqItems? (.ref S) >>= _) _ _ s
    refine wpAny_bind (wpAny_seqItems hS rfl ?_)
    show wpAny _ A.in1 (tryCatch (pyNext (.ref I)) _ >>= _) _ _ s
    have W := Walks.list (prog := prog) (w := w) (A := A.in1) hh I l hlI (bs.map Value.ref).toArray
    refine wpAny_bind (wpAny_tryCatch (W.item i s _ _ (by simpa using hlt) ⟨hit, hl⟩ fun v h1 tk1 hP hst' hm => ?_))
    obtain ⟨b, hb, rfl⟩ : ∃ b, bs[i]? = some b ∧ v = .ref b := by
      have hP' : (bs.map Value.ref)[i]? = some v := by simpa using hP
      rw [List.getElem?_map] at hP'
      obtain ⟨b, h1, h2⟩ := Option.map_eq_some_iff.mp hP'
      exact ⟨b, h1, h2.symm⟩
    obtain ⟨r, hr⟩ : ∃ r, rows[i]? = some r := ⟨rows[i]'(by omega), List.getElem?_eq_getElem (by omega)⟩
    have bm := List.mem_of_getElem? hb
    have hI' : ∀ {x : Addr}, x ≠ I → ∀ o, s.heap.get? x = some o → h1.get? x = some o := fun h o e => hm _ o (by simpa using h) e
    have hS1 := hI' hSI _ hS
    obtain ⟨np, hnp⟩ := hp
    have hp1 := hI' pI _ hnp
    obtain ⟨nb, hnb⟩ := hrows i b r hb hr
    have hb1 := hI' (fun z => hIb (z ▸ bm)) _ hnb
    have edrop : rows.drop i = r :: rows.drop (i + 1) := by
      rw [List.drop_eq_getElem_cons (by omega : i < rows.length)]
      rw [List.getElem?_eq_getElem (by omega : i < rows.length)] at hr
      rw [Option.some.inj hr]
    rw [edrop, List.flatten_cons, List.length_append] at hsz
    show wpAny _ A.in1 ((holding [Value.ref b] (binaryOp .Add (.ref p) (.ref b))).attempt >>= _) _ _ _
    refine wpAny_bind (wpAny_attempt (wpAny_holding (PySem.P.add_list (s := { s with heap := h1, toks := tk1 }) hp1 hb1 ?_ (by rw [List.size_toArray, List.size_toArray]; omega))))
    have hI1 : I < h1.objs.size := by obtain ⟨⟨o, e, _⟩, _⟩ := hst'; exact Heap.lt_size e
    have hS1l : S < h1.objs.size := Heap.lt_size hS1
    show wpAny _ A.in1 (updateSeq S (fun _ => #[.ref h1.objs.size]) >>= _) _ _ _
    have hS2 := Heap.get?_push_of_some { cls := .type "list", data := .seq (cur.toArray ++ r.toArray) } hS1
    refine wpAny_bind (wpAny_updateSeq hS2 rfl ?_)
    have hS3 := Heap.get?_update_self (Obj.mapSeq fun _ => #[Value.ref h1.objs.size]) hS2 rfl
    refine wpAny_bind (wpAny_letGo ?_)
    refine wpAny_bind (wpAny_updateSeq hS3 rfl (wpAny_pure ⟨plainId_quiet F.plain_sum_loop _, ?_⟩))
    have hS4 := Heap.get?_update_self (Obj.mapSeq fun _ => #[Value.ref h1.objs.size]) hS3 rfl
    have kp : ∀ b o, b ≠ S → (h1.push { cls := .type "list", data := .seq (cur.toArray ++ r.toArray) }).get? b = some o → (((h1.push { cls := .type "list", data := .seq (cur.toArray ++ r.toArray) }).update S (Obj.mapSeq fun _ => #[Value.ref h1.objs.size])).update S (Obj.mapSeq fun _ => #[Value.ref h1.objs.size])).get? b = some o := fun b o n e =>
      (Heap.get?_update_other _ _ (Ne.symm n)).trans ((Heap.get?_update_other _ _ (Ne.symm n)).trans e)
    have hq : (h1.push { cls := .type "list", data := .seq (cur.toArray ++ r.toArray) }).get? h1.objs.size = some { cls := .type "list", data := .seq (cur ++ r).toArray } := by
      rw [Heap.get?_push_size _ rfl]
      simp
    have nS : h1.objs.size ≠ S := Nat.ne_of_gt hS1l
    have nI : h1.objs.size ≠ I := Nat.ne_of_gt hI1
    generalize (((h1.push { cls := .type "list", data := .seq (cur.toArray ++ r.toArray) }).update S (Obj.mapSeq fun _ => #[Value.ref h1.objs.size])).update S (Obj.mapSeq fun _ => #[Value.ref h1.objs.size])) = h4 at kp hS4
    have k4 : ∀ b o, b ≠ S → h1.get? b = some o → h4.get? b = some o := fun b o n e => kp b o n (Heap.get?_push_of_some _ e)
    refine ih (i + 1) _ _ (cur ++ r) h1.objs.size (by omega) hlt (hst'.1.at fun o e => k4 I o (Ne.symm hSI) e) (hst'.2.at fun o e => k4 l o (Ne.symm hSl) e) hS4 ⟨_, kp _ _ nS hq⟩ nS nI (fun j b' r' e1 e2 => ?_) (by rw [List.length_append]; omega) fun h' tk p' k1 h2 h3 => ?_
    · obtain ⟨n', hn'⟩ := hrows j b' r' e1 e2
      exact ⟨n', k4 _ _ (fun z => hSb (z ▸ List.mem_of_getElem? e1)) (hI' (fun z => hIb (z ▸ List.mem_of_getElem? e1)) _ hn')⟩
    · refine hR h' tk p' (fun b o n1 n2 e => k1 b o n1 n2 (k4 b o n1 (hI' n2 _ e))) ?_ fun _ => h3 (.inr hS1l)
      rw [edrop, List.flatten_cons, ← List.append_assoc]
      exact h2
end
section
variable {prog : Program} {w : World} {A : Around} {E : Value → Shared → Prop} {s : Shared}
theorem call_sum {Q : Value → Shared → Prop} (hh : A.handled = none) {l p : Addr} {bs : List Addr} {rows : List (List Value)} {cur : List Value} (hne : bs ≠ []) (hlen : rows.length = bs.length) (hl : s.heap.IsList l (bs.map Value.ref).toArray) (hp : isRow s.heap p cur)
    (hrows : ∀ (j : Nat) (b : Addr) (r : List Value), bs[j]? = some b → rows[j]? = some r → isRow s.heap b r) (hsz : cur.length + rows.flatten.length ≤ sizeLine)
    (hQ : ∀ h' tk p', (∀ b o, s.heap.get? b = some o → h'.get? b = some o) → isRow h' p' (cur ++ rows.flatten) → s.heap.objs.size ≤ p' → Q (.ref p') { s with heap := h', toks := tk }) :
    wpAny (model prog w) A (call (.builtin "sum") [.ref l, .ref p]) Q E s := by
  refine call_function_tree F.kind_sum F.plain_sum F.entry_sum (args_sum2 _ _) ?_
  unfold Builtin.«sum»
  simp only [List.length_cons, List.length_nil]
  rw [if_neg (by decide)]
  refine wpAny_bind (wpAny_of_eq (show Builtin.Builtins.bindParams "sum" ["start"] 0 { pos := [.ref p] } = pure [some (.ref p)] from rfl) ?_)
  refine wpAny_bind (wpAny_pyIter_list hl ?_)
  refine wpAny_bind (wpAny_pure ?_)
  obtain ⟨np, hnp⟩ := hp
  have kI : ∀ b o, s.heap.get? b = some o → (s.heap.push { cls := .type "list_iterator", data := .fields #[.ref l, .int 0 0] }).get? b = some o := fun b o e => Heap.get?_push_of_some _ e
  have hT : Shared.TypeIs { s with heap := s.heap.push { cls := .type "list_iterator", data := .fields #[.ref l, .int 0 0] } } (.ref p) "list" := ⟨_, kI _ _ hnp, rfl⟩
  simp only [List.forIn_cons, List.forIn_nil]
  refine wpAny_bind (wpAny_bind (wpAny_bind (wpAny_isInstance (T := "list") (b := false) hT (by rw [isSubtype_type]; kernel_rfl) ?_)))
  simp only [Bool.false_eq_true, if_false]
  refine wpAny_pure (wpAny_bind (wpAny_bind (wpAny_isInstance (T := "list") (b := false) hT (by rw [isSubtype_type]; kernel_rfl) ?_)))
  simp only [Bool.false_eq_true, if_false]
  refine wpAny_pure (wpAny_bind (wpAny_bind (wpAny_isInstance (T := "list") (b := false) hT (by rw [isSubtype_type]; kernel_rfl) ?_)))
  simp only [Bool.false_eq_true, if_false]
  refine wpAny_pure (wpAny_pure ?_)
  refine wpAny_bind (wpAny_newObj_type ?_)
  have hlt : l < s.heap.objs.size := by obtain ⟨_, e, _⟩ := hl; exact Heap.lt_size e
  have plt : p < s.heap.objs.size := Heap.lt_size hnp
  have bsl : ∀ b ∈ bs, b < s.heap.objs.size := fun b hb => by
    obtain ⟨j, hj⟩ := List.mem_iff_getElem?.mp hb
    have hj2 := (List.getElem?_eq_some_iff.mp hj).1
    obtain ⟨n, e⟩ := hrows j b (rows[j]'(by omega)) hj (List.getElem?_eq_getElem _)
    exact Heap.lt_size e
  have e1 : (s.heap.push { cls := .type "list_iterator", data := .fields #[.ref l, .int 0 0] }).objs.size = s.heap.objs.size + 1 := Heap.size_push _ _
  have k2 : ∀ b o, s.heap.get? b = some o → ((s.heap.push { cls := .type "list_iterator", data := .fields #[.ref l, .int 0 0] }).push { cls := .type "list", data := .seq #[.ref p] }).get? b = some o := fun b o e => Heap.get?_push_of_some _ (kI b o e)
  have bl : 0 < bs.length := List.length_pos_iff.mpr hne
  rw [e1]
  have hS : ((s.heap.push { cls := .type "list_iterator", data := .fields #[.ref l, .int 0 0] }).push { cls := .type "list", data := .seq #[.ref p] }).get? (s.heap.objs.size + 1) = some { cls := .type "list", data := .seq #[.ref p] } := by
    rw [← e1]; exact Heap.get?_push_size _ rfl
  refine wpAny_pure ⟨plainId_quiet F.plain_sum_loop _, loop (I := s.heap.objs.size) (l := l) (S := s.heap.objs.size + 1) (bs := bs) (rows := rows) hh (Nat.ne_of_lt hlt) hlen (Nat.succ_ne_self _) (Nat.ne_of_gt (Nat.lt_succ_of_lt hlt)) (fun z => absurd (bsl _ z) (Nat.not_lt.mpr (Nat.le_succ _))) (fun z => absurd (bsl _ z) (Nat.lt_irrefl _)) bs.length 0 _ _ cur p (by omega) (Nat.zero_le _)
    ⟨_, Heap.get?_push_of_some _ (Heap.get?_push_size _ rfl), rfl, rfl⟩ (hl.at fun o e => k2 _ o e) hS ⟨np, k2 _ _ hnp⟩ (Nat.ne_of_lt (Nat.lt_succ_of_lt plt)) (Nat.ne_of_lt plt) (fun j b r h1 h2 => ?_) (by simpa using hsz) fun h' tk p' h1 h2 h3 => ?_⟩
  · obtain ⟨n, e⟩ := hrows j b r h1 h2
    exact ⟨n, k2 _ _ e⟩
  · refine hQ h' tk p' (fun b o e => h1 b o (fun z => ?_) (fun z => ?_) (k2 b o e)) (by simpa using h2) (Nat.le_of_lt (Nat.lt_of_succ_lt (h3 (.inl bl))))
    · exact absurd (Heap.lt_size e) (by rw [z]; exact Nat.not_lt.mpr (Nat.le_succ _))
    · exact absurd (Heap.lt_size e) (by rw [z]; exact Nat.lt_irrefl _)
end
end SumL
namespace SumL
open PySem PySem.Spec PyProof.Rows L2
theorem refs_of : ∀ {bs : List Addr} {us : List Value}, Vals (bs.map V.ref) us → us = bs.map Value.ref
  | [], us, r => by cases r; rfl
  | b :: bs, us, r => by
    cases r with
    | cons r t =>
      cases r
      rw [refs_of t]
      rfl
/-- sum(lists, a list): the lists one behind another -/
def rSumL : List V → Hp → VK → Prop := fun vs H Q => ∃ (l p : Addr) (bs : List Addr) (rows : List (List V)) (cur : List V), vs = [.ref l, .ref p] ∧ bs ≠ [] ∧ H l = some (.lst (bs.map V.ref)) ∧ H p = some (.lst cur) ∧ rows.length = bs.length ∧ (∀ (j : Nat) (b : Addr) (r : List V), bs[j]? = some b → rows[j]? = some r → H b = some (.lst r)) ∧ cur.length + rows.flatten.length ≤ sizeLine ∧
  ∀ q, H q = none → Q (.ref q) (upd H q (.lst (cur ++ rows.flatten)))
theorem rows_of {X : Cx} {pins : List (Addr × Obj)} {σ : L2.St} {H : Hp} {s : Shared} (I : Inv X pins σ H s) : ∀ {bs : List Addr} {rows : List (List V)}, rows.length = bs.length → (∀ (j : Nat) (b : Addr) (r : List V), bs[j]? = some b → rows[j]? = some r → H b = some (.lst r)) →
    ∃ rs : List (List Value), rs.length = bs.length ∧ (∀ (j : Nat) (b : Addr) (r : List Value), bs[j]? = some b → rs[j]? = some r → isRow s.heap b r) ∧ Vals rows.flatten rs.flatten
  | [], [], _, _ => ⟨[], rfl, fun j b r h => (by cases h), .nil⟩
  | [], _ :: _, h, _ => by cases h
  | _ :: _, [], h, _ => by cases h
  | b :: bs, r :: rows, hl, h => by
    obtain ⟨rs, h1, h2, h3⟩ := rows_of I (bs := bs) (rows := rows) (by simpa using hl) fun j b' r' e1 e2 => h (j + 1) b' r' (by simpa using e1) (by simpa using e2)
    obtain ⟨_, its, n, rv, _, e⟩ := I.lstM (h 0 b r rfl rfl)
    refine ⟨its :: rs, by rw [List.length_cons, List.length_cons, h1], fun j b' r' e1 e2 => ?_, ?_⟩
    · cases j with
      | zero =>
        cases e1
        cases e2
        exact ⟨n, e⟩
      | succ j => exact h2 j b' r' (by simpa using e1) (by simpa using e2)
    · rw [List.flatten_cons, List.flatten_cons]
      exact rv.append h3
theorem cr_sumL {X : Cx} (hc : X.calm = true) : CallR X (.builtin "sum") rSumL := by
  intro pins s σ H vs us Q I r h
  obtain ⟨l, p, bs, rows, cur, rfl, hne, hl, hp, hlen, hrows, hsz, q⟩ := h
  obtain ⟨rs, h1, h2, h3⟩ := rows_of I hlen hrows
  obtain ⟨_, its, n, rv, _, e⟩ := I.lstM hl
  obtain rfl := refs_of rv
  obtain ⟨_, cs, n2, rv2, _, e2⟩ := I.lstM hp
  cases r with
  | cons ra r =>
    cases r with
    | cons rb r =>
      cases r
      cases ra
      cases rb
      have lf := h3.length
      have lc := rv2.length
      refine call_sum (I.ok.hd hc) hne h1 ⟨_, e, rfl, n, rfl⟩ ⟨n2, e2⟩ h2 (by omega) fun h' tk p' k1 k2 k3 => ?_
      obtain ⟨n3, e3⟩ := k2
      exact ⟨.ref p', upd H p' (.lst (cur ++ rows.flatten)), I.laid (t' := tk) k1 k3 ⟨by rw [List.length_append]; exact hsz, _, n3, rv2.append h3, e3⟩, rfl, q p' (I.hok.fresh k3)⟩
/-- list(xs), said with K -/
def rListOf (K : PySem.W.Frag) : List V → Hp → VK → Prop := fun xs H Q => ∃ p ys, xs = [.ref p] ∧ (SqL K H p ys ∨ SqT K H p ys) ∧ ∀ l, H l = none → Q (.ref l) (upd H l (.lst ys))
end SumL

set_option maxRecDepth 100000
set_option maxHeartbeats 4000000
set_option pp.maxSteps 400
/-! repr of data: the law's def is run at the caller's place, where no repr is under way -/
namespace Lx
open PySem PySem.Spec PyProof.Rows L2
/-- the promise of the law's def, at the caller's place alone -/
structure FnAt (P : Program) (w : World) (K : PySem.W.Frag) (mg : Str → Option Value) (base : Heap) (k : Nat) (f : Addr) (fd : FuncData) (ps : List Str) (sp : Sp) : Prop where
  run : ∀ (s : Shared) (H : Hp) (args : Args) (us : List Value) (vs : List V) (Q : VK) (E : XK), Room k callerA → Env0 P w K mg base callerA [] s H → BindsTo s fd args (ps.zip us) → Vals vs us → sp vs H Q E →
    codeAny (model P w) callerA (.call (.ref f) args) (CR C8.CX0 [] P w H s Q E) s
/-- the place in the law's body -/
abbrev lawA (x : Str) (st : Stmt) (f : Addr) (cdv : Value) (s : Shared) : Around := callerA.deeper (envOfC x (C8.fnScope st) s.heap.objs.size f cdv)
theorem lawA_guards (x : Str) (st : Stmt) (f : Addr) (cdv : Value) (s : Shared) : (lawA x st f cdv s).guards = some [] := rfl
section
variable {P : Program} {w : World} {K : PySem.W.Frag} {mg : Str → Option Value} {base : Heap}
theorem fn_at {x qual : Str} {st : Stmt} {f : Addr} {fd : FuncData} {N ps : List Str} {k : Nat} {sp : Sp} (F : C8.Fun K x qual st f fd) (S : FnScope N ps (C8.fnScope st)) (len : ∀ vs H Q E, sp vs H Q E → vs.length = ps.length)
    (hbody : ∀ (cdv : Value) (s : Shared) (H : Hp) (vs : List V) (Q : VK) (E : XK), Room k (lawA qual st f cdv s) → sp vs H Q E →
      ∃ t, PSs (cxOf C8.CX0 P w K mg base N qual (C8.fnScope st) f cdv callerA [] s H E).nox (C8.fnBody st) t ∧ t { nx := fun _ H' => Q .non H', rt := Q } (start N vs) H) : FnAt P w K mg base (k + 1) f fd ps sp := by
  obtain ⟨oc, od, dV, kV, doc, pm, an, cdv, ct, osl, rfl, lk, hcd⟩ := F.ex
  refine ⟨fun s H args us vs Q E hr e0 hb r hsp => ?_⟩
  have KX : K.In s.heap := e0.mod.kin.keeps fun b o e => (e0.bs b o e).1
  have lim : s.heap.NoLimit := e0.mod.nolimit.keeps fun b o e => (e0.bs b o e).1
  refine codeAny_call_function hr.depth (KX _ _ lk) rfl S.co S.gen rfl (PySem.W.codeRec_of KX hcd) (hb _ _ _ _ ?_)
  refine wpAny_newFunctionEnv_cells S.kind (fun ⟨n, v⟩ hy => (S.par n (List.of_mem_zip hy).1).imp id fun q => ⟨q, PySem.W.cellsFrom_some _ _ _ (.inl q)⟩) fun env he s1 x => ?_
  subst he
  obtain ⟨t, ht, hq⟩ := hbody cdv s H vs Q E (hr.deeper _) hsp
  refine ⟨lim.keeps x.toInCall.keep, codeAny_func (wpAny_mono (ht.nox.run [] s1 (start N vs) H _ (inv_start S hr.hd e0 (len _ _ _ _ hsp) r x) hq) (fun fl s' hs => ?_) fun e s' hs => hs)⟩
  match fl, hs with
  | .ret u, ⟨v, σ', H', J, rv, q⟩ => exact ⟨v, H', J.os, J.bare, J.base, J.hok, rv, q⟩
  | .next, ⟨σ', H', J, q⟩ => exact ⟨V.non, H', J.os, J.bare, J.base, J.hok, rfl, q⟩
  | .brk, ⟨_, _, _, q⟩ => exact False.elim q
  | .cont, ⟨_, _, _, q⟩ => exact False.elim q
end
/-- repr of a tuple or a list of plain things -/
def rReprD (K : PySem.W.Frag) : List V → Hp → VK → Prop := fun xs H Q => ∃ (a : Addr) (d : PyData), xs = [.ref a] ∧ Dp K H (.ref a) d ∧ d.showable = true ∧ d.hasDict = false ∧ d.depth ≤ 64 ∧ d.shown.length ≤ sizeLine ∧ Q (.str d.shown) H
theorem call_reprD {X : Cx} (hg : X.A.guards = some []) (hu : X.A.units + 65 < cLine) : CallR X (.builtin "repr") (rReprD X.K) := by
  intro pins s σ H xs us Q I r h
  obtain ⟨a, d, rfl, hd, h1, h2, h3, h4, q⟩ := h
  cases r with
  | cons r rr =>
    cases rr
    obtain ⟨as, rd⟩ := Dp.reads I d _ _ hd r
    cases r
    exact repr_of_reads' rd h1 (fun e => by rw [h2] at e; cases e) hg (by omega) (fun _ _ e => e) (fun h' u tk hk => ⟨.str d.shown, H, I.kept (h' := h') (t' := tk) hk, ⟨_, rfl⟩, q⟩) h4
/-- the head for such a promise: the heap behind the top with the script, known or not -/
theorem law_at {P : Program} {w : World} {K : PySem.W.Frag} {mg mb : Str → Option Value} {k : Nat} {fa a : Addr} {fd : FuncData} {x : Str} {sp : Sp} {s₁ : Shared} {vs : List Value} {ns : List Int}
    (KX : K.In s₁.heap) (hns : s₁.heap.Ns mainGlobals mg) (hb : s₁.heap.Ns builtinsNs mb) (hbb : ∀ x : Str, x ≠ "__name__" → mb x = bootBuiltins x) (hlim : s₁.heap.NoLimit) (hg : s₁.gens = #[])
    (ha : s₁.heap.get? a = some { cls := .type "list", data := .seq vs.toArray }) (hi : IntsAre vs ns) (hl : ns.length ≤ sizeLine) (hr : Room k callerA)
    (F : ∀ base : Heap, K.In base → base.Ns mainGlobals mg → FnAt P w K mg base k fa fd [x] sp) (hbind : ∀ (s : Shared) (u : Value), BindsTo s fd ⟨[u], []⟩ [(x, u)])
    (hsp : ∀ H : Hp, Only H → SqL K H a (ns.map V.int) → sp [.ref a] H (fun v _ => v = .bl true) fun _ _ _ => False) :
    codeAny (model P w) callerA (.call (.ref fa) ⟨[.ref a], []⟩) (fun r s' => r = .ok (.ret (.bool true)) ∧ OldK s₁.heap s'.heap ∧ s'.os = s₁.os ∧ AllBare s'.gens) s₁ := by
  have key : ∀ H : Hp, Only H → SqL K H a (ns.map V.int) → HOk P w H s₁.heap → (∀ b, H b ≠ none → b = a) → (H a ≠ none → K.lookup a = none) →
      codeAny (model P w) callerA (.call (.ref fa) ⟨[.ref a], []⟩) (fun r s' => r = .ok (.ret (.bool true)) ∧ OldK s₁.heap s'.heap ∧ s'.os = s₁.os ∧ AllBare s'.gens) s₁ := fun H hO hS hok hA hK => by
    have out : ∀ b, b ≠ a → H b = none := fun b hb => Classical.byContradiction fun z => hb (hA b z)
    have nsK : ∀ {b : Addr} {m : Str → Option Value}, s₁.heap.Ns b m → (hidT s₁.heap H).Ns b m := fun {b m} ⟨o, es, ep, e, d, r⟩ => ⟨o, es, ep, hidT_get e (out b fun z => by
      rw [z, ha] at e
      obtain rfl := Option.some.inj e
      cases d), d, r⟩
    have hKb : K.In (hidT s₁.heap H) := fun b o e => hidT_get (KX b o e) (Classical.byContradiction fun z => by
      have e' := hA b z
      rw [e'] at e z
      rw [hK z] at e
      cases e)
    have hM : Mod K mg (hidT s₁.heap H) := ⟨hKb, nsK hns, ⟨mb, nsK hb, hbb⟩, let ⟨mc, h1, h2⟩ := hlim; ⟨mc, nsK h1, h2⟩⟩
    have e0 : Env0 P w K mg (hidT s₁.heap H) callerA [] s₁ H := ⟨rfl, hM, fun b o e => of_hidT e, Nat.le_of_eq (hidT_size _ _), trivial, (fun b hb => nomatch hb), hok, .of_eq hg⟩
    refine codeAny_mono ((F _ hKb (nsK hns)).run s₁ H ⟨[.ref a], []⟩ [.ref a] [.ref a] _ _ hr e0 (hbind s₁ (.ref a)) (.cons rfl .nil) (hsp H hO hS)) fun r s' h => ?_
    match r, h with
    | .error e, h => exact h.elim
    | .ok .next, h => exact False.elim h
    | .ok .brk, h => exact False.elim h
    | .ok .cont, h => exact False.elim h
    | .ok (.ret u), ⟨v, H', os, bare, un, hok', r', q⟩ =>
      obtain rfl : v = .bl true := q
      obtain rfl : u = Value.bool true := r'
      refine ⟨rfl, OldK.of_keep fun b o e => ?_, os, bare⟩
      cases q : H b with
      | none => exact un.keep b o e q (fun z => nomatch (show b ∈ ([] : List Addr) from z)) (by simp)
      | some u =>
        rcases hO b with z | ⟨ob, xs, z⟩
        · rw [q] at z; cases z
        · obtain ⟨e1, _⟩ := hok b _ z
          obtain ⟨e2, _⟩ := hok' b _ (un.frzs b ob _ z)
          rw [e] at e1
          cases e1
          exact e2
  have rv := vals_ints hi
  have lv := hi.length
  cases hk : K.lookup a with
  | some o =>
    have e := KX a o hk
    rw [ha] at e
    cases e
    exact key (fun _ => none) (fun _ => .inl rfl) (.inr ⟨_, vs.toArray, _, hk, rfl, rfl, rfl, by rw [List.size_toArray, lv]; exact hl, by simpa using rv⟩) (fun b u z => nomatch (show (none : Option HO) = some u from z)) (fun b z => absurd rfl z) fun z => absurd rfl z
  | none =>
    have at_ : ∀ {b : Addr} {u : HO}, (if b = a then some (HO.frz { cls := .type "list", data := .seq vs.toArray } (.lst (ns.map V.int))) else none) = some u → b = a ∧ u = .frz { cls := .type "list", data := .seq vs.toArray } (.lst (ns.map V.int)) := fun {b u} z => by
      split at z
      · exact ⟨by assumption, (Option.some.inj z).symm⟩
      · cases z
    refine key (fun b => if b = a then some (.frz { cls := .type "list", data := .seq vs.toArray } (.lst (ns.map V.int))) else none) (fun b => ?_) (.inl (.inr ⟨_, if_pos rfl⟩)) (fun b u z => ?_) (fun b z => ?_) fun _ => hk
    · by_cases hb : b = a
      · exact .inr ⟨_, _, if_pos hb⟩
      · exact .inl (if_neg hb)
    · obtain ⟨rfl, rfl⟩ := at_ z
      exact ⟨ha, by rw [List.length_map]; exact hl, vs, _, rv, ha⟩
    · exact Classical.byContradiction fun hb => z (if_neg hb)
theorem walk_at {l : PySem.W.OpenLaw} {n k : Nat} {q : Program} {loose : List Str} {XP : (Str → Option Value) → Heap → Prop} {YP : World → Heap → Prop} {d : DefRec} {K : Params → PySem.W.Frag} {sp : World → Sp} {x : Str}
    (hn : l.most = some n) (hn2 : n ≤ sizeLine) (hdf : d.params.defaults = []) (hr : Room k callerA) (hY : ∀ (w : World) (h : Heap), YP w h → (K w.params).In h)
    (F : ∀ (w : World) (mg : Str → Option Value) (fa : Addr) (h : Heap), (K w.params).In h → h.Ns mainGlobals mg → mg d.name = some (.ref fa) →
      ∃ fd : FuncData, (∀ (s : Shared) (u : Value), BindsTo s fd ⟨[u], []⟩ [(x, u)]) ∧ ∀ base : Heap, (K w.params).In base → base.Ns mainGlobals mg → FnAt l.prog w (K w.params) mg base k fa fd [x] (sp w))
    (hsp : ∀ (w : World) (H : Hp) (a : Addr) (ns : List Int), ns.length ≤ n → Only H → SqL (K w.params) H a (ns.map V.int) → sp w [.ref a] H (fun v _ => v = .bl true) fun _ _ _ => False) :
    PySem.W.WalkO q loose XP YP l.row.toRowW d [] (fun f vs => PySem.call f vs) := by
  refine Att.attach_call hn hdf fun w s₀ s₁ mg mb fa o pm cd doc a vs ns G Y ho hd hcd hmg hobj hints hlen hg => ?_
  obtain ⟨fd, hb, hF⟩ := F w mg fa _ (hY w _ Y) G.T.g hmg
  exact law_at (hY w _ Y) G.T.g G.T.b G.T.builtins G.T.nolimit hg hobj hints (Nat.le_trans hlen hn2) hr hF hb fun H hO hS => hsp w H a ns hlen hO hS
end Lx

set_option maxRecDepth 100000
set_option maxHeartbeats 4000000
namespace U
open PySem PySem.Spec PyProof.Rows
open L2 hiding Fun CX0 E0 pass0 Fun.binds
open C8 Lx SX
/-! words of bits as texts -/
def bt (b : Bool) : Nat := if b then 49 else 48
def W (l : List Bool) : Str := S (l.map bt)
theorem bt_inj : ∀ {a b : Bool}, bt a = bt b → a = b := by decide
theorem map_bt_inj : ∀ {a b : List Bool}, a.map bt = b.map bt → a = b
  | [], [], _ => rfl
  | [], _ :: _, h => by simp at h
  | _ :: _, [], h => by simp at h
  | x :: l, y :: m, h => by
    rw [List.map_cons, List.map_cons] at h
    injection h with h1 h2
    rw [bt_inj h1, map_bt_inj h2]
theorem W_inj {a b : List Bool} (h : W a = W b) : a = b := map_bt_inj (S_inj h)
theorem W_eq {a b : List Bool} : (W a = W b) ↔ a = b := ⟨W_inj, fun h => by rw [h]⟩
theorem W_len (a : List Bool) : (W a).length = a.length := by unfold W; rw [S_len, List.length_map]
theorem W_size (a : List Bool) : (W a).cps.size = a.length := by unfold W; simp
theorem W_cat (a b : List Bool) : W a ++ W b = W (a ++ b) := by unfold W; rw [S_cat, List.map_append]
theorem W_nil : ("" : Str) = W [] := by decide +kernel
theorem W_0 : ("0" : Str) = W [false] := by decide +kernel
theorem W_1 : ("1" : Str) = W [true] := by decide +kernel
theorem W_get {a : List Bool} {i : Nat} {c : Nat} (h : (W a).cps[i]? = some c) : ∃ b, a[i]? = some b ∧ c = bt b := by
  unfold W S at h
  rw [List.getElem?_toArray, List.getElem?_map] at h
  cases e : a[i]? with
  | none => rw [e] at h; cases h
  | some b => rw [e] at h; exact ⟨b, rfl, (Option.some.inj h).symm⟩
theorem W_bit (b : Bool) : (⟨#[bt b]⟩ : Str) = W [b] := rfl
theorem W_tl (a : List Bool) : (W a).cps.toList = a.map bt := rfl
theorem joinL_nil : ∀ ys : List (List Nat), TL.joinL [] ys = ys.flatten
  | [] => rfl
  | [p] => by simp [TL.joinL]
  | p :: q :: r => by
    show p ++ ([] ++ TL.joinL [] (q :: r)) = _
    rw [List.nil_append, joinL_nil (q :: r)]
    rfl
theorem join_W (ls : List (List Bool)) : Txt.join "" (ls.map W) = W ls.flatten := by
  have e : (ls.map W) = (ls.map (·.map bt)).map S := by rw [List.map_map]; rfl
  have e2 : ("" : Str) = S [] := by decide +kernel
  rw [e, e2, join_S, joinL_nil]
  unfold W
  rw [List.map_flatten]
theorem join_bits (l : List Bool) : Txt.join "" (l.map fun b => W [b]) = W l := by
  have e : (l.map fun b => W [b]) = (l.map fun b => [b]).map W := by rw [List.map_map]; rfl
  rw [e, join_W]
  congr 1
  induction l with
  | nil => rfl
  | cons b r ih => simp [ih]
theorem sum_lens : ∀ ls : List (List Bool), ((ls.map W).map (·.length)).sum = (ls.map (·.length)).sum
  | [] => rfl
  | l :: r => by
    rw [List.map_cons, List.map_cons, List.map_cons, List.sum_cons, List.sum_cons, W_len, sum_lens r]
theorem sl_len {n : Nat} (h : n ≤ 100000) : n ≤ sizeLine := Nat.le_trans h (by decide)
theorem sl_lt {n : Nat} (h : n < 100000) : n < sizeLine := Nat.lt_of_lt_of_le h (by decide)
def bitsV (l : List Bool) : List V := (l.map fun b => W [b]).map V.str
theorem lens_bits (l : List Bool) : ((l.map fun b => W [b]).map (·.length)).sum = l.length := by
  induction l with
  | nil => rfl
  | cons b r ih => rw [List.map_cons, List.map_cons, List.sum_cons, ih, W_len, List.length_cons]; simp only [List.length_cons, List.length_nil]; omega
theorem bitsV_len (l : List Bool) : (bitsV l).length = l.length := by unfold bitsV; rw [List.length_map, List.length_map]
theorem bitsV_snoc (l : List Bool) (b : Bool) : bitsV l ++ [V.str (W [b])] = bitsV (l ++ [b]) := by unfold bitsV; simp
theorem mem2 {v : V} (h : v ∈ ([.str "0", .str "1"] : List V)) : ∃ b : Bool, v = .str (W [b]) := by
  rcases List.mem_cons.mp h with rfl | h
  · exact ⟨false, by rw [W_0]⟩
  · rcases List.mem_cons.mp h with rfl | h
    · exact ⟨true, by rw [W_1]⟩
    · cases h
theorem empty_len : ("" : Str).length = 0 := by decide +kernel
/-! tests whose answer is known -/
theorem q_dec {c : Prop} [Decidable c] {Q : VK} {H : Hp} (hc : c) (h : Q (.bl true) H) : Q (.bl (decide c)) H := by rw [decide_eq_true hc]; exact h
theorem q_ndec {c : Prop} [Decidable c] {Q : VK} {H : Hp} (hc : ¬ c) (h : Q (.bl false) H) : Q (.bl (decide c)) H := by rw [decide_eq_false hc]; exact h
theorem iteDT {c A B : Prop} [Decidable c] (hc : c) (h : A) : if decide c = true then A else B := by rw [decide_eq_true hc]; exact iteT h
theorem iteDF {c A B : Prop} [Decidable c] (hc : ¬ c) (h : B) : if decide c = true then A else B := by rw [decide_eq_false hc]; exact iteF h
theorem iteNT {c A B : Prop} [Decidable c] (hc : ¬ c) (h : A) : if (!decide c) = true then A else B := by rw [decide_eq_false hc]; exact iteT h
theorem iteBT {b : Bool} {A B : Prop} (hc : b = true) (h : A) : if b = true then A else B := by rw [hc]; exact iteT h
theorem iteBF {b : Bool} {A B : Prop} (hc : b = false) (h : B) : if b = true then A else B := by rw [hc]; exact iteF h
def oW : Option (List Bool) → V
  | none => .non
  | some x => .str (W x)
/-! slices -/
theorem W_drop {a : List Bool} {i : Int} (h : 0 ≤ i) : Txt.slice (W a) (some i) none = W (a.drop i.toNat) := by
  unfold W; rw [slice_from h, List.map_drop]
theorem W_take {a : List Bool} {i : Int} (h : 0 ≤ i) : Txt.slice (W a) none (some i) = W (a.take i.toNat) := by
  unfold W; rw [slice_to h, List.map_take]
theorem repl_succ (l : List Bool) (n : Nat) : (List.replicate (n + 1) l).flatten = l ++ (List.replicate n l).flatten := by rw [List.replicate_succ]; rfl
theorem foldl_app : ∀ (n : Nat) (a b : Array Nat), ((List.replicate n a).foldl (· ++ ·) b).toList = b.toList ++ (List.replicate n a.toList).flatten
  | 0, a, b => by simp
  | n + 1, a, b => by
    rw [List.replicate_succ, List.foldl_cons, foldl_app n a (b ++ a), List.replicate_succ, List.flatten_cons, Array.toList_append, List.append_assoc]
theorem mul_W {l : List Bool} {n : Nat} (h : 1 ≤ n) : Txt.mul (W l) (n : Int) = W (List.replicate n l).flatten := by
  refine TL.ext_tl ?_
  unfold Txt.mul
  rw [if_neg (by omega)]
  by_cases c : (((n : Int) == 1) || (W l).length == 0) = true
  · rw [if_pos c]
    simp only [Bool.or_eq_true, beq_iff_eq] at c
    rcases c with c | c
    · have : n = 1 := by omega
      subst this
      simp
    · rw [W_len] at c
      have : l = [] := List.length_eq_zero_iff.mp c
      subst this
      rw [show (List.replicate n ([] : List Bool)).flatten = [] by simp]
  · rw [if_neg c]
    show ((List.replicate (n : Int).toNat (W l).cps).foldl (· ++ ·) #[]).toList = _
    rw [foldl_app, Int.toNat_natCast]
    show [] ++ (List.replicate n (l.map bt)).flatten = ((List.replicate n l).flatten).map bt
    rw [List.map_flatten, List.map_replicate, List.nil_append]
end U

set_option maxRecDepth 100000
set_option maxHeartbeats 4000000
/-! rules, in plain Lean -/
namespace U
abbrev Stf := List Bool × Bool
def putM (ss : List Stf) (l : List Bool) : Option Bool := (ss.find? fun s => s.1.isSuffixOf l).map (·.2)
/-- the bits that are put in behind l -/
inductive Ins (ss : List Stf) : List Bool → List Bool → Prop
  | stop {l : List Bool} : putM ss l = none → Ins ss l []
  | more {l x : List Bool} {b : Bool} : putM ss l = some b → Ins ss (l ++ [b]) x → Ins ss l (b :: x)
inductive Reach (ss : List Stf) : List Bool → Prop
  | nil : Reach ss []
  | next {l x : List Bool} {b : Bool} : Reach ss l → Ins ss (l ++ [b]) x → Reach ss (l ++ [b] ++ x)
def OkR (ss : List Stf) : Prop := ∀ l, Reach ss l → ∀ b, ∃ x, Ins ss (l ++ [b]) x
/-- each message ends, within n bits that are put in at a time -/
def OkN (n : Nat) (ss : List Stf) : Prop := ∀ l, Reach ss l → ∀ b, ∃ x, Ins ss (l ++ [b]) x ∧ x.length ≤ n
abbrev OkS (ss : List Stf) : Prop := OkN 19 ss
theorem OkN.ok {n : Nat} {ss : List Stf} (h : OkN n ss) : OkR ss := fun l r b => by
  obtain ⟨x, hx, _⟩ := h l r b
  exact ⟨x, hx⟩
theorem OkN.mono {n m : Nat} {ss : List Stf} (h : OkN n ss) (hn : n ≤ m) : OkN m ss := fun l r b => by
  obtain ⟨x, hx, h1⟩ := h l r b
  exact ⟨x, hx, Nat.le_trans h1 hn⟩
def tl (n : Nat) (l : List Bool) : List Bool := l.drop (l.length - n)
theorem tl_len (n : Nat) (l : List Bool) : (tl n l).length = min n l.length := by unfold tl; rw [List.length_drop]; omega
theorem tl_le (n : Nat) (l : List Bool) : (tl n l).length ≤ n := by rw [tl_len]; omega
theorem tl_id {n : Nat} {l : List Bool} (h : l.length ≤ n) : tl n l = l := by
  unfold tl
  rw [show l.length - n = 0 by omega, List.drop_zero]
theorem tl_tl {a b : Nat} (h : a ≤ b) (l : List Bool) : tl a (tl b l) = tl a l := by
  unfold tl
  rw [List.drop_drop, List.length_drop]
  congr 1
  omega
theorem tl_of {a b : Nat} (h : a ≤ b) {l m : List Bool} (e : tl b l = tl b m) : tl a l = tl a m := by rw [← tl_tl h l, e, tl_tl h m]
theorem tl_snoc0 (n : Nat) (l : List Bool) (b : Bool) : tl (n + 1) (l ++ [b]) = tl n l ++ [b] := by
  unfold tl
  rw [List.length_append, List.length_cons, List.length_nil, List.drop_append]
  have e : l.length + (0 + 1) - (n + 1) = l.length - n := by omega
  rw [e, show l.length - n - l.length = 0 by omega]
  rfl
theorem tl_zero (l : List Bool) : tl 0 l = [] := by unfold tl; rw [List.drop_eq_nil_iff]; omega
theorem tl_snoc {n : Nat} {l m : List Bool} {b : Bool} (e : tl n l = tl n m) : tl n (l ++ [b]) = tl n (m ++ [b]) := by
  cases n with
  | zero => rw [tl_zero, tl_zero]
  | succ n => rw [tl_snoc0, tl_snoc0, tl_of (Nat.le_succ n) e]
theorem tl_app {n : Nat} {l m : List Bool} (e : tl n l = tl n m) : ∀ x : List Bool, tl n (l ++ x) = tl n (m ++ x)
  | [] => by rw [List.append_nil, List.append_nil]; exact e
  | b :: x => by
    have := tl_app (tl_snoc (b := b) e) x
    rw [List.append_assoc, List.append_assoc] at this
    exact this
theorem suf_iff {p l : List Bool} : p.isSuffixOf l = true ↔ p = tl p.length l := by
  rw [List.isSuffixOf_iff_suffix, List.suffix_iff_eq_drop]
  rfl
theorem suf_tl {L : Nat} {p l m : List Bool} (h : p.length ≤ L) (e : tl L l = tl L m) : p.isSuffixOf l = p.isSuffixOf m := by
  rw [Bool.eq_iff_iff, suf_iff, suf_iff, tl_of h e]
theorem put_tl {L : Nat} {l m : List Bool} (e : tl L l = tl L m) : ∀ {ss : List Stf}, (∀ s ∈ ss, s.1.length ≤ L) → putM ss l = putM ss m
  | [], _ => rfl
  | s :: r, h => by
    have ih := put_tl e (ss := r) fun s hs => h s (List.mem_cons_of_mem _ hs)
    have es := suf_tl (h s List.mem_cons_self) e
    unfold putM at ih ⊢
    rw [List.find?_cons, List.find?_cons, es]
    cases s.1.isSuffixOf m with
    | true => rfl
    | false => exact ih
theorem Ins.tl {ss : List Stf} {L : Nat} (hL : ∀ s ∈ ss, s.1.length ≤ L) {l x : List Bool} (h : Ins ss l x) : ∀ {m}, tl L l = tl L m → Ins ss m x := by
  induction h with
  | stop h => intro m e; exact .stop (by rw [← put_tl e hL]; exact h)
  | more h _ ih => intro m e; exact .more (by rw [← put_tl e hL]; exact h) (ih (tl_snoc e))
theorem Ins.det {ss : List Stf} {l x : List Bool} (h : Ins ss l x) : ∀ {y}, Ins ss l y → x = y := by
  induction h with
  | stop h =>
    intro y hy
    cases hy with
    | stop _ => rfl
    | more h2 _ => rw [h] at h2; cases h2
  | more h _ ih =>
    intro y hy
    cases hy with
    | stop h2 => rw [h] at h2; cases h2
    | more h2 hx =>
      rw [h] at h2
      cases h2
      rw [ih hx]
theorem Ins.end {ss : List Stf} {l x : List Bool} (h : Ins ss l x) : putM ss (l ++ x) = none := by
  induction h with
  | stop h => rw [List.append_nil]; exact h
  | more _ _ ih => rw [List.append_assoc] at ih; exact ih
theorem Ins.drop {ss : List Stf} {l x : List Bool} (h : Ins ss l x) : ∀ {i}, i ≤ x.length → Ins ss (l ++ x.take i) (x.drop i) := by
  induction h with
  | stop h => intro i hi; rw [List.take_nil, List.drop_nil, List.append_nil]; exact .stop h
  | more h hx ih =>
    intro i hi
    cases i with
    | zero => rw [List.take_zero, List.append_nil, List.drop_zero]; exact .more h hx
    | succ i =>
      have := ih (i := i) (by rw [List.length_cons] at hi; omega)
      rw [List.append_assoc] at this
      exact this
theorem Ins.at {ss : List Stf} {l x : List Bool} (h : Ins ss l x) {i : Nat} {b : Bool} (hb : x[i]? = some b) : putM ss (l ++ x.take i) = some b := by
  have hi := (List.getElem?_eq_some_iff.mp hb).1
  have h2 := h.drop (Nat.le_of_lt hi)
  rw [List.drop_eq_getElem_cons hi] at h2
  cases h2 with
  | more h3 _ => rw [h3, ← hb, List.getElem?_eq_getElem hi]
theorem Ins.apart {ss : List Stf} {L : Nat} (hL : ∀ s ∈ ss, s.1.length ≤ L) {l x : List Bool} (h : Ins ss l x) {i j : Nat} (hi : i ≤ x.length) (hj : j ≤ x.length) (e : U.tl L (l ++ x.take i) = U.tl L (l ++ x.take j)) : i = j := by
  have := congrArg List.length (((h.drop hi).tl hL e).det (h.drop hj))
  rw [List.length_drop, List.length_drop] at this
  omega
/-! how many words there are -/
def allW : Nat → List (List Bool)
  | 0 => [[]]
  | n + 1 => [] :: ((allW n).map (false :: ·) ++ (allW n).map (true :: ·))
theorem allW_len : ∀ n, (allW n).length + 1 = 2 ^ (n + 1)
  | 0 => rfl
  | n + 1 => by
    have := allW_len n
    show ([] :: ((allW n).map (false :: ·) ++ (allW n).map (true :: ·))).length + 1 = _
    rw [List.length_cons, List.length_append, List.length_map, List.length_map, Nat.pow_succ]
    omega
theorem mem_allW : ∀ {n : Nat} {w : List Bool}, w.length ≤ n → w ∈ allW n
  | 0, [], _ => List.mem_cons_self
  | 0, _ :: _, h => by rw [List.length_cons] at h; omega
  | n + 1, [], _ => List.mem_cons_self
  | n + 1, b :: w, h => by
    have := mem_allW (n := n) (w := w) (by rw [List.length_cons] at h; omega)
    refine List.mem_cons_of_mem _ (List.mem_append.mpr ?_)
    cases b with
    | false => exact .inl (List.mem_map_of_mem this)
    | true => exact .inr (List.mem_map_of_mem this)
theorem nodup_le {α : Type} [DecidableEq α] : ∀ {l m : List α}, l.Nodup → (∀ x ∈ l, x ∈ m) → l.length ≤ m.length
  | [], _, _, _ => Nat.zero_le _
  | x :: r, m, hn, hs => by
    have hx := hs x List.mem_cons_self
    have hn' := List.nodup_cons.mp hn
    have h2 := nodup_le (l := r) (m := m.erase x) hn'.2 fun y hy => by
      have hne : y ≠ x := fun e => hn'.1 (e ▸ hy)
      exact (List.mem_erase_of_ne hne).mpr (hs y (List.mem_cons_of_mem _ hy))
    rw [List.length_erase_of_mem hx] at h2
    have := List.length_pos_of_mem hx
    rw [List.length_cons]
    omega
theorem words_le {ws : List (List Bool)} {n : Nat} (hn : ws.Nodup) (hl : ∀ w ∈ ws, w.length ≤ n) : ws.length + 1 ≤ 2 ^ (n + 1) := by
  have := nodup_le hn fun w hw => mem_allW (hl w hw)
  have := allW_len n
  omega
theorem Ins.len {ss : List Stf} {L : Nat} (hL : ∀ s ∈ ss, s.1.length ≤ L) {l x : List Bool} (h : Ins ss l x) : x.length + 1 ≤ 2 ^ (L + 1) := by
  have := words_le (ws := (List.range x.length).map fun i => U.tl L (l ++ x.take i)) (n := L) (by
    rw [List.nodup_iff_pairwise_ne, List.pairwise_map]
    refine List.Pairwise.imp_of_mem ?_ List.nodup_range
    intro a b ha hb hne e
    have ha' := List.mem_range.mp ha
    have hb' := List.mem_range.mp hb
    exact hne (h.apart hL (Nat.le_of_lt ha') (Nat.le_of_lt hb') e)) (fun w hw => by
      obtain ⟨i, _, rfl⟩ := List.mem_map.mp hw
      exact tl_le _ _)
  rw [List.length_map, List.length_range] at this
  exact this
/-! the order of the stuffs does not matter -/
def SufFree (ss : List Stf) : Prop := ss.Pairwise fun a b => ¬ a.1 <:+ b.1 ∧ ¬ b.1 <:+ a.1
theorem SufFree.ne {ss : List Stf} (h : SufFree ss) {a b : Stf} (ha : a ∈ ss) (hb : b ∈ ss) (n : a ≠ b) : ¬ a.1 <:+ b.1 := by
  unfold SufFree at h
  induction ss with
  | nil => cases ha
  | cons s r ih =>
    obtain ⟨h1, h2⟩ := List.pairwise_cons.mp h
    rcases List.mem_cons.mp ha with ea | ha'
    · rcases List.mem_cons.mp hb with eb | hb'
      · exact absurd (ea.trans eb.symm) n
      · rw [ea]; exact (h1 _ hb').1
    · rcases List.mem_cons.mp hb with eb | hb'
      · rw [eb]; exact (h1 _ ha').2
      · exact ih h2 ha' hb'
theorem put_iff {ss : List Stf} (h : SufFree ss) {l : List Bool} {b : Bool} : putM ss l = some b ↔ ∃ p, (p, b) ∈ ss ∧ p <:+ l := by
  unfold putM
  constructor
  · intro e
    obtain ⟨s, hs, rfl⟩ := Option.map_eq_some_iff.mp e
    exact ⟨s.1, List.mem_of_find?_eq_some hs, List.isSuffixOf_iff_suffix.mp (List.find?_some (p := fun s : Stf => s.1.isSuffixOf l) hs)⟩
  · rintro ⟨p, hm, hp⟩
    cases e : ss.find? fun s => s.1.isSuffixOf l with
    | none =>
      have := List.find?_eq_none.mp e _ hm
      exact absurd (List.isSuffixOf_iff_suffix.mpr hp) this
    | some s =>
      have hs := List.mem_of_find?_eq_some e
      have hq : s.1 <:+ l := List.isSuffixOf_iff_suffix.mp (List.find?_some (p := fun s : Stf => s.1.isSuffixOf l) e)
      by_cases n : s = (p, b)
      · rw [n]; rfl
      · rcases List.suffix_or_suffix_of_suffix hq hp with z | z
        · exact absurd z (h.ne hs hm n)
        · exact absurd z (h.ne hm hs (Ne.symm n))
theorem SufFree.perm {ss ts : List Stf} (h : SufFree ss) (p : ss.Perm ts) : SufFree ts := by
  unfold SufFree at h ⊢
  exact (List.Perm.pairwise_iff (fun ⟨a, b⟩ => ⟨b, a⟩) p).mp h
theorem put_perm {ss ts : List Stf} (h : SufFree ss) (p : ss.Perm ts) (l : List Bool) : putM ss l = putM ts l := by
  refine Option.ext fun b => ?_
  rw [put_iff h, put_iff (h.perm p)]
  constructor
  · rintro ⟨q, hm, hq⟩; exact ⟨q, p.mem_iff.mp hm, hq⟩
  · rintro ⟨q, hm, hq⟩; exact ⟨q, p.mem_iff.mpr hm, hq⟩
theorem Ins.congr {ss ts : List Stf} (h : ∀ l, putM ss l = putM ts l) {l x : List Bool} (i : Ins ss l x) : Ins ts l x := by
  induction i with
  | stop e => exact .stop (by rw [← h]; exact e)
  | more e _ ih => exact .more (by rw [← h]; exact e) ih
theorem Reach.congr {ss ts : List Stf} (h : ∀ l, putM ss l = putM ts l) {l : List Bool} (r : Reach ss l) : Reach ts l := by
  induction r with
  | nil => exact .nil
  | next _ i ih => exact .next ih (i.congr h)
theorem OkR.congr {ss ts : List Stf} (h : ∀ l, putM ss l = putM ts l) (o : OkR ss) : OkR ts := fun l r b => by
  obtain ⟨x, hx⟩ := o l (r.congr fun l => (h l).symm) b
  exact ⟨x, hx.congr h⟩
/-! so many puts, one behind another -/
def stP (ss : List Stf) (l : List Bool) : List Bool := match putM ss l with
  | none => l
  | some b => l ++ [b]
def itP (ss : List Stf) : Nat → List Bool → List Bool
  | 0, l => l
  | n + 1, l => itP ss n (stP ss l)
theorem itP_succ (ss : List Stf) : ∀ (n : Nat) (l : List Bool), itP ss (n + 1) l = stP ss (itP ss n l)
  | 0, _ => rfl
  | n + 1, l => itP_succ ss n (stP ss l)
theorem itP_stop {ss : List Stf} {l : List Bool} (h : putM ss l = none) : ∀ n, itP ss n l = l
  | 0 => rfl
  | n + 1 => by
    show itP ss n (stP ss l) = l
    have e : stP ss l = l := by unfold stP; rw [h]
    rw [e, itP_stop h n]
theorem itP_add (ss : List Stf) : ∀ (i j : Nat) (l : List Bool), itP ss (i + j) l = itP ss j (itP ss i l)
  | 0, j, l => by rw [Nat.zero_add]; rfl
  | i + 1, j, l => by rw [show i + 1 + j = (i + j) + 1 by omega]; exact itP_add ss i j (stP ss l)
theorem itP_rest {ss : List Stf} {i n : Nat} {l : List Bool} (h : putM ss (itP ss i l) = none) (hi : i ≤ n) : itP ss n l = itP ss i l := by
  rw [show n = i + (n - i) by omega, itP_add, itP_stop h]
theorem itP_or (ss : List Stf) : ∀ (n : Nat) (l : List Bool), (itP ss n l).length = l.length + n ∨ ∃ x, Ins ss l x ∧ itP ss n l = l ++ x
  | 0, l => .inl rfl
  | n + 1, l => by
    cases e : putM ss l with
    | none => exact .inr ⟨[], .stop e, by rw [itP_stop e, List.append_nil]⟩
    | some b =>
      have es : stP ss l = l ++ [b] := by unfold stP; rw [e]
      show (itP ss n (stP ss l)).length = _ ∨ ∃ x, Ins ss l x ∧ itP ss n (stP ss l) = l ++ x
      rw [es]
      rcases itP_or ss n (l ++ [b]) with h | ⟨x, h1, h2⟩
      · left; rw [h, List.length_append, List.length_cons, List.length_nil]; omega
      · exact .inr ⟨b :: x, .more e h1, by rw [h2, List.append_assoc]; rfl⟩
theorem itP_le (ss : List Stf) : ∀ (n : Nat) (l : List Bool), l.length ≤ (itP ss n l).length ∧ (itP ss n l).length ≤ l.length + n
  | 0, l => ⟨Nat.le_refl _, Nat.le_refl _⟩
  | n + 1, l => by
    have h := itP_le ss n (stP ss l)
    have e : l.length ≤ (stP ss l).length ∧ (stP ss l).length ≤ l.length + 1 := by
      unfold stP
      cases putM ss l with
      | none => exact ⟨Nat.le_refl _, Nat.le_succ _⟩
      | some b => show l.length ≤ (l ++ [b]).length ∧ (l ++ [b]).length ≤ _; rw [List.length_append, List.length_cons, List.length_nil]; omega
    show l.length ≤ (itP ss n (stP ss l)).length ∧ (itP ss n (stP ss l)).length ≤ _
    omega
/-- a closed set of standings, of 5 bits at most, shows that no message is without end -/
theorem okS_of {ss : List Stf} (kn : List (List Bool)) (hL : ∀ s ∈ ss, s.1.length ≤ 5) (h0 : [] ∈ kn) (hc : ∀ w ∈ kn, ∀ b, (itP ss 24 (w ++ [b])).length ≤ w.length + 20 ∧ tl 5 (itP ss 24 (w ++ [b])) ∈ kn) : OkS ss := by
  have hx : ∀ w ∈ kn, ∀ b, ∃ x, Ins ss (w ++ [b]) x ∧ tl 5 (w ++ [b] ++ x) ∈ kn ∧ x.length ≤ 19 := fun w hw b => by
    obtain ⟨h1, h2⟩ := hc w hw b
    rcases itP_or ss 24 (w ++ [b]) with h | ⟨x, hi, e⟩
    · rw [h, List.length_append, List.length_cons, List.length_nil] at h1; omega
    · rw [e] at h2 h1; exact ⟨x, hi, h2, by rw [List.length_append, List.length_append, List.length_cons, List.length_nil] at h1; omega⟩
  have hr : ∀ l, Reach ss l → ∃ w ∈ kn, tl 5 w = tl 5 l := fun l r => by
    induction r with
    | nil => exact ⟨[], h0, rfl⟩
    | @next l x b r i ih =>
      obtain ⟨w, hw, e⟩ := ih
      obtain ⟨y, hy, hm, _⟩ := hx w hw b
      have e2 := tl_snoc (b := b) e
      have ey := (hy.tl hL e2).det i
      subst ey
      exact ⟨_, hm, by rw [tl_tl (Nat.le_refl 5)]; exact tl_app e2 y⟩
  intro l r b
  obtain ⟨w, hw, e⟩ := hr l r
  obtain ⟨y, hy, _, h19⟩ := hx w hw b
  exact ⟨y, hy.tl hL (tl_snoc e), h19⟩
theorem okS_dec {ss : List Stf} (hL : (ss.all fun s => decide (s.1.length ≤ 5)) = true) (h : ((allW 5).all fun w => [false, true].all fun b => decide ((itP ss 24 (w ++ [b])).length ≤ w.length + 20)) = true) : OkS ss := by
  refine okS_of (allW 5) (fun s hs => of_decide_eq_true (List.all_eq_true.mp hL s hs)) (mem_allW (by decide)) fun w hw b => ⟨?_, mem_allW (tl_le _ _)⟩
  have := List.all_eq_true.mp (List.all_eq_true.mp h w hw) b (by cases b <;> decide)
  exact of_decide_eq_true this
theorem okS_11 : OkS [([true, true], false)] := okS_dec (by decide +kernel) (by decide +kernel)
theorem okS_001 : OkS [([false, false, true], true)] := okS_dec (by decide +kernel) (by decide +kernel)
theorem okS_1 : OkS [([true], false)] := okS_dec (by decide +kernel) (by decide +kernel)
theorem okS_00 : OkS [([false, false], true)] := okS_dec (by decide +kernel) (by decide +kernel)
theorem okS_nil : OkS [] := okS_dec (by decide +kernel) (by decide +kernel)
theorem okR_nil : OkR [] := okS_nil.ok
theorem OkN.congr {n : Nat} {ss ts : List Stf} (h : ∀ l, putM ss l = putM ts l) (o : OkN n ss) : OkN n ts := fun l r b => by
  obtain ⟨x, hx, hl⟩ := o l (r.congr fun l => (h l).symm) b
  exact ⟨x, hx.congr h, hl⟩
/-- the line for a message -/
inductive Body (ss : List Stf) : List Bool → List Bool → Prop
  | nil : Body ss [] []
  | snoc {m l x : List Bool} {b : Bool} : Body ss m l → Ins ss (l ++ [b]) x → Body ss (m ++ [b]) (l ++ [b] ++ x)
theorem Body.reach {ss : List Stf} {m l : List Bool} (h : Body ss m l) : Reach ss l := by
  induction h with
  | nil => exact .nil
  | snoc _ i ih => exact .next ih i
theorem Body.congr {ss ts : List Stf} (h : ∀ l, putM ss l = putM ts l) {m l : List Bool} (b : Body ss m l) : Body ts m l := by
  induction b with
  | nil => exact .nil
  | snoc _ i ih => exact .snoc ih (i.congr h)
theorem body_steps {N : Nat} {ss : List Stf} (o : OkN N ss) (m : List Bool) : ∃ f : Nat → List Bool, f 0 = [] ∧ (∀ i b, m[i]? = some b → ∃ x, Ins ss (f i ++ [b]) x ∧ x.length ≤ N ∧ f (i + 1) = f i ++ [b] ++ x) ∧ (∀ i, i ≤ m.length → Body ss (m.take i) (f i) ∧ (f i).length ≤ (N + 1) * i) := by
  have step : ∀ (n : Nat) (hn : n ≤ m.length), ∃ f : Nat → List Bool, f 0 = [] ∧ (∀ i b, i < n → m[i]? = some b → ∃ x, Ins ss (f i ++ [b]) x ∧ x.length ≤ N ∧ f (i + 1) = f i ++ [b] ++ x) ∧ (∀ i, i ≤ n → Body ss (m.take i) (f i) ∧ (f i).length ≤ (N + 1) * i) := by
    intro n
    induction n with
    | zero => exact fun _ => ⟨fun _ => [], rfl, fun i b h => absurd h (Nat.not_lt_zero _), fun i h => by rw [Nat.le_zero.mp h, List.take_zero]; exact ⟨.nil, Nat.le_refl _⟩⟩
    | succ n ih =>
      intro hn
      obtain ⟨f, h0, h1, h2⟩ := ih (by omega)
      have hb : m[n]? = some m[n] := List.getElem?_eq_getElem (by omega)
      obtain ⟨hB, hl⟩ := h2 n (Nat.le_refl _)
      obtain ⟨x, hx, hx19⟩ := o (f n) hB.reach m[n]
      refine ⟨fun i => if i = n + 1 then f n ++ [m[n]] ++ x else f i, ?_, fun i b hi hb' => ?_, fun i hi => ?_⟩
      · show (if 0 = n + 1 then _ else f 0) = []
        rw [if_neg (by omega), h0]
      · show ∃ y, Ins ss ((if i = n + 1 then _ else f i) ++ [b]) y ∧ _ ∧ (if i + 1 = n + 1 then f n ++ [m[n]] ++ x else f (i + 1)) = (if i = n + 1 then f n ++ [m[n]] ++ x else f i) ++ [b] ++ y
        rw [if_neg (show ¬ i = n + 1 by omega)]
        by_cases e : i = n
        · subst e
          rw [hb] at hb'
          cases hb'
          rw [if_pos rfl]
          exact ⟨x, hx, hx19, rfl⟩
        · rw [if_neg (by omega)]
          exact h1 i b (by omega) hb'
      · show Body ss (m.take i) (if i = n + 1 then _ else f i) ∧ (if i = n + 1 then f n ++ [m[n]] ++ x else f i).length ≤ (N + 1) * i
        by_cases e : i = n + 1
        · subst e
          rw [if_pos rfl, List.take_add_one, hb]
          refine ⟨.snoc hB hx, ?_⟩
          rw [List.length_append, List.length_append, List.length_cons, List.length_nil, Nat.mul_add]
          omega
        · rw [if_neg e]
          exact h2 i (by omega)
  obtain ⟨f, h0, h1, h2⟩ := step m.length (Nat.le_refl _)
  exact ⟨f, h0, fun i b hb => h1 i b (List.getElem?_eq_some_iff.mp hb).1 hb, h2⟩
theorem Ins.itP {ss : List Stf} {l x : List Bool} (h : Ins ss l x) : ∀ n, itP ss n l = l ++ x.take n := by
  induction h with
  | stop h => intro n; rw [itP_stop h, List.take_nil, List.append_nil]
  | @more l x b h _ ih =>
    intro n
    cases n with
    | zero => rw [List.take_zero, List.append_nil]; rfl
    | succ n =>
      have es : stP ss l = l ++ [b] := by unfold stP; rw [h]
      show U.itP ss n (stP ss l) = _
      rw [es, ih n, List.append_assoc]
      rfl
theorem ins_of_itP {ss : List Stf} {l y : List Bool} {j : Nat} (h : itP ss j l = l ++ y) (hn : putM ss (l ++ y) = none) (hj : y.length = j) : Ins ss l y := by
  rcases itP_or ss (j + 1) l with c | ⟨x, hx, e⟩
  · rw [itP_succ, h] at c
    unfold stP at c
    rw [hn] at c
    have c' : (l ++ y).length = l.length + (j + 1) := c
    rw [List.length_append] at c'
    omega
  · rw [itP_succ, h] at e
    unfold stP at e
    rw [hn] at e
    have e' : l ++ y = l ++ x := e
    rw [List.append_cancel_left e']
    exact hx
/-- the line for a message, as a function -/
def bodyF (ss : List Stf) (m : List Bool) : List Bool := m.foldl (fun l b => itP ss 40 (l ++ [b])) []
theorem Body.isF {ss : List Stf} (o : OkN 39 ss) {m l : List Bool} (h : Body ss m l) : l = bodyF ss m := by
  induction h with
  | nil => rfl
  | @snoc m l x b hb hi ih =>
    obtain ⟨y, hy, h39⟩ := o l hb.reach b
    have e := hi.det hy
    subst e
    unfold bodyF
    rw [List.foldl_append]
    show _ = itP ss 40 (bodyF ss m ++ [b])
    rw [← ih, hi.itP, List.take_of_length_le (by omega)]
theorem body_ex {ss : List Stf} (o : OkN 39 ss) (m : List Bool) : Body ss m (bodyF ss m) := by
  obtain ⟨f, _, _, h⟩ := body_steps o m
  have := (h m.length (Nat.le_refl _)).1
  rw [List.take_length] at this
  rw [← this.isF o]
  exact this
end U

set_option maxRecDepth 100000
set_option maxHeartbeats 4000000
namespace U
open PySem PySem.Spec PyProof.Rows L2
def top (i : Nat) : Stmt := PySem.Challenge.pw_unseenflips_k77_whole_live_receivers_and.main.body.getD i (.Pass ⟨0, 0, 0, 0⟩)
abbrev s_wall : Stmt := top 0
abbrev s_InvalidRule_init : Stmt := inClass (top 3) 0
abbrev s_InvalidCheck_init : Stmt := inClass (top 4) 0
abbrev s_InvalidText_init : Stmt := inClass (top 5) 0
abbrev s_InvalidWord_init : Stmt := inClass (top 6) 0
abbrev s_Refused_init : Stmt := inClass (top 7) 0
abbrev s_put_behind : Stmt := top 9
abbrev s_body : Stmt := top 10
abbrev s_taken_out : Stmt := top 11
abbrev s_send : Stmt := top 12
abbrev s_read_part : Stmt := top 13
abbrev s_receive : Stmt := top 14
abbrev s_cut_up : Stmt := top 15
abbrev s_frames : Stmt := top 16
abbrev s_is_sequence : Stmt := top 19
abbrev s_is_word : Stmt := top 20
abbrev s_is_bit : Stmt := top 21
abbrev s_other : Stmt := top 22
abbrev s_swapped_word : Stmt := top 23
abbrev s_tail : Stmt := top 24
abbrev s_Live_init : Stmt := inClass (top 26) 0
abbrev s_Live_rule : Stmt := inClass (top 26) 1
abbrev s_Live_check : Stmt := inClass (top 26) 2
abbrev s_Live_heard : Stmt := inClass (top 26) 3
abbrev s_Live_is_open : Stmt := inClass (top 26) 4
abbrev s_Live_part : Stmt := inClass (top 26) 5
abbrev s_Live_found : Stmt := inClass (top 26) 6
abbrev s_Live_take : Stmt := inClass (top 26) 7
abbrev s_Live_hear : Stmt := inClass (top 26) 8
abbrev s_Live_several : Stmt := inClass (top 26) 9
abbrev s_Live_change : Stmt := inClass (top 26) 10
abbrev s_Live_undo : Stmt := inClass (top 26) 11
abbrev s_Live_within : Stmt := inClass (top 26) 12
abbrev s_Live_len : Stmt := inClass (top 26) 13
abbrev s_Live_iter : Stmt := inClass (top 26) 14
abbrev s_Check_init : Stmt := inClass (top 29) 0
abbrev s_Check_read : Stmt := inClass (top 29) 1
abbrev s_Check_degree : Stmt := inClass (top 29) 2
abbrev s_Check_rest : Stmt := inClass (top 29) 3
abbrev s_Check_step : Stmt := inClass (top 29) 4
abbrev s_Check_bits_for : Stmt := inClass (top 29) 5
abbrev s_Check_is_good : Stmt := inClass (top 29) 6
abbrev s_Check_eq : Stmt := inClass (top 29) 7
abbrev s_Check_str : Stmt := inClass (top 29) 8
abbrev s_Check_iter : Stmt := inClass (top 29) 9
abbrev s_is_stuff : Stmt := top 31
abbrev s_are_stuffs : Stmt := top 32
abbrev s_stuff_in : Stmt := top 33
abbrev s_Rule_init : Stmt := inClass (top 34) 0
abbrev s_Rule_read : Stmt := inClass (top 34) 1
abbrev s_Rule_longest : Stmt := inClass (top 34) 2
abbrev s_Rule_swapped : Stmt := inClass (top 34) 3
abbrev s_Rule_put : Stmt := inClass (top 34) 4
abbrev s_Rule_put_in : Stmt := inClass (top 34) 5
abbrev s_Rule_is_endless : Stmt := inClass (top 34) 6
abbrev s_Rule_len : Stmt := inClass (top 34) 7
abbrev s_Rule_iter : Stmt := inClass (top 34) 8
abbrev s_Rule_eq : Stmt := inClass (top 34) 9
abbrev s_Rule_str : Stmt := inClass (top 34) 10
abbrev s_l_seed : Stmt := top 36
abbrev s_l_choose : Stmt := top 37
abbrev s_l_one_of : Stmt := top 38
abbrev s_l_word : Stmt := top 39
abbrev s_l_turn : Stmt := top 40
abbrev s_l_ends : Stmt := top 41
abbrev s_l_due : Stmt := top 42
abbrev s_l_chain : Stmt := top 43
abbrev s_l_tails : Stmt := top 44
abbrev s_l_are_stuffs : Stmt := top 45
abbrev s_l_stuff : Stmt := top 46
abbrev s_l_rule : Stmt := top 47
abbrev s_l_body : Stmt := top 48
abbrev s_l_reading : Stmt := top 49
abbrev s_l_words : Stmt := top 50
abbrev s_l_check : Stmt := top 51
abbrev s_l_rest : Stmt := top 52
abbrev s_l_right : Stmt := top 53
abbrev s_l_bits_for : Stmt := top 54
abbrev s_l_first : Stmt := top 55
abbrev s_l_part_told : Stmt := top 56
abbrev s_l_cut : Stmt := top 57
abbrev s_l_stream : Stmt := top 58
abbrev s_l_pieces : Stmt := top 59
abbrev s_l_open : Stmt := top 60
abbrev s_l_long_right : Stmt := top 61
abbrev s_l_mirror_right : Stmt := top 62
abbrev s_law : Stmt := top 63
structure Tx (mg : Str → Option Value) : Prop where
  b_len : mg "len" = none
  b_abs : mg "abs" = none
  b_int : mg "int" = none
  b_range : mg "range" = none
  b_max : mg "max" = none
  b_min : mg "min" = none
  b_enumerate : mg "enumerate" = none
  b_zip : mg "zip" = none
  b_dict : mg "dict" = none
  b_list : mg "list" = none
  b_tuple : mg "tuple" = none
  b_isinstance : mg "isinstance" = none
  b_bool : mg "bool" = none
  b_str : mg "str" = none
  b_all : mg "all" = none
  b_any : mg "any" = none
  b_sum : mg "sum" = none
  b_sorted : mg "sorted" = none
  b_repr : mg "repr" = none
end U

set_option maxRecDepth 100000
set_option maxHeartbeats 4000000
namespace U
open PySem PySem.Spec PyProof.Rows
open L2 hiding Fun CX0 E0 pass0 Fun.binds
open C8 Lx
local macro_rules | `(tactic| walk_at "g") => `(tactic| repeat (first | (refine ⟨_, rfl, ?_⟩) | (refine ⟨_, _, rfl, rfl, ?_⟩) | (refine ⟨rfl, ?_⟩) | (refine .inl ⟨_, rfl, ?_⟩)))
/-- the box: a list of two ints -/
def Box (H : Hp) (b : Addr) : Prop := ∃ x y : Int, H b = some (.lst [.int x, .int y])
/-- all but the box at b stands as it stood; the box is a box -/
def Up (b : Addr) (H H' : Hp) : Prop := (∀ c o, H c = some o → c ≠ b → H' c = some o) ∧ Box H' b
theorem Box.same {b : Addr} {H H' : Hp} (h : Box H b) (y : Same H H') : Box H' b := by obtain ⟨i, j, e⟩ := h; exact ⟨i, j, y _ _ e⟩
theorem Up.refl {b : Addr} {H : Hp} (h : Box H b) : Up b H H := ⟨fun _ _ e _ => e, h⟩
theorem Up.trans {b : Addr} {H H1 H2 : Hp} (x : Up b H H1) (y : Up b H1 H2) : Up b H H2 := ⟨fun c o e n => y.1 c o (x.1 c o e n) n, y.2⟩
theorem Up.same {b : Addr} {H H1 H2 : Hp} (x : Up b H H1) (y : Same H1 H2) : Up b H H2 := ⟨fun c o e n => y c o (x.1 c o e n), x.2.same y⟩
theorem Up.of_same {b : Addr} {H H2 : Hp} (h : Box H b) (y : Same H H2) : Up b H H2 := (Up.refl h).same y
theorem same_upd {H : Hp} {p : Addr} {o : HO} (h : H p = none) : Same H (upd H p o) := fun b x e => by
  rw [upd_ne (ne_of_none e h)]
  exact e
theorem same_mut' {H H1 : Hp} {p : Addr} {o : HO} (s : Same H H1) (n : H p = none) : Same H (upd H1 p o) := fun c u e => by
  rw [upd_ne (ne_of_none e n)]
  exact s _ _ e
theorem Box.ne {H : Hp} {b p : Addr} (h : Box H b) (n : H p = none) : p ≠ b := by
  obtain ⟨i, j, e⟩ := h
  intro z
  rw [z, e] at n
  cases n
/-- a thing that is no list of two ints is not the box -/
theorem Box.neT {H : Hp} {b p : Addr} {xs : List V} (h : Box H b) (n : H p = some (.tup xs)) : p ≠ b := by
  obtain ⟨i, j, e⟩ := h
  intro z
  rw [z, e] at n
  cases n
/-- an object that H doesn't know, changed -/
theorem Up.mut {b : Addr} {H H1 : Hp} {p : Addr} {o : HO} (x : Up b H H1) (h : H p = none) (n : p ≠ b) : Up b H (upd H1 p o) :=
  ⟨fun c u e nc => by rw [upd_ne (ne_of_none e h)]; exact x.1 c u e nc, by obtain ⟨i, j, e⟩ := x.2; exact ⟨i, j, by rw [upd_ne (Ne.symm n)]; exact e⟩⟩
theorem Up.free {b : Addr} {H H1 : Hp} {p : Addr} (x : Up b H H1) (h : H1 p = none) : H p = none := by
  cases e : H p with
  | none => rfl
  | some o =>
    by_cases n : p = b
    · obtain ⟨i, j, e2⟩ := x.2
      rw [n, e2] at h
      cases h
    · rw [x.1 p o e n] at h
      cases h
/-- what is no list stands as it stood -/
def NL (H H' : Hp) : Prop := ∀ c o, H c = some o → (∀ xs, o ≠ .lst xs) → H' c = some o
theorem NL.refl (H : Hp) : NL H H := fun _ _ e _ => e
theorem NL.trans {H H1 H2 : Hp} (a : NL H H1) (b : NL H1 H2) : NL H H2 := fun c o e n => b c o (a c o e n) n
theorem NL.of {H H' : Hp} (s : Same H H') : NL H H' := fun c o e _ => s c o e
theorem Up.nl {b : Addr} {H H' : Hp} (hb : Box H b) (u : Up b H H') : NL H H' := fun c o e n => u.1 c o e fun z => by
  obtain ⟨i, j, hb⟩ := hb
  rw [z, hb] at e
  exact n _ (Option.some.inj e).symm
theorem nl_upd {H : Hp} {q : Addr} {xs : List V} {o : HO} (h : H q = some (.lst xs)) : NL H (upd H q o) := fun c u e n => by
  have nq : c ≠ q := fun z => by
    rw [z, h] at e
    exact n _ (Option.some.inj e).symm
  rw [upd_ne nq]
  exact e
theorem NL.tup {H H' : Hp} {a : Addr} {xs : List V} (n : NL H H') (h : H a = some (.tup xs)) : H' a = some (.tup xs) := n _ _ h fun _ z => by cases z
theorem NL.ins {H H' : Hp} {a C dx : Addr} {fs : List (Str × V)} (n : NL H H') (h : H a = some (.ins C dx fs)) : H' a = some (.ins C dx fs) := n _ _ h fun _ z => by cases z
def spSeed (K : PySem.W.Frag) : Sp := fun vs H Q _ => ∃ (a : Addr) (ns : List Int) (k : Nat), vs = [.ref a, .int k] ∧ SqL K H a (ns.map V.int) ∧
  ∀ p H', H p = none → Same H H' → Box H' p → Q (.ref p) H'
def spChoose : Sp := fun vs H Q _ => ∃ (b : Addr) (m : Int), vs = [.ref b, .int m] ∧ Box H b ∧ 0 < m ∧ m < 1073741824 ∧
  ∀ (d : Int) H', 0 ≤ d → d < m → Up b H H' → Q (.int d) H'
def spOneOf : Sp := fun vs H Q _ => ∃ (b l : Addr) (xs : List V), vs = [.ref b, .ref l] ∧ Box H b ∧ H l = some (.lst xs) ∧ l ≠ b ∧ 0 < xs.length ∧ xs.length < 1000 ∧
  ∀ (v : V) H', v ∈ xs → Up b H H' → Q v H'
theorem cell_at {ns : List Int} {k : Int} (h0 : 0 ≤ k) (h1 : k < ns.length) : ∃ z, atI (ns.map V.int) k = some (V.int z) := by
  obtain ⟨j, rfl⟩ := Int.eq_ofNat_of_zero_le h0
  have h2 : j < ns.length := by omega
  exact ⟨ns[j], atI_nat (by simp [h2])⟩
section
variable {P : Program} {w : World} {K : PySem.W.Frag} {mg : Str → Option Value} {base : Heap}
theorem sc_l_choose : FnScope ["_law_box", "_law_many", "_law_digit", "_law_raw"] ["_law_box", "_law_many"] (fnScope s_l_choose) := fnScope_by (by decide +kernel)
theorem cal_l_choose {f : Addr} {fd : FuncData} (F : Def K mg "_law_choose" s_l_choose f fd) (b : Binds K fd ["_law_box", "_law_many"] []) (T : Tx mg) : Cal P w K mg base 1 "_law_choose" spChoose [] := by
  refine cal0 F b .nil sc_l_choose (fun vs H Q E h => ?_) (fun cdv A outer s H vs Q E hr h => ?_)
  · obtain ⟨_, _, rfl, _⟩ := h; rfl
  · obtain ⟨bx, m, rfl, ⟨x, y, hb⟩, m0, m1, k⟩ := h
    refine ⟨_, (pss_cons (ps_if (pt_cmpR op_gt (pe_ix ix_list (pv 0) pe_int (fun _ _ => rfl)) pe_int (nomark _)) (pss_cons (ps_set (i := 2) sc_l_choose.nd rfl (.inl rfl) (pe_op op_mod (pe_callTy call_int1 (by rfl) T.b_int (by decide +kernel) (pa_cons (pe_ix ix_list (pv 0) pe_int (fun _ _ => rfl)) pa_nil)) (pv 1)))
    (pss_cons (ps_asg (pe_op op_fdiv (pe_ix ix_list (pv 0) pe_int (fun _ _ => rfl)) (pv 1)) (pg_sub (pv 0) pe_int set_list))
    (pss_one (ps_ret (pv 2))))) pss_nil)
    (pss_cons (ps_set (i := 3) sc_l_choose.nd rfl (.inl rfl) (pe_op op_mod (pe_callTy call_int1 (by rfl) T.b_int (by decide +kernel) (pa_cons (pe_op op_add (pe_op op_mul (pe_ix ix_list (pv 0) pe_int (fun _ _ => rfl)) pe_int) pe_int) pa_nil)) pe_int))
    (pss_cons (ps_asg (pe_op op_add (pe_op op_mod (pe_callTy call_int1 (by rfl) T.b_int (by decide +kernel) (pa_cons (pe_op op_add (pe_op op_mul (pv 3) pe_int) pe_int) pa_nil)) pe_int) pe_int) (pg_sub (pv 0) pe_int set_list))
    (pss_one (ps_ret (pe_op op_mod (pe_callTy call_int1 (by rfl) T.b_int (by decide +kernel) (pa_cons (pe_op op_fdiv (pe_op op_add (pe_op op_mul (pv 3) pe_int) (pe_ix ix_list (pv 0) pe_int (fun _ _ => rfl))) pe_int) pa_nil)) (pv 1))))))), ?_⟩
    have up : ∀ x' y' : Int, Up bx H (upd H bx (.lst [.int x', .int y'])) := fun x' y' => ⟨fun c o e n => by rw [upd_ne n]; exact e, _, _, upd_same⟩
    refine ⟨_, rfl, bx, _, _, _, rfl, rfl, SqL.of hb, atI_nat (j := 0) rfl, _, _, rfl, rfl, _, rfl, ?_⟩
    refine ite2 (fun h1 => ?_) (fun h1 => ?_)
    · refine ⟨_, rfl, bx, _, _, _, rfl, rfl, SqL.of hb, atI_nat (j := 0) rfl, .inl ⟨_, rfl, _, rfl, _, _, rfl, rfl, m0, ?_⟩⟩
      refine ⟨_, rfl, bx, _, _, _, rfl, rfl, SqL.of hb, atI_nat (j := 0) rfl, _, rfl, _, _, rfl, rfl, ⟨m0, m1⟩, _, rfl, bx, _, _, 0, rfl, rfl, hb, rfl, ?_⟩
      exact ⟨_, rfl, k _ _ (Int.emod_nonneg _ (by omega)) (Int.emod_lt_of_pos _ m0) (up _ _)⟩
    · refine ⟨_, rfl, bx, _, _, _, rfl, rfl, SqL.of hb, atI_nat (j := 1) rfl, _, _, rfl, rfl, .inr ⟨by decide, by decide⟩, _, _, rfl, rfl, .inl ⟨_, rfl, _, _, rfl, rfl, (by show (0 : Int) < 2147483563; decide), ?_⟩⟩
      refine ⟨_, rfl, _, _, rfl, rfl, .inr ⟨by decide, by decide⟩, _, _, rfl, rfl, .inl ⟨_, rfl, _, _, rfl, rfl, (by show (0 : Int) < 2147483629; decide), _, _, rfl, rfl, _, rfl, bx, _, _, 1, rfl, rfl, hb, rfl, ?_⟩⟩
      refine ⟨_, rfl, _, _, rfl, rfl, .inr ⟨by decide, by decide⟩, _, rfl, bx, _, _, _, rfl, rfl, SqL.of upd_same, atI_nat (j := 1) rfl, _, _, rfl, rfl, _, _, rfl, rfl, ⟨by decide, by decide⟩, .inl ⟨_, rfl, _, rfl, _, _, rfl, rfl, m0, ?_⟩⟩
      exact k _ _ (Int.emod_nonneg _ (by omega)) (Int.emod_lt_of_pos _ m0) (up _ _)
theorem sc_l_seed : FnScope ["_law_script", "_law_k", "_law_cell"] ["_law_script", "_law_k"] (fnScope s_l_seed) := fnScope_by (by decide +kernel)
theorem cal_l_seed {f : Addr} {fd : FuncData} (F : Def K mg "_law_seed" s_l_seed f fd) (b : Binds K fd ["_law_script", "_law_k"] []) (T : Tx mg) : Cal P w K mg base 1 "_law_seed" (spSeed K) [] := by
  refine cal0 F b .nil sc_l_seed (fun vs H Q E h => ?_) (fun cdv A outer s H vs Q E hr h => ?_)
  · obtain ⟨_, _, _, rfl, _⟩ := h; rfl
  · obtain ⟨a, ns, n, rfl, hS, k⟩ := h
    refine ⟨_, (pss_cons (ps_set (i := 2) sc_l_seed.nd rfl (.inl rfl) (pe_op op_add (pe_op op_mul pe_int (pv 1)) pe_int))
    (pss_cons (ps_if (pt_cmpR op_lt (pv 1) (pe_callB call_len_seq (by rfl) T.b_len (by decide +kernel) (pa_cons (pv 0) pa_nil)) (nomark _)) (pss_one (ps_set (i := 2) sc_l_seed.nd rfl (.inl rfl) (pe_callB call_abs (by rfl) T.b_abs (by decide +kernel) (pa_cons (pe_ix ix_list (pv 0) (pv 1) (fun _ _ => rfl)) pa_nil)))) (pss_one (ps_if (pt_cmpR op_gt (pe_callB call_len_seq (by rfl) T.b_len (by decide +kernel) (pa_cons (pv 0) pa_nil)) pe_int (nomark _)) (pss_one (ps_set (i := 2) sc_l_seed.nd rfl (.inl rfl) (pe_op op_add (pv 2) (pe_op op_mul (pe_op op_mod (pe_callTy call_int1 (by rfl) T.b_int (by decide +kernel) (pa_cons (pe_callB call_abs (by rfl) T.b_abs (by decide +kernel) (pa_cons (pe_ix ix_list (pv 0) (pe_op op_mod (pe_callTy call_int1 (by rfl) T.b_int (by decide +kernel) (pa_cons (pv 1) pa_nil)) (pe_callB call_len_seq (by rfl) T.b_len (by decide +kernel) (pa_cons (pv 0) pa_nil))) (fun _ _ => rfl)) pa_nil)) pa_nil)) pe_int) pe_int)))) pss_nil)))
    (pss_one (ps_ret (pe_lst (pa_cons (pe_ifExp (pt_cmpR op_ge (pv 2) (pe_op op_pow pe_int pe_int) (nomark _)) (pv 2) pe_int) (pa_cons (pe_op op_add (pe_op op_mod (pe_callTy call_int1 (by rfl) T.b_int (by decide +kernel) (pa_cons (pe_op op_add (pe_op op_mul (pe_op op_mod (pe_callTy call_int1 (by rfl) T.b_int (by decide +kernel) (pa_cons (pv 2) pa_nil)) pe_int) pe_int) (pe_op op_mul pe_int (pv 1))) pa_nil)) pe_int) pe_int) pa_nil))))))), ?_⟩
    have fin : ∀ z : Int, tRet (tLst (tCons (tIf (tTest (tOp (rI0 fun i j => V.bl (decide (j ≤ i))) (tVar 2) (tOp (rI CPow fun i j => V.int (i ^ j.toNat)) (tC (V.int 10)) (tC (V.int 18))))) (tVar 2) (tC (V.int 0))) (tCons (tOp (rI0 fun i j => V.int (i + j)) (tOp (rI (fun _ j => 0 < j) fun i j => V.int (i % j)) (tCB (fun xs H Q => (∃ i, xs = [V.int i] ∧ Q (V.int i) H) ∨ ∃ k, xs = [V.bl k] ∧ Q (V.int (if k = true then 1 else 0)) H) (tCons (tOp (rI0 fun i j => V.int (i + j)) (tOp (rI CMul fun i j => V.int (i * j)) (tOp (rI (fun _ j => 0 < j) fun i j => V.int (i % j)) (tCB (fun xs H Q => (∃ i, xs = [V.int i] ∧ Q (V.int i) H) ∨ ∃ k, xs = [V.bl k] ∧ Q (V.int (if k = true then 1 else 0)) H) (tCons (tVar 2) tNil)) (tC (V.int 2147483629))) (tC (V.int 48271))) (tOp (rI CMul fun i j => V.int (i * j)) (tC (V.int 36007)) (tVar 1))) tNil)) (tC (V.int 2147483629))) (tC (V.int 1))) tNil))) { nx := fun _ H' => Q .non H', rt := Q } [some (.ref a), some (.int n), some (.int z)] H := by
      intro z
      refine ⟨_, rfl, _, _, rfl, rfl, ⟨by decide, by decide, by decide⟩, _, _, rfl, rfl, _, rfl, ?_⟩
      refine ite2 (fun h1 => ?_) (fun h1 => ?_)
      all_goals
        first
          | refine ⟨_, rfl, _, rfl, .inl ⟨_, rfl, _, _, rfl, rfl, (by show (0 : Int) < 2147483629; decide), _, _, rfl, rfl, .inr ⟨by decide, by decide⟩, _, rfl, _, _, rfl, rfl, .inl ⟨by decide, by decide⟩, _, _, rfl, rfl, .inl ⟨_, rfl, _, _, rfl, rfl, (by show (0 : Int) < 2147483629; decide), _, _, rfl, rfl, ?_⟩⟩⟩
          | refine ⟨_, rfl, .inl ⟨_, rfl, _, _, rfl, rfl, (by show (0 : Int) < 2147483629; decide), _, _, rfl, rfl, .inr ⟨by decide, by decide⟩, _, rfl, _, _, rfl, rfl, .inl ⟨by decide, by decide⟩, _, _, rfl, rfl, .inl ⟨_, rfl, _, _, rfl, rfl, (by show (0 : Int) < 2147483629; decide), _, _, rfl, rfl, ?_⟩⟩⟩
        exact ⟨by show 2 ≤ sizeLine; decide, fun p hp => k p _ hp (same_upd hp) ⟨_, _, upd_same⟩⟩
    refine ⟨_, rfl, _, _, rfl, rfl, .inl ⟨by decide, by decide⟩, _, _, rfl, rfl, ?_⟩
    refine ⟨_, rfl, _, rfl, a, _, rfl, .inl hS, _, _, rfl, rfl, _, rfl, ?_⟩
    refine ite2 (fun h1 => ?_) (fun h1 => ?_)
    · have h2 : (n : Int) < ((ns.map V.int).length : Int) := of_decide_eq_true h1
      rw [List.length_map] at h2
      obtain ⟨z, hz⟩ := cell_at (ns := ns) (by omega : (0 : Int) ≤ n) h2
      refine ⟨_, rfl, _, rfl, a, _, _, _, rfl, rfl, hS, hz, _, rfl, ?_⟩
      exact fin _
    · refine ⟨_, rfl, a, _, rfl, .inl hS, _, _, rfl, rfl, _, rfl, ?_⟩
      refine ite2 (fun h3 => ?_) (fun h3 => ?_)
      · have h4 : (0 : Int) < ((ns.map V.int).length : Int) := of_decide_eq_true h3
        have h5 := h4
        rw [List.length_map] at h5
        obtain ⟨z, hz⟩ := cell_at (ns := ns) (k := (n : Int) % ((ns.map V.int).length : Int)) (Int.emod_nonneg _ (by omega)) (by have := Int.emod_lt_of_pos (n : Int) h4; rw [List.length_map] at this ⊢; exact this)
        refine ⟨_, rfl, _, rfl, _, rfl, .inl ⟨_, rfl, _, rfl, a, _, rfl, .inl hS, _, _, rfl, rfl, h4, a, _, _, _, rfl, rfl, hS, hz, _, rfl, .inl ⟨_, rfl, _, _, rfl, rfl, (by show (0 : Int) < 2147483629; decide), _, _, rfl, rfl, .inr ⟨by decide, by decide⟩, _, _, rfl, rfl, ?_⟩⟩⟩
        exact fin _
      · exact fin _
theorem sc_l_one_of : FnScope ["_law_box", "_law_some"] ["_law_box", "_law_some"] (fnScope s_l_one_of) := fnScope_by (by decide +kernel)
theorem cal_l_one_of {f : Addr} {fd : FuncData} (F : Def K mg "_law_one_of" s_l_one_of f fd) (b : Binds K fd ["_law_box", "_law_some"] []) (T : Tx mg) (c_l_choose : Cal P w K mg base 1 "_law_choose" spChoose []) : Cal P w K mg base 2 "_law_one_of" spOneOf [] := by
  refine cal0 F b .nil sc_l_one_of (fun vs H Q E h => ?_) (fun cdv A outer s H vs Q E hr h => ?_)
  · obtain ⟨_, _, _, rfl, _⟩ := h; rfl
  · obtain ⟨bx, l, xs, rfl, hb, hl, nl, x0, x1, k⟩ := h
    refine ⟨_, (pss_one (ps_ret (pe_ix ix_list (pv 1) (pe_c c_l_choose hr (by decide) rfl (pa_cons (pv 0) (pa_cons (pe_callB call_len_seq (by rfl) T.b_len (by decide +kernel) (pa_cons (pv 1) pa_nil)) pa_nil))) (fun _ _ => rfl)))), ?_⟩
    refine ⟨_, rfl, _, rfl, _, rfl, l, _, rfl, .inl (SqL.of hl), bx, _, rfl, hb, by omega, by omega, fun d H' d0 d1 u => ?_⟩
    obtain ⟨j, rfl⟩ := Int.eq_ofNat_of_zero_le d0
    have hj : j < xs.length := by omega
    have g : xs[j]? = some xs[j] := by simp [hj]
    exact ⟨l, xs, _, xs[j], rfl, rfl, SqL.of (u.1 l _ hl nl), atI_nat g, k _ _ (List.getElem_mem hj) u⟩
end
end U

set_option maxRecDepth 100000
set_option maxHeartbeats 4000000
namespace U
open PySem PySem.Spec PyProof.Rows
open L2 hiding Fun CX0 E0 pass0 Fun.binds
open C8 Lx SX
/-! words told -/
def isW (z : Str) : Bool := z.cps.toList.all fun c => decide (c ∈ ("01" : Str).cps.toList)
theorem isW_W (l : List Bool) : isW (W l) = true := by
  unfold isW
  rw [W_tl, List.all_map, List.all_eq_true]
  intro b _
  cases b <;> decide +kernel
/-- is_word of any value: a text, or a thing whose type is not str -/
def spIsWord (K : PySem.W.Frag) : Sp := fun vs H Q _ => ∃ x, vs = [x] ∧ ((∃ z : Str, x = .str z ∧ z.length ≤ 100000 ∧ ∀ H', Same H H' → Q (.bl (isW z)) H') ∨
  (∃ t, TyX K H x t ∧ PySem.W.kitOne K t (.type "str") = some false ∧ Q (.bl false) H))
theorem spIsWord.word {K : PySem.W.Frag} {H : Hp} {Q : VK} {E : XK} {l : List Bool} (hl : l.length ≤ 100000) (k : ∀ H', Same H H' → Q (.bl true) H') : spIsWord K [.str (W l)] H Q E :=
  ⟨_, rfl, .inl ⟨_, rfl, by rw [W_len]; exact hl, fun H' s => by rw [isW_W]; exact k H' s⟩⟩
section
variable {P : Program} {w : World} {K : PySem.W.Frag} {mg : Str → Option Value} {base : Heap}
theorem sc_is_word : FnScope ["value", "sign"] ["value"] (fnScope s_is_word) := fnScope_by (by decide +kernel)
theorem cal_is_word {f : Addr} {fd : FuncData} {tB : Tok} (F : Def K mg "is_word" s_is_word f fd) (b : Binds K fd ["value"] []) (T : Tx mg) (g_BITS : mg "BITS" = some (.str "01" tB)) : Cal P w K mg base 1 "is_word" (spIsWord K) [] := by
  refine cal0 F b .nil sc_is_word (fun vs H Q E h => ?_) (fun cdv A outer s H vs Q E hr h => ?_)
  · obtain ⟨_, rfl, _⟩ := h; rfl
  · obtain ⟨_, rfl, h⟩ := h
    refine ⟨_, (pss_one (ps_ret (pe_and (pe_callB call_isi (by rfl) T.b_isinstance (by decide +kernel) (pa_cons (pv 0) (pa_cons (pe_bltn (v := .ty "str") (u := .type "str") (by rfl) T.b_str (by decide +kernel) rfl) pa_nil))) (pe_one (pe_callB (cr_all rfl) (by rfl) T.b_all (by decide +kernel) (pa_cons (pe_lc (own := [("sign", 1)]) (g := gName 1) (by rfl) sc_is_word.nd (pi_str (pv 0)) (blkOk_by (own := [("sign", 1)]) (N := ["value", "sign"]) (sc := fnScope s_is_word) (by decide +kernel)) (fun _ _ _ _ _ => (pg_name (i := 1) sc_is_word.nd rfl (.inl rfl))) (fun _ _ _ _ _ => pts_nil) (fun _ _ _ _ _ => (pe_cmpR op_in_sign (pv 1) (pe_glob (v := .str "01") (by rfl) g_BITS ⟨_, rfl⟩) (by with_unfolding_all rfl)))) pa_nil)))))), ?_⟩
    rcases h with ⟨z, rfl, hz, k⟩ | ⟨t, ht, hk, k⟩
    · refine ⟨_, rfl, _, _, _, _, true, rfl, .ty _, .base (.str z), kit_ty (by decide +kernel), _, rfl, ?_⟩
      refine ⟨_, rfl, z, rfl, fun D nD => ?_⟩
      refine lc_it walk_str (fun i H2 => Same H H2 ∧ H2 D = some (.lst (((z.cps.toList.take i).map fun c => decide (c ∈ ("01" : Str).cps.toList)).map V.bl))) ⟨same_upd nD, upd_same⟩ (fun _ _ _ _ => trivial) ?_ ?_
      · rintro i x H2 H3 hi ⟨s2, hD⟩ ⟨rfl, c, hc, rfl⟩
        refine ⟨rfl, ?_⟩
        refine ⟨_, rfl, c, _, rfl, rfl, _, hD, ?_, ?_, ?_⟩
        · rw [List.length_map, List.length_map, List.length_take]
          have e : z.length = z.cps.toList.length := TL.len_tl z
          exact sl_lt (by have : z.cps.size = z.cps.toList.length := by simp
                          omega)
        · intro c' o e
          rw [upd_ne (ne_of_none e nD)]
          exact s2 _ _ e
        · have hc' : z.cps.toList[i]? = some c := by rw [Array.getElem?_toList]; exact hc
          rw [upd_same, List.take_add_one, hc']
          simp
      · rintro H2 ⟨s2, hD⟩
        have e : z.cps.toList.take z.cps.size = z.cps.toList := List.take_of_length_le (by simp)
        rw [e] at hD
        refine ⟨D, _, rfl, SqL.of hD, ?_⟩
        have e2 : (List.map (fun c => decide (c ∈ ("01" : Str).cps.toList)) z.cps.toList).all id = isW z := by
          unfold isW
          rw [List.all_map]
          rfl
        rw [e2]
        exact k H2 s2
    · exact ⟨_, rfl, _, _, _, _, false, rfl, .ty _, ht, hk, _, rfl, k⟩
end
end U

set_option maxRecDepth 100000
set_option maxHeartbeats 4000000
namespace Lx
open PySem PySem.Spec PyProof.Rows L2
theorem Sq.of_same {K : PySem.W.Frag} {H H' : Hp} {a : Addr} {xs : List V} (h : Sq K H a xs) (e : Same H H') : Sq K H' a xs := h.same e
/-- a list or a tuple, walked: what holds behind -/
theorem iSeq_var {K : PySem.W.Frag} {i : Nat} {σ : L2.St} {H : Hp} {R : It → Hp → Prop} {a : Addr} {xs : List V} (hv : σ[i]? = some (some (.ref a))) (hS : Sq K H a xs)
    (h : ∀ (J : It) (G : Hp → Prop), (∀ H', Same H H' → G H') → Walk J xs.length G (YAt xs) → R J H) : iSeq K (tVar i) σ H R := by
  rcases hS with hS | hS
  · exact .inl ⟨_, hv, a, rfl, ⟨xs, hS⟩, h _ _ (fun H' s => s.seq hS) walk_list⟩
  · exact .inr ⟨_, hv, a, rfl, ⟨xs, hS⟩, h _ _ (fun H' s => same_tup s hS) walk_tup⟩
theorem iEnumQ_var {K : PySem.W.Frag} {i : Nat} {σ : L2.St} {H : Hp} {R : It → Hp → Prop} {a : Addr} {xs : List V} (hv : σ[i]? = some (some (.ref a))) (hS : Sq K H a xs)
    (h : ∀ (J : It) (G : Hp → Prop), (∀ H', Same H H' → G H') → Walk J xs.length G (YPair (fun i => some (.int (i : Nat))) (fun i => xs[i]?)) → R J H) : iEnumQ K (tCons (tVar i) tNil) σ H R := by
  rcases hS with hS | hS
  · exact .inl ⟨_, hv, a, xs, rfl, hS, h _ _ (fun H' s => s.seq hS) walk_enum⟩
  · exact .inr ⟨_, hv, a, xs, rfl, hS, h _ _ (fun H' s => same_tup s hS) walk_enumT⟩
theorem cut_whole {xs : List V} {lo hi : Option Int} (h1 : HT.sIx xs.length 0 lo = 0) (h2 : HT.sIx xs.length xs.length hi = xs.length) : cutV xs lo hi = xs := by
  unfold cutV
  rw [h1, h2, List.drop_zero, Nat.sub_zero, List.take_length]
theorem slQ_of {K : PySem.W.Frag} {H : Hp} {Q : VK} {a : Addr} {xs : List V} {lo hi : Option Int} (hS : Sq K H a xs) (h : ∀ p H', Same H H' → Sq K H' p (cutV xs lo hi) → Q (.ref p) H') : rSlL K (.ref a) lo hi H Q ∨ rSlA K (.ref a) lo hi H Q := by
  rcases hS with hS | hS
  · exact .inl ⟨a, xs, rfl, hS, fun p hp => h p _ (fun b x e => by rw [upd_ne (ne_of_none e hp)]; exact e) (.inl (SqL.of upd_same))⟩
  · refine .inr ⟨a, xs, rfl, hS, fun c => h a H (Same.refl H) ?_, fun _ p hp => h p _ (fun b x e => by rw [upd_ne (ne_of_none e hp)]; exact e) (.inr (SqT.of upd_same))⟩
    rw [cut_whole c.1 c.2]
    exact .inr hS
theorem Sq.star {K : PySem.W.Frag} {H : Hp} {a : Addr} {xs : List V} (h : Sq K H a xs) : SqT K H a xs ∨ SqL K H a xs := h.elim .inr .inl
end Lx
namespace U
open PySem PySem.Spec PyProof.Rows
open L2 hiding Fun CX0 E0 pass0 Fun.binds
open C8 Lx SX StX
/-! texts -/
theorem W_ends (l p : List Bool) : Txt.endswith (W l) (W p) = p.isSuffixOf l := by
  unfold Txt.endswith
  rw [PySem.StrLaws.subAt_eq, W_len, W_len, W_tl, W_tl, ← List.map_drop, ← List.map_take, Bool.eq_iff_iff, List.isSuffixOf_iff_suffix, Bool.and_eq_true, decide_eq_true_eq, beq_iff_eq]
  constructor
  · rintro ⟨h1, h2⟩
    have h3 := map_bt_inj h2
    rw [List.take_of_length_le (by rw [List.length_drop]; omega)] at h3
    rw [← h3]
    exact List.drop_suffix _ _
  · intro h
    have hl := h.length_le
    refine ⟨by omega, ?_⟩
    rw [List.take_of_length_le (by rw [List.length_drop]; omega), ← List.suffix_iff_eq_drop.mp h]
theorem W_tail (l : List Bool) (n : Nat) : Txt.slice (W l) (some (if (((W l).length : Nat) : Int) - (n : Int) > 0 then (((W l).length : Nat) : Int) - (n : Int) else 0)) none = W (tl n l) := by
  rw [W_drop (by split <;> omega)]
  congr 1
  unfold tl
  rw [W_len]
  congr 1
  split <;> omega
/-! stuffs -/
def StV (H : Hp) (kb : Addr → Stf) (ps : List Addr) : Prop := ∀ t ∈ ps, H t = some (.tup [.str (W (kb t).1), .str (W [(kb t).2])])
theorem StV.same {H H' : Hp} {kb : Addr → Stf} {ps : List Addr} (h : StV H kb ps) (e : Same H H') : StV H' kb ps := fun t ht => e _ _ (h t ht)
theorem StV.nl {H H' : Hp} {kb : Addr → Stf} {ps : List Addr} (h : StV H kb ps) (e : NL H H') : StV H' kb ps := fun t ht => e.tup (h t ht)
theorem StV.perm {H : Hp} {kb : Addr → Stf} {ps qs : List Addr} (h : StV H kb ps) (p : qs.Perm ps) : StV H kb qs := fun t ht => h t (p.mem_iff.mp ht)
def ruF (f : List Bool) (t : Addr) : List (Str × V) := putF "stuffs" (.ref t) (putF "flag" (.str (W f)) [])
theorem fs_ne : ¬ (("flag" : Str) = "stuffs") := by decide +kernel
theorem ruF_flag (f : List Bool) (t : Addr) : (ruF f t).lookup ("flag" : Str) = some (.str (W f)) := by
  unfold ruF
  rw [lookup_putF, if_neg fs_ne, lookup_putF, if_pos rfl]
theorem ruF_stuffs (f : List Bool) (t : Addr) : (ruF f t).lookup ("stuffs" : Str) = some (.ref t) := by
  unfold ruF
  rw [lookup_putF, if_pos rfl]
theorem ruF_no (f : List Bool) (t : Addr) {m : Str} (h1 : ¬ m = "stuffs") (h2 : ¬ m = "flag") : (ruF f t).lookup m = none := by
  unfold ruF
  rw [lookup_putF, if_neg h1, lookup_putF, if_neg h2]
  all_goals rfl
def RuAt (C : Addr) (H : Hp) (a : Addr) (f : List Bool) (ss : List Stf) : Prop :=
  ∃ dx t ps kb, H a = some (.ins C dx (ruF f t)) ∧ H t = some (.tup (ps.map V.ref)) ∧ StV H kb ps ∧ ss = ps.map kb
theorem RuAt.same {C : Addr} {H H' : Hp} {a : Addr} {f : List Bool} {ss : List Stf} (h : RuAt C H a f ss) (e : Same H H') : RuAt C H' a f ss := by
  obtain ⟨dx, t, ps, kb, h1, h2, h3, h4⟩ := h
  exact ⟨dx, t, ps, kb, e _ _ h1, e _ _ h2, h3.same e, h4⟩
theorem RuAt.nl {C : Addr} {H H' : Hp} {a : Addr} {f : List Bool} {ss : List Stf} (h : RuAt C H a f ss) (e : NL H H') : RuAt C H' a f ss := by
  obtain ⟨dx, t, ps, kb, h1, h2, h3, h4⟩ := h
  exact ⟨dx, t, ps, kb, e.ins h1, e.tup h2, h3.nl e, h4⟩
def longM (ss : List Stf) : Nat := ss.foldr (fun s m => max s.1.length m) 0
theorem longM_le : ∀ {ss : List Stf} {s : Stf}, s ∈ ss → s.1.length ≤ longM ss
  | x :: r, s, h => by
    show s.1.length ≤ max x.1.length (longM r)
    rcases List.mem_cons.mp h with e | h
    · rw [e]; omega
    · have := longM_le h; omega
theorem longM_max : ∀ {ss : List Stf} {n : Nat}, (∀ s ∈ ss, s.1.length ≤ n) → longM ss ≤ n
  | [], _, _ => Nat.zero_le _
  | x :: r, n, h => by
    have := longM_max (ss := r) fun s hs => h s (List.mem_cons_of_mem _ hs)
    have := h x List.mem_cons_self
    show max x.1.length (longM r) ≤ n
    omega
theorem longM_perm {ss ts : List Stf} (p : ss.Perm ts) : longM ss = longM ts :=
  Nat.le_antisymm (longM_max fun s hs => longM_le (p.mem_iff.mp hs)) (longM_max fun s hs => longM_le (p.mem_iff.mpr hs))
theorem longM_is {ss : List Stf} {m : Int} (hm : m ∈ (0 : Int) :: ss.map fun s => (s.1.length : Int)) (hx : ∀ y ∈ (0 : Int) :: ss.map fun s => (s.1.length : Int), y ≤ m) : m = (longM ss : Nat) := by
  have h0 := hx 0 List.mem_cons_self
  have h1 : longM ss ≤ m.toNat := longM_max fun s hs => by
    have := hx _ (List.mem_cons_of_mem _ (List.mem_map_of_mem (f := fun s : Stf => (s.1.length : Int)) hs))
    omega
  rcases List.mem_cons.mp hm with e | h
  · omega
  · obtain ⟨s, hs, rfl⟩ := List.mem_map.mp h
    have := longM_le hs
    omega
def oB : Option Bool → V
  | none => .non
  | some b => .str (W [b])
theorem oB_non (o : Option Bool) : decide (oB o = .non) = o.isNone := by
  cases o with
  | none => exact decide_eq_true rfl
  | some b => exact decide_eq_false (fun z => by cases z)
/-- the class as the top leaves it -/
structure RuT (K : PySem.W.Frag) (C : Addr) : Prop where
  cl : Cls K C
  nF : NoAttr K C "flag"
  nS : NoAttr K C "stuffs"
def spIsSeq (K : PySem.W.Frag) : Sp := fun vs H Q _ => ∃ a xs, vs = [.ref a] ∧ Sq K H a xs ∧ ∀ H', Same H H' → Q (.bl true) H'
def spIsBit : Sp := fun vs H Q _ => ∃ b, vs = [.str (W [b])] ∧ ∀ H', Same H H' → Q (.bl true) H'
def spIsStuff : Sp := fun vs H Q _ => ∃ (t : Addr) (p : List Bool) (b : Bool), vs = [.ref t] ∧ H t = some (.tup [.str (W p), .str (W [b])]) ∧ p ≠ [] ∧ p.length ≤ 1000 ∧ ∀ H', Same H H' → Q (.bl true) H'
def spTail : Sp := fun vs H Q _ => ∃ (l : List Bool) (n : Nat), vs = [.str (W l), .int n] ∧ l.length ≤ 100000 ∧ Q (.str (W (tl n l))) H
def spLongest (C : Addr) : Sp := fun vs H Q _ => ∃ (a : Addr) (f : List Bool) (ss : List Stf), vs = [.ref a] ∧ RuAt C H a f ss ∧ ss.length ≤ 1000 ∧ (∀ s ∈ ss, s.1.length ≤ 1000) ∧ ∀ H', Same H H' → Q (.int (longM ss : Nat)) H'
def spPut (C : Addr) : Sp := fun vs H Q _ => ∃ (a : Addr) (f : List Bool) (ss : List Stf) (l : List Bool), vs = [.ref a, .str (W l)] ∧ RuAt C H a f ss ∧ ∀ H', Same H H' → Q (oB (putM ss l)) H'
section
variable {P : Program} {w : World} {K : PySem.W.Frag} {mg : Str → Option Value} {base : Heap}
theorem sc_is_sequence : FnScope ["value"] ["value"] (fnScope s_is_sequence) := fnScope_by (by decide +kernel)
theorem cal_is_sequence {f : Addr} {fd : FuncData} (F : Def K mg "is_sequence" s_is_sequence f fd) (b : Binds K fd ["value"] []) (T : Tx mg) : Cal P w K mg base 1 "is_sequence" (spIsSeq K) [] := by
  refine cal0 F b .nil sc_is_sequence (fun vs H Q E h => ?_) (fun cdv A outer s H vs Q E hr h => ?_)
  · obtain ⟨_, _, rfl, _⟩ := h; rfl
  · obtain ⟨a, xs, rfl, hS, k⟩ := h
    refine ⟨_, (pss_one (ps_ret (pe_callB call_isiT (by rfl) T.b_isinstance (by decide +kernel) (pa_cons (pv 0) (pa_cons (pe_tup (pa_cons (pe_bltn (v := .ty "list") (u := .type "list") (by rfl) T.b_list (by decide +kernel) rfl) (pa_cons (pe_bltn (v := .ty "tuple") (u := .type "tuple") (by rfl) T.b_tuple (by decide +kernel) rfl) pa_nil))) pa_nil))))), ?_⟩
    refine ⟨_, rfl, by show 2 ≤ sizeLine; decide, fun tp htp => ?_⟩
    have hS' := hS.same (same_upd (o := .tup [.ty "list", .ty "tuple"]) htp)
    rcases hS' with hS' | hS'
    · exact ⟨_, tp, _, _, _, true, rfl, upd_same, .cons (.ty _) (.cons (.ty _) .nil), ty_list hS', by first | exact kit_any (by decide +kernel) | rfl | decide +kernel, k _ (same_upd htp)⟩
    · exact ⟨_, tp, _, _, _, true, rfl, upd_same, .cons (.ty _) (.cons (.ty _) .nil), ty_tup hS', by first | exact kit_any (by decide +kernel) | rfl | decide +kernel, k _ (same_upd htp)⟩
theorem sc_is_bit : FnScope ["value"] ["value"] (fnScope s_is_bit) := fnScope_by (by decide +kernel)
theorem cal_is_bit {f : Addr} {fd : FuncData} (F : Def K mg "is_bit" s_is_bit f fd) (b : Binds K fd ["value"] []) (T : Tx mg) (c_is_word : Cal P w K mg base 1 "is_word" (spIsWord K) []) : Cal P w K mg base 2 "is_bit" spIsBit [] := by
  refine cal0 F b .nil sc_is_bit (fun vs H Q E h => ?_) (fun cdv A outer s H vs Q E hr h => ?_)
  · obtain ⟨_, rfl, _⟩ := h; rfl
  · obtain ⟨x, rfl, k⟩ := h
    refine ⟨_, (pss_one (ps_ret (pe_and (pe_c c_is_word hr (by decide) rfl (pa_cons (pv 0) pa_nil)) (pe_one (pe_cmpR op_eq (pe_callB call_len_str (by rfl) T.b_len (by decide +kernel) (pa_cons (pv 0) pa_nil)) pe_int (nomark _)))))), ?_⟩
    have l1 : (W [x]).length = 1 := W_len _
    refine ⟨_, rfl, _, rfl, .inl ⟨_, rfl, by rw [l1]; decide, fun H1 s1 => ⟨_, rfl, iteBT (isW_W _) ?_⟩⟩⟩
    refine ⟨_, rfl, _, rfl, by rw [l1]; decide, ?_⟩
    rw [l1]
    exact ⟨rfl, q_dec (Q := Q) rfl (k H1 s1)⟩
theorem sc_is_stuff : FnScope ["value"] ["value"] (fnScope s_is_stuff) := fnScope_by (by decide +kernel)
theorem cal_is_stuff {f : Addr} {fd : FuncData} (F : Def K mg "is_stuff" s_is_stuff f fd) (b : Binds K fd ["value"] []) (T : Tx mg) (c_is_word : Cal P w K mg base 1 "is_word" (spIsWord K) []) (c_is_bit : Cal P w K mg base 2 "is_bit" spIsBit []) : Cal P w K mg base 3 "is_stuff" spIsStuff [] := by
  refine cal0 F b .nil sc_is_stuff (fun vs H Q E h => ?_) (fun cdv A outer s H vs Q E hr h => ?_)
  · obtain ⟨_, _, _, rfl, _⟩ := h; rfl
  · obtain ⟨t, p, x, rfl, ht, hp, hl, k⟩ := h
    refine ⟨_, (pss_cons (ps_if (PW.pt (pw_or (pt_not (pt_val (pe_callB call_isi (by rfl) T.b_isinstance (by decide +kernel) (pa_cons (pv 0) (pa_cons (pe_bltn (v := .ty "tuple") (u := .type "tuple") (by rfl) T.b_tuple (by decide +kernel) rfl) pa_nil))))) (pw_or1 (pt_cmpR op_ne (pe_callB call_len_seq (by rfl) T.b_len (by decide +kernel) (pa_cons (pv 0) pa_nil)) pe_int (nomark _))))) (pss_one (ps_ret pe_bl)) pss_nil)
    (pss_one (ps_ret (pe_and (pe_c c_is_word hr (by decide) rfl (pa_cons (pe_ix ix_tup (pv 0) pe_int (fun _ _ => rfl)) pa_nil)) (pe_and (pe_cmpR op_gt (pe_callB call_len_str (by rfl) T.b_len (by decide +kernel) (pa_cons (pe_ix ix_tup (pv 0) pe_int (fun _ _ => rfl)) pa_nil)) pe_int (nomark _)) (pe_one (pe_c c_is_bit hr (by decide) rfl (pa_cons (pe_ix ix_tup (pv 0) pe_int (fun _ _ => rfl)) pa_nil)))))))), ?_⟩
    have lp : (W p).length ≤ sizeLine := by rw [W_len]; exact sl_len (by omega)
    refine ⟨_, rfl, _, _, _, _, true, rfl, .ty _, .base (.tup ht), kit_ty (by decide +kernel), _, rfl, ?_⟩
    refine ⟨_, rfl, t, _, rfl, .inr (SqT.of ht), rfl, _, rfl, iteNS rfl ?_⟩
    refine ⟨_, rfl, t, _, 0, _, rfl, rfl, SqT.of ht, rfl, _, rfl, .inl ⟨_, rfl, by rw [W_len]; omega, fun H1 s1 => ⟨_, rfl, iteBT (isW_W _) ?_⟩⟩⟩
    have ht1 := s1 _ _ ht
    refine ⟨_, rfl, t, _, 0, _, rfl, rfl, SqT.of ht1, rfl, _, rfl, lp, ?_⟩
    refine ⟨_, _, rfl, rfl, _, rfl, iteDT ?_ ?_⟩
    · rw [W_len]
      have : p.length ≠ 0 := fun z => hp (List.length_eq_zero_iff.mp z)
      omega
    · refine ⟨_, rfl, t, _, 1, _, rfl, rfl, SqT.of ht1, rfl, x, rfl, fun H2 s2 => k H2 (s1.trans s2)⟩
theorem sc_tail : FnScope ["line", "size"] ["line", "size"] (fnScope s_tail) := fnScope_by (by decide +kernel)
theorem cal_tail {f : Addr} {fd : FuncData} (F : Def K mg "tail" s_tail f fd) (b : Binds K fd ["line", "size"] []) (T : Tx mg) : Cal P w K mg base 1 "tail" spTail [] := by
  refine cal0 F b .nil sc_tail (fun vs H Q E h => ?_) (fun cdv A outer s H vs Q E hr h => ?_)
  · obtain ⟨_, _, rfl, _⟩ := h; rfl
  · obtain ⟨l, n, rfl, hl, k⟩ := h
    refine ⟨_, (pss_one (ps_ret (pe_slice sl_txt (pv 0) (po_some (pe_callB (call_max2 rfl) (by rfl) T.b_max (by decide +kernel) (pa_cons pe_int (pa_cons (pe_op op_sub (pe_callB call_len_str (by rfl) T.b_len (by decide +kernel) (pa_cons (pv 0) pa_nil)) (pv 1)) pa_nil)))) po_none))), ?_⟩
    have lw : (W l).length ≤ sizeLine := by rw [W_len]; exact sl_len (by omega)
    refine ⟨_, rfl, _, rfl, _, rfl, lw, _, rfl, _, _, rfl, rfl, _, _, rfl, _, rfl, _, rfl, lw, ?_⟩
    rw [W_tail]
    exact k
theorem sc_Rule_longest : FnScope ["self", "pattern", "bit"] ["self"] (fnScope s_Rule_longest) := fnScope_by (by decide +kernel)
theorem ok_longest {f C : Addr} {fd : FuncData} (F : C8.Fun K "longest" "Rule.longest" s_Rule_longest f fd) (T : Tx mg) (RT : RuT K C) : FnOk P w K mg base CX0 1 f fd ["self"] (spLongest C) := by
  refine fn0 F sc_Rule_longest (fun vs H Q E h => ?_) (fun cdv A outer s H vs Q E hr h => ?_)
  · obtain ⟨_, _, _, rfl, _⟩ := h; rfl
  · obtain ⟨a, fl, ss, rfl, ⟨dx, t, ps, kb, ha, ht, hs, rfl⟩, hn, hl, k⟩ := h
    refine ⟨_, (pss_one (ps_ret (pe_callB (cr_max rfl) (by rfl) T.b_max (by decide +kernel) (pa_cons (pe_lst (pa_cons pe_int (pa_star (pe_lc (own := [("pattern", 1), ("bit", 2)]) (g := gTup K 2 (gCons (gName 1) (gCons (gName 2) gNil))) (by rfl) sc_Rule_longest.nd (pi_tup (pe_fld (pv 0) rfl)) (blkOk_by (own := [("pattern", 1), ("bit", 2)]) (N := ["self", "pattern", "bit"]) (sc := fnScope s_Rule_longest) (by decide +kernel)) (fun _ _ _ _ _ => (pg_tup rfl (pgs_cons (pg_name (i := 1) sc_Rule_longest.nd rfl (.inl rfl)) (pgs_cons (pg_name (i := 2) sc_Rule_longest.nd rfl (.inl rfl)) pgs_nil)))) (fun _ _ _ _ _ => pts_nil) (fun _ _ _ _ _ => (pe_callB call_len_str (by rfl) T.b_len (by decide +kernel) (pa_cons (pv 1) pa_nil)))) pa_nil))) pa_nil)))), ?_⟩
    refine ⟨_, rfl, a, C, dx, _, _, rfl, ha, RT.cl, RT.nS, ruF_stuffs _ _, t, rfl, ⟨_, SqT.of ht⟩, fun D nD => ?_⟩
    refine lc_it (walk_tup (xs := ps.map V.ref)) (fun i H2 => Same H H2 ∧ H2 D = some (.lst ((((ps.take i).map kb).map fun s => (s.1.length : Int)).map V.int))) ⟨same_upd nD, upd_same⟩ (fun i H2 _ h2 => SqT.of (h2.1 _ _ ht)) ?_ ?_
    · rintro i x H2 H3 hi ⟨s2, hD⟩ ⟨rfl, hx⟩
      rw [List.getElem?_map] at hx
      obtain ⟨q, hq, rfl⟩ := Option.map_eq_some_iff.mp hx
      have hqm : q ∈ ps := List.mem_of_getElem? hq
      have lq : (kb q).1.length ≤ 1000 := hl _ (List.mem_map_of_mem hqm)
      refine ⟨q, _, rfl, SqT.of (s2 _ _ (hs q hqm)), rfl, ?_⟩
      refine ⟨_, _, rfl, _, _, rfl, rfl, rfl, ?_⟩
      refine ⟨_, rfl, _, rfl, by rw [W_len]; exact sl_len (by omega), _, hD, ?_, ?_, ?_⟩
      · rw [List.length_map] at hi
        rw [List.length_map, List.length_map, List.length_map, List.length_take]
        rw [List.length_map] at hn
        exact sl_lt (by omega)
      · intro c' o e
        rw [upd_ne (ne_of_none e nD)]
        exact s2 _ _ e
      · rw [upd_same, List.take_add_one, hq, W_len]
        simp
    · rintro H2 ⟨s2, hD⟩
      rw [List.length_map, List.take_length] at hD
      refine ⟨D, _, rfl, .inr (SqL.of hD), ?_⟩
      have hn' : ps.length ≤ 1000 := by rw [List.length_map] at hn; exact hn
      refine ⟨?_, fun p hp => ?_⟩
      · simp only [List.length_cons, List.length_append, List.length_map, List.length_nil]
        exact sl_len (by omega)
      · refine ⟨p, (0 : Int) :: (ps.map kb).map fun s => (s.1.length : Int), rfl, ?_, by rw [List.length_cons]; omega, fun m hm hx => ?_⟩
        · refine SqL.of (upd_same.trans ?_)
          simp
        · rw [longM_is hm hx]
          exact k _ (s2.trans (same_upd hp))
theorem sc_Rule_put : FnScope ["self", "line", "pattern", "bit"] ["self", "line"] (fnScope s_Rule_put) := fnScope_by (by decide +kernel)
theorem met_put {f C : Addr} {fd : FuncData} (F : C8.Fun K "put" "Rule.put" s_Rule_put f fd) (me : Meth K C "put" f) (b : Binds K fd ["self", "line"] []) (T : Tx mg) (RT : RuT K C) : Met P w K mg base 1 C "put" (spPut C) [] := by
  refine met0 RT.cl me F b sc_Rule_put (fun vs H Q E h => ?_) (fun cdv A outer s H vs Q E hr h => ?_)
  · obtain ⟨_, _, _, _, rfl, _⟩ := h; rfl
  · obtain ⟨a, fl, ss, l, rfl, ⟨dx, t, ps, kb, ha, ht, hs, rfl⟩, k⟩ := h
    refine ⟨_, (pss_cons (ps_for PassesOwn.never rfl (pi_tup (pe_fld (pv 0) rfl)) (pg_tup rfl (pgs_cons (pg_name (i := 2) sc_Rule_put.nd rfl (.inl rfl)) (pgs_cons (pg_name (i := 3) sc_Rule_put.nd rfl (.inl rfl)) pgs_nil)))
    (pss_one (ps_if (pt_val (pe_m1 PySem.F.slot_str_endswith PySem.F.type_str_endswith mt_endswith (pv 1) (pv 2))) (pss_one (ps_ret (pv 3))) pss_nil)))
    (pss_one (ps_ret pe_non))), ?_⟩
    refine ⟨_, rfl, a, C, dx, _, _, rfl, ha, RT.cl, RT.nS, ruF_stuffs _ _, t, rfl, ⟨_, SqT.of ht⟩, ?_⟩
    refine for_it (walk_tup (xs := ps.map V.ref)) (fun i σ H2 => ∃ v2 v3 : Option V, σ = [some (.ref a), some (.str (W l)), v2, v3] ∧ H2 = H ∧ ∀ j q, j < i → ps[j]? = some q → (kb q).1.isSuffixOf l = false) ⟨none, none, rfl, rfl, fun j q hj => absurd hj (Nat.not_lt_zero _)⟩ (fun i σ H2 _ h2 => by obtain ⟨_, _, _, rfl, _⟩ := h2; exact SqT.of ht) ?_ ?_
    · rintro i x σ H2 H3 hi ⟨v2, v3, rfl, rfl, hno⟩ ⟨rfl, hx⟩
      rw [List.getElem?_map] at hx
      obtain ⟨q, hq, rfl⟩ := Option.map_eq_some_iff.mp hx
      have hqm : q ∈ ps := List.mem_of_getElem? hq
      refine ⟨q, _, rfl, SqT.of (hs q hqm), rfl, ?_⟩
      refine ⟨_, _, rfl, _, _, rfl, rfl, ?_⟩
      refine ⟨_, rfl, ⟨_, rfl⟩, _, rfl, _, _, rfl, rfl, _, rfl, ?_⟩
      rw [W_ends]
      cases e : (kb q).1.isSuffixOf l with
      | true =>
        refine ⟨_, rfl, ?_⟩
        have ep : putM (ps.map kb) l = some (kb q).2 := by
          have hf : (ps.map kb).find? (fun s => s.1.isSuffixOf l) = some (kb q) := by
            rw [List.find?_eq_some_iff_getElem]
            have hi' := (List.getElem?_eq_some_iff.mp hq)
            obtain ⟨hi1, hi2⟩ := hi'
            refine ⟨e, i, by rw [List.length_map]; exact hi1, by rw [List.getElem_map, hi2], fun j hj => ?_⟩
            rw [List.getElem_map]
            have := hno j ps[j] hj (List.getElem?_eq_getElem _)
            rw [this]
            rfl
          unfold putM
          rw [hf]
          rfl
        have := k _ (Same.refl _)
        rw [ep] at this
        exact this
      | false =>
        refine ⟨_, _, rfl, rfl, fun j q' hj hq' => ?_⟩
        by_cases ej : j = i
        · subst ej
          rw [hq] at hq'
          cases hq'
          exact e
        · exact hno j q' (by omega) hq'
    · rintro σ H2 ⟨v2, v3, rfl, rfl, hno⟩
      have ep : putM (ps.map kb) l = none := by
        have hf : (ps.map kb).find? (fun s => s.1.isSuffixOf l) = none := by
          rw [List.find?_eq_none]
          intro s hs'
          obtain ⟨q, hq, rfl⟩ := List.mem_map.mp hs'
          obtain ⟨j, hj⟩ := List.getElem?_of_mem hq
          have := hno j q (by rw [List.length_map]; exact (List.getElem?_eq_some_iff.mp hj).1) hj
          rw [this]
          decide
        unfold putM
        rw [hf]
        rfl
      have := k _ (Same.refl _)
      rw [ep] at this
      exact this
end
end U

set_option maxRecDepth 100000
set_option maxHeartbeats 4000000
namespace U
open PySem PySem.Spec PyProof.Rows
open L2 hiding Fun CX0 E0 pass0 Fun.binds
open C8 Lx SX StX
theorem sf_at {ps : List Addr} {kb : Addr → Stf} {i : Nat} {q : Addr} (h : SufFree (ps.map kb)) (hq : ps[i]? = some q) : ∀ q' ∈ ps.take i ++ ps.drop (i + 1), ¬ (kb q').1 <:+ (kb q).1 := by
  obtain ⟨hi, rfl⟩ := List.getElem?_eq_some_iff.mp hq
  have e : ps = ps.take i ++ ps[i] :: ps.drop (i + 1) := by rw [← List.drop_eq_getElem_cons hi, List.take_append_drop]
  unfold SufFree at h
  rw [List.pairwise_map] at h
  generalize ps.take i = A at e ⊢
  generalize ps.drop (i + 1) = B at e ⊢
  generalize ps[i] = q at e ⊢
  rw [e, List.pairwise_append, List.pairwise_cons] at h
  obtain ⟨_, ⟨h2, _⟩, h3⟩ := h
  intro q' hq'
  rcases List.mem_append.mp hq' with m | m
  · exact (h3 q' m q List.mem_cons_self).1
  · exact (h2 q' m).2
theorem cut_to {xs : List V} {i : Nat} (h : i < xs.length) : cutV xs none (some (i : Int)) = xs.take i := by
  unfold cutV
  rw [HT.sIx_none, HT.sIx_nat, List.drop_zero, Nat.sub_zero, Nat.min_eq_left (Nat.le_of_lt h)]
theorem cut_from {xs : List V} {i : Nat} (h : i < xs.length) : cutV xs (some ((i : Int) + 1)) none = xs.drop (i + 1) := by
  unfold cutV
  rw [HT.sIx_none, show ((i : Int) + 1) = ((i + 1 : Nat) : Int) by omega, HT.sIx_nat, Nat.min_eq_left (by omega), List.take_of_length_le (by rw [List.length_drop]; omega)]
/-- stuffs that make a rule -/
structure StOk (ss : List Stf) : Prop where
  few : ss.length ≤ 1000
  pos : ∀ s ∈ ss, s.1 ≠ []
  long : longM ss ≤ 9
  free : SufFree ss
theorem StOk.l9 {ss : List Stf} (h : StOk ss) : ∀ s ∈ ss, s.1.length ≤ 9 := fun s hs => Nat.le_trans (longM_le hs) h.long
theorem StOk.perm {ss ts : List Stf} (h : StOk ss) (p : ss.Perm ts) : StOk ts := ⟨by rw [← p.length_eq]; exact h.few, fun s hs => h.pos s (p.mem_iff.mpr hs), by rw [← longM_perm p]; exact h.long, h.free.perm p⟩
def spAre (K : PySem.W.Frag) : Sp := fun vs H Q _ => ∃ (a : Addr) (ps : List Addr) (kb : Addr → Stf), vs = [.ref a] ∧ Sq K H a (ps.map V.ref) ∧ StV H kb ps ∧ StOk (ps.map kb) ∧ ∀ H', Same H H' → Q (.bl true) H'
def spPutIn (C : Addr) : Sp := fun vs H Q _ => ∃ (a : Addr) (f : List Bool) (ss : List Stf) (l x : List Bool), vs = [.ref a, .str (W l)] ∧ RuAt C H a f ss ∧ ss.length ≤ 1000 ∧ longM ss ≤ 9 ∧ l.length ≤ 50000 ∧ Ins ss l x ∧ ∀ H', Same H H' → Q (.str (W x)) H'
def spEndless (C : Addr) : Sp := fun vs H Q _ => ∃ (a : Addr) (f : List Bool) (ss : List Stf), vs = [.ref a] ∧ RuAt C H a f ss ∧ ss.length ≤ 1000 ∧ longM ss ≤ 9 ∧ OkR ss ∧ ∀ H', Same H H' → Q (.bl false) H'
def kst (ws : List (List Bool)) : List (Key × V) := ws.map fun w => (Sum.inr (W w), V.bl true)
theorem val_in {ws : List (List Bool)} {w : List Bool} (h : w ∈ ws) : valV (kst ws) (Sum.inr (W w)) = some (.bl true) := by
  unfold valV kst
  induction ws with
  | nil => cases h
  | cons x r ih =>
    rw [List.map_cons, List.find?_cons]
    by_cases e : x = w
    · rw [e, decide_eq_true rfl]; rfl
    · rw [decide_eq_false (fun z => e (W_inj (Sum.inr.inj z)))]
      rcases List.mem_cons.mp h with z | h
      · exact absurd z.symm e
      · exact ih h
theorem val_out {ws : List (List Bool)} {w : List Bool} (h : ¬ w ∈ ws) : valV (kst ws) (Sum.inr (W w)) = none := by
  unfold valV kst
  have : (ws.map fun w => ((Sum.inr (W w) : Key), V.bl true)).find? (fun kv => decide (kv.1 = Sum.inr (W w))) = none := by
    rw [List.find?_eq_none]
    intro kv hk
    obtain ⟨x, hx, rfl⟩ := List.mem_map.mp hk
    rw [decide_eq_true_eq]
    intro z
    exact h (W_inj (Sum.inr.inj z) ▸ hx)
  rw [this]
  rfl
theorem put_out {ws : List (List Bool)} {w : List Bool} (h : ¬ w ∈ ws) : putK (kst ws) (Sum.inr (W w)) (.bl true) = kst (ws ++ [w]) := by
  have e : ((kst ws).any fun kv => decide (kv.1 = Sum.inr (W w))) = false := by
    rw [List.any_eq_false]
    intro kv hk
    unfold kst at hk
    obtain ⟨x, hx, rfl⟩ := List.mem_map.mp hk
    rw [decide_eq_true_eq]
    intro z
    exact h (W_inj (Sum.inr.inj z) ▸ hx)
  unfold putK
  rw [e]
  unfold kst
  rw [List.map_append]
  rfl
section
variable {P : Program} {w : World} {K : PySem.W.Frag} {mg : Str → Option Value} {base : Heap}
theorem sc_are_stuffs : FnScope ["value", "one", "at", "stuff", "rest", "pattern", "bit"] ["value"] (fnScope s_are_stuffs) := fnScope_by (by decide +kernel)
theorem cal_are_stuffs {f : Addr} {fd : FuncData} (F : Def K mg "are_stuffs" s_are_stuffs f fd) (b : Binds K fd ["value"] []) (T : Tx mg) (c_is_sequence : Cal P w K mg base 1 "is_sequence" (spIsSeq K) []) (c_is_stuff : Cal P w K mg base 3 "is_stuff" spIsStuff []) : Cal P w K mg base 4 "are_stuffs" (spAre K) [] := by
  refine cal0 F b .nil sc_are_stuffs (fun vs H Q E h => ?_) (fun cdv A outer s H vs Q E hr h => ?_)
  · obtain ⟨_, _, _, rfl, _⟩ := h; rfl
  · obtain ⟨a, ps, kb, rfl, hS, hs, ok, k⟩ := h
    refine ⟨_, (pss_cons (ps_if (PW.pt (pw_or (pt_not (pt_val (pe_c c_is_sequence hr (by decide) rfl (pa_cons (pv 0) pa_nil)))) (pw_or1 (pt_not (pt_val (pe_callB (cr_all rfl) (by rfl) T.b_all (by decide +kernel) (pa_cons (pe_lc (own := [("one", 1)]) (g := gName 1) (by rfl) sc_are_stuffs.nd (pi_seq (pv 0)) (blkOk_by (own := [("one", 1)]) (N := ["value", "one", "at", "stuff", "rest", "pattern", "bit"]) (sc := fnScope s_are_stuffs) (by decide +kernel)) (fun _ _ _ _ _ => (pg_name (i := 1) sc_are_stuffs.nd rfl (.inl rfl))) (fun _ _ _ _ _ => pts_nil) (fun _ _ _ _ _ => (pe_c c_is_stuff hr (by decide) rfl (pa_cons (pv 1) pa_nil)))) pa_nil))))))) (pss_one (ps_ret pe_bl)) pss_nil)
    (pss_cons (ps_for PassesOwn.never rfl (pi_enumQ (by rfl) T.b_enumerate (pa_cons (pv 0) pa_nil)) (pg_tup rfl (pgs_cons (pg_name (i := 2) sc_are_stuffs.nd rfl (.inl rfl)) (pgs_cons (pg_name (i := 3) sc_are_stuffs.nd rfl (.inr rfl)) pgs_nil)))
    (pss_cons (ps_set (i := 4) sc_are_stuffs.nd rfl (.inl rfl) (pe_lst (pa_star (pe_slice (SlR.or sl_list sl_tupA) (pv 0) po_none (po_some (pv 2))) (pa_star (pe_slice (SlR.or sl_list sl_tupA) (pv 0) (po_some (pe_op op_add (pv 2) pe_int)) po_none) pa_nil))))
    (pss_one (ps_if (pt_val (pe_callB (cr_any rfl) (by rfl) T.b_any (by decide +kernel) (pa_cons (pe_lc (own := [("pattern", 5), ("bit", 6)]) (g := gTup K 2 (gCons (gName 5) (gCons (gName 6) gNil))) (by rfl) sc_are_stuffs.nd (pi_list (pv 4)) (blkOk_by (own := [("pattern", 5), ("bit", 6)]) (N := ["value", "one", "at", "stuff", "rest", "pattern", "bit"]) (sc := fnScope s_are_stuffs) (by decide +kernel)) (fun _ _ _ _ _ => (pg_tup rfl (pgs_cons (pg_name (i := 5) sc_are_stuffs.nd rfl (.inl rfl)) (pgs_cons (pg_name (i := 6) sc_are_stuffs.nd rfl (.inl rfl)) pgs_nil)))) (fun _ _ _ _ _ => pts_nil) (fun _ _ _ _ _ => (pe_m1 PySem.F.slot_str_endswith PySem.F.type_str_endswith mt_endswith (pe_ix (show IxR _ (rIxT K) from ix_tup) (pv 3) pe_int (fun _ _ => rfl)) (pv 5)))) pa_nil))) (pss_one (ps_ret pe_bl)) pss_nil))))
    (pss_one (ps_ret pe_bl)))), ?_⟩
    have hn : ps.length ≤ 1000 := by have := ok.few; rw [List.length_map] at this; exact this
    refine ⟨_, rfl, a, _, rfl, hS, fun H1 s1 => ⟨_, rfl, ?_⟩⟩
    have hS1 := hS.same s1
    refine iSeq_var rfl hS1 fun J G hG wk D nD => ?_
    refine lc_it wk (fun i H2 => Same H1 H2 ∧ H2 D = some (.lst ((List.replicate i true).map V.bl))) ⟨same_upd nD, upd_same⟩ (fun i H2 _ h2 => hG _ h2.1) ?_ ?_
    · rintro i x H2 H3 hi ⟨s2, hD⟩ ⟨rfl, hx⟩
      rw [List.getElem?_map] at hx
      obtain ⟨q, hq, rfl⟩ := Option.map_eq_some_iff.mp hx
      have hqm : q ∈ ps := List.mem_of_getElem? hq
      have mk : kb q ∈ ps.map kb := List.mem_map_of_mem hqm
      rw [List.length_map] at hi
      refine ⟨rfl, ?_⟩
      refine ⟨_, rfl, q, (kb q).1, (kb q).2, rfl, (s1.trans s2) _ _ (hs q hqm), ok.pos _ mk, Nat.le_trans (ok.l9 _ mk) (by decide), fun H4 s4 => ⟨_, s4 _ _ hD, ?_, ?_, ?_⟩⟩
      · rw [List.length_map, List.length_replicate]; exact sl_lt (by omega)
      · intro c' o e
        rw [upd_ne (ne_of_none e nD)]
        exact (s2.trans s4) _ _ e
      · rw [upd_same, List.replicate_succ', List.map_append]; rfl
    · rintro H2 ⟨s2, hD⟩
      refine ⟨D, _, rfl, SqL.of hD, _, rfl, ?_⟩
      have et : (List.replicate (ps.map V.ref).length true).all id = true := by simp
      rw [et]
      have hS2 := hS1.same s2
      have s02 := s1.trans s2
      refine iEnumQ_var rfl hS2 fun J G hG wk => ?_
      refine for_it wk (fun i σ H3 => ∃ v1 v2 v3 v4 v5 v6 : Option V, σ = [some (.ref a), v1, v2, v3, v4, v5, v6] ∧ Same H2 H3) ⟨none, none, none, none, none, none, rfl, Same.refl _⟩ (fun i σ H3 _ h3 => by obtain ⟨_, _, _, _, _, _, _, s3⟩ := h3; exact hG _ s3) ?_ ?_
      · rintro i x σ H3 H4 hi ⟨v1, v2, v3, v4, v5, v6, rfl, s3⟩ ⟨T', y1, y2, rfl, nT, rfl, h1, h2⟩
        cases h1
        replace h2 : (ps.map V.ref)[i]? = some y2 := h2
        rw [List.getElem?_map] at h2
        obtain ⟨q, hq, rfl⟩ := Option.map_eq_some_iff.mp h2
        have hqm : q ∈ ps := List.mem_of_getElem? hq
        refine ⟨T', _, rfl, SqT.of upd_same, rfl, _, _, rfl, _, _, rfl, rfl, ?_⟩
        have s4 : Same H2 (upd H3 T' (.tup [.int (i : Nat), .ref q])) := s3.trans (same_upd nT)
        generalize upd H3 T' (.tup [.int (i : Nat), .ref q]) = H4 at s4
        have hS4 := hS2.same s4
        refine ⟨_, rfl, _, rfl, _, rfl, slQ_of hS4 fun p1 H5 s5 h5 => ⟨p1, _, rfl, h5.star, ?_⟩⟩
        refine ⟨_, rfl, _, rfl, _, _, rfl, rfl, _, rfl, slQ_of (hS4.same s5) fun p2 H6 s6 h6 => ⟨p2, _, rfl, h6.star, ?_⟩⟩
        have el : cutV (ps.map V.ref) none (some ((i : Nat) : Int)) ++ (cutV (ps.map V.ref) (some (((i : Nat) : Int) + 1)) none ++ []) = (ps.take i ++ ps.drop (i + 1)).map V.ref := by
          rw [cut_to hi, cut_from hi, List.append_nil, List.map_append, List.map_take, List.map_drop]
        refine ⟨?_, fun R nR => ?_⟩
        · show (cutV (ps.map V.ref) none (some ((i : Nat) : Int)) ++ (cutV (ps.map V.ref) (some (((i : Nat) : Int) + 1)) none ++ [])).length ≤ sizeLine
          rw [el, List.length_map, List.length_append, List.length_take, List.length_drop]
          exact sl_len (by omega)
        · have hR : upd H6 R (.lst (cutV (ps.map V.ref) none (some ((i : Nat) : Int)) ++ (cutV (ps.map V.ref) (some (((i : Nat) : Int) + 1)) none ++ []))) R = some (.lst ((ps.take i ++ ps.drop (i + 1)).map V.ref)) := by rw [upd_same, el]
          have s7 : Same H2 (upd H6 R (.lst (cutV (ps.map V.ref) none (some ((i : Nat) : Int)) ++ (cutV (ps.map V.ref) (some (((i : Nat) : Int) + 1)) none ++ [])))) := ((s4.trans s5).trans s6).trans (same_upd nR)
          show gName 4 _ _ (upd H6 R (.lst (cutV (ps.map V.ref) none (some ((i : Nat) : Int)) ++ (cutV (ps.map V.ref) (some (((i : Nat) : Int) + 1)) none ++ [])))) _
          generalize upd H6 R (.lst (cutV (ps.map V.ref) none (some ((i : Nat) : Int)) ++ (cutV (ps.map V.ref) (some (((i : Nat) : Int) + 1)) none ++ []))) = H7 at hR s7 ⊢
          refine ⟨_, rfl, R, rfl, ⟨_, SqL.of hR⟩, fun D2 nD2 => ?_⟩
          have ne := sf_at ok.free hq
          have hlen : (ps.take i ++ ps.drop (i + 1)).length ≤ 1000 := by
            rw [List.length_append, List.length_take, List.length_drop]; omega
          have hsub : ∀ q' ∈ ps.take i ++ ps.drop (i + 1), q' ∈ ps := fun q' hq' => by
            rcases List.mem_append.mp hq' with m | m
            · exact List.mem_of_mem_take m
            · exact List.mem_of_mem_drop m
          generalize ps.take i ++ ps.drop (i + 1) = rs at hR ne hlen hsub
          refine lc_it (walk_list (xs := rs.map V.ref)) (fun j H8 => Same H7 H8 ∧ H8 D2 = some (.lst ((List.replicate j false).map V.bl))) ⟨same_upd nD2, upd_same⟩ (fun j H8 _ h8 => h8.1.seq (SqL.of hR)) ?_ ?_
          · rintro j x H8 H9 hj ⟨s8, hD2⟩ ⟨rfl, hx⟩
            rw [List.getElem?_map] at hx
            obtain ⟨q', hq', rfl⟩ := Option.map_eq_some_iff.mp hx
            have hm' : q' ∈ rs := List.mem_of_getElem? hq'
            rw [List.length_map] at hj
            have s28 := s02.trans (s7.trans s8)
            refine ⟨q', _, rfl, SqT.of (s28 _ _ (hs q' (hsub _ hm'))), rfl, _, _, rfl, _, _, rfl, rfl, rfl, ?_⟩
            refine ⟨_, rfl, q, _, 0, _, rfl, rfl, SqT.of (s28 _ _ (hs q hqm)), rfl, ⟨_, rfl⟩, _, rfl, _, _, rfl, rfl, _, hD2, ?_, ?_, ?_⟩
            · rw [List.length_map, List.length_replicate]; exact sl_lt (by omega)
            · intro c' o e
              rw [upd_ne (ne_of_none e nD2)]
              exact s8 _ _ e
            · have ef : Txt.endswith (W (kb q).1) (W (kb q').1) = false := by
                rw [W_ends]
                cases e : (kb q').1.isSuffixOf (kb q).1 with
                | false => rfl
                | true => exact absurd (List.isSuffixOf_iff_suffix.mp e) (ne q' hm')
              rw [upd_same, ef, List.replicate_succ', List.map_append]
              rfl
          · rintro H8 ⟨s8, hD2⟩
            refine ⟨D2, _, rfl, SqL.of hD2, _, rfl, ?_⟩
            have et : (List.replicate (rs.map V.ref).length false).any id = false := by simp
            rw [et]
            exact ⟨_, _, _, _, _, _, rfl, s7.trans s8⟩
      · rintro σ H3 ⟨v1, v2, v3, v4, v5, v6, rfl, s3⟩
        exact k H3 (s02.trans s3)
end
end U

set_option maxRecDepth 100000
set_option maxHeartbeats 4000000
namespace U
open PySem PySem.Spec PyProof.Rows
open L2 hiding Fun CX0 E0 pass0 Fun.binds
open C8 Lx SX StX
theorem p10 {n : Nat} (h : n ≤ 9) : 2 ^ (n + 1) ≤ 1024 := Nat.le_trans (Nat.pow_le_pow_right (by decide) (show n + 1 ≤ 10 by omega)) (by decide)
section
variable {P : Program} {w : World} {K : PySem.W.Frag} {mg : Str → Option Value} {base : Heap}
theorem sc_Rule_put_in : FnScope ["self", "line", "found", "known", "bit", "standing"] ["self", "line"] (fnScope s_Rule_put_in) := fnScope_by (by decide +kernel)
theorem met_put_in {f C : Addr} {fd : FuncData} (F : C8.Fun K "put_in" "Rule.put_in" s_Rule_put_in f fd) (me : Meth K C "put_in" f) (b : Binds K fd ["self", "line"] []) (T : Tx mg) (RT : RuT K C)
    (c_put : Met P w K mg base 1 C "put" (spPut C) []) (p_longest : Prp P w K mg base 1 C "longest" (spLongest C)) (c_tail : Cal P w K mg base 1 "tail" spTail []) : Met P w K mg base 3 C "put_in" (spPutIn C) [] := by
  refine met0 RT.cl me F b sc_Rule_put_in (fun vs H Q E h => ?_) (fun cdv A outer s H vs Q E hr h => ?_)
  · obtain ⟨_, _, _, _, _, rfl, _⟩ := h; rfl
  · obtain ⟨a, fl, ss, l, x, rfl, hR, hn, h9, hl, hI, k⟩ := h
    refine ⟨_, (pss_cons (ps_par (i := 2) (j := 3) (by rfl) sc_Rule_put_in.nd rfl rfl (by decide) rfl rfl (pa_cons pe_str (pa_cons pe_dnewK pa_nil)) (by rfl))
    (pss_cons (ps_set (i := 4) sc_Rule_put_in.nd rfl (.inl rfl) (pe_mt (pl := _) c_put hr (by decide) (pv 0) (pa_cons (pv 1) pa_nil)))
    (pss_cons (ps_while PassesOwn.never (pt_cmpR op_notN (pv 4) pe_non (nomark _))
    (pss_cons (ps_set (i := 5) sc_Rule_put_in.nd rfl (.inl rfl) (pe_c c_tail hr (by decide) rfl (pa_cons (pe_op op_add_str (pv 1) (pv 2)) (pa_cons (pe_pr p_longest hr (by decide) (pv 0)) pa_nil))))
    (pss_cons (ps_if (pt_cmp (pc_din (hu_of hr) (pv 5) (pv 3))) (pss_one (ps_ret pe_non)) pss_nil)
    (pss_cons (ps_dput (hu_of hr) (pv 3) (pv 5) pe_bl rfl)
    (pss_cons (ps_aug (i := 2) sc_Rule_put_in.nd rfl (.inl rfl) (pv 4) iop_add_str)
    (pss_one (ps_set (i := 4) sc_Rule_put_in.nd rfl (.inl rfl) (pe_mt (pl := _) c_put hr (by decide) (pv 0) (pa_cons (pe_op op_add_str (pv 1) (pv 2)) pa_nil)))))))))
    (pss_one (ps_ret (pv 2)))))), ?_⟩
    have hL : ∀ s ∈ ss, s.1.length ≤ longM ss := fun s hs => longM_le hs
    have hx : x.length ≤ 1024 := by have := hI.len hL; have := p10 h9; omega
    have hat : ∀ {H2 : Hp}, Same H H2 → ∃ dx t, H2 a = some (.ins C dx (ruF fl t)) := fun s2 => by
      obtain ⟨dx, t, _, _, ha, _⟩ := hR.same s2
      exact ⟨dx, t, ha⟩
    refine fun D nD => ⟨_, _, rfl, ?_⟩
    have s1 : Same H (upd H D (.dK [])) := same_upd nD
    have hD1 : upd H D (.dK []) D = some (.dK []) := upd_same
    generalize upd H D (.dK []) = H1 at s1 hD1
    obtain ⟨dx, t, ha⟩ := hat s1
    refine ⟨_, rfl, a, dx, _, rfl, ha, ruF_no _ _ (by decide +kernel) (by decide +kernel), _, rfl, a, fl, ss, l, rfl, hR.same s1, fun H2 s2 => ?_⟩
    refine ⟨fun m σ H3 => ∃ (j : Nat) (v5 : Option V), j + m = x.length ∧ σ = [some (.ref a), some (.str (W l)), some (.str (W (x.take j))), some (.ref D), some (oB (putM ss (l ++ x.take j))), v5] ∧ Same H H3 ∧ H3 D = some (.dK (kst ((List.range j).map fun i => tl (longM ss) (l ++ x.take i)))),
      ⟨x.length, 0, none, by omega, by rw [List.take_zero, List.append_nil, ← W_nil]; rfl, s1.trans s2, s2 _ _ hD1⟩, ?_⟩
    rintro m σ H3 ⟨j, v5, hj, rfl, s3, hD3⟩
    refine ⟨_, rfl, rfl, _, rfl, ?_⟩
    rw [oB_non]
    by_cases hlt : j < x.length
    · have hb : x[j]? = some x[j] := List.getElem?_eq_getElem hlt
      have hput := hI.at hb
      rw [hput]
      have lx : (x.take j).length ≤ 1024 := by rw [List.length_take]; omega
      have e1 : (W l).length = l.length := W_len l
      have e2 : (W (x.take j)).length = (x.take j).length := W_len _
      refine ⟨fun σ' H' => ∃ m', m' < m ∧ ∃ (j : Nat) (v5 : Option V), j + m' = x.length ∧ σ' = [some (.ref a), some (.str (W l)), some (.str (W (x.take j))), some (.ref D), some (oB (putM ss (l ++ x.take j))), v5] ∧ Same H H' ∧ H' D = some (.dK (kst ((List.range j).map fun i => tl (longM ss) (l ++ x.take i)))), fun _ _ h => h, ?_⟩
      obtain ⟨dx3, t3, ha3⟩ := hat s3
      refine ⟨_, rfl, _, rfl, _, _, rfl, rfl, by rw [e1, e2]; exact sl_len (by omega), _, rfl, a, dx3, _, rfl, ha3, a, fl, ss, rfl, hR.same s3, hn, fun s hs => Nat.le_trans (longM_le hs) (by omega), fun H4 s4 => ?_⟩
      refine ⟨l ++ x.take j, longM ss, by rw [← W_cat]; rfl, by rw [List.length_append]; omega, ?_⟩
      have hD4 := s4 _ _ hD3
      have nin : ¬ tl (longM ss) (l ++ x.take j) ∈ (List.range j).map fun i => tl (longM ss) (l ++ x.take i) := fun hm => by
        obtain ⟨i, hi, e⟩ := List.mem_map.mp hm
        have hi' := List.mem_range.mp hi
        have := hI.apart hL (Nat.le_of_lt (Nat.lt_trans hi' hlt)) (Nat.le_of_lt hlt) e
        omega
      refine ⟨_, rfl, _, rfl, D, _, rfl, DGet.k (k := .inr (W (tl (longM ss) (l ++ x.take j)))) hD4, _, rfl, iteBF (by rw [val_out nin]; rfl) ?_⟩
      refine ⟨_, rfl, _, rfl, D, _, rfl, DPut.k (k := .inr (W (tl (longM ss) (l ++ x.take j)))) hD4 (by unfold kst; rw [List.length_map, List.length_map, List.length_range]; exact sl_lt (by omega)), ?_⟩
      rw [put_out nin]
      have et : x.take (j + 1) = x.take j ++ [x[j]] := by rw [List.take_add_one, hb]; rfl
      have ek : ((List.range j).map fun i => tl (longM ss) (l ++ x.take i)) ++ [tl (longM ss) (l ++ x.take j)] = (List.range (j + 1)).map fun i => tl (longM ss) (l ++ x.take i) := by
        rw [List.range_succ, List.map_append]; rfl
      rw [ek]
      have s5 : Same H (upd H4 D (.dK (kst ((List.range (j + 1)).map fun i => tl (longM ss) (l ++ x.take i))))) := fun c o e => by
        rw [upd_ne (ne_of_none e nD)]
        exact (s3.trans s4) _ _ e
      have hD5 : upd H4 D (.dK (kst ((List.range (j + 1)).map fun i => tl (longM ss) (l ++ x.take i)))) D = some (.dK (kst ((List.range (j + 1)).map fun i => tl (longM ss) (l ++ x.take i)))) := upd_same
      generalize upd H4 D (.dK (kst ((List.range (j + 1)).map fun i => tl (longM ss) (l ++ x.take i)))) = H5 at s5 hD5
      have e3 : (W [x[j]]).length = 1 := W_len _
      refine ⟨_, rfl, _, rfl, _, _, rfl, rfl, by rw [e2, e3]; exact sl_len (by omega), ?_⟩
      rw [W_cat, ← et]
      have e4 : (W (x.take (j + 1))).length = (x.take (j + 1)).length := W_len _
      obtain ⟨dx5, t5, ha5⟩ := hat s5
      refine ⟨_, rfl, a, dx5, _, rfl, ha5, ruF_no _ _ (by decide +kernel) (by decide +kernel), _, rfl, _, rfl, _, _, rfl, rfl, by rw [e1, e4, et, List.length_append]; exact sl_len (by simp only [List.length_cons, List.length_nil]; omega), ?_⟩
      refine ⟨a, fl, ss, l ++ x.take (j + 1), by rw [← W_cat]; rfl, hR.same s5, fun H6 s6 => ?_⟩
      exact ⟨m - 1, by omega, j + 1, _, by omega, rfl, s5.trans s6, s6 _ _ hD5⟩
    · have hj' : j = x.length := by omega
      subst hj'
      rw [List.take_length, hI.end]
      exact ⟨_, rfl, k H3 s3⟩
end
end U

set_option maxRecDepth 100000
set_option maxHeartbeats 4000000
namespace U
open PySem PySem.Spec PyProof.Rows
open L2 hiding Fun CX0 E0 pass0 Fun.binds
open C8 Lx SX StX
/-- the standings that wait, and are known -/
structure Bfs (ss : List Stf) (H H2 : Hp) (q d : Addr) (ws : List (List Bool)) : Prop where
  same : Same H H2
  wait : H2 q = some (.lst (ws.map fun w => V.str (W w)))
  known : H2 d = some (.dK (kst ws))
  nodup : ws.Nodup
  short : ∀ w ∈ ws, w.length ≤ longM ss
  reach : ∀ w ∈ ws, ∃ l, Reach ss l ∧ tl (longM ss) l = w
theorem Bfs.on {ss : List Stf} {H H2 H3 : Hp} {q d : Addr} {ws : List (List Bool)} (b : Bfs ss H H2 q d ws) (s : Same H2 H3) : Bfs ss H H3 q d ws :=
  ⟨b.same.trans s, s _ _ b.wait, s _ _ b.known, b.nodup, b.short, b.reach⟩
theorem Bfs.few {ss : List Stf} {H H2 : Hp} {q d : Addr} {ws : List (List Bool)} (b : Bfs ss H H2 q d ws) : ws.length + 1 ≤ 2 ^ (longM ss + 1) := words_le b.nodup b.short
def key (s : Stf) : Str × Str := (W s.1, W [s.2])
def SortedS (ss : List Stf) : Prop := SrtO.Srtd (fun x y => SrT.lexT (key x) (key y)) ss
def spRuInit (K : PySem.W.Frag) (C : Addr) : Sp := fun vs H Q _ => ∃ (a dx s : Addr) (f : List Bool) (ps : List Addr) (kb : Addr → Stf), vs = [.ref a, .str (W f), .ref s] ∧ H a = some (.ins C dx []) ∧ Sq K H s (ps.map V.ref) ∧ StV H kb ps ∧ StOk (ps.map kb) ∧ OkR (ps.map kb) ∧ 2 ≤ f.length ∧ f.length ≤ 1000 ∧
  ∀ H' ss, (∀ b o, H b = some o → b ≠ a → H' b = some o) → ss.Perm (ps.map kb) → SortedS ss → RuAt C H' a f ss → Q .non H'
theorem pwS {qs : List Addr} {kb : Addr → Stf} (h : SrtO.Srtd (fun x y => SrT.lexT (key (kb x)) (key (kb y))) qs) : SortedS (qs.map kb) := List.pairwise_map.mpr h
section
variable {P : Program} {w : World} {K : PySem.W.Frag} {mg : Str → Option Value} {base : Heap}
theorem sc_Rule_is_endless : FnScope ["self", "waiting", "known", "at", "bit", "line", "more", "standing"] ["self"] (fnScope s_Rule_is_endless) := fnScope_by (by decide +kernel)
theorem met_is_endless {f C : Addr} {fd : FuncData} {tB : Tok} (F : C8.Fun K "is_endless" "Rule.is_endless" s_Rule_is_endless f fd) (me : Meth K C "is_endless" f) (b : Binds K fd ["self"] []) (T : Tx mg) (RT : RuT K C) (g_BITS : mg "BITS" = some (.str "01" tB))
    (c_put_in : Met P w K mg base 3 C "put_in" (spPutIn C) []) (p_longest : Prp P w K mg base 1 C "longest" (spLongest C)) (c_tail : Cal P w K mg base 1 "tail" spTail []) : Met P w K mg base 4 C "is_endless" (spEndless C) [] := by
  refine met0 RT.cl me F b sc_Rule_is_endless (fun vs H Q E h => ?_) (fun cdv A outer s H vs Q E hr h => ?_)
  · obtain ⟨_, _, _, rfl, _⟩ := h; rfl
  · obtain ⟨a, fl, ss, rfl, hR, hn, h9, hO, k⟩ := h
    refine ⟨_, (pss_cons (ps_par3 (i := 1) (j := 2) (l := 3) (by rfl) sc_Rule_is_endless.nd rfl rfl rfl (by decide) (by decide) (by decide) rfl rfl rfl (pa_cons (pe_lst (pa_cons pe_str pa_nil)) (pa_cons (pe_disp (pps_cons pe_str pe_bl pps_nil) (by rfl) (by rfl) (fun z => by cases z) (by decide)) (pa_cons pe_int pa_nil))) (by rfl))
    (pss_cons (ps_while PassesOwn.never (pt_cmpR op_lt (pv 3) (pe_callB call_len_seq (by rfl) T.b_len (by decide +kernel) (pa_cons (pv 1) pa_nil)) (nomark _))
    (pss_cons (ps_for PassesOwn.never rfl (pi_str (pe_glob (v := .str "01") (by rfl) g_BITS ⟨_, rfl⟩)) (pg_name (i := 4) sc_Rule_is_endless.nd rfl (.inl rfl))
    (pss_cons (ps_set (i := 5) sc_Rule_is_endless.nd rfl (.inl rfl) (pe_op op_add_str (pe_ix ix_list (pv 1) (pv 3) (fun _ _ => rfl)) (pv 4)))
    (pss_cons (ps_set (i := 6) sc_Rule_is_endless.nd rfl (.inl rfl) (pe_mt (pl := _) c_put_in hr (by decide) (pv 0) (pa_cons (pv 5) pa_nil)))
    (pss_cons (ps_if (pt_cmpR op_isN (pv 6) pe_non (nomark _)) (pss_one (ps_ret pe_bl)) pss_nil)
    (pss_cons (ps_set (i := 7) sc_Rule_is_endless.nd rfl (.inl rfl) (pe_c c_tail hr (by decide) rfl (pa_cons (pe_op op_add_str (pv 5) (pv 6)) (pa_cons (pe_pr p_longest hr (by decide) (pv 0)) pa_nil))))
    (pss_one (ps_if (pt_cmp (pc_dnotin (hu_of hr) (pv 7) (pv 2))) (pss_cons (ps_dput (hu_of hr) (pv 2) (pv 7) pe_bl rfl)
    (pss_one (ps_expr (pe_bm PySem.F.plainAttrs_list PySem.F.slot_list_append PySem.F.type_list_append mt_append (pv 1) (pa_cons (pv 7) pa_nil))))) pss_nil)))))))
    (pss_one (ps_aug (i := 3) sc_Rule_is_endless.nd rfl (.inl rfl) pe_int ip_add))))
    (pss_one (ps_ret pe_bl)))), ?_⟩
    have hL : ∀ s ∈ ss, s.1.length ≤ longM ss := fun s hs => longM_le hs
    have hpw := p10 h9
    have hat : ∀ {H2 : Hp}, Same H H2 → ∃ dx t, H2 a = some (.ins C dx (ruF fl t)) := fun s2 => by
      obtain ⟨dx, t, _, _, ha, _⟩ := hR.same s2
      exact ⟨dx, t, ha⟩
    refine ⟨by show 1 ≤ sizeLine; decide, fun q nq d nd => ⟨upd_same, [(.inr "", .bl true)], rfl, by decide, _, _, _, rfl, ?_⟩⟩
    have nqd : q ≠ d := fun z => by rw [← z, upd_same] at nd; cases nd
    have b0 : Bfs ss H (upd (upd (upd H q (.lst [.str ""])) d (.dK [])) d (.dK (mergeK [] [(.inr "", .bl true)]))) q d [[]] := by
      refine ⟨fun c o e => ?_, ?_, ?_, ?_, ?_, ?_⟩
      · have n1 := ne_of_none e nq
        have n2 : c ≠ d := fun z => by rw [z] at e n1; rw [upd_ne n1, e] at nd; cases nd
        rw [upd_ne n2, upd_ne n2, upd_ne n1]
        exact e
      · rw [upd_ne nqd, upd_ne nqd, upd_same, W_nil]; rfl
      · rw [upd_same, W_nil]; rfl
      · simp
      · intro w hw; rw [List.mem_singleton.mp hw]; exact Nat.zero_le _
      · intro w hw; rw [List.mem_singleton.mp hw]; exact ⟨[], .nil, by unfold tl; rw [List.drop_nil]⟩
    have nq0 : H q = none := nq
    have nd0 : H d = none := by
      cases e : H d with
      | none => rfl
      | some o => rw [upd_ne (Ne.symm nqd), e] at nd; cases nd
    generalize upd (upd (upd H q (.lst [.str ""])) d (.dK [])) d (.dK (mergeK [] [(.inr "", .bl true)])) = H1 at b0
    refine ⟨fun m σ H2 => ∃ (n : Nat) (ws : List (List Bool)) (v4 v5 v6 v7 : Option V), σ = [some (.ref a), some (.ref q), some (.ref d), some (.int n), v4, v5, v6, v7] ∧ Bfs ss H H2 q d ws ∧ n ≤ ws.length ∧ m + n = 2 ^ (longM ss + 1),
      ⟨2 ^ (longM ss + 1), 0, [[]], none, none, none, none, rfl, b0, Nat.zero_le _, by omega⟩, ?_⟩
    rintro m σ H2 ⟨n, ws, v4, v5, v6, v7, rfl, B2, hn2, hm⟩
    have few2 := B2.few
    refine ⟨_, rfl, _, rfl, q, _, rfl, .inl (SqL.of B2.wait), _, _, rfl, rfl, _, rfl, ?_⟩
    rw [List.length_map]
    by_cases hlt : n < ws.length
    · refine iteDT (by omega) ?_
      refine ⟨fun σ' H' => ∃ m', m' < m ∧ ∃ (n : Nat) (ws : List (List Bool)) (v4 v5 v6 v7 : Option V), σ' = [some (.ref a), some (.ref q), some (.ref d), some (.int n), v4, v5, v6, v7] ∧ Bfs ss H H' q d ws ∧ n ≤ ws.length ∧ m' + n = 2 ^ (longM ss + 1), fun _ _ h => h, ?_⟩
      refine ⟨_, rfl, for_it walk_str (fun i σ H3 => ∃ (ws : List (List Bool)) (v4 v5 v6 v7 : Option V), σ = [some (.ref a), some (.ref q), some (.ref d), some (.int n), v4, v5, v6, v7] ∧ Bfs ss H H3 q d ws ∧ n < ws.length) ⟨ws, _, _, _, _, rfl, B2, hlt⟩ (fun _ _ _ _ _ => trivial) ?_ ?_⟩
      · rintro i x σ H3 H3' hi ⟨ws, v4, v5, v6, v7, rfl, B3, hlt3⟩ ⟨rfl, c, hc, rfl⟩
        have e01 : ("01" : Str) = W [false, true] := by decide +kernel
        rw [e01] at hc
        obtain ⟨bb, _, rfl⟩ := W_get hc
        have hw : (ws.map fun w => V.str (W w))[n]? = some (.str (W ws[n])) := by rw [List.getElem?_map, List.getElem?_eq_getElem hlt3]; rfl
        have hmem : ws[n] ∈ ws := List.getElem_mem hlt3
        generalize ws[n] = w0 at hw hmem
        have hs0 := B3.short _ hmem
        have few3 := B3.few
        obtain ⟨l0, hr0, rfl⟩ := B3.reach _ hmem
        obtain ⟨y, hy⟩ := hO l0 hr0 bb
        have ht0 : tl (longM ss) l0 = tl (longM ss) (tl (longM ss) l0) := (tl_tl (Nat.le_refl _) _).symm
        have hy' := hy.tl hL (tl_snoc (b := bb) ht0)
        have hyl := hy.len hL
        have hnx : tl (longM ss) (l0 ++ [bb] ++ y) = tl (longM ss) (tl (longM ss) l0 ++ [bb] ++ y) := tl_app (tl_snoc (b := bb) ht0) y
        have hrn : Reach ss (l0 ++ [bb] ++ y) := .next hr0 hy
        generalize tl (longM ss) l0 = w0 at *
        have ew : W w0 ++ (⟨#[bt bb]⟩ : Str) = W (w0 ++ [bb]) := W_cat w0 [bb]
        have el : (W w0).length + (⟨#[bt bb]⟩ : Str).length ≤ sizeLine := by
          have e1 : (W w0).length = w0.length := W_len _
          have e2 : (⟨#[bt bb]⟩ : Str).length = 1 := W_len [bb]
          rw [e1, e2]; exact sl_len (by omega)
        refine ⟨_, rfl, _, rfl, q, _, _, _, rfl, rfl, SqL.of B3.wait, atI_nat hw, _, rfl, _, _, rfl, rfl, el, ?_⟩
        rw [ew]
        obtain ⟨dx3, t3, ha3⟩ := hat B3.same
        have hl1 : (w0 ++ [bb]).length ≤ 10 := by rw [List.length_append, List.length_cons, List.length_nil]; omega
        refine ⟨_, rfl, a, dx3, _, rfl, ha3, ruF_no _ _ (by decide +kernel) (by decide +kernel), _, rfl, a, fl, ss, w0 ++ [bb], y, rfl, hR.same B3.same, hn, h9, by omega, hy', fun H4 s4 => ?_⟩
        have B4 := B3.on s4
        refine ⟨_, rfl, rfl, _, rfl, iteDF (fun z => by cases z) ?_⟩
        obtain ⟨dx4, t4, ha4⟩ := hat B4.same
        have e3 : (W (w0 ++ [bb])).length = (w0 ++ [bb]).length := W_len _
        have e4 : (W y).length = y.length := W_len _
        refine ⟨_, rfl, _, rfl, _, _, rfl, rfl, by rw [e3, e4]; exact sl_len (by omega), _, rfl, a, dx4, _, rfl, ha4, a, fl, ss, rfl, hR.same B4.same, hn, fun s hs => Nat.le_trans (longM_le hs) (by omega), fun H5 s5 => ?_⟩
        have B5 := B4.on s5
        refine ⟨w0 ++ [bb] ++ y, longM ss, by rw [← W_cat (w0 ++ [bb]) y]; rfl, by rw [List.length_append]; omega, ?_⟩
        refine ⟨_, rfl, _, rfl, d, _, rfl, DGet.k (k := .inr (W (tl (longM ss) (w0 ++ [bb] ++ y)))) B5.known, _, rfl, ?_⟩
        by_cases hin : tl (longM ss) (w0 ++ [bb] ++ y) ∈ ws
        · refine iteBF (by rw [val_in hin]; rfl) ?_
          exact ⟨ws, _, _, _, _, rfl, B5, hlt3⟩
        · refine iteBT (by rw [val_out hin]; rfl) ?_
          refine ⟨_, rfl, _, rfl, d, _, rfl, DPut.k (k := .inr (W (tl (longM ss) (w0 ++ [bb] ++ y)))) B5.known (by unfold kst; rw [List.length_map]; exact sl_lt (by omega)), ?_⟩
          rw [put_out hin]
          have hW6 : upd H5 d (.dK (kst (ws ++ [tl (longM ss) (w0 ++ [bb] ++ y)]))) q = some (.lst (ws.map fun w => V.str (W w))) := by rw [upd_ne nqd]; exact B5.wait
          refine ⟨_, rfl, .inl ⟨rfl, _, SqL.of hW6⟩, _, rfl, q, _, _, rfl, rfl, hW6, by rw [List.length_map]; exact sl_lt (by omega), ?_⟩
          refine ⟨ws ++ [tl (longM ss) (w0 ++ [bb] ++ y)], _, _, _, _, rfl, ⟨fun c o e => ?_, ?_, ?_, ?_, ?_, ?_⟩, ?_⟩
          · rw [upd_ne (ne_of_none e nq0), upd_ne (ne_of_none e nd0)]
            exact B5.same _ _ e
          · rw [upd_same, List.map_append]; rfl
          · rw [upd_ne (Ne.symm nqd), upd_same]
          · rw [List.nodup_append]
            refine ⟨B5.nodup, by simp, fun u hu v hv e => ?_⟩
            rw [List.mem_singleton.mp hv] at e
            exact hin (e ▸ hu)
          · intro u hu
            rcases List.mem_append.mp hu with m | m
            · exact B5.short _ m
            · rw [List.mem_singleton.mp m]; exact tl_le _ _
          · intro u hu
            rcases List.mem_append.mp hu with m | m
            · exact B5.reach _ m
            · rw [List.mem_singleton.mp m]; exact ⟨_, hrn, hnx⟩
          · rw [List.length_append]; omega
      · rintro σ H3 ⟨ws, v4, v5, v6, v7, rfl, B3, hlt3⟩
        refine ⟨_, rfl, _, _, rfl, rfl, ?_⟩
        refine ⟨m - 1, by omega, n + 1, ws, _, _, _, _, rfl, B3, hlt3, by omega⟩
    · refine iteDF (by omega) ?_
      exact k H2 B2.same
theorem sc_Rule_init : FnScope ["self", "flag", "stuffs"] ["self", "flag", "stuffs"] (fnScope s_Rule_init) := fnScope_by (by decide +kernel)
theorem ok_Rule_init {f C : Addr} {fd : FuncData} (F : C8.Fun K "__init__" "Rule.__init__" s_Rule_init f fd) (T : Tx mg) (RT : RuT K C) (c_is_word : Cal P w K mg base 1 "is_word" (spIsWord K) []) (c_are_stuffs : Cal P w K mg base 4 "are_stuffs" (spAre K) []) (c_is_endless : Met P w K mg base 4 C "is_endless" (spEndless C) []) :
    FnOk P w K mg base CX0 5 f fd ["self", "flag", "stuffs"] (spRuInit K C) := by
  refine fn0 F sc_Rule_init (fun vs H Q E h => ?_) (fun cdv A outer s H vs Q E hr h => ?_)
  · obtain ⟨_, _, _, _, _, _, rfl, _⟩ := h; rfl
  · obtain ⟨a, dx, sq, fl, ps, kb, rfl, ha, hS, hs, ok, hO, h2, hl, k⟩ := h
    refine ⟨_, (pss_cons (ps_if (PW.pt (pw_or (pt_not (pt_val (pe_c c_is_word hr (by decide) rfl (pa_cons (pv 1) pa_nil)))) (pw_or1 (pt_cmpR op_lt (pe_callB call_len_str (by rfl) T.b_len (by decide +kernel) (pa_cons (pv 1) pa_nil)) pe_int (nomark _))))) (pss_one ps_never) pss_nil)
    (pss_cons (ps_if (pt_not (pt_val (pe_c c_are_stuffs hr (by decide) rfl (pa_cons (pv 2) pa_nil)))) (pss_one ps_never) pss_nil)
    (pss_cons (ps_fld (pv 0) (pv 1) rfl)
    (pss_cons (ps_fld (pv 0) (pe_callTy call_tuple_of (by rfl) T.b_tuple (by decide +kernel) (pa_cons (pe_callB cr_sortedT (by rfl) T.b_sorted (by decide +kernel) (pa_cons (pv 2) pa_nil)) pa_nil)) rfl)
    (pss_one (ps_if (pt_val (pe_mt0 (pl := _) c_is_endless hr (by decide) (pv 0))) (pss_one ps_never) pss_nil)))))), ?_⟩
    have lf : (W fl).length = fl.length := W_len fl
    refine ⟨_, rfl, _, rfl, .inl ⟨_, rfl, by rw [lf]; omega, fun H1 s1 => ⟨_, rfl, iteBF (by rw [isW_W]; rfl) ?_⟩⟩⟩
    refine ⟨_, rfl, _, rfl, by rw [lf]; exact sl_len (by omega), _, _, rfl, rfl, _, rfl, iteDF (by rw [lf]; omega) ?_⟩
    refine ⟨_, rfl, sq, ps, kb, rfl, hS.same s1, hs.same s1, ok, fun H2 s2 => ⟨_, rfl, ?_⟩⟩
    have s02 := s1.trans s2
    have ha2 := s02 _ _ ha
    refine ⟨_, rfl, _, rfl, a, C, dx, _, rfl, ha2, RT.cl, RT.nF, by decide, ?_⟩
    have keep3 : ∀ c o, H c = some o → c ≠ a → upd H2 a (.ins C dx (putF "flag" (.str (W fl)) [])) c = some o := fun c o e n => by rw [upd_ne n]; exact s02 _ _ e
    have ha3 : upd H2 a (.ins C dx (putF "flag" (.str (W fl)) [])) a = some (.ins C dx (putF "flag" (.str (W fl)) [])) := upd_same
    have hs3 : StV (upd H2 a (.ins C dx (putF "flag" (.str (W fl)) []))) kb ps := fun t ht => keep3 _ _ (hs t ht) (ne_of (hs t ht) ha (by intro z; cases z))
    have hS3 : SqL K (upd H2 a (.ins C dx (putF "flag" (.str (W fl)) []))) sq (ps.map V.ref) ∨ SqT K (upd H2 a (.ins C dx (putF "flag" (.str (W fl)) []))) sq (ps.map V.ref) := by
      rcases hS with ((h | ⟨o, h⟩) | h) | ((h | ⟨o, h⟩) | h)
      · exact .inl (.inl (.inl (keep3 _ _ h (ne_of h ha (by intro z; cases z)))))
      · exact .inl (.inl (.inr ⟨o, keep3 _ _ h (ne_of h ha (by intro z; cases z))⟩))
      · exact .inl (.inr h)
      · exact .inr (.inl (.inl (keep3 _ _ h (ne_of h ha (by intro z; cases z)))))
      · exact .inr (.inl (.inr ⟨o, keep3 _ _ h (ne_of h ha (by intro z; cases z))⟩))
      · exact .inr (.inr h)
    generalize upd H2 a (.ins C dx (putF "flag" (.str (W fl)) [])) = H3 at keep3 ha3 hs3 hS3
    refine ⟨_, rfl, sq, ps, fun t => key (kb t), rfl, hS3, fun t ht => hs3 t ht, fun qs p1 srt prm n1 => ?_⟩
    refine ⟨p1, _, rfl, .inl ⟨SqL.of upd_same, fun p2 n2 => ?_⟩⟩
    have s5 : Same H3 (upd (upd H3 p1 (.lst (qs.map V.ref))) p2 (.tup (qs.map V.ref))) := (same_upd n1).trans (same_upd n2)
    have hT5 : upd (upd H3 p1 (.lst (qs.map V.ref))) p2 (.tup (qs.map V.ref)) p2 = some (.tup (qs.map V.ref)) := upd_same
    generalize upd (upd H3 p1 (.lst (qs.map V.ref))) p2 (.tup (qs.map V.ref)) = H5 at s5 hT5
    have ha5 := s5 _ _ ha3
    refine ⟨_, rfl, a, C, dx, _, rfl, ha5, RT.cl, RT.nS, by show 1 < 1000; decide, ?_⟩
    have na2 : p2 ≠ a := ne_of hT5 ha5 (by intro z; cases z)
    have keep6 : ∀ c o, H3 c = some o → c ≠ a → upd H5 a (.ins C dx (putF "stuffs" (.ref p2) (putF "flag" (.str (W fl)) []))) c = some o := fun c o e n => by rw [upd_ne n]; exact s5 _ _ e
    have ha6 : upd H5 a (.ins C dx (putF "stuffs" (.ref p2) (putF "flag" (.str (W fl)) []))) a = some (.ins C dx (ruF fl p2)) := upd_same
    have hT6 : upd H5 a (.ins C dx (putF "stuffs" (.ref p2) (putF "flag" (.str (W fl)) []))) p2 = some (.tup (qs.map V.ref)) := by rw [upd_ne na2]; exact hT5
    generalize upd H5 a (.ins C dx (putF "stuffs" (.ref p2) (putF "flag" (.str (W fl)) []))) = H6 at keep6 ha6 hT6
    have hs6 : StV H6 kb qs := StV.perm (fun t ht => keep6 _ _ (hs3 t ht) (ne_of (hs3 t ht) ha3 (by intro z; cases z))) prm
    have pm : (qs.map kb).Perm (ps.map kb) := prm.map kb
    have hR6 : RuAt C H6 a fl (qs.map kb) := ⟨dx, p2, qs, kb, ha6, hT6, hs6, rfl⟩
    have ok6 := ok.perm pm.symm
    refine ⟨_, rfl, a, dx, _, rfl, ha6, ruF_no _ _ (by decide +kernel) (by decide +kernel), a, fl, qs.map kb, rfl, hR6, ok6.few, ok6.long, hO.congr fun l => put_perm ok.free pm.symm l, fun H7 s7 => ⟨_, rfl, ?_⟩⟩
    exact k H7 (qs.map kb) (fun c o e n => s7 _ _ (keep6 _ _ (keep3 _ _ e n) n)) pm (pwS srt) (hR6.same s7)
end
end U

set_option maxRecDepth 100000
set_option maxHeartbeats 4000000
namespace U
open PySem PySem.Spec PyProof.Rows
open L2 hiding Fun CX0 E0 pass0 Fun.binds
open C8 Lx SX
/-! checks -/
def ckF (p s : List Bool) : List (Str × V) := putF "start" (.str (W s)) (putF "poly" (.str (W p)) [])
theorem ps_ne : ¬ (("poly" : Str) = "start") := by decide +kernel
theorem ckF_poly (p s : List Bool) : (ckF p s).lookup ("poly" : Str) = some (.str (W p)) := by
  unfold ckF
  rw [lookup_putF, if_neg ps_ne, lookup_putF, if_pos rfl]
theorem ckF_start (p s : List Bool) : (ckF p s).lookup ("start" : Str) = some (.str (W s)) := by
  unfold ckF
  rw [lookup_putF, if_pos rfl]
theorem ckF_no (p s : List Bool) {m : Str} (h1 : ¬ m = "start") (h2 : ¬ m = "poly") : (ckF p s).lookup m = none := by
  unfold ckF
  rw [lookup_putF, if_neg h1, lookup_putF, if_neg h2]
  all_goals rfl
def CkAt (C : Addr) (H : Hp) (a : Addr) (p s : List Bool) : Prop := ∃ dx, H a = some (.ins C dx (ckF p s))
theorem CkAt.same {C : Addr} {H H' : Hp} {a : Addr} {p s : List Bool} (h : CkAt C H a p s) (e : Same H H') : CkAt C H' a p s := by
  obtain ⟨dx, h⟩ := h
  exact ⟨dx, e _ _ h⟩
theorem CkAt.up {C b : Addr} {H H' : Hp} {a : Addr} {p s : List Bool} (hb : Box H b) (h : CkAt C H a p s) (e : Up b H H') : CkAt C H' a p s := by
  obtain ⟨dx, h⟩ := h
  obtain ⟨i, j, hb⟩ := hb
  exact ⟨dx, e.1 _ _ h (ne_of h hb (by intro z; cases z))⟩
theorem CkAt.nl {C : Addr} {H H' : Hp} {a : Addr} {p s : List Bool} (h : CkAt C H a p s) (e : NL H H') : CkAt C H' a p s := by
  obtain ⟨dx, h⟩ := h
  exact ⟨dx, e.ins h⟩
structure CkOk (p s : List Bool) : Prop where
  hd : p.head? = some true
  last : p.getLast? = some true
  len : s.length + 1 = p.length
def zs (n : Nat) : List Bool := List.replicate n false
theorem mul_0 (n : Int) : Txt.mul "0" n = W (zs n.toNat) := by
  refine TL.ext_tl ?_
  have e : ("0" : Str) = ⟨#[48]⟩ := by decide +kernel
  rw [e]
  show (Txt.mul ⟨#[48]⟩ n).cps.toList = (zs n.toNat).map bt
  rw [PyProof.Rows.mul_one_list]
  unfold zs
  rw [List.map_replicate]
  rfl
theorem take1 {p : List Bool} (h : p.head? = some true) : W (p.take 1) = "1" := by
  cases p with
  | nil => cases h
  | cons b r =>
    cases (Option.some.inj h)
    rw [W_1]
    rfl
theorem last1 {p : List Bool} (h : p.getLast? = some true) : W (p.drop (p.length - 1)) = "1" := by
  rw [W_1]
  cases p with
  | nil => cases h
  | cons b r =>
    congr 1
    rw [List.getLast?_eq_getElem?] at h
    have hl : (b :: r).length - 1 < (b :: r).length := by simp
    rw [List.drop_eq_getElem_cons hl]
    rw [List.getElem?_eq_getElem hl] at h
    rw [Option.some.inj h]
    congr 1
    rw [List.drop_eq_nil_iff]
    omega
theorem W_last {p : List Bool} (h : p ≠ []) : Txt.slice (W p) (some (-1)) none = W (p.drop (p.length - 1)) := by
  unfold W
  rw [slice_last (by simpa using h), List.map_drop, List.length_map]
/-- the class as the top leaves it -/
structure CkT (K : PySem.W.Frag) (C : Addr) : Prop where
  cl : Cls K C
  nP : NoAttr K C "poly"
  nS : NoAttr K C "start"
def spCkInit (C : Addr) : Sp := fun vs H Q _ => ∃ (a dx : Addr) (p s : List Bool) (sv : V), vs = [.ref a, .str (W p), sv] ∧ H a = some (.ins C dx []) ∧ CkOk p s ∧ p.length ≤ 1000 ∧ (sv = .str (W s) ∨ (sv = .non ∧ s = zs (p.length - 1))) ∧
  ∀ H', (∀ b o, H b = some o → b ≠ a → H' b = some o) → H' a = some (.ins C dx (ckF p s)) → Q .non H'
def stepM (p r : List Bool) (b : Bool) : List Bool := match r ++ [b] with
  | [] => []
  | x :: l => if x then List.zipWith xor l p.tail else l
def restM (p s : List Bool) (bits : List Bool) : List Bool := bits.foldl (stepM p) s
theorem stepM_len {p r : List Bool} (h : r.length + 1 = p.length) (b : Bool) : (stepM p r b).length = r.length := by
  unfold stepM
  cases r with
  | nil =>
    show (if b then List.zipWith xor [] p.tail else []).length = 0
    cases b <;> rfl
  | cons x l =>
    show (if x then List.zipWith xor (l ++ [b]) p.tail else l ++ [b]).length = _
    split
    · rw [List.length_zipWith, List.length_append, List.length_tail]
      simp only [List.length_cons, List.length_nil] at h ⊢
      omega
    · simp
theorem restM_len {p : List Bool} : ∀ (bits s : List Bool), s.length + 1 = p.length → (restM p s bits).length = s.length
  | [], _, _ => rfl
  | b :: r, s, h => by
    have e := stepM_len h b
    show (restM p (stepM p s b) r).length = _
    rw [restM_len r (stepM p s b) (by omega), e]
def spStep (C : Addr) : Sp := fun vs H Q _ => ∃ (a : Addr) (p s r : List Bool) (b : Bool), vs = [.ref a, .str (W r), .str (W [b])] ∧ CkAt C H a p s ∧ p.length ≤ 1000 ∧ r.length + 1 = p.length ∧
  ∀ H', Same H H' → Q (.str (W (stepM p r b))) H'
def spRest (C : Addr) : Sp := fun vs H Q _ => ∃ (a : Addr) (p s l : List Bool), vs = [.ref a, .str (W l)] ∧ CkAt C H a p s ∧ p.length ≤ 1000 ∧ s.length + 1 = p.length ∧
  ∀ H', Same H H' → Q (.str (W (restM p s l))) H'
def spDegree (C : Addr) : Sp := fun vs H Q _ => ∃ (a : Addr) (p s : List Bool), vs = [.ref a] ∧ CkAt C H a p s ∧ p.length ≤ 1000 ∧ s.length + 1 = p.length ∧ Q (.int (s.length : Nat)) H
theorem int_bit (b : Bool) : (Str.ofString (toString (if b then (1 : Int) else 0))) = W [b] := by cases b <;> decide +kernel
section
variable {P : Program} {w : World} {K : PySem.W.Frag} {mg : Str → Option Value} {base : Heap}
theorem sc_Check_init : FnScope ["self", "poly", "start"] ["self", "poly", "start"] (fnScope s_Check_init) := fnScope_by (by decide +kernel)
theorem ok_Check_init {f C : Addr} {fd : FuncData} (F : C8.Fun K "__init__" "Check.__init__" s_Check_init f fd) (T : Tx mg) (CT : CkT K C) (c_is_word : Cal P w K mg base 1 "is_word" (spIsWord K) []) :
    FnOk P w K mg base CX0 2 f fd ["self", "poly", "start"] (spCkInit C) := by
  refine fn0 F sc_Check_init (fun vs H Q E h => ?_) (fun cdv A outer s H vs Q E hr h => ?_)
  · obtain ⟨_, _, _, _, _, rfl, _⟩ := h; rfl
  · obtain ⟨a, dx, p, st, sv, rfl, ha, ok, hl, hsv, k⟩ := h
    refine ⟨_, (pss_cons (ps_if (PW.pt (pw_or (pt_not (pt_val (pe_c c_is_word hr (by decide) rfl (pa_cons (pv 1) pa_nil)))) (pw_or (pt_cmpR op_ne (pe_slice sl_txt (pv 1) po_none (po_some pe_int)) pe_str (nomark _)) (pw_or1 (pt_cmpR op_ne (pe_slice sl_txt (pv 1) (po_some (pe_un un_neg pe_int)) po_none) pe_str (nomark _)))))) (pss_one ps_never) pss_nil)
    (pss_cons (ps_if (PW.pt (pw_and (pt_cmpR op_notN (pv 2) pe_non (nomark _)) (pw_and1 (PW.pt (pw_or (pt_not (pt_val (pe_c c_is_word hr (by decide) rfl (pa_cons (pv 2) pa_nil)))) (pw_or1 (pt_cmpR op_ne (pe_callB call_len_str (by rfl) T.b_len (by decide +kernel) (pa_cons (pv 2) pa_nil)) (pe_op op_sub (pe_callB call_len_str (by rfl) T.b_len (by decide +kernel) (pa_cons (pv 1) pa_nil)) pe_int) (nomark _)))))))) (pss_one ps_never) pss_nil)
    (pss_cons (ps_fld (pv 0) (pv 1) rfl)
    (pss_one (ps_fld (pv 0) (pe_ifExp (pt_cmpR op_isN (pv 2) pe_non (nomark _)) (pe_op op_rep_str pe_str (pe_op op_sub (pe_callB call_len_str (by rfl) T.b_len (by decide +kernel) (pa_cons (pv 1) pa_nil)) pe_int)) (pv 2)) rfl))))), ?_⟩
    have pn : p ≠ [] := fun z => by have := ok.len; rw [z] at this; cases this
    have lw : (W p).length ≤ sizeLine := by rw [W_len]; exact sl_len (by omega)
    refine ⟨_, rfl, _, rfl, .inl ⟨_, rfl, by rw [W_len]; omega, fun H1 s1 => ⟨_, rfl, iteBF (by rw [isW_W]; rfl) ?_⟩⟩⟩
    refine ⟨_, rfl, _, rfl, _, rfl, lw, rfl, _, rfl, iteNS (by rw [W_take (by decide)]; exact congrArg V.str (take1 ok.hd)) ?_⟩
    refine ⟨_, rfl, _, rfl, _, rfl, _, rfl, lw, rfl, _, rfl, iteNS (by rw [W_last pn]; exact congrArg V.str (last1 ok.last)) ?_⟩
    have el : (W p).length = p.length := W_len p
    have hp1 : ∀ {H2 : Hp}, Same H H2 → H2 a = some (.ins C dx []) := fun s2 => s2 _ _ ha
    have keep : ∀ {H2 : Hp} {o u : HO}, Same H H2 → ∀ b x, H b = some x → b ≠ a → upd (upd H2 a o) a u b = some x := fun s2 b x e n => by
      rw [upd_ne n, upd_ne n]
      exact s2 _ _ e
    rcases hsv with rfl | ⟨rfl, rfl⟩
    · refine ⟨_, rfl, rfl, _, rfl, ?_⟩
      refine ⟨_, rfl, _, rfl, .inl ⟨_, rfl, by rw [W_len]; have := ok.len; omega, fun H2 s2 => ⟨_, rfl, iteBF (by rw [isW_W]; rfl) ?_⟩⟩⟩
      have lw2 : (W st).length ≤ sizeLine := by rw [W_len]; exact sl_len (by have := ok.len; omega)
      refine ⟨_, rfl, _, rfl, lw2, _, rfl, _, rfl, lw, _, _, rfl, rfl, rfl, _, rfl, iteNS (by rw [W_len, W_len]; have := ok.len; congr 1; omega) ?_⟩
      have s3 := s1.trans s2
      refine ⟨_, rfl, _, rfl, a, C, dx, _, rfl, hp1 s3, CT.cl, CT.nP, (by show 0 < 1000; decide), ?_⟩
      refine ⟨_, rfl, rfl, _, rfl, ?_⟩
      refine ⟨_, rfl, _, rfl, a, C, dx, _, rfl, upd_same, CT.cl, CT.nS, (by show 1 < 1000; decide), ?_⟩
      exact k _ (keep s3) upd_same
    · refine ⟨_, rfl, rfl, _, rfl, ?_⟩
      refine ⟨_, rfl, _, rfl, a, C, dx, _, rfl, hp1 s1, CT.cl, CT.nP, (by show 0 < 1000; decide), ?_⟩
      refine ⟨_, rfl, rfl, _, rfl, ?_⟩
      have ez : Txt.mul "0" (((W p).length : Int) - 1) = W (zs (p.length - 1)) := by rw [mul_0, W_len]; congr 2; omega
      have e0 : ("0" : Str).length = 1 := by decide +kernel
      refine ⟨_, rfl, _, rfl, lw, _, _, rfl, rfl, _, _, rfl, rfl, by omega, by omega, by rw [e0]; omega, ?_⟩
      rw [ez]
      refine ⟨_, rfl, a, C, dx, _, rfl, upd_same, CT.cl, CT.nS, (by show 1 < 1000; decide), ?_⟩
      exact k _ (keep s1) upd_same
theorem sc_Check_step : FnScope ["self", "rest", "bit", "longer", "one", "other"] ["self", "rest", "bit"] (fnScope s_Check_step) := fnScope_by (by decide +kernel)
theorem met_step {f C : Addr} {fd : FuncData} (F : C8.Fun K "step" "Check.step" s_Check_step f fd) (me : Meth K C "step" f) (b : Binds K fd ["self", "rest", "bit"] []) (T : Tx mg) (CT : CkT K C) : Met P w K mg base 1 C "step" (spStep C) [] := by
  refine met0 CT.cl me F b sc_Check_step (fun vs H Q E h => ?_) (fun cdv A outer s H vs Q E hr h => ?_)
  · obtain ⟨_, _, _, _, _, rfl, _⟩ := h; rfl
  · obtain ⟨a, p, st, r, bb, rfl, ⟨dx, ha⟩, hl, hr1, k⟩ := h
    refine ⟨_, (pss_cons (ps_set (i := 3) sc_Check_step.nd rfl (.inl rfl) (pe_op op_add_str (pv 1) (pv 2)))
    (pss_cons (ps_if (pt_cmpR op_eq (pe_ix ix_str (pv 3) pe_int (fun _ _ => rfl)) pe_str (nomark _)) (pss_one (ps_ret (pe_slice sl_txt (pv 3) (po_some pe_int) po_none))) pss_nil)
    (pss_one (ps_ret (pe_join pe_str (pe_lc (own := [("one", 4), ("other", 5)]) (g := gTup K 2 (gCons (gName 4) (gCons (gName 5) gNil))) (by rfl) sc_Check_step.nd (pi_zipS (by rfl) T.b_zip (pa_cons (pe_slice sl_txt (pv 3) (po_some pe_int) po_none) (pa_cons (pe_slice sl_txt (pe_fld (pv 0) rfl) (po_some pe_int) po_none) pa_nil))) (blkOk_by (own := [("one", 4), ("other", 5)]) (N := ["self", "rest", "bit", "longer", "one", "other"]) (sc := fnScope s_Check_step) (by decide +kernel)) (fun _ _ _ _ _ => (pg_tup rfl (pgs_cons (pg_name (i := 4) sc_Check_step.nd rfl (.inl rfl)) (pgs_cons (pg_name (i := 5) sc_Check_step.nd rfl (.inl rfl)) pgs_nil)))) (fun _ _ _ _ _ => pts_nil) (fun _ _ _ _ _ => (pe_callTy call_str_int (by rfl) T.b_str (by decide +kernel) (pa_cons (pe_callTy call_int1 (by rfl) T.b_int (by decide +kernel) (pa_cons (pe_cmpR op_ne (pv 4) (pv 5) (nomark _)) pa_nil)) pa_nil))))))))), ?_⟩
    have l1 : (W r).length + (W [bb]).length ≤ sizeLine := by rw [W_len, W_len]; exact sl_len (by show r.length + 1 ≤ 100000; omega)
    refine ⟨_, rfl, _, rfl, _, _, rfl, rfl, l1, ?_⟩
    rw [W_cat]
    have lw : (W (r ++ [bb])).length ≤ sizeLine := by rw [W_len, List.length_append]; exact sl_len (by show r.length + 1 ≤ 100000; omega)
    cases e : r ++ [bb] with
    | nil => exact absurd e (by simp)
    | cons x l =>
      rw [e] at lw
      have em : stepM p r bb = if x then List.zipWith xor l p.tail else l := by unfold stepM; rw [e]
      have at0 : atI (W (x :: l)).cps.toList 0 = some (bt x) := atI_nat (j := 0) (by rw [W_tl]; rfl)
      have ed : Txt.slice (W (x :: l)) (some 1) none = W l := by rw [W_drop (by decide)]; rfl
      refine ⟨_, rfl, _, _, _, rfl, rfl, lw, at0, rfl, _, rfl, ?_⟩
      cases x with
      | false =>
        refine iteDT (show V.str ⟨#[bt false]⟩ = V.str "0" by decide +kernel) ⟨_, rfl, _, rfl, _, rfl, lw, ?_⟩
        rw [ed]
        have := k H (Same.refl H)
        rw [em] at this
        exact this
      | true =>
        refine iteDF (show ¬ V.str ⟨#[bt true]⟩ = V.str "0" by decide +kernel) ⟨⟨_, rfl⟩, ?_⟩
        have lp : (W p).length ≤ sizeLine := by rw [W_len]; exact sl_len (by omega)
        have ep : Txt.slice (W p) (some 1) none = W p.tail := by rw [W_drop (by decide)]; congr 1; cases p <;> rfl
        refine ⟨_, rfl, _, rfl, _, rfl, lw, _, rfl, a, C, dx, _, _, rfl, ha, CT.cl, CT.nP, ckF_poly _ _, _, rfl, _, rfl, lp, ?_⟩
        rw [ed, ep]
        have ll : l.length = p.tail.length := by
          have := congrArg List.length e
          rw [List.length_append, List.length_cons] at this
          rw [List.length_tail]
          simp only [List.length_cons, List.length_nil] at this
          omega
        have lb : l.length ≤ 1000 := by rw [ll, List.length_tail]; omega
        refine ⟨_, _, rfl, fun D nD => ?_⟩
        have hn : min (W l).cps.size (W p.tail).cps.size = l.length := by rw [W_size, W_size, ll, Nat.min_self]
        rw [hn]
        have lz : (List.zipWith xor l p.tail).length = l.length := by rw [List.length_zipWith, ll, Nat.min_self]
        refine lc_it walk_tuples (fun i H2 => Same H H2 ∧ H2 D = some (.lst (bitsV ((List.zipWith xor l p.tail).take i)))) ⟨same_upd nD, upd_same⟩ (fun _ _ _ _ => trivial) ?_ ?_
        · rintro i x H2 H3 hi ⟨s2, hD⟩ ⟨T, xs, rfl, nT, rfl, c, d, hc, hd, rfl⟩
          obtain ⟨b1, hb1, rfl⟩ := W_get hc
          obtain ⟨b2, hb2, rfl⟩ := W_get hd
          refine ⟨T, _, rfl, SqT.of upd_same, rfl, _, _, rfl, _, _, rfl, rfl, rfl, ?_⟩
          have hz : (List.zipWith xor l p.tail)[i]? = some (xor b1 b2) := by rw [List.getElem?_zipWith, hb1, hb2]
          have ex : (!decide (V.str ⟨#[bt b1]⟩ = V.str ⟨#[bt b2]⟩)) = xor b1 b2 := by cases b1 <;> cases b2 <;> decide +kernel
          have hD3 : upd H2 T (.tup [.str ⟨#[bt b1]⟩, .str ⟨#[bt b2]⟩]) D = some (.lst (bitsV ((List.zipWith xor l p.tail).take i))) := by rw [upd_ne (ne_of_none hD nT)]; exact hD
          refine ⟨_, rfl, _, rfl, rfl, .inr ⟨_, rfl, _, rfl, ?_, _, hD3, ?_, ?_, ?_⟩⟩
          · split <;> decide
          · rw [bitsV_len, List.length_take]; exact sl_lt (by omega)
          · intro c' o e'
            rw [upd_ne (ne_of_none e' nD)]
            exact (s2.trans (same_upd nT)) _ _ e'
          · rw [upd_same, ex, List.take_add_one, hz]
            show some (HO.lst (bitsV _ ++ [V.str (Str.ofString (toString (if xor b1 b2 = true then (1 : Int) else 0)))])) = _
            rw [int_bit, bitsV_snoc]
            rfl
        · rintro H2 ⟨s2, hD⟩
          rw [List.take_of_length_le (by omega)] at hD
          refine ⟨_, D, _, rfl, rfl, .inl (SqL.of hD), ?_, ?_⟩
          · rw [lens_bits, empty_len]; omega
          · show Q (.str (Txt.join "" ((List.zipWith xor l p.tail).map fun b => W [b]))) H2
            rw [join_bits]
            have := k H2 s2
            rw [em] at this
            exact this
theorem sc_Check_rest : FnScope ["self", "bits", "found", "bit"] ["self", "bits"] (fnScope s_Check_rest) := fnScope_by (by decide +kernel)
theorem met_rest {f C : Addr} {fd : FuncData} (F : C8.Fun K "rest" "Check.rest" s_Check_rest f fd) (me : Meth K C "rest" f) (b : Binds K fd ["self", "bits"] []) (T : Tx mg) (CT : CkT K C) (c_step : Met P w K mg base 1 C "step" (spStep C) []) : Met P w K mg base 2 C "rest" (spRest C) [] := by
  refine met0 CT.cl me F b sc_Check_rest (fun vs H Q E h => ?_) (fun cdv A outer s H vs Q E hr h => ?_)
  · obtain ⟨_, _, _, _, rfl, _⟩ := h; rfl
  · obtain ⟨a, p, st, l, rfl, hc, hl, hs, k⟩ := h
    refine ⟨_, (pss_cons (ps_set (i := 2) sc_Check_rest.nd rfl (.inl rfl) (pe_fld (pv 0) rfl))
    (pss_cons (ps_for PassesOwn.never rfl (pi_str (pv 1)) (pg_name (i := 3) sc_Check_rest.nd rfl (.inl rfl))
    (pss_one (ps_set (i := 2) sc_Check_rest.nd rfl (.inl rfl) (pe_mt (pl := _) c_step hr (by decide) (pv 0) (pa_cons (pv 2) (pa_cons (pv 3) pa_nil))))))
    (pss_one (ps_ret (pv 2))))), ?_⟩
    have hc0 := hc
    obtain ⟨dx, ha⟩ := hc
    refine ⟨_, rfl, a, C, dx, _, _, rfl, ha, CT.cl, CT.nS, ckF_start _ _, ?_⟩
    refine ⟨_, rfl, W l, rfl, for_it walk_str (fun i σ H2 => ∃ v3 : Option V, σ = [some (.ref a), some (.str (W l)), some (.str (W (restM p st (l.take i)))), v3] ∧ Same H H2) ⟨none, rfl, Same.refl _⟩ (fun _ _ _ _ _ => trivial) ?_ ?_⟩
    · rintro i x σ H2 H3 hi ⟨v3, rfl, s2⟩ ⟨rfl, c, hc, rfl⟩
      obtain ⟨b1, hb1, rfl⟩ := W_get hc
      refine ⟨_, rfl, a, dx, _, rfl, s2 _ _ ha, ckF_no _ _ (by decide +kernel) (by decide +kernel), _, rfl, _, rfl, a, p, st, _, b1, rfl, hc0.same s2, hl, ?_, fun H4 s4 => ?_⟩
      · rw [restM_len _ _ hs]; exact hs
      · have e : restM p st (l.take (i + 1)) = stepM p (restM p st (l.take i)) b1 := by
          unfold restM
          rw [List.take_add_one, hb1, List.foldl_append]
          rfl
        rw [e]
        exact ⟨_, rfl, s2.trans s4⟩
    · rintro σ H2 ⟨v3, rfl, s2⟩
      refine ⟨_, rfl, ?_⟩
      rw [W_size, List.take_length]
      exact k H2 s2
theorem sc_Check_degree : FnScope ["self"] ["self"] (fnScope s_Check_degree) := fnScope_by (by decide +kernel)
theorem ok_degree {f C : Addr} {fd : FuncData} (F : C8.Fun K "degree" "Check.degree" s_Check_degree f fd) (T : Tx mg) (CT : CkT K C) : FnOk P w K mg base CX0 1 f fd ["self"] (spDegree C) := by
  refine fn0 F sc_Check_degree (fun vs H Q E h => ?_) (fun cdv A outer s H vs Q E hr h => ?_)
  · obtain ⟨_, _, _, rfl, _⟩ := h; rfl
  · obtain ⟨a, p, st, rfl, ⟨dx, ha⟩, hl, hs, k⟩ := h
    refine ⟨_, (pss_one (ps_ret (pe_op op_sub (pe_callB call_len_str (by rfl) T.b_len (by decide +kernel) (pa_cons (pe_fld (pv 0) rfl) pa_nil)) pe_int))), ?_⟩
    refine ⟨_, rfl, a, C, dx, _, _, rfl, ha, CT.cl, CT.nP, ckF_poly _ _, _, rfl, (by rw [W_len]; exact sl_len (by omega)), _, _, rfl, rfl, ?_⟩
    have e : (((W p).length : Nat) : Int) - 1 = (st.length : Nat) := by rw [W_len]; omega
    show Q (.int (((W p).length : Nat) - 1)) H
    rw [e]
    exact k
end
end U

namespace U
/-! the algebra of the rests -/
def xr (a b : List Bool) : List Bool := List.zipWith xor a b
theorem xr_len {a b : List Bool} (h : a.length = b.length) : (xr a b).length = a.length := by unfold xr; rw [List.length_zipWith, h, Nat.min_self]
theorem xr_cons (x y : Bool) (a b : List Bool) : xr (x :: a) (y :: b) = xor x y :: xr a b := rfl
theorem xr_app {a b c d : List Bool} (h : a.length = b.length) : xr (a ++ c) (b ++ d) = xr a b ++ xr c d := by
  unfold xr
  exact List.zipWith_append h
theorem xr_comm : ∀ a b : List Bool, xr a b = xr b a
  | [], [] => rfl
  | [], _ :: _ => rfl
  | _ :: _, [] => rfl
  | x :: a, y :: b => by rw [xr_cons, xr_cons, xr_comm a b, Bool.xor_comm]
theorem xr_assoc : ∀ a b c : List Bool, xr (xr a b) c = xr a (xr b c)
  | [], _, _ => by simp [xr]
  | _ :: _, [], _ => by simp [xr]
  | _ :: _, _ :: _, [] => by simp [xr]
  | x :: a, y :: b, z :: c => by rw [xr_cons, xr_cons, xr_cons, xr_cons, xr_assoc a b c, Bool.xor_assoc]
theorem xr_self : ∀ a : List Bool, xr a a = zs a.length
  | [] => rfl
  | x :: a => by rw [xr_cons, xr_self a, Bool.xor_self]; rfl
theorem xr_zs : ∀ (a : List Bool), xr a (zs a.length) = a
  | [] => rfl
  | x :: a => by
    show xr (x :: a) (false :: zs a.length) = _
    rw [xr_cons, xr_zs a, Bool.xor_false]
theorem zs_xr (a : List Bool) : xr (zs a.length) a = a := by rw [xr_comm, xr_zs]
theorem zs_len (n : Nat) : (zs n).length = n := by unfold zs; simp
theorem xr_eq_zs : ∀ {a b : List Bool}, a.length = b.length → xr a b = zs a.length → a = b
  | [], [], _, _ => rfl
  | [], _ :: _, h, _ => by simp at h
  | _ :: _, [], h, _ => by simp at h
  | x :: a, y :: b, h, e => by
    rw [xr_cons] at e
    have e' : xor x y :: xr a b = false :: zs a.length := e
    injection e' with e1 e2
    have h' : a.length = b.length := by simpa using h
    rw [xr_eq_zs h' e2]
    congr 1
    cases x <;> cases y <;> first | rfl | cases e1
theorem stepM_cons (p : List Bool) (x : Bool) (l : List Bool) (b : Bool) : stepM p (x :: l) b = if x then xr (l ++ [b]) p.tail else l ++ [b] := rfl
theorem stepM_nil (p : List Bool) (b : Bool) : stepM p [] b = [] := by
  show (if b then List.zipWith xor [] p.tail else []) = []
  cases b <;> rfl
theorem stepM_xr {p r q : List Bool} (h : r.length + 1 = p.length) (hq : q.length = r.length) (b c : Bool) : stepM p (xr r q) (xor b c) = xr (stepM p r b) (stepM p q c) := by
  cases r with
  | nil =>
    cases q with
    | nil => rw [show xr [] [] = [] from rfl, stepM_nil, stepM_nil, stepM_nil]; rfl
    | cons _ _ => simp at hq
  | cons x l =>
    cases q with
    | nil => simp at hq
    | cons y m =>
      have hl : m.length = l.length := by simpa using hq
      have e : xr (l ++ [b]) (m ++ [c]) = xr l m ++ [xor b c] := by rw [xr_app hl.symm]; rfl
      have ht : p.tail.length = l.length + 1 := by rw [List.length_tail]; simp only [List.length_cons] at h; omega
      rw [xr_cons, stepM_cons, stepM_cons, stepM_cons, ← e]
      have z : xr p.tail p.tail = zs p.tail.length := xr_self _
      have lb : (l ++ [b]).length = p.tail.length := by rw [List.length_append, ht]; rfl
      have lc : (m ++ [c]).length = p.tail.length := by rw [List.length_append, ht, hl]; rfl
      cases x <;> cases y <;> simp only [Bool.xor_false, Bool.false_xor, Bool.xor_true, Bool.not_true, Bool.not_false, if_true, if_false, Bool.false_eq_true, Bool.xor_self]
      · rw [← xr_assoc]
      · rw [xr_assoc, xr_assoc, xr_comm (m ++ [c]) p.tail]
      · rw [xr_assoc, xr_comm p.tail (xr (m ++ [c]) p.tail), xr_assoc (m ++ [c]), z, ← lc, xr_zs]
theorem restM_app (p s a b : List Bool) : restM p s (a ++ b) = restM p (restM p s a) b := List.foldl_append
theorem restM_xr {p : List Bool} : ∀ (a b r q : List Bool), a.length = b.length → r.length + 1 = p.length → q.length = r.length → restM p (xr r q) (xr a b) = xr (restM p r a) (restM p q b)
  | [], [], _, _, _, _, _ => rfl
  | [], _ :: _, _, _, h, _, _ => by simp at h
  | _ :: _, [], _, _, h, _, _ => by simp at h
  | x :: a, y :: b, r, q, h, hr, hq => by
    have h' : a.length = b.length := by simpa using h
    have l1 := stepM_len hr x
    have l2 := stepM_len (p := p) (r := q) (by omega) y
    show restM p (stepM p (xr r q) (xor x y)) (xr a b) = xr (restM p (stepM p r x) a) (restM p (stepM p q y) b)
    rw [stepM_xr hr hq, restM_xr a b _ _ h' (by omega) (by omega)]
theorem zs_succ (n : Nat) : zs (n + 1) = false :: zs n := rfl
theorem zs_app (m n : Nat) : zs (m + n) = zs m ++ zs n := by unfold zs; rw [List.replicate_append_replicate]
/-- noughts leave noughts -/
theorem stepM_0 (p : List Bool) (d : Nat) : stepM p (zs d) false = zs d := by
  cases d with
  | zero => exact stepM_nil p false
  | succ n =>
    rw [zs_succ, stepM_cons]
    show zs n ++ [false] = _
    rw [show [false] = zs 1 from rfl, ← zs_app]
    rfl
theorem restM_0 (p : List Bool) (d : Nat) : ∀ n : Nat, restM p (zs d) (zs n) = zs d
  | 0 => rfl
  | n + 1 => by
    show restM p (stepM p (zs d) false) (zs n) = _
    rw [stepM_0, restM_0 p d n]
/-- bits that come in behind noughts stand there -/
theorem restM_in (p : List Bool) : ∀ (c : List Bool) (e : List Bool), restM p (zs c.length ++ e) c = e ++ c ∨ (zs c.length ++ e).length + 1 ≠ p.length := by
  intro c
  induction c with
  | nil => intro e; left; show [] ++ e = e ++ []; simp
  | cons x c ih =>
    intro e
    by_cases h : (zs (x :: c).length ++ e).length + 1 = p.length
    · left
      have e1 : zs (x :: c).length ++ e = false :: (zs c.length ++ e) := rfl
      have e2 : stepM p (zs (x :: c).length ++ e) x = zs c.length ++ (e ++ [x]) := by
        rw [e1, stepM_cons]
        show zs c.length ++ e ++ [x] = _
        rw [List.append_assoc]
      show restM p (stepM p (zs (x :: c).length ++ e) x) c = _
      rw [e2]
      rcases ih (e ++ [x]) with h1 | h1
      · rw [h1]; simp
      · exfalso
        apply h1
        rw [← h, e1]
        simp only [List.length_append, List.length_cons, List.length_nil]
        omega
    · right; exact h
theorem restM_self {p c : List Bool} (h : c.length + 1 = p.length) : restM p (zs c.length) c = c := by
  rcases restM_in p c [] with e | e
  · rw [List.append_nil, List.nil_append] at e; exact e
  · rw [List.append_nil, zs_len] at e; exact absurd h e
/-- the check bits -/
def bitsM (p s data : List Bool) : List Bool := restM p s (data ++ zs s.length)
def goodM (p s m : List Bool) : Bool := decide (s.length ≤ m.length) && !decide (true ∈ restM p s m)
theorem bitsM_len {p s : List Bool} (h : s.length + 1 = p.length) (data : List Bool) : (bitsM p s data).length = s.length := restM_len _ _ h
theorem rest_tail {p s data x : List Bool} (h : s.length + 1 = p.length) (hx : x.length = s.length) : restM p s (data ++ x) = xr (bitsM p s data) x := by
  have lr : (restM p s data).length = s.length := restM_len _ _ h
  have e1 : restM p (xr (restM p s data) (zs s.length)) (xr (zs s.length) x) = xr (restM p (restM p s data) (zs s.length)) (restM p (zs s.length) x) :=
    restM_xr _ _ _ _ (by rw [zs_len, hx]) (by omega) (by rw [zs_len, lr])
  rw [← lr, xr_zs, lr, show zs s.length = zs x.length by rw [hx], zs_xr, restM_self (by omega)] at e1
  unfold bitsM
  rw [restM_app, restM_app, e1, hx]
theorem rest_good {p s : List Bool} (h : s.length + 1 = p.length) (data : List Bool) : restM p s (data ++ bitsM p s data) = zs s.length := by
  rw [rest_tail h (bitsM_len h data), xr_self, bitsM_len h]
theorem no_true_zs (n : Nat) : ¬ true ∈ zs n := by
  intro h
  have := List.eq_of_mem_replicate h
  cases this
theorem zs_of_no : ∀ {l : List Bool}, ¬ true ∈ l → l = zs l.length
  | [], _ => rfl
  | true :: r, h => absurd List.mem_cons_self h
  | false :: r, h => by
    have : r = zs r.length := zs_of_no fun z => h (List.mem_cons_of_mem _ z)
    show false :: r = false :: zs r.length
    rw [← this]
theorem goodM_tail {p s data x : List Bool} (h : s.length + 1 = p.length) (hx : x.length = s.length) : goodM p s (data ++ x) = decide (x = bitsM p s data) := by
  unfold goodM
  rw [rest_tail h hx, decide_eq_true (by rw [List.length_append]; omega), Bool.true_and]
  by_cases e : x = bitsM p s data
  · subst e
    rw [xr_self, decide_eq_true rfl, decide_eq_false (no_true_zs _)]
    rfl
  · rw [decide_eq_false e]
    have : true ∈ xr (bitsM p s data) x := Classical.byContradiction fun c => by
      have z := zs_of_no c
      have lb := bitsM_len h data
      rw [xr_len (by omega)] at z
      exact e (xr_eq_zs (by omega) z).symm
    rw [decide_eq_true this]
    rfl
theorem goodM_bits {p s : List Bool} (h : s.length + 1 = p.length) (data : List Bool) : goodM p s (data ++ bitsM p s data) = true := by
  rw [goodM_tail h (bitsM_len h data), decide_eq_true rfl]
theorem goodM_zs {p s m : List Bool} (g : goodM p s m = true) (hl : s.length + 1 = p.length) : restM p s m = zs s.length := by
  unfold goodM at g
  rw [Bool.and_eq_true, decide_eq_true_eq, Bool.not_eq_true', decide_eq_false_iff_not] at g
  have := zs_of_no g.2
  rw [restM_len _ _ hl] at this
  exact this
theorem goodM_iff {p s m : List Bool} (hl : s.length + 1 = p.length) : goodM p s m = true ↔ s.length ≤ m.length ∧ restM p s m = zs s.length := by
  constructor
  · intro g
    refine ⟨?_, goodM_zs g hl⟩
    unfold goodM at g
    rw [Bool.and_eq_true, decide_eq_true_eq] at g
    exact g.1
  · rintro ⟨h1, h2⟩
    unfold goodM
    rw [h2, decide_eq_true h1, decide_eq_false (no_true_zs _)]
    rfl
/-! one wrong bit is seen -/
theorem stepM_inj {p r : List Bool} (h : r.length + 1 = p.length) (hl : p.getLast? = some true) (h0 : r ≠ []) (e : stepM p r false = zs r.length) : r = zs r.length := by
  cases r with
  | nil => exact absurd rfl h0
  | cons x l =>
    rw [stepM_cons] at e
    have ht : p.tail.length = l.length + 1 := by rw [List.length_tail]; simp only [List.length_cons] at h; omega
    cases x with
    | false =>
      have e' : l ++ [false] = zs (l.length + 1) := e
      rw [zs_app] at e'
      have := List.append_inj_left e' (by rw [zs_len])
      show false :: l = false :: zs l.length
      rw [← this]
    | true =>
      exfalso
      have e' : xr (l ++ [false]) p.tail = zs (l ++ [false]).length := by
        have : xr (l ++ [false]) p.tail = zs (true :: l).length := e
        rw [this, List.length_append]
        rfl
      have e2 := xr_eq_zs (by rw [List.length_append, ht]; rfl) e'
      have e3 : p.tail.getLast? = some false := by rw [← e2, List.getLast?_append]; rfl
      cases p with
      | nil => cases hl
      | cons y t =>
        have e4 : t.getLast? = some false := e3
        cases t with
        | nil => cases e4
        | cons z u =>
          rw [List.getLast?_cons_cons] at hl
          rw [hl] at e4
          cases e4
theorem restM_inj {p : List Bool} (hl : p.getLast? = some true) : ∀ (n : Nat) (r : List Bool), r.length + 1 = p.length → r ≠ [] → restM p r (zs n) = zs r.length → r = zs r.length
  | 0, r, _, _, e => e
  | n + 1, r, h, h0, e => by
    have ls := stepM_len h false
    have e' : restM p (stepM p r false) (zs n) = zs r.length := e
    have n0 : stepM p r false ≠ [] := by
      intro z
      rw [z] at ls
      exact h0 (List.length_eq_zero_iff.mp ls.symm)
    have := restM_inj hl n (stepM p r false) (by omega) n0 (by rw [e', ls])
    rw [ls] at this
    exact stepM_inj h hl h0 this
/-- a unit -/
def unit (n i : Nat) : List Bool := zs i ++ true :: zs (n - i - 1)
theorem unit_len {n i : Nat} (h : i < n) : (unit n i).length = n := by
  unfold unit
  rw [List.length_append, List.length_cons, zs_len, zs_len]
  omega
theorem step_one {p : List Bool} {d : Nat} (h : d + 1 = p.length) (h0 : 0 < d) : stepM p (zs d) true ≠ zs d := by
  cases d with
  | zero => omega
  | succ n =>
    rw [zs_succ, stepM_cons]
    show ¬ (zs n ++ [true] = false :: zs n)
    intro e
    have m : true ∈ zs n ++ [true] := by simp
    rw [e] at m
    rcases List.mem_cons.mp m with z | z
    · cases z
    · exact no_true_zs _ z
theorem rest_unit {p : List Bool} {d n i : Nat} (h : d + 1 = p.length) (hl : p.getLast? = some true) (h0 : 0 < d) (hi : i < n) : restM p (zs d) (unit n i) ≠ zs d := by
  intro e
  unfold unit at e
  rw [restM_app, restM_0] at e
  have e' : restM p (stepM p (zs d) true) (zs (n - i - 1)) = zs d := e
  have ls : (stepM p (zs d) true).length = d := by rw [stepM_len (by rw [zs_len]; exact h), zs_len]
  have n0 : stepM p (zs d) true ≠ [] := by
    intro z
    rw [z] at ls
    exact absurd ls (by simp; omega)
  have := restM_inj hl _ _ (by omega) n0 (by rw [e', ls])
  rw [ls] at this
  exact step_one h h0 this
/-- the message with bit i turned -/
def bent (m : List Bool) (i : Nat) : List Bool := m.take i ++ [!(m.getD i false)] ++ m.drop (i + 1)
theorem bent_len {m : List Bool} {i : Nat} (h : i < m.length) : (bent m i).length = m.length := by
  unfold bent
  rw [List.length_append, List.length_append, List.length_take, List.length_drop]
  simp only [List.length_cons, List.length_nil]
  omega
theorem bent_xr {m : List Bool} {i : Nat} (h : i < m.length) : bent m i = xr m (unit m.length i) := by
  have e : m = m.take i ++ (m.getD i false :: m.drop (i + 1)) := by
    have e1 : m.drop i = m.getD i false :: m.drop (i + 1) := by
      rw [List.drop_eq_getElem_cons h]
      simp [h]
    rw [← e1, List.take_append_drop]
  have lt : (m.take i).length = i := by rw [List.length_take]; omega
  unfold bent unit
  generalize hA : m.take i = A at e lt ⊢
  generalize hB : m.drop (i + 1) = B at e ⊢
  generalize m.getD i false = c at e ⊢
  have lB : B.length = m.length - i - 1 := by rw [← hB, List.length_drop]; omega
  rw [← lB]
  conv => rhs; rw [e]
  rw [xr_app (by rw [lt, zs_len]), xr_cons, Bool.xor_true, xr_zs, ← lt, xr_zs]
  simp
theorem bent_bad {p s m : List Bool} {i : Nat} (h : s.length + 1 = p.length) (hl : p.getLast? = some true) (h0 : 0 < s.length) (g : goodM p s m = true) (hi : i < m.length) : goodM p s (bent m i) = false := by
  cases c : goodM p s (bent m i) with
  | false => rfl
  | true =>
    exfalso
    have e1 := goodM_zs c h
    have e2 := goodM_zs g h
    rw [bent_xr hi] at e1
    have e3 : restM p (xr s (zs s.length)) (xr m (unit m.length i)) = xr (restM p s m) (restM p (zs s.length) (unit m.length i)) :=
      restM_xr _ _ _ _ (by rw [unit_len hi]) h (by rw [zs_len])
    rw [xr_zs, e1, e2] at e3
    have lu : (restM p (zs s.length) (unit m.length i)).length = s.length := by rw [restM_len _ _ (by rw [zs_len]; exact h), zs_len]
    have nu := rest_unit h hl h0 hi
    generalize restM p (zs s.length) (unit m.length i) = R at e3 lu nu
    rw [← lu, zs_xr, lu] at e3
    exact nu e3.symm
end U

set_option maxRecDepth 100000
set_option maxHeartbeats 4000000
namespace U
open PySem PySem.Spec PyProof.Rows
open L2 hiding Fun CX0 E0 pass0 Fun.binds
open C8 Lx SX
theorem call_repr_bool {X : Cx} : CallR X (.builtin "repr") (fun xs H Q => ∃ k, xs = [.bl k] ∧ Q (.str (if k then "True" else "False")) H) := by
  intro pins s σ H xs us Q I r h
  obtain ⟨k, rfl, q⟩ := h
  obtain ⟨u, rfl, rfl⟩ := vals1 r
  exact PySem.P.repr_of_bool ⟨.str _, H, I.tok _, ⟨_, rfl⟩, q⟩
theorem one_in (l : List Bool) : decide ((49 : Nat) ∈ (W l).cps.toList) = decide (true ∈ l) := by
  rw [W_tl]
  congr 1
  refine propext ⟨fun h => ?_, fun h => ?_⟩
  · obtain ⟨b, hb, e⟩ := List.mem_map.mp h
    cases b with
    | true => exact hb
    | false => exact absurd e (by decide)
  · exact List.mem_map.mpr ⟨true, h, rfl⟩
theorem V_1 : V.str "1" = V.str ⟨#[49]⟩ := by decide +kernel
def spBitsFor (C : Addr) : Sp := fun vs H Q _ => ∃ (a : Addr) (p s l : List Bool), vs = [.ref a, .str (W l)] ∧ CkAt C H a p s ∧ p.length ≤ 1000 ∧ l.length ≤ 10000 ∧ s.length + 1 = p.length ∧
  ∀ H', Same H H' → Q (.str (W (bitsM p s l))) H'
def spIsGood (C : Addr) : Sp := fun vs H Q _ => ∃ (a : Addr) (p s l : List Bool), vs = [.ref a, .str (W l)] ∧ CkAt C H a p s ∧ p.length ≤ 1000 ∧ l.length ≤ 10000 ∧ s.length + 1 = p.length ∧
  ∀ H', Same H H' → Q (.bl (goodM p s l)) H'
section
variable {P : Program} {w : World} {K : PySem.W.Frag} {mg : Str → Option Value} {base : Heap}
theorem sc_Check_bits_for : FnScope ["self", "data"] ["self", "data"] (fnScope s_Check_bits_for) := fnScope_by (by decide +kernel)
theorem met_bits_for {f C : Addr} {fd : FuncData} (F : C8.Fun K "bits_for" "Check.bits_for" s_Check_bits_for f fd) (me : Meth K C "bits_for" f) (b : Binds K fd ["self", "data"] []) (T : Tx mg) (CT : CkT K C) (c_rest : Met P w K mg base 2 C "rest" (spRest C) [])
    (p_degree : Prp P w K mg base 1 C "degree" (spDegree C)) : Met P w K mg base 3 C "bits_for" (spBitsFor C) [] := by
  refine met0 CT.cl me F b sc_Check_bits_for (fun vs H Q E h => ?_) (fun cdv A outer s H vs Q E hr h => ?_)
  · obtain ⟨_, _, _, _, rfl, _⟩ := h; rfl
  · obtain ⟨a, p, st, l, rfl, hc, hl, hd, hs, k⟩ := h
    refine ⟨_, (pss_one (ps_ret (pe_mt (pl := _) c_rest hr (by decide) (pv 0) (pa_cons (pe_op op_add_str (pv 1) (pe_op op_rep_str pe_str (pe_pr p_degree hr (by decide) (pv 0)))) pa_nil)))), ?_⟩
    obtain ⟨dx, ha⟩ := id hc
    have l0 : ("0" : Str).length = 1 := by decide +kernel
    have ez : Txt.mul "0" ((st.length : Nat) : Int) = W (zs st.length) := by rw [mul_0]; rfl
    refine ⟨_, rfl, a, dx, _, rfl, ha, ckF_no _ _ (by decide +kernel) (by decide +kernel), _, rfl, _, rfl, a, dx, _, rfl, ha, a, p, st, rfl, hc, hl, hs, _, _, rfl, rfl, by omega, by omega, by rw [l0]; omega, ?_⟩
    rw [ez]
    refine ⟨_, _, rfl, rfl, by rw [W_len, W_len, zs_len]; exact sl_len (by omega), ?_⟩
    rw [W_cat]
    exact ⟨a, p, st, _, rfl, hc, hl, hs, k⟩
theorem sc_Check_is_good : FnScope ["self", "message"] ["self", "message"] (fnScope s_Check_is_good) := fnScope_by (by decide +kernel)
theorem met_is_good {f C : Addr} {fd : FuncData} (F : C8.Fun K "is_good" "Check.is_good" s_Check_is_good f fd) (me : Meth K C "is_good" f) (b : Binds K fd ["self", "message"] []) (T : Tx mg) (CT : CkT K C) (c_rest : Met P w K mg base 2 C "rest" (spRest C) [])
    (p_degree : Prp P w K mg base 1 C "degree" (spDegree C)) : Met P w K mg base 3 C "is_good" (spIsGood C) [] := by
  refine met0 CT.cl me F b sc_Check_is_good (fun vs H Q E h => ?_) (fun cdv A outer s H vs Q E hr h => ?_)
  · obtain ⟨_, _, _, _, rfl, _⟩ := h; rfl
  · obtain ⟨a, p, st, l, rfl, hc, hl, hd, hs, k⟩ := h
    refine ⟨_, (pss_one (ps_ret (pe_and (pe_cmpR op_ge (pe_callB call_len_str (by rfl) T.b_len (by decide +kernel) (pa_cons (pv 1) pa_nil)) (pe_pr p_degree hr (by decide) (pv 0)) (nomark _)) (pe_one (pe_cmpR op_notIn_sign pe_str (pe_mt (pl := _) c_rest hr (by decide) (pv 0) (pa_cons (pv 1) pa_nil)) (by with_unfolding_all rfl)))))), ?_⟩
    obtain ⟨dx, ha⟩ := id hc
    refine ⟨_, rfl, _, rfl, by rw [W_len]; exact sl_len (by omega), _, rfl, a, dx, _, rfl, ha, a, p, st, rfl, hc, hl, hs, _, _, rfl, rfl, _, rfl, ?_⟩
    rw [W_len]
    refine ite2 (fun h1 => ?_) (fun h1 => ?_)
    · have h2 : ((st.length : Nat) : Int) ≤ ((l.length : Nat) : Int) := of_decide_eq_true h1
      refine ⟨_, rfl, a, dx, _, rfl, ha, ckF_no _ _ (by decide +kernel) (by decide +kernel), _, rfl, a, p, st, l, rfl, hc, hl, hs, fun H1 s1 => ⟨49, _, V_1, rfl, ?_⟩⟩
      rw [one_in]
      have := k H1 s1
      unfold goodM at this
      rw [decide_eq_true (by omega : st.length ≤ l.length), Bool.true_and] at this
      exact this
    · have h2 : ¬ ((st.length : Nat) : Int) ≤ ((l.length : Nat) : Int) := of_decide_eq_false (by simpa using h1)
      have := k H (Same.refl H)
      unfold goodM at this
      rw [decide_eq_false (by omega : ¬ st.length ≤ l.length), Bool.false_and] at this
      exact this
end
end U

set_option maxRecDepth 100000
set_option maxHeartbeats 4000000
namespace U
open PySem PySem.Spec PyProof.Rows
open L2 hiding Fun CX0 E0 pass0 Fun.binds
open C8 Lx SX
/-! texts of checks -/
def ckT (p s : List Bool) : Str := if p = [true] then W p else W p ++ " start " ++ W s
def spCkStr (C : Addr) : Sp := fun vs H Q _ => ∃ (a : Addr) (p s : List Bool), vs = [.ref a] ∧ CkAt C H a p s ∧ p.length ≤ 1000 ∧ s.length ≤ 1000 ∧ Q (.str (ckT p s)) H
def spCkEq (C : Addr) : Sp := fun vs H Q _ => ∃ (a b : Addr) (p s p' s' : List Bool), vs = [.ref a, .ref b] ∧ CkAt C H a p s ∧ p.length ≤ 1000 ∧ s.length ≤ 1000 ∧ CkAt C H b p' s' ∧ p'.length ≤ 1000 ∧ s'.length ≤ 1000 ∧ Q (.bl (decide (ckT p s = ckT p' s'))) H
def spCkRead (C : Addr) : Sp := fun vs H Q _ => ∃ (p s : List Bool), vs = [.ref C, .str (ckT p s)] ∧ CkOk p s ∧ p.length ≤ 1000 ∧ ∀ x H', Same H H' → CkAt C H' x p s → Q (.ref x) H'
theorem e_cat (l : List Bool) : Str.empty ++ W l = W l := by
  have e : Str.empty = W [] := by decide +kernel
  rw [e, W_cat]; rfl
theorem mid_len : (" start " : Str).length = 7 := by decide +kernel
theorem len_cat (a b : Str) : (a ++ b).length = a.length + b.length := by
  rw [TL.len_tl, TL.len_tl a, TL.len_tl b]
  have := TL.tl_append a b
  show (TL.tl (a ++ b)).length = _
  rw [this, List.length_append]
theorem mid_tl : TL.tl (" start " : Str) = 32 :: [115, 116, 97, 114, 116, 32] := by decide +kernel
theorem no_sp (l : List Bool) : (32 : Nat) ∉ TL.tl (W l) := by
  show 32 ∉ l.map bt
  intro h
  obtain ⟨b, _, e⟩ := List.mem_map.mp h
  cases b <;> exact absurd e (by decide)
theorem W_ne_1 {p : List Bool} (h : ¬ p = [true]) : ¬ V.str (W p) = V.str "1" := fun z => h (by rw [W_1] at z; exact W_inj (V.str.inj z))
theorem ckT_ne_1 {p s : List Bool} (h : ¬ p = [true]) : ¬ ckT p s = "1" := fun z => by
  unfold ckT at z
  rw [if_neg h] at z
  have := congrArg Str.length z
  rw [len_cat, len_cat, mid_len, show ("1" : Str).length = 1 by decide +kernel] at this
  omega
theorem ckT_len {p s : List Bool} : (ckT p s).length ≤ p.length + 7 + s.length := by
  unfold ckT
  split
  · rw [W_len]; omega
  · rw [len_cat, len_cat, mid_len, W_len, W_len]; omega
theorem mk_ck2 {C : Addr} {H : Hp} {p s : List Bool} {R : Addr → Hp → Prop} {E : XK} (ok : CkOk p s) (hl : p.length ≤ 1000) (k : ∀ x H', Same H H' → CkAt C H' x p s → R x H') :
    ∀ x dx, H x = none → H dx = none → dx ≠ x → spCkInit C [.ref x, .str (W p), .str (W s)] (upd (upd H dx (.own x)) x (.ins C dx [])) (fun v H2 => v = .non ∧ R x H2) E := by
  intro x dx nx ndx nex
  exact ⟨x, dx, p, s, .str (W s), rfl, upd_same, ok, hl, .inl rfl, fun H5 keep hx => ⟨rfl, k x H5 (Same.made nx ndx keep) ⟨dx, hx⟩⟩⟩
theorem mk_ck1 {C : Addr} {H : Hp} {p s : List Bool} {R : Addr → Hp → Prop} {E : XK} (ok : CkOk p s) (hl : p.length ≤ 1000) (k : ∀ x H', Same H H' → CkAt C H' x p (zs s.length) → R x H') :
    ∀ x dx, H x = none → H dx = none → dx ≠ x → spCkInit C [.ref x, .str (W p), .non] (upd (upd H dx (.own x)) x (.ins C dx [])) (fun v H2 => v = .non ∧ R x H2) E := by
  intro x dx nx ndx nex
  have e : s.length = p.length - 1 := by have := ok.len; omega
  exact ⟨x, dx, p, zs s.length, .non, rfl, upd_same, ⟨ok.hd, ok.last, by rw [zs_len]; exact ok.len⟩, hl, .inr ⟨rfl, by rw [e]⟩, fun H5 keep hx => ⟨rfl, k x H5 (Same.made nx ndx keep) ⟨dx, hx⟩⟩⟩
theorem mk_ck0 {C : Addr} {H : Hp} {R : Addr → Hp → Prop} {E : XK} (k : ∀ x H', Same H H' → CkAt C H' x [true] [] → R x H') :
    ∀ x dx, H x = none → H dx = none → dx ≠ x → spCkInit C [.ref x, .str "1", .non] (upd (upd H dx (.own x)) x (.ins C dx [])) (fun v H2 => v = .non ∧ R x H2) E := by
  rw [W_1]
  exact mk_ck1 (s := []) ⟨rfl, rfl, rfl⟩ (by decide) k
section
variable {P : Program} {w : World} {K : PySem.W.Frag} {mg : Str → Option Value} {base : Heap}
theorem sc_Check_str : FnScope ["self"] ["self"] (fnScope s_Check_str) := fnScope_by (by decide +kernel)
theorem met_Check_str {f C : Addr} {fd : FuncData} {tM : Tok} (F : C8.Fun K "__str__" "Check.__str__" s_Check_str f fd) (me : Meth K C "__str__" f) (b : Binds K fd ["self"] []) (T : Tx mg) (CT : CkT K C) (g_MIDDLE : mg "MIDDLE" = some (.str " start " tM)) : Met P w K mg base 1 C "__str__" (spCkStr C) [] := by
  refine met0 CT.cl me F b sc_Check_str (fun vs H Q E h => ?_) (fun cdv A outer s H vs Q E hr h => ?_)
  · obtain ⟨_, _, _, rfl, _⟩ := h; rfl
  · obtain ⟨a, p, st, rfl, ⟨dx, ha⟩, h1, h2, k⟩ := h
    refine ⟨_, (pss_cons (ps_if (pt_cmpR op_eq (pe_fld (pv 0) rfl) pe_str (nomark _)) (pss_one (ps_ret (pe_joined1 (pe_fmt (pe_fld (pv 0) rfl))))) pss_nil)
    (pss_one (ps_ret (pe_joined (.cons (pe_fmt (pe_fld (pv 0) rfl)) (.cons (pe_fmt (pe_glob (v := .str " start ") (by rfl) g_MIDDLE ⟨_, rfl⟩)) (.cons (pe_fmt (pe_fld (pv 0) rfl)) .nil))))))), ?_⟩
    have lp : (W p).length ≤ sizeLine := by rw [W_len]; exact sl_len (by omega)
    have ls : (W st).length ≤ sizeLine := by rw [W_len]; exact sl_len (by omega)
    refine ⟨_, rfl, a, C, dx, _, _, rfl, ha, CT.cl, CT.nP, ckF_poly _ _, rfl, _, rfl, ?_⟩
    by_cases c : p = [true]
    · refine iteDT (by rw [c, W_1]) ⟨_, rfl, a, C, dx, _, _, rfl, ha, CT.cl, CT.nP, ckF_poly _ _, .inl ⟨_, rfl, lp, ?_⟩⟩
      unfold ckT at k
      rw [if_pos c] at k
      exact k
    · refine iteDF (W_ne_1 c) ?_
      refine ⟨_, rfl, a, C, dx, _, _, rfl, ha, CT.cl, CT.nP, ckF_poly _ _, .inl ⟨_, rfl, lp, _, rfl, by rw [e_cat]; exact lp, ?_⟩⟩
      refine .inl ⟨_, rfl, by rw [mid_len]; decide, _, rfl, by rw [e_cat, len_cat, mid_len, W_len]; exact sl_len (by omega), ?_⟩
      refine ⟨_, rfl, a, C, dx, _, _, rfl, ha, CT.cl, CT.nS, ckF_start _ _, .inl ⟨_, rfl, ls, _, rfl, by rw [e_cat, len_cat, len_cat, mid_len, W_len, W_len]; exact sl_len (by omega), ?_⟩⟩
      unfold ckT at k
      rw [if_neg c] at k
      rw [e_cat]
      exact k
theorem sc_Check_eq : FnScope ["self", "other"] ["self", "other"] (fnScope s_Check_eq) := fnScope_by (by decide +kernel)
theorem met_Check_eq {f C : Addr} {fd : FuncData} (F : C8.Fun K "__eq__" "Check.__eq__" s_Check_eq f fd) (me : Meth K C "__eq__" f) (b : Binds K fd ["self", "other"] []) (T : Tx mg) (CT : CkT K C) (g_Check : mg "Check" = some (.ref C)) (IS_Check : IsT K C)
    (c_Check_str : Met P w K mg base 1 C "__str__" (spCkStr C) []) : Met P w K mg base 4 C "__eq__" (spCkEq C) [] := by
  refine met0 CT.cl me F b sc_Check_eq (fun vs H Q E h => ?_) (fun cdv A outer s H vs Q E hr h => ?_)
  · obtain ⟨_, _, _, _, _, _, rfl, _⟩ := h; rfl
  · obtain ⟨a, b, p, st, p', st', rfl, ca, h1, h2, cb, h3, h4, k⟩ := h
    refine ⟨_, (pss_one (ps_ret (pe_and (pe_callB call_isi (by rfl) T.b_isinstance (by decide +kernel) (pa_cons (pv 1) (pa_cons (pe_glob (v := .ref C) (by rfl) g_Check rfl) pa_nil))) (pe_one (pe_cmpR op_eq (pe_callTy (call_str_own c_Check_str hr (by decide)) (by rfl) T.b_str (by decide +kernel) (pa_cons (pv 0) pa_nil)) (pe_callTy (call_str_own c_Check_str hr (by decide)) (by rfl) T.b_str (by decide +kernel) (pa_cons (pv 1) pa_nil)) (nomark _)))))), ?_⟩
    obtain ⟨dx, ha⟩ := id ca
    obtain ⟨dy, hb⟩ := id cb
    refine ⟨_, rfl, _, _, _, _, true, rfl, .own C, IS_Check.ty hb, IS_Check.one, _, rfl, ?_⟩
    refine ⟨_, rfl, a, dx, _, rfl, ha, a, p, st, rfl, ca, h1, h2, _, rfl, ?_⟩
    refine ⟨_, rfl, b, dy, _, rfl, hb, b, p', st', rfl, cb, h3, h4, _, rfl, rfl, ?_⟩
    have e : decide (V.str (ckT p st) = V.str (ckT p' st')) = decide (ckT p st = ckT p' st') := by
      rw [decide_eq_decide]
      exact ⟨V.str.inj, fun z => by rw [z]⟩
    rw [e]
    exact k
theorem sc_Check_read : FnScope ["cls", "text", "poly", "middle", "start"] ["cls", "text"] (fnScope s_Check_read) := fnScope_by (by decide +kernel)
theorem ok_Check_read {f C : Addr} {fd : FuncData} {tM : Tok} (F : C8.Fun K "read" "Check.read" s_Check_read f fd) (T : Tx mg) (CT : CkT K C) (g_MIDDLE : mg "MIDDLE" = some (.str " start " tM)) (c_is_word : Cal P w K mg base 1 "is_word" (spIsWord K) [])
    (m_Check0 : Mak P w K mg base 2 "Check" C (spCkInit C) [.str "1", .non]) (m_Check2 : Mak P w K mg base 2 "Check" C (spCkInit C) []) : FnOk P w K mg base CX0 4 f fd ["cls", "text"] (spCkRead C) := by
  refine fn0 F sc_Check_read (fun vs H Q E h => ?_) (fun cdv A outer s H vs Q E hr h => ?_)
  · obtain ⟨_, _, rfl, _⟩ := h; rfl
  · obtain ⟨p, st, rfl, ok, h1, k⟩ := h
    refine ⟨_, (pss_cons (ps_if (pt_not (pt_val (pe_callB call_isi (by rfl) T.b_isinstance (by decide +kernel) (pa_cons (pv 1) (pa_cons (pe_bltn (v := .ty "str") (u := .type "str") (by rfl) T.b_str (by decide +kernel) rfl) pa_nil))))) (pss_one ps_never) pss_nil)
    (pss_cons (ps_asg (pe_partition (pv 1) (pe_glob (v := .str " start ") (by rfl) g_MIDDLE ⟨_, rfl⟩)) (pg_tup rfl (pgs_cons (pg_name (i := 2) sc_Check_read.nd rfl (.inl rfl)) (pgs_cons (pg_name (i := 3) sc_Check_read.nd rfl (.inl rfl)) (pgs_cons (pg_name (i := 4) sc_Check_read.nd rfl (.inl rfl)) pgs_nil)))))
    (pss_cons (ps_if (pt_cmpR op_eq (pv 1) pe_str (nomark _)) (pss_one (ps_ret (pe_mkL0 0 m_Check0 hr (by decide)))) pss_nil)
    (pss_cons (ps_if (PW.pt (pw_or (pt_cmpR op_eq (pv 3) pe_str (nomark _)) (pw_or (pt_not (pt_val (pe_c c_is_word hr (by decide) rfl (pa_cons (pv 2) pa_nil)))) (pw_or (pt_not (pt_val (pe_c c_is_word hr (by decide) rfl (pa_cons (pv 4) pa_nil)))) (pw_or (pt_cmpR op_eq (pv 2) pe_str (nomark _)) (pw_or1 (pt_cmpR op_eq (pv 4) pe_str (nomark _)))))))) (pss_one ps_never) pss_nil)
    (pss_one (ps_ret (pe_mkL 0 m_Check2 hr (by decide) (pa_cons (pv 2) (pa_cons (pv 4) pa_nil))))))))), ?_⟩
    have hs : st.length ≤ 1000 := by have := ok.len; omega
    have lt : (ckT p st).length ≤ sizeLine := Nat.le_trans ckT_len (sl_len (by omega))
    refine ⟨_, rfl, _, _, _, _, true, rfl, .ty _, .base (.str _), kit_ty (by decide +kernel), _, rfl, ?_⟩
    refine ⟨_, rfl, ⟨_, rfl⟩, _, _, rfl, rfl, by rw [mid_len]; rfl, lt, fun t nt => ?_⟩
    have s1 : Same H _ := same_upd (o := .tup [.str (Txt.partition (ckT p st) " start ").1, .str (Txt.partition (ckT p st) " start ").2.1, .str (Txt.partition (ckT p st) " start ").2.2]) nt
    refine ⟨t, _, rfl, SqT.of upd_same, rfl, _, _, rfl, _, _, rfl, _, _, rfl, rfl, ?_⟩
    refine ⟨_, rfl, rfl, _, rfl, ?_⟩
    by_cases c : p = [true]
    · have est : st = [] := List.length_eq_zero_iff.mp (by have := ok.len; rw [c] at this; simpa using this)
      subst c est
      refine iteDT (by decide +kernel) ⟨rfl, mk_ck0 fun x H' s2 hx => k x H' (s1.trans s2) hx⟩
    · have e : Txt.partition (ckT p st) " start " = (W p, (" start " : Str), W st) := by
        unfold ckT
        rw [if_neg c]
        exact TL.partition_app mid_tl (no_sp p)
      refine iteDF (fun z => ckT_ne_1 c (V.str.inj z)) ?_
      generalize upd H t _ = H1 at s1
      rw [e]
      have np : p ≠ [] := fun z => by have := ok.hd; rw [z] at this; cases this
      have ns : st ≠ [] := fun z => by
        have h1 := ok.len
        have h2 := ok.hd
        rw [z] at h1
        cases p with
        | nil => cases h2
        | cons x r =>
          cases (Option.some.inj h2)
          have : r = [] := List.length_eq_zero_iff.mp (by simpa using h1.symm)
          exact c (by rw [this])
      have en : ∀ {l : List Bool}, l ≠ [] → ¬ V.str (W l) = V.str "" := fun h z => h (by rw [W_nil] at z; exact W_inj (V.str.inj z))
      refine ⟨_, rfl, rfl, _, rfl, iteDF (show ¬ V.str " start " = V.str "" by decide +kernel) ?_⟩
      refine ⟨_, rfl, _, rfl, .inl ⟨_, rfl, by show (W p).length ≤ _; rw [W_len]; omega, fun H2 s2 => ⟨_, rfl, iteBF (by show (!isW (W p)) = false; rw [isW_W]; rfl) ?_⟩⟩⟩
      refine ⟨_, rfl, _, rfl, .inl ⟨_, rfl, by show (W st).length ≤ _; rw [W_len]; omega, fun H3 s3 => ⟨_, rfl, iteBF (by show (!isW (W st)) = false; rw [isW_W]; rfl) ?_⟩⟩⟩
      refine ⟨_, rfl, rfl, _, rfl, iteDF (en np) ?_⟩
      refine ⟨_, rfl, rfl, _, rfl, iteDF (en ns) ?_⟩
      refine ⟨rfl, _, rfl, _, rfl, mk_ck2 ok h1 fun x H' s4 hx => k x H' (((s1.trans s2).trans s3).trans s4) hx⟩
end
end U

set_option maxRecDepth 100000
set_option maxHeartbeats 4000000
namespace U
open PySem PySem.Spec PyProof.Rows
open L2 hiding Fun CX0 E0 pass0 Fun.binds
open C8 Lx SX
/-- where f begins in l first -/
def posM (l f : List Bool) : Option Nat := (List.range (l.length + 1)).find? fun i => f.isPrefixOf (l.drop i)
theorem posM_some {l f : List Bool} {i : Nat} : posM l f = some i ↔ (i ≤ l.length ∧ f <+: l.drop i ∧ ∀ k, k < i → ¬ f <+: l.drop k) := by
  unfold posM
  rw [List.find?_range_eq_some, List.isPrefixOf_iff_prefix]
  constructor
  · rintro ⟨h1, h2, h3⟩
    refine ⟨by have := List.mem_range.mp h2; omega, h1, fun k hk z => ?_⟩
    have := h3 k hk
    rw [List.isPrefixOf_iff_prefix.mpr z] at this
    cases this
  · rintro ⟨h1, h2, h3⟩
    refine ⟨h2, List.mem_range.mpr (by omega), fun k hk => ?_⟩
    cases e : f.isPrefixOf (l.drop k) with
    | false => rfl
    | true => exact absurd (List.isPrefixOf_iff_prefix.mp e) (h3 k hk)
theorem posM_none {l f : List Bool} : posM l f = none ↔ ∀ i, i ≤ l.length → ¬ f <+: l.drop i := by
  unfold posM
  rw [List.find?_eq_none]
  constructor
  · intro h i hi z
    exact h i (List.mem_range.mpr (by omega)) (List.isPrefixOf_iff_prefix.mpr z)
  · intro h i hi z
    exact h i (by have := List.mem_range.mp hi; omega) (List.isPrefixOf_iff_prefix.mp z)
theorem at_W {l f : List Bool} {i : Nat} : StrLaws.At (W l) (W f) (W l).length i ↔ (i ≤ l.length ∧ f <+: l.drop i) := by
  unfold StrLaws.At
  rw [StrLaws.subAt_eq, W_len, W_len, W_tl, W_tl, ← List.map_drop, ← List.map_take, beq_iff_eq]
  constructor
  · rintro ⟨h1, h2⟩
    refine ⟨by omega, List.prefix_iff_eq_take.mpr (map_bt_inj h2).symm⟩
  · rintro ⟨h1, h2⟩
    have hl := h2.length_le
    rw [List.length_drop] at hl
    exact ⟨by omega, by rw [← List.prefix_iff_eq_take.mp h2]⟩
theorem occ_none {l f : List Bool} (h : posM l f = none) : Builtin.Str.occurrences (W l) (W f) 0 (W l).length 1 = [] := by
  rcases StrLaws.occ_head (W l) (W f) 1 (Nat.le_refl _) with ⟨h1, _⟩ | ⟨i, r, _, h2, _⟩
  · exact h1
  · obtain ⟨h3, h4⟩ := at_W.mp h2
    exact absurd h4 (posM_none.mp h i h3)
theorem occ_some {l f : List Bool} {i : Nat} (h : posM l f = some i) : ∃ r, Builtin.Str.occurrences (W l) (W f) 0 (W l).length 1 = i :: r := by
  obtain ⟨p1, p2, p3⟩ := posM_some.mp h
  rcases StrLaws.occ_head (W l) (W f) 1 (Nat.le_refl _) with ⟨_, h2⟩ | ⟨j, r, h1, h2, h3⟩
  · exact absurd (at_W.mpr ⟨p1, p2⟩) (h2 i)
  · obtain ⟨q1, q2⟩ := at_W.mp h2
    have e : j = i := by
      rcases Nat.lt_trichotomy i j with c | c | c
      · exact absurd (at_W.mpr ⟨p1, p2⟩) (h3 i c)
      · exact c.symm
      · exact absurd q2 (p3 j c)
    subst e
    exact ⟨r, h1⟩
theorem find_W {l f : List Bool} {i : Nat} (h : posM l f = some i) : Txt.find (W l) (W f) = (i : Int) := by
  obtain ⟨r, e⟩ := occ_some h
  unfold Txt.find
  rw [e]
theorem posM_end (l f : List Bool) : ∃ i, posM (l ++ f) f = some i ∧ i ≤ l.length := by
  cases e : posM (l ++ f) f with
  | none =>
    refine absurd ?_ (posM_none.mp e l.length (by rw [List.length_append]; omega))
    rw [List.drop_left]
    exact List.prefix_refl _
  | some i =>
    refine ⟨i, rfl, ?_⟩
    obtain ⟨_, _, h3⟩ := posM_some.mp e
    rcases Nat.lt_or_ge l.length i with c | c
    · refine absurd ?_ (h3 _ c)
      rw [List.drop_left]
      exact List.prefix_refl _
    · exact c
end U

set_option maxRecDepth 100000
namespace U
theorem nodup1 {α : Type} (a : α) : [a].Nodup := by simp
theorem tl_nil (w : Nat) : tl w [] = [] := by unfold tl; simp
/-! flags in lines -/
/-- a flag ahead of the one at the end -/
def SpL (f l : List Bool) : Prop := ∃ i, i < l.length ∧ f <+: (l ++ f).drop i
theorem posM_sp {f l : List Bool} : posM (l ++ f) f = some l.length ↔ ¬ SpL f l := by
  constructor
  · intro h ⟨i, hi, hp⟩
    exact (posM_some.mp h).2.2 i hi hp
  · intro h
    refine posM_some.mpr ⟨by rw [List.length_append]; omega, by rw [List.drop_left]; exact List.prefix_refl _, fun k hk hp => h ⟨k, hk, hp⟩⟩
theorem pre_cut {f a r : List Bool} {i : Nat} (h : f <+: (a ++ r).drop i) (hi : i + f.length ≤ a.length) : f <+: a.drop i := by
  rw [List.prefix_iff_eq_take] at h ⊢
  rw [List.drop_append_of_le_length (by omega), List.take_append_of_le_length (by rw [List.length_drop]; omega)] at h
  exact h
theorem pre_ext {f a r : List Bool} {i : Nat} (h : f <+: a.drop i) (hi : i ≤ a.length) : f <+: (a ++ r).drop i := by
  rw [List.drop_append_of_le_length hi]
  exact h.trans (List.prefix_append _ _)
theorem drop_add' (u v : List Bool) (j : Nat) : (u ++ v).drop (u.length + j) = v.drop j := by
  rw [← List.drop_drop, List.drop_left]
/-- f stands in l -/
def infx (f l : List Bool) : Bool := (posM l f).isSome
theorem infx_iff {f l : List Bool} : infx f l = true ↔ ∃ i, i ≤ l.length ∧ f <+: l.drop i := by
  unfold infx
  cases e : posM l f with
  | none =>
    constructor
    · intro h; cases h
    · rintro ⟨i, hi, hp⟩
      exact absurd hp (posM_none.mp e i hi)
  | some i =>
    obtain ⟨h1, h2, _⟩ := posM_some.mp e
    exact ⟨fun _ => ⟨i, h1, h2⟩, fun _ => rfl⟩
theorem infx_false {f l : List Bool} : infx f l = false ↔ ∀ i, i ≤ l.length → ¬ f <+: l.drop i := by
  rw [← Bool.not_eq_true, infx_iff]
  constructor
  · intro h i hi hp; exact h ⟨i, hi, hp⟩
  · rintro h ⟨i, hi, hp⟩; exact h i hi hp
def bordM (f l : List Bool) : Bool := decide (posM (l ++ f) f = some l.length)
theorem bordM_iff {f l : List Bool} : bordM f l = true ↔ ¬ SpL f l := by
  unfold bordM
  rw [decide_eq_true_iff]
  exact posM_sp
theorem tl_split (n : Nat) (l : List Bool) : l = l.take (l.length - n) ++ tl n l := by unfold tl; rw [List.take_append_drop]
theorem SpL.infx {f l : List Bool} (hf : f ≠ []) (h : U.infx f l = true) : SpL f l := by
  obtain ⟨i, hi, hp⟩ := infx_iff.mp h
  have := hp.length_le
  rw [List.length_drop] at this
  have h0 : 0 < f.length := List.length_pos_iff.mpr hf
  exact ⟨i, by omega, pre_ext hp hi⟩
theorem sp_front {f u v : List Bool} (h : SpL f v) : SpL f (u ++ v) := by
  obtain ⟨i, hi, hp⟩ := h
  refine ⟨u.length + i, by rw [List.length_append]; omega, ?_⟩
  rw [List.append_assoc, drop_add']
  exact hp
/-- the test of one step -/
theorem sp_step {f l st y : List Bool} {w : Nat} (hf : f ≠ []) (hw : f.length ≤ w + 1) (hst : st = tl w l) (hl : ¬ SpL f l) : SpL f (l ++ y) ↔ (infx f (st ++ y) = true ∨ SpL f (tl w (st ++ y))) := by
  have h0 : 0 < f.length := List.length_pos_iff.mpr hf
  have el := tl_split w l
  rw [← hst] at el
  generalize hu : l.take (l.length - w) = u at el
  have lu : u.length = l.length - w := by rw [← hu, List.length_take]; omega
  have ly : l ++ y = u ++ (st ++ y) := by rw [← List.append_assoc, ← el]
  have lst : st.length = min w l.length := by rw [hst, tl_len]
  constructor
  · rintro ⟨i, hi, hp⟩
    by_cases c : i + f.length ≤ (l ++ y).length
    · left
      have h1 := pre_cut hp c
      by_cases c2 : i + f.length ≤ l.length
      · exfalso
        have h2 := pre_cut h1 c2
        exact hl ⟨i, by omega, pre_ext h2 (by omega)⟩
      · have hiu : u.length ≤ i := by omega
        refine infx_iff.mpr ⟨i - u.length, by rw [List.length_append] at hi ⊢; omega, ?_⟩
        rw [ly, show i = u.length + (i - u.length) by omega, drop_add'] at h1
        exact h1
    · right
      -- the line's last bits
      have e2 := tl_split w (st ++ y)
      generalize hv : (st ++ y).take ((st ++ y).length - w) = v at e2
      have lv : v.length = (st ++ y).length - w := by rw [← hv, List.length_take]; omega
      have e3 : l ++ y = (u ++ v) ++ tl w (st ++ y) := by rw [List.append_assoc, ← e2]; exact ly
      have l3 : (l ++ y).length = u.length + v.length + (tl w (st ++ y)).length := by rw [e3, List.length_append, List.length_append]
      have l4 : (tl w (st ++ y)).length = min w (st ++ y).length := tl_len _ _
      have l5 : (st ++ y).length = st.length + y.length := List.length_append
      have l6 : (l ++ y).length = l.length + y.length := List.length_append
      refine ⟨i - (u ++ v).length, ?_, ?_⟩
      · rw [List.length_append]; omega
      · have hge : (u ++ v).length ≤ i := by rw [List.length_append]; omega
        rw [e3, List.append_assoc, show i = (u ++ v).length + (i - (u ++ v).length) by omega, drop_add'] at hp
        exact hp
  · rintro (h | h)
    · rw [ly]
      exact sp_front (SpL.infx hf h)
    · have e2 := tl_split w (st ++ y)
      rw [ly, e2, ← List.append_assoc]
      exact sp_front h
/-! the walk over standings -/
def wid (ss : List Stf) (f : List Bool) : Nat := max (ss.foldr (fun s m => max s.1.length m) 0) f.length - 1
def edge (ss : List Stf) (f : List Bool) (w : Nat) (st : List Bool) (b : Bool) : Option (List Bool) :=
  if infx f (itP ss 40 (st ++ [b])) || !bordM f (tl w (itP ss 40 (st ++ [b]))) then none else some (tl w (itP ss 40 (st ++ [b])))
theorem bodyF_snoc (ss : List Stf) (m : List Bool) (b : Bool) : bodyF ss (m ++ [b]) = itP ss 40 (bodyF ss m ++ [b]) := by unfold bodyF; rw [List.foldl_append]; rfl
theorem ins40 {ss : List Stf} (o : OkN 39 ss) (m : List Bool) (b : Bool) : ∃ x, Ins ss (bodyF ss m ++ [b]) x ∧ x.length ≤ 39 ∧ bodyF ss (m ++ [b]) = bodyF ss m ++ [b] ++ x := by
  obtain ⟨x, hx, hl⟩ := o _ (body_ex o m).reach b
  refine ⟨x, hx, hl, ?_⟩
  rw [bodyF_snoc, hx.itP, List.take_of_length_le (by omega)]
/-- the standing of a message -/
def stand (ss : List Stf) (w : Nat) (m : List Bool) : List Bool := tl w (bodyF ss m)
theorem edge_at {ss : List Stf} {f : List Bool} {w : Nat} (o : OkN 39 ss) (hf : f ≠ []) (hw : f.length ≤ w + 1) (hL : ∀ s ∈ ss, s.1.length ≤ w + 1) {m : List Bool} (hm : ¬ SpL f (bodyF ss m)) (b : Bool) :
    (∃ x, Ins ss (stand ss w m ++ [b]) x ∧ x.length ≤ 39 ∧ itP ss 40 (stand ss w m ++ [b]) = stand ss w m ++ [b] ++ x) ∧
    (SpL f (bodyF ss (m ++ [b])) → edge ss f w (stand ss w m) b = none) ∧ (¬ SpL f (bodyF ss (m ++ [b])) → edge ss f w (stand ss w m) b = some (stand ss w (m ++ [b]))) := by
  obtain ⟨x, hx, hl, eb⟩ := ins40 o m b
  have et : tl (w + 1) (bodyF ss m ++ [b]) = tl (w + 1) (stand ss w m ++ [b]) := by
    rw [tl_snoc0, tl_snoc0]
    unfold stand
    rw [tl_tl (Nat.le_refl w)]
  have hx2 : Ins ss (stand ss w m ++ [b]) x := hx.tl hL et
  have e40 : itP ss 40 (stand ss w m ++ [b]) = stand ss w m ++ [b] ++ x := by rw [hx2.itP, List.take_of_length_le (by omega)]
  have key := sp_step (y := [b] ++ x) hf hw (show stand ss w m = tl w (bodyF ss m) from rfl) hm
  rw [← List.append_assoc, ← List.append_assoc] at key
  have etl : tl w (stand ss w m ++ [b] ++ x) = stand ss w (m ++ [b]) := by
    unfold stand
    rw [eb, List.append_assoc, List.append_assoc]
    exact tl_app (tl_tl (Nat.le_refl w) _) _
  refine ⟨⟨x, hx2, hl, e40⟩, fun h => ?_, fun h => ?_⟩
  · rw [eb] at h
    unfold edge
    rw [e40]
    rcases key.mp h with h1 | h1
    · rw [h1]; rfl
    · have : bordM f (tl w (stand ss w m ++ [b] ++ x)) = false := by
        rw [← Bool.not_eq_true, bordM_iff]
        exact fun z => z h1
      rw [this, Bool.not_false, Bool.or_true]
      rfl
  · rw [eb] at h
    unfold edge
    rw [e40]
    have h1 : infx f (stand ss w m ++ [b] ++ x) = false := by
      rw [← Bool.not_eq_true]
      exact fun z => h (key.mpr (.inl z))
    have h2 : bordM f (tl w (stand ss w m ++ [b] ++ x)) = true := bordM_iff.mpr fun z => h (key.mpr (.inr z))
    rw [h1, h2, etl]
    rfl
/-- a word as a number -/
def num (m : List Bool) : Nat := m.foldl (fun n b => 2 * n + (if b then 1 else 0)) 0
theorem num_snoc (m : List Bool) (b : Bool) : num (m ++ [b]) = 2 * num m + (if b then 1 else 0) := by unfold num; rw [List.foldl_append]; rfl
/-- how things stand ahead of a layer -/
structure WkL (ss : List Stf) (f : List Bool) (w n : Nat) (kn : List (List Bool)) (ly : List (List Bool × List Bool)) : Prop where
  a : ∀ m, m.length ≤ n → ¬ SpL f (bodyF ss m)
  nd : kn.Nodup
  sh : ∀ t ∈ kn, t.length ≤ w
  g : ∀ t ∈ kn, ∃ m, m.length ≤ n ∧ t = stand ss w m
  nil : [] ∈ kn
  l1 : ∀ p ∈ ly, p.1.length = n ∧ p.2 = stand ss w p.1 ∧ p.2 ∈ kn
  srt : ly.Pairwise fun p q => num p.1 < num q.1
  d : ∀ t ∈ kn, (∃ p ∈ ly, p.2 = t) ∨ ∀ b, ∃ u ∈ kn, edge ss f w t b = some u
  e : ∀ m, m.length = n → (∀ b, ∃ u ∈ kn, edge ss f w (stand ss w m) b = some u) ∨ ∃ p ∈ ly, p.2 = stand ss w m ∧ num p.1 ≤ num m
def Dn (ly : List (List Bool × List Bool)) (i : Nat) (c : Bool) (p : List Bool × List Bool) (b : Bool) : Prop := p ∈ ly.take i ∨ (c = true ∧ ly[i]? = some p ∧ b = false)
/-- within a layer: the edges of the first i are done, and the first one of the next if c -/
structure WkE (ss : List Stf) (f : List Bool) (w n : Nat) (k0 : List (List Bool)) (ly : List (List Bool × List Bool)) (i : Nat) (c : Bool) (kn : List (List Bool)) (lt : List (List Bool × List Bool)) : Prop where
  nd : kn.Nodup
  sh : ∀ t ∈ kn, t.length ≤ w
  g : ∀ t ∈ kn, ∃ m, m.length ≤ n + 1 ∧ t = stand ss w m
  sub : ∀ t ∈ k0, t ∈ kn
  app : kn.length = k0.length + lt.length
  l1 : ∀ p ∈ lt, p.1.length = n + 1 ∧ p.2 = stand ss w p.1 ∧ p.2 ∈ kn
  srt : lt.Pairwise fun p q => num p.1 < num q.1
  ltd : ∀ p ∈ lt, ∃ q b, Dn ly i c q b ∧ p.1 = q.1 ++ [b]
  new : ∀ t ∈ kn, t ∈ k0 ∨ ∃ p ∈ lt, p.2 = t
  ed : ∀ q b, Dn ly i c q b → ∃ u ∈ kn, edge ss f w q.2 b = some u ∧ (u ∈ k0 ∨ ∃ p ∈ lt, p.2 = u ∧ num p.1 ≤ num (q.1 ++ [b]))
theorem WkE.start {ss : List Stf} {f : List Bool} {w n : Nat} {kn : List (List Bool)} {ly : List (List Bool × List Bool)} (h : WkL ss f w n kn ly) : WkE ss f w n kn ly 0 false kn [] :=
  ⟨h.nd, h.sh, fun t ht => by obtain ⟨m, h1, h2⟩ := h.g t ht; exact ⟨m, by omega, h2⟩, fun _ h => h, rfl, (fun _ h => nomatch h), .nil, (fun _ h => nomatch h), fun t ht => .inl ht, fun q b hd => by
    rcases hd with h | ⟨h, _⟩
    · rw [List.take_zero] at h; cases h
    · cases h⟩
theorem Dn.lt {ss : List Stf} {f : List Bool} {w n : Nat} {k0 : List (List Bool)} {ly : List (List Bool × List Bool)} (h : WkL ss f w n k0 ly) {i : Nat} {c : Bool} {p : List Bool × List Bool} (hp : ly[i]? = some p) {q : List Bool × List Bool} {b : Bool} (hd : Dn ly i c q b) : num (q.1 ++ [b]) < num (p.1 ++ [c]) := by
  rw [num_snoc, num_snoc]
  rcases hd with h1 | ⟨rfl, h1, rfl⟩
  · have hi := (List.getElem?_eq_some_iff.mp hp).1
    have hs : ly = ly.take i ++ ly.drop i := (List.take_append_drop i ly).symm
    have hpd : p ∈ ly.drop i := by
      rw [List.drop_eq_getElem_cons hi]
      rw [List.getElem?_eq_getElem hi] at hp
      rw [Option.some.inj hp]
      exact List.mem_cons_self
    have := h.srt
    rw [hs] at this
    have := (List.pairwise_append.mp this).2.2 q h1 p hpd
    split <;> split <;> omega
  · rw [hp] at h1
    rw [Option.some.inj h1]
    simp
/-- the edges that are done grow by one -/
theorem Dn.step {ly : List (List Bool × List Bool)} {i : Nat} {c : Bool} {p : List Bool × List Bool} (hp : ly[i]? = some p) {q : List Bool × List Bool} {b : Bool} : Dn ly (if c then i + 1 else i) (!c) q b → Dn ly i c q b ∨ (q = p ∧ b = c) := by
  cases c with
  | false =>
    rintro (h | ⟨_, h1, h2⟩)
    · exact .inl (.inl h)
    · rw [show (if false = true then i + 1 else i) = i from rfl, hp] at h1
      exact .inr ⟨(Option.some.inj h1).symm, h2⟩
  | true =>
    rintro (h | ⟨h, _⟩)
    · rw [show (if true = true then i + 1 else i) = i + 1 from rfl, List.take_add_one, hp] at h
      rcases List.mem_append.mp h with h | h
      · exact .inl (.inl h)
      · have e : q = p := by simpa using h
        cases b with
        | false => exact .inl (.inr ⟨rfl, by rw [e]; exact hp, rfl⟩)
        | true => exact .inr ⟨e, rfl⟩
    · cases h
theorem WkE.next {ss : List Stf} {f : List Bool} {w n : Nat} (o : OkN 39 ss) (hf : f ≠ []) (hw : f.length ≤ w + 1) (hL : ∀ s ∈ ss, s.1.length ≤ w + 1) {k0 kn : List (List Bool)} {ly lt : List (List Bool × List Bool)} (h : WkL ss f w n k0 ly) {i : Nat} {c : Bool} (E : WkE ss f w n k0 ly i c kn lt) {p : List Bool × List Bool} (hp : ly[i]? = some p)
    {u : List Bool} (hu : edge ss f w p.2 c = some u) :
    (u ∈ kn → WkE ss f w n k0 ly (if c then i + 1 else i) (!c) kn lt) ∧ (u ∉ kn → WkE ss f w n k0 ly (if c then i + 1 else i) (!c) (kn ++ [u]) (lt ++ [(p.1 ++ [c], u)])) := by
  have hpm := List.mem_of_getElem? hp
  obtain ⟨p1, p2, p3⟩ := h.l1 p hpm
  have hm : ¬ SpL f (bodyF ss p.1) := h.a p.1 (by omega)
  obtain ⟨_, e1, e2⟩ := edge_at o hf hw hL hm c
  rw [← p2] at e1 e2
  have us : u = stand ss w (p.1 ++ [c]) := by
    by_cases z : SpL f (bodyF ss (p.1 ++ [c]))
    · rw [e1 z] at hu; cases hu
    · rw [e2 z] at hu; exact (Option.some.inj hu).symm
  have hdn : ∀ {q b}, Dn ly i c q b → Dn ly (if c then i + 1 else i) (!c) q b := by
    intro q b hd
    cases c with
    | false =>
      rcases hd with h | ⟨h, _⟩
      · exact .inl h
      · cases h
    | true =>
      refine .inl ?_
      rw [show (if true = true then i + 1 else i) = i + 1 from rfl, List.take_add_one, hp]
      rcases hd with h | ⟨_, h1, _⟩
      · exact List.mem_append_left _ h
      · rw [hp] at h1
        exact List.mem_append_right _ (by simp [Option.some.inj h1])
  have hpn : Dn ly (if c then i + 1 else i) (!c) p c := by
    cases c with
    | false => exact .inr ⟨rfl, hp, rfl⟩
    | true =>
      refine .inl ?_
      rw [show (if true = true then i + 1 else i) = i + 1 from rfl, List.take_add_one, hp]
      exact List.mem_append_right _ (by simp)
  constructor
  · intro hk
    refine ⟨E.nd, E.sh, E.g, E.sub, E.app, E.l1, E.srt, fun q hq => ?_, E.new, fun q b hd => ?_⟩
    · obtain ⟨q2, b, h1, h2⟩ := E.ltd q hq
      exact ⟨q2, b, hdn h1, h2⟩
    · rcases Dn.step hp hd with h1 | ⟨rfl, rfl⟩
      · exact E.ed q b h1
      · refine ⟨u, hk, hu, ?_⟩
        rcases E.new u hk with h1 | ⟨r, h1, h2⟩
        · exact .inl h1
        · refine .inr ⟨r, h1, h2, ?_⟩
          obtain ⟨q2, b2, h3, h4⟩ := E.ltd r h1
          rw [h4]
          exact Nat.le_of_lt (Dn.lt h hp h3)
  · intro hk
    refine ⟨?_, ?_, ?_, fun t ht => List.mem_append_left _ (E.sub t ht), by rw [List.length_append, List.length_append, E.app]; show _ + 1 = _ + (_ + 1); omega, ?_, ?_, ?_, ?_, ?_⟩
    · rw [List.nodup_append]
      exact ⟨E.nd, nodup1 _, fun x hx y hy z => hk (by rw [← List.mem_singleton.mp hy, ← z]; exact hx)⟩
    · intro t ht
      rcases List.mem_append.mp ht with h1 | h1
      · exact E.sh t h1
      · rw [List.mem_singleton.mp h1, us]
        exact tl_le _ _
    · intro t ht
      rcases List.mem_append.mp ht with h1 | h1
      · exact E.g t h1
      · exact ⟨p.1 ++ [c], by rw [List.length_append, p1]; exact Nat.le_refl _, by rw [List.mem_singleton.mp h1]; exact us⟩
    · intro q hq
      rcases List.mem_append.mp hq with h1 | h1
      · obtain ⟨a1, a2, a3⟩ := E.l1 q h1
        exact ⟨a1, a2, List.mem_append_left _ a3⟩
      · rw [List.mem_singleton.mp h1]
        exact ⟨by rw [List.length_append, p1]; rfl, us, List.mem_append_right _ (List.mem_singleton.mpr rfl)⟩
    · rw [List.pairwise_append]
      refine ⟨E.srt, List.pairwise_singleton _ _, fun q hq r hr => ?_⟩
      rw [List.mem_singleton.mp hr]
      obtain ⟨q2, b2, h3, h4⟩ := E.ltd q hq
      rw [h4]
      exact Dn.lt h hp h3
    · intro q hq
      rcases List.mem_append.mp hq with h1 | h1
      · obtain ⟨q2, b, h1, h2⟩ := E.ltd q h1
        exact ⟨q2, b, hdn h1, h2⟩
      · rw [List.mem_singleton.mp h1]
        exact ⟨p, c, hpn, rfl⟩
    · intro t ht
      rcases List.mem_append.mp ht with h1 | h1
      · rcases E.new t h1 with h2 | ⟨r, h2, h3⟩
        · exact .inl h2
        · exact .inr ⟨r, List.mem_append_left _ h2, h3⟩
      · exact .inr ⟨_, List.mem_append_right _ (List.mem_singleton.mpr rfl), (List.mem_singleton.mp h1).symm⟩
    · intro q b hd
      rcases Dn.step hp hd with h1 | ⟨rfl, rfl⟩
      · obtain ⟨v, h2, h3, h4⟩ := E.ed q b h1
        refine ⟨v, List.mem_append_left _ h2, h3, ?_⟩
        rcases h4 with h4 | ⟨r, h5, h6⟩
        · exact .inl h4
        · exact .inr ⟨r, List.mem_append_left _ h5, h6⟩
      · exact ⟨u, List.mem_append_right _ (List.mem_singleton.mpr rfl), hu, .inr ⟨_, List.mem_append_right _ (List.mem_singleton.mpr rfl), rfl, Nat.le_refl _⟩⟩
/-- the end of a layer -/
theorem WkE.done {ss : List Stf} {f : List Bool} {w n : Nat} (o : OkN 39 ss) (hf : f ≠ []) (hw : f.length ≤ w + 1) (hL : ∀ s ∈ ss, s.1.length ≤ w + 1) {k0 kn : List (List Bool)} {ly lt : List (List Bool × List Bool)} (h : WkL ss f w n k0 ly) (E : WkE ss f w n k0 ly ly.length false kn lt) : WkL ss f w (n + 1) kn lt := by
  have dn : ∀ {q b}, q ∈ ly → Dn ly ly.length false q b := fun hq => .inl (by rw [List.take_length]; exact hq)
  -- each message that is one bit longer
  have step : ∀ m b, m.length = n → ∃ u ∈ kn, edge ss f w (stand ss w m) b = some u ∧ (u ∈ k0 ∨ ∃ p ∈ lt, p.2 = u ∧ num p.1 ≤ num (m ++ [b])) := by
    intro m b hm
    rcases h.e m hm with h1 | ⟨p, h1, h2, h3⟩
    · obtain ⟨u, h4, h5⟩ := h1 b
      exact ⟨u, E.sub u h4, h5, .inl h4⟩
    · obtain ⟨u, h4, h5, h6⟩ := E.ed p b (dn h1)
      rw [h2] at h5
      refine ⟨u, h4, h5, ?_⟩
      rcases h6 with h6 | ⟨r, h7, h8, h9⟩
      · exact .inl h6
      · refine .inr ⟨r, h7, h8, Nat.le_trans h9 ?_⟩
        rw [num_snoc, num_snoc]
        omega
  have old : ∀ t ∈ k0, ∀ b, ∃ u ∈ kn, edge ss f w t b = some u := by
    intro t ht b
    rcases h.d t ht with ⟨p, h1, rfl⟩ | h1
    · obtain ⟨u, h4, h5, _⟩ := E.ed p b (dn h1)
      exact ⟨u, h4, h5⟩
    · obtain ⟨u, h4, h5⟩ := h1 b
      exact ⟨u, E.sub u h4, h5⟩
  have cut : ∀ m : List Bool, m.length = n + 1 → ∃ m' b, m = m' ++ [b] ∧ m'.length = n := by
    intro m hm
    rcases List.eq_nil_or_concat m with z | ⟨m', b, z⟩
    · rw [z] at hm; cases hm
    · rw [List.concat_eq_append] at z
      exact ⟨m', b, z, by rw [z, List.length_append] at hm; simpa using hm⟩
  have unsp : ∀ m b, m.length = n → ¬ SpL f (bodyF ss (m ++ [b])) ∧ edge ss f w (stand ss w m) b = some (stand ss w (m ++ [b])) := by
    intro m b hm
    obtain ⟨u, _, h2, _⟩ := step m b hm
    obtain ⟨_, e1, e2⟩ := edge_at o hf hw hL (h.a m (by omega)) b
    have hn : ¬ SpL f (bodyF ss (m ++ [b])) := fun z => by rw [e1 z] at h2; cases h2
    exact ⟨hn, e2 hn⟩
  refine ⟨fun m hm => ?_, E.nd, E.sh, E.g, E.sub _ h.nil, E.l1, E.srt, fun t ht => ?_, fun m hm => ?_⟩
  · rcases Nat.lt_or_ge m.length (n + 1) with c | c
    · exact h.a m (by omega)
    · obtain ⟨m', b, rfl, h1⟩ := cut m (by omega)
      exact (unsp m' b h1).1
  · rcases E.new t ht with h1 | h1
    · exact .inr (old t h1)
    · exact .inl h1
  · obtain ⟨m', b, rfl, h1⟩ := cut m hm
    obtain ⟨u, h2, h3, h4⟩ := step m' b h1
    rw [(unsp m' b h1).2] at h3
    have eu := Option.some.inj h3
    rw [eu]
    rcases h4 with h4 | h4
    · exact .inl (old u h4)
    · exact .inr h4
/-- m is the first spoiled message -/
def FirstSp (ss : List Stf) (f m : List Bool) : Prop := SpL f (bodyF ss m) ∧ ∀ m', (m'.length < m.length ∨ (m'.length = m.length ∧ num m' < num m)) → ¬ SpL f (bodyF ss m')
theorem WkE.bad {ss : List Stf} {f : List Bool} {w n : Nat} (o : OkN 39 ss) (hf : f ≠ []) (hw : f.length ≤ w + 1) (hL : ∀ s ∈ ss, s.1.length ≤ w + 1) {k0 kn : List (List Bool)} {ly lt : List (List Bool × List Bool)} (h : WkL ss f w n k0 ly) {i : Nat} {c : Bool} (E : WkE ss f w n k0 ly i c kn lt) {p : List Bool × List Bool} (hp : ly[i]? = some p)
    (hu : edge ss f w p.2 c = none) : FirstSp ss f (p.1 ++ [c]) := by
  have hpm := List.mem_of_getElem? hp
  obtain ⟨p1, p2, p3⟩ := h.l1 p hpm
  obtain ⟨_, e1, e2⟩ := edge_at o hf hw hL (h.a p.1 (by omega)) c
  rw [← p2] at e2
  refine ⟨?_, fun m' hm' => ?_⟩
  · by_cases z : SpL f (bodyF ss (p.1 ++ [c]))
    · exact z
    · rw [e2 z] at hu; cases hu
  · rw [List.length_append, p1] at hm'
    simp only [List.length_cons, List.length_nil] at hm'
    rcases hm' with h1 | ⟨h1, h2⟩
    · exact h.a m' (by omega)
    · have : ∃ v b, m' = v ++ [b] ∧ v.length = n := by
        rcases List.eq_nil_or_concat m' with z | ⟨v, b, z⟩
        · rw [z] at h1; simp at h1
        · rw [List.concat_eq_append] at z
          exact ⟨v, b, z, by rw [z, List.length_append] at h1; simpa using h1⟩
      obtain ⟨v, b, rfl, hv⟩ := this
      obtain ⟨_, f1, f2⟩ := edge_at o hf hw hL (h.a v (by omega)) b
      intro z
      have hz := f1 z
      rcases h.e v hv with h3 | ⟨q, h3, h4, h5⟩
      · obtain ⟨u, _, h6⟩ := h3 b
        rw [hz] at h6; cases h6
      · have hd : Dn ly i c q b := by
          obtain ⟨j, hj⟩ := List.getElem?_of_mem h3
          rcases Nat.lt_trichotomy j i with c1 | c1 | c1
          · exact .inl (List.mem_of_getElem? (i := j) (by rw [List.getElem?_take, if_pos c1]; exact hj))
          · subst c1
            rw [hp] at hj
            have eq := Option.some.inj hj
            subst eq
            rw [num_snoc, num_snoc] at h2
            cases c with
            | false =>
              exfalso
              simp only [Bool.false_eq_true, if_false] at h2
              split at h2 <;> omega
            | true =>
              cases b with
              | false => exact .inr ⟨rfl, hp, rfl⟩
              | true =>
                exfalso
                simp only [if_true] at h2
                omega
          · exfalso
            have hjl := (List.getElem?_eq_some_iff.mp hj).1
            have := List.pairwise_iff_getElem.mp h.srt i j (by omega) hjl c1
            rw [List.getElem?_eq_getElem (by omega)] at hp
            rw [List.getElem?_eq_getElem hjl] at hj
            rw [Option.some.inj hp, Option.some.inj hj] at this
            rw [num_snoc, num_snoc] at h2
            split at h2 <;> split at h2 <;> omega
        obtain ⟨u, _, h6, _⟩ := E.ed q b hd
        rw [h4, hz] at h6
        cases h6
/-- the standings of a clean rule -/
structure Paper (ss : List Stf) (f : List Bool) (w : Nat) (kn : List (List Bool)) : Prop where
  nd : kn.Nodup
  sh : ∀ t ∈ kn, t.length ≤ w
  nil : [] ∈ kn
  cl : ∀ t ∈ kn, ∀ b, ∃ u ∈ kn, edge ss f w t b = some u
  g : ∀ t ∈ kn, ∃ m, t = stand ss w m
theorem WkL.clean {ss : List Stf} {f : List Bool} {w n : Nat} (o : OkN 39 ss) (hf : f ≠ []) (hw : f.length ≤ w + 1) (hL : ∀ s ∈ ss, s.1.length ≤ w + 1) {kn : List (List Bool)} (h : WkL ss f w n kn []) : Paper ss f w kn ∧ ∀ m, ¬ SpL f (bodyF ss m) := by
  have cl : ∀ t ∈ kn, ∀ b, ∃ u ∈ kn, edge ss f w t b = some u := fun t ht => by
    rcases h.d t ht with ⟨p, h1, _⟩ | h1
    · cases h1
    · exact h1
  refine ⟨⟨h.nd, h.sh, h.nil, cl, fun t ht => by obtain ⟨m, _, e⟩ := h.g t ht; exact ⟨m, e⟩⟩, ?_⟩
  have all : ∀ k m, m.length = k → ¬ SpL f (bodyF ss m) ∧ stand ss w m ∈ kn := by
    intro k
    induction k with
    | zero =>
      intro m hm
      have : m = [] := List.length_eq_zero_iff.mp hm
      subst this
      exact ⟨h.a [] (Nat.zero_le _), by show tl w [] ∈ kn; rw [tl_nil]; exact h.nil⟩
    | succ k ih =>
      intro m hm
      rcases List.eq_nil_or_concat m with z | ⟨v, b, z⟩
      · rw [z] at hm; cases hm
      · rw [List.concat_eq_append] at z
        subst z
        obtain ⟨h1, h2⟩ := ih v (by rw [List.length_append] at hm; simpa using hm)
        obtain ⟨u, h3, h4⟩ := cl _ h2 b
        obtain ⟨_, e1, e2⟩ := edge_at o hf hw hL h1 b
        have hn : ¬ SpL f (bodyF ss (v ++ [b])) := fun z => by rw [e1 z] at h4; cases h4
        rw [e2 hn] at h4
        exact ⟨hn, by rw [Option.some.inj h4]; exact h3⟩
  exact fun m => (all m.length m rfl).1
theorem WkL.begin {ss : List Stf} {f : List Bool} {w : Nat} : WkL ss f w 0 [[]] [([], [])] := by
  have st0 : stand ss w [] = [] := tl_nil w
  have z0 : ∀ m : List Bool, m.length ≤ 0 → m = [] := fun m h => List.length_eq_zero_iff.mp (by omega)
  refine ⟨fun m hm => ?_, nodup1 _, fun t ht => by rw [List.mem_singleton.mp ht]; exact Nat.zero_le _, fun t ht => ⟨[], Nat.le_refl _, by rw [List.mem_singleton.mp ht, st0]⟩, List.mem_singleton.mpr rfl, fun p hp => by rw [List.mem_singleton.mp hp]; exact ⟨rfl, st0.symm, List.mem_singleton.mpr rfl⟩, List.pairwise_singleton _ _, fun t ht => .inl ⟨_, List.mem_singleton.mpr rfl, (List.mem_singleton.mp ht).symm⟩, fun m hm => .inr ⟨_, List.mem_singleton.mpr rfl, ?_, ?_⟩⟩
  · rw [z0 m hm]
    rintro ⟨i, hi, _⟩
    exact absurd hi (Nat.not_lt_zero _)
  · rw [z0 m (by omega)]; exact st0.symm
  · rw [z0 m (by omega)]; exact Nat.le_refl _
end U

set_option maxRecDepth 100000
set_option maxHeartbeats 4000000
namespace U
open PySem PySem.Spec PyProof.Rows
open L2 hiding Fun CX0 E0 pass0 Fun.binds
open C8 Lx SX StX
theorem Body.det {ss : List Stf} : ∀ {m l l' : List Bool}, Body ss m l → Body ss m l' → l = l' := by
  intro m l l' h
  induction h generalizing l' with
  | nil =>
    intro h'
    generalize e : ([] : List Bool) = m at h'
    cases h' with
    | nil => rfl
    | snoc _ _ => have := congrArg List.length e; simp at this
  | @snoc m l x b hb hi ih =>
    intro h'
    generalize e : m ++ [b] = m' at h'
    cases h' with
    | nil => have := congrArg List.length e; simp at this
    | @snoc m2 l2 x2 b2 hb2 hi2 =>
      obtain ⟨rfl, e2⟩ := List.append_inj' e rfl
      cases (List.cons.inj e2).1
      have el := ih hb2
      subst el
      rw [hi.det hi2]
def spPutB (C : Addr) : Sp := fun vs H Q _ => ∃ (a : Addr) (f : List Bool) (ss : List Stf) (l x : List Bool), vs = [.ref a, .str (W l)] ∧ RuAt C H a f ss ∧ l.length ≤ 50000 ∧ x.length ≤ 1000 ∧ Ins ss l x ∧ ∀ H', Same H H' → Q (.str (W x)) H'
def spBody (C : Addr) : Sp := fun vs H Q _ => ∃ (a : Addr) (f : List Bool) (ss : List Stf) (m : List Bool), vs = [.ref a, .str (W m)] ∧ RuAt C H a f ss ∧ m.length ≤ 1000 ∧ OkN 39 ss ∧ ∀ l H', Body ss m l → l.length ≤ 40 * m.length → Same H H' → Q (.str (W l)) H'
section
variable {P : Program} {w : World} {K : PySem.W.Frag} {mg : Str → Option Value} {base : Heap}
theorem sc_put_behind : FnScope ["rule", "line", "found", "bit"] ["rule", "line"] (fnScope s_put_behind) := fnScope_by (by decide +kernel)
theorem cal_put_behind {f C : Addr} {fd : FuncData} (F : Def K mg "put_behind" s_put_behind f fd) (b : Binds K fd ["rule", "line"] []) (T : Tx mg) (c_put : Met P w K mg base 1 C "put" (spPut C) []) : Cal P w K mg base 3 "put_behind" (spPutB C) [] := by
  refine cal0 F b .nil sc_put_behind (fun vs H Q E h => ?_) (fun cdv A outer s H vs Q E hr h => ?_)
  · obtain ⟨_, _, _, _, _, rfl, _⟩ := h; rfl
  · obtain ⟨a, fl, ss, l, x, rfl, hR, hl, hx, hI, k⟩ := h
    refine ⟨_, (pss_cons (ps_par (i := 2) (j := 3) (by rfl) sc_put_behind.nd rfl rfl (by decide) rfl rfl (pa_cons pe_str (pa_cons (pe_mt (pl := _) c_put hr (by decide) (pv 0) (pa_cons (pv 1) pa_nil)) pa_nil)) (by rfl))
    (pss_cons (ps_while PassesOwn.never (pt_cmpR op_notN (pv 3) pe_non (nomark _))
    (pss_cons (ps_set (i := 2) sc_put_behind.nd rfl (.inl rfl) (pe_op op_add_str (pv 2) (pv 3)))
    (pss_one (ps_set (i := 3) sc_put_behind.nd rfl (.inl rfl) (pe_mt (pl := _) c_put hr (by decide) (pv 0) (pa_cons (pe_op op_add_str (pv 1) (pv 2)) pa_nil))))))
    (pss_one (ps_ret (pv 2))))), ?_⟩
    have hat : ∀ {H2 : Hp}, Same H H2 → ∃ dx t, H2 a = some (.ins C dx (ruF fl t)) := fun s2 => by
      obtain ⟨dx, t, _, _, ha, _⟩ := hR.same s2
      exact ⟨dx, t, ha⟩
    obtain ⟨dx, t, ha⟩ := hat (Same.refl H)
    refine ⟨_, rfl, a, dx, _, rfl, ha, ruF_no _ _ (by decide +kernel) (by decide +kernel), _, rfl, a, fl, ss, l, rfl, hR, fun H2 s2 => ⟨_, _, rfl, ?_⟩⟩
    have e1 : (W l).length = l.length := W_len l
    refine ⟨fun m σ H3 => ∃ (j : Nat), j + m = x.length ∧ σ = [some (.ref a), some (.str (W l)), some (.str (W (x.take j))), some (oB (putM ss (l ++ x.take j)))] ∧ Same H H3,
      ⟨x.length, 0, by omega, by rw [List.take_zero, List.append_nil, ← W_nil]; rfl, s2⟩, ?_⟩
    rintro m σ H3 ⟨j, hj, rfl, s3⟩
    refine ⟨_, rfl, rfl, _, rfl, ?_⟩
    rw [oB_non]
    by_cases hlt : j < x.length
    · have hb : x[j]? = some x[j] := List.getElem?_eq_getElem hlt
      have hput := hI.at hb
      rw [hput]
      have lx : (x.take j).length ≤ 1000 := by rw [List.length_take]; omega
      have e2 : (W (x.take j)).length = (x.take j).length := W_len _
      have e3 : (W [x[j]]).length = 1 := W_len _
      refine ⟨fun σ' H' => ∃ m', m' < m ∧ ∃ (j : Nat), j + m' = x.length ∧ σ' = [some (.ref a), some (.str (W l)), some (.str (W (x.take j))), some (oB (putM ss (l ++ x.take j)))] ∧ Same H H', fun _ _ h => h, ?_⟩
      have et : x.take (j + 1) = x.take j ++ [x[j]] := by rw [List.take_add_one, hb]; rfl
      refine ⟨_, rfl, _, rfl, _, _, rfl, rfl, by rw [e2, e3]; exact sl_len (by omega), ?_⟩
      rw [W_cat, ← et]
      have e4 : (W (x.take (j + 1))).length = (x.take (j + 1)).length := W_len _
      obtain ⟨dx5, t5, ha5⟩ := hat s3
      refine ⟨_, rfl, a, dx5, _, rfl, ha5, ruF_no _ _ (by decide +kernel) (by decide +kernel), _, rfl, _, rfl, _, _, rfl, rfl, by rw [e1, e4, et, List.length_append]; exact sl_len (by simp only [List.length_cons, List.length_nil]; omega), ?_⟩
      refine ⟨a, fl, ss, l ++ x.take (j + 1), by rw [← W_cat]; rfl, hR.same s3, fun H6 s6 => ?_⟩
      exact ⟨m - 1, by omega, j + 1, by omega, rfl, s3.trans s6⟩
    · have hj' : j = x.length := by omega
      subst hj'
      rw [List.take_length, hI.end]
      exact ⟨_, rfl, k H3 s3⟩
theorem sc_body : FnScope ["rule", "message", "line", "bit"] ["rule", "message"] (fnScope s_body) := fnScope_by (by decide +kernel)
theorem cal_body {f C : Addr} {fd : FuncData} (F : Def K mg "body" s_body f fd) (b : Binds K fd ["rule", "message"] []) (T : Tx mg) (c_put_behind : Cal P w K mg base 3 "put_behind" (spPutB C) []) : Cal P w K mg base 4 "body" (spBody C) [] := by
  refine cal0 F b .nil sc_body (fun vs H Q E h => ?_) (fun cdv A outer s H vs Q E hr h => ?_)
  · obtain ⟨_, _, _, _, rfl, _⟩ := h; rfl
  · obtain ⟨a, fl, ss, m, rfl, hR, hm, hO, k⟩ := h
    refine ⟨_, (pss_cons (ps_set (i := 2) sc_body.nd rfl (.inl rfl) pe_str)
    (pss_cons (ps_for PassesOwn.never rfl (pi_str (pv 1)) (pg_name (i := 3) sc_body.nd rfl (.inl rfl))
    (pss_cons (ps_set (i := 2) sc_body.nd rfl (.inl rfl) (pe_op op_add_str (pv 2) (pv 3)))
    (pss_one (ps_set (i := 2) sc_body.nd rfl (.inl rfl) (pe_op op_add_str (pv 2) (pe_c c_put_behind hr (by decide) rfl (pa_cons (pv 0) (pa_cons (pv 2) pa_nil))))))))
    (pss_one (ps_ret (pv 2))))), ?_⟩
    obtain ⟨g, g0, g1, g2⟩ := body_steps hO m
    refine ⟨_, rfl, W m, rfl, for_it walk_str (fun i σ H2 => ∃ v3 : Option V, σ = [some (.ref a), some (.str (W m)), some (.str (W (g i))), v3] ∧ Same H H2) ⟨none, by rw [g0, ← W_nil]; rfl, Same.refl _⟩ (fun _ _ _ _ _ => trivial) ?_ ?_⟩
    · rintro i x σ H2 H3 hi ⟨v3, rfl, s2⟩ ⟨rfl, c, hc, rfl⟩
      obtain ⟨bb, hbb, rfl⟩ := W_get hc
      have hi' := (List.getElem?_eq_some_iff.mp hbb).1
      obtain ⟨x, hx, hx19, eg⟩ := g1 i bb hbb
      have hl := (g2 i (Nat.le_of_lt hi')).2
      have e1 : (W (g i)).length = (g i).length := W_len _
      have e2 : (⟨#[bt bb]⟩ : Str).length = 1 := W_len [bb]
      have ew : W (g i) ++ (⟨#[bt bb]⟩ : Str) = W (g i ++ [bb]) := W_cat (g i) [bb]
      refine ⟨_, rfl, _, rfl, _, _, rfl, rfl, by rw [e1, e2]; exact sl_len (by omega), ?_⟩
      rw [ew]
      have e3 : (W (g i ++ [bb])).length = (g i ++ [bb]).length := W_len _
      have l3 : (g i ++ [bb]).length = (g i).length + 1 := by rw [List.length_append]; rfl
      refine ⟨_, rfl, _, rfl, _, rfl, a, fl, ss, g i ++ [bb], x, rfl, hR.same s2, by omega, by omega, hx, fun H4 s4 => ⟨_, _, rfl, rfl, by rw [e3, W_len]; exact sl_len (by omega), ?_⟩⟩
      rw [W_cat, ← eg]
      exact ⟨_, rfl, s2.trans s4⟩
    · rintro σ H2 ⟨v3, rfl, s2⟩
      have g3 := g2 m.length (Nat.le_refl _)
      rw [List.take_length] at g3
      refine ⟨_, rfl, ?_⟩
      rw [W_size]
      exact k _ H2 g3.1 g3.2 s2
end
end U

set_option maxRecDepth 100000
namespace U
/-! the message whose body a line is -/
def takL (ss : List Stf) : List Bool → List Bool → List Bool → Option (List Bool)
  | p, [], m => if putM ss p = none then some m else none
  | p, b :: r, m => match putM ss p with
    | none => takL ss (p ++ [b]) r (m ++ [b])
    | some c => if c = b then takL ss (p ++ [b]) r m else none
def takM (ss : List Stf) (l : List Bool) : Option (List Bool) := takL ss [] l []
/-- m is read so far behind l -/
inductive Part (ss : List Stf) : List Bool → List Bool → Prop
  | nil : Part ss [] []
  | own {m l : List Bool} {b : Bool} : Part ss m l → putM ss l = none → Part ss (m ++ [b]) (l ++ [b])
  | put {m l : List Bool} {b : Bool} : Part ss m l → putM ss l = some b → Part ss m (l ++ [b])
theorem Part.ins {ss : List Stf} {l x : List Bool} (h : Ins ss l x) : ∀ {m : List Bool}, Part ss m l → Part ss m (l ++ x) := by
  induction h with
  | stop _ => intro m p; rw [List.append_nil]; exact p
  | @more l x b hb _ ih =>
    intro m p
    have := ih (p.put hb)
    rw [List.append_assoc] at this
    exact this
theorem Body.end {ss : List Stf} (h0 : putM ss [] = none) {m l : List Bool} (h : Body ss m l) : putM ss l = none := by
  cases h with
  | nil => exact h0
  | snoc _ i => exact i.end
theorem Body.part {ss : List Stf} (h0 : putM ss [] = none) {m l : List Bool} (h : Body ss m l) : Part ss m l := by
  induction h with
  | nil => exact .nil
  | snoc hb i ih => exact Part.ins i (ih.own (hb.end h0))
theorem Part.pre {ss : List Stf} {m l : List Bool} (h : Part ss m l) : (m = [] ∧ l = []) ∨ (putM ss [] ≠ none) ∨ ∃ m' b l' y, m = m' ++ [b] ∧ l = l' ++ [b] ++ y ∧ Body ss m' l' ∧ ∀ x, Ins ss l x → Ins ss (l' ++ [b]) (y ++ x) := by
  induction h with
  | nil => exact .inl ⟨rfl, rfl⟩
  | @own m l b hp hn ih =>
    refine .inr (.inr ?_)
    rcases ih with ⟨rfl, rfl⟩ | h | ⟨m', b', l', y, rfl, rfl, hb, hx⟩
    · exact ⟨[], b, [], [], rfl, rfl, .nil, fun x hx => hx⟩
    · exact absurd hn (by
        intro z
        exact h (by
          cases hm : putM ss [] with
          | none => rfl
          | some c =>
            exfalso
            have : putM ss l = some c ∨ True := .inr trivial
            -- a pattern that is empty ends each line
            unfold putM at hm z
            rw [Option.map_eq_some_iff] at hm
            obtain ⟨s, hs, _⟩ := hm
            rw [Option.map_eq_none_iff, List.find?_eq_none] at z
            have h1 := List.find?_some hs
            have h2 := z s (List.mem_of_find?_eq_some hs)
            rw [List.isSuffixOf_iff_suffix] at h1
            have e : s.1 = [] := List.suffix_nil.mp h1
            rw [e] at h2
            exact h2 (List.isSuffixOf_iff_suffix.mpr List.nil_suffix)))
    · have hend := hx [] (.stop hn)
      rw [List.append_nil] at hend
      exact ⟨m' ++ [b'], b, l' ++ [b'] ++ y, [], rfl, by simp, .snoc hb hend, fun x hx => hx⟩
  | @put m l b hp hs ih =>
    rcases ih with ⟨rfl, rfl⟩ | h | ⟨m', b', l', y, rfl, rfl, hb, hx⟩
    · exact .inr (.inl (by rw [hs]; exact nofun))
    · exact .inr (.inl h)
    · refine .inr (.inr ⟨m', b', l', y ++ [b], rfl, by simp, hb, fun x hi => ?_⟩)
      have := hx (b :: x) (.more hs hi)
      rw [List.append_assoc]
      exact this
theorem Part.body {ss : List Stf} (h0 : putM ss [] = none) {m l : List Bool} (h : Part ss m l) (he : putM ss l = none) : Body ss m l := by
  rcases h.pre with ⟨rfl, rfl⟩ | h | ⟨m', b', l', y, rfl, rfl, hb, hx⟩
  · exact .nil
  · exact absurd h0 h
  · have := hx [] (.stop he)
    rw [List.append_nil] at this
    exact .snoc hb this
theorem takL_some {ss : List Stf} : ∀ {r p m x : List Bool}, Part ss m p → takL ss p r m = some x → Part ss x (p ++ r) ∧ putM ss (p ++ r) = none
  | [], p, m, x, hp, h => by
    unfold takL at h
    split at h
    · rename_i e
      cases h
      rw [List.append_nil]
      exact ⟨hp, e⟩
    · cases h
  | b :: r, p, m, x, hp, h => by
    unfold takL at h
    split at h
    · rename_i e
      have := takL_some (hp.own e) h
      rw [List.append_assoc] at this
      exact this
    · rename_i c e
      split at h
      · rename_i ec
        subst ec
        have := takL_some (hp.put e) h
        rw [List.append_assoc] at this
        exact this
      · cases h
theorem Part.det {ss : List Stf} {m l : List Bool} (h : Part ss m l) : ∀ {m'}, Part ss m' l → m = m' := by
  induction h with
  | nil =>
    intro m' h'
    generalize e : ([] : List Bool) = l at h'
    cases h' with
    | nil => rfl
    | own _ _ => have := congrArg List.length e; simp at this
    | put _ _ => have := congrArg List.length e; simp at this
  | @own m l b hp hn ih =>
    intro m' h'
    generalize e : l ++ [b] = l2 at h'
    cases h' with
    | nil => have := congrArg List.length e; simp at this
    | own h1 h2 =>
      obtain ⟨rfl, e2⟩ := List.append_inj' e rfl
      cases (List.cons.inj e2).1
      rw [ih h1]
    | put h1 h2 =>
      obtain ⟨rfl, e2⟩ := List.append_inj' e rfl
      rw [hn] at h2; cases h2
  | @put m l b hp hn ih =>
    intro m' h'
    generalize e : l ++ [b] = l2 at h'
    cases h' with
    | nil => have := congrArg List.length e; simp at this
    | own h1 h2 =>
      obtain ⟨rfl, e2⟩ := List.append_inj' e rfl
      rw [hn] at h2; cases h2
    | put h1 h2 =>
      obtain ⟨rfl, e2⟩ := List.append_inj' e rfl
      exact ih h1
theorem Part.front {ss : List Stf} {x l : List Bool} (h : Part ss x l) : ∀ {q r : List Bool}, l = q ++ r → ∃ y, Part ss y q := by
  induction h with
  | nil =>
    intro q r e
    have : q = [] := (List.append_eq_nil_iff.mp e.symm).1
    rw [this]
    exact ⟨[], .nil⟩
  | @own m l b hp hn ih =>
    intro q r e
    rcases List.eq_nil_or_concat r with z | ⟨r', c, z⟩
    · rw [z, List.append_nil] at e
      rw [← e]
      exact ⟨_, hp.own hn⟩
    · rw [z, List.concat_eq_append, ← List.append_assoc] at e
      exact ih (List.append_inj' e rfl).1
  | @put m l b hp hn ih =>
    intro q r e
    rcases List.eq_nil_or_concat r with z | ⟨r', c, z⟩
    · rw [z, List.append_nil] at e
      rw [← e]
      exact ⟨_, hp.put hn⟩
    · rw [z, List.concat_eq_append, ← List.append_assoc] at e
      exact ih (List.append_inj' e rfl).1
theorem takL_of {ss : List Stf} : ∀ {r p m x : List Bool}, Part ss m p → Part ss x (p ++ r) → putM ss (p ++ r) = none → takL ss p r m = some x
  | [], p, m, x, hp, hx, he => by
    rw [List.append_nil] at hx he
    unfold takL
    rw [if_pos he, hp.det hx]
  | b :: r, p, m, x, hp, hx, he => by
    have e1 : p ++ b :: r = p ++ [b] ++ r := by simp
    rw [e1] at hx he
    unfold takL
    cases e : putM ss p with
    | none => exact takL_of (hp.own e) hx he
    | some c =>
      dsimp only
      have hb : c = b := by
        obtain ⟨y, hy⟩ := hx.front rfl
        generalize eq : p ++ [b] = l2 at hy
        cases hy with
        | nil => have := congrArg List.length eq; simp at this
        | own h1 h2 =>
          obtain ⟨rfl, e2⟩ := List.append_inj' eq rfl
          rw [e] at h2; cases h2
        | put h1 h2 =>
          obtain ⟨rfl, e2⟩ := List.append_inj' eq rfl
          cases (List.cons.inj e2).1
          rw [e] at h2
          exact Option.some.inj h2
      subst hb
      rw [if_pos rfl]
      exact takL_of (hp.put e) hx he
theorem takM_iff {ss : List Stf} (h0 : putM ss [] = none) {l m : List Bool} : takM ss l = some m ↔ Body ss m l := by
  constructor
  · intro h
    have := takL_some .nil h
    rw [List.nil_append] at this
    exact this.1.body h0 this.2
  · intro h
    exact takL_of .nil (by rw [List.nil_append]; exact h.part h0) (by rw [List.nil_append]; exact h.end h0)
theorem put_nil {ss : List Stf} (h : ∀ s ∈ ss, s.1 ≠ []) : putM ss [] = none := by
  unfold putM
  rw [Option.map_eq_none_iff, List.find?_eq_none]
  intro s hs z
  exact h s hs (List.suffix_nil.mp (List.isSuffixOf_iff_suffix.mp z))
theorem takM_congr {ss ts : List Stf} (h : ∀ l, putM ss l = putM ts l) (l : List Bool) : takM ss l = takM ts l := by
  unfold takM
  generalize ([] : List Bool) = p
  suffices ∀ (l p m : List Bool), takL ss p l m = takL ts p l m from this l p _
  intro l
  induction l with
  | nil => intro p m; unfold takL; rw [h]
  | cons b r ih => intro p m; unfold takL; rw [h]; simp only [ih]
/-- a message's body begins with the body of each of its beginnings -/
theorem Body.cut {ss : List Stf} {m l : List Bool} (h : Body ss m l) : ∀ i, i ≤ m.length → ∃ l', Body ss (m.take i) l' ∧ l' <+: l ∧ (i < m.length → ∃ r, l = l' ++ [m.getD i false] ++ r) := by
  induction h with
  | nil => intro i hi; exact ⟨[], by rw [List.take_nil]; exact .nil, List.nil_prefix, fun z => absurd z (by simp)⟩
  | @snoc m l x b hb hi ih =>
    intro i hil
    rw [List.length_append] at hil
    simp only [List.length_cons, List.length_nil] at hil
    rcases Nat.lt_or_ge i (m.length + 1) with c | c
    · have c' : i ≤ m.length := by omega
      obtain ⟨l', h1, h2, h3⟩ := ih i c'
      refine ⟨l', by rw [List.take_append_of_le_length c']; exact h1, h2.trans ⟨[b] ++ x, by simp⟩, fun _ => ?_⟩
      rcases Nat.lt_or_ge i m.length with d | d
      · obtain ⟨r, hr⟩ := h3 d
        refine ⟨r ++ [b] ++ x, ?_⟩
        have e : (m ++ [b]).getD i false = m.getD i false := by simp [List.getD, List.getElem?_append_left d]
        rw [e, hr]
        simp
      · have ei : i = m.length := by omega
        subst ei
        rw [List.take_length] at h1
        have e : (m ++ [b]).getD m.length false = b := by simp [List.getD]
        rw [e]
        have el : l' = l := by
          have : ∀ {m l l' : List Bool}, Body ss m l → Body ss m l' → l = l' := by
            intro m l l' h
            induction h generalizing l' with
            | nil =>
              intro h'
              generalize e : ([] : List Bool) = m at h'
              cases h' with
              | nil => rfl
              | snoc _ _ => have := congrArg List.length e; simp at this
            | @snoc m l x b hb hi ih =>
              intro h'
              generalize e : m ++ [b] = m' at h'
              cases h' with
              | nil => have := congrArg List.length e; simp at this
              | @snoc m2 l2 x2 b2 hb2 hi2 =>
                obtain ⟨rfl, e2⟩ := List.append_inj' e rfl
                cases (List.cons.inj e2).1
                have el := ih hb2
                subst el
                rw [hi.det hi2]
          exact this h1 hb
        exact ⟨x, by rw [el]⟩
    · have ei : i = m.length + 1 := by omega
      subst ei
      refine ⟨l ++ [b] ++ x, ?_, List.prefix_refl _, fun z => absurd z (by simp)⟩
      rw [List.take_of_length_le (by simp)]
      exact .snoc hb hi
theorem Body.le {ss : List Stf} {m l : List Bool} (h : Body ss m l) : m.length ≤ l.length := by
  induction h with
  | nil => exact Nat.le_refl _
  | snoc _ _ ih =>
    simp only [List.length_append, List.length_cons, List.length_nil]
    omega
end U

set_option maxRecDepth 100000
set_option maxHeartbeats 4000000
namespace U
open PySem PySem.Spec PyProof.Rows
open L2 hiding Fun CX0 E0 pass0 Fun.binds
open C8 Lx SX StX
def spTaken (C : Addr) : Sp := fun vs H Q _ => ∃ (a : Addr) (f : List Bool) (ss : List Stf) (l : List Bool), vs = [.ref a, .str (W l)] ∧ RuAt C H a f ss ∧ l.length ≤ 50000 ∧ ∀ H', Same H H' → Q (oW (takM ss l)) H'
theorem takL_nil (ss : List Stf) (p m : List Bool) : takL ss p [] m = if putM ss p = none then some m else none := rfl
theorem takL_cons (ss : List Stf) (p r m : List Bool) (b : Bool) : takL ss p (b :: r) m = match putM ss p with
    | none => takL ss (p ++ [b]) r (m ++ [b])
    | some c => if c = b then takL ss (p ++ [b]) r m else none := rfl
theorem scal_oW (a b : Option (List Bool)) : scal (oW a) (oW b) = true := by cases a <;> cases b <;> rfl
theorem scal_oBs (a : Option Bool) (z : Str) : scal (oB a) (.str z) = true := by cases a <;> rfl
theorem same_mut {H H1 : Hp} {p : Addr} {o : HO} (s : Same H H1) (n : H p = none) : Same H (upd H1 p o) := fun c u e => by
  rw [upd_ne (ne_of_none e n)]
  exact s _ _ e
theorem oW_non (o : Option (List Bool)) : decide (oW o = .non) = o.isNone := by
  cases o with
  | none => rfl
  | some x => exact decide_eq_false nofun
/-- repr of a word or None -/
def reprW : Option (List Bool) → Str
  | none => "None"
  | some x => reprText (W x)
theorem reprW_len {x : List Bool} (h : x.length ≤ 100000) : (reprText (W x)).length ≤ sizeLine := by
  have := StrLaws.reprText_len (W x) (fun c hc => by
    rw [W_tl] at hc
    obtain ⟨b, _, rfl⟩ := List.mem_map.mp hc
    cases b <;> decide)
  rw [W_len] at this
  exact Nat.le_trans this (Nat.le_trans (Nat.add_le_add_right (Nat.mul_le_mul_left 10 h) 2) (by decide))
theorem call_repr_oW {X : Cx} : CallR X (.builtin "repr") (fun xs H Q => ∃ o, xs = [oW o] ∧ (∀ x, o = some x → x.length ≤ 100000) ∧ Q (.str (reprW o)) H) := by
  intro pins s σ H xs us Q I r h
  obtain ⟨o, rfl, hl, q⟩ := h
  obtain ⟨u, rfl, ru⟩ := vals1 r
  cases o with
  | none =>
    obtain rfl : u = Value.none := ru
    exact PySem.P.repr_of_none ⟨.str _, H, I.tok _, ⟨_, rfl⟩, q⟩
  | some b =>
    obtain ⟨t, rfl⟩ := ru
    exact PySem.P.repr_of_str ⟨.str _, H, I.tok _, ⟨_, rfl⟩, q⟩ (reprW_len (hl _ rfl))
section
variable {P : Program} {w : World} {K : PySem.W.Frag} {mg : Str → Option Value} {base : Heap}
theorem sc_taken_out : FnScope ["rule", "line", "message", "at", "bit", "due"] ["rule", "line"] (fnScope s_taken_out) := fnScope_by (by decide +kernel)
theorem cal_taken_out {f C : Addr} {fd : FuncData} (F : Def K mg "taken_out" s_taken_out f fd) (b : Binds K fd ["rule", "line"] []) (T : Tx mg) (c_put : Met P w K mg base 1 C "put" (spPut C) []) : Cal P w K mg base 3 "taken_out" (spTaken C) [] := by
  refine cal0 F b .nil sc_taken_out (fun vs H Q E h => ?_) (fun cdv A outer s H vs Q E hr h => ?_)
  · obtain ⟨_, _, _, _, rfl, _⟩ := h; rfl
  · obtain ⟨a, fl, ss, l, rfl, hR, hl, k⟩ := h
    refine ⟨_, (pss_cons (ps_set (i := 2) sc_taken_out.nd rfl (.inl rfl) (pe_lst pa_nil))
    (pss_cons (ps_for PassesOwn.never rfl (pi_enumS (by rfl) T.b_enumerate (pa_cons (pv 1) pa_nil)) (pg_tup rfl (pgs_cons (pg_name (i := 3) sc_taken_out.nd rfl (.inl rfl)) (pgs_cons (pg_name (i := 4) sc_taken_out.nd rfl (.inl rfl)) pgs_nil)))
    (pss_cons (ps_set (i := 5) sc_taken_out.nd rfl (.inl rfl) (pe_mt (pl := _) c_put hr (by decide) (pv 0) (pa_cons (pe_slice sl_txt (pv 1) po_none (po_some (pv 3))) pa_nil)))
    (pss_one (ps_if (pt_cmpR op_isN (pv 5) pe_non (nomark _)) (pss_one (ps_expr (pe_bm PySem.F.plainAttrs_list PySem.F.slot_list_append PySem.F.type_list_append mt_append (pv 2) (pa_cons (pv 4) pa_nil)))) (pss_one (ps_if (pt_cmpR op_ne (pv 5) (pv 4) (nomark _)) (pss_one (ps_ret pe_non)) pss_nil))))))
    (pss_one (ps_ret (pe_ifExp (pt_cmpR op_isN (pe_mt (pl := _) c_put hr (by decide) (pv 0) (pa_cons (pv 1) pa_nil)) pe_non (nomark _)) (pe_join pe_str (pv 2)) pe_non))))), ?_⟩
    have hat : ∀ {H2 : Hp}, Same H H2 → ∃ dx t, H2 a = some (.ins C dx (ruF fl t)) := fun s2 => by
      obtain ⟨dx, t, _, _, ha, _⟩ := hR.same s2
      exact ⟨dx, t, ha⟩
    have lw : (W l).length ≤ sizeLine := by rw [W_len]; exact sl_len (by omega)
    refine ⟨Nat.zero_le _, fun D nD => ?_⟩
    refine ⟨_, rfl, W l, rfl, for_it walk_enumS (fun i σ H2 => ∃ (v3 v4 v5 : Option V) (m : List Bool), σ = [some (.ref a), some (.str (W l)), some (.ref D), v3, v4, v5] ∧ Same H H2 ∧ H2 D = some (.lst (bitsV m)) ∧ m.length ≤ i ∧ takM ss l = takL ss (l.take i) (l.drop i) m)
      ⟨_, _, _, [], rfl, same_upd nD, upd_same, Nat.le_refl _, rfl⟩ (fun _ _ _ _ _ => trivial) ?_ ?_⟩
    · rintro i x σ H2 H3 hi ⟨v3, v4, v5, m, rfl, s2, hD, hm, ht⟩ ⟨T', c, rfl, nT, rfl, hc⟩
      obtain ⟨bb, hbb, rfl⟩ := W_get hc
      have hi' := (List.getElem?_eq_some_iff.mp hbb).1
      have sT := same_upd (o := .tup [.int (i : Nat), .str ⟨#[bt bb]⟩]) nT
      refine ⟨T', _, rfl, SqT.of upd_same, rfl, _, _, rfl, _, _, rfl, rfl, ?_⟩
      have s3 := s2.trans sT
      have hD3 := sT _ _ hD
      generalize upd H2 T' (.tup [.int (i : Nat), .str ⟨#[bt bb]⟩]) = H3 at s3 hD3
      obtain ⟨dx, t, ha⟩ := hat s3
      refine ⟨_, rfl, a, dx, _, rfl, ha, ruF_no _ _ (by decide +kernel) (by decide +kernel), _, rfl, _, rfl, _, rfl, _, rfl, lw, ?_⟩
      rw [W_take (Int.natCast_nonneg _), Int.toNat_natCast]
      refine ⟨a, fl, ss, l.take i, rfl, hR.same s3, fun H4 s4 => ?_⟩
      have s4' := s3.trans s4
      have hD4 := s4 _ _ hD3
      have ed : l.drop i = bb :: l.drop (i + 1) := by
        rw [List.drop_eq_getElem_cons hi']
        rw [List.getElem?_eq_getElem hi'] at hbb
        rw [Option.some.inj hbb]
      have et : l.take (i + 1) = l.take i ++ [bb] := by rw [List.take_add_one, hbb]; rfl
      rw [ed, takL_cons] at ht
      refine ⟨_, rfl, rfl, _, rfl, ?_⟩
      rw [oB_non]
      cases e : putM ss (l.take i) with
      | none =>
        rw [e] at ht
        refine ⟨_, rfl, .inl ⟨rfl, _, SqL.of hD4⟩, _, rfl, D, _, _, rfl, rfl, hD4, by rw [bitsV_len]; exact sl_lt (by omega), ?_⟩
        refine ⟨_, _, _, m ++ [bb], rfl, same_mut s4' nD, ?_, by rw [List.length_append]; show _ + 1 ≤ _; omega, ?_⟩
        · rw [upd_same]
          exact congrArg (fun z => some (HO.lst z)) (bitsV_snoc m bb)
        · rw [et]; exact ht
      | some c =>
        rw [e] at ht
        dsimp only at ht
        refine ⟨_, rfl, _, rfl, rfl, _, rfl, ?_⟩
        by_cases ec : c = bb
        · subst ec
          rw [if_pos rfl] at ht
          refine iteNS rfl ?_
          refine ⟨_, _, _, m, rfl, s4', hD4, by omega, ?_⟩
          rw [et]; exact ht
        · rw [if_neg ec] at ht
          refine iteNT (fun z => ec ?_) ?_
          · have := W_inj (V.str.inj (show V.str (W [c]) = V.str (W [bb]) from z))
            exact (List.cons.inj this).1
          · have := k H4 s4'
            rw [ht] at this
            exact this
    · rintro σ H2 ⟨v3, v4, v5, m, rfl, s2, hD, hm, ht⟩
      rw [W_size] at hm ht
      rw [List.take_length, List.drop_length, takL_nil] at ht
      obtain ⟨dx, t, ha⟩ := hat s2
      refine ⟨_, rfl, a, dx, _, rfl, ha, ruF_no _ _ (by decide +kernel) (by decide +kernel), _, rfl, a, fl, ss, l, rfl, hR.same s2, fun H3 s3 => ⟨rfl, _, rfl, ?_⟩⟩
      rw [oB_non]
      have kk := k H3 (s2.trans s3)
      cases e : putM ss l with
      | none =>
        rw [e, if_pos rfl] at ht
        rw [ht] at kk
        refine iteT ⟨⟨_, rfl⟩, _, rfl, _, D, _, rfl, rfl, .inl (SqL.of (s3 _ _ hD)), ?_, ?_⟩
        · rw [lens_bits, empty_len]; omega
        · show Q (.str (Txt.join "" (m.map fun b => W [b]))) H3
          rw [join_bits]
          exact kk
      | some c =>
        rw [e, if_neg nofun] at ht
        rw [ht] at kk
        exact kk
end
end U

set_option maxRecDepth 100000
set_option maxHeartbeats 4000000
set_option pp.maxSteps 400
namespace U
open PySem PySem.Spec PyProof.Rows
open L2 hiding Fun CX0 E0 pass0 Fun.binds
open C8 Lx SX StX
/-! lines cut at the flag -/
theorem sub_W (l : List Bool) (i j : Nat) : Builtin.Str.strSub (W l) i j = W ((l.drop i).take (j - i)) := by
  refine TL.ext_tl ?_
  show (Builtin.Str.strSub (W l) i j).cps.toList = _
  rw [StrLaws.strSub_toList, W_tl]
  show _ = ((l.drop i).take (j - i)).map bt
  rw [List.map_take, List.map_drop]
theorem part_W (l f : List Bool) : Txt.partition (W l) (W f) = match posM l f with
    | none => (W l, ("" : Str), ("" : Str))
    | some i => (W (l.take i), W f, W (l.drop (i + f.length))) := by
  have e0 : Str.empty = ("" : Str) := by decide +kernel
  rcases partition_whole (W l) (W f) with ⟨e, h⟩ | ⟨i, e, h1, h2⟩
  · have hp : posM l f = none := posM_none.mpr fun i hi z => h i (at_W.mpr ⟨hi, z⟩)
    rw [hp, e, e0]
  · obtain ⟨h3, h4⟩ := at_W.mp h1
    have hp : posM l f = some i := posM_some.mpr ⟨h3, h4, fun k hk z => h2 k hk (at_W.mpr ⟨by omega, z⟩)⟩
    have e2 : (l.drop (i + f.length)).take (l.length - (i + f.length)) = l.drop (i + f.length) := List.take_of_length_le (by rw [List.length_drop]; omega)
    rw [hp, e, sub_W, sub_W, W_len, W_len, e2, List.drop_zero, Nat.sub_zero]
/-- what is read of a part: the reason and the data -/
def rdM (ss : List Stf) (p s : List Bool) (part : List Bool) : Str × Option (List Bool) := match takM ss part with
  | none => ("put", none)
  | some m => if goodM p s m then ("good", some (m.take (m.length - s.length))) else ("check", none)
def rcM (f : List Bool) (ss : List Stf) (p s : List Bool) (raw : List Bool) : Str × Option (List Bool) := match posM raw f with
  | none => ("open", none)
  | some i => rdM ss p s (raw.take i)
theorem takL_le {ss : List Stf} : ∀ {r p m x : List Bool}, takL ss p r m = some x → x.length ≤ m.length + r.length
  | [], p, m, x, h => by
    unfold takL at h
    split at h
    · rw [← Option.some.inj h]; exact Nat.le_refl _
    · cases h
  | b :: r, p, m, x, h => by
    unfold takL at h
    split at h
    · have := takL_le h
      rw [List.length_append] at this
      simp only [List.length_cons, List.length_nil] at this ⊢
      omega
    · split at h
      · have := takL_le h
        rw [List.length_cons]
        omega
      · cases h
theorem takM_le {ss : List Stf} {l m : List Bool} (h : takM ss l = some m) : m.length ≤ l.length := by
  have := takL_le h
  simpa using this
/-- what is sent by a clean rule is received -/
theorem rc_send {f p s d l : List Bool} {ss : List Stf} (h0 : ∀ s ∈ ss, s.1 ≠ []) (hl : s.length + 1 = p.length) (hB : Body ss (d ++ bitsM p s d) l) (hc : ¬ SpL f l) : rcM f ss p s (l ++ f) = (("good" : Str), some d) := by
  have hp := posM_sp.mpr hc
  have ht := (takM_iff (put_nil h0)).mpr hB
  unfold rcM
  rw [hp]
  show rdM ss p s ((l ++ f).take l.length) = _
  rw [List.take_left]
  unfold rdM
  rw [ht]
  show (if goodM p s (d ++ bitsM p s d) = true then _ else _) = _
  rw [if_pos (goodM_bits hl d), List.length_append, bitsM_len hl, Nat.add_sub_cancel, List.take_left]
/-- the flag is no beginning of a body: some pattern stands in it with the other bit behind -/
theorem needs {f : List Bool} {ss : List Stf} (o : OkN 39 ss) (h0 : putM ss [] = none) (hs : SufFree ss) (hf : f ≠ []) (hc : ∀ m, ¬ SpL f (bodyF ss m)) : ∃ s ∈ ss, infx (s.1 ++ [!s.2]) f = true := by
  refine Classical.byContradiction fun hn => ?_
  have key : ∀ k, k ≤ f.length → ∃ m x, Ins ss (f.take k) x ∧ bodyF ss m = f.take k ++ x := by
    intro k
    induction k with
    | zero => exact fun _ => ⟨[], [], by rw [List.take_zero]; exact .stop h0, rfl⟩
    | succ k ih =>
      intro hk
      obtain ⟨m, x, hx, hb⟩ := ih (by omega)
      have hkl : k < f.length := by omega
      have et : f.take (k + 1) = f.take k ++ [f[k]] := by rw [List.take_add_one, List.getElem?_eq_getElem hkl]; rfl
      cases hx with
      | stop hp =>
        rw [List.append_nil] at hb
        obtain ⟨y, hy, ly, eb⟩ := ins40 o m f[k]
        rw [hb, ← et] at hy eb
        exact ⟨m ++ [f[k]], y, hy, eb⟩
      | @more _ x b hp hx =>
        obtain ⟨q, hq, hqs⟩ := (put_iff hs).mp hp
        have e : f[k] = b := by
          cases e : (f[k] == b) with
          | true => exact eq_of_beq e
          | false =>
            refine absurd ⟨(q, b), hq, ?_⟩ hn
            have ne : f[k] = !b := by
              have : f[k] ≠ b := fun z => by rw [z] at e; simp at e
              revert this
              cases f[k] <;> cases b <;> simp
            obtain ⟨r, hr⟩ := hqs
            refine infx_iff.mpr ⟨r.length, ?_, ?_⟩
            · have := congrArg List.length hr
              rw [List.length_append, List.length_take] at this
              omega
            · have ef : f = r ++ (q ++ [!b] ++ f.drop (k + 1)) := by
                rw [← ne]
                conv => lhs; rw [← List.take_append_drop (k + 1) f, et, ← hr]
                simp
              rw [ef, List.drop_left]
              exact List.prefix_append _ _
        refine ⟨m, x, ?_, ?_⟩
        · rw [et, e]; exact hx
        · rw [hb, et, e, List.append_assoc]; rfl
  obtain ⟨m, x, hx, hb⟩ := key f.length (Nat.le_refl _)
  rw [List.take_length] at hb
  refine hc m ⟨0, ?_, ?_⟩
  · rw [hb, List.length_append]
    have := List.length_pos_iff.mpr hf
    omega
  · rw [hb, List.drop_zero, List.append_assoc]
    exact List.prefix_append _ _
/-- the parts that end with a flag, and the rest -/
def cutF (f : List Bool) : Nat → List Bool → List (List Bool) × List Bool
  | 0, r => ([], r)
  | n + 1, r => match posM r f with
    | none => ([], r)
    | some i => (r.take i :: (cutF f n (r.drop (i + f.length))).1, (cutF f n (r.drop (i + f.length))).2)
def frM (f : List Bool) (ss : List Stf) (p s raw : List Bool) : List (Str × Option (List Bool)) := ((cutF f raw.length raw).1.filter (· ≠ [])).map (rdM ss p s)
theorem posM_lt {r f : List Bool} {i : Nat} (hf : f ≠ []) (h : posM r f = some i) : i + f.length ≤ r.length ∧ 0 < f.length := by
  obtain ⟨h1, h2, _⟩ := posM_some.mp h
  have := h2.length_le
  rw [List.length_drop] at this
  have h0 : 0 < f.length := List.length_pos_iff.mpr hf
  exact ⟨by omega, h0⟩
end U

set_option maxRecDepth 100000
set_option maxHeartbeats 4000000
set_option pp.maxSteps 400
namespace U
open PySem PySem.Spec PyProof.Rows
open L2 hiding Fun CX0 E0 pass0 Fun.binds
open C8 Lx SX StX
theorem empty_W (l : List Bool) : decide (V.str (W l) = V.str "") = decide (l = []) := by
  rw [decide_eq_decide]
  exact ⟨fun z => by rw [W_nil] at z; exact W_inj (V.str.inj z), fun z => by rw [z, W_nil]⟩
def spSend (C CK : Addr) : Sp := fun vs H Q _ => ∃ (a c : Addr) (f : List Bool) (ss : List Stf) (p s d : List Bool), vs = [.ref a, .ref c, .str (W d)] ∧ RuAt C H a f ss ∧ CkAt CK H c p s ∧ p.length ≤ 100 ∧ s.length + 1 = p.length ∧ d.length ≤ 800 ∧ f.length ≤ 1000 ∧ OkN 39 ss ∧
  ∀ l H', Body ss (d ++ bitsM p s d) l → l.length ≤ 40 * (d.length + s.length) → Same H H' → Q (.str (W (l ++ f))) H'
def spReadP (C CK : Addr) : Sp := fun vs H Q _ => ∃ (a c : Addr) (f : List Bool) (ss : List Stf) (p s l : List Bool), vs = [.ref a, .ref c, .str (W l)] ∧ RuAt C H a f ss ∧ CkAt CK H c p s ∧ p.length ≤ 1000 ∧ s.length + 1 = p.length ∧ l.length ≤ 10000 ∧
  ∀ t H', H t = none → Same H H' → H' t = some (.tup [.str (rdM ss p s l).1, oW (rdM ss p s l).2]) → Q (.ref t) H'
def spReceive (C CK : Addr) : Sp := fun vs H Q _ => ∃ (a c : Addr) (f : List Bool) (ss : List Stf) (p s l : List Bool), vs = [.ref a, .ref c, .str (W l)] ∧ RuAt C H a f ss ∧ CkAt CK H c p s ∧ p.length ≤ 1000 ∧ s.length + 1 = p.length ∧ l.length ≤ 50000 ∧ f ≠ [] ∧ (∀ i, posM l f = some i → i ≤ 10000) ∧
  ∀ t H', H t = none → Same H H' → H' t = some (.tup [.str (rcM f ss p s l).1, oW (rcM f ss p s l).2]) → Q (.ref t) H'
section
variable {P : Program} {w : World} {K : PySem.W.Frag} {mg : Str → Option Value} {base : Heap}
theorem sc_send : FnScope ["rule", "check", "data"] ["rule", "check", "data"] (fnScope s_send) := fnScope_by (by decide +kernel)
theorem cal_send {f C CK : Addr} {fd : FuncData} (F : Def K mg "send" s_send f fd) (b : Binds K fd ["rule", "check", "data"] []) (T : Tx mg) (RT : RuT K C) (c_body : Cal P w K mg base 4 "body" (spBody C) []) (c_bits_for : Met P w K mg base 3 CK "bits_for" (spBitsFor CK) []) : Cal P w K mg base 5 "send" (spSend C CK) [] := by
  refine cal0 F b .nil sc_send (fun vs H Q E h => ?_) (fun cdv A outer s H vs Q E hr h => ?_)
  · obtain ⟨_, _, _, _, _, _, _, rfl, _⟩ := h; rfl
  · obtain ⟨a, c, fl, ss, p, st, d, rfl, hR, hC, lp, ls, ld, lf, hO, k⟩ := h
    refine ⟨_, (pss_one (ps_ret (pe_op op_add_str (pe_c c_body hr (by decide) rfl (pa_cons (pv 0) (pa_cons (pe_op op_add_str (pv 2) (pe_mt (pl := _) c_bits_for hr (by decide) (pv 1) (pa_cons (pv 2) pa_nil))) pa_nil))) (pe_fld (pv 0) rfl)))), ?_⟩
    obtain ⟨dx, hc⟩ := id hC
    have lb := bitsM_len ls d
    refine ⟨_, rfl, _, rfl, _, rfl, c, dx, _, rfl, hc, ckF_no _ _ (by decide +kernel) (by decide +kernel), _, rfl, c, p, st, d, rfl, hC, by omega, by omega, ls, fun H1 s1 => ?_⟩
    refine ⟨_, _, rfl, rfl, by rw [W_len, W_len]; exact sl_len (by omega), ?_⟩
    rw [W_cat]
    have le : (d ++ bitsM p st d).length = d.length + st.length := by rw [List.length_append, lb]
    refine ⟨a, fl, ss, _, rfl, hR.same s1, by omega, hO, fun l H2 hB hl s2 => ?_⟩
    rw [le] at hl
    have s12 := s1.trans s2
    obtain ⟨da, ta, _, _, ha, _⟩ := hR.same s12
    refine ⟨_, rfl, a, C, da, _, _, rfl, ha, RT.cl, RT.nF, ruF_flag _ _, _, _, rfl, rfl, by rw [W_len, W_len]; exact sl_len (by omega), ?_⟩
    rw [W_cat]
    exact k l H2 hB hl s12
theorem sc_read_part : FnScope ["rule", "check", "part", "message"] ["rule", "check", "part"] (fnScope s_read_part) := fnScope_by (by decide +kernel)
theorem cal_read_part {f C CK : Addr} {fd : FuncData} (F : Def K mg "read_part" s_read_part f fd) (b : Binds K fd ["rule", "check", "part"] []) (T : Tx mg) (c_taken_out : Cal P w K mg base 3 "taken_out" (spTaken C) []) (c_is_good : Met P w K mg base 3 CK "is_good" (spIsGood CK) []) (p_degree : Prp P w K mg base 1 CK "degree" (spDegree CK)) : Cal P w K mg base 4 "read_part" (spReadP C CK) [] := by
  refine cal0 F b .nil sc_read_part (fun vs H Q E h => ?_) (fun cdv A outer s H vs Q E hr h => ?_)
  · obtain ⟨_, _, _, _, _, _, _, rfl, _⟩ := h; rfl
  · obtain ⟨a, c, fl, ss, p, st, l, rfl, hR, hC, lp, ls, ll, k⟩ := h
    refine ⟨_, (pss_cons (ps_set (i := 3) sc_read_part.nd rfl (.inl rfl) (pe_c c_taken_out hr (by decide) rfl (pa_cons (pv 0) (pa_cons (pv 2) pa_nil))))
    (pss_cons (ps_if (pt_cmpR op_isN (pv 3) pe_non (nomark _)) (pss_one (ps_ret (pe_tup (pa_cons pe_str (pa_cons pe_non pa_nil))))) pss_nil)
    (pss_cons (ps_if (pt_not (pt_val (pe_mt (pl := _) c_is_good hr (by decide) (pv 1) (pa_cons (pv 3) pa_nil)))) (pss_one (ps_ret (pe_tup (pa_cons pe_str (pa_cons pe_non pa_nil))))) pss_nil)
    (pss_one (ps_ret (pe_tup (pa_cons pe_str (pa_cons (pe_slice sl_txt (pv 3) po_none (po_some (pe_op op_sub (pe_callB call_len_str (by rfl) T.b_len (by decide +kernel) (pa_cons (pv 3) pa_nil)) (pe_pr p_degree hr (by decide) (pv 1))))) pa_nil)))))))), ?_⟩
    refine ⟨_, rfl, _, rfl, a, fl, ss, l, rfl, hR, by omega, fun H1 s1 => ?_⟩
    refine ⟨_, rfl, rfl, _, rfl, ?_⟩
    rw [oW_non]
    unfold rdM at k
    cases e : takM ss l with
    | none =>
      rw [e] at k
      exact iteT ⟨by show 2 ≤ sizeLine; decide, fun t nt => k t _ (s1.free nt) (s1.trans (same_upd nt)) upd_same⟩
    | some m =>
      rw [e] at k
      have lm := takM_le e
      have hC1 := hC.same s1
      obtain ⟨dx, hc⟩ := id hC1
      refine iteF ?_
      refine ⟨_, rfl, c, dx, _, rfl, hc, ckF_no _ _ (by decide +kernel) (by decide +kernel), _, rfl, c, p, st, m, rfl, hC1, lp, by omega, ls, fun H2 s2 => ⟨_, rfl, ?_⟩⟩
      have s12 := s1.trans s2
      dsimp only at k
      cases eg : goodM p st m with
      | false =>
        rw [eg] at k
        exact iteT ⟨by show 2 ≤ sizeLine; decide, fun t nt => k t _ (s12.free nt) (s12.trans (same_upd nt)) upd_same⟩
      | true =>
        rw [eg] at k
        have hC2 := hC.same s12
        obtain ⟨dx, hc⟩ := id hC2
        have g := ((goodM_iff ls).mp eg).1
        have lw : (W m).length ≤ sizeLine := by rw [W_len]; exact sl_len (by omega)
        refine iteF ?_
        refine ⟨_, rfl, _, rfl, _, rfl, lw, _, rfl, c, dx, _, rfl, hc, c, p, st, rfl, hC2, lp, ls, _, _, rfl, rfl, _, rfl, _, rfl, lw, ?_⟩
        rw [W_take (by rw [W_len]; omega), W_len, show (((m.length : Nat) : Int) - ((st.length : Nat) : Int)).toNat = m.length - st.length by omega]
        refine ⟨by show 2 ≤ sizeLine; decide, fun t nt => k t _ (s12.free nt) (s12.trans (same_upd nt)) upd_same⟩
theorem sc_receive : FnScope ["rule", "check", "raw", "part", "flag", "rest"] ["rule", "check", "raw"] (fnScope s_receive) := fnScope_by (by decide +kernel)
theorem cal_receive {f C CK : Addr} {fd : FuncData} (F : Def K mg "receive" s_receive f fd) (b : Binds K fd ["rule", "check", "raw"] []) (T : Tx mg) (RT : RuT K C) (c_read_part : Cal P w K mg base 4 "read_part" (spReadP C CK) []) : Cal P w K mg base 5 "receive" (spReceive C CK) [] := by
  refine cal0 F b .nil sc_receive (fun vs H Q E h => ?_) (fun cdv A outer s H vs Q E hr h => ?_)
  · obtain ⟨_, _, _, _, _, _, _, rfl, _⟩ := h; rfl
  · obtain ⟨a, c, fl, ss, p, st, l, rfl, hR, hC, lp, ls, ll, hf, hi, k⟩ := h
    refine ⟨_, (pss_cons (ps_asg (pe_partition (pv 2) (pe_fld (pv 0) rfl)) (pg_tup rfl (pgs_cons (pg_name (i := 3) sc_receive.nd rfl (.inl rfl)) (pgs_cons (pg_name (i := 4) sc_receive.nd rfl (.inl rfl)) (pgs_cons (pg_name (i := 5) sc_receive.nd rfl (.inl rfl)) pgs_nil)))))
    (pss_one (ps_ret (pe_ifExp (pt_cmpR op_eq (pv 4) pe_str (nomark _)) (pe_tup (pa_cons pe_str (pa_cons pe_non pa_nil))) (pe_c c_read_part hr (by decide) rfl (pa_cons (pv 0) (pa_cons (pv 1) (pa_cons (pv 3) pa_nil)))))))), ?_⟩
    obtain ⟨da, ta, _, _, ha, _⟩ := id hR
    have nz : ((W fl).length == 0) = false := by
      rw [W_len]
      have := List.length_pos_iff.mpr hf
      exact beq_false_of_ne (by omega)
    refine ⟨_, rfl, ⟨_, rfl⟩, _, rfl, a, C, da, _, _, rfl, ha, RT.cl, RT.nF, ruF_flag _ _, _, _, rfl, rfl, nz, by rw [W_len]; exact sl_len (by omega), fun t nt => ?_⟩
    have s1 : Same H _ := same_upd (o := .tup [.str (Txt.partition (W l) (W fl)).1, .str (Txt.partition (W l) (W fl)).2.1, .str (Txt.partition (W l) (W fl)).2.2]) nt
    refine ⟨t, _, rfl, SqT.of upd_same, rfl, _, _, rfl, _, _, rfl, _, _, rfl, rfl, ?_⟩
    generalize upd H t _ = H1 at s1
    rw [part_W]
    unfold rcM at k
    cases e : posM l fl with
    | none =>
      rw [e] at k
      refine ⟨_, rfl, rfl, _, rfl, iteDT rfl ⟨by show 2 ≤ sizeLine; decide, fun t nt => k t _ (s1.free nt) (s1.trans (same_upd nt)) upd_same⟩⟩
    | some i =>
      rw [e] at k
      dsimp only at k ⊢
      refine ⟨_, rfl, rfl, _, rfl, ?_⟩
      rw [empty_W]
      refine iteDF hf ?_
      have li := hi i e
      refine ⟨_, rfl, _, rfl, _, rfl, a, c, fl, ss, p, st, l.take i, rfl, hR.same s1, hC.same s1, lp, ls, by rw [List.length_take]; omega, fun t2 H2 nt2 s2 h2 => ?_⟩
      exact k t2 H2 (s1.free nt2) (s1.trans s2) h2
end
end U

set_option maxRecDepth 100000
set_option maxHeartbeats 4000000
set_option pp.maxSteps 400
namespace U
open PySem PySem.Spec PyProof.Rows
open L2 hiding Fun CX0 E0 pass0 Fun.binds
open C8 Lx SX StX
abbrev Rd2 := Str × Option (List Bool)
/-- pairs of a reason and data -/
def FrT (H : Hp) (kb : Addr → Rd2) (ps : List Addr) : Prop := ∀ t ∈ ps, H t = some (.tup [.str (kb t).1, oW (kb t).2])
theorem FrT.same {H H' : Hp} {kb : Addr → Rd2} {ps : List Addr} (h : FrT H kb ps) (e : Same H H') : FrT H' kb ps := fun t ht => e _ _ (h t ht)
def FrL (H : Hp) (q : Addr) (rs : List Rd2) : Prop := ∃ (ps : List Addr) (kb : Addr → Rd2), H q = some (.lst (ps.map V.ref)) ∧ FrT H kb ps ∧ rs = ps.map kb
def FrU (H : Hp) (q : Addr) (rs : List Rd2) : Prop := ∃ (ps : List Addr) (kb : Addr → Rd2), H q = some (.tup (ps.map V.ref)) ∧ FrT H kb ps ∧ rs = ps.map kb
theorem FrL.same {H H' : Hp} {q : Addr} {rs : List Rd2} (h : FrL H q rs) (s : Same H H') : FrL H' q rs := by
  obtain ⟨ps, kb, h1, h2, h3⟩ := h
  exact ⟨ps, kb, s _ _ h1, h2.same s, h3⟩
theorem FrU.same {H H' : Hp} {q : Addr} {rs : List Rd2} (h : FrU H q rs) (s : Same H H') : FrU H' q rs := by
  obtain ⟨ps, kb, h1, h2, h3⟩ := h
  exact ⟨ps, kb, s _ _ h1, h2.same s, h3⟩
theorem fr_push {H : Hp} {q z : Addr} {p : Rd2} {ps : List Addr} {kb : Addr → Rd2} (hq : H q = some (.lst (ps.map V.ref))) (hT : FrT H kb ps) (hz : H z = some (.tup [.str p.1, oW p.2])) (hn : z ∉ ps) :
    FrL (upd H q (.lst (ps.map V.ref ++ [.ref z]))) q (ps.map kb ++ [p]) := by
  refine ⟨ps ++ [z], fun y => if y = z then p else kb y, by rw [upd_same, List.map_append]; rfl, fun y hy => ?_, ?_⟩
  · dsimp only
    rcases List.mem_append.mp hy with h1 | h1
    · have ne : y ≠ z := fun e => hn (by rw [← e]; exact h1)
      rw [if_neg ne, upd_ne (ne_of (hT y h1) hq (by intro z; cases z))]
      exact hT y h1
    · rw [List.mem_singleton.mp h1, if_pos rfl, upd_ne (ne_of hz hq (by intro z; cases z))]
      exact hz
  · rw [List.map_append]
    congr 1
    · exact List.map_congr_left fun y hy => (if_neg fun e => hn (by rw [← e]; exact hy)).symm
    · show [p] = [if z = z then p else kb z]
      rw [if_pos rfl]
def spCutUp (C CK : Addr) : Sp := fun vs H Q _ => ∃ (a c : Addr) (f : List Bool) (ss : List Stf) (p s l : List Bool), vs = [.ref a, .ref c, .str (W l)] ∧ RuAt C H a f ss ∧ CkAt CK H c p s ∧ p.length ≤ 1000 ∧ s.length + 1 = p.length ∧ l.length ≤ 10000 ∧ f ≠ [] ∧
  ∀ t q H', H t = none → Same H H' → H' t = some (.tup [.ref q, .str (W (cutF f l.length l).2)]) → FrU H' q (frM f ss p s l) → Q (.ref t) H'
def spFrames (C CK : Addr) : Sp := fun vs H Q _ => ∃ (a c : Addr) (f : List Bool) (ss : List Stf) (p s l : List Bool), vs = [.ref a, .ref c, .str (W l)] ∧ RuAt C H a f ss ∧ CkAt CK H c p s ∧ p.length ≤ 1000 ∧ s.length + 1 = p.length ∧ l.length ≤ 10000 ∧ f ≠ [] ∧
  ∀ q H', Same H H' → FrU H' q (frM f ss p s l) → Q (.ref q) H'
theorem cutF_none {f r : List Bool} (h : posM r f = none) : ∀ n, cutF f n r = ([], r)
  | 0 => rfl
  | n + 1 => by unfold cutF; rw [h]
theorem cutF_some {f r : List Bool} {i : Nat} (h : posM r f = some i) (n : Nat) : cutF f (n + 1) r = (r.take i :: (cutF f n (r.drop (i + f.length))).1, (cutF f n (r.drop (i + f.length))).2) := by
  conv => lhs; unfold cutF
  rw [h]
section
variable {P : Program} {w : World} {K : PySem.W.Frag} {mg : Str → Option Value} {base : Heap}
theorem sc_cut_up : FnScope ["rule", "check", "raw", "found", "part", "flag", "rest"] ["rule", "check", "raw"] (fnScope s_cut_up) := fnScope_by (by decide +kernel)
theorem cal_cut_up {f C CK : Addr} {fd : FuncData} (F : Def K mg "cut_up" s_cut_up f fd) (b : Binds K fd ["rule", "check", "raw"] []) (T : Tx mg) (RT : RuT K C) (c_read_part : Cal P w K mg base 4 "read_part" (spReadP C CK) []) : Cal P w K mg base 5 "cut_up" (spCutUp C CK) [] := by
  refine cal0 F b .nil sc_cut_up (fun vs H Q E h => ?_) (fun cdv A outer s H vs Q E hr h => ?_)
  · obtain ⟨_, _, _, _, _, _, _, rfl, _⟩ := h; rfl
  · obtain ⟨a, c, fl, ss, p, st, l, rfl, hR, hC, lp, ls, ll, hf, k⟩ := h
    refine ⟨_, (pss_cons (ps_set (i := 3) sc_cut_up.nd rfl (.inl rfl) (pe_lst pa_nil))
    (pss_cons (ps_asg (pe_partition (pv 2) (pe_fld (pv 0) rfl)) (pg_tup rfl (pgs_cons (pg_name (i := 4) sc_cut_up.nd rfl (.inl rfl)) (pgs_cons (pg_name (i := 5) sc_cut_up.nd rfl (.inl rfl)) (pgs_cons (pg_name (i := 6) sc_cut_up.nd rfl (.inl rfl)) pgs_nil)))))
    (pss_cons (ps_while PassesOwn.never (pt_cmpR op_ne (pv 5) pe_str (nomark _))
    (pss_cut (ps_if (pt_cmpR op_ne (pv 4) pe_str (nomark _)) (pss_one (ps_expr (pe_bm PySem.F.plainAttrs_list PySem.F.slot_list_append PySem.F.type_list_append mt_append (pv 3) (pa_cons (pe_c c_read_part hr (by decide) rfl (pa_cons (pv 0) (pa_cons (pv 1) (pa_cons (pv 4) pa_nil)))) pa_nil)))) pss_nil)
    (pss_one (ps_asg (pe_partition (pv 6) (pe_fld (pv 0) rfl)) (pg_tup rfl (pgs_cons (pg_name (i := 4) sc_cut_up.nd rfl (.inl rfl)) (pgs_cons (pg_name (i := 5) sc_cut_up.nd rfl (.inl rfl)) (pgs_cons (pg_name (i := 6) sc_cut_up.nd rfl (.inl rfl)) pgs_nil))))))))
    (pss_one (ps_ret (pe_tup (pa_cons (pe_callTy call_tuple_of (by rfl) T.b_tuple (by decide +kernel) (pa_cons (pv 3) pa_nil)) (pa_cons (pv 4) pa_nil)))))))), ?_⟩
    refine ⟨Nat.zero_le _, fun F0 nF => ?_⟩
    have sF := same_upd (o := .lst []) nF
    have hF0 : FrL (upd H F0 (.lst [])) F0 [] := ⟨[], fun _ => ("", none), upd_same, (fun _ h => nomatch h), rfl⟩
    generalize upd H F0 (.lst []) = H1 at sF hF0
    have nz : ((W fl).length == 0) = false := by
      rw [W_len]
      have := List.length_pos_iff.mpr hf
      exact beq_false_of_ne (by omega)
    obtain ⟨da, ta, _, _, ha, _⟩ := hR.same sF
    refine ⟨_, rfl, ⟨_, rfl⟩, _, rfl, a, C, da, _, _, rfl, ha, RT.cl, RT.nF, ruF_flag _ _, _, _, rfl, rfl, nz, by rw [W_len]; exact sl_len (by omega), fun t nt => ?_⟩
    have s2 : Same H1 _ := same_upd (o := .tup [.str (Txt.partition (W l) (W fl)).1, .str (Txt.partition (W l) (W fl)).2.1, .str (Txt.partition (W l) (W fl)).2.2]) nt
    refine ⟨t, _, rfl, SqT.of upd_same, rfl, _, _, rfl, _, _, rfl, _, _, rfl, rfl, ?_⟩
    have hF2 := hF0.same s2
    have sS := sF.trans s2
    generalize upd H1 t _ = H2 at s2 hF2 sS
    refine ⟨fun n σ H3 => ∃ (r : List Bool) (ds : List (List Bool)), σ = [some (.ref a), some (.ref c), some (.str (W l)), some (.ref F0), some (.str (Txt.partition (W r) (W fl)).1), some (.str (Txt.partition (W r) (W fl)).2.1), some (.str (Txt.partition (W r) (W fl)).2.2)] ∧ Same H H3 ∧ r.length ≤ n ∧ n ≤ l.length ∧ ds.length + n ≤ l.length ∧ cutF fl l.length l = (ds ++ (cutF fl n r).1, (cutF fl n r).2) ∧ FrL H3 F0 ((ds.filter (· ≠ [])).map (rdM ss p st)),
      ⟨l.length, l, [], rfl, sS, Nat.le_refl _, Nat.le_refl _, by simp, rfl, hF2⟩, ?_⟩
    rintro n σ H3 ⟨r, ds, rfl, s3, lr, ln, lds, hcut, hF3⟩
    refine ⟨_, rfl, rfl, _, rfl, ?_⟩
    rw [part_W]
    cases e : posM r fl with
    | none =>
      refine iteBF (by rw [decide_eq_true rfl]; rfl) ?_
      obtain ⟨ps, kb, hq, hT, hrs⟩ := hF3
      rw [cutF_none e] at hcut
      refine ⟨_, rfl, F0, _, rfl, .inl ⟨SqL.of hq, fun u nu => ?_⟩⟩
      have su := same_upd (o := .tup (ps.map V.ref)) nu
      refine ⟨_, rfl, by show 2 ≤ sizeLine; decide, fun v nv => ?_⟩
      have sv := same_upd (o := .tup [.ref u, .str (W r)]) nv
      refine k v u _ ((s3.trans su).free nv) ((s3.trans su).trans sv) ?_ ?_
      · rw [upd_same, hcut]
      · refine ⟨ps, kb, sv _ _ upd_same, (hT.same su).same sv, ?_⟩
        unfold frM
        rw [hcut]
        show ((ds ++ []).filter _).map _ = _
        rw [List.append_nil]
        exact hrs
    | some i =>
      obtain ⟨hi, h0⟩ := posM_lt hf e
      obtain ⟨n', rfl⟩ : ∃ n', n = n' + 1 := ⟨n - 1, by omega⟩
      rw [cutF_some e] at hcut
      dsimp only
      refine iteBT (by rw [empty_W, decide_eq_false hf]; rfl) ?_
      refine ⟨fun σ' H' => ∃ m', m' < n' + 1 ∧ ∃ (r : List Bool) (ds : List (List Bool)), σ' = [some (.ref a), some (.ref c), some (.str (W l)), some (.ref F0), some (.str (Txt.partition (W r) (W fl)).1), some (.str (Txt.partition (W r) (W fl)).2.1), some (.str (Txt.partition (W r) (W fl)).2.2)] ∧ Same H H' ∧ r.length ≤ m' ∧ m' ≤ l.length ∧ ds.length + m' ≤ l.length ∧ cutF fl l.length l = (ds ++ (cutF fl m' r).1, (cutF fl m' r).2) ∧ FrL H' F0 ((ds.filter (· ≠ [])).map (rdM ss p st)), fun _ _ h => h, ?_⟩
      refine ⟨fun σ' H' => σ' = [some (.ref a), some (.ref c), some (.str (W l)), some (.ref F0), some (.str (W (r.take i))), some (.str (W fl)), some (.str (W (r.drop (i + fl.length))))] ∧ Same H H' ∧ FrL H' F0 (((ds ++ [r.take i]).filter (· ≠ [])).map (rdM ss p st)), ?_, ?_⟩
      · refine ⟨_, rfl, rfl, _, rfl, ?_⟩
        rw [empty_W]
        by_cases e0 : r.take i = []
        · refine iteBF (by rw [decide_eq_true e0]; rfl) ?_
          refine ⟨rfl, s3, ?_⟩
          rw [List.filter_append, List.filter_cons_of_neg (by rw [e0]; decide), List.filter_nil, List.append_nil]
          exact hF3
        · refine iteBT (by rw [decide_eq_false e0]; rfl) ?_
          obtain ⟨ps, kb, hq, hT, hrs⟩ := hF3
          refine ⟨_, rfl, .inl ⟨rfl, _, SqL.of hq⟩, _, rfl, _, rfl, _, rfl, a, c, fl, ss, p, st, r.take i, rfl, hR.same s3, hC.same s3, lp, ls, by rw [List.length_take]; omega, fun z H4 nz4 s4 hz => ?_⟩
          have hq4 := s4 _ _ hq
          have lps : ps.length ≤ ds.length := by
            have := congrArg List.length hrs
            rw [List.length_map, List.length_map] at this
            have := List.length_filter_le (fun x : List Bool => decide (x ≠ [])) ds
            omega
          refine ⟨F0, _, _, rfl, rfl, hq4, by rw [List.length_map]; exact sl_lt (by omega), ?_⟩
          refine ⟨rfl, same_mut' (s3.trans s4) nF, ?_⟩
          have := fr_push (p := rdM ss p st (r.take i)) hq4 (hT.same s4) hz (fun hm => by rw [hT z hm] at nz4; cases nz4)
          rw [List.filter_append, List.filter_cons_of_pos (by simpa using e0), List.filter_nil, List.map_append, hrs]
          exact this
      · rintro σ' H4 ⟨rfl, s4, hF4⟩
        obtain ⟨da, ta, _, _, ha, _⟩ := hR.same s4
        refine ⟨_, rfl, ⟨_, rfl⟩, _, rfl, a, C, da, _, _, rfl, ha, RT.cl, RT.nF, ruF_flag _ _, _, _, rfl, rfl, nz, by rw [W_len, List.length_drop]; exact sl_len (by omega), fun t nt => ?_⟩
        have s5 : Same H4 _ := same_upd (o := .tup [.str (Txt.partition (W (r.drop (i + fl.length))) (W fl)).1, .str (Txt.partition (W (r.drop (i + fl.length))) (W fl)).2.1, .str (Txt.partition (W (r.drop (i + fl.length))) (W fl)).2.2]) nt
        refine ⟨t, _, rfl, SqT.of upd_same, rfl, _, _, rfl, _, _, rfl, _, _, rfl, rfl, ?_⟩
        refine ⟨n', by omega, r.drop (i + fl.length), ds ++ [r.take i], rfl, s4.trans s5, by rw [List.length_drop]; omega, by omega, by rw [List.length_append]; show _ + 1 + _ ≤ _; omega, ?_, hF4.same s5⟩
        rw [hcut, List.append_assoc]
        rfl
theorem sc_frames : FnScope ["rule", "check", "raw"] ["rule", "check", "raw"] (fnScope s_frames) := fnScope_by (by decide +kernel)
theorem cal_frames {f C CK : Addr} {fd : FuncData} (F : Def K mg "frames" s_frames f fd) (b : Binds K fd ["rule", "check", "raw"] []) (T : Tx mg) (c_cut_up : Cal P w K mg base 5 "cut_up" (spCutUp C CK) []) : Cal P w K mg base 6 "frames" (spFrames C CK) [] := by
  refine cal0 F b .nil sc_frames (fun vs H Q E h => ?_) (fun cdv A outer s H vs Q E hr h => ?_)
  · obtain ⟨_, _, _, _, _, _, _, rfl, _⟩ := h; rfl
  · obtain ⟨a, c, fl, ss, p, st, l, rfl, hR, hC, lp, ls, ll, hf, k⟩ := h
    refine ⟨_, (pss_one (ps_ret (pe_ix ix_tup (pe_c c_cut_up hr (by decide) rfl (pa_cons (pv 0) (pa_cons (pv 1) (pa_cons (pv 2) pa_nil)))) pe_int (fun _ _ => rfl)))), ?_⟩
    refine ⟨_, rfl, _, rfl, _, rfl, a, c, fl, ss, p, st, l, rfl, hR, hC, lp, ls, ll, hf, fun t q H1 nt s1 ht hq => ?_⟩
    exact ⟨t, _, _, _, rfl, rfl, SqT.of ht, atI_nat (j := 0) rfl, k q H1 s1 hq⟩
end
end U


set_option maxRecDepth 100000
set_option maxHeartbeats 4000000
namespace U
open PySem PySem.Spec PyProof.Rows
open L2 hiding Fun CX0 E0 pass0 Fun.binds
open C8 Lx SX StX
/-- a rule as the law tells it -/
def Told (H : Hp) (t : Addr) (f : List Bool) (ss : List Stf) : Prop := ∃ l ps kb, H t = some (.tup [.str (W f), .ref l]) ∧ H l = some (.lst (ps.map V.ref)) ∧ StV H kb ps ∧ ss = ps.map kb
theorem Told.same {H H' : Hp} {t : Addr} {f : List Bool} {ss : List Stf} (h : Told H t f ss) (e : Same H H') : Told H' t f ss := by
  obtain ⟨l, ps, kb, h1, h2, h3, h4⟩ := h
  exact ⟨l, ps, kb, e _ _ h1, e _ _ h2, h3.same e, h4⟩
theorem refs_ne {ps : List Addr} {i j : Int} : ps.map V.ref ≠ [.int i, .int j] := fun z => by
  cases ps with
  | nil => cases z
  | cons p r => cases (List.cons.inj z).1
theorem Box.neL {H : Hp} {b l : Addr} {ps : List Addr} (hb : Box H b) (h : H l = some (.lst (ps.map V.ref))) : l ≠ b := fun z => by
  obtain ⟨i, j, hb⟩ := hb
  rw [z, hb] at h
  exact refs_ne (HO.lst.inj (Option.some.inj h)).symm
theorem Told.up {b : Addr} {H H' : Hp} {t : Addr} {f : List Bool} {ss : List Stf} (hb : Box H b) (h : Told H t f ss) (e : Up b H H') : Told H' t f ss := by
  obtain ⟨l, ps, kb, h1, h2, h3, h4⟩ := h
  exact ⟨l, ps, kb, e.1 _ _ h1 (hb.neT h1), e.1 _ _ h2 (hb.neL h2), fun t ht => e.1 _ _ (h3 t ht) (hb.neT (h3 t ht)), h4⟩
theorem RuAt.up {C b : Addr} {H H' : Hp} {a : Addr} {f : List Bool} {ss : List Stf} (hb : Box H b) (h : RuAt C H a f ss) (e : Up b H H') : RuAt C H' a f ss := h.nl (e.nl hb)
def putL (ss : List Stf) (l : List Bool) : List Bool := match putM ss l with
  | none => []
  | some b => [b]
theorem putL_len (ss : List Stf) (l : List Bool) : (putL ss l).length ≤ 1 := by unfold putL; cases putM ss l <;> simp
theorem stP_eq (ss : List Stf) (l : List Bool) : stP ss l = l ++ putL ss l := by
  unfold stP putL
  cases putM ss l with
  | none => rw [List.append_nil]
  | some b => rfl
theorem putL_head {ss : List Stf} {l : List Bool} : putM ss l = ((ss.filter fun s => s.1.isSuffixOf l).map (·.2)).head? := by
  unfold putM
  rw [List.head?_map, List.head?_filter]
def dS (x : List Bool) : PyData := .str (W x)
theorem dp_strs {K : PySem.W.Frag} {H : Hp} : ∀ xs : List (List Bool), DpAll K H (xs.map fun x => V.str (W x)) (xs.map dS)
  | [] => .nil
  | x :: r => .cons (.str _) (dp_strs r)
theorem strOk_W (x : List Bool) : PyData.strOk (W x) = true := by
  unfold PyData.strOk
  simp only [W, S, List.all_toArray, List.all_map, List.all_eq_true]
  intro b _
  cases b <;> decide +kernel
/-- data that can be compared -/
def DOk (n : Nat) (d : PyData) : Prop := PyData.canLay0 d = true ∧ PyData.depth d ≤ n
theorem dok_str (x : List Bool) : DOk 0 (.str (W x)) := ⟨strOk_W x, Nat.le_refl _⟩
theorem dok_all {n : Nat} : ∀ {ds : List PyData}, (∀ d ∈ ds, DOk n d) → PyData.canLayAll0 ds = true ∧ PyData.depthAll ds ≤ n
  | [], _ => ⟨rfl, Nat.zero_le _⟩
  | d :: r, h => by
    have h1 := h d List.mem_cons_self
    have h2 := dok_all (ds := r) fun d hd => h d (List.mem_cons_of_mem _ hd)
    refine ⟨?_, ?_⟩
    · show (PyData.canLay0 d && PyData.canLayAll0 r) = true
      rw [h1.1, h2.1]; rfl
    · show max (PyData.depth d) (PyData.depthAll r) ≤ n
      have := h1.2; have := h2.2; omega
theorem dok_list {n : Nat} {ds : List PyData} (h : ∀ d ∈ ds, DOk n d) : DOk (n + 1) (.list ds) := ⟨(dok_all h).1, Nat.succ_le_succ (dok_all h).2⟩
theorem dok_tup {n : Nat} {ds : List PyData} (h : ∀ d ∈ ds, DOk n d) : DOk (n + 1) (.tuple ds) := ⟨(dok_all h).1, Nat.succ_le_succ (dok_all h).2⟩
theorem DOk.shaped {n : Nat} {d : PyData} (h : DOk n d) (hn : n ≤ 64) : SeqAt.shaped d = true := by
  unfold SeqAt.shaped
  rw [h.1, decide_eq_true (Nat.le_trans h.2 hn)]
  rfl
theorem shaped_strs (xs : List (List Bool)) : SeqAt.shaped (.list (xs.map dS)) = true := (dok_list (n := 0) fun d hd => by
  obtain ⟨x, _, rfl⟩ := List.mem_map.mp hd
  exact dok_str x).shaped (by decide)
theorem shaped_nil : SeqAt.shaped (.list []) = true := by decide +kernel
theorem eqv_nil (ds : List PyData) : PyData.eqv (.list ds) (.list []) = ds.isEmpty := by cases ds <;> rfl
end U

set_option maxRecDepth 100000
set_option maxHeartbeats 4000000
namespace U
open PySem PySem.Spec PyProof.Rows
open L2 hiding Fun CX0 E0 pass0 Fun.binds
open C8 Lx SX StX
/-- stuffs as a list of the law -/
def Stl (H : Hp) (r : Addr) (ss : List Stf) : Prop := ∃ ps kb, H r = some (.lst (ps.map V.ref)) ∧ StV H kb ps ∧ ss = ps.map kb
theorem Stl.same {H H' : Hp} {r : Addr} {ss : List Stf} (h : Stl H r ss) (e : Same H H') : Stl H' r ss := by
  obtain ⟨ps, kb, h1, h2, h3⟩ := h
  exact ⟨ps, kb, e _ _ h1, h2.same e, h3⟩
theorem Stl.up {b : Addr} {H H' : Hp} {r : Addr} {ss : List Stf} (hb : Box H b) (h : Stl H r ss) (e : Up b H H') : Stl H' r ss := by
  obtain ⟨ps, kb, h2, h3, h4⟩ := h
  exact ⟨ps, kb, e.1 _ _ h2 (hb.neL h2), fun t ht => e.1 _ _ (h3 t ht) (hb.neT (h3 t ht)), h4⟩
def spEnds : Sp := fun vs H Q _ => ∃ l p : List Bool, vs = [.str (W l), .str (W p)] ∧ l.length ≤ 50000 ∧ p.length ≤ 50000 ∧ Q (.bl (p.isSuffixOf l)) H
def spDue : Sp := fun vs H Q _ => ∃ (r : Addr) (l : List Bool) (ss : List Stf), vs = [.ref r, .str (W l)] ∧ Stl H r ss ∧ l.length ≤ 50000 ∧ ss.length ≤ 1000 ∧ (∀ s ∈ ss, s.1.length ≤ 1000) ∧ ∀ H', Same H H' → Q (oB (putM ss l)) H'
def spChain : Sp := fun vs H Q _ => ∃ (r : Addr) (l : List Bool) (ss : List Stf), vs = [.ref r, .str (W l)] ∧ Stl H r ss ∧ l.length ≤ 40000 ∧ ss.length ≤ 1000 ∧ (∀ s ∈ ss, s.1.length ≤ 1000) ∧
  ∀ o H', Same H H' → (∀ x, o = some x → Ins ss l x ∧ x.length ≤ 39) → (∀ x, Ins ss l x → x.length ≤ 39 → o = some x) → Q (oW o) H'
theorem W_dropN {l : List Bool} {n : Nat} (h : n ≤ l.length) : Txt.slice (W l) (some (((W l).length : Nat) - (n : Nat) : Int)) none = W (tl n l) := by
  rw [W_len, W_drop (by omega)]
  unfold tl
  congr 2
  omega
section
variable {P : Program} {w : World} {K : PySem.W.Frag} {mg : Str → Option Value} {base : Heap}
theorem sc_l_ends : FnScope ["_law_line", "_law_pattern"] ["_law_line", "_law_pattern"] (fnScope s_l_ends) := fnScope_by (by decide +kernel)
theorem cal_l_ends {f : Addr} {fd : FuncData} (F : Def K mg "_law_ends" s_l_ends f fd) (b : Binds K fd ["_law_line", "_law_pattern"] []) (T : Tx mg) : Cal P w K mg base 1 "_law_ends" spEnds [] := by
  refine cal0 F b .nil sc_l_ends (fun vs H Q E h => ?_) (fun cdv A outer s H vs Q E hr h => ?_)
  · obtain ⟨_, _, rfl, _⟩ := h; rfl
  · obtain ⟨l, p, rfl, hl, hp, k⟩ := h
    refine ⟨_, (pss_one (ps_ret (pe_and (pe_cmpR op_ge (pe_callB call_len_str (by rfl) T.b_len (by decide +kernel) (pa_cons (pv 0) pa_nil)) (pe_callB call_len_str (by rfl) T.b_len (by decide +kernel) (pa_cons (pv 1) pa_nil)) (nomark _)) (pe_one (pe_cmpR op_eq (pe_slice sl_txt (pv 0) (po_some (pe_op op_sub (pe_callB call_len_str (by rfl) T.b_len (by decide +kernel) (pa_cons (pv 0) pa_nil)) (pe_callB call_len_str (by rfl) T.b_len (by decide +kernel) (pa_cons (pv 1) pa_nil)))) po_none) (pv 1) (nomark _)))))), ?_⟩
    have el : (W l).length = l.length := W_len _
    have ep : (W p).length = p.length := W_len _
    have lw : (W l).length ≤ sizeLine := by rw [el]; exact sl_len (by omega)
    have lp : (W p).length ≤ sizeLine := by rw [ep]; exact sl_len (by omega)
    refine ⟨_, rfl, _, rfl, lw, _, rfl, _, rfl, lp, _, _, rfl, rfl, _, rfl, ?_⟩
    by_cases c : p.length ≤ l.length
    · refine iteDT (by rw [el, ep]; omega) ?_
      refine ⟨_, rfl, _, rfl, _, rfl, lw, _, rfl, _, rfl, lp, _, _, rfl, rfl, _, rfl, _, rfl, lw, _, rfl, rfl, ?_⟩
      have e : Txt.slice (W l) (some (((W l).length : Nat) - ((W p).length : Nat) : Int)) none = W (tl p.length l) := by rw [ep]; exact W_dropN c
      show Q (.bl (decide (V.str (Txt.slice (W l) (some (((W l).length : Nat) - ((W p).length : Nat) : Int)) none) = V.str (W p)))) H
      rw [e]
      cases c2 : p.isSuffixOf l with
      | true =>
        rw [c2] at k
        exact q_dec (Q := Q) (by rw [← suf_iff.mp c2]) k
      | false =>
        rw [c2] at k
        refine q_ndec (Q := Q) (fun z => ?_) k
        have := suf_iff.mpr (W_inj (V.str.inj z)).symm
        rw [c2] at this
        cases this
    · have c2 : p.isSuffixOf l = false := by
        cases e : p.isSuffixOf l with
        | false => rfl
        | true => exact absurd (List.isSuffixOf_iff_suffix.mp e).length_le c
      rw [c2] at k
      have e : decide (((W p).length : Int) ≤ ((W l).length : Int)) = false := decide_eq_false (by rw [el, ep]; omega)
      rw [e]
      exact k
theorem sc_l_due : FnScope ["_law_stuffs", "_law_line", "_law_found", "_law_pattern", "_law_bit"] ["_law_stuffs", "_law_line"] (fnScope s_l_due) := fnScope_by (by decide +kernel)
theorem cal_l_due {f : Addr} {fd : FuncData} (F : Def K mg "_law_due" s_l_due f fd) (b : Binds K fd ["_law_stuffs", "_law_line"] []) (T : Tx mg) (c_l_ends : Cal P w K mg base 1 "_law_ends" spEnds []) : Cal P w K mg base 2 "_law_due" spDue [] := by
  refine cal0 F b .nil sc_l_due (fun vs H Q E h => ?_) (fun cdv A outer s H vs Q E hr h => ?_)
  · obtain ⟨_, _, _, rfl, _⟩ := h; rfl
  · obtain ⟨r, l, ss, rfl, ⟨ps, kb, hl, hs, rfl⟩, h1, h2, h3, k⟩ := h
    refine ⟨_, (pss_cons (ps_setLc (i := 2) (own := [("_law_pattern", 3), ("_law_bit", 4)]) (g := gTup K 2 (gCons (gName 3) (gCons (gName 4) gNil))) (by rfl) sc_l_due.nd rfl rfl (sw_true rfl rfl rfl (by decide +kernel)) (pi_list (pv 0)) (blkOk_by (own := [("_law_pattern", 3), ("_law_bit", 4)]) (N := ["_law_stuffs", "_law_line", "_law_found", "_law_pattern", "_law_bit"]) (sc := fnScope s_l_due) (by decide +kernel)) (fun _ _ _ _ _ => (pg_tup rfl (pgs_cons (pg_name (i := 3) sc_l_due.nd rfl (.inl rfl)) (pgs_cons (pg_name (i := 4) sc_l_due.nd rfl (.inl rfl)) pgs_nil)))) (fun _ _ _ _ _ => (pts_one (pt_val (pe_c c_l_ends hr (by decide) rfl (pa_cons (pv 1) (pa_cons (pv 3) pa_nil)))))) (fun _ _ _ _ _ => (pv 4)))
    (pss_one (ps_ret (pe_ifExp (pt_cmpR (op_neD hr.units) (pv 2) (pe_lst pa_nil) (nomark _)) (pe_ix ix_list (pv 2) pe_int (fun _ _ => rfl)) pe_non)))), ?_⟩
    refine ⟨_, rfl, r, rfl, ⟨_, SqL.of hl⟩, fun D nD => ?_⟩
    refine lc_it (walk_list (xs := ps.map V.ref)) (fun i H2 => Same H H2 ∧ H2 D = some (.lst (((((ps.take i).map kb).filter fun s => s.1.isSuffixOf l).map fun s => [s.2]).map fun x => V.str (W x)))) ⟨same_upd nD, upd_same⟩ (fun i H2 _ h2 => h2.1.seq (SqL.of hl)) ?_ ?_
    · rintro i x H2 H3 hi ⟨s2, hD⟩ ⟨rfl, hx⟩
      rw [List.getElem?_map] at hx
      obtain ⟨q, hq, rfl⟩ := Option.map_eq_some_iff.mp hx
      have hqm : q ∈ ps := List.mem_of_getElem? hq
      refine ⟨q, _, rfl, SqT.of (s2 _ _ (hs q hqm)), rfl, _, _, rfl, _, _, rfl, rfl, rfl, ?_⟩
      refine ⟨_, rfl, _, rfl, l, (kb q).1, rfl, h1, Nat.le_trans (h3 _ (List.mem_map_of_mem hqm)) (by decide), _, rfl, ?_⟩
      have et : (ps.take (i + 1)).map kb = (ps.take i).map kb ++ [kb q] := by rw [List.take_add_one, hq, List.map_append]; rfl
      cases c : (kb q).1.isSuffixOf l with
      | true =>
        refine ⟨_, rfl, _, hD, ?_, ?_, ?_⟩
        · rw [List.length_map, List.length_map]
          refine sl_lt (Nat.lt_of_le_of_lt (List.length_filter_le _ _) ?_)
          rw [List.length_map, List.length_take]
          rw [List.length_map] at h2
          omega
        · intro c' o e
          rw [upd_ne (ne_of_none e nD)]
          exact s2 _ _ e
        · rw [upd_same, et, List.filter_append, List.map_append, List.map_append, List.filter_cons_of_pos (p := fun s : Stf => s.1.isSuffixOf l) c]
          rfl
      | false =>
        refine ⟨s2, ?_⟩
        rw [hD, et, List.filter_append, List.filter_cons_of_neg (p := fun s : Stf => s.1.isSuffixOf l) (by rw [c]; decide), List.filter_nil, List.append_nil]
    · rintro H2 ⟨s2, hD⟩
      rw [List.length_map, List.take_length] at hD
      refine ⟨_, rfl, Nat.zero_le _, fun p hp => ?_⟩
      have hp2 := putL_head (ss := ps.map kb) (l := l)
      have hD2 : upd H2 p (.lst []) D = some (.lst ((((ps.map kb).filter fun s => s.1.isSuffixOf l).map fun s => [s.2]).map fun x => V.str (W x))) := same_upd hp _ _ hD
      have s3 := s2.trans (same_upd (o := .lst []) hp)
      refine ⟨.list ((((ps.map kb).filter fun s => s.1.isSuffixOf l).map fun s => [s.2]).map dS), .list [], .lst (SqL.of hD2) (dp_strs _), .lst (SqL.of upd_same) .nil, shaped_strs _, shaped_nil, _, rfl, ?_⟩
      rw [eqv_nil]
      have k3 := k _ s3
      rw [hp2] at k3
      generalize (ps.map kb).filter (fun s => s.1.isSuffixOf l) = fs at hD2 k3
      cases fs with
      | nil => exact k3
      | cons x r => exact ⟨_, rfl, D, _, 0, .str (W [x.2]), rfl, rfl, SqL.of hD2, atI_nat (j := 0) rfl, k3⟩
theorem sc_l_chain : FnScope ["_law_stuffs", "_law_line", "_law_found", "_law_turn_here", "_law_bit"] ["_law_stuffs", "_law_line"] (fnScope s_l_chain) := fnScope_by (by decide +kernel)
theorem cal_l_chain {f : Addr} {fd : FuncData} (F : Def K mg "_law_chain" s_l_chain f fd) (b : Binds K fd ["_law_stuffs", "_law_line"] []) (T : Tx mg) (c_l_due : Cal P w K mg base 2 "_law_due" spDue []) : Cal P w K mg base 3 "_law_chain" spChain [] := by
  refine cal0 F b .nil sc_l_chain (fun vs H Q E h => ?_) (fun cdv A outer s H vs Q E hr h => ?_)
  · obtain ⟨_, _, _, rfl, _⟩ := h; rfl
  · obtain ⟨r, l, ss, rfl, hst, h1, h2, h3, k⟩ := h
    refine ⟨_, (pss_cons (ps_set (i := 2) sc_l_chain.nd rfl (.inl rfl) pe_str)
    (pss_cons (ps_for PassesOwn.never rfl (pi_range1 (by rfl) T.b_range (pa_cons pe_int pa_nil)) (pg_name (i := 3) sc_l_chain.nd rfl (.inl rfl))
    (pss_cons (ps_set (i := 4) sc_l_chain.nd rfl (.inl rfl) (pe_c c_l_due hr (by decide) rfl (pa_cons (pv 0) (pa_cons (pe_op op_add_str (pv 1) (pv 2)) pa_nil))))
    (pss_cons (ps_if (pt_cmpR op_isN (pv 4) pe_non (nomark _)) (pss_one (ps_ret (pv 2))) pss_nil)
    (pss_one (ps_set (i := 2) sc_l_chain.nd rfl (.inl rfl) (pe_op op_add_str (pv 2) (pv 4)))))))
    (pss_one (ps_ret pe_non)))), ?_⟩
    have el : (W l).length = l.length := W_len _
    refine ⟨_, rfl, by decide, by decide, for_it walk_range (fun j σ H2 => ∃ (y : List Bool) (v3 v4 : Option V), σ = [some (.ref r), some (.str (W l)), some (.str (W y)), v3, v4] ∧ Same H H2 ∧ y.length = j ∧ itP ss j l = l ++ y) ⟨[], none, none, by rw [← W_nil]; rfl, Same.refl _, rfl, by rw [List.append_nil]; rfl⟩ (fun _ _ _ _ _ => trivial) ?_ ?_⟩
    · rintro j x σ H2 H3 hj ⟨y, v3, v4, rfl, s2, hy, hit⟩ ⟨rfl, rfl⟩
      have hj40 : j < 40 := hj
      have ey : (W y).length = y.length := W_len _
      refine ⟨_, rfl, _, rfl, _, rfl, _, _, rfl, rfl, by rw [el, ey]; exact sl_len (by omega), r, l ++ y, ss, by rw [← W_cat]; rfl, hst.same s2, by rw [List.length_append]; omega, h2, h3, fun H4 s4 => ?_⟩
      refine ⟨_, rfl, rfl, _, rfl, ?_⟩
      rw [oB_non]
      cases e : putM ss (l ++ y) with
      | none =>
        have hI := ins_of_itP hit e hy
        exact ⟨_, rfl, k (some y) H4 (s2.trans s4) (fun x ex => by cases ex; exact ⟨hI, by omega⟩) (fun x hx _ => by rw [hI.det hx])⟩
      | some b =>
        have e3 : (W [b]).length = 1 := W_len _
        refine ⟨_, rfl, _, rfl, _, _, rfl, rfl, by rw [ey, e3]; exact sl_len (by omega), ?_⟩
        rw [W_cat]
        refine ⟨y ++ [b], _, _, rfl, s2.trans s4, by rw [List.length_append, hy]; rfl, ?_⟩
        rw [itP_succ, hit]
        unfold stP
        rw [e]
        exact List.append_assoc _ _ _
    · rintro σ H2 ⟨y, v3, v4, rfl, s2, hy, hit⟩
      refine k none H2 s2 (fun x ex => by cases ex) (fun x hx hl => ?_)
      have hy40 : y.length = 40 := hy
      have h40 : itP ss 40 l = l ++ y := hit
      rw [hx.itP, List.take_of_length_le (by omega)] at h40
      have := List.append_cancel_left h40
      rw [this] at hl
      omega
end
end U

set_option maxRecDepth 100000
set_option maxHeartbeats 4000000
namespace U
open PySem PySem.Spec PyProof.Rows
open L2 hiding Fun CX0 E0 pass0 Fun.binds
open C8 Lx SX StX
theorem cutS_4 (l : List Bool) : cutS (W l) (some (-4)) none = W (tl 4 l) := by
  refine TL.ext_tl ?_
  unfold cutS
  show (((l.map bt).drop (HT.sIx (W l).length 0 (some (-4)))).take (HT.sIx (W l).length (W l).length none - HT.sIx (W l).length 0 (some (-4)))) = (tl 4 l).map bt
  rw [HT.sIx_none, W_len]
  have e : HT.sIx l.length 0 (some (-4)) = l.length - 4 := by
    unfold HT.sIx
    simp only []
    split <;> omega
  rw [e, List.take_of_length_le (by rw [List.length_drop, List.length_map]; omega)]
  unfold tl
  rw [List.map_drop]
theorem strs_flat (ws : List (List Bool)) : (ws.map fun w => V.str (W w)).all flatV = true := by
  rw [List.all_map, List.all_eq_true]
  intro w _
  rfl
theorem inV_W {w : List Bool} {ws : List (List Bool)} : inV (.str (W w)) (ws.map fun w => V.str (W w)) = decide (w ∈ ws) := by
  unfold inV
  rw [List.any_map, Bool.eq_iff_iff, List.any_eq_true, decide_eq_true_eq]
  constructor
  · rintro ⟨u, hu, e⟩
    have e2 : W u = W w := by simpa [eqV] using e
    rw [← W_inj e2]
    exact hu
  · intro h
    exact ⟨w, h, by simp [eqV]⟩
/-- the tails that are found -/
structure Tls (ss : List Stf) (H H2 : Hp) (q : Addr) (n : Nat) (ws : List (List Bool)) : Prop where
  same : Same H H2
  list : H2 q = some (.lst (ws.map fun w => V.str (W w)))
  nodup : ws.Nodup
  short : ∀ w ∈ ws, w.length ≤ 4
  nil : [] ∈ ws
  done : ∀ i w, i < n → ws[i]? = some w → ∀ b, ∃ x, Ins ss (w ++ [b]) x ∧ x.length ≤ 39 ∧ tl 4 (w ++ [b] ++ x) ∈ ws
theorem Tls.few {ss : List Stf} {H H2 : Hp} {q : Addr} {n : Nat} {ws : List (List Bool)} (h : Tls ss H H2 q n ws) : ws.length ≤ 31 := by
  have := words_le h.nodup h.short
  have e : (2 : Nat) ^ (4 + 1) = 32 := by decide
  omega
theorem okN_of {ss : List Stf} (kn : List (List Bool)) (hL : ∀ s ∈ ss, s.1.length ≤ 4) (h0 : [] ∈ kn) (hx : ∀ w ∈ kn, ∀ b, ∃ x, Ins ss (w ++ [b]) x ∧ x.length ≤ 39 ∧ tl 4 (w ++ [b] ++ x) ∈ kn) : OkN 39 ss := by
  have hr : ∀ l, Reach ss l → ∃ w ∈ kn, tl 4 w = tl 4 l := fun l r => by
    induction r with
    | nil => exact ⟨[], h0, rfl⟩
    | @next l x b r i ih =>
      obtain ⟨w, hw, e⟩ := ih
      obtain ⟨y, hy, _, hm⟩ := hx w hw b
      have e2 := tl_snoc (b := b) e
      have ey := (hy.tl hL e2).det i
      subst ey
      exact ⟨_, hm, by rw [tl_tl (Nat.le_refl 4)]; exact tl_app e2 y⟩
  intro l r b
  obtain ⟨w, hw, e⟩ := hr l r
  obtain ⟨y, hy, h39, _⟩ := hx w hw b
  exact ⟨y, hy.tl hL (tl_snoc e), h39⟩
def spTails : Sp := fun vs H Q _ => ∃ (r : Addr) (ss : List Stf), vs = [.ref r] ∧ Stl H r ss ∧ ss.length ≤ 1000 ∧ (∀ s ∈ ss, s.1.length ≤ 4) ∧
  (∀ H', Same H H' → Q .non H') ∧ ∀ q H', Same H H' → OkN 39 ss → Q (.ref q) H'
end U

set_option maxRecDepth 100000
set_option maxHeartbeats 4000000
namespace U
open PySem PySem.Spec PyProof.Rows
open L2 hiding Fun CX0 E0 pass0 Fun.binds
open C8 Lx SX StX
theorem two01 {i : Nat} {x : V} (h : [V.str "0", V.str "1"][i]? = some x) : ∃ b : Bool, [false, true][i]? = some b ∧ x = .str (W [b]) := by
  match i, h with
  | 0, h => cases h; exact ⟨false, rfl, by rw [W_0]⟩
  | 1, h => cases h; exact ⟨true, rfl, by rw [W_1]⟩
section
variable {P : Program} {w : World} {K : PySem.W.Frag} {mg : Str → Option Value} {base : Heap}
theorem sc_l_tails : FnScope ["_law_stuffs", "_law_found", "_law_at", "_law_bit", "_law_more", "_law_last"] ["_law_stuffs"] (fnScope s_l_tails) := fnScope_by (by decide +kernel)
theorem cal_l_tails {f : Addr} {fd : FuncData} (F : Def K mg "_law_tails" s_l_tails f fd) (b : Binds K fd ["_law_stuffs"] []) (T : Tx mg) (c_l_chain : Cal P w K mg base 3 "_law_chain" spChain []) : Cal P w K mg base 4 "_law_tails" spTails [] := by
  refine cal0 F b .nil sc_l_tails (fun vs H Q E h => ?_) (fun cdv A outer s H vs Q E hr h => ?_)
  · obtain ⟨_, _, rfl, _⟩ := h; rfl
  · obtain ⟨r, ss, rfl, hst, h2, h3, knon, kok⟩ := h
    refine ⟨_, (pss_cons (ps_set (i := 1) sc_l_tails.nd rfl (.inl rfl) (pe_lst (pa_cons pe_str pa_nil)))
    (pss_cons (ps_set (i := 2) sc_l_tails.nd rfl (.inl rfl) pe_int)
    (pss_cons (ps_while PassesOwn.never (pt_cmpR op_lt (pv 2) (pe_callB call_len_seq (by rfl) T.b_len (by decide +kernel) (pa_cons (pv 1) pa_nil)) (nomark _))
    (pss_cons (ps_for PassesOwn.never rfl (pi_tup (pe_tup (pa_cons pe_str (pa_cons pe_str pa_nil)))) (pg_name (i := 3) sc_l_tails.nd rfl (.inl rfl))
    (pss_cons (ps_set (i := 4) sc_l_tails.nd rfl (.inl rfl) (pe_c c_l_chain hr (by decide) rfl (pa_cons (pv 0) (pa_cons (pe_op op_add_str (pe_ix ix_list (pv 1) (pv 2) (fun _ _ => rfl)) (pv 3)) pa_nil))))
    (pss_cons (ps_if (pt_cmpR op_isN (pv 4) pe_non (nomark _)) (pss_one (ps_ret pe_non)) pss_nil)
    (pss_cons (ps_set (i := 5) sc_l_tails.nd rfl (.inl rfl) (pe_slice sl_str (pe_op op_add_str (pe_op op_add_str (pe_ix ix_list (pv 1) (pv 2) (fun _ _ => rfl)) (pv 3)) (pv 4)) (po_some (pe_un un_neg pe_int)) po_none))
    (pss_one (ps_if (pt_cmpR op_notIn_seq (pv 5) (pv 1) (by with_unfolding_all rfl)) (pss_one (ps_expr (pe_bm PySem.F.plainAttrs_list PySem.F.slot_list_append PySem.F.type_list_append mt_append (pv 1) (pa_cons (pv 5) pa_nil)))) pss_nil))))))
    (pss_one (ps_set (i := 2) sc_l_tails.nd rfl (.inl rfl) (pe_op op_add (pv 2) pe_int)))))
    (pss_one (ps_ret (pv 1)))))), ?_⟩
    refine ⟨by show 1 ≤ sizeLine; decide, fun q nq => ?_⟩
    have b0 : Tls ss H (upd H q (.lst [.str ""])) q 0 [[]] := ⟨same_upd nq, by rw [upd_same, W_nil]; rfl, by simp, fun w hw => by rw [List.mem_singleton.mp hw]; exact Nat.zero_le _, List.mem_cons_self, fun i w h => absurd h (Nat.not_lt_zero _)⟩
    generalize upd H q (.lst [.str ""]) = H1 at b0
    refine ⟨fun m σ H2 => ∃ (n : Nat) (ws : List (List Bool)) (v3 v4 v5 : Option V), σ = [some (.ref r), some (.ref q), some (.int n), v3, v4, v5] ∧ Tls ss H H2 q n ws ∧ n ≤ ws.length ∧ m + n = 32,
      ⟨32, 0, [[]], none, none, none, rfl, b0, Nat.zero_le _, rfl⟩, ?_⟩
    rintro m σ H2 ⟨n, ws, v3, v4, v5, rfl, B2, hn2, hm⟩
    have few2 := B2.few
    refine ⟨_, rfl, _, rfl, q, _, rfl, .inl (SqL.of B2.list), _, _, rfl, rfl, _, rfl, ?_⟩
    rw [List.length_map]
    by_cases hlt : n < ws.length
    · refine iteDT (by omega) ?_
      refine ⟨fun σ' H' => ∃ m', m' < m ∧ ∃ (n : Nat) (ws : List (List Bool)) (v3 v4 v5 : Option V), σ' = [some (.ref r), some (.ref q), some (.int n), v3, v4, v5] ∧ Tls ss H H' q n ws ∧ n ≤ ws.length ∧ m' + n = 32, fun _ _ h => h, ?_⟩
      have hw0 : ws[n]? = some ws[n] := List.getElem?_eq_getElem hlt
      have hmem0 : ws[n] ∈ ws := List.getElem_mem hlt
      have l4 := B2.short _ hmem0
      generalize ws[n] = w0 at hw0 l4
      refine ⟨by show 2 ≤ sizeLine; decide, fun T' nT => ⟨T', rfl, ⟨_, SqT.of upd_same⟩, ?_⟩⟩
      have sT : Same H2 (upd H2 T' (.tup [.str "0", .str "1"])) := same_upd nT
      have hT : upd H2 T' (.tup [.str "0", .str "1"]) T' = some (.tup [.str "0", .str "1"]) := upd_same
      have B3 : Tls ss H (upd H2 T' (.tup [.str "0", .str "1"])) q n ws := ⟨B2.same.trans sT, sT _ _ B2.list, B2.nodup, B2.short, B2.nil, B2.done⟩
      generalize upd H2 T' (.tup [.str "0", .str "1"]) = H3 at B3 hT
      have nTq : T' ≠ q := ne_of hT B3.list (by intro z; cases z)
      refine for_it (walk_tup (xs := [.str "0", .str "1"])) (fun i σ H4 => ∃ (ws : List (List Bool)) (v3 v4 v5 : Option V), σ = [some (.ref r), some (.ref q), some (.int n), v3, v4, v5] ∧ Tls ss H H4 q n ws ∧ H4 T' = some (.tup [.str "0", .str "1"]) ∧ n < ws.length ∧ ws[n]? = some w0 ∧ ∀ j b, j < i → [false, true][j]? = some b → ∃ x, Ins ss (w0 ++ [b]) x ∧ x.length ≤ 39 ∧ tl 4 (w0 ++ [b] ++ x) ∈ ws)
        ⟨ws, _, _, _, rfl, B3, hT, hlt, hw0, fun j b h => absurd h (Nat.not_lt_zero _)⟩ (fun i σ H4 _ h4 => by obtain ⟨_, _, _, _, _, _, h, _⟩ := h4; exact SqT.of h) ?_ ?_
      · clear B3 B2 few2 hmem0 hw0 hlt hn2
        rintro i x σ H4 H4' hi ⟨ws, v3, v4, v5, rfl, B4, hT4, hlt4, hw4, hbits⟩ ⟨rfl, hx⟩
        obtain ⟨bb, hbb, rfl⟩ := two01 hx
        have few4 := B4.few
        have hat : (ws.map fun w => V.str (W w))[n]? = some (.str (W w0)) := by rw [List.getElem?_map, hw4]; rfl
        have e1 : (W w0).length = w0.length := W_len _
        have e2 : (W [bb]).length = 1 := W_len _
        have len1 : (W w0).length + (W [bb]).length ≤ sizeLine := by rw [e1, e2]; exact sl_len (by omega)
        have ll : (w0 ++ [bb]).length = w0.length + 1 := by rw [List.length_append]; rfl
        refine ⟨_, rfl, _, rfl, _, rfl, q, _, _, _, rfl, rfl, SqL.of B4.list, atI_nat hat, _, rfl, _, _, rfl, rfl, len1, r, w0 ++ [bb], ss, by rw [← W_cat]; rfl, hst.same B4.same, by omega, h2, fun s hs => Nat.le_trans (h3 s hs) (by decide), fun o H5 s5 ho1 _ => ?_⟩
        have B5 : Tls ss H H5 q n ws := ⟨B4.same.trans s5, s5 _ _ B4.list, B4.nodup, B4.short, B4.nil, B4.done⟩
        have hT5 := s5 _ _ hT4
        refine ⟨_, rfl, rfl, _, rfl, ?_⟩
        cases o with
        | none => exact iteDT rfl (knon H5 B5.same)
        | some y =>
          obtain ⟨hI, h39⟩ := ho1 y rfl
          refine iteDF (fun z => by cases z) ?_
          have e3 : (W (w0 ++ [bb])).length = (w0 ++ [bb]).length := W_len _
          have e4 : (W y).length = y.length := W_len _
          have e5 : (W (w0 ++ [bb] ++ y)).length = (w0 ++ [bb] ++ y).length := W_len _
          refine ⟨_, rfl, _, rfl, q, _, _, _, rfl, rfl, SqL.of B5.list, atI_nat hat, _, rfl, _, _, rfl, rfl, len1, _, rfl, _, _, rfl, rfl, by rw [W_cat, e3, e4]; exact sl_len (by omega), _, rfl, _, rfl, _, rfl, by rw [W_cat, W_cat, e5, List.length_append]; exact sl_len (by omega), ?_⟩
          rw [W_cat, W_cat]
          show gName 5 (.str (cutS (W (w0 ++ [bb] ++ y)) (some (-4)) none)) _ _ _
          rw [cutS_4]
          refine ⟨_, rfl, _, rfl, q, _, rfl, .inl (SqL.of B5.list), rfl, strs_flat _, _, rfl, ?_⟩
          show if (!inV (.str (W (tl 4 (w0 ++ [bb] ++ y)))) (ws.map fun w => V.str (W w))) = true then _ else _
          rw [inV_W]
          by_cases hin : tl 4 (w0 ++ [bb] ++ y) ∈ ws
          · refine iteBF (by rw [decide_eq_true hin]; rfl) ?_
            refine ⟨ws, _, _, _, rfl, B5, hT5, hlt4, hw4, fun j b hj hb => ?_⟩
            by_cases ej : j = i
            · subst ej
              rw [hbb] at hb
              cases hb
              exact ⟨y, hI, h39, hin⟩
            · exact hbits j b (by omega) hb
          · refine iteBT (by rw [decide_eq_false hin]; rfl) ?_
            refine ⟨_, rfl, .inl ⟨rfl, _, SqL.of B5.list⟩, _, rfl, q, _, _, rfl, rfl, B5.list, by rw [List.length_map]; exact sl_lt (by omega), ?_⟩
            refine ⟨ws ++ [tl 4 (w0 ++ [bb] ++ y)], _, _, _, rfl, ⟨fun c o e => ?_, ?_, ?_, ?_, List.mem_append_left _ B5.nil, ?_⟩, ?_, ?_, ?_, fun j b hj hb => ?_⟩
            · rw [upd_ne (ne_of_none e nq)]; exact B5.same _ _ e
            · rw [upd_same, List.map_append]; rfl
            · rw [List.nodup_append]
              refine ⟨B5.nodup, by simp, fun u hu v hv e => ?_⟩
              rw [List.mem_singleton.mp hv] at e
              exact hin (e ▸ hu)
            · intro u hu
              rcases List.mem_append.mp hu with z | z
              · exact B5.short _ z
              · rw [List.mem_singleton.mp z]; exact tl_le _ _
            · intro i' w hi' hw' b
              rw [List.getElem?_append_left (by omega)] at hw'
              obtain ⟨x, hx1, hx2, hx3⟩ := B5.done i' w hi' hw' b
              exact ⟨x, hx1, hx2, List.mem_append_left _ hx3⟩
            · rw [upd_ne nTq]; exact hT5
            · rw [List.length_append]; omega
            · rw [List.getElem?_append_left hlt4]; exact hw4
            · by_cases ej : j = i
              · subst ej
                rw [hbb] at hb
                cases hb
                exact ⟨y, hI, h39, List.mem_append_right _ List.mem_cons_self⟩
              · obtain ⟨x, hx1, hx2, hx3⟩ := hbits j b (by omega) hb
                exact ⟨x, hx1, hx2, List.mem_append_left _ hx3⟩
      · rintro σ H4 ⟨ws, v3, v4, v5, rfl, B4, _, hlt4, hw4, hbits⟩
        refine ⟨_, rfl, _, _, rfl, rfl, ?_⟩
        refine ⟨m - 1, by omega, n + 1, ws, _, _, _, rfl, ⟨B4.same, B4.list, B4.nodup, B4.short, B4.nil, fun i w hi hw b => ?_⟩, hlt4, by omega⟩
        by_cases ei : i = n
        · subst ei
          rw [hw4] at hw
          cases hw
          cases b with
          | false => exact hbits 0 false (by show 0 < 2; decide) rfl
          | true => exact hbits 1 true (by show 1 < 2; decide) rfl
        · exact B4.done i w (by omega) hw b
    · refine iteDF (by omega) ?_
      refine ⟨_, rfl, kok q H2 B2.same (okN_of ws h3 B2.nil fun w hw b => ?_)⟩
      obtain ⟨i, hi⟩ := List.getElem?_of_mem hw
      exact B2.done i w (by have := (List.getElem?_eq_some_iff.mp hi).1; omega) hi b
end
end U

set_option maxRecDepth 100000
set_option maxHeartbeats 4000000
namespace U
open PySem PySem.Spec PyProof.Rows
open L2 hiding Fun CX0 E0 pass0 Fun.binds
open C8 Lx SX
def spWordN : Sp := fun vs H Q _ => ∃ (b : Addr) (n : Nat), vs = [.ref b, .int n] ∧ Box H b ∧ n ≤ 1000 ∧
  ∀ (l : List Bool) H', l.length = n → Up b H H' → Q (.str (W l)) H'
def spTurn : Sp := fun vs H Q _ => ∃ b : Bool, vs = [.str (W [b])] ∧ Q (.str (W [!b])) H
section
variable {P : Program} {w : World} {K : PySem.W.Frag} {mg : Str → Option Value} {base : Heap}
theorem sc_l_word : FnScope ["_law_box", "_law_size", "_law_turn_here"] ["_law_box", "_law_size"] (fnScope s_l_word) := fnScope_by (by decide +kernel)
theorem cal_l_word {f : Addr} {fd : FuncData} (F : Def K mg "_law_word" s_l_word f fd) (b : Binds K fd ["_law_box", "_law_size"] []) (T : Tx mg)
    (c_l_one_of : Cal P w K mg base 2 "_law_one_of" spOneOf []) : Cal P w K mg base 3 "_law_word" spWordN [] := by
  refine cal0 F b .nil sc_l_word (fun vs H Q E h => ?_) (fun cdv A outer s H vs Q E hr h => ?_)
  · obtain ⟨_, _, rfl, _⟩ := h; rfl
  · obtain ⟨bx, n, rfl, hb, h1, k⟩ := h
    refine ⟨_, (pss_one (ps_ret (pe_join pe_str (pe_lc (own := [("_law_turn_here", 2)]) (g := gName 2) (by rfl) sc_l_word.nd (pi_range1 (by rfl) T.b_range (pa_cons (pv 1) pa_nil)) (blkOk_by (own := [("_law_turn_here", 2)]) (N := ["_law_box", "_law_size", "_law_turn_here"]) (sc := fnScope s_l_word) (by decide +kernel)) (fun _ _ _ _ _ => (pg_name (i := 2) sc_l_word.nd rfl (.inl rfl))) (fun _ _ _ _ _ => pts_nil) (fun _ _ _ _ _ => (pe_c c_l_one_of hr (by decide) rfl (pa_cons (pv 0) (pa_cons (pe_lst (pa_cons pe_str (pa_cons pe_str pa_nil))) pa_nil)))))))), ?_⟩
    refine ⟨⟨_, rfl⟩, ?_⟩
    refine ⟨_, rfl, _, rfl, by omega, by omega, fun D nD => ?_⟩
    have nb : D ≠ bx := hb.ne nD
    refine lc_it (walk_range (lo := 0) (n := (n : Int).toNat)) (fun i H2 => ∃ l : List Bool, l.length = i ∧ Up bx H H2 ∧ H2 D = some (.lst (bitsV l)))
      ⟨[], rfl, (Up.refl hb).mut nD nb, upd_same⟩ (fun _ _ _ _ => trivial) ?_ ?_
    · rintro i x H2 H3 hi ⟨l, rfl, u2, hD⟩ ⟨rfl, rfl⟩
      refine ⟨rfl, ?_⟩
      refine ⟨_, rfl, by show 2 ≤ sizeLine; decide, fun p hp => ?_⟩
      have np : p ≠ bx := u2.2.ne hp
      refine ⟨bx, p, _, rfl, u2.2.same (same_upd hp), upd_same, np, by decide, by decide, fun v H4 hv u4 => ?_⟩
      obtain ⟨b, rfl⟩ := mem2 hv
      have hD4 : H4 D = some (.lst (bitsV l)) := u4.1 _ _ (same_upd hp _ _ hD) nb
      refine ⟨_, hD4, ?_, l ++ [b], by simp, ?_, ?_⟩
      · unfold bitsV; rw [List.length_map, List.length_map]; exact sl_lt (by omega)
      · exact ((u2.same (same_upd hp)).trans u4).mut nD nb
      · rw [upd_same]; unfold bitsV; simp
    · rintro H2 ⟨l, hl, u2, hD⟩
      refine ⟨_, D, l.map fun b => W [b], rfl, rfl, .inl (SqL.of hD), ?_, ?_⟩
      · rw [lens_bits, empty_len]; omega
      · show Q (.str (Txt.join "" (l.map fun b => W [b]))) H2
        rw [join_bits]
        exact k l H2 (by omega) u2
theorem sc_l_turn : FnScope ["_law_bit"] ["_law_bit"] (fnScope s_l_turn) := fnScope_by (by decide +kernel)
theorem cal_l_turn {f : Addr} {fd : FuncData} (F : Def K mg "_law_turn" s_l_turn f fd) (b : Binds K fd ["_law_bit"] []) (T : Tx mg) : Cal P w K mg base 1 "_law_turn" spTurn [] := by
  refine cal0 F b .nil sc_l_turn (fun vs H Q E h => ?_) (fun cdv A outer s H vs Q E hr h => ?_)
  · obtain ⟨_, rfl, _⟩ := h; rfl
  · obtain ⟨b, rfl, k⟩ := h
    refine ⟨_, (pss_one (ps_ret (pe_ifExp (pt_cmpR op_eq (pv 0) pe_str (nomark _)) pe_str pe_str))), ?_⟩
    refine ⟨_, rfl, rfl, _, rfl, ?_⟩
    cases b with
    | false =>
      refine iteDT (show V.str (W [false]) = V.str "0" by decide +kernel) ?_
      show Q (.str "1") H
      rw [W_1]; exact k
    | true =>
      refine iteDF (show ¬ V.str (W [true]) = V.str "0" by decide +kernel) ?_
      show Q (.str "0") H
      rw [W_0]; exact k
end
end U

set_option maxRecDepth 100000
set_option maxHeartbeats 4000000
namespace U
open PySem PySem.Spec PyProof.Rows
open L2 hiding Fun CX0 E0 pass0 Fun.binds
open C8 Lx SX StX
def spLAre : Sp := fun vs H Q _ => ∃ (r : Addr) (ss : List Stf), vs = [.ref r] ∧ Stl H r ss ∧ ss.length ≤ 100 ∧ (∀ s ∈ ss, s.1.length ≤ 4) ∧ ∀ b H', Same H H' → (b = true → SufFree ss ∧ OkN 39 ss) → Q (.bl b) H'
def spStuff : Sp := fun vs H Q _ => ∃ (b : Addr) (fl : List Bool) (most : Nat), vs = [.ref b, .str (W fl), .int most] ∧ Box H b ∧ 0 < fl.length ∧ fl.length ≤ 1000 ∧ 0 < most ∧ most ≤ 100 ∧
  ∀ t (p : List Bool) (c : Bool) H', Up b H H' → H t = none → H' t = some (.tup [.str (W p), .str (W [c])]) → p ≠ [] → p.length ≤ most → Q (.ref t) H'
theorem mem6 {v : V} (h : v ∈ ([.int 0, .int 1, .int 1, .int 1, .int 2, .int 2] : List V)) : ∃ n : Nat, v = .int n ∧ n ≤ 2 := by
  rcases List.mem_cons.mp h with rfl | h
  · exact ⟨0, rfl, by decide⟩
  · rcases List.mem_cons.mp h with rfl | h
    · exact ⟨1, rfl, by decide⟩
    · rcases List.mem_cons.mp h with rfl | h
      · exact ⟨1, rfl, by decide⟩
      · rcases List.mem_cons.mp h with rfl | h
        · exact ⟨1, rfl, by decide⟩
        · rcases List.mem_cons.mp h with rfl | h
          · exact ⟨2, rfl, by decide⟩
          · exact ⟨2, List.mem_singleton.mp h, by decide⟩
theorem sufFree_at {ps : List Addr} {kb : Addr → Stf} (h : ∀ i q, ps[i]? = some q → ∀ q' ∈ ps.take i ++ ps.drop (i + 1), (kb q').1.isSuffixOf (kb q).1 = false) : SufFree (ps.map kb) := by
  unfold SufFree
  rw [List.pairwise_map, List.pairwise_iff_getElem]
  intro i j hi hj hij
  have no : ∀ {a b : Stf}, a.1.isSuffixOf b.1 = false → ¬ a.1 <:+ b.1 := fun e z => by rw [List.isSuffixOf_iff_suffix.mpr z] at e; cases e
  refine ⟨no (h j ps[j] (List.getElem?_eq_getElem hj) ps[i] (List.mem_append_left _ ?_)), no (h i ps[i] (List.getElem?_eq_getElem hi) ps[j] (List.mem_append_right _ ?_))⟩
  · exact List.mem_iff_getElem.mpr ⟨i, by rw [List.length_take]; omega, by rw [List.getElem_take]⟩
  · exact List.mem_iff_getElem.mpr ⟨j - (i + 1), by rw [List.length_drop]; omega, by rw [List.getElem_drop]; congr 1; omega⟩
theorem q_ndecN {Q : VK} {H : Hp} (h : Q (.bl false) H) : Q (.bl (!decide (V.non = V.non))) H := by rw [decide_eq_true rfl]; exact h
theorem q_decN {Q : VK} {H : Hp} {v : V} (hv : ¬ v = V.non) (h : Q (.bl true) H) : Q (.bl (!decide (v = V.non))) H := by rw [decide_eq_false hv]; exact h
section
variable {P : Program} {w : World} {K : PySem.W.Frag} {mg : Str → Option Value} {base : Heap}
theorem sc_l_are_stuffs : FnScope ["_law_stuffs", "_law_spot", "_law_pattern", "_law_bit", "_law_mate", "_law_more"] ["_law_stuffs"] (fnScope s_l_are_stuffs) := fnScope_by (by decide +kernel)
theorem cal_l_are_stuffs {f : Addr} {fd : FuncData} (F : Def K mg "_law_are_stuffs" s_l_are_stuffs f fd) (b : Binds K fd ["_law_stuffs"] []) (T : Tx mg) (c_l_ends : Cal P w K mg base 1 "_law_ends" spEnds []) (c_l_tails : Cal P w K mg base 4 "_law_tails" spTails []) : Cal P w K mg base 5 "_law_are_stuffs" spLAre [] := by
  refine cal0 F b .nil sc_l_are_stuffs (fun vs H Q E h => ?_) (fun cdv A outer s H vs Q E hr h => ?_)
  · obtain ⟨_, _, rfl, _⟩ := h; rfl
  · obtain ⟨r, ss, rfl, hst, h2, h3, k⟩ := h
    refine ⟨_, (pss_cons (ps_for PassesOwn.never rfl (pi_enum (by rfl) T.b_enumerate (pa_cons (pv 0) pa_nil)) (pg_tup rfl (pgs_cons (pg_name (i := 1) sc_l_are_stuffs.nd rfl (.inl rfl)) (pgs_cons (pg_tup rfl (pgs_cons (pg_name (i := 2) sc_l_are_stuffs.nd rfl (.inl rfl)) (pgs_cons (pg_name (i := 3) sc_l_are_stuffs.nd rfl (.inl rfl)) pgs_nil))) pgs_nil)))
    (pss_one (ps_for PassesOwn.never rfl (pi_list (pe_op op_cat (pe_slice sl_list (pv 0) po_none (po_some (pv 1))) (pe_slice sl_list (pv 0) (po_some (pe_op op_add (pv 1) pe_int)) po_none))) (pg_tup rfl (pgs_cons (pg_name (i := 4) sc_l_are_stuffs.nd rfl (.inl rfl)) (pgs_cons (pg_name (i := 5) sc_l_are_stuffs.nd rfl (.inl rfl)) pgs_nil)))
    (pss_one (ps_if (pt_val (pe_c c_l_ends hr (by decide) rfl (pa_cons (pv 2) (pa_cons (pv 4) pa_nil)))) (pss_one (ps_ret pe_bl)) pss_nil)))))
    (pss_one (ps_ret (pe_cmpR op_notN (pe_c c_l_tails hr (by decide) rfl (pa_cons (pv 0) pa_nil)) pe_non (nomark _))))), ?_⟩
    obtain ⟨ps, kb, hl, hs, hss⟩ := id hst
    have lps : ps.length ≤ 100 := by rw [hss, List.length_map] at h2; exact h2
    have h3' : ∀ q ∈ ps, (kb q).1.length ≤ 4 := fun q hq => h3 _ (by rw [hss]; exact List.mem_map_of_mem hq)
    refine ⟨_, rfl, r, _, rfl, SqL.of hl, ?_⟩
    refine for_it (walk_enum (xs := ps.map V.ref)) (fun i σ H2 => ∃ v1 v2 v3 v4 v5 : Option V, σ = [some (.ref r), v1, v2, v3, v4, v5] ∧ Same H H2 ∧ ∀ i' q, i' < i → ps[i']? = some q → ∀ q' ∈ ps.take i' ++ ps.drop (i' + 1), (kb q').1.isSuffixOf (kb q).1 = false)
      ⟨none, none, none, none, none, rfl, Same.refl _, fun i' q h => absurd h (Nat.not_lt_zero _)⟩ (fun i σ H2 _ h2 => by obtain ⟨_, _, _, _, _, _, s2, _⟩ := h2; exact s2.seq (SqL.of hl)) ?_ ?_
    · rintro i x σ H2 H3 hi ⟨v1, v2, v3, v4, v5, rfl, s2, hno⟩ ⟨T', y1, y2, rfl, nT, rfl, e1, e2⟩
      cases e1
      replace e2 : (ps.map V.ref)[i]? = some y2 := e2
      rw [List.getElem?_map] at e2
      obtain ⟨q, hq, rfl⟩ := Option.map_eq_some_iff.mp e2
      have hqm : q ∈ ps := List.mem_of_getElem? hq
      have s3 : Same H (upd H2 T' (.tup [.int (i : Nat), .ref q])) := s2.trans (same_upd nT)
      refine ⟨T', _, rfl, SqT.of upd_same, rfl, _, _, rfl, _, _, rfl, ⟨q, _, rfl, SqT.of (s3 _ _ (hs q hqm)), rfl, _, _, rfl, _, _, rfl, rfl, rfl, ?_⟩⟩
      generalize upd H2 T' (.tup [.int (i : Nat), .ref q]) = H3 at s3
      have hl3 := s3 _ _ hl
      rw [List.length_map] at hi
      have hi' : i < (ps.map V.ref).length := by rw [List.length_map]; exact hi
      refine ⟨_, rfl, _, rfl, _, rfl, r, _, rfl, SqL.of hl3, fun p1 n1 => ?_⟩
      rw [cut_to hi']
      refine ⟨_, rfl, _, rfl, _, _, rfl, rfl, _, rfl, r, _, rfl, SqL.of (same_upd n1 _ _ hl3), fun p2 n2 => ?_⟩
      rw [cut_from hi']
      refine ⟨p1, p2, _, _, rfl, rfl, same_upd n2 _ _ upd_same, upd_same, ?_, fun p3 n3 => ?_⟩
      · rw [List.length_take, List.length_drop, List.length_map]; exact sl_len (by omega)
      have s6 : Same H (upd (upd (upd H3 p1 (.lst ((ps.map V.ref).take i))) p2 (.lst ((ps.map V.ref).drop (i + 1)))) p3 (.lst ((ps.map V.ref).take i ++ (ps.map V.ref).drop (i + 1)))) := ((s3.trans (same_upd n1)).trans (same_upd n2)).trans (same_upd n3)
      have h6 : upd (upd (upd H3 p1 (.lst ((ps.map V.ref).take i))) p2 (.lst ((ps.map V.ref).drop (i + 1)))) p3 (.lst ((ps.map V.ref).take i ++ (ps.map V.ref).drop (i + 1))) p3 = some (.lst ((ps.take i ++ ps.drop (i + 1)).map V.ref)) := by rw [upd_same, List.map_append, List.map_take, List.map_drop]
      generalize upd (upd (upd H3 p1 (.lst ((ps.map V.ref).take i))) p2 (.lst ((ps.map V.ref).drop (i + 1)))) p3 (.lst ((ps.map V.ref).take i ++ (ps.map V.ref).drop (i + 1))) = H6 at s6 h6
      have hsub : ∀ q' ∈ ps.take i ++ ps.drop (i + 1), q' ∈ ps := fun q' hq' => by
        rcases List.mem_append.mp hq' with m | m
        · exact List.mem_of_mem_take m
        · exact List.mem_of_mem_drop m
      generalize hrs : ps.take i ++ ps.drop (i + 1) = rs at h6 hsub
      refine ⟨p3, rfl, ⟨_, SqL.of h6⟩, ?_⟩
      refine for_it (walk_list (xs := rs.map V.ref)) (fun j σ H7 => ∃ v4 v5 : Option V, σ = [some (.ref r), some (.int (i : Nat)), some (.str (W (kb q).1)), some (.str (W [(kb q).2])), v4, v5] ∧ Same H6 H7 ∧ ∀ j' q', j' < j → rs[j']? = some q' → (kb q').1.isSuffixOf (kb q).1 = false)
        ⟨_, _, rfl, Same.refl _, fun j' q' h => absurd h (Nat.not_lt_zero _)⟩ (fun j σ H7 _ h7 => by obtain ⟨_, _, _, s7, _⟩ := h7; exact s7.seq (SqL.of h6)) ?_ ?_
      · rintro j x σ H7 H8 hj ⟨v4, v5, rfl, s7, hno7⟩ ⟨rfl, hx⟩
        rw [List.getElem?_map] at hx
        obtain ⟨q', hq', rfl⟩ := Option.map_eq_some_iff.mp hx
        have hm' : q' ∈ rs := List.mem_of_getElem? hq'
        refine ⟨q', _, rfl, SqT.of ((s6.trans s7) _ _ (hs q' (hsub _ hm'))), rfl, _, _, rfl, _, _, rfl, rfl, ?_⟩
        refine ⟨_, rfl, _, rfl, (kb q).1, (kb q').1, rfl, Nat.le_trans (h3' q hqm) (by decide), Nat.le_trans (h3' q' (hsub _ hm')) (by decide), _, rfl, ?_⟩
        cases ce : (kb q').1.isSuffixOf (kb q).1 with
        | true => exact k false _ (s6.trans s7) (fun z => by cases z)
        | false =>
          refine ⟨_, _, rfl, s7, fun j' q2 hj' hq2 => ?_⟩
          by_cases ej : j' = j
          · subst ej
            rw [hq'] at hq2
            cases hq2
            exact ce
          · exact hno7 j' q2 (by omega) hq2
      · rintro σ H7 ⟨v4, v5, rfl, s7, hno7⟩
        refine ⟨_, _, _, _, _, rfl, s6.trans s7, fun i' q2 hi' hq2 q' hq' => ?_⟩
        by_cases ei : i' = i
        · subst ei
          rw [hq] at hq2
          cases hq2
          rw [hrs] at hq'
          obtain ⟨j, hj⟩ := List.getElem?_of_mem hq'
          exact hno7 j q' (by rw [List.length_map]; exact (List.getElem?_eq_some_iff.mp hj).1) hj
        · exact hno i' q2 (by omega) hq2 q' hq'
    · rintro σ H2 ⟨v1, v2, v3, v4, v5, rfl, s2, hno⟩
      have hfree : SufFree ss := by
        rw [hss]
        exact sufFree_at fun i q hq => hno i q (by rw [List.length_map]; exact (List.getElem?_eq_some_iff.mp hq).1) hq
      refine ⟨_, rfl, r, ss, rfl, hst.same s2, by omega, h3, fun H3 s3 => ⟨rfl, ?_⟩, fun q H3 s3 hO => ⟨rfl, ?_⟩⟩
      · exact q_ndecN (Q := Q) (k false H3 (s2.trans s3) (fun z => by cases z))
      · exact q_decN (Q := Q) (fun z => by cases z) (k true H3 (s2.trans s3) fun _ => ⟨hfree, hO⟩)
end
end U

set_option maxRecDepth 100000
set_option maxHeartbeats 4000000
namespace U
open PySem PySem.Spec PyProof.Rows
open L2 hiding Fun CX0 E0 pass0 Fun.binds
open C8 Lx SX StX
theorem W_mid {l : List Bool} {i n : Nat} (h : i + n ≤ l.length) : Txt.slice (W l) (some (i : Int)) (some ((i : Int) + (n : Int))) = W ((l.drop i).take n) := by
  have e := beq_iff_eq.mp (PyProof.Rows.slice_closesL (x := W l) (i := (i : Int)) (j := (i : Int) + (n : Int)) (by omega) (by omega) (by rw [W_len]; omega))
  rw [e]
  refine TL.ext_tl ?_
  show (((l.map bt).drop ((i : Int)).toNat).take ((i : Int) + (n : Int) - (i : Int)).toNat) = _
  rw [show ((i : Int)).toNat = i by omega, show ((i : Int) + (n : Int) - (i : Int)).toNat = n by omega, ← List.map_drop, ← List.map_take]
  rfl
def spLBody2 : Sp := fun vs H Q _ => ∃ (r : Addr) (m : List Bool) (ss : List Stf), vs = [.ref r, .str (W m)] ∧ Stl H r ss ∧ m.length ≤ 900 ∧ ss.length ≤ 1000 ∧ (∀ s ∈ ss, s.1.length ≤ 1000) ∧ OkN 39 ss ∧ ∀ l H', Body ss m l → l.length ≤ 40 * m.length → Same H H' → Q (.str (W l)) H'
section
variable {P : Program} {w : World} {K : PySem.W.Frag} {mg : Str → Option Value} {base : Heap}
theorem sc_l_stuff : FnScope ["_law_box", "_law_flag", "_law_most", "_law_size", "_law_at"] ["_law_box", "_law_flag", "_law_most"] (fnScope s_l_stuff) := fnScope_by (by decide +kernel)
theorem cal_l_stuff {f : Addr} {fd : FuncData} (F : Def K mg "_law_stuff" s_l_stuff f fd) (b : Binds K fd ["_law_box", "_law_flag", "_law_most"] []) (T : Tx mg) (c_l_choose : Cal P w K mg base 1 "_law_choose" spChoose []) (c_l_word : Cal P w K mg base 3 "_law_word" spWordN []) (c_l_turn : Cal P w K mg base 1 "_law_turn" spTurn []) : Cal P w K mg base 4 "_law_stuff" spStuff [] := by
  refine cal0 F b .nil sc_l_stuff (fun vs H Q E h => ?_) (fun cdv A outer s H vs Q E hr h => ?_)
  · obtain ⟨_, _, _, rfl, _⟩ := h; rfl
  · obtain ⟨bx, fl, most, rfl, hb, f0, f1, m0, m1, k⟩ := h
    refine ⟨_, (pss_cons (ps_set (i := 3) sc_l_stuff.nd rfl (.inl rfl) (pe_op op_add pe_int (pe_c c_l_choose hr (by decide) rfl (pa_cons (pv 0) (pa_cons (pv 2) pa_nil)))))
    (pss_cons (ps_set (i := 4) sc_l_stuff.nd rfl (.inl rfl) (pe_c c_l_choose hr (by decide) rfl (pa_cons (pv 0) (pa_cons (pe_callB call_len_str (by rfl) T.b_len (by decide +kernel) (pa_cons (pv 1) pa_nil)) pa_nil))))
    (pss_cons (ps_if (PW.pt (pw_and (pt_cmpR op_gt (pe_c c_l_choose hr (by decide) rfl (pa_cons (pv 0) (pa_cons pe_int pa_nil))) pe_int (nomark _)) (pw_and1 (pt_cmpR op_lt (pe_op op_add (pv 4) (pv 3)) (pe_callB call_len_str (by rfl) T.b_len (by decide +kernel) (pa_cons (pv 1) pa_nil)) (nomark _))))) (pss_one (ps_ret (pe_tup (pa_cons (pe_slice sl_txt (pv 1) (po_some (pv 4)) (po_some (pe_op op_add (pv 4) (pv 3)))) (pa_cons (pe_c c_l_turn hr (by decide) rfl (pa_cons (pe_ix ix_str (pv 1) (pe_op op_add (pv 4) (pv 3)) (fun _ _ => rfl)) pa_nil)) pa_nil))))) pss_nil)
    (pss_one (ps_ret (pe_tup (pa_cons (pe_c c_l_word hr (by decide) rfl (pa_cons (pv 0) (pa_cons (pv 3) pa_nil))) (pa_cons (pe_c c_l_word hr (by decide) rfl (pa_cons (pv 0) (pa_cons pe_int pa_nil))) pa_nil)))))))), ?_⟩
    have ef : (W fl).length = fl.length := W_len _
    have lf : (W fl).length ≤ sizeLine := by rw [ef]; exact sl_len (by omega)
    have i2 : 2 ≤ sizeLine := by decide
    refine ⟨_, rfl, _, rfl, bx, most, rfl, hb, by omega, by omega, fun d H1 d0 d1 u1 => ⟨_, _, rfl, rfl, ?_⟩⟩
    obtain ⟨sz, rfl⟩ := Int.eq_ofNat_of_zero_le d0
    refine ⟨_, rfl, _, rfl, _, rfl, lf, bx, _, rfl, u1.2, by rw [ef]; omega, by rw [ef]; omega, fun d2 H2 e0 e1 u2 => ?_⟩
    obtain ⟨at', rfl⟩ := Int.eq_ofNat_of_zero_le e0
    have u12 := u1.trans u2
    refine ⟨_, rfl, bx, 3, rfl, u12.2, by decide, by decide, fun g H3 g0 g1 u3 => ⟨_, _, rfl, rfl, _, rfl, ?_⟩⟩
    have u13 := u12.trans u3
    have last : tRet (tTup (tCons (tCall spWordN [] C8.E0 (tCons (tVar 0) (tCons (tVar 3) tNil))) (tCons (tCall spWordN [] C8.E0 (tCons (tVar 0) (tCons (tC (V.int 1)) tNil))) tNil))) { nx := fun _ H' => Q .non H', rt := Q } [some (.ref bx), some (.str (W fl)), some (.int most), some (.int (1 + (sz : Int))), some (.int (at' : Nat))] H3 := by
      refine ⟨_, rfl, _, rfl, bx, sz + 1, by show [V.ref bx, V.int (1 + (sz : Int))] = _; rw [Int.add_comm]; rfl, u13.2, by omega, fun p H4 hp u4 => ?_⟩
      have u14 := u13.trans u4
      refine ⟨_, rfl, bx, 1, rfl, u14.2, by decide, fun c H5 hc u5 => ⟨i2, fun t nt => ?_⟩⟩
      have u15 := u14.trans u5
      match c, hc with
      | [cc], _ => exact k t p cc _ (u15.same (same_upd nt)) (u15.free nt) upd_same (fun z => by rw [z] at hp; cases hp) (by omega)
    refine ite2 (fun _ => ?_) (fun _ => last)
    refine ⟨_, rfl, _, rfl, _, _, rfl, rfl, _, rfl, _, rfl, lf, _, _, rfl, rfl, _, rfl, ?_⟩
    refine ite2 (fun c => ?_) (fun _ => last)
    have c' : at' + (1 + sz) < fl.length := by
      have := of_decide_eq_true c
      rw [ef] at this
      omega
    refine ⟨_, rfl, _, rfl, _, rfl, _, rfl, _, rfl, _, _, rfl, rfl, _, rfl, _, rfl, lf, ?_⟩
    have es : Txt.slice (W fl) (some ((at' : Nat) : Int)) (some (((at' : Nat) : Int) + (1 + (sz : Int)))) = W ((fl.drop at').take (1 + sz)) := by
      have := W_mid (l := fl) (i := at') (n := 1 + sz) (by omega)
      rw [← this]
      congr 2
    have hg : fl[at' + (1 + sz)]? = some fl[at' + (1 + sz)] := List.getElem?_eq_getElem c'
    have hat : atI (W fl).cps.toList (((at' : Nat) : Int) + (1 + (sz : Int))) = some (bt fl[at' + (1 + sz)]) := by
      rw [show ((at' : Nat) : Int) + (1 + (sz : Int)) = ((at' + (1 + sz) : Nat) : Int) by omega]
      refine atI_nat ?_
      rw [W_tl, List.getElem?_map, hg]
      rfl
    refine ⟨_, rfl, _, rfl, _, rfl, _, _, rfl, rfl, _, _, _, rfl, rfl, lf, hat, fl[at' + (1 + sz)], rfl, i2, fun t nt => ?_⟩
    refine k t ((fl.drop at').take (1 + sz)) (!fl[at' + (1 + sz)]) _ (u13.same (same_upd nt)) (u13.free nt) ?_ ?_ ?_
    · rw [upd_same]
      show some (HO.tup [V.str (Txt.slice (W fl) (some ((at' : Nat) : Int)) (some (((at' : Nat) : Int) + (1 + (sz : Int))))), _]) = _
      rw [es]
    · intro z
      have := congrArg List.length z
      rw [List.length_take, List.length_drop, List.length_nil] at this
      omega
    · rw [List.length_take]; omega
theorem sc_l_body : FnScope ["_law_stuffs", "_law_message", "_law_line", "_law_bit"] ["_law_stuffs", "_law_message"] (fnScope s_l_body) := fnScope_by (by decide +kernel)
theorem cal_l_body {f : Addr} {fd : FuncData} (F : Def K mg "_law_body" s_l_body f fd) (b : Binds K fd ["_law_stuffs", "_law_message"] []) (T : Tx mg) (c_l_chain : Cal P w K mg base 3 "_law_chain" spChain []) : Cal P w K mg base 4 "_law_body" spLBody2 [] := by
  refine cal0 F b .nil sc_l_body (fun vs H Q E h => ?_) (fun cdv A outer s H vs Q E hr h => ?_)
  · obtain ⟨_, _, _, rfl, _⟩ := h; rfl
  · obtain ⟨r, m, ss, rfl, hst, hm, hn, hs, hO, k⟩ := h
    refine ⟨_, (pss_cons (ps_set (i := 2) sc_l_body.nd rfl (.inl rfl) pe_str)
    (pss_cons (ps_for PassesOwn.never rfl (pi_str (pv 1)) (pg_name (i := 3) sc_l_body.nd rfl (.inl rfl))
    (pss_one (ps_set (i := 2) sc_l_body.nd rfl (.inl rfl) (pe_op op_add_str (pe_op op_add_str (pv 2) (pv 3)) (pe_c c_l_chain hr (by decide) rfl (pa_cons (pv 0) (pa_cons (pe_op op_add_str (pv 2) (pv 3)) pa_nil)))))))
    (pss_one (ps_ret (pv 2))))), ?_⟩
    obtain ⟨g, g0, g1, g2⟩ := body_steps hO m
    refine ⟨_, rfl, W m, rfl, for_it walk_str (fun i σ H2 => ∃ v3 : Option V, σ = [some (.ref r), some (.str (W m)), some (.str (W (g i))), v3] ∧ Same H H2) ⟨none, by rw [g0, ← W_nil]; rfl, Same.refl _⟩ (fun _ _ _ _ _ => trivial) ?_ ?_⟩
    · rintro i x σ H2 H3 hi ⟨v3, rfl, s2⟩ ⟨rfl, c, hc, rfl⟩
      obtain ⟨bb, hbb, rfl⟩ := W_get hc
      have hi' := (List.getElem?_eq_some_iff.mp hbb).1
      obtain ⟨x, hx, hx39, eg⟩ := g1 i bb hbb
      have hl := (g2 i (Nat.le_of_lt hi')).2
      have e1 : (W (g i)).length = (g i).length := W_len _
      have e2 : (⟨#[bt bb]⟩ : Str).length = 1 := W_len [bb]
      have ew : W (g i) ++ (⟨#[bt bb]⟩ : Str) = W (g i ++ [bb]) := W_cat (g i) [bb]
      have l3 : (g i ++ [bb]).length = (g i).length + 1 := by rw [List.length_append]; rfl
      have len1 : (W (g i)).length + (⟨#[bt bb]⟩ : Str).length ≤ sizeLine := by rw [e1, e2]; exact sl_len (by omega)
      have e3 : (W (g i ++ [bb])).length = (g i ++ [bb]).length := W_len _
      refine ⟨_, rfl, _, rfl, _, _, rfl, rfl, len1, _, rfl, _, rfl, _, rfl, _, _, rfl, rfl, len1, r, g i ++ [bb], ss, by rw [← ew]; rfl, hst.same s2, by omega, hn, hs, fun o H4 s4 ho1 ho2 => ?_⟩
      have eo := ho2 x hx hx39
      subst eo
      refine ⟨_, _, rfl, rfl, by rw [ew, e3, W_len]; exact sl_len (by omega), ?_⟩
      rw [ew, W_cat, ← eg]
      exact ⟨_, rfl, s2.trans s4⟩
    · rintro σ H2 ⟨v3, rfl, s2⟩
      have g3 := g2 m.length (Nat.le_refl _)
      rw [List.take_length] at g3
      refine ⟨_, rfl, ?_⟩
      rw [W_size]
      exact k _ H2 g3.1 g3.2 s2
end
end U

set_option maxRecDepth 100000
set_option maxHeartbeats 4000000
namespace U
open PySem PySem.Spec PyProof.Rows
open L2 hiding Fun CX0 E0 pass0 Fun.binds
open C8 Lx SX StX
def spRule2 : Sp := fun vs H Q _ => ∃ (b : Addr) (top most : Nat), vs = [.ref b, .int top, .int most] ∧ Box H b ∧ 2 ≤ top ∧ top ≤ 100 ∧ 1 ≤ most ∧ most ≤ 4 ∧
  ∀ (t : Addr) (f : List Bool) (ss : List Stf) H', Up b H H' → Told H' t f ss → 2 ≤ f.length → f.length ≤ top → ss.length ≤ 2 → StOk ss → OkN 39 ss → (∀ s ∈ ss, s.1.length ≤ most) → Q (.ref t) H'
section
variable {P : Program} {w : World} {K : PySem.W.Frag} {mg : Str → Option Value} {base : Heap}
theorem sc_l_rule : FnScope ["_law_box", "_law_top", "_law_most", "_law_flag", "_law_turn_here", "_law_stuffs", "_law_more"] ["_law_box", "_law_top", "_law_most"] (fnScope s_l_rule) := fnScope_by (by decide +kernel)
theorem cal_l_rule {f : Addr} {fd : FuncData} (F : Def K mg "_law_rule" s_l_rule f fd) (b : Binds K fd ["_law_box", "_law_top", "_law_most"] []) (T : Tx mg) (c_l_choose : Cal P w K mg base 1 "_law_choose" spChoose []) (c_l_one_of : Cal P w K mg base 2 "_law_one_of" spOneOf []) (c_l_word : Cal P w K mg base 3 "_law_word" spWordN [])
    (c_l_stuff : Cal P w K mg base 4 "_law_stuff" spStuff []) (c_l_are_stuffs : Cal P w K mg base 5 "_law_are_stuffs" spLAre []) : Cal P w K mg base 6 "_law_rule" spRule2 [] := by
  refine cal0 F b .nil sc_l_rule (fun vs H Q E h => ?_) (fun cdv A outer s H vs Q E hr h => ?_)
  · obtain ⟨_, _, _, rfl, _⟩ := h; rfl
  · obtain ⟨bx, top, most, rfl, hb, t2, t100, m1, m4, k⟩ := h
    refine ⟨_, (pss_cons (ps_set (i := 3) sc_l_rule.nd rfl (.inr rfl) (pe_c c_l_word hr (by decide) rfl (pa_cons (pv 0) (pa_cons (pe_op op_add pe_int (pe_c c_l_choose hr (by decide) rfl (pa_cons (pv 0) (pa_cons (pe_op op_sub (pv 1) pe_int) pa_nil)))) pa_nil))))
    (pss_cut (ps_set (i := 3) sc_l_rule.nd rfl (.inr rfl) (pe_ifExp (PW.pt (pw_and (pt_cmpR op_gt (pv 1) pe_int (nomark _)) (pw_and1 (pt_cmpR op_eq (pe_c c_l_choose hr (by decide) rfl (pa_cons (pv 0) (pa_cons pe_int pa_nil))) pe_int (nomark _))))) pe_str (pv 3)))
    (pss_cons (ps_for PassesOwn.never rfl (pi_range1 (by rfl) T.b_range (pa_cons pe_int pa_nil)) (pg_name (i := 4) sc_l_rule.nd rfl (.inl rfl))
    (pss_cons (ps_setLc (i := 5) (own := [("_law_more", 6)]) (g := gName 6) (by rfl) sc_l_rule.nd rfl rfl (sw_true rfl rfl rfl (by decide +kernel)) (pi_range1 (by rfl) T.b_range (pa_cons (pe_c c_l_one_of hr (by decide) rfl (pa_cons (pv 0) (pa_cons (pe_lst (pa_cons pe_int (pa_cons pe_int (pa_cons pe_int (pa_cons pe_int (pa_cons pe_int (pa_cons pe_int pa_nil))))))) pa_nil))) pa_nil)) (blkOk_by (own := [("_law_more", 6)]) (N := ["_law_box", "_law_top", "_law_most", "_law_flag", "_law_turn_here", "_law_stuffs", "_law_more"]) (sc := fnScope s_l_rule) (by decide +kernel)) (fun _ _ _ _ _ => (pg_name (i := 6) sc_l_rule.nd rfl (.inl rfl))) (fun _ _ _ _ _ => pts_nil) (fun _ _ _ _ _ => (pe_c c_l_stuff hr (by decide) rfl (pa_cons (pv 0) (pa_cons (pv 3) (pa_cons (pv 2) pa_nil))))))
    (pss_one (ps_if (pt_val (pe_c c_l_are_stuffs hr (by decide) rfl (pa_cons (pv 5) pa_nil))) (pss_one (ps_ret (pe_tup (pa_cons (pv 3) (pa_cons (pv 5) pa_nil))))) pss_nil))))
    (pss_one (ps_ret (pe_tup (pa_cons (pv 3) (pa_cons (pe_lst pa_nil) pa_nil)))))))), ?_⟩
    have i2 : 2 ≤ sizeLine := by decide
    refine ⟨_, rfl, _, rfl, _, rfl, _, _, rfl, rfl, bx, _, rfl, hb, by omega, by omega, fun d H1 d0 d1 u1 => ⟨_, _, rfl, rfl, ?_⟩⟩
    obtain ⟨n, rfl⟩ := Int.eq_ofNat_of_zero_le d0
    refine ⟨bx, 2 + n, by show [V.ref bx, V.int (2 + (n : Int))] = _; congr 2, u1.2, by omega, fun fl H2 hfl u2 => ?_⟩
    have u12 := u1.trans u2
    refine ⟨fun σ' H' => ∃ fl : List Bool, σ' = [some (.ref bx), some (.int top), some (.int most), some (.str (W fl)), none, none, none] ∧ Up bx H H' ∧ 2 ≤ fl.length ∧ fl.length ≤ top, ?_, ?_⟩
    · refine ⟨_, rfl, _, _, rfl, rfl, _, rfl, ?_⟩
      refine ite2 (fun c => ?_) (fun _ => ⟨_, rfl, fl, rfl, u12, by omega, by omega⟩)
      have ht : 4 < top := by have := of_decide_eq_true c; omega
      refine ⟨_, rfl, bx, 4, rfl, u12.2, by decide, by decide, fun d2 H3 _ _ u3 => ⟨rfl, _, rfl, ?_⟩⟩
      have u13 := u12.trans u3
      refine ite2 (fun _ => ?_) (fun _ => ⟨_, rfl, fl, rfl, u13, by omega, by omega⟩)
      have e : ("01110" : Str) = W [false, true, true, true, false] := by decide +kernel
      refine ⟨[false, true, true, true, false], ?_, u13, by decide, by show 5 ≤ top; omega⟩
      rw [← e]
      rfl
    · rintro σ' H3 ⟨fl, rfl, u3, fl2, flt⟩
      refine ⟨_, rfl, by decide, by decide, for_it walk_range (fun i σ H4 => ∃ v4 v5 : Option V, σ = [some (.ref bx), some (.int top), some (.int most), some (.str (W fl)), v4, v5, none] ∧ Up bx H H4) ⟨_, _, rfl, u3⟩ (fun _ _ _ _ _ => trivial) ?_ ?_⟩
      · rintro i x σ H4 H4' hi ⟨v4, v5, rfl, u4⟩ ⟨rfl, rfl⟩
        refine ⟨_, rfl, by show 6 ≤ sizeLine; decide, fun l0 nl0 => ?_⟩
        have u6 := u4.same (same_upd (o := .lst [.int 0, .int 1, .int 1, .int 1, .int 2, .int 2]) nl0)
        refine ⟨bx, l0, _, rfl, u6.2, upd_same, u4.2.ne nl0, by decide, by decide, fun v H7 hv u7 => ?_⟩
        obtain ⟨n, rfl, hn⟩ := mem6 hv
        have u67 := u6.trans u7
        refine ⟨_, rfl, by omega, by omega, fun D nD => ?_⟩
        have nDb : D ≠ bx := u67.2.ne nD
        have nD0 : H D = none := u67.free nD
        refine lc_it (walk_range (lo := 0) (n := (n : Int).toNat)) (fun j H8 => ∃ (ps : List Addr) (kb : Addr → Stf), Up bx H H8 ∧ H8 D = some (.lst (ps.map V.ref)) ∧ StV H8 kb ps ∧ ps.length = j ∧ ∀ s ∈ ps.map kb, s.1 ≠ [] ∧ s.1.length ≤ most)
          ⟨[], fun _ => ([], false), u67.same (same_upd nD), upd_same, (fun _ h => nomatch h), rfl, (fun _ h => nomatch h)⟩ (fun _ _ _ _ => trivial) ?_ ?_
        · rintro j x H8 H8' hj ⟨ps, kb, u8, hD8, hst, hps, hpat⟩ ⟨rfl, rfl⟩
          have hj2 : j < 2 := by
            have : j < ((n : Int)).toNat := hj
            omega
          refine ⟨rfl, ?_⟩
          refine ⟨_, rfl, _, rfl, _, rfl, bx, fl, most, rfl, u8.2, by omega, by omega, by omega, by omega, fun q pw bb H9 u9 nq hq pne pl => ?_⟩
          have hD9 := u9.1 _ _ hD8 nDb
          have hst9 : StV H9 kb ps := fun t ht => u9.1 _ _ (hst t ht) (u8.2.neT (hst t ht))
          have nqp : ∀ t ∈ ps, t ≠ q := fun t ht => ne_of_none (hst t ht) nq
          have hst12 : StV H9 (fun a => if a = q then (pw, bb) else kb a) (ps ++ [q]) := fun t ht => by
            rcases List.mem_append.mp ht with m | m
            · simp only [if_neg (nqp t m)]
              exact hst9 t m
            · rw [List.mem_singleton.mp m]
              simp only [if_pos]
              exact hq
          have hmk : (ps ++ [q]).map (fun a => if a = q then (pw, bb) else kb a) = ps.map kb ++ [(pw, bb)] := by
            rw [List.map_append]
            congr 1
            · refine List.map_congr_left fun t ht => if_neg (nqp t ht)
            · show [if q = q then (pw, bb) else kb q] = _
              rw [if_pos rfl]
          refine ⟨_, hD9, by rw [List.length_map]; exact sl_lt (by omega), ps ++ [q], fun a => if a = q then (pw, bb) else kb a, (u8.trans u9).mut nD0 nDb, by rw [upd_same, List.map_append]; rfl, fun t ht => ?_, by rw [List.length_append, List.length_cons, List.length_nil]; omega, ?_⟩
          · rw [upd_ne (ne_of (hst12 t ht) hD9 (by intro z; cases z))]
            exact hst12 t ht
          · rw [hmk]
            intro s hs
            rcases List.mem_append.mp hs with m | m
            · exact hpat s m
            · rw [List.mem_singleton.mp m]; exact ⟨pne, pl⟩
        · rintro H8 ⟨ps, kb, u8, hD8, hst, hps, hpat⟩
          have hn2 : ps.length ≤ 2 := by
            have : ps.length = ((n : Int)).toNat := hps
            omega
          refine ⟨_, rfl, D, ps.map kb, rfl, ⟨ps, kb, hD8, hst, rfl⟩, by rw [List.length_map]; omega, fun s hs => Nat.le_trans (hpat s hs).2 m4, fun r H9 s9 hr9 => ⟨_, rfl, ?_⟩⟩
          have u9 := u8.same s9
          cases r with
          | true =>
            obtain ⟨hfree, hokr⟩ := hr9 rfl
            refine ⟨_, rfl, _, rfl, i2, fun t nt => ?_⟩
            have st := same_upd (o := .tup [.str (W fl), .ref D]) nt
            refine k t fl (ps.map kb) _ (u9.same st) ⟨D, ps, kb, upd_same, st _ _ (s9 _ _ hD8), (hst.same s9).same st, rfl⟩ fl2 flt (by rw [List.length_map]; exact hn2) ⟨by rw [List.length_map]; omega, fun s hs => (hpat s hs).1, longM_max fun s hs => Nat.le_trans (hpat s hs).2 (by omega), hfree⟩ hokr fun s hs => (hpat s hs).2
          | false => exact ⟨_, _, rfl, u9⟩
      · rintro σ H4 ⟨v4, v5, rfl, u4⟩
        refine ⟨_, rfl, Nat.zero_le _, fun l nl => ⟨i2, fun t nt => ?_⟩⟩
        have st : Same H4 (upd (upd H4 l (.lst [])) t (.tup [.str (W fl), .ref l])) := (same_upd nl).trans (same_upd nt)
        exact k t fl [] _ (u4.same st) ⟨l, [], fun _ => ([], false), upd_same, same_upd nt _ _ upd_same, (fun _ h => nomatch h), rfl⟩ fl2 flt (Nat.zero_le _) ⟨Nat.zero_le _, (fun _ h => nomatch h), Nat.zero_le _, .nil⟩ (OkN.mono okS_nil (by decide)) (fun _ h => nomatch h)
end
end U

set_option maxRecDepth 100000
set_option maxHeartbeats 4000000
namespace U
open PySem PySem.Spec PyProof.Rows
open L2 hiding Fun CX0 E0 pass0 Fun.binds
open C8 Lx SX StX
def spLaw (K : PySem.W.Frag) : Sp := fun vs H Q _ => ∃ (a : Addr) (ns : List Int), vs = [.ref a] ∧ SqL K H a (ns.map V.int) ∧ ns.length ≤ 63 ∧ ∀ H', Q (.bl true) H'
/-- a rule made of stuffs in a list -/
theorem mk_stl {K : PySem.W.Frag} {C : Addr} {H : Hp} {l : Addr} {z : Str} {f : List Bool} {ss : List Stf} {R : Addr → Hp → Prop} {E : XK} (hz : z = W f) (hl : Stl H l ss) (ok : StOk ss) (hO : OkR ss) (h2 : 2 ≤ f.length) (h3 : f.length ≤ 1000)
    (k : ∀ x ss' H', Same H H' → ss'.Perm ss → SortedS ss' → RuAt C H' x f ss' → R x H') :
    ∀ x dx, H x = none → H dx = none → dx ≠ x → spRuInit K C [.ref x, .str z, .ref l] (upd (upd H dx (.own x)) x (.ins C dx [])) (fun v H2 => v = .non ∧ R x H2) E := by
  subst hz
  intro x dx nx ndx nex
  obtain ⟨ps, kb, h1, hs, rfl⟩ := hl
  have sm : Same H (upd (upd H dx (.own x)) x (.ins C dx [])) := fun c o e => by
    rw [upd_ne (ne_of_none e nx), upd_ne (ne_of_none e ndx)]; exact e
  exact ⟨x, dx, l, f, ps, kb, rfl, upd_same, .inl (SqL.of (sm _ _ h1)), hs.same sm, ok, hO, h2, h3, fun H' ss' keep pm srt hR => ⟨rfl, k x ss' H' (Same.made nx ndx keep) pm srt hR⟩⟩
theorem Told.stl {H : Hp} {t : Addr} {f : List Bool} {ss : List Stf} (h : Told H t f ss) : ∃ l, H t = some (.tup [.str (W f), .ref l]) ∧ Stl H l ss := by
  obtain ⟨l, ps, kb, h1, h2, h3, h4⟩ := h
  exact ⟨l, h1, ps, kb, h2, h3, h4⟩
theorem mk_def {K : PySem.W.Frag} {C dE : Addr} {H : Hp} {z : Str} {f : List Bool} {R : Addr → Hp → Prop} {E : XK} (hz : z = W f) (hE : ∀ H, SqT K H dE []) (h2 : 2 ≤ f.length) (h3 : f.length ≤ 1000)
    (k : ∀ x H', Same H H' → RuAt C H' x f [] → R x H') :
    ∀ x dx, H x = none → H dx = none → dx ≠ x → spRuInit K C [.ref x, .str z, .ref dE] (upd (upd H dx (.own x)) x (.ins C dx [])) (fun v H2 => v = .non ∧ R x H2) E := by
  subst hz
  intro x dx nx ndx nex
  refine ⟨x, dx, dE, f, [], fun _ => ([], false), rfl, upd_same, .inr (hE _), (fun _ h => nomatch h), ⟨Nat.zero_le _, (fun _ h => nomatch h), Nat.zero_le _, .nil⟩, okR_nil, h2, h3, fun H' ss' keep pm srt hR => ⟨rfl, ?_⟩⟩
  have es : ss' = [] := List.Perm.eq_nil pm
  subst es
  exact k x H' (Same.made nx ndx keep) hR
end U

set_option maxRecDepth 100000
set_option maxHeartbeats 4000000
namespace U
open PySem PySem.Spec PyProof.Rows
open L2 hiding Fun CX0 E0 pass0 Fun.binds
open C8 Lx SX StX
/-! texts of rules -/
def stT (s : Stf) : Str := W s.1 ++ ":" ++ W [s.2]
def ruWs (f : List Bool) (ss : List Stf) : List Str := "flag" :: W f :: (if ss = [] then [] else "put" :: ss.map stT)
def ruT (f : List Bool) (ss : List Stf) : Str := Txt.join " " (ruWs f ss)
theorem lenC (a b : Str) : (a ++ b).length = a.length + b.length := by
  rw [TL.len_tl, TL.len_tl a, TL.len_tl b]
  have := TL.tl_append a b
  show (TL.tl (a ++ b)).length = _
  rw [this, List.length_append]
theorem no_in (c : Nat) (h : ¬ c = 48 ∧ ¬ c = 49) (l : List Bool) : c ∉ TL.tl (W l) := by
  show c ∉ l.map bt
  intro z
  obtain ⟨b, _, e⟩ := List.mem_map.mp z
  cases b
  · exact h.1 e.symm
  · exact h.2 e.symm
theorem sp_tl : TL.tl (" " : Str) = 32 :: [] := by decide +kernel
theorem co_tl : TL.tl (":" : Str) = 58 :: [] := by decide +kernel
theorem sp_st (s : Stf) : (32 : Nat) ∉ TL.tl (stT s) := by
  unfold stT
  rw [TL.tl_append, TL.tl_append, co_tl]
  intro z
  rcases List.mem_append.mp z with z | z
  · rcases List.mem_append.mp z with z | z
    · exact no_in 32 (by decide) _ z
    · exact absurd (List.mem_singleton.mp z) (by decide)
  · exact no_in 32 (by decide) _ z
theorem sp_ws (f : List Bool) (ss : List Stf) : ∀ p ∈ ruWs f ss, (32 : Nat) ∉ TL.tl p := by
  intro p hp
  unfold ruWs at hp
  rcases List.mem_cons.mp hp with rfl | hp
  · decide +kernel
  · rcases List.mem_cons.mp hp with rfl | hp
    · exact no_in 32 (by decide) _
    · split at hp
      · cases hp
      · rcases List.mem_cons.mp hp with rfl | hp
        · decide +kernel
        · obtain ⟨s, _, rfl⟩ := List.mem_map.mp hp
          exact sp_st s
theorem ruT_split (f : List Bool) (ss : List Stf) : Txt.split (ruT f ss) " " = ruWs f ss :=
  TL.split_join sp_tl (by decide +kernel) (by unfold ruWs; exact List.cons_ne_nil _ _) (sp_ws f ss)
theorem stT_part (s : Stf) : Txt.partition (stT s) ":" = (W s.1, (":" : Str), W [s.2]) := TL.partition_app co_tl (no_in 58 (by decide) _)
theorem stT_inj {s t : Stf} (h : stT s = stT t) : s = t := by
  have e := congrArg (fun z => Txt.partition z ":") h
  simp only [stT_part] at e
  have e1 := W_inj (congrArg Prod.fst e)
  have e2 := W_inj (congrArg (fun z => z.2.2) e)
  exact Prod.ext e1 (List.cons.inj e2).1
theorem map_stT_inj : ∀ {ss ts : List Stf}, ss.map stT = ts.map stT → ss = ts
  | [], [], _ => rfl
  | [], _ :: _, h => by simp at h
  | _ :: _, [], h => by simp at h
  | a :: l, b :: m, h => by
    rw [List.map_cons, List.map_cons] at h
    injection h with h1 h2
    rw [stT_inj h1, map_stT_inj h2]
theorem ruT_inj {f f' : List Bool} {ss ss' : List Stf} (h : ruT f ss = ruT f' ss') : f = f' ∧ ss = ss' := by
  have e := congrArg (fun z => Txt.split z " ") h
  simp only [ruT_split] at e
  unfold ruWs at e
  injection e with _ e
  injection e with e1 e2
  refine ⟨W_inj e1, ?_⟩
  by_cases c : ss = []
  · by_cases c' : ss' = []
    · rw [c, c']
    · rw [if_pos c, if_neg c'] at e2; cases e2
  · by_cases c' : ss' = []
    · rw [if_neg c, if_pos c'] at e2; cases e2
    · rw [if_neg c, if_neg c'] at e2
      injection e2 with _ e2
      exact map_stT_inj e2
theorem ruT_eq {f f' : List Bool} {ss ss' : List Stf} : ruT f ss = ruT f' ss' ↔ (f = f' ∧ ss = ss') := ⟨ruT_inj, fun h => by rw [h.1, h.2]⟩
/-! a sorted row of stuffs is one -/
theorem key_inj {s t : Stf} (h : key s = key t) : s = t := by
  have e1 := W_inj (congrArg Prod.fst h)
  have e2 := W_inj (congrArg Prod.snd h)
  exact Prod.ext e1 (List.cons.inj e2).1
theorem lex_anti {s t : Stf} (h1 : SrT.lexT (key s) (key t) = false) (h2 : SrT.lexT (key t) (key s) = false) : s = t := by
  refine key_inj ?_
  rcases SrT.lexT_no.mp h1 with a | ⟨a, b⟩
  · rcases SrT.lexT_no.mp h2 with c | ⟨c, d⟩
    · exact absurd c (List.lt_asymm a)
    · rw [c] at a; exact absurd a (List.lt_irrefl _)
  · rcases SrT.lexT_no.mp h2 with c | ⟨c, d⟩
    · rw [a] at c; exact absurd c (List.lt_irrefl _)
    · refine Prod.ext a ?_
      exact TL.ext_tl (List.le_antisymm (List.not_lt.mp d) (List.not_lt.mp b))
theorem sorted_one : ∀ {ss ts : List Stf}, ss.Perm ts → SortedS ss → SortedS ts → ss = ts
  | [], ts, p, _, _ => (List.Perm.nil_eq p)
  | a :: l, [], p, _, _ => absurd (List.Perm.eq_nil p) (List.cons_ne_nil _ _)
  | a :: l, b :: m, p, h1, h2 => by
    obtain ⟨a1, a2⟩ := List.pairwise_cons.mp h1
    obtain ⟨b1, b2⟩ := List.pairwise_cons.mp h2
    have e : a = b := by
      rcases List.mem_cons.mp (p.mem_iff.mp (List.mem_cons_self (a := a) (l := l))) with z | z
      · exact z
      · rcases List.mem_cons.mp (p.mem_iff.mpr (List.mem_cons_self (a := b) (l := m))) with y | y
        · exact y.symm
        · exact lex_anti (b1 a z) (a1 b y)
    subst e
    rw [sorted_one (List.Perm.cons_inv p) a2 b2]
theorem RuAt.few {C : Addr} {H : Hp} {a : Addr} {f : List Bool} {ss : List Stf} (h : RuAt C H a f ss) : ∃ dx t, H a = some (.ins C dx (ruF f t)) := by
  obtain ⟨dx, t, _, _, h1, _⟩ := h
  exact ⟨dx, t, h1⟩
/-- a rule that is small enough for its text -/
structure RuSm (f : List Bool) (ss : List Stf) : Prop where
  fl : f.length ≤ 1000
  few : ss.length ≤ 1000
  long : ∀ s ∈ ss, s.1.length ≤ 9
theorem StOk.sm {f : List Bool} {ss : List Stf} (h : StOk ss) (hf : f.length ≤ 1000) : RuSm f ss := ⟨hf, h.few, h.l9⟩
def spRuStr (C : Addr) : Sp := fun vs H Q _ => ∃ (a : Addr) (f : List Bool) (ss : List Stf), vs = [.ref a] ∧ RuAt C H a f ss ∧ RuSm f ss ∧ ∀ H', Same H H' → Q (.str (ruT f ss)) H'
def spRuEq (C : Addr) : Sp := fun vs H Q _ => ∃ (a b : Addr) (f f' : List Bool) (ss ss' : List Stf), vs = [.ref a, .ref b] ∧ RuAt C H a f ss ∧ RuSm f ss ∧ RuAt C H b f' ss' ∧ RuSm f' ss' ∧ ∀ H', Same H H' → Q (.bl (decide (f = f' ∧ ss = ss'))) H'
def spRuLen (C : Addr) : Sp := fun vs H Q _ => ∃ (a : Addr) (f : List Bool) (ss : List Stf), vs = [.ref a] ∧ RuAt C H a f ss ∧ Q (.int (ss.length : Nat)) H
theorem stT_len {s : Stf} (h : s.1.length ≤ 9) : (stT s).length ≤ 11 := by
  unfold stT
  rw [lenC, lenC, W_len, W_len, show (":" : Str).length = 1 by decide +kernel]
  simp only [List.length_cons, List.length_nil]
  omega
theorem sum_st : ∀ {ss : List Stf}, (∀ s ∈ ss, s.1.length ≤ 9) → ((ss.map stT).map (·.length)).sum ≤ 11 * ss.length
  | [], _ => Nat.le_refl _
  | s :: r, h => by
    have h1 := stT_len (h s List.mem_cons_self)
    have h2 := sum_st fun t ht => h t (List.mem_cons_of_mem _ ht)
    rw [List.map_cons, List.map_cons, List.sum_cons, List.length_cons]
    omega
section
variable {P : Program} {w : World} {K : PySem.W.Frag} {mg : Str → Option Value} {base : Heap}
theorem sc_Rule_str : FnScope ["self", "told", "pattern", "bit"] ["self"] (fnScope s_Rule_str) := fnScope_by (by decide +kernel)
theorem met_Rule_str {f C : Addr} {fd : FuncData} (F : C8.Fun K "__str__" "Rule.__str__" s_Rule_str f fd) (me : Meth K C "__str__" f) (b : Binds K fd ["self"] []) (T : Tx mg) (RT : RuT K C) : Met P w K mg base 1 C "__str__" (spRuStr C) [] := by
  refine met0 RT.cl me F b sc_Rule_str (fun vs H Q E h => ?_) (fun cdv A outer s H vs Q E hr h => ?_)
  · obtain ⟨_, _, _, rfl, _⟩ := h; rfl
  · obtain ⟨a, fl, ss, rfl, hR, sm, k⟩ := h
    refine ⟨_, (pss_cons (ps_setLc (i := 1) (own := [("pattern", 2), ("bit", 3)]) (g := gTup K 2 (gCons (gName 2) (gCons (gName 3) gNil))) (by rfl) sc_Rule_str.nd rfl rfl (sw_true rfl rfl rfl (by decide +kernel)) (pi_tup (pe_fld (pv 0) rfl)) (blkOk_by (own := [("pattern", 2), ("bit", 3)]) (N := ["self", "told", "pattern", "bit"]) (sc := fnScope s_Rule_str) (by decide +kernel)) (fun _ _ _ _ _ => (pg_tup rfl (pgs_cons (pg_name (i := 2) sc_Rule_str.nd rfl (.inl rfl)) (pgs_cons (pg_name (i := 3) sc_Rule_str.nd rfl (.inl rfl)) pgs_nil)))) (fun _ _ _ _ _ => pts_nil) (fun _ _ _ _ _ => (pe_jn (.cons (pe_fmt (pv 2)) (.cons pe_str (.cons (pe_fmt (pv 3)) .nil))))))
    (pss_one (ps_ret (pe_join pe_str (pe_lst (pa_cons pe_str (pa_cons (pe_fld (pv 0) rfl) (pa_star (pe_ifExp (pt_cmpR op_gt (pe_callB call_len_seq (by rfl) T.b_len (by decide +kernel) (pa_cons (pv 1) pa_nil)) pe_int (nomark _)) (pe_lst (pa_cons pe_str (pa_star (pv 1) pa_nil))) (pe_lst pa_nil)) pa_nil)))))))), ?_⟩
    obtain ⟨dx, t, ps, kb, ha, ht, hv, rfl⟩ := id hR
    refine ⟨_, rfl, a, C, dx, _, _, rfl, ha, RT.cl, RT.nS, ruF_stuffs _ _, t, rfl, ⟨_, SqT.of ht⟩, fun D nD => ?_⟩
    refine lc_it (walk_tup (xs := ps.map V.ref)) (fun i H2 => Same H H2 ∧ H2 D = some (.lst ((((ps.map kb).take i).map stT).map V.str))) ⟨same_upd nD, upd_same⟩ (fun i H2 _ h2 => SqT.of (h2.1 _ _ ht)) ?_ ?_
    · rintro i x H2 H3 hi ⟨s2, hD⟩ ⟨rfl, hx⟩
      rw [List.getElem?_map] at hx
      obtain ⟨q, hq, rfl⟩ := Option.map_eq_some_iff.mp hx
      have hqm := List.mem_of_getElem? hq
      have hqv := s2 _ _ (hv q hqm)
      have l9 := sm.long (kb q) (List.mem_map.mpr ⟨q, hqm, rfl⟩)
      have e1 : Str.empty ++ W (kb q).1 = W (kb q).1 := by
        have e : Str.empty = W [] := by decide +kernel
        rw [e, W_cat]; rfl
      have l1 : (":" : Str).length = 1 := by decide +kernel
      refine ⟨q, _, rfl, SqT.of hqv, rfl, _, _, rfl, _, _, rfl, rfl, rfl, ?_⟩
      refine ⟨_, rfl, .inl ⟨_, rfl, by rw [W_len]; exact sl_len (by omega), _, rfl, by rw [e1, W_len]; exact sl_len (by omega), ?_⟩⟩
      refine ⟨_, rfl, by rw [e1, lenC, W_len, l1]; exact sl_len (by omega), ?_⟩
      refine ⟨_, rfl, .inl ⟨_, rfl, by rw [W_len]; exact sl_len (by show 1 ≤ 100000; decide), _, rfl, by rw [e1, lenC, lenC, W_len, W_len, l1]; exact sl_len (by simp only [List.length_cons, List.length_nil]; omega), ?_⟩⟩
      refine ⟨_, hD, ?_, ?_, ?_⟩
      · rw [List.length_map, List.length_map, List.length_take]
        have := sm.few
        exact sl_lt (by omega)
      · intro c o e
        rw [upd_ne (ne_of_none e nD)]
        exact s2 _ _ e
      · rw [upd_same, e1, List.take_add_one, List.getElem?_map, hq]
        simp [stT]
    · rintro H2 ⟨s2, hD⟩
      have el : ((ps.map kb).take (ps.map V.ref).length) = ps.map kb := List.take_of_length_le (by simp)
      rw [el] at hD
      have lk : (ps.map kb).length ≤ 1000 := sm.few
      have ls := sum_st sm.long
      refine ⟨⟨_, rfl⟩, ?_⟩
      refine ⟨_, rfl, a, C, dx, _, _, rfl, s2 _ _ ha, RT.cl, RT.nF, ruF_flag _ _, ?_⟩
      refine ⟨_, rfl, D, _, rfl, .inl (SqL.of hD), _, _, rfl, rfl, _, rfl, ?_⟩
      have l4 : ("flag" : Str).length = 4 := by decide +kernel
      have l3 : ("put" : Str).length = 3 := by decide +kernel
      have l1 : (" " : Str).length = 1 := by decide +kernel
      by_cases c : ps.map kb = []
      · refine iteDF (by rw [c]; decide) ?_
        refine ⟨Nat.zero_le _, fun p np => ?_⟩
        refine ⟨p, _, rfl, .inr (SqL.of upd_same), ?_⟩
        refine ⟨by show 2 ≤ sizeLine; decide, fun q nq => ?_⟩
        refine ⟨_, q, ["flag", W fl], rfl, rfl, .inl (SqL.of upd_same), ?_, ?_⟩
        · rw [l1]
          simp only [List.map_cons, List.map_nil, List.sum_cons, List.sum_nil, l4, W_len, List.length_cons, List.length_nil]
          have := sm.fl
          omega
        · have := k _ ((s2.trans (same_upd np)).trans (same_upd (o := .lst [.str "flag", .str (W fl)]) nq))
          unfold ruT ruWs at this
          rw [if_pos c] at this
          exact this
      · have c1 : 0 < (ps.map kb).length := List.length_pos_iff.mpr c
        refine iteDT (by rw [List.length_map, List.length_map]; omega) ?_
        refine ⟨_, rfl, D, _, rfl, .inr (SqL.of hD), by rw [List.length_cons, List.append_nil, List.length_map, List.length_map]; exact sl_len (by omega), fun p np => ?_⟩
        refine ⟨p, _, rfl, .inr (SqL.of upd_same), by rw [List.length_cons, List.length_cons, List.append_nil, List.length_cons, List.append_nil, List.length_map, List.length_map]; exact sl_len (by omega), fun q nq => ?_⟩
        refine ⟨_, q, "flag" :: W fl :: "put" :: (ps.map kb).map stT, rfl, rfl, .inl (SqL.of (by rw [upd_same]; simp)), ?_, ?_⟩
        · rw [l1]
          simp only [List.map_cons, List.sum_cons, l4, l3, W_len, List.length_cons, List.length_map] at ls lk ⊢
          have := sm.fl
          omega
        · have e := (s2.trans (same_upd np)).trans (same_upd (o := .lst ((V.str "flag" :: V.str (W fl) :: ((V.str "put" :: (((ps.map kb).map stT).map V.str ++ [])) ++ [])))) nq)
          have := k _ e
          unfold ruT ruWs at this
          rw [if_neg c] at this
          exact this
theorem sc_Rule_eq : FnScope ["self", "other"] ["self", "other"] (fnScope s_Rule_eq) := fnScope_by (by decide +kernel)
theorem met_Rule_eq {f C : Addr} {fd : FuncData} (F : C8.Fun K "__eq__" "Rule.__eq__" s_Rule_eq f fd) (me : Meth K C "__eq__" f) (b : Binds K fd ["self", "other"] []) (T : Tx mg) (RT : RuT K C) (g_Rule : mg "Rule" = some (.ref C)) (IS_Rule : IsT K C)
    (c_Rule_str : Met P w K mg base 1 C "__str__" (spRuStr C) []) : Met P w K mg base 4 C "__eq__" (spRuEq C) [] := by
  refine met0 RT.cl me F b sc_Rule_eq (fun vs H Q E h => ?_) (fun cdv A outer s H vs Q E hr h => ?_)
  · obtain ⟨_, _, _, _, _, _, rfl, _⟩ := h; rfl
  · obtain ⟨a, b, fl, fl', ss, ss', rfl, ra, h1, rb, h2, k⟩ := h
    refine ⟨_, (pss_one (ps_ret (pe_and (pe_callB call_isi (by rfl) T.b_isinstance (by decide +kernel) (pa_cons (pv 1) (pa_cons (pe_glob (v := .ref C) (by rfl) g_Rule rfl) pa_nil))) (pe_one (pe_cmpR op_eq (pe_callTy (call_str_own c_Rule_str hr (by decide)) (by rfl) T.b_str (by decide +kernel) (pa_cons (pv 0) pa_nil)) (pe_callTy (call_str_own c_Rule_str hr (by decide)) (by rfl) T.b_str (by decide +kernel) (pa_cons (pv 1) pa_nil)) (nomark _)))))), ?_⟩
    obtain ⟨dx, t, ha⟩ := ra.few
    obtain ⟨dy, t', hb⟩ := rb.few
    refine ⟨_, rfl, _, _, _, _, true, rfl, .own C, IS_Rule.ty hb, IS_Rule.one, _, rfl, ?_⟩
    refine ⟨_, rfl, a, dx, _, rfl, ha, a, fl, ss, rfl, ra, h1, fun H1 s1 => ⟨_, rfl, ?_⟩⟩
    refine ⟨_, rfl, b, dy, _, rfl, s1 _ _ hb, b, fl', ss', rfl, rb.same s1, h2, fun H2 s2 => ⟨_, rfl, rfl, ?_⟩⟩
    have e : decide (V.str (ruT fl ss) = V.str (ruT fl' ss')) = decide (fl = fl' ∧ ss = ss') := by
      rw [decide_eq_decide]
      exact ⟨fun z => ruT_inj (V.str.inj z), fun z => by rw [z.1, z.2]⟩
    rw [e]
    exact k H2 (s1.trans s2)
theorem sc_Rule_len : FnScope ["self"] ["self"] (fnScope s_Rule_len) := fnScope_by (by decide +kernel)
theorem met_Rule_len {f C : Addr} {fd : FuncData} (F : C8.Fun K "__len__" "Rule.__len__" s_Rule_len f fd) (me : Meth K C "__len__" f) (b : Binds K fd ["self"] []) (T : Tx mg) (RT : RuT K C) : Met P w K mg base 1 C "__len__" (spRuLen C) [] := by
  refine met0 RT.cl me F b sc_Rule_len (fun vs H Q E h => ?_) (fun cdv A outer s H vs Q E hr h => ?_)
  · obtain ⟨_, _, _, rfl, _⟩ := h; rfl
  · obtain ⟨a, fl, ss, rfl, hR, k⟩ := h
    refine ⟨_, (pss_one (ps_ret (pe_callB call_len_seq (by rfl) T.b_len (by decide +kernel) (pa_cons (pe_fld (pv 0) rfl) pa_nil)))), ?_⟩
    obtain ⟨dx, t, ps, kb, ha, ht, hv, rfl⟩ := id hR
    refine ⟨_, rfl, a, C, dx, _, _, rfl, ha, RT.cl, RT.nS, ruF_stuffs _ _, t, _, rfl, .inr (SqT.of ht), ?_⟩
    rw [List.length_map] at k ⊢
    exact k
end
end U

set_option maxRecDepth 100000
namespace U
/-! 0 and 1 exchanged -/
def sw (l : List Bool) : List Bool := l.map not
def swS (s : Stf) : Stf := (sw s.1, !s.2)
theorem sw_len (l : List Bool) : (sw l).length = l.length := List.length_map _
theorem sw_sw (l : List Bool) : sw (sw l) = l := by
  unfold sw
  rw [List.map_map]
  exact (List.map_congr_left fun b _ => Bool.not_not b).trans (List.map_id l)
theorem sw_app (a b : List Bool) : sw (a ++ b) = sw a ++ sw b := List.map_append
theorem sw_inj {a b : List Bool} (h : sw a = sw b) : a = b := by rw [← sw_sw a, h, sw_sw]
theorem swS_swS (s : Stf) : swS (swS s) = s := by
  unfold swS
  exact Prod.ext (sw_sw s.1) (Bool.not_not s.2)
theorem map_sw2 (ss : List Stf) : (ss.map swS).map swS = ss := by
  rw [List.map_map]
  exact (List.map_congr_left fun s _ => swS_swS s).trans (List.map_id ss)
theorem sw_suf {p l : List Bool} : sw p <:+ sw l ↔ p <:+ l := by
  constructor
  · rintro ⟨t, h⟩
    refine ⟨sw t, ?_⟩
    have := congrArg sw h
    rw [sw_app, sw_sw, sw_sw] at this
    exact this
  · rintro ⟨t, rfl⟩
    exact ⟨sw t, by rw [sw_app]⟩
theorem sw_isSuf (p l : List Bool) : (sw p).isSuffixOf (sw l) = p.isSuffixOf l := by
  rw [Bool.eq_iff_iff, List.isSuffixOf_iff_suffix, List.isSuffixOf_iff_suffix]
  exact sw_suf
theorem put_sw (l : List Bool) : ∀ ss : List Stf, putM (ss.map swS) (sw l) = (putM ss l).map not
  | [] => rfl
  | s :: r => by
    unfold putM
    rw [List.map_cons, List.find?_cons, List.find?_cons]
    show Option.map (fun x => x.2) (match (sw s.1).isSuffixOf (sw l) with | true => some (swS s) | false => _) = _
    rw [sw_isSuf]
    cases s.1.isSuffixOf l with
    | true => rfl
    | false => exact put_sw l r
theorem Ins.sw {ss : List Stf} {l x : List Bool} (h : Ins ss l x) : Ins (ss.map swS) (U.sw l) (U.sw x) := by
  induction h with
  | stop h => exact .stop (by rw [put_sw, h]; rfl)
  | more h _ ih =>
    refine .more (by rw [put_sw, h]; rfl) ?_
    rw [sw_app] at ih
    exact ih
theorem Reach.sw {ss : List Stf} {l : List Bool} (h : Reach ss l) : Reach (ss.map swS) (U.sw l) := by
  induction h with
  | nil => exact .nil
  | next _ i ih =>
    have := i.sw
    rw [sw_app] at this
    have r := Reach.next ih this
    rw [sw_app, sw_app]
    exact r
theorem OkN.sw {n : Nat} {ss : List Stf} (h : OkN n ss) : OkN n (ss.map swS) := fun l r b => by
  have r2 := r.sw
  rw [map_sw2] at r2
  obtain ⟨x, hx, hl⟩ := h _ r2 (!b)
  refine ⟨U.sw x, ?_, by rw [sw_len]; exact hl⟩
  have := hx.sw
  rw [sw_app, sw_sw] at this
  have e : U.sw [!b] = [b] := by cases b <;> rfl
  rw [e] at this
  exact this
theorem OkR.sw {ss : List Stf} (h : OkR ss) : OkR (ss.map swS) := fun l r b => by
  have r2 := r.sw
  rw [map_sw2] at r2
  obtain ⟨x, hx⟩ := h _ r2 (!b)
  refine ⟨U.sw x, ?_⟩
  have := hx.sw
  rw [sw_app, sw_sw] at this
  have e : U.sw [!b] = [b] := by cases b <;> rfl
  rw [e] at this
  exact this
theorem Body.sw {ss : List Stf} {m l : List Bool} (h : Body ss m l) : Body (ss.map swS) (U.sw m) (U.sw l) := by
  induction h with
  | nil => exact .nil
  | snoc _ i ih =>
    have := i.sw
    rw [sw_app] at this
    have r := Body.snoc ih this
    rw [sw_app, sw_app, sw_app]
    exact r
theorem SufFree.sw {ss : List Stf} (h : SufFree ss) : SufFree (ss.map swS) := by
  unfold SufFree at h ⊢
  rw [List.pairwise_map]
  refine h.imp fun {a b} hab => ?_
  exact ⟨fun z => hab.1 (sw_suf.mp z), fun z => hab.2 (sw_suf.mp z)⟩
end U

set_option maxRecDepth 100000
namespace U
theorem sw_pre {p l : List Bool} : sw p <+: sw l ↔ p <+: l := by
  constructor
  · rintro ⟨t, h⟩
    refine ⟨sw t, ?_⟩
    have := congrArg sw h
    rw [sw_app, sw_sw, sw_sw] at this
    exact this
  · rintro ⟨t, rfl⟩
    exact ⟨sw t, by rw [sw_app]⟩
theorem sw_drop (i : Nat) (l : List Bool) : (sw l).drop i = sw (l.drop i) := by unfold sw; rw [List.map_drop]
theorem sw_tl (n : Nat) (l : List Bool) : tl n (sw l) = sw (tl n l) := by unfold tl; rw [sw_len, sw_drop]
theorem SpL.sw {f l : List Bool} : SpL (U.sw f) (U.sw l) ↔ SpL f l := by
  unfold SpL
  simp only [sw_len, ← sw_app, sw_drop, sw_pre]
theorem infx_sw (f l : List Bool) : infx (sw f) (sw l) = infx f l := by
  rw [Bool.eq_iff_iff, infx_iff, infx_iff]
  simp only [sw_len, sw_drop, sw_pre]
theorem bordM_sw (f l : List Bool) : bordM (sw f) (sw l) = bordM f l := by
  rw [Bool.eq_iff_iff, bordM_iff, bordM_iff, SpL.sw]
theorem posM_sw (l f : List Bool) : posM (sw l) (sw f) = posM l f := by
  cases e : posM l f with
  | none =>
    rw [posM_none] at e ⊢
    simp only [sw_len, sw_drop, sw_pre]
    exact e
  | some i =>
    rw [posM_some] at e ⊢
    simp only [sw_len, sw_drop, sw_pre]
    exact e
theorem bodyF_sw {ss : List Stf} (o : OkN 39 ss) (m : List Bool) : bodyF (ss.map swS) (sw m) = sw (bodyF ss m) := ((body_ex o m).sw.isF o.sw).symm
theorem bodyF_congr {ss ts : List Stf} (o : OkN 39 ss) (h : ∀ l, putM ss l = putM ts l) (m : List Bool) : bodyF ss m = bodyF ts m := ((body_ex o m).congr h).isF (o.congr h)
end U

set_option maxRecDepth 100000
set_option maxHeartbeats 4000000
namespace U
open PySem PySem.Spec PyProof.Rows
open L2 hiding Fun CX0 E0 pass0 Fun.binds
open C8 Lx SX StX
theorem longM_sw : ∀ ss : List Stf, longM (ss.map swS) = longM ss
  | [] => rfl
  | s :: r => by
    show max (sw s.1).length (longM (r.map swS)) = max s.1.length (longM r)
    rw [sw_len, longM_sw r]
theorem StOk.sw {ss : List Stf} (h : StOk ss) : StOk (ss.map swS) := ⟨by rw [List.length_map]; exact h.few, fun s hs => by
    obtain ⟨t, ht, rfl⟩ := List.mem_map.mp hs
    intro z
    exact h.pos t ht (List.length_eq_zero_iff.mp (by rw [← sw_len]; exact List.length_eq_zero_iff.mpr z)), by rw [longM_sw]; exact h.long, h.free.sw⟩
def spOther : Sp := fun vs H Q _ => ∃ b : Bool, vs = [.str (W [b])] ∧ Q (.str (W [!b])) H
def spSwW : Sp := fun vs H Q _ => ∃ l : List Bool, vs = [.str (W l)] ∧ l.length ≤ 10000 ∧ ∀ H', Same H H' → Q (.str (W (sw l))) H'
def spSwapped (C : Addr) : Sp := fun vs H Q _ => ∃ (a : Addr) (f : List Bool) (ss : List Stf), vs = [.ref a] ∧ RuAt C H a f ss ∧ StOk ss ∧ OkR ss ∧ 2 ≤ f.length ∧ f.length ≤ 1000 ∧
  ∀ x ss' H', Same H H' → ss'.Perm (ss.map swS) → SortedS ss' → RuAt C H' x (sw f) ss' → Q (.ref x) H'
/-- a pair more in a list of stuffs -/
theorem st_push {H : Hp} {D z : Addr} {qs : List Addr} {kc : Addr → Stf} {zs : List V} {s : Stf} (hD : H D = some (.lst (qs.map V.ref))) (hS : StV H kc qs) (hz : H z = none) (ez : zs = [.str (W s.1), .str (W [s.2])]) :
    ∃ kc' : Addr → Stf, upd (upd H z (.tup zs)) D (.lst (qs.map V.ref ++ [.ref z])) D = some (.lst ((qs ++ [z]).map V.ref)) ∧ StV (upd (upd H z (.tup zs)) D (.lst (qs.map V.ref ++ [.ref z]))) kc' (qs ++ [z]) ∧ (qs ++ [z]).map kc' = qs.map kc ++ [s] := by
  subst ez
  have zq : ∀ y ∈ qs, y ≠ z := fun y hy => ne_of_none (hS y hy) hz
  have nDz : z ≠ D := (ne_of_none hD hz).symm
  refine ⟨fun y => if y = z then s else kc y, by rw [upd_same, List.map_append]; rfl, fun y hy => ?_, ?_⟩
  · have ny : y ≠ D := by
      rcases List.mem_append.mp hy with h1 | h1
      · exact ne_of (hS y h1) hD (by intro z; cases z)
      · rw [List.mem_singleton.mp h1]; exact nDz
    rw [upd_ne ny]
    dsimp only
    rcases List.mem_append.mp hy with h1 | h1
    · rw [if_neg (zq y h1), upd_ne (zq y h1)]
      exact hS y h1
    · rw [List.mem_singleton.mp h1, if_pos rfl]
      exact upd_same
  · rw [List.map_append]
    congr 1
    · exact List.map_congr_left fun y hy => if_neg (zq y hy)
    · show [if z = z then s else kc z] = [s]
      rw [if_pos rfl]
/-- a rule made of stuffs in a list or a tuple -/
theorem mk_ru {K : PySem.W.Frag} {C : Addr} {H : Hp} {l : Addr} {z : Str} {f : List Bool} {ps : List Addr} {kb : Addr → Stf} {R : Addr → Hp → Prop} {E : XK} (hz : z = W f) (hl : Sq K H l (ps.map V.ref)) (hs : StV H kb ps) (ok : StOk (ps.map kb)) (hO : OkR (ps.map kb)) (h2 : 2 ≤ f.length) (h3 : f.length ≤ 1000)
    (k : ∀ x ss' H', Same H H' → ss'.Perm (ps.map kb) → SortedS ss' → RuAt C H' x f ss' → R x H') :
    ∀ x dx, H x = none → H dx = none → dx ≠ x → spRuInit K C [.ref x, .str z, .ref l] (upd (upd H dx (.own x)) x (.ins C dx [])) (fun v H2 => v = .non ∧ R x H2) E := by
  subst hz
  intro x dx nx ndx nex
  have sm : Same H (upd (upd H dx (.own x)) x (.ins C dx [])) := fun c o e => by
    rw [upd_ne (ne_of_none e nx), upd_ne (ne_of_none e ndx)]; exact e
  exact ⟨x, dx, l, f, ps, kb, rfl, upd_same, hl.of_same sm, hs.same sm, ok, hO, h2, h3, fun H' ss' keep pm srt hR => ⟨rfl, k x ss' H' (Same.made nx ndx keep) pm srt hR⟩⟩
/-- a rule with one stuff, written -/
theorem mk_one {K : PySem.W.Frag} {C : Addr} {H : Hp} {p1 p2 : Addr} {z u v : Str} {f p : List Bool} {b : Bool} {R : Addr → Hp → Prop} {E : XK} (hz : z = W f) (hu : u = W p) (hv : v = W [b]) (n1 : H p1 = none) (n2 : upd H p1 (.tup [.str u, .str v]) p2 = none) (ok : StOk [(p, b)]) (hO : OkR [(p, b)]) (h2 : 2 ≤ f.length) (h3 : f.length ≤ 1000)
    (k : ∀ x H', Same H H' → RuAt C H' x f [(p, b)] → R x H') :
    ∀ x dx, upd (upd H p1 (.tup [.str u, .str v])) p2 (.lst [.ref p1]) x = none → upd (upd H p1 (.tup [.str u, .str v])) p2 (.lst [.ref p1]) dx = none → dx ≠ x →
      spRuInit K C [.ref x, .str z, .ref p2] (upd (upd (upd (upd H p1 (.tup [.str u, .str v])) p2 (.lst [.ref p1])) dx (.own x)) x (.ins C dx [])) (fun v H2 => v = .non ∧ R x H2) E := by
  subst hu hv
  refine mk_ru (ps := [p1]) (kb := fun _ => (p, b)) hz (.inl (SqL.of upd_same)) (fun t ht => ?_) ok hO h2 h3 fun x ss' H' s pm srt hR => ?_
  · rw [List.mem_singleton.mp ht, upd_ne (fun z => by rw [z, upd_same] at n2; cases n2)]
    exact upd_same
  · have es : ss' = [(p, b)] := List.perm_singleton.mp pm
    subst es
    exact k x H' (((same_upd n1).trans (same_upd n2)).trans s) hR
section
variable {P : Program} {w : World} {K : PySem.W.Frag} {mg : Str → Option Value} {base : Heap}
theorem sc_other : FnScope ["bit"] ["bit"] (fnScope s_other) := fnScope_by (by decide +kernel)
theorem cal_other {f : Addr} {fd : FuncData} (F : Def K mg "other" s_other f fd) (b : Binds K fd ["bit"] []) (T : Tx mg) : Cal P w K mg base 1 "other" spOther [] := by
  refine cal0 F b .nil sc_other (fun vs H Q E h => ?_) (fun cdv A outer s H vs Q E hr h => ?_)
  · obtain ⟨_, rfl, _⟩ := h; rfl
  · obtain ⟨b, rfl, k⟩ := h
    refine ⟨_, (pss_one (ps_ret (pe_ifExp (pt_cmpR op_eq (pv 0) pe_str (nomark _)) pe_str pe_str))), ?_⟩
    refine ⟨_, rfl, rfl, _, rfl, ?_⟩
    cases b with
    | false =>
      refine iteDT (show V.str (W [false]) = V.str "0" by decide +kernel) ?_
      show Q (.str "1") H
      rw [W_1]; exact k
    | true =>
      refine iteDF (show ¬ V.str (W [true]) = V.str "0" by decide +kernel) ?_
      show Q (.str "0") H
      rw [W_0]; exact k
theorem sc_swapped_word : FnScope ["word", "bit"] ["word"] (fnScope s_swapped_word) := fnScope_by (by decide +kernel)
theorem cal_swapped_word {f : Addr} {fd : FuncData} (F : Def K mg "swapped_word" s_swapped_word f fd) (b : Binds K fd ["word"] []) (T : Tx mg) (c_other : Cal P w K mg base 1 "other" spOther []) : Cal P w K mg base 2 "swapped_word" spSwW [] := by
  refine cal0 F b .nil sc_swapped_word (fun vs H Q E h => ?_) (fun cdv A outer s H vs Q E hr h => ?_)
  · obtain ⟨_, rfl, _⟩ := h; rfl
  · obtain ⟨l, rfl, hl, k⟩ := h
    refine ⟨_, (pss_one (ps_ret (pe_join pe_str (pe_lc (own := [("bit", 1)]) (g := gName 1) (by rfl) sc_swapped_word.nd (pi_str (pv 0)) (blkOk_by (own := [("bit", 1)]) (N := ["word", "bit"]) (sc := fnScope s_swapped_word) (by decide +kernel)) (fun _ _ _ _ _ => (pg_name (i := 1) sc_swapped_word.nd rfl (.inl rfl))) (fun _ _ _ _ _ => pts_nil) (fun _ _ _ _ _ => (pe_c c_other hr (by decide) rfl (pa_cons (pv 1) pa_nil))))))), ?_⟩
    refine ⟨⟨_, rfl⟩, _, rfl, _, rfl, fun D nD => ?_⟩
    refine lc_it walk_str (fun i H2 => Same H H2 ∧ H2 D = some (.lst (bitsV (sw (l.take i))))) ⟨same_upd nD, upd_same⟩ (fun _ _ _ _ => trivial) ?_ ?_
    · rintro i x H2 H3 hi ⟨s2, hD⟩ ⟨rfl, c, hc, rfl⟩
      obtain ⟨bb, hbb, rfl⟩ := W_get hc
      refine ⟨rfl, _, rfl, bb, rfl, _, hD, ?_, ?_, ?_⟩
      · rw [bitsV_len, sw_len, List.length_take]; exact sl_lt (by omega)
      · intro c' o e'
        rw [upd_ne (ne_of_none e' nD)]
        exact s2 _ _ e'
      · rw [upd_same, bitsV_snoc, List.take_add_one, hbb, sw_app]
        rfl
    · rintro H2 ⟨s2, hD⟩
      rw [W_size, List.take_length] at hD
      refine ⟨_, D, _, rfl, rfl, .inl (SqL.of hD), ?_, ?_⟩
      · rw [lens_bits, empty_len, sw_len]; omega
      · show Q (.str (Txt.join "" ((sw l).map fun b => W [b]))) H2
        rw [join_bits]
        exact k H2 s2
theorem sc_Rule_swapped : FnScope ["self", "stuffs", "pattern", "bit"] ["self"] (fnScope s_Rule_swapped) := fnScope_by (by decide +kernel)
theorem met_swapped {f C : Addr} {fd : FuncData} (F : C8.Fun K "swapped" "Rule.swapped" s_Rule_swapped f fd) (me : Meth K C "swapped" f) (b : Binds K fd ["self"] []) (T : Tx mg) (RT : RuT K C) (c_swapped_word : Cal P w K mg base 2 "swapped_word" spSwW [])
    (m_Rule2 : Mak P w K mg base 5 "Rule" C (spRuInit K C) []) : Met P w K mg base 7 C "swapped" (spSwapped C) [] := by
  refine met0 RT.cl me F b sc_Rule_swapped (fun vs H Q E h => ?_) (fun cdv A outer s H vs Q E hr h => ?_)
  · obtain ⟨_, _, _, rfl, _⟩ := h; rfl
  · obtain ⟨a, fl, ss, rfl, hR, ok, hO, f2, f1000, k⟩ := h
    refine ⟨_, (pss_cons (ps_setLc (i := 1) (own := [("pattern", 2), ("bit", 3)]) (g := gTup K 2 (gCons (gName 2) (gCons (gName 3) gNil))) (by rfl) sc_Rule_swapped.nd rfl rfl (sw_true rfl rfl rfl (by decide +kernel)) (pi_tup (pe_fld (pv 0) rfl)) (blkOk_by (own := [("pattern", 2), ("bit", 3)]) (N := ["self", "stuffs", "pattern", "bit"]) (sc := fnScope s_Rule_swapped) (by decide +kernel)) (fun _ _ _ _ _ => (pg_tup rfl (pgs_cons (pg_name (i := 2) sc_Rule_swapped.nd rfl (.inl rfl)) (pgs_cons (pg_name (i := 3) sc_Rule_swapped.nd rfl (.inl rfl)) pgs_nil)))) (fun _ _ _ _ _ => pts_nil) (fun _ _ _ _ _ => (pe_tup (pa_cons (pe_c c_swapped_word hr (by decide) rfl (pa_cons (pv 2) pa_nil)) (pa_cons (pe_c c_swapped_word hr (by decide) rfl (pa_cons (pv 3) pa_nil)) pa_nil)))))
    (pss_one (ps_ret (pe_mk m_Rule2 hr (by decide) rfl (pa_cons (pe_c c_swapped_word hr (by decide) rfl (pa_cons (pe_fld (pv 0) rfl) pa_nil)) (pa_cons (pv 1) pa_nil)))))), ?_⟩
    obtain ⟨dx, t, ps, kb, ha, ht, hv, rfl⟩ := id hR
    refine ⟨_, rfl, a, C, dx, _, _, rfl, ha, RT.cl, RT.nS, ruF_stuffs _ _, t, rfl, ⟨_, SqT.of ht⟩, fun D nD => ?_⟩
    refine lc_it (walk_tup (xs := ps.map V.ref)) (fun i H2 => Same H H2 ∧ ∃ (qs : List Addr) (kc : Addr → Stf), H2 D = some (.lst (qs.map V.ref)) ∧ StV H2 kc qs ∧ qs.map kc = ((ps.map kb).take i).map swS) ⟨same_upd nD, [], fun _ => ([], false), upd_same, (fun _ h => nomatch h), rfl⟩ (fun i H2 _ h2 => SqT.of (h2.1 _ _ ht)) ?_ ?_
    · rintro i x H2 H3 hi ⟨s2, qs, kc, hD, hS, em⟩ ⟨rfl, hx⟩
      rw [List.getElem?_map] at hx
      obtain ⟨q, hq, rfl⟩ := Option.map_eq_some_iff.mp hx
      have hqm := List.mem_of_getElem? hq
      have hqv := s2 _ _ (hv q hqm)
      have l9 := ok.l9 (kb q) (List.mem_map.mpr ⟨q, hqm, rfl⟩)
      refine ⟨q, _, rfl, SqT.of hqv, rfl, _, _, rfl, _, _, rfl, rfl, rfl, ?_⟩
      refine ⟨_, rfl, (kb q).1, rfl, by omega, fun H4 s4 => ?_⟩
      refine ⟨_, rfl, [(kb q).2], rfl, by show 1 ≤ 10000; decide, fun H5 s5 => ?_⟩
      refine ⟨by show 2 ≤ sizeLine; decide, fun z nz => ?_⟩
      have s25 := s4.trans s5
      have hD5 := s25 _ _ hD
      have s26 := s25.trans (same_upd (o := .tup [.str (W (sw (kb q).1)), .str (W (sw [(kb q).2]))]) nz)
      have hD6 := s26 _ _ hD
      have nDz : z ≠ D := ne_of_none hD5 nz |>.symm
      have zq : ∀ y ∈ qs, y ≠ z := fun y hy => ne_of_none (s25 _ _ (hS y hy)) nz
      have lq : qs.length = i := by
        have := congrArg List.length em
        rw [List.length_map, List.length_map, List.length_take, List.length_map] at this
        have hi' := (List.getElem?_eq_some_iff.mp hq).1
        omega
      have hi' := (List.getElem?_eq_some_iff.mp hq).1
      have few := ok.few
      rw [List.length_map] at few
      refine ⟨_, hD6, by rw [List.length_map]; exact sl_lt (by omega), ?_, qs ++ [z], fun y => if y = z then swS (kb q) else kc y, ?_, ?_, ?_⟩
      · intro c o e
        rw [upd_ne (ne_of_none e nD)]
        exact s26 _ _ (s2 _ _ e)
      · rw [upd_same, List.map_append]; rfl
      · intro y hy
        have ny : y ≠ D := by
          rcases List.mem_append.mp hy with h1 | h1
          · exact ne_of (hS y h1) hD (by intro z; cases z)
          · rw [List.mem_singleton.mp h1]; exact nDz
        rw [upd_ne ny]
        dsimp only
        rcases List.mem_append.mp hy with h1 | h1
        · rw [if_neg (zq y h1)]
          exact s26 _ _ (hS y h1)
        · rw [List.mem_singleton.mp h1, if_pos rfl]
          exact upd_same
      · rw [List.map_append, List.take_add_one, List.getElem?_map, hq, List.map_append]
        congr 1
        · rw [← em]
          exact List.map_congr_left fun y hy => if_neg (zq y hy)
        · show [if z = z then swS (kb q) else kc z] = [swS (kb q)]
          rw [if_pos rfl]
    · rintro H2 ⟨s2, qs, kc, hD, hS, em⟩
      have el : ((ps.map kb).take (ps.map V.ref).length) = ps.map kb := List.take_of_length_le (by simp)
      rw [el] at em
      refine ⟨_, rfl, a, C, dx, _, _, rfl, s2 _ _ ha, RT.cl, RT.nF, ruF_flag _ _, fl, rfl, by omega, fun H3 s3 => ?_⟩
      refine ⟨_, rfl, fun x dx' nx ndx nex => ?_⟩
      have sm : Same H3 (upd (upd H3 dx' (.own x)) x (.ins C dx' [])) := fun c o e => by
        rw [upd_ne (ne_of_none e nx), upd_ne (ne_of_none e ndx)]; exact e
      refine ⟨x, dx', D, sw fl, qs, kc, rfl, upd_same, .inl (SqL.of (sm _ _ (s3 _ _ hD))), (hS.same s3).same sm, by rw [em]; exact ok.sw, by rw [em]; exact hO.sw, by rw [sw_len]; exact f2, by rw [sw_len]; exact f1000, fun H' ss' keep pm srt hR' => ⟨rfl, ?_⟩⟩
      rw [em] at pm
      exact k x ss' H' ((s2.trans s3).trans (Same.made nx ndx keep)) pm srt hR'
end
end U

set_option maxRecDepth 100000
set_option maxHeartbeats 4000000
namespace U
open PySem PySem.Spec PyProof.Rows
open L2 hiding Fun CX0 E0 pass0 Fun.binds
open C8 Lx SX StX
def spReading : Sp := fun vs H Q _ => ∃ (r : Addr) (l : List Bool) (ss : List Stf), vs = [.ref r, .str (W l)] ∧ Stl H r ss ∧ l.length ≤ 800 ∧ ss.length ≤ 1000 ∧ (∀ s ∈ ss, s.1 ≠ [] ∧ s.1.length ≤ 1000) ∧ OkN 39 ss ∧ ∀ H', Same H H' → Q (oW (takM ss l)) H'
theorem prefix_take {a l : List Bool} (h : a <+: l) : l.take a.length = a := (List.prefix_iff_eq_take.mp h).symm
section
variable {P : Program} {w : World} {K : PySem.W.Frag} {mg : Str → Option Value} {base : Heap}
theorem sc_l_reading : FnScope ["_law_stuffs", "_law_line", "_law_message", "_law_turn_here", "_law_so_far"] ["_law_stuffs", "_law_line"] (fnScope s_l_reading) := fnScope_by (by decide +kernel)
theorem cal_l_reading {f : Addr} {fd : FuncData} (F : Def K mg "_law_reading" s_l_reading f fd) (b : Binds K fd ["_law_stuffs", "_law_line"] []) (T : Tx mg) (c_l_body : Cal P w K mg base 4 "_law_body" spLBody2 []) : Cal P w K mg base 5 "_law_reading" spReading [] := by
  refine cal0 F b .nil sc_l_reading (fun vs H Q E h => ?_) (fun cdv A outer s H vs Q E hr h => ?_)
  · obtain ⟨_, _, _, rfl, _⟩ := h; rfl
  · obtain ⟨r, l, ss, rfl, hl, l8, h1, h2, hO, k⟩ := h
    refine ⟨_, (pss_cons (ps_set (i := 2) sc_l_reading.nd rfl (.inl rfl) pe_str)
    (pss_cons (ps_for PassesOwn.never rfl (pi_range1 (by rfl) T.b_range (pa_cons (pe_op op_add (pe_callB call_len_str (by rfl) T.b_len (by decide +kernel) (pa_cons (pv 1) pa_nil)) pe_int) pa_nil)) (pg_name (i := 3) sc_l_reading.nd rfl (.inl rfl))
    (pss_cons (ps_set (i := 4) sc_l_reading.nd rfl (.inl rfl) (pe_c c_l_body hr (by decide) rfl (pa_cons (pv 0) (pa_cons (pv 2) pa_nil))))
    (pss_cons (ps_if (PW.pt (pw_or (pt_cmpR op_ge (pe_callB call_len_str (by rfl) T.b_len (by decide +kernel) (pa_cons (pv 4) pa_nil)) (pe_callB call_len_str (by rfl) T.b_len (by decide +kernel) (pa_cons (pv 1) pa_nil)) (nomark _)) (pw_or1 (pt_cmpR op_ne (pe_slice sl_txt (pv 1) po_none (po_some (pe_callB call_len_str (by rfl) T.b_len (by decide +kernel) (pa_cons (pv 4) pa_nil)))) (pv 4) (nomark _))))) (pss_one (ps_ret (pe_ifExp (pt_cmpR op_eq (pv 4) (pv 1) (nomark _)) (pv 2) pe_non))) pss_nil)
    (pss_one (ps_set (i := 2) sc_l_reading.nd rfl (.inl rfl) (pe_op op_add_str (pv 2) (pe_ix ix_str (pv 1) (pe_callB call_len_str (by rfl) T.b_len (by decide +kernel) (pa_cons (pv 4) pa_nil)) (fun _ _ => rfl))))))))
    (pss_one (ps_ret pe_non)))), ?_⟩
    have h0 : putM ss [] = none := put_nil fun s hs => (h2 s hs).1
    have ew : ("" : Str) = W [] := W_nil
    have lw : (W l).length ≤ sizeLine := by rw [W_len]; exact sl_len (by omega)
    refine ⟨_, rfl, _, rfl, lw, _, _, rfl, rfl, _, rfl, by rw [W_len]; omega, by rw [W_len]; omega, ?_⟩
    have en : ((((W l).length : Nat) : Int) + 1).toNat = l.length + 1 := by rw [W_len]; omega
    rw [en]
    refine for_it walk_range (fun i σ H2 => ∃ (v3 v4 : Option V) (m : List Bool), σ = [some (.ref r), some (.str (W l)), some (.str (W m)), v3, v4] ∧ Same H H2 ∧ m.length = i ∧ i ≤ l.length ∧ ∀ x, Body ss x l → ∃ y, x = m ++ y) ⟨_, _, [], by rw [← ew]; rfl, Same.refl _, rfl, Nat.zero_le _, fun x _ => ⟨x, rfl⟩⟩ (fun _ _ _ _ _ => trivial) ?_ ?_
    · rintro i x σ H2' H2 hi ⟨v3, v4, m, rfl, s2, hm, hil, hx⟩ ⟨rfl, rfl⟩
      refine ⟨_, rfl, _, rfl, r, m, ss, rfl, hl.same s2, by omega, h1, fun s hs => (h2 s hs).2, hO, fun g H3 hB hg s3 => ?_⟩
      have s3' := s2.trans s3
      have lg : (W g).length ≤ sizeLine := by rw [W_len]; exact sl_len (by omega)
      have fin : (takM ss l = none ∨ g = l) → tIf (tTest (tOp rEq (tVar 4) (tVar 1))) (tVar 2) (tC .non) [some (.ref r), some (.str (W l)), some (.str (W m)), some (.int (0 + (i : Int))), some (.str (W g))] H3 Q := by
        intro h
        refine ⟨_, rfl, _, rfl, rfl, _, rfl, ?_⟩
        have kk := k H3 s3'
        by_cases c : g = l
        · subst c
          rw [(takM_iff h0).mpr hB] at kk
          exact iteDT rfl ⟨_, rfl, kk⟩
        · refine iteDF (fun z => c (W_inj (V.str.inj z))) ?_
          rw [h.resolve_right c] at kk
          exact kk
      refine ⟨_, rfl, _, rfl, lg, _, rfl, _, rfl, lw, _, _, rfl, rfl, _, rfl, ?_⟩
      have nom : (∀ y, Body ss (m ++ y) l → g <+: l ∧ (y ≠ [] → g.length < l.length)) := by
        intro y hy
        obtain ⟨l', b1, b2, b3⟩ := hy.cut m.length (by rw [List.length_append]; omega)
        rw [List.take_left' rfl] at b1
        have eg : l' = g := b1.det hB
        subst eg
        refine ⟨b2, fun ny => ?_⟩
        obtain ⟨r, hr⟩ := b3 (by rw [List.length_append]; have := List.length_pos_iff.mpr ny; omega)
        rw [hr]
        simp only [List.length_append, List.length_cons, List.length_nil]
        omega
      refine ite2 (fun hc => ?_) (fun hc => ?_)
      · have hc' : (((W l).length : Nat) : Int) ≤ (((W g).length : Nat) : Int) := of_decide_eq_true hc
        rw [W_len, W_len] at hc'
        refine fin ?_
        by_cases c : g = l
        · exact .inr c
        · refine .inl ?_
          cases e : takM ss l with
          | none => rfl
          | some x =>
            exfalso
            have hb := (takM_iff h0).mp e
            obtain ⟨y, rfl⟩ := hx x hb
            obtain ⟨p1, p2⟩ := nom y hb
            exact c (p1.eq_of_length (by have := p1.length_le; omega))
      · have hc' : ¬ (((W l).length : Nat) : Int) ≤ (((W g).length : Nat) : Int) := of_decide_eq_false (by simpa using hc)
        rw [W_len, W_len] at hc'
        refine ⟨_, rfl, _, rfl, _, rfl, lg, _, rfl, _, rfl, lw, _, rfl, rfl, _, rfl, ?_⟩
        rw [W_take (Int.natCast_nonneg _), Int.toNat_natCast, W_len]
        by_cases c : l.take g.length = g
        · refine iteNS (by rw [c]) ?_
          have hlt : g.length < l.length := by omega
          refine ⟨_, rfl, _, rfl, _, rfl, _, rfl, lg, _, _, _, rfl, rfl, lw, by rw [W_len]; exact (show atI (W l).cps.toList ((g.length : Nat) : Int) = some (bt (l.getD g.length false)) by
            rw [W_tl]
            refine atI_nat ?_
            rw [List.getElem?_map, List.getElem?_eq_getElem hlt]
            simp [hlt]), _, _, rfl, rfl, by rw [W_len]; exact sl_len (by show m.length + 1 ≤ 100000; omega), ?_⟩
          have ecat : W m ++ (⟨#[bt (l.getD g.length false)]⟩ : Str) = W (m ++ [l.getD g.length false]) := W_cat m [_]
          rw [ecat]
          refine ⟨_, _, m ++ [l.getD g.length false], rfl, s3', by rw [List.length_append, hm]; rfl, ?_, fun x hb => ?_⟩
          · have := hB.le
            omega
          · obtain ⟨y, rfl⟩ := hx x hb
            cases y with
            | nil =>
              rw [List.append_nil] at hb
              have := hb.det hB
              rw [this] at hlt
              omega
            | cons d y =>
              obtain ⟨l', b1, b2, b3⟩ := hb.cut m.length (by rw [List.length_append]; omega)
              rw [List.take_left' rfl] at b1
              have eg : l' = g := b1.det hB
              subst eg
              obtain ⟨r, hr⟩ := b3 (by rw [List.length_append, List.length_cons]; omega)
              have e1 : (m ++ d :: y).getD m.length false = d := by simp [List.getD]
              rw [e1] at hr
              have e2 : l.getD l'.length false = d := by rw [hr]; simp [List.getD]
              exact ⟨y, by rw [e2]; simp⟩
        · refine iteNT (fun z => c (W_inj (V.str.inj z))) (fin (.inl ?_))
          cases e : takM ss l with
          | none => rfl
          | some x =>
            exfalso
            have hb := (takM_iff h0).mp e
            obtain ⟨y, rfl⟩ := hx x hb
            obtain ⟨p1, p2⟩ := nom y hb
            exact c (prefix_take p1)
    · rintro σ H2 ⟨v3, v4, m, rfl, s2, hm, hil, hx⟩
      omega
end
end U

set_option maxRecDepth 100000
set_option maxHeartbeats 4000000
namespace U
open PySem PySem.Spec PyProof.Rows
open L2 hiding Fun CX0 E0 pass0 Fun.binds
open C8 Lx SX
def spCheck : Sp := fun vs H Q _ => ∃ (b : Addr) (m : Nat), vs = [.ref b, .int m] ∧ Box H b ∧ m ≤ 100 ∧
  ∀ (t : Addr) (p s : List Bool) H', H t = none → Up b H H' → H' t = some (.tup [.str (W p), .str (W s)]) → CkOk p s → s.length ≤ m → Q (.ref t) H'
theorem ckOk_mk {inner s : List Bool} {n : Nat} (h : s.length = n) (hi : inner.length = n - 1) (h0 : 0 < n) : CkOk ([true] ++ inner ++ [true]) s :=
  ⟨rfl, by rw [List.getLast?_append]; rfl, by simp only [List.length_append, List.length_cons, List.length_nil]; omega⟩
section
variable {P : Program} {w : World} {K : PySem.W.Frag} {mg : Str → Option Value} {base : Heap}
theorem sc_l_check : FnScope ["_law_box", "_law_most", "_law_size", "_law_inner"] ["_law_box", "_law_most"] (fnScope s_l_check) := fnScope_by (by decide +kernel)
theorem cal_l_check {f : Addr} {fd : FuncData} (F : Def K mg "_law_check" s_l_check f fd) (b : Binds K fd ["_law_box", "_law_most"] []) (T : Tx mg)
    (c_l_choose : Cal P w K mg base 1 "_law_choose" spChoose []) (c_l_word : Cal P w K mg base 3 "_law_word" spWordN []) : Cal P w K mg base 4 "_law_check" spCheck [] := by
  refine cal0 F b .nil sc_l_check (fun vs H Q E h => ?_) (fun cdv A outer s H vs Q E hr h => ?_)
  · obtain ⟨_, _, rfl, _⟩ := h; rfl
  · obtain ⟨bx, m, rfl, hb, h1, k⟩ := h
    refine ⟨_, (pss_cons (ps_set (i := 2) sc_l_check.nd rfl (.inl rfl) (pe_c c_l_choose hr (by decide) rfl (pa_cons (pv 0) (pa_cons (pe_op op_add (pv 1) pe_int) pa_nil))))
    (pss_cut (ps_set (i := 3) sc_l_check.nd rfl (.inl rfl) (pe_ifExp (pt_cmpR op_gt (pv 2) pe_int (nomark _)) (pe_c c_l_word hr (by decide) rfl (pa_cons (pv 0) (pa_cons (pe_op op_sub (pv 2) pe_int) pa_nil))) pe_str))
    (pss_one (ps_ret (pe_tup (pa_cons (pe_ifExp (pt_cmpR op_gt (pv 2) pe_int (nomark _)) (pe_op op_add_str (pe_op op_add_str pe_str (pv 3)) pe_str) pe_str) (pa_cons (pe_ifExp (pt_cmpR op_eq (pe_c c_l_choose hr (by decide) rfl (pa_cons (pv 0) (pa_cons pe_int pa_nil))) pe_int (nomark _)) (pe_c c_l_word hr (by decide) rfl (pa_cons (pv 0) (pa_cons (pv 2) pa_nil))) (pe_op op_rep_str pe_str (pv 2))) pa_nil))))))), ?_⟩
    refine ⟨_, rfl, _, rfl, _, _, rfl, rfl, bx, _, rfl, hb, by omega, by omega, fun d H1 d0 d1 u1 => ?_⟩
    obtain ⟨n, rfl⟩ := Int.eq_ofNat_of_zero_le d0
    have hn : n ≤ m := by omega
    refine ⟨fun σ' H2 => ∃ inner : List Bool, σ' = [some (.ref bx), some (.int m), some (.int n), some (.str (W inner))] ∧ inner.length = n - 1 ∧ Up bx H H2, ?_, ?_⟩
    · refine ⟨_, rfl, _, _, rfl, rfl, _, rfl, ?_⟩
      refine ite2 (fun h2 => ?_) (fun h2 => ?_)
      · have h3 : (1 : Int) < n := of_decide_eq_true h2
        refine ⟨_, rfl, _, rfl, _, _, rfl, rfl, bx, n - 1, (by show [V.ref bx, V.int ((n : Int) - 1)] = _; rw [show (n : Int) - 1 = ((n - 1 : Nat) : Int) by omega]), u1.2, by omega, fun l H2 hl u2 => ?_⟩
        exact ⟨l, rfl, hl, u1.trans u2⟩
      · have h3 : ¬ (1 : Int) < n := of_decide_eq_false (by simpa using h2)
        exact ⟨[], by rw [← W_nil]; rfl, by show 0 = n - 1; omega, u1⟩
    · rintro σ' H2 ⟨inner, rfl, hi, u2⟩
      -- both words
      have l1 : ("1" : Str).length = 1 := by decide +kernel
      have l0 : ("0" : Str).length = 1 := by decide +kernel
      refine ⟨_, rfl, _, _, rfl, rfl, _, rfl, ?_⟩
      refine ite2 (fun h2 => ?_) (fun h2 => ?_)
      · have h3 : (0 : Int) < n := of_decide_eq_true h2
        refine ⟨_, rfl, _, _, rfl, rfl, ?_, _, _, rfl, rfl, ?_, ?_⟩
        · rw [l1, W_len]; exact sl_len (by omega)
        · rw [W_1, W_cat, W_len, W_len, List.length_append]; exact sl_len (by show 1 + inner.length + 1 ≤ 100000; omega)
        · rw [W_1, W_cat, W_cat]
          refine ⟨_, rfl, bx, _, rfl, u2.2, by decide, by decide, fun d2 H3 e0 e1 u3 => ⟨rfl, _, rfl, ?_⟩⟩
          have u3' := u2.trans u3
          refine ite2 (fun h4 => ?_) (fun h4 => ?_)
          · refine ⟨_, rfl, _, rfl, bx, n, rfl, u3'.2, by omega, fun l H4 hl u4 => ⟨by show 2 ≤ sizeLine; decide, fun q nq => ?_⟩⟩
            have u5 := u3'.trans u4
            exact k q _ l _ (u5.free nq) (u5.same (same_upd nq)) upd_same (ckOk_mk hl hi (by omega)) (by omega)
          · refine ⟨_, rfl, _, _, rfl, rfl, by omega, by omega, by rw [l0]; omega, by show 2 ≤ sizeLine; decide, fun q nq => ?_⟩
            refine k q _ (zs n) _ (u3'.free nq) (u3'.same (same_upd nq)) (by rw [upd_same, mul_0]; rfl) (ckOk_mk (by unfold zs; simp) hi (by omega)) (by unfold zs; simp; omega)
      · have h3 : ¬ (0 : Int) < n := of_decide_eq_false (by simpa using h2)
        have n0 : n = 0 := by omega
        subst n0
        have ok : ∀ l : List Bool, l.length = 0 → CkOk [true] l := fun l hl => ⟨rfl, rfl, by rw [hl]; rfl⟩
        refine ⟨_, rfl, bx, _, rfl, u2.2, by decide, by decide, fun d2 H3 e0 e1 u3 => ⟨rfl, _, rfl, ?_⟩⟩
        have u3' := u2.trans u3
        refine ite2 (fun h4 => ?_) (fun h4 => ?_)
        · refine ⟨_, rfl, _, rfl, bx, 0, rfl, u3'.2, by omega, fun l H4 hl u4 => ⟨by show 2 ≤ sizeLine; decide, fun q nq => ?_⟩⟩
          have u5 := u3'.trans u4
          exact k q [true] l _ (u5.free nq) (u5.same (same_upd nq)) (by rw [upd_same, W_1]) (ok l hl) (by omega)
        · refine ⟨_, rfl, _, _, rfl, rfl, by omega, by omega, by rw [l0]; omega, by show 2 ≤ sizeLine; decide, fun q nq => ?_⟩
          exact k q [true] [] _ (u3'.free nq) (u3'.same (same_upd nq)) (by rw [upd_same, mul_0, W_1]; rfl) (ok [] rfl) (Nat.zero_le _)
end
end U

set_option maxRecDepth 100000
set_option maxHeartbeats 4000000
namespace U
open PySem PySem.Spec PyProof.Rows
open L2 hiding Fun CX0 E0 pass0 Fun.binds
open C8 Lx SX
def b2 (b : Bool) : Int := if b then 1 else 0
/-- a row of n numbers, by a function -/
def rowV (n : Nat) (f : Nat → Bool) : List V := (List.range n).map fun j => V.int (b2 (f j))
theorem rowV_len (n : Nat) (f : Nat → Bool) : (rowV n f).length = n := by unfold rowV; simp
theorem rowV_get {n : Nat} {f : Nat → Bool} {j : Nat} (h : j < n) : (rowV n f)[j]? = some (V.int (b2 (f j))) := by
  unfold rowV
  rw [List.getElem?_map, List.getElem?_range h]
  rfl
theorem rowV_set {n : Nat} {f : Nat → Bool} {j : Nat} {v : Bool} : (rowV n f).set j (V.int (b2 v)) = rowV n fun k => if k = j then v else f k := by
  refine List.ext_getElem? fun i => ?_
  rw [List.getElem?_set]
  by_cases hi : i < n
  · rw [rowV_get hi, rowV_get hi, rowV_len]
    by_cases e : j = i
    · subst e
      rw [if_pos rfl, if_pos hi, if_pos rfl]
    · rw [if_neg e, if_neg (fun z => e z.symm)]
  · have h1 : ∀ g, (rowV n g)[i]? = none := fun g => List.getElem?_eq_none (by rw [rowV_len]; omega)
    rw [h1, h1, rowV_len]
    by_cases e : j = i
    · rw [if_pos e, if_neg (by omega)]
    · rw [if_neg e]
theorem rowV_of (l : List Bool) : rowV l.length (fun j => l.getD j false) = l.map fun b => V.int (b2 b) := by
  refine List.ext_getElem? fun i => ?_
  by_cases hi : i < l.length
  · rw [rowV_get hi, List.getElem?_map, List.getElem?_eq_getElem hi]
    simp [hi]
  · rw [List.getElem?_eq_none (by rw [rowV_len]; omega), List.getElem?_eq_none (by simp; omega)]
/-- k bits of p put on the row from i on -/
def xorF (p : List Bool) (i k : Nat) (f : Nat → Bool) : Nat → Bool := fun j => if i ≤ j ∧ j < i + k then xor (f j) (p.getD (j - i) false) else f j
theorem xorF_succ (p : List Bool) (i k : Nat) (f : Nat → Bool) : (fun j => if j = i + k then xor (xorF p i k f (i + k)) (p.getD k false) else xorF p i k f j) = xorF p i (k + 1) f := by
  funext j
  unfold xorF
  by_cases e : j = i + k
  · subst e
    rw [if_pos rfl, if_neg (by omega), if_pos (by omega), show i + k - i = k by omega]
  · rw [if_neg e]
    by_cases h : i ≤ j ∧ j < i + k
    · rw [if_pos h, if_pos (by omega)]
    · rw [if_neg h, if_neg (by omega)]
/-- where the row stands behind i bits -/
def RowAt (p s bits : List Bool) (i : Nat) (f : Nat → Bool) : Prop := ∀ t, t < s.length + (bits.length - i) → f (i + t) = (restM p s (bits.take i) ++ bits.drop i).getD t false
theorem getD_app {a b : List Bool} {t : Nat} : (a ++ b).getD t false = if t < a.length then a.getD t false else b.getD (t - a.length) false := by
  simp only [List.getD_eq_getElem?_getD]
  by_cases h : t < a.length
  · rw [if_pos h, List.getElem?_append_left h]
  · rw [if_neg h, List.getElem?_append_right (by omega)]
theorem rowAt_step {p s bits : List Bool} {i : Nat} {f : Nat → Bool} (hs : s.length + 1 = p.length) (hi : i < bits.length) (h : RowAt p s bits i f) :
    RowAt p s bits (i + 1) (if f i then xorF p i p.length f else f) := by
  obtain ⟨b, hb⟩ : ∃ b, bits[i]? = some b := ⟨bits[i], by simp [hi]⟩
  have hd : bits.drop i = b :: bits.drop (i + 1) := by
    obtain ⟨hi', e⟩ := List.getElem?_eq_some_iff.mp hb
    rw [List.drop_eq_getElem_cons hi', e]
  have er : restM p s (bits.take (i + 1)) = stepM p (restM p s (bits.take i)) b := by
    unfold restM
    rw [List.take_add_one, hb, List.foldl_append]
    rfl
  have lr : (restM p s (bits.take i)).length = s.length := restM_len _ _ hs
  have key : ∀ t, t < s.length + (bits.length - i) → f (i + t) = ((restM p s (bits.take i) ++ [b]) ++ bits.drop (i + 1)).getD t false := by
    intro t ht
    rw [h t ht, hd]
    congr 1
    simp
  cases e : restM p s (bits.take i) ++ [b] with
  | nil => exact absurd e (by simp)
  | cons x l =>
    rw [e] at key
    have ll : l.length = s.length := by
      have := congrArg List.length e
      rw [List.length_append, lr] at this
      simp only [List.length_cons, List.length_nil] at this
      omega
    have f0 : f i = x := by
      have := key 0 (by omega)
      rw [Nat.add_zero] at this
      rw [this]
      rfl
    have es : stepM p (restM p s (bits.take i)) b = if x then List.zipWith xor l p.tail else l := by unfold stepM; rw [e]
    have ft : ∀ t, t < s.length + (bits.length - (i + 1)) → f (i + 1 + t) = (l ++ bits.drop (i + 1)).getD t false := by
      intro t ht
      have := key (t + 1) (by omega)
      rw [show i + (t + 1) = i + 1 + t by omega] at this
      rw [this]
      rfl
    intro t ht
    rw [er, es, f0]
    cases x with
    | false => exact ft t ht
    | true =>
      show xorF p i p.length f (i + 1 + t) = (List.zipWith xor l p.tail ++ bits.drop (i + 1)).getD t false
      have lz : (List.zipWith xor l p.tail).length = s.length := by rw [List.length_zipWith, List.length_tail, ll]; omega
      unfold xorF
      rw [ft t ht, getD_app, getD_app, lz, ll]
      by_cases c : t < s.length
      · rw [if_pos (by omega), if_pos c, if_pos c]
        have e1 : (List.zipWith xor l p.tail).getD t false = xor (l.getD t false) (p.tail.getD t false) := by
          simp only [List.getD_eq_getElem?_getD, List.getElem?_zipWith]
          have h1 : t < l.length := by omega
          have h2 : t < p.tail.length := by rw [List.length_tail]; omega
          rw [List.getElem?_eq_getElem h1, List.getElem?_eq_getElem h2]
          rfl
        rw [e1, show i + 1 + t - i = t + 1 by omega]
        congr 1
        simp only [List.getD_eq_getElem?_getD, List.getElem?_tail]
      · rw [if_neg (by omega), if_neg c, if_neg c]
theorem rowAt_0 (p s bits : List Bool) : RowAt p s bits 0 (fun j => (s ++ bits).getD j false) := fun t _ => by
  rw [Nat.zero_add]
  rfl
theorem cut_fromC {xs : List V} {n : Nat} (h : n ≤ xs.length) : cutV xs (some (n : Int)) none = xs.drop n := by
  unfold cutV
  rw [HT.sIx_nat, HT.sIx_none, Nat.min_eq_left h]
  exact List.take_of_length_le (by rw [List.length_drop]; exact Nat.le_refl _)
theorem rowV_drop {p s bits : List Bool} {f : Nat → Bool} (hs : s.length + 1 = p.length) (h : RowAt p s bits bits.length f) : (rowV (s.length + bits.length) f).drop bits.length = (restM p s bits).map fun b => V.int (b2 b) := by
  have lr : (restM p s bits).length = s.length := restM_len _ _ hs
  refine List.ext_getElem? fun i => ?_
  rw [List.getElem?_drop]
  by_cases hi : i < s.length
  · rw [rowV_get (by omega), h i (by omega), List.take_length, List.drop_length, List.append_nil, List.getElem?_map]
    simp only [List.getD_eq_getElem?_getD]
    rw [List.getElem?_eq_getElem (by omega)]
    rfl
  · rw [List.getElem?_eq_none (by rw [rowV_len]; omega), List.getElem?_eq_none (by rw [List.length_map]; omega)]
theorem mod_xor (a b : Bool) : (b2 a + b2 b) % 2 = b2 (xor a b) := by cases a <;> cases b <;> decide
theorem str_b2 (b : Bool) : (Str.ofString (toString (b2 b))) = W [b] := by cases b <;> decide +kernel
theorem int_W (b : Bool) : PySem.intText? (W [b]) = some (b2 b) := by cases b <;> decide +kernel
def spLRest : Sp := fun vs H Q _ => ∃ (t : Addr) (p s bits : List Bool), vs = [.ref t, .str (W bits)] ∧ H t = some (.tup [.str (W p), .str (W s)]) ∧ CkOk p s ∧ s.length ≤ 100 ∧ bits.length ≤ 1000 ∧
  ∀ H', Same H H' → Q (.str (W (restM p s bits))) H'
section
variable {P : Program} {w : World} {K : PySem.W.Frag} {mg : Str → Option Value} {base : Heap}
theorem sc_l_rest : FnScope ["_law_check_here", "_law_bits", "_law_row", "_law_bit", "_law_at", "_law_spot", "_law_one"] ["_law_check_here", "_law_bits"] (fnScope s_l_rest) := fnScope_by (by decide +kernel)
theorem cal_l_rest {f : Addr} {fd : FuncData} (F : Def K mg "_law_rest" s_l_rest f fd) (b : Binds K fd ["_law_check_here", "_law_bits"] []) (T : Tx mg) : Cal P w K mg base 1 "_law_rest" spLRest [] := by
  refine cal0 F b .nil sc_l_rest (fun vs H Q E h => ?_) (fun cdv A outer s H vs Q E hr h => ?_)
  · obtain ⟨_, _, _, _, rfl, _⟩ := h; rfl
  · obtain ⟨t, p, st, bits, rfl, ht, ok, hs, hl, k⟩ := h
    refine ⟨_, (pss_cons (ps_setLc (i := 2) (own := [("_law_bit", 3)]) (g := gName 3) (by rfl) sc_l_rest.nd rfl rfl (sw_true rfl rfl rfl (by decide +kernel)) (pi_str (pe_op op_add_str (pe_ix ix_tup (pv 0) pe_int (fun _ _ => rfl)) (pv 1))) (blkOk_by (own := [("_law_bit", 3)]) (N := ["_law_check_here", "_law_bits", "_law_row", "_law_bit", "_law_at", "_law_spot", "_law_one"]) (sc := fnScope s_l_rest) (by decide +kernel)) (fun _ _ _ _ _ => (pg_name (i := 3) sc_l_rest.nd rfl (.inl rfl))) (fun _ _ _ _ _ => pts_nil) (fun _ _ _ _ _ => (pe_callTy call_int_str (by rfl) T.b_int (by decide +kernel) (pa_cons (pv 3) pa_nil))))
    (pss_cons (ps_for PassesOwn.never rfl (pi_range1 (by rfl) T.b_range (pa_cons (pe_callB call_len_str (by rfl) T.b_len (by decide +kernel) (pa_cons (pv 1) pa_nil)) pa_nil)) (pg_name (i := 4) sc_l_rest.nd rfl (.inl rfl))
    (pss_one (ps_if (pt_cmpR op_eq (pe_ix ix_list (pv 2) (pv 4) (fun _ _ => rfl)) pe_int (nomark _)) (pss_one (ps_for PassesOwn.never rfl (pi_enumS (by rfl) T.b_enumerate (pa_cons (pe_ix ix_tup (pv 0) pe_int (fun _ _ => rfl)) pa_nil)) (pg_tup rfl (pgs_cons (pg_name (i := 5) sc_l_rest.nd rfl (.inl rfl)) (pgs_cons (pg_name (i := 3) sc_l_rest.nd rfl (.inl rfl)) pgs_nil)))
    (pss_one (ps_asg (pe_op op_mod (pe_callTy call_int1 (by rfl) T.b_int (by decide +kernel) (pa_cons (pe_op op_add (pe_ix ix_list (pv 2) (pe_op op_add (pv 4) (pv 5)) (fun _ _ => rfl)) (pe_callTy call_int_str (by rfl) T.b_int (by decide +kernel) (pa_cons (pv 3) pa_nil))) pa_nil)) pe_int) (pg_sub (pv 2) (pe_op op_add (pv 4) (pv 5)) set_list))))) pss_nil)))
    (pss_one (ps_ret (pe_join pe_str (pe_lc (own := [("_law_one", 6)]) (g := gName 6) (by rfl) sc_l_rest.nd (pi_list (pe_slice sl_list (pv 2) (po_some (pe_callB call_len_str (by rfl) T.b_len (by decide +kernel) (pa_cons (pv 1) pa_nil))) po_none)) (blkOk_by (own := [("_law_one", 6)]) (N := ["_law_check_here", "_law_bits", "_law_row", "_law_bit", "_law_at", "_law_spot", "_law_one"]) (sc := fnScope s_l_rest) (by decide +kernel)) (fun _ _ _ _ _ => (pg_name (i := 6) sc_l_rest.nd rfl (.inl rfl))) (fun _ _ _ _ _ => pts_nil) (fun _ _ _ _ _ => (pe_callTy call_str_int (by rfl) T.b_str (by decide +kernel) (pa_cons (pv 6) pa_nil))))))))), ?_⟩
    have lb : (W bits).length ≤ sizeLine := by rw [W_len]; exact sl_len (by omega)
    have hlen := ok.len
    refine ⟨_, rfl, t, _, _, _, rfl, rfl, SqT.of ht, atI_nat (j := 1) rfl, _, rfl, _, _, rfl, rfl, by rw [W_len, W_len]; exact sl_len (by omega), ?_⟩
    rw [W_cat]
    refine ⟨_, rfl, fun D nD => ?_⟩
    refine lc_it walk_str (fun i H2 => Same H H2 ∧ H2 D = some (.lst (((st ++ bits).take i).map fun b => V.int (b2 b)))) ⟨same_upd nD, upd_same⟩ (fun _ _ _ _ => trivial) ?_ ?_
    · rintro i x H2 H3 hi ⟨s2, hD⟩ ⟨rfl, c, hc, rfl⟩
      obtain ⟨b1, hb1, rfl⟩ := W_get hc
      refine ⟨rfl, ?_⟩
      refine ⟨_, rfl, W [b1], b2 b1, rfl, int_W b1, by rw [W_len]; show 1 ≤ 640; decide, _, hD, ?_, ?_, ?_⟩
      · rw [List.length_map, List.length_take, List.length_append]; exact sl_lt (by omega)
      · intro c' o e'
        rw [upd_ne (ne_of_none e' nD)]
        exact s2 _ _ e'
      · rw [upd_same, List.take_add_one, hb1]; simp
    · rintro H2 ⟨s2, hD⟩
      rw [W_size, List.take_length, ← rowV_of, List.length_append] at hD
      -- for at in range(len(bits))
      refine ⟨_, rfl, _, rfl, lb, _, rfl, by omega, by rw [W_len]; omega, ?_⟩
      have hn : (((W bits).length : Nat) : Int).toNat = bits.length := by rw [W_len]; rfl
      rw [hn]
      refine for_it walk_range (fun i σ H3 => ∃ (g : Nat → Bool) (v3 v4 v5 v6 : Option V), σ = [some (.ref t), some (.str (W bits)), some (.ref D), v3, v4, v5, v6] ∧ Same H H3 ∧ H3 D = some (.lst (rowV (st.length + bits.length) g)) ∧ RowAt p st bits i g)
        ⟨_, _, _, _, _, rfl, s2, hD, rowAt_0 p st bits⟩ (fun _ _ _ _ _ => trivial) ?_ ?_
      · rintro i x σ H3' H3 hi ⟨g, v3, v4, v5, v6, rfl, s3, hD3, ra⟩ ⟨rfl, rfl⟩
        have e0 : (0 : Int) + (i : Int) = (i : Nat) := by omega
        have at0 : atI (rowV (st.length + bits.length) g) ((0 : Int) + (i : Int)) = some (V.int (b2 (g i))) := by
          rw [e0]
          exact atI_nat (rowV_get (by omega))
        refine ⟨_, rfl, _, rfl, D, _, _, _, rfl, rfl, SqL.of hD3, at0, ?_⟩
        · refine ⟨rfl, _, rfl, ?_⟩
          refine ite2 (fun h1 => ?_) (fun h1 => ?_)
          · have gt : g i = true := by
              have := of_decide_eq_true h1
              cases hg : g i with
              | true => rfl
              | false => rw [hg] at this; exact absurd this (by decide)
            refine ⟨_, rfl, t, _, _, _, rfl, rfl, SqT.of (s3 _ _ ht), atI_nat (j := 0) rfl, W p, rfl, ?_⟩
            refine for_it walk_enumS (fun k σ H4 => ∃ v3 v5 : Option V, σ = [some (.ref t), some (.str (W bits)), some (.ref D), v3, some (.int (0 + (i : Int))), v5, v6] ∧ Same H H4 ∧ H4 D = some (.lst (rowV (st.length + bits.length) (xorF p i k g))))
              ⟨_, _, rfl, s3, by rw [hD3]; congr 2; congr 1; funext j; unfold xorF; rw [if_neg (by omega)]⟩ (fun _ _ _ _ _ => trivial) ?_ ?_
            · rintro k y σ H4 H5 hk ⟨w3, w5, rfl, s4, hD4⟩ ⟨T', c, rfl, nT, rfl, hc⟩
              obtain ⟨b1, hb1, rfl⟩ := W_get hc
              have hkp : k < p.length := by rw [W_size] at hk; exact hk
              have s5 := s4.trans (same_upd (o := .tup [.int (k : Nat), .str ⟨#[bt b1]⟩]) nT)
              have hD5 : upd H4 T' (.tup [.int (k : Nat), .str ⟨#[bt b1]⟩]) D = some (.lst (rowV (st.length + bits.length) (xorF p i k g))) := by rw [upd_ne (ne_of_none hD4 nT)]; exact hD4
              have hT5 : upd H4 T' (.tup [.int (k : Nat), .str ⟨#[bt b1]⟩]) T' = some (.tup [.int (k : Nat), .str ⟨#[bt b1]⟩]) := upd_same
              generalize upd H4 T' (.tup [.int (k : Nat), .str ⟨#[bt b1]⟩]) = H5 at s5 hD5 hT5
              have ik : (0 : Int) + (i : Int) + (k : Int) = ((i + k : Nat) : Int) := by omega
              have at1 : atI (rowV (st.length + bits.length) (xorF p i k g)) ((0 : Int) + (i : Int) + (k : Int)) = some (V.int (b2 (xorF p i k g (i + k)))) := by
                rw [ik]
                exact atI_nat (rowV_get (by omega))
              have ix1 : ixN (rowV (st.length + bits.length) (xorF p i k g)).length ((0 : Int) + (i : Int) + (k : Int)) = some (i + k) := by
                rw [ik]
                unfold ixN
                rw [rowV_len, if_pos (by omega), if_pos (by omega)]
                rfl
              refine ⟨T', _, rfl, SqT.of hT5, rfl, _, _, rfl, _, _, rfl, rfl, ?_⟩
              refine ⟨_, rfl, _, rfl, _, rfl, _, _, rfl, rfl, D, _, _, _, rfl, rfl, SqL.of hD5, at1, _, rfl, W [b1], b2 b1, rfl, int_W b1, (by rw [W_len]; show 1 ≤ 640; decide), _, _, rfl, rfl, .inl ⟨_, rfl, _, _, rfl, rfl, (by show (0 : Int) < 2; decide), ?_⟩⟩
              refine ⟨_, rfl, _, rfl, _, rfl, _, _, rfl, rfl, D, _, _, i + k, rfl, rfl, hD5, ix1, ?_⟩
              refine ⟨_, _, rfl, fun c' o e' => ?_, ?_⟩
              · rw [upd_ne (ne_of_none e' nD)]
                exact s5 _ _ e'
              · rw [upd_same]
                show some (HO.lst ((rowV _ (xorF p i k g)).set (i + k) (V.int ((b2 (xorF p i k g (i + k)) + b2 b1) % 2)))) = _
                rw [mod_xor, rowV_set, ← xorF_succ]
                have : p.getD k false = b1 := by simp only [List.getD_eq_getElem?_getD]; rw [hb1]; rfl
                rw [this]
            · rintro σ H4 ⟨w3, w5, rfl, s4, hD4⟩
              rw [W_size] at hD4
              refine ⟨_, _, _, _, _, rfl, s4, hD4, ?_⟩
              have := rowAt_step hlen hi ra
              rw [gt] at this
              exact this
          · have gf : g i = false := by
              cases hg : g i with
              | false => rfl
              | true => rw [hg] at h1; exact absurd rfl h1
            refine ⟨_, _, _, _, _, rfl, s3, hD3, ?_⟩
            have := rowAt_step hlen hi ra
            rw [gf] at this
            exact this
      · rintro σ H3 ⟨g, v3, v4, v5, v6, rfl, s3, hD3, ra⟩
        -- the join
        refine ⟨⟨_, rfl⟩, ?_⟩
        refine ⟨_, rfl, _, rfl, _, rfl, lb, _, rfl, D, _, rfl, SqL.of hD3, fun q nq => ?_⟩
        rw [W_len, cut_fromC (by rw [rowV_len]; omega), rowV_drop hlen ra]
        have lr : (restM p st bits).length = st.length := restM_len _ _ hlen
        refine ⟨q, rfl, ⟨_, SqL.of upd_same⟩, fun D2 nD2 => ?_⟩
        have hq : upd H3 q (.lst ((restM p st bits).map fun b => V.int (b2 b))) q = some (.lst ((restM p st bits).map fun b => V.int (b2 b))) := upd_same
        have s4 := s3.trans (same_upd (o := .lst ((restM p st bits).map fun b => V.int (b2 b))) nq)
        generalize upd H3 q (.lst ((restM p st bits).map fun b => V.int (b2 b))) = H4 at hq s4 nD2
        refine lc_it (walk_list (K := K) (a := q) (xs := (restM p st bits).map fun b => V.int (b2 b))) (fun i H5 => Same H4 H5 ∧ H5 D2 = some (.lst (bitsV ((restM p st bits).take i)))) ⟨same_upd nD2, upd_same⟩ (fun i H5 _ h => SqL.of (h.1 _ _ hq)) ?_ ?_
        · rintro i x H5' H5 hi ⟨s5, hD5⟩ ⟨rfl, hx⟩
          rw [List.getElem?_map] at hx
          obtain ⟨b1, hb1, rfl⟩ := Option.map_eq_some_iff.mp hx
          refine ⟨rfl, ?_⟩
          refine ⟨_, rfl, _, rfl, ?_, _, hD5, ?_, ?_, ?_⟩
          · cases b1 <;> decide
          · rw [bitsV_len, List.length_take]; exact sl_lt (by omega)
          · intro c' o e'
            rw [upd_ne (ne_of_none e' nD2)]
            exact s5 _ _ e'
          · rw [upd_same, List.take_add_one, hb1]
            show some (HO.lst (bitsV _ ++ [V.str (Str.ofString (toString (b2 b1)))])) = _
            rw [str_b2, bitsV_snoc]
            rfl
        · rintro H5 ⟨s5, hD5⟩
          rw [List.length_map, List.take_length] at hD5
          refine ⟨_, D2, _, rfl, rfl, .inl (SqL.of hD5), ?_, ?_⟩
          · rw [lens_bits, empty_len]; omega
          · show Q (.str (Txt.join "" ((restM p st bits).map fun b => W [b]))) H5
            rw [join_bits]
            exact k H5 (s4.trans s5)
end
end U

set_option maxRecDepth 100000
set_option maxHeartbeats 4000000
namespace U
open PySem PySem.Spec PyProof.Rows
open L2 hiding Fun CX0 E0 pass0 Fun.binds
open C8 Lx SX
def spRight : Sp := fun vs H Q _ => ∃ (t : Addr) (p s m : List Bool), vs = [.ref t, .str (W m)] ∧ H t = some (.tup [.str (W p), .str (W s)]) ∧ CkOk p s ∧ s.length ≤ 100 ∧ m.length ≤ 1000 ∧
  ∀ H', Same H H' → Q (.bl (goodM p s m)) H'
section
variable {P : Program} {w : World} {K : PySem.W.Frag} {mg : Str → Option Value} {base : Heap}
theorem sc_l_right : FnScope ["_law_check_here", "_law_message"] ["_law_check_here", "_law_message"] (fnScope s_l_right) := fnScope_by (by decide +kernel)
theorem cal_l_right {f : Addr} {fd : FuncData} (F : Def K mg "_law_right" s_l_right f fd) (b : Binds K fd ["_law_check_here", "_law_message"] []) (T : Tx mg) (c_l_rest : Cal P w K mg base 1 "_law_rest" spLRest []) : Cal P w K mg base 2 "_law_right" spRight [] := by
  refine cal0 F b .nil sc_l_right (fun vs H Q E h => ?_) (fun cdv A outer s H vs Q E hr h => ?_)
  · obtain ⟨_, _, _, _, rfl, _⟩ := h; rfl
  · obtain ⟨t, p, st, m, rfl, ht, ok, hs, hm, k⟩ := h
    refine ⟨_, (pss_one (ps_ret (pe_and (pe_cmpR op_ge (pe_callB call_len_str (by rfl) T.b_len (by decide +kernel) (pa_cons (pv 1) pa_nil)) (pe_callB call_len_str (by rfl) T.b_len (by decide +kernel) (pa_cons (pe_ix ix_tup (pv 0) pe_int (fun _ _ => rfl)) pa_nil)) (nomark _)) (pe_one (pe_cmpR op_notIn_sign pe_str (pe_c c_l_rest hr (by decide) rfl (pa_cons (pv 0) (pa_cons (pv 1) pa_nil))) (by with_unfolding_all rfl)))))), ?_⟩
    refine ⟨_, rfl, _, rfl, by rw [W_len]; exact sl_len (by omega), _, rfl, t, _, _, _, rfl, rfl, SqT.of ht, atI_nat (j := 1) rfl, _, rfl, by rw [W_len]; exact sl_len (by omega), _, _, rfl, rfl, _, rfl, ?_⟩
    rw [W_len, W_len]
    refine ite2 (fun h1 => ?_) (fun h1 => ?_)
    · have h2 : ((st.length : Nat) : Int) ≤ ((m.length : Nat) : Int) := of_decide_eq_true h1
      refine ⟨_, rfl, _, rfl, t, p, st, m, rfl, ht, ok, hs, hm, fun H1 s1 => ⟨49, _, V_1, rfl, ?_⟩⟩
      rw [one_in]
      have := k H1 s1
      unfold goodM at this
      rw [decide_eq_true (by omega : st.length ≤ m.length), Bool.true_and] at this
      exact this
    · have h2 : ¬ ((st.length : Nat) : Int) ≤ ((m.length : Nat) : Int) := of_decide_eq_false (by simpa using h1)
      have := k H (Same.refl H)
      unfold goodM at this
      rw [decide_eq_false (by omega : ¬ st.length ≤ m.length), Bool.false_and] at this
      exact this
end
end U

set_option maxRecDepth 100000
set_option maxHeartbeats 4000000
set_option pp.maxSteps 400
namespace U
open PySem PySem.Spec PyProof.Rows
open L2 hiding Fun CX0 E0 pass0 Fun.binds
open C8 Lx SX StX
theorem mk_ck1z {C : Addr} {H : Hp} {z : Str} {p s : List Bool} {R : Addr → Hp → Prop} {E : XK} (hz : z = W p) (ok : CkOk p s) (hl : p.length ≤ 1000) (k : ∀ x H', Same H H' → CkAt C H' x p (zs s.length) → R x H') :
    ∀ x dx, H x = none → H dx = none → dx ≠ x → spCkInit C [.ref x, .str z, .non] (upd (upd H dx (.own x)) x (.ins C dx [])) (fun v H2 => v = .non ∧ R x H2) E := by
  subst hz
  exact mk_ck1 ok hl k
theorem mk_ck2z {C : Addr} {H : Hp} {z y : Str} {p s : List Bool} {R : Addr → Hp → Prop} {E : XK} (hz : z = W p) (hy : y = W s) (ok : CkOk p s) (hl : p.length ≤ 1000) (k : ∀ x H', Same H H' → CkAt C H' x p s → R x H') :
    ∀ x dx, H x = none → H dx = none → dx ≠ x → spCkInit C [.ref x, .str z, .str y] (upd (upd H dx (.own x)) x (.ins C dx [])) (fun v H2 => v = .non ∧ R x H2) E := by
  subst hz hy
  exact mk_ck2 ok hl k
/-! pairs of a reason and data, as data -/
def oD : Option (List Bool) → PyData
  | none => .none
  | some x => .str (W x)
theorem oD_dp {K : PySem.W.Frag} {H : Hp} : ∀ o : Option (List Bool), Dp K H (oW o) (oD o)
  | none => .non
  | some _ => .str _
theorem oD_ok : ∀ o : Option (List Bool), DOk 0 (oD o)
  | none => ⟨rfl, Nat.le_refl _⟩
  | some x => dok_str x
def prD (r : Rd2) : PyData := .tuple [.str r.1, oD r.2]
theorem prD_dp {K : PySem.W.Frag} {H : Hp} {t : Addr} {r : Rd2} (h : H t = some (.tup [.str r.1, oW r.2])) : Dp K H (.ref t) (prD r) := .tup (SqT.of h) (.cons (.str _) (.cons (oD_dp _) .nil))
theorem prD_ok {r : Rd2} (h : PyData.strOk r.1 = true) : DOk 1 (prD r) := dok_tup (n := 0) fun e he => by
  rcases List.mem_cons.mp he with rfl | he
  · exact ⟨h, Nat.le_refl _⟩
  · rw [List.mem_singleton.mp he]; exact oD_ok _
theorem DOk.refl {n : Nat} {d : PyData} (h : DOk n d) : PyData.eqv d d = true := SeqAt.eqv_refl d h.1
theorem frD_dp {K : PySem.W.Frag} {H : Hp} {kb : Addr → Rd2} : ∀ {ps : List Addr}, FrT H kb ps → DpAll K H (ps.map V.ref) ((ps.map kb).map prD)
  | [], _ => .nil
  | t :: r, h => .cons (prD_dp (h t List.mem_cons_self)) (frD_dp fun u hu => h u (List.mem_cons_of_mem _ hu))
theorem FrU.dp {K : PySem.W.Frag} {H : Hp} {q : Addr} {rs : List Rd2} (h : FrU H q rs) : Dp K H (.ref q) (.tuple (rs.map prD)) := by
  obtain ⟨ps, kb, h1, h2, rfl⟩ := h
  exact .tup (SqT.of h1) (frD_dp h2)
theorem frD_ok {rs : List Rd2} (h : ∀ r ∈ rs, PyData.strOk r.1 = true) : DOk 2 (.tuple (rs.map prD)) := dok_tup (n := 1) fun e he => by
  obtain ⟨r, hr, rfl⟩ := List.mem_map.mp he
  exact prD_ok (h r hr)
end U

set_option maxRecDepth 100000
set_option maxHeartbeats 4000000
set_option pp.maxSteps 400
namespace U
open PySem PySem.Spec PyProof.Rows
open L2 hiding Fun CX0 E0 pass0 Fun.binds
open C8 Lx SX StX
/-! the law's own cutting of a line -/
def oI : Option Nat → V
  | none => .non
  | some i => .int (i : Nat)
def fstL (l f : List Bool) (n : Nat) : List Nat := (List.range n).filter fun i => decide ((l.drop i).take f.length = f)
theorem pre_take {f l : List Bool} : f <+: l ↔ l.take f.length = f := ⟨fun h => (List.prefix_iff_eq_take.mp h).symm, fun h => List.prefix_iff_eq_take.mpr h.symm⟩
theorem fst_pos {l f : List Bool} {n : Nat} (hn : (n : Int) = (l.length : Int) - f.length + 1 ∨ (n = 0 ∧ l.length < f.length)) : posM l f = (fstL l f n).head? := by
  unfold fstL
  rw [List.head?_filter]
  cases e : (List.range n).find? (fun i => decide ((l.drop i).take f.length = f)) with
  | none =>
    refine posM_none.mpr fun i hi z => ?_
    have hl := z.length_le
    rw [List.length_drop] at hl
    have hin : i < n := by omega
    have := List.find?_eq_none.mp e i (List.mem_range.mpr hin)
    exact this (decide_eq_true (pre_take.mp z))
  | some i =>
    obtain ⟨h1, h2, h3⟩ := List.find?_range_eq_some.mp e
    have h2 := List.mem_range.mp h2
    refine posM_some.mpr ⟨by omega, pre_take.mpr (of_decide_eq_true h1), fun k hk z => ?_⟩
    have := h3 k hk
    rw [decide_eq_true (pre_take.mp z)] at this
    cases this
def intsV (ns : List Nat) : List V := ns.map fun i : Nat => V.int (i : Int)
theorem ints_dp {K : PySem.W.Frag} {H : Hp} : ∀ ns : List Nat, DpAll K H (intsV ns) (ns.map fun i : Nat => PyData.int (i : Int))
  | [] => .nil
  | _ :: r => .cons (.int _) (ints_dp r)
def spFirst : Sp := fun vs H Q _ => ∃ l f : List Bool, vs = [.str (W l), .str (W f)] ∧ l.length ≤ 10000 ∧ f.length ≤ 1000 ∧ ∀ H', Same H H' → Q (oI (posM l f)) H'
def spPartTold : Sp := fun vs H Q _ => ∃ (t c : Addr) (f : List Bool) (ss : List Stf) (p s l : List Bool), vs = [.ref t, .ref c, .str (W l)] ∧ Told H t f ss ∧ H c = some (.tup [.str (W p), .str (W s)]) ∧ CkOk p s ∧ s.length ≤ 100 ∧ l.length ≤ 800 ∧ ss.length ≤ 1000 ∧ (∀ s ∈ ss, s.1 ≠ [] ∧ s.1.length ≤ 1000) ∧ OkN 39 ss ∧
  ∀ t H', H t = none → Same H H' → H' t = some (.tup [.str (rdM ss p s l).1, oW (rdM ss p s l).2]) → Q (.ref t) H'
def spLCut : Sp := fun vs H Q _ => ∃ (t c : Addr) (f : List Bool) (ss : List Stf) (p s l : List Bool), vs = [.ref t, .ref c, .str (W l)] ∧ Told H t f ss ∧ H c = some (.tup [.str (W p), .str (W s)]) ∧ CkOk p s ∧ s.length ≤ 100 ∧ l.length ≤ 800 ∧ f ≠ [] ∧ f.length ≤ 1000 ∧ ss.length ≤ 1000 ∧ (∀ s ∈ ss, s.1 ≠ [] ∧ s.1.length ≤ 1000) ∧ OkN 39 ss ∧
  ∀ t q H', Same H H' → H' t = some (.tup [.ref q, .str (W (cutF f l.length l).2)]) → FrU H' q (frM f ss p s l) → Q (.ref t) H'
section
variable {P : Program} {w : World} {K : PySem.W.Frag} {mg : Str → Option Value} {base : Heap}
theorem sc_l_first : FnScope ["_law_line", "_law_flag", "_law_found", "_law_at"] ["_law_line", "_law_flag"] (fnScope s_l_first) := fnScope_by (by decide +kernel)
theorem cal_l_first {f : Addr} {fd : FuncData} (F : Def K mg "_law_first" s_l_first f fd) (b : Binds K fd ["_law_line", "_law_flag"] []) (T : Tx mg) : Cal P w K mg base 1 "_law_first" spFirst [] := by
  refine cal0 F b .nil sc_l_first (fun vs H Q E h => ?_) (fun cdv A outer s H vs Q E hr h => ?_)
  · obtain ⟨_, _, rfl, _⟩ := h; rfl
  · obtain ⟨l, f, rfl, ll, lf, k⟩ := h
    refine ⟨_, (pss_cons (ps_setLc (i := 2) (own := [("_law_at", 3)]) (g := gName 3) (by rfl) sc_l_first.nd rfl rfl (sw_true rfl rfl rfl (by decide +kernel)) (pi_range1 (by rfl) T.b_range (pa_cons (pe_op op_add (pe_op op_sub (pe_callB call_len_str (by rfl) T.b_len (by decide +kernel) (pa_cons (pv 0) pa_nil)) (pe_callB call_len_str (by rfl) T.b_len (by decide +kernel) (pa_cons (pv 1) pa_nil))) pe_int) pa_nil)) (blkOk_by (own := [("_law_at", 3)]) (N := ["_law_line", "_law_flag", "_law_found", "_law_at"]) (sc := fnScope s_l_first) (by decide +kernel)) (fun _ _ _ _ _ => (pg_name (i := 3) sc_l_first.nd rfl (.inl rfl))) (fun _ _ _ _ _ => (pts_one (pt_cmpR op_eq (pe_slice sl_txt (pv 0) (po_some (pv 3)) (po_some (pe_op op_add (pv 3) (pe_callB call_len_str (by rfl) T.b_len (by decide +kernel) (pa_cons (pv 1) pa_nil))))) (pv 1) (nomark _)))) (fun _ _ _ _ _ => (pv 3)))
    (pss_one (ps_ret (pe_ifExp (pt_cmpR (op_neD hr.units) (pv 2) (pe_lst pa_nil) (nomark _)) (pe_ix ix_list (pv 2) pe_int (fun _ _ => rfl)) pe_non)))), ?_⟩
    have wl : (W l).length = l.length := W_len l
    have wf : (W f).length = f.length := W_len f
    refine ⟨_, rfl, _, rfl, by rw [wl]; exact sl_len (by omega), _, rfl, _, rfl, by rw [wf]; exact sl_len (by omega), _, _, rfl, rfl, _, _, rfl, rfl, _, rfl, by rw [wl, wf]; omega, by rw [wl, wf]; omega, fun D nD => ?_⟩
    rw [wl, wf]
    obtain ⟨n, hn⟩ : ∃ n : Nat, (((l.length : Nat) : Int) - ((f.length : Nat) : Int) + 1).toNat = n := ⟨_, rfl⟩
    rw [hn]
    refine lc_it (walk_range (lo := 0) (n := n)) (fun i H2 => Same H H2 ∧ H2 D = some (.lst (intsV (fstL l f i)))) ⟨same_upd nD, upd_same⟩ (fun _ _ _ _ => trivial) ?_ ?_
    · rintro i x H2' H2 hi ⟨s2, hD⟩ ⟨rfl, rfl⟩
      have hin : i + f.length ≤ l.length := by omega
      have es : Txt.slice (W l) (some (0 + (i : Int))) (some (0 + (i : Int) + ((W f).length : Nat))) = W ((l.drop i).take f.length) := by
        rw [wf, Int.zero_add]; exact W_mid hin
      refine ⟨rfl, _, rfl, _, rfl, _, rfl, _, rfl, _, rfl, _, rfl, by rw [wf]; exact sl_len (by omega), _, _, rfl, rfl, _, rfl, _, rfl, by rw [wl]; exact sl_len (by omega), _, rfl, rfl, _, rfl, ?_⟩
      have el : (fstL l f i).length ≤ i := by
        have := List.length_filter_le (fun i => decide ((l.drop i).take f.length = f)) (List.range i)
        rw [List.length_range] at this
        exact this
      have ee : fstL l f (i + 1) = fstL l f i ++ (if (l.drop i).take f.length = f then [i] else []) := by
        unfold fstL
        rw [List.range_succ, List.filter_append]
        congr 1
        by_cases z : (l.drop i).take f.length = f
        · rw [if_pos z, List.filter_cons, if_pos (decide_eq_true z)]; rfl
        · rw [if_neg z, List.filter_cons, if_neg (fun y => z (of_decide_eq_true y))]; rfl
      by_cases c : (l.drop i).take f.length = f
      · refine iteDT (by rw [es, c]) ?_
        refine ⟨_, rfl, _, hD, by unfold intsV; rw [List.length_map]; exact sl_lt (by omega), same_mut' s2 nD, ?_⟩
        rw [upd_same, ee, if_pos c]
        dsimp only
        rw [Int.zero_add]
        unfold intsV
        rw [List.map_append]
        rfl
      · refine iteDF (fun z => c (W_inj (by rw [← es]; exact V.str.inj z))) ⟨s2, ?_⟩
        rw [ee, if_neg c, List.append_nil]
        exact hD
    · rintro H2 ⟨s2, hD⟩
      have hp : posM l f = (fstL l f n).head? := fst_pos (by omega)
      refine ⟨_, rfl, Nat.zero_le _, fun e ne => ?_⟩
      have se := same_upd (o := .lst []) ne
      have hok : DOk 1 (.list ((fstL l f n).map fun i : Nat => PyData.int (i : Int))) := dok_list (n := 0) fun d hd => by
        obtain ⟨i, _, rfl⟩ := List.mem_map.mp hd
        exact ⟨rfl, Nat.le_refl _⟩
      have hnl : DOk 1 (.list []) := dok_list (n := 0) fun d hd => by cases hd
      refine ⟨.list ((fstL l f n).map fun i : Nat => PyData.int (i : Int)), .list [], .lst (SqL.of (se _ _ hD)) (ints_dp _), .lst (SqL.of upd_same) .nil, hok.shaped (by decide), hnl.shaped (by decide), _, rfl, ?_⟩
      have hD2 := se _ _ hD
      generalize upd H2 e (.lst []) = H3 at se hD2
      cases c : fstL l f n with
      | nil =>
        rw [c] at hp
        refine iteBF rfl ?_
        have := k H3 (s2.trans se)
        rw [hp] at this
        exact this
      | cons i r =>
        rw [c] at hp hD2
        refine iteBT rfl ?_
        refine ⟨_, rfl, D, _, _, _, rfl, rfl, SqL.of hD2, atI_nat (j := 0) rfl, ?_⟩
        have := k H3 (s2.trans se)
        rw [hp] at this
        exact this
theorem sc_l_part_told : FnScope ["_law_rule_here", "_law_check_here", "_law_part", "_law_message"] ["_law_rule_here", "_law_check_here", "_law_part"] (fnScope s_l_part_told) := fnScope_by (by decide +kernel)
theorem cal_l_part_told {f : Addr} {fd : FuncData} (F : Def K mg "_law_part_told" s_l_part_told f fd) (b : Binds K fd ["_law_rule_here", "_law_check_here", "_law_part"] []) (T : Tx mg) (c_l_reading : Cal P w K mg base 5 "_law_reading" spReading []) (c_l_right : Cal P w K mg base 2 "_law_right" spRight []) : Cal P w K mg base 6 "_law_part_told" spPartTold [] := by
  refine cal0 F b .nil sc_l_part_told (fun vs H Q E h => ?_) (fun cdv A outer s H vs Q E hr h => ?_)
  · obtain ⟨_, _, _, _, _, _, _, rfl, _⟩ := h; rfl
  · obtain ⟨t, c, f, ss, p, st, l, rfl, told, hc, ck, ls, ll, few, hs, hO, k⟩ := h
    refine ⟨_, (pss_cons (ps_set (i := 3) sc_l_part_told.nd rfl (.inl rfl) (pe_c c_l_reading hr (by decide) rfl (pa_cons (pe_ix ix_tup (pv 0) pe_int (fun _ _ => rfl)) (pa_cons (pv 2) pa_nil))))
    (pss_cons (ps_if (pt_cmpR op_isN (pv 3) pe_non (nomark _)) (pss_one (ps_ret (pe_tup (pa_cons pe_str (pa_cons pe_non pa_nil))))) pss_nil)
    (pss_one (ps_ret (pe_ifExp (pt_val (pe_c c_l_right hr (by decide) rfl (pa_cons (pv 1) (pa_cons (pv 3) pa_nil)))) (pe_tup (pa_cons pe_str (pa_cons (pe_slice sl_txt (pv 3) po_none (po_some (pe_op op_sub (pe_callB call_len_str (by rfl) T.b_len (by decide +kernel) (pa_cons (pv 3) pa_nil)) (pe_callB call_len_str (by rfl) T.b_len (by decide +kernel) (pa_cons (pe_ix ix_tup (pv 1) pe_int (fun _ _ => rfl)) pa_nil))))) pa_nil))) (pe_tup (pa_cons pe_str (pa_cons pe_non pa_nil)))))))), ?_⟩
    obtain ⟨lk, ht, hl⟩ := told.stl
    refine ⟨_, rfl, t, _, _, _, rfl, rfl, SqT.of ht, atI_nat (j := 1) rfl, _, rfl, lk, l, ss, rfl, hl, ll, few, hs, hO, fun H1 s1 => ?_⟩
    refine ⟨_, rfl, rfl, _, rfl, ?_⟩
    rw [oW_non]
    unfold rdM at k
    cases e : takM ss l with
    | none =>
      rw [e] at k
      refine iteBT rfl ?_
      exact ⟨by show 2 ≤ sizeLine; decide, fun q nq => k q _ (s1.free nq) (s1.trans (same_upd nq)) upd_same⟩
    | some m =>
      rw [e] at k
      dsimp only at k
      have lm : m.length ≤ l.length := by have := takL_le (m := []) e; simpa using this
      refine iteBF rfl ?_
      refine ⟨_, rfl, _, rfl, c, p, st, m, rfl, s1 _ _ hc, ck, ls, by omega, fun H2 s2 => ⟨_, rfl, ?_⟩⟩
      have s12 := s1.trans s2
      have wm : (W m).length = m.length := W_len m
      have ws : (W st).length = st.length := W_len st
      cases g : goodM p st m with
      | true =>
        rw [g] at k
        refine iteT ?_
        have hlm : st.length ≤ m.length := by
          unfold goodM at g
          rw [Bool.and_eq_true] at g
          exact of_decide_eq_true g.1
        have es : Txt.slice (W m) none (some (((W m).length : Nat) - ((W st).length : Nat) : Int)) = W (m.take (m.length - st.length)) := by
          rw [wm, ws, W_take (by omega)]
          congr 2
          omega
        refine ⟨_, rfl, _, rfl, _, rfl, by rw [wm]; exact sl_len (by omega), _, rfl, c, _, _, _, rfl, rfl, SqT.of (s12 _ _ hc), atI_nat (j := 1) rfl, _, rfl, by rw [ws]; exact sl_len (by omega), _, _, rfl, rfl, _, rfl, _, rfl, by rw [wm]; exact sl_len (by omega), ?_⟩
        rw [es]
        exact ⟨by show 2 ≤ sizeLine; decide, fun q nq => k q _ (s12.free nq) (s12.trans (same_upd nq)) upd_same⟩
      | false =>
        rw [g] at k
        refine iteF ?_
        exact ⟨by show 2 ≤ sizeLine; decide, fun q nq => k q _ (s12.free nq) (s12.trans (same_upd nq)) upd_same⟩
theorem sc_l_cut : FnScope ["_law_rule_here", "_law_check_here", "_law_raw", "_law_found", "_law_rest_here", "_law_turn_here", "_law_at"] ["_law_rule_here", "_law_check_here", "_law_raw"] (fnScope s_l_cut) := fnScope_by (by decide +kernel)
theorem cal_l_cut {f : Addr} {fd : FuncData} (F : Def K mg "_law_cut" s_l_cut f fd) (b : Binds K fd ["_law_rule_here", "_law_check_here", "_law_raw"] []) (T : Tx mg) (c_l_first : Cal P w K mg base 1 "_law_first" spFirst []) (c_l_part_told : Cal P w K mg base 6 "_law_part_told" spPartTold []) : Cal P w K mg base 7 "_law_cut" spLCut [] := by
  refine cal0 F b .nil sc_l_cut (fun vs H Q E h => ?_) (fun cdv A outer s H vs Q E hr h => ?_)
  · obtain ⟨_, _, _, _, _, _, _, rfl, _⟩ := h; rfl
  · obtain ⟨t, c, fl, ss, p, st, l, rfl, told, hc, ck, ls, ll, hf, lf, few, hs, hO, k⟩ := h
    refine ⟨_, (pss_cons (ps_par (i := 3) (j := 4) (by rfl) sc_l_cut.nd rfl rfl (by decide) rfl rfl (pa_cons (pe_lst pa_nil) (pa_cons (pv 2) pa_nil)) (by rfl))
    (pss_cons (ps_for PassesOwn.never rfl (pi_range1 (by rfl) T.b_range (pa_cons (pe_callB call_len_str (by rfl) T.b_len (by decide +kernel) (pa_cons (pv 2) pa_nil)) pa_nil)) (pg_name (i := 5) sc_l_cut.nd rfl (.inl rfl))
    (pss_cons (ps_set (i := 6) sc_l_cut.nd rfl (.inl rfl) (pe_c c_l_first hr (by decide) rfl (pa_cons (pv 4) (pa_cons (pe_ix ix_tup (pv 0) pe_int (fun _ _ => rfl)) pa_nil))))
    (pss_cons (ps_if (pt_cmpR op_isN (pv 6) pe_non (nomark _)) (pss_one (ps_ret (pe_tup (pa_cons (pe_callTy call_tuple_of (by rfl) T.b_tuple (by decide +kernel) (pa_cons (pv 3) pa_nil)) (pa_cons (pv 4) pa_nil))))) pss_nil)
    (pss_cut (ps_expr (pe_bm PySem.F.plainAttrs_list PySem.F.slot_list_extend PySem.F.type_list_extend mt_extend (pv 3) (pa_cons (pe_ifExp (pt_cmpR op_gt (pv 6) pe_int (nomark _)) (pe_lst (pa_cons (pe_c c_l_part_told hr (by decide) rfl (pa_cons (pv 0) (pa_cons (pv 1) (pa_cons (pe_slice sl_txt (pv 4) po_none (po_some (pv 6))) pa_nil)))) pa_nil)) (pe_lst pa_nil)) pa_nil)))
    (pss_one (ps_set (i := 4) sc_l_cut.nd rfl (.inl rfl) (pe_slice sl_txt (pv 4) (po_some (pe_op op_add (pv 6) (pe_callB call_len_str (by rfl) T.b_len (by decide +kernel) (pa_cons (pe_ix ix_tup (pv 0) pe_int (fun _ _ => rfl)) pa_nil)))) po_none)))))))
    (pss_one (ps_ret (pe_tup (pa_cons (pe_callTy call_tuple_of (by rfl) T.b_tuple (by decide +kernel) (pa_cons (pv 3) pa_nil)) (pa_cons (pv 4) pa_nil))))))), ?_⟩
    have f0 : 0 < fl.length := List.length_pos_iff.mpr hf
    refine ⟨Nat.zero_le _, fun F0 nF => ⟨_, rfl, _, _, rfl, ?_⟩⟩
    have sF := same_upd (o := .lst []) nF
    have hF0 : FrL (upd H F0 (.lst [])) F0 [] := ⟨[], fun _ => ("", none), upd_same, (fun _ h => nomatch h), rfl⟩
    generalize upd H F0 (.lst []) = H1 at sF hF0
    have wl : (W l).length = l.length := W_len l
    refine ⟨_, rfl, _, rfl, by rw [wl]; exact sl_len (by omega), _, rfl, by rw [wl]; omega, by rw [wl]; omega, ?_⟩
    refine for_it walk_range (fun i σ H3 => ∃ (r : List Bool) (ds : List (List Bool)), ∃ v5 v6 : Option V, σ = [some (.ref t), some (.ref c), some (.str (W l)), some (.ref F0), some (.str (W r)), v5, v6] ∧ Same H H3 ∧ i + r.length ≤ l.length ∧ ds.length ≤ i ∧ cutF fl l.length l = (ds ++ (cutF fl (l.length - i) r).1, (cutF fl (l.length - i) r).2) ∧ FrL H3 F0 ((ds.filter (· ≠ [])).map (rdM ss p st)))
      ⟨l, [], _, _, rfl, sF, by omega, Nat.le_refl _, rfl, hF0⟩ (fun _ _ _ _ _ => trivial) ?_ ?_
    · rintro i x σ H3' H3 hi ⟨r, ds, v5, v6, rfl, s3, lr, lds, hcut, hF3⟩ ⟨rfl, rfl⟩
      rw [wl] at hi
      have hi : i < l.length := by omega
      have told3 := told.same s3
      obtain ⟨lk, ht3, hl3⟩ := told3.stl
      refine ⟨_, rfl, _, rfl, t, _, _, _, rfl, rfl, SqT.of ht3, atI_nat (j := 0) rfl, r, fl, rfl, by omega, lf, fun H4 s4 => ?_⟩
      have s34 := s3.trans s4
      have hF4 := hF3.same s4
      have told4 := told3.same s4
      have ht4 := s4 _ _ ht3
      refine ⟨_, rfl, rfl, _, rfl, ?_⟩
      obtain ⟨n, hn⟩ : ∃ n, l.length - i = n + 1 := ⟨l.length - i - 1, by omega⟩
      cases e : posM r fl with
      | none =>
        refine iteDT rfl ?_
        obtain ⟨ps, kb, hq, hT, hrs⟩ := hF4
        rw [cutF_none e] at hcut
        refine ⟨_, rfl, F0, _, rfl, .inl ⟨SqL.of hq, fun u nu => ?_⟩⟩
        have su := same_upd (o := .tup (ps.map V.ref)) nu
        refine ⟨_, rfl, by show 2 ≤ sizeLine; decide, fun v nv => ?_⟩
        have sv := same_upd (o := .tup [.ref u, .str (W r)]) nv
        refine k v u _ ((s34.trans su).trans sv) ?_ ?_
        · rw [upd_same, hcut]
        · refine ⟨ps, kb, sv _ _ upd_same, (hT.same su).same sv, ?_⟩
          unfold frM
          rw [hcut]
          show ((ds ++ []).filter _).map _ = _
          rw [List.append_nil]
          exact hrs
      | some j =>
        obtain ⟨hj, _⟩ := posM_lt hf e
        rw [hn, cutF_some e] at hcut
        refine iteDF nofun ?_
        obtain ⟨ps, kb, hq, hT, hrs⟩ := hF4
        have wr : (W r).length = r.length := W_len r
        have lps : ps.length ≤ ds.length := by
          have := congrArg List.length hrs
          rw [List.length_map, List.length_map] at this
          have := List.length_filter_le (fun x : List Bool => decide (x ≠ [])) ds
          omega
        refine ⟨fun σ H' => ∃ v5 : Option V, σ = [some (.ref t), some (.ref c), some (.str (W l)), some (.ref F0), some (.str (W r)), v5, some (.int (j : Nat))] ∧ Same H H' ∧ FrL H' F0 (((ds ++ [r.take j]).filter (· ≠ [])).map (rdM ss p st)), ?_, ?_⟩
        · refine ⟨_, rfl, .inl ⟨rfl, _, SqL.of hq⟩, ?_⟩
          refine ⟨_, rfl, _, _, rfl, rfl, _, rfl, ?_⟩
          by_cases j0 : 0 < j
          · refine iteDT (by show (0 : Int) < (j : Nat); omega) ?_
            have en : r.take j ≠ [] := fun z => by
              have h1 := congrArg List.length z
              rw [List.length_take] at h1
              have h1 : min j r.length = 0 := h1
              omega
            have es : Txt.slice (W r) none (some ((j : Nat) : Int)) = W (r.take j) := by rw [W_take (by omega)]; rfl
            refine ⟨_, rfl, _, rfl, _, rfl, _, rfl, _, rfl, _, rfl, by rw [wr]; exact sl_len (by omega), ?_⟩
            rw [es]
            refine ⟨t, c, fl, ss, p, st, r.take j, rfl, told4, s34 _ _ hc, ck, ls, by rw [List.length_take]; omega, few, hs, hO, fun z H5 nz s5 hz => ?_⟩
            refine ⟨by show 1 ≤ sizeLine; decide, fun u nu => ?_⟩
            have su := same_upd (o := .lst [.ref z]) nu
            refine ⟨F0, u, _, _, rfl, rfl, su _ _ (s5 _ _ hq), upd_same, by rw [List.length_map]; exact sl_len (by show _ + 1 ≤ _; omega), ?_⟩
            refine ⟨_, rfl, same_mut' ((s34.trans s5).trans su) nF, ?_⟩
            have := fr_push (p := rdM ss p st (r.take j)) (su _ _ (s5 _ _ hq)) ((hT.same s5).same su) (su _ _ hz) (fun hm => by rw [hT z hm] at nz; cases nz)
            rw [List.filter_append, List.filter_cons_of_pos (by simpa using en), List.filter_nil, List.map_append, hrs]
            exact this
          · refine iteDF (by show ¬ (0 : Int) < (j : Nat); omega) ?_
            have j0 : j = 0 := by omega
            subst j0
            refine ⟨Nat.zero_le _, fun u nu => ?_⟩
            have su := same_upd (o := .lst []) nu
            refine ⟨F0, u, _, _, rfl, rfl, su _ _ hq, upd_same, by rw [List.length_map]; exact sl_len (by show _ + 0 ≤ _; omega), ?_⟩
            refine ⟨_, rfl, same_mut' (s34.trans su) nF, ?_⟩
            rw [List.append_nil, List.filter_append, List.filter_cons_of_neg (by rw [List.take_zero]; decide), List.filter_nil, List.append_nil]
            exact ⟨ps, kb, upd_same, fun y hy => by rw [upd_ne (ne_of (hT y hy) hq (by intro z; cases z))]; exact su _ _ (hT y hy), hrs⟩
        rintro σ' H5 ⟨v5, rfl, s5, hF5⟩
        obtain ⟨lk5, ht5, _⟩ := (told.same s5).stl
        have wfl : (W fl).length = fl.length := W_len fl
        have es : Txt.slice (W r) (some (((j : Nat) : Int) + ((W fl).length : Nat))) none = W (r.drop (j + fl.length)) := by
          rw [wfl, W_drop (by omega)]
          congr 2
        refine ⟨_, rfl, _, rfl, _, rfl, t, _, _, _, rfl, rfl, SqT.of ht5, atI_nat (j := 0) rfl, _, rfl, by rw [wfl]; exact sl_len (by omega), _, _, rfl, rfl, _, rfl, _, rfl, by rw [wr]; exact sl_len (by omega), ?_⟩
        rw [es]
        refine ⟨r.drop (j + fl.length), ds ++ [r.take j], _, _, rfl, s5, by rw [List.length_drop]; omega, by rw [List.length_append]; show _ + 1 ≤ _; omega, ?_, hF5⟩
        rw [hcut, show l.length - (i + 1) = n by omega, List.append_assoc]
        rfl
    · rintro σ H3 ⟨r, ds, v5, v6, rfl, s3, lr, lds, hcut, hF3⟩
      rw [show (((W l).length : Nat) : Int).toNat = l.length by rw [wl]; omega, Nat.sub_self] at hcut
      have hcut : cutF fl l.length l = (ds ++ [], r) := hcut
      obtain ⟨ps, kb, hq, hT, hrs⟩ := hF3
      refine ⟨_, rfl, F0, _, rfl, .inl ⟨SqL.of hq, fun u nu => ?_⟩⟩
      have su := same_upd (o := .tup (ps.map V.ref)) nu
      refine ⟨_, rfl, by show 2 ≤ sizeLine; decide, fun v nv => ?_⟩
      have sv := same_upd (o := .tup [.ref u, .str (W r)]) nv
      refine k v u _ ((s3.trans su).trans sv) ?_ ?_
      · rw [upd_same, hcut]
      · refine ⟨ps, kb, sv _ _ upd_same, (hT.same su).same sv, ?_⟩
        unfold frM
        rw [hcut]
        show ((ds ++ []).filter _).map _ = _
        rw [List.append_nil]
        exact hrs
end
end U

set_option maxRecDepth 100000
set_option maxHeartbeats 4000000
set_option pp.maxSteps 400
namespace U
open PySem PySem.Spec PyProof.Rows
open L2 hiding Fun CX0 E0 pass0 Fun.binds
open C8 Lx SX StX
/-! frames as data: small enough to be shown -/
theorem cutF_parts {f : List Bool} : ∀ (n : Nat) (r : List Bool), (cutF f n r).1.length ≤ n ∧ ∀ x ∈ (cutF f n r).1, x.length ≤ r.length
  | 0, r => ⟨Nat.le_refl _, fun x hx => by cases hx⟩
  | n + 1, r => by
    cases e : posM r f with
    | none => rw [cutF_none e]; exact ⟨Nat.zero_le _, fun x hx => by cases hx⟩
    | some i =>
      rw [cutF_some e]
      obtain ⟨h1, h2⟩ := cutF_parts (f := f) n (r.drop (i + f.length))
      refine ⟨Nat.succ_le_succ h1, fun x hx => ?_⟩
      rcases List.mem_cons.mp hx with rfl | hx
      · rw [List.length_take]; omega
      · have := h2 x hx
        rw [List.length_drop] at this
        omega
/-- a pair that is short -/
def Sm (n : Nat) (r : Rd2) : Prop := r.1.length ≤ 5 ∧ (r.1.cps.toList.all fun c => decide (c < 16 ^ 8)) = true ∧ PyData.strOk r.1 = true ∧ ∀ x, r.2 = some x → x.length ≤ n
theorem rd_sm (ss : List Stf) (p s l : List Bool) : Sm l.length (rdM ss p s l) := by
  unfold rdM
  cases e : takM ss l with
  | none =>
    refine ⟨?_, ?_, ?_, fun x hx => by cases hx⟩
    · show ("put" : Str).length ≤ 5; decide +kernel
    · show (("put" : Str).cps.toList.all _) = true; decide +kernel
    · show PyData.strOk "put" = true; decide +kernel
  | some m =>
    have lm : m.length ≤ l.length := by have := takL_le (m := []) e; simpa using this
    dsimp only
    split
    · refine ⟨?_, ?_, ?_, fun x hx => ?_⟩
      · show ("good" : Str).length ≤ 5; decide +kernel
      · show (("good" : Str).cps.toList.all _) = true; decide +kernel
      · show PyData.strOk "good" = true; decide +kernel
      · rw [← Option.some.inj hx, List.length_take]; omega
    · refine ⟨?_, ?_, ?_, fun x hx => by cases hx⟩
      · show ("check" : Str).length ≤ 5; decide +kernel
      · show (("check" : Str).cps.toList.all _) = true; decide +kernel
      · show PyData.strOk "check" = true; decide +kernel
theorem Sm.mono {n m : Nat} {r : Rd2} (h : Sm n r) (hm : n ≤ m) : Sm m r := ⟨h.1, h.2.1, h.2.2.1, fun x hx => Nat.le_trans (h.2.2.2 x hx) hm⟩
theorem fr_sm {f : List Bool} {ss : List Stf} {p s l : List Bool} : (frM f ss p s l).length ≤ l.length ∧ ∀ r ∈ frM f ss p s l, Sm l.length r := by
  unfold frM
  obtain ⟨h1, h2⟩ := cutF_parts (f := f) l.length l
  refine ⟨by rw [List.length_map]; exact Nat.le_trans (List.length_filter_le _ _) h1, fun r hr => ?_⟩
  obtain ⟨x, hx, rfl⟩ := List.mem_map.mp hr
  exact (rd_sm ss p s x).mono (h2 x (List.mem_filter.mp hx).1)
theorem prD_show {n : Nat} {r : Rd2} (h : Sm n r) : (prD r).showable = true ∧ (prD r).hasDict = false ∧ (prD r).leavesShort 8 = true ∧ (prD r).weight ≤ n + 20 ∧ (prD r).depth ≤ 1 := by
  obtain ⟨h1, h2, _, h3⟩ := h
  have c1 : r.1.cps.size ≤ 5 := h1
  cases e : r.2 with
  | none =>
    unfold prD
    rw [e]
    refine ⟨rfl, rfl, ?_, ?_, ?_⟩
    · simp only [oD, PyData.leavesShort, PyData.leavesShortAll, h2, Bool.and_true]
    · simp only [oD, PyData.weight, PyData.weightAll]; omega
    · simp only [oD, PyData.depth, PyData.depthAll]; decide
  | some x =>
    have lx := h3 x e
    have wx : (W x).cps.size = x.length := W_size x
    have ww : ((W x).cps.toList.all fun c => decide (c < 16 ^ 8)) = true := List.all_eq_true.mpr fun c hc => by
      rw [W_tl] at hc
      obtain ⟨b, _, rfl⟩ := List.mem_map.mp hc
      cases b <;> decide
    unfold prD
    rw [e]
    refine ⟨rfl, rfl, ?_, ?_, ?_⟩
    · simp only [oD, PyData.leavesShort, PyData.leavesShortAll, h2, ww, Bool.and_true]
    · simp only [oD, PyData.weight, PyData.weightAll]; omega
    · simp only [oD, PyData.depth, PyData.depthAll]; decide
theorem frD_all {n : Nat} : ∀ {rs : List Rd2}, (∀ r ∈ rs, Sm n r) → PyData.showableAll (rs.map prD) = true ∧ PyData.hasDictAll (rs.map prD) = false ∧ PyData.leavesShortAll 8 (rs.map prD) = true ∧ PyData.weightAll (rs.map prD) ≤ rs.length * (n + 21) ∧ PyData.depthAll (rs.map prD) ≤ 1
  | [], _ => ⟨rfl, rfl, rfl, Nat.zero_le _, Nat.zero_le _⟩
  | r :: t, h => by
    obtain ⟨a1, a2, a3, a4, a5⟩ := prD_show (h r List.mem_cons_self)
    obtain ⟨b1, b2, b3, b4, b5⟩ := frD_all fun u hu => h u (List.mem_cons_of_mem _ hu)
    refine ⟨?_, ?_, ?_, ?_, ?_⟩
    · show ((prD r).showable && PyData.showableAll (t.map prD)) = true
      rw [a1, b1]; rfl
    · show ((prD r).hasDict || PyData.hasDictAll (t.map prD)) = false
      rw [a2, b2]; rfl
    · show ((prD r).leavesShort 8 && PyData.leavesShortAll 8 (t.map prD)) = true
      rw [a3, b3]; rfl
    · show (prD r).weight + 1 + PyData.weightAll (t.map prD) ≤ (t.length + 1) * (n + 21)
      rw [Nat.add_mul, Nat.one_mul]
      omega
    · show max (prD r).depth (PyData.depthAll (t.map prD)) ≤ 1
      omega
/-- frames of a short line can be shown -/
theorem frD_show {rs : List Rd2} {n : Nat} (hn : n ≤ 800) (hl : rs.length ≤ n) (h : ∀ r ∈ rs, Sm n r) : (PyData.tuple (rs.map prD)).showable = true ∧ (PyData.tuple (rs.map prD)).hasDict = false ∧ (PyData.tuple (rs.map prD)).depth ≤ 64 ∧ (PyData.tuple (rs.map prD)).shown.length ≤ sizeLine := by
  obtain ⟨a1, a2, a3, a4, a5⟩ := frD_all h
  refine ⟨a1, a2, ?_, PyData.shown_fits (B := 8) (by decide) (by decide) a3 ?_⟩
  · show PyData.depthAll (rs.map prD) + 1 ≤ 64
    omega
  · show PyData.weightAll (rs.map prD) ≤ 2 ^ 20
    refine Nat.le_trans a4 (Nat.le_trans (Nat.mul_le_mul (Nat.le_trans hl hn) (show n + 21 ≤ 821 by omega)) (by decide))
theorem frM_congr {ss ts : List Stf} (h : ∀ l, putM ss l = putM ts l) (f p s l : List Bool) : frM f ss p s l = frM f ts p s l := by
  unfold frM
  refine List.map_congr_left fun x _ => ?_
  unfold rdM
  rw [takM_congr h]
/-- what is received is the first frame, if the line does not begin with a flag -/
theorem fr_head {f : List Bool} {ss : List Stf} {p s l : List Bool} (hne : frM f ss p s l ≠ []) (hp : ¬ l.take f.length = f) : ∃ t, frM f ss p s l = rcM f ss p s l :: t := by
  cases e : posM l f with
  | none =>
    refine absurd ?_ hne
    unfold frM
    rw [cutF_none e]; rfl
  | some i =>
    obtain ⟨h1, h2, _⟩ := posM_some.mp e
    have i0 : i ≠ 0 := fun z => by
      rw [z, List.drop_zero] at h2
      exact hp (List.prefix_iff_eq_take.mp h2).symm
    have hl := h2.length_le
    rw [List.length_drop] at hl
    by_cases l0 : l.length = 0
    · omega
    have en : l.take i ≠ [] := fun z => by
      have h := congrArg List.length z
      rw [List.length_take] at h
      have h : min i l.length = 0 := h
      omega
    obtain ⟨n, hn⟩ : ∃ n, l.length = n + 1 := ⟨l.length - 1, by omega⟩
    unfold frM rcM
    rw [hn, cutF_some e, e, List.filter_cons_of_pos (by simpa using en)]
    exact ⟨_, rfl⟩
theorem body_len16 {ss : List Stf} (h3 : ∀ s ∈ ss, s.1.length ≤ 3) {m l : List Bool} (h : Body ss m l) : l.length ≤ 16 * m.length := by
  induction h with
  | nil => exact Nat.le_refl _
  | snoc hb i ih =>
    have := i.len h3
    have e : (2 : Nat) ^ (3 + 1) = 16 := by decide
    simp only [List.length_append, List.length_cons, List.length_nil]
    omega
end U

set_option maxRecDepth 100000
set_option maxHeartbeats 4000000
set_option pp.maxSteps 400
namespace U
open PySem PySem.Spec PyProof.Rows
open L2 hiding Fun CX0 E0 pass0 Fun.binds
open C8 Lx SX StX
/-! what a live receiver knows of a line -/
def cutA (f r : List Bool) : List (List Bool) × List Bool := cutF f r.length r
theorem cut_fuel {f : List Bool} (hf : f ≠ []) : ∀ (k n : Nat) (r : List Bool), r.length ≤ k → r.length ≤ n → cutF f n r = cutF f r.length r := by
  intro k
  induction k with
  | zero =>
    intro n r h1 h2
    have e : posM r f = none := posM_none.mpr fun i hi z => by
      have := z.length_le
      rw [List.length_drop] at this
      have := List.length_pos_iff.mpr hf
      omega
    rw [cutF_none e, cutF_none e]
  | succ k ih =>
    intro n r h1 h2
    cases e : posM r f with
    | none => rw [cutF_none e, cutF_none e]
    | some i =>
      obtain ⟨h3, h4⟩ := posM_lt hf e
      obtain ⟨n', rfl⟩ : ∃ n', n = n' + 1 := ⟨n - 1, by omega⟩
      obtain ⟨m, hm⟩ : ∃ m, r.length = m + 1 := ⟨r.length - 1, by omega⟩
      have ld : (r.drop (i + f.length)).length = r.length - (i + f.length) := List.length_drop
      rw [hm, cutF_some e, cutF_some e, ih n' _ (by omega) (by omega), ih m _ (by omega) (by omega)]
theorem cutA_some {f r : List Bool} {i : Nat} (hf : f ≠ []) (e : posM r f = some i) : cutA f r = (r.take i :: (cutA f (r.drop (i + f.length))).1, (cutA f (r.drop (i + f.length))).2) := by
  obtain ⟨h3, h4⟩ := posM_lt hf e
  obtain ⟨m, hm⟩ : ∃ m, r.length = m + 1 := ⟨r.length - 1, by omega⟩
  have ld : (r.drop (i + f.length)).length = r.length - (i + f.length) := List.length_drop
  unfold cutA
  rw [hm, cutF_some e, cut_fuel hf _ m _ (Nat.le_refl _) (by omega)]
theorem posM_app {f r b : List Bool} {i : Nat} (hf : f ≠ []) (e : posM r f = some i) : posM (r ++ b) f = some i := by
  obtain ⟨h3, h4⟩ := posM_lt hf e
  obtain ⟨h1, h2, h5⟩ := posM_some.mp e
  refine posM_some.mpr ⟨by rw [List.length_append]; omega, ?_, fun k hk z => h5 k hk ?_⟩
  · rw [List.drop_append_of_le_length h1]
    exact h2.trans (List.prefix_append _ _)
  · rw [List.drop_append_of_le_length (by omega)] at z
    exact List.prefix_of_prefix_length_le z (List.prefix_append _ _) (by rw [List.length_drop]; omega)
theorem cut_app {f : List Bool} (hf : f ≠ []) (b : List Bool) : ∀ (k : Nat) (r : List Bool), r.length ≤ k → cutA f (r ++ b) = ((cutA f r).1 ++ (cutA f ((cutA f r).2 ++ b)).1, (cutA f ((cutA f r).2 ++ b)).2) := by
  intro k
  induction k with
  | zero =>
    intro r h
    have e : r = [] := List.length_eq_zero_iff.mp (by omega)
    subst e
    rfl
  | succ k ih =>
    intro r h
    cases e : posM r f with
    | none =>
      have : cutA f r = ([], r) := cutF_none e _
      rw [this]
      rfl
    | some i =>
      obtain ⟨h3, h4⟩ := posM_lt hf e
      rw [cutA_some hf (posM_app hf e), cutA_some hf e, List.take_append_of_le_length (by omega), List.drop_append_of_le_length (by omega), ih _ (by rw [List.length_drop]; omega)]
      rfl
def frA (f : List Bool) (ss : List Stf) (p s r : List Bool) : List Rd2 := ((cutA f r).1.filter (· ≠ [])).map (rdM ss p s)
theorem fr_app {f : List Bool} (hf : f ≠ []) (ss : List Stf) (p s r b : List Bool) : frM f ss p s (r ++ b) = frM f ss p s r ++ frM f ss p s ((cutA f r).2 ++ b) := by
  show ((cutA f (r ++ b)).1.filter _).map _ = ((cutA f r).1.filter _).map _ ++ ((cutA f ((cutA f r).2 ++ b)).1.filter _).map _
  rw [cut_app hf b _ r (Nat.le_refl _), List.filter_append, List.map_append]
/-- begun, kept, found -/
abbrev Sta := Bool × List Bool × List Rd2
def stM (f : List Bool) (ss : List Stf) (p s h : List Bool) : Sta := match posM h f with
  | none => (false, h, [])
  | some i => (true, (cutA f (h.drop (i + f.length))).2, frM f ss p s (h.drop (i + f.length)))
/-- what a piece more brings -/
def clM (f : List Bool) (ss : List Stf) (p s h b : List Bool) : List Rd2 := match posM h f with
  | none => (stM f ss p s (h ++ b)).2.2
  | some i => frM f ss p s ((cutA f (h.drop (i + f.length))).2 ++ b)
theorem st_none {f : List Bool} {ss : List Stf} {p s h : List Bool} (e : posM h f = none) : stM f ss p s h = (false, h, []) := by unfold stM; rw [e]
theorem st_some {f : List Bool} {ss : List Stf} {p s h : List Bool} {i : Nat} (e : posM h f = some i) : stM f ss p s h = (true, (cutA f (h.drop (i + f.length))).2, frM f ss p s (h.drop (i + f.length))) := by unfold stM; rw [e]
theorem st_more {f : List Bool} (hf : f ≠ []) {ss : List Stf} {p s h b : List Bool} {i : Nat} (e : posM h f = some i) :
    stM f ss p s (h ++ b) = (true, (cutA f ((cutA f (h.drop (i + f.length))).2 ++ b)).2, frM f ss p s (h.drop (i + f.length)) ++ frM f ss p s ((cutA f (h.drop (i + f.length))).2 ++ b)) := by
  obtain ⟨h3, h4⟩ := posM_lt hf e
  rw [st_some (posM_app hf e), List.drop_append_of_le_length (by omega), fr_app hf, cut_app hf b _ _ (Nat.le_refl _)]
theorem st_found {f : List Bool} (hf : f ≠ []) (ss : List Stf) (p s h b : List Bool) : (stM f ss p s (h ++ b)).2.2 = (stM f ss p s h).2.2 ++ clM f ss p s h b := by
  cases e : posM h f with
  | none =>
    unfold clM
    rw [e, st_none e]
    rfl
  | some i =>
    unfold clM
    rw [e, st_more hf e, st_some e]
/-- how long it all is -/
theorem cutA_le {f : List Bool} (hf : f ≠ []) : ∀ (k : Nat) (r : List Bool), r.length ≤ k → (cutA f r).2.length ≤ r.length := by
  intro k
  induction k with
  | zero =>
    intro r h
    have e : r = [] := List.length_eq_zero_iff.mp (by omega)
    subst e
    exact Nat.le_refl _
  | succ k ih =>
    intro r h
    cases e : posM r f with
    | none =>
      have : cutA f r = ([], r) := cutF_none e _
      rw [this]
      exact Nat.le_refl _
    | some i =>
      obtain ⟨h3, h4⟩ := posM_lt hf e
      have ld : (r.drop (i + f.length)).length = r.length - (i + f.length) := List.length_drop
      rw [cutA_some hf e]
      have := ih (r.drop (i + f.length)) (by omega)
      show (cutA f (r.drop (i + f.length))).2.length ≤ _
      omega
theorem st_kept {f : List Bool} (hf : f ≠ []) (ss : List Stf) (p s h : List Bool) : (stM f ss p s h).2.1.length ≤ h.length := by
  cases e : posM h f with
  | none => rw [st_none e]; exact Nat.le_refl _
  | some i =>
    rw [st_some e]
    have := cutA_le hf _ (h.drop (i + f.length)) (Nat.le_refl _)
    have ld : (h.drop (i + f.length)).length = h.length - (i + f.length) := List.length_drop
    show (cutA f (h.drop (i + f.length))).2.length ≤ _
    omega
def lvF (r c st pa : Addr) : List (Str × V) := [("now_rule", .ref r), ("now_check", .ref c), ("state", .ref st), ("past", .ref pa)]
theorem lv_rule (r c st pa : Addr) : (lvF r c st pa).lookup ("now_rule" : Str) = some (.ref r) := by rfl
theorem lv_check (r c st pa : Addr) : (lvF r c st pa).lookup ("now_check" : Str) = some (.ref c) := by rfl
theorem lv_state (r c st pa : Addr) : (lvF r c st pa).lookup ("state" : Str) = some (.ref st) := by rfl
theorem lv_past (r c st pa : Addr) : (lvF r c st pa).lookup ("past" : Str) = some (.ref pa) := by rfl
theorem lv_put_state (r c st pa st' : Addr) : putF "state" (.ref st') (lvF r c st pa) = lvF r c st' pa := by rfl
theorem lv_put_past (r c st pa pa' : Addr) : putF "past" (.ref pa') (lvF r c st pa) = lvF r c st pa' := by rfl
theorem lv_put_rule (r c st pa r2 : Addr) : putF "now_rule" (.ref r2) (lvF r c st pa) = lvF r2 c st pa := by rfl
theorem lv_new (r c st pa : Addr) : putF "past" (.ref pa) (putF "state" (.ref st) (putF "now_check" (.ref c) (putF "now_rule" (.ref r) []))) = lvF r c st pa := by rfl
end U

set_option maxRecDepth 100000
set_option maxHeartbeats 4000000
set_option pp.maxSteps 400
namespace U
open PySem PySem.Spec PyProof.Rows
open L2 hiding Fun CX0 E0 pass0 Fun.binds
open C8 Lx SX StX
/-! live receivers -/
/-- all but the object at a stays -/
def SmB (a : Addr) (H H' : Hp) : Prop := ∀ b o, H b = some o → b ≠ a → H' b = some o
theorem SmB.of {a : Addr} {H H' : Hp} (s : Same H H') : SmB a H H' := fun b o e _ => s b o e
theorem SmB.trans {a : Addr} {H H1 H2 : Hp} (x : SmB a H H1) (y : SmB a H1 H2) : SmB a H H2 := fun b o e n => y b o (x b o e n) n
theorem SmB.put {a : Addr} {H : Hp} {o : HO} : SmB a H (upd H a o) := fun b u e n => by rw [upd_ne n]; exact e
/-- the class as the top leaves it -/
structure LvT (K : PySem.W.Frag) (C : Addr) : Prop where
  cl : Cls K C
  nR : NoAttr K C "now_rule"
  nC : NoAttr K C "now_check"
  nS : NoAttr K C "state"
  nP : NoAttr K C "past"
def LvAt (C : Addr) (H : Hp) (a r c : Addr) (S : Sta) (h : List Bool) (n : Nat) : Prop := ∃ (dx st pa q : Addr) (ps : List Addr), H a = some (.ins C dx (lvF r c st pa)) ∧ H st = some (.tup [.str (W h), .bl S.1, .str (W S.2.1), .ref q]) ∧ FrU H q S.2.2 ∧ H pa = some (.tup (ps.map V.ref)) ∧ ps.length = n
theorem LvAt.same {C : Addr} {H H' : Hp} {a r c : Addr} {S : Sta} {h : List Bool} {n : Nat} (x : LvAt C H a r c S h n) (s : Same H H') : LvAt C H' a r c S h n := by
  obtain ⟨dx, st, pa, q, ps, h1, h2, h3, h4, h5⟩ := x
  exact ⟨dx, st, pa, q, ps, s _ _ h1, s _ _ h2, h3.same s, s _ _ h4, h5⟩
theorem FrU.smb {a C dx : Addr} {fs : List (Str × V)} {H H' : Hp} {q : Addr} {rs : List Rd2} (h : FrU H q rs) (ha : H a = some (.ins C dx fs)) (s : SmB a H H') : FrU H' q rs := by
  obtain ⟨ps, kb, h1, h2, h3⟩ := h
  exact ⟨ps, kb, s _ _ h1 (ne_of h1 ha (by intro z; cases z)), fun t ht => s _ _ (h2 t ht) (ne_of (h2 t ht) ha (by intro z; cases z)), h3⟩
theorem oW_inj : ∀ {a b : Option (List Bool)}, oW a = oW b → a = b
  | none, none, _ => rfl
  | none, some _, h => by cases h
  | some _, none, h => by cases h
  | some x, some y, h => by rw [W_inj (V.str.inj h)]
theorem fr_cat {H : Hp} {ps qs : List Addr} {ka kb : Addr → Rd2} (h1 : FrT H ka ps) (h2 : FrT H kb qs) : ∃ kc, FrT H kc (ps ++ qs) ∧ (ps ++ qs).map kc = ps.map ka ++ qs.map kb := by
  have key : ∀ t, t ∈ ps → t ∈ qs → ka t = kb t := fun t a b => by
    have e := h1 t a
    rw [h2 t b] at e
    have e := HO.tup.inj (Option.some.inj e)
    have e1 := V.str.inj (List.cons.inj e).1
    have e2 := oW_inj (List.cons.inj (List.cons.inj e).2).1
    exact (Prod.ext e1 e2).symm
  refine ⟨fun t => if t ∈ ps then ka t else kb t, fun t ht => ?_, ?_⟩
  · dsimp only
    by_cases hp : t ∈ ps
    · rw [if_pos hp]; exact h1 t hp
    · rw [if_neg hp]; exact h2 t ((List.mem_append.mp ht).resolve_left hp)
  · rw [List.map_append]
    congr 1
    · exact List.map_congr_left fun t ht => if_pos ht
    · refine List.map_congr_left fun t ht => ?_
      by_cases hp : t ∈ ps
      · rw [if_pos hp]; exact key t hp ht
      · rw [if_neg hp]
theorem cat_fr {K : PySem.W.Frag} {H : Hp} {Q : VK} {q1 q2 : Addr} {r1 r2 : List Rd2} (h1 : FrU H q1 r1) (h2 : FrU H q2 r2) (hl : r1.length + r2.length ≤ 100000) (k : ∀ q H', Same H H' → FrU H' q (r1 ++ r2) → Q (.ref q) H') : rCatA K (.ref q1) (.ref q2) H Q := by
  obtain ⟨ps, ka, a1, a2, rfl⟩ := id h1
  obtain ⟨qs, kb, b1, b2, rfl⟩ := id h2
  rw [List.length_map, List.length_map] at hl
  refine ⟨q1, q2, _, _, rfl, rfl, SqT.of a1, SqT.of b1, by rw [List.length_map, List.length_map]; exact sl_len hl, fun e => ?_, fun e1 e2 => ?_, fun e1 e2 p np => ?_⟩
  · have e := List.map_eq_nil_iff.mp e
    subst e
    exact k q2 H (Same.refl _) h2
  · have e2 := List.map_eq_nil_iff.mp e2
    subst e2
    refine k q1 H (Same.refl _) ?_
    rw [List.map_nil, List.append_nil]
    exact h1
  · obtain ⟨kc, c1, c2⟩ := fr_cat a2 b2
    have s := same_upd (o := .tup (ps.map V.ref ++ qs.map V.ref)) np
    exact k p _ s ⟨ps ++ qs, kc, by rw [upd_same, List.map_append], c1.same s, c2.symm⟩
def spLvInit (C : Addr) : Sp := fun vs H Q _ => ∃ a dx r c : Addr, vs = [.ref a, .ref r, .ref c] ∧ H a = some (.ins C dx []) ∧ ∀ H', SmB a H H' → LvAt C H' a r c (false, [], []) [] 0 → Q .non H'
def spLvRule (C : Addr) : Sp := fun vs H Q _ => ∃ (a r c : Addr) (S : Sta) (h : List Bool) (n : Nat), vs = [.ref a] ∧ LvAt C H a r c S h n ∧ Q (.ref r) H
def spLvCheck (C : Addr) : Sp := fun vs H Q _ => ∃ (a r c : Addr) (S : Sta) (h : List Bool) (n : Nat), vs = [.ref a] ∧ LvAt C H a r c S h n ∧ Q (.ref c) H
def spHeard (C : Addr) : Sp := fun vs H Q _ => ∃ (a r c : Addr) (S : Sta) (h : List Bool) (n : Nat), vs = [.ref a] ∧ LvAt C H a r c S h n ∧ Q (.str (W h)) H
def spIsOpen (C : Addr) : Sp := fun vs H Q _ => ∃ (a r c : Addr) (S : Sta) (h : List Bool) (n : Nat), vs = [.ref a] ∧ LvAt C H a r c S h n ∧ Q (.bl S.1) H
def spPart (C : Addr) : Sp := fun vs H Q _ => ∃ (a r c : Addr) (S : Sta) (h : List Bool) (n : Nat), vs = [.ref a] ∧ LvAt C H a r c S h n ∧ Q (.str (W (if S.1 then S.2.1 else []))) H
def spFound (C : Addr) : Sp := fun vs H Q _ => ∃ (a r c : Addr) (S : Sta) (h : List Bool) (n : Nat), vs = [.ref a] ∧ LvAt C H a r c S h n ∧ ∀ q, FrU H q S.2.2 → Q (.ref q) H
def spLvLen (C : Addr) : Sp := fun vs H Q _ => ∃ (a r c : Addr) (S : Sta) (h : List Bool) (n : Nat), vs = [.ref a] ∧ LvAt C H a r c S h n ∧ Q (.int (n : Nat)) H
section
variable {P : Program} {w : World} {K : PySem.W.Frag} {mg : Str → Option Value} {base : Heap}
theorem sc_Live_init : FnScope ["self", "rule", "check"] ["self", "rule", "check"] (fnScope s_Live_init) := fnScope_by (by decide +kernel)
theorem ok_Live_init {f C : Addr} {fd : FuncData} (F : C8.Fun K "__init__" "Live.__init__" s_Live_init f fd) (T : Tx mg) (LT : LvT K C) : FnOk P w K mg base CX0 1 f fd ["self", "rule", "check"] (spLvInit C) := by
  refine fn0 F sc_Live_init (fun vs H Q E h => ?_) (fun cdv A outer s H vs Q E hr h => ?_)
  · obtain ⟨_, _, _, _, rfl, _⟩ := h; rfl
  · obtain ⟨a, dx, r, c, rfl, ha, k⟩ := h
    refine ⟨_, (pss_cons (ps_fld (pv 0) (pv 1) rfl)
    (pss_cons (ps_fld (pv 0) (pv 2) rfl)
    (pss_cons (ps_fld (pv 0) (pe_tup (pa_cons pe_str (pa_cons pe_bl (pa_cons pe_str (pa_cons (pe_tup pa_nil) pa_nil))))) rfl)
    (pss_one (ps_fld (pv 0) (pe_tup pa_nil) rfl))))), ?_⟩
    refine ⟨_, rfl, _, rfl, a, C, dx, _, rfl, ha, LT.cl, LT.nR, by decide, ?_⟩
    refine ⟨_, rfl, _, rfl, a, C, dx, _, rfl, upd_same, LT.cl, LT.nC, by show 1 < 1000; decide, ?_⟩
    have s2 : SmB a H (upd (upd H a (.ins C dx (putF "now_rule" (.ref r) []))) a (.ins C dx (putF "now_check" (.ref c) (putF "now_rule" (.ref r) [])))) := SmB.put.trans SmB.put
    have h2 : upd (upd H a (.ins C dx (putF "now_rule" (.ref r) []))) a (.ins C dx (putF "now_check" (.ref c) (putF "now_rule" (.ref r) []))) a = some (.ins C dx (putF "now_check" (.ref c) (putF "now_rule" (.ref r) []))) := upd_same
    generalize upd (upd H a (.ins C dx (putF "now_rule" (.ref r) []))) a (.ins C dx (putF "now_check" (.ref c) (putF "now_rule" (.ref r) []))) = H2 at s2 h2
    refine ⟨Nat.zero_le _, fun q nq => ⟨by show 4 ≤ sizeLine; decide, fun st nst => ?_⟩⟩
    have sq := same_upd (o := .tup []) nq
    have sst := same_upd (o := .tup [.str "", .bl false, .str "", .ref q]) nst
    have h3 := sst _ _ (sq _ _ h2)
    refine ⟨_, rfl, a, C, dx, _, rfl, h3, LT.cl, LT.nS, by show 2 < 1000; decide, ?_⟩
    refine ⟨Nat.zero_le _, fun pa npa => ?_⟩
    have spa := same_upd (o := .tup []) npa
    refine ⟨_, rfl, a, C, dx, _, rfl, spa _ _ upd_same, LT.cl, LT.nP, by show 3 < 1000; decide, ?_⟩
    have na : ∀ {b : Addr} {xs : List V}, upd (upd H2 q (.tup [])) st (.tup [.str "", .bl false, .str "", .ref q]) b = some (.tup xs) → b ≠ a := fun e => ne_of e h3 (by intro z; cases z)
    refine k _ ?_ ⟨dx, st, pa, q, [], ?_, ?_, ⟨[], fun _ => ("", none), ?_, (fun _ h => nomatch h), rfl⟩, ?_, rfl⟩
    · exact (s2.trans (SmB.of (sq.trans sst))).trans (SmB.put.trans ((SmB.of spa).trans SmB.put))
    · rw [upd_same, lv_new]
    · have e : upd (upd H2 q (.tup [])) st (.tup [.str "", .bl false, .str "", .ref q]) st = some (.tup [.str (W []), .bl false, .str (W []), .ref q]) := by rw [upd_same, ← W_nil]
      rw [upd_ne (na e)]
      exact spa _ _ (by rw [upd_ne (na e)]; exact e)
    · have e : upd (upd H2 q (.tup [])) st (.tup [.str "", .bl false, .str "", .ref q]) q = some (.tup []) := sst _ _ upd_same
      rw [upd_ne (na e)]
      exact spa _ _ (by rw [upd_ne (na e)]; exact e)
    · have npa' : pa ≠ a := fun z => by rw [z, upd_same] at npa; cases npa
      rw [upd_ne npa', upd_same]
      rfl
theorem sc_Live_rule : FnScope ["self"] ["self"] (fnScope s_Live_rule) := fnScope_by (by decide +kernel)
theorem ok_rule {f C : Addr} {fd : FuncData} (F : C8.Fun K "rule" "Live.rule" s_Live_rule f fd) (T : Tx mg) (LT : LvT K C) : FnOk P w K mg base CX0 1 f fd ["self"] (spLvRule C) := by
  refine fn0 F sc_Live_rule (fun vs H Q E h => ?_) (fun cdv A outer s H vs Q E hr h => ?_)
  · obtain ⟨_, _, _, _, _, _, rfl, _⟩ := h; rfl
  · obtain ⟨a, r, c, S, h, n, rfl, ⟨dx, st, pa, q, ps, h1, _⟩, k⟩ := h
    exact ⟨_, (pss_one (ps_ret (pe_fld (pv 0) rfl))), _, rfl, a, C, dx, _, _, rfl, h1, LT.cl, LT.nR, lv_rule _ _ _ _, k⟩
theorem sc_Live_check : FnScope ["self"] ["self"] (fnScope s_Live_check) := fnScope_by (by decide +kernel)
theorem ok_check {f C : Addr} {fd : FuncData} (F : C8.Fun K "check" "Live.check" s_Live_check f fd) (T : Tx mg) (LT : LvT K C) : FnOk P w K mg base CX0 1 f fd ["self"] (spLvCheck C) := by
  refine fn0 F sc_Live_check (fun vs H Q E h => ?_) (fun cdv A outer s H vs Q E hr h => ?_)
  · obtain ⟨_, _, _, _, _, _, rfl, _⟩ := h; rfl
  · obtain ⟨a, r, c, S, h, n, rfl, ⟨dx, st, pa, q, ps, h1, _⟩, k⟩ := h
    exact ⟨_, (pss_one (ps_ret (pe_fld (pv 0) rfl))), _, rfl, a, C, dx, _, _, rfl, h1, LT.cl, LT.nC, lv_check _ _ _ _, k⟩
theorem sc_Live_heard : FnScope ["self"] ["self"] (fnScope s_Live_heard) := fnScope_by (by decide +kernel)
theorem ok_heard {f C : Addr} {fd : FuncData} (F : C8.Fun K "heard" "Live.heard" s_Live_heard f fd) (T : Tx mg) (LT : LvT K C) : FnOk P w K mg base CX0 1 f fd ["self"] (spHeard C) := by
  refine fn0 F sc_Live_heard (fun vs H Q E h => ?_) (fun cdv A outer s H vs Q E hr h => ?_)
  · obtain ⟨_, _, _, _, _, _, rfl, _⟩ := h; rfl
  · obtain ⟨a, r, c, S, h, n, rfl, ⟨dx, st, pa, q, ps, h1, h2, _⟩, k⟩ := h
    exact ⟨_, (pss_one (ps_ret (pe_ix ix_tup (pe_fld (pv 0) rfl) pe_int (fun _ _ => rfl)))), _, rfl, a, C, dx, _, _, rfl, h1, LT.cl, LT.nS, lv_state _ _ _ _, st, _, _, _, rfl, rfl, SqT.of h2, atI_nat (j := 0) rfl, k⟩
theorem sc_Live_is_open : FnScope ["self"] ["self"] (fnScope s_Live_is_open) := fnScope_by (by decide +kernel)
theorem ok_is_open {f C : Addr} {fd : FuncData} (F : C8.Fun K "is_open" "Live.is_open" s_Live_is_open f fd) (T : Tx mg) (LT : LvT K C) : FnOk P w K mg base CX0 1 f fd ["self"] (spIsOpen C) := by
  refine fn0 F sc_Live_is_open (fun vs H Q E h => ?_) (fun cdv A outer s H vs Q E hr h => ?_)
  · obtain ⟨_, _, _, _, _, _, rfl, _⟩ := h; rfl
  · obtain ⟨a, r, c, S, h, n, rfl, ⟨dx, st, pa, q, ps, h1, h2, _⟩, k⟩ := h
    exact ⟨_, (pss_one (ps_ret (pe_ix ix_tup (pe_fld (pv 0) rfl) pe_int (fun _ _ => rfl)))), _, rfl, a, C, dx, _, _, rfl, h1, LT.cl, LT.nS, lv_state _ _ _ _, st, _, _, _, rfl, rfl, SqT.of h2, atI_nat (j := 1) rfl, k⟩
theorem sc_Live_found : FnScope ["self"] ["self"] (fnScope s_Live_found) := fnScope_by (by decide +kernel)
theorem ok_found {f C : Addr} {fd : FuncData} (F : C8.Fun K "found" "Live.found" s_Live_found f fd) (T : Tx mg) (LT : LvT K C) : FnOk P w K mg base CX0 1 f fd ["self"] (spFound C) := by
  refine fn0 F sc_Live_found (fun vs H Q E h => ?_) (fun cdv A outer s H vs Q E hr h => ?_)
  · obtain ⟨_, _, _, _, _, _, rfl, _⟩ := h; rfl
  · obtain ⟨a, r, c, S, h, n, rfl, ⟨dx, st, pa, q, ps, h1, h2, h3, _⟩, k⟩ := h
    exact ⟨_, (pss_one (ps_ret (pe_ix ix_tup (pe_fld (pv 0) rfl) pe_int (fun _ _ => rfl)))), _, rfl, a, C, dx, _, _, rfl, h1, LT.cl, LT.nS, lv_state _ _ _ _, st, _, _, _, rfl, rfl, SqT.of h2, atI_nat (j := 3) rfl, k q h3⟩
theorem sc_Live_part : FnScope ["self"] ["self"] (fnScope s_Live_part) := fnScope_by (by decide +kernel)
theorem ok_part {f C : Addr} {fd : FuncData} (F : C8.Fun K "part" "Live.part" s_Live_part f fd) (T : Tx mg) (LT : LvT K C) : FnOk P w K mg base CX0 1 f fd ["self"] (spPart C) := by
  refine fn0 F sc_Live_part (fun vs H Q E h => ?_) (fun cdv A outer s H vs Q E hr h => ?_)
  · obtain ⟨_, _, _, _, _, _, rfl, _⟩ := h; rfl
  · obtain ⟨a, r, c, ⟨bg, kp, fd'⟩, h, n, rfl, ⟨dx, st, pa, q, ps, h1, h2, h3, _⟩, k⟩ := h
    refine ⟨_, (pss_one (ps_ret (pe_ifExp (pt_val (pe_ix ix_tup (pe_fld (pv 0) rfl) pe_int (fun _ _ => rfl))) (pe_ix ix_tup (pe_fld (pv 0) rfl) pe_int (fun _ _ => rfl)) pe_str))), ?_⟩
    refine ⟨_, rfl, a, C, dx, _, _, rfl, h1, LT.cl, LT.nS, lv_state _ _ _ _, st, _, _, _, rfl, rfl, SqT.of h2, atI_nat (j := 1) rfl, _, rfl, ?_⟩
    cases bg with
    | true => exact iteT ⟨_, rfl, a, C, dx, _, _, rfl, h1, LT.cl, LT.nS, lv_state _ _ _ _, st, _, _, _, rfl, rfl, SqT.of h2, atI_nat (j := 2) rfl, k⟩
    | false =>
      refine iteF ?_
      show Q (.str "") H
      rw [W_nil]
      exact k
theorem sc_Live_len : FnScope ["self"] ["self"] (fnScope s_Live_len) := fnScope_by (by decide +kernel)
theorem met_Live_len {f C : Addr} {fd : FuncData} (F : C8.Fun K "__len__" "Live.__len__" s_Live_len f fd) (me : Meth K C "__len__" f) (b : Binds K fd ["self"] []) (T : Tx mg) (LT : LvT K C) : Met P w K mg base 1 C "__len__" (spLvLen C) [] := by
  refine met0 LT.cl me F b sc_Live_len (fun vs H Q E h => ?_) (fun cdv A outer s H vs Q E hr h => ?_)
  · obtain ⟨_, _, _, _, _, _, rfl, _⟩ := h; rfl
  · obtain ⟨a, r, c, S, h, n, rfl, ⟨dx, st, pa, q, ps, h1, h2, h3, h4, rfl⟩, k⟩ := h
    refine ⟨_, (pss_one (ps_ret (pe_callB call_len_seq (by rfl) T.b_len (by decide +kernel) (pa_cons (pe_fld (pv 0) rfl) pa_nil)))), ?_⟩
    refine ⟨_, rfl, a, C, dx, _, _, rfl, h1, LT.cl, LT.nP, lv_past _ _ _ _, pa, _, rfl, .inr (SqT.of h4), ?_⟩
    rw [List.length_map]
    exact k
end
end U

set_option maxRecDepth 100000
set_option maxHeartbeats 4000000
set_option pp.maxSteps 400
namespace U
open PySem PySem.Spec PyProof.Rows
open L2 hiding Fun CX0 E0 pass0 Fun.binds
open C8 Lx SX StX
/-- a standing of a live receiver -/
def StA (H : Hp) (st : Addr) (S : Sta) (h : List Bool) : Prop := ∃ q, H st = some (.tup [.str (W h), .bl S.1, .str (W S.2.1), .ref q]) ∧ FrU H q S.2.2
abbrev Pst := Addr × Sta × List Bool
def PsA (H : Hp) (q : Addr) (x : Pst) : Prop := ∃ st, H q = some (.tup [.ref x.1, .ref st]) ∧ StA H st x.2.1 x.2.2
def PsL (H : Hp) (qs : List Addr) (ps : List Pst) : Prop := qs.length = ps.length ∧ ∀ (i : Nat) (q : Addr) (x : Pst), qs[i]? = some q → ps[i]? = some x → PsA H q x
def LvP (C : Addr) (H : Hp) (a r c : Addr) (S : Sta) (h : List Bool) (ps : List Pst) : Prop := ∃ (dx st pa : Addr) (qs : List Addr), H a = some (.ins C dx (lvF r c st pa)) ∧ StA H st S h ∧ H pa = some (.tup (qs.map V.ref)) ∧ PsL H qs ps
theorem StA.same {H H' : Hp} {st : Addr} {S : Sta} {h : List Bool} (x : StA H st S h) (s : Same H H') : StA H' st S h := by
  obtain ⟨q, h1, h2⟩ := x
  exact ⟨q, s _ _ h1, h2.same s⟩
theorem StA.smb {a C dx : Addr} {fs : List (Str × V)} {H H' : Hp} {st : Addr} {S : Sta} {h : List Bool} (x : StA H st S h) (ha : H a = some (.ins C dx fs)) (s : SmB a H H') : StA H' st S h := by
  obtain ⟨q, h1, h2⟩ := x
  exact ⟨q, s _ _ h1 (ne_of h1 ha (by intro z; cases z)), h2.smb ha s⟩
theorem StA.up {b : Addr} {H H' : Hp} {st : Addr} {S : Sta} {h : List Bool} (x : StA H st S h) (hb : Box H b) (u : Up b H H') : StA H' st S h := by
  obtain ⟨q, h1, ps2, kb, h3, h4, h5⟩ := x
  exact ⟨q, u.1 _ _ h1 (hb.neT h1), ps2, kb, u.1 _ _ h3 (hb.neT h3), fun t ht => u.1 _ _ (h4 t ht) (hb.neT (h4 t ht)), h5⟩
theorem PsA.same {H H' : Hp} {q : Addr} {x : Pst} (h : PsA H q x) (s : Same H H') : PsA H' q x := by
  obtain ⟨st, h1, h2⟩ := h
  exact ⟨st, s _ _ h1, h2.same s⟩
theorem PsA.smb {a C dx : Addr} {fs : List (Str × V)} {H H' : Hp} {q : Addr} {x : Pst} (h : PsA H q x) (ha : H a = some (.ins C dx fs)) (s : SmB a H H') : PsA H' q x := by
  obtain ⟨st, h1, h2⟩ := h
  exact ⟨st, s _ _ h1 (ne_of h1 ha (by intro z; cases z)), h2.smb ha s⟩
theorem PsA.up {b : Addr} {H H' : Hp} {q : Addr} {x : Pst} (h : PsA H q x) (hb : Box H b) (u : Up b H H') : PsA H' q x := by
  obtain ⟨st, h1, h2⟩ := h
  exact ⟨st, u.1 _ _ h1 (hb.neT h1), h2.up hb u⟩
theorem PsL.same {H H' : Hp} {qs : List Addr} {ps : List Pst} (h : PsL H qs ps) (s : Same H H') : PsL H' qs ps := ⟨h.1, fun i q x e1 e2 => (h.2 i q x e1 e2).same s⟩
theorem PsL.smb {a C dx : Addr} {fs : List (Str × V)} {H H' : Hp} {qs : List Addr} {ps : List Pst} (h : PsL H qs ps) (ha : H a = some (.ins C dx fs)) (s : SmB a H H') : PsL H' qs ps := ⟨h.1, fun i q x e1 e2 => (h.2 i q x e1 e2).smb ha s⟩
theorem PsL.snoc {H : Hp} {qs : List Addr} {ps : List Pst} {q : Addr} {x : Pst} (h : PsL H qs ps) (hq : PsA H q x) : PsL H (qs ++ [q]) (ps ++ [x]) := by
  refine ⟨by rw [List.length_append, List.length_append, h.1]; rfl, fun i y z e1 e2 => ?_⟩
  by_cases hi : i < qs.length
  · rw [List.getElem?_append_left hi] at e1
    rw [List.getElem?_append_left (by rw [← h.1]; exact hi)] at e2
    exact h.2 i y z e1 e2
  · rw [List.getElem?_append_right (by omega)] at e1
    rw [List.getElem?_append_right (by rw [← h.1]; omega), ← h.1] at e2
    obtain ⟨l1, l2⟩ := List.getElem?_eq_some_iff.mp e1
    have l0 : i - qs.length = 0 := by simp only [List.length_cons, List.length_nil] at l1; omega
    rw [l0] at e1 e2
    cases e1
    cases e2
    exact hq
theorem LvP.same {C : Addr} {H H' : Hp} {a r c : Addr} {S : Sta} {h : List Bool} {ps : List Pst} (x : LvP C H a r c S h ps) (s : Same H H') : LvP C H' a r c S h ps := by
  obtain ⟨dx, st, pa, qs, h1, h2, h3, h4⟩ := x
  exact ⟨dx, st, pa, qs, s _ _ h1, h2.same s, s _ _ h3, h4.same s⟩
theorem LvP.up {C b : Addr} {H H' : Hp} {a r c : Addr} {S : Sta} {h : List Bool} {ps : List Pst} (x : LvP C H a r c S h ps) (hb : Box H b) (u : Up b H H') : LvP C H' a r c S h ps := by
  obtain ⟨dx, st, pa, qs, h1, h2, h3, h4⟩ := x
  exact ⟨dx, st, pa, qs, (u.nl hb).ins h1, h2.up hb u, u.1 _ _ h3 (hb.neT h3), h4.1, fun i q x e1 e2 => (h4.2 i q x e1 e2).up hb u⟩
theorem LvP.at {C : Addr} {H : Hp} {a r c : Addr} {S : Sta} {h : List Bool} {ps : List Pst} (x : LvP C H a r c S h ps) : LvAt C H a r c S h ps.length := by
  obtain ⟨dx, st, pa, qs, h1, ⟨q, h2, h5⟩, h3, h4⟩ := x
  exact ⟨dx, st, pa, q, qs, h1, h2, h5, h3, h4.1⟩
theorem LvAt.p {C : Addr} {H : Hp} {a r c : Addr} {S : Sta} {h : List Bool} (x : LvAt C H a r c S h 0) : LvP C H a r c S h [] := by
  obtain ⟨dx, st, pa, q, qs, h1, h2, h3, h4, h5⟩ := x
  have e : qs = [] := List.length_eq_zero_iff.mp h5
  subst e
  exact ⟨dx, st, pa, [], h1, ⟨q, h2, h3⟩, h4, rfl, fun i q x e1 e2 => by cases e1⟩
def stG (F0 : List Rd2) (S : Sta) : Sta := (S.1, S.2.1, F0 ++ S.2.2)
def spTake (C CR CK : Addr) : Sp := fun vs H Q _ => ∃ (a r c : Addr) (f : List Bool) (ss : List Stf) (p s g h b : List Bool) (F0 : List Rd2) (ps : List Pst), vs = [.ref a, .str (W b)] ∧ LvP C H a r c (stG F0 (stM f ss p s h)) (g ++ h) ps ∧ RuAt CR H r f ss ∧ CkAt CK H c p s ∧ p.length ≤ 1000 ∧ s.length + 1 = p.length ∧ f ≠ [] ∧ g.length + h.length + b.length ≤ 10000 ∧ F0.length ≤ 10000 ∧
  ∀ q H', SmB a H H' → LvP C H' a r c (stG F0 (stM f ss p s (h ++ b))) (g ++ (h ++ b)) ps → FrU H' q (clM f ss p s h b) → Q (.ref q) H'
def spHear (C CR CK : Addr) : Sp := fun vs H Q _ => ∃ (a r c : Addr) (f : List Bool) (ss : List Stf) (p s g h b : List Bool) (F0 : List Rd2) (ps : List Pst), vs = [.ref a, .str (W b)] ∧ LvP C H a r c (stG F0 (stM f ss p s h)) (g ++ h) ps ∧ RuAt CR H r f ss ∧ CkAt CK H c p s ∧ p.length ≤ 1000 ∧ s.length + 1 = p.length ∧ f ≠ [] ∧ g.length + h.length + b.length ≤ 10000 ∧ F0.length ≤ 10000 ∧ ps.length ≤ 10000 ∧
  ∀ q H', SmB a H H' → LvP C H' a r c (stG F0 (stM f ss p s (h ++ b))) (g ++ (h ++ b)) (ps ++ [(r, stG F0 (stM f ss p s h), g ++ h)]) → FrU H' q (clM f ss p s h b) → Q (.ref q) H'
def spChange (C : Addr) : Sp := fun vs H Q _ => ∃ (a r c r2 : Addr) (S : Sta) (h : List Bool) (ps : List Pst), vs = [.ref a, .ref r2] ∧ LvP C H a r c S h ps ∧ ps.length ≤ 10000 ∧
  ∀ H', SmB a H H' → LvP C H' a r2 c (false, [], S.2.2) h (ps ++ [(r, S, h)]) → Q .non H'
section
variable {P : Program} {w : World} {K : PySem.W.Frag} {mg : Str → Option Value} {base : Heap}
theorem sc_Live_take : FnScope ["self", "bits", "heard", "is_begun", "kept", "found", "rest", "ahead", "flag", "behind", "closed", "part"] ["self", "bits"] (fnScope s_Live_take) := fnScope_by (by decide +kernel)
theorem met_take {f C CR CK : Addr} {fd : FuncData} (F : C8.Fun K "take" "Live.take" s_Live_take f fd) (me : Meth K C "take" f) (b : Binds K fd ["self", "bits"] []) (T : Tx mg) (LT : LvT K C) (RT : RuT K CR) (c_is_word : Cal P w K mg base 1 "is_word" (spIsWord K) []) (c_cut_up : Cal P w K mg base 5 "cut_up" (spCutUp CR CK) []) : Met P w K mg base 6 C "take" (spTake C CR CK) [] := by
  refine met0 LT.cl me F b sc_Live_take (fun vs H Q E h => ?_) (fun cdv A outer s H vs Q E hr h => ?_)
  · obtain ⟨_, _, _, _, _, _, _, _, _, _, _, _, rfl, _⟩ := h; rfl
  · obtain ⟨a, r, c, fl, ss, p, st, g, h, b, F0, ps, rfl, hL, hR, hC, lp, ls, hf, lhb, lF, k⟩ := h
    refine ⟨_, (pss_cons (ps_if (pt_not (pt_val (pe_c c_is_word hr (by decide) rfl (pa_cons (pv 1) pa_nil)))) (pss_one ps_never) pss_nil)
    (pss_cons (ps_asg (pe_fld (pv 0) rfl) (pg_tup rfl (pgs_cons (pg_name (i := 2) sc_Live_take.nd rfl (.inl rfl)) (pgs_cons (pg_name (i := 3) sc_Live_take.nd rfl (.inl rfl)) (pgs_cons (pg_name (i := 4) sc_Live_take.nd rfl (.inl rfl)) (pgs_cons (pg_name (i := 5) sc_Live_take.nd rfl (.inl rfl)) pgs_nil))))))
    (pss_cons (ps_set (i := 6) sc_Live_take.nd rfl (.inl rfl) (pe_op op_add_str (pv 4) (pv 1)))
    (pss_cut (ps_if (pt_not (pt_val (pv 3))) (pss_cons (ps_asg (pe_partition (pv 6) (pe_fld (pe_fld (pv 0) rfl) rfl)) (pg_tup rfl (pgs_cons (pg_name (i := 7) sc_Live_take.nd rfl (.inl rfl)) (pgs_cons (pg_name (i := 8) sc_Live_take.nd rfl (.inl rfl)) (pgs_cons (pg_name (i := 9) sc_Live_take.nd rfl (.inl rfl)) pgs_nil)))))
    (pss_cons (ps_if (pt_cmpR op_eq (pv 8) pe_str (nomark _)) (pss_cons (ps_fld (pv 0) (pe_tup (pa_cons (pe_op op_add_str (pv 2) (pv 1)) (pa_cons pe_bl (pa_cons (pv 6) (pa_cons (pv 5) pa_nil))))) rfl)
    (pss_one (ps_ret (pe_tup pa_nil)))) pss_nil)
    (pss_one (ps_set (i := 6) sc_Live_take.nd rfl (.inl rfl) (pv 9))))) pss_nil)
    (pss_cons (ps_asg (pe_c c_cut_up hr (by decide) rfl (pa_cons (pe_fld (pv 0) rfl) (pa_cons (pe_fld (pv 0) rfl) (pa_cons (pv 6) pa_nil)))) (pg_tup rfl (pgs_cons (pg_name (i := 10) sc_Live_take.nd rfl (.inl rfl)) (pgs_cons (pg_name (i := 11) sc_Live_take.nd rfl (.inl rfl)) pgs_nil))))
    (pss_cons (ps_fld (pv 0) (pe_tup (pa_cons (pe_op op_add_str (pv 2) (pv 1)) (pa_cons pe_bl (pa_cons (pv 11) (pa_cons (pe_op op_catA (pv 5) (pv 10)) pa_nil))))) rfl)
    (pss_one (ps_ret (pv 10))))))))), ?_⟩
    have wb : (W b).length = b.length := W_len b
    have wh : (W (g ++ h)).length = g.length + h.length := by rw [W_len, List.length_append]
    refine ⟨_, rfl, _, rfl, .inl ⟨_, rfl, by rw [wb]; omega, fun H1 s1 => ⟨_, rfl, ?_⟩⟩⟩
    refine iteBF (by rw [isW_W]; rfl) ?_
    have hL1 := hL.same s1
    obtain ⟨dx, sa, pa, qs, h1, ⟨q, h2, h3⟩, h4, h5⟩ := hL1
    dsimp only [stG] at h2 h3
    refine ⟨_, rfl, a, C, dx, _, _, rfl, h1, LT.cl, LT.nS, lv_state _ _ _ _, sa, _, rfl, SqT.of h2, rfl, _, _, rfl, _, _, rfl, _, _, rfl, _, _, rfl, rfl, ?_⟩
    have lk := st_kept hf ss p st h
    have wk : (W (stM fl ss p st h).2.1).length = (stM fl ss p st h).2.1.length := W_len _
    refine ⟨_, rfl, _, rfl, _, _, rfl, rfl, by rw [wk, wb]; exact sl_len (by omega), ?_⟩
    rw [W_cat]
    -- the flag that opens
    refine ⟨fun σ H' => ∃ rst : List Bool, ∃ v3 v4 v7 v8 v9 v10 v11 : Option V, σ = [some (.ref a), some (.str (W b)), some (.str (W (g ++ h))), v3, v4, some (.ref q), some (.str (W rst)), v7, v8, v9, v10, v11] ∧ Same H1 H' ∧ rst.length ≤ 10000 ∧ stM fl ss p st (h ++ b) = (true, (cutA fl rst).2, (stM fl ss p st h).2.2 ++ frM fl ss p st rst) ∧ clM fl ss p st h b = frM fl ss p st rst, ?_, ?_⟩
    · refine ⟨_, rfl, _, rfl, ?_⟩
      cases e : posM h fl with
      | some i =>
        rw [st_some e]
        refine iteBF rfl ?_
        refine ⟨_, _, _, _, _, _, _, _, rfl, Same.refl _, ?_, ?_, ?_⟩
        · have := cutA_le hf _ (h.drop (i + fl.length)) (Nat.le_refl _)
          rw [List.length_drop] at this
          show ((cutA fl (h.drop (i + fl.length))).2 ++ b).length ≤ 10000
          rw [List.length_append]
          omega
        · rw [st_more hf e]
        · unfold clM
          rw [e]
      | none =>
        rw [st_none e] at h2 h3 lk wk ⊢
        refine iteBT rfl ?_
        obtain ⟨dr, tr, hr1⟩ := (hR.same s1).few
        have nz : ((W fl).length == 0) = false := by
          rw [W_len]
          have := List.length_pos_iff.mpr hf
          exact beq_false_of_ne (by omega)
        refine ⟨_, rfl, ⟨_, rfl⟩, _, rfl, a, C, dx, _, _, rfl, h1, LT.cl, LT.nR, lv_rule _ _ _ _, r, CR, dr, _, _, rfl, hr1, RT.cl, RT.nF, ruF_flag _ _, _, _, rfl, rfl, nz, by rw [W_len, List.length_append]; exact sl_len (by omega), fun t nt => ?_⟩
        refine ⟨t, _, rfl, SqT.of upd_same, rfl, _, _, rfl, _, _, rfl, _, _, rfl, rfl, ?_⟩
        have stt := same_upd (o := .tup [.str (Txt.partition (W (h ++ b)) (W fl)).1, .str (Txt.partition (W (h ++ b)) (W fl)).2.1, .str (Txt.partition (W (h ++ b)) (W fl)).2.2]) nt
        generalize upd H1 t (.tup [.str (Txt.partition (W (h ++ b)) (W fl)).1, .str (Txt.partition (W (h ++ b)) (W fl)).2.1, .str (Txt.partition (W (h ++ b)) (W fl)).2.2]) = H2 at stt
        rw [part_W]
        refine ⟨_, rfl, rfl, _, rfl, ?_⟩
        cases e2 : posM (h ++ b) fl with
        | none =>
          refine iteDT rfl ?_
          refine ⟨_, rfl, _, rfl, _, _, rfl, rfl, by rw [wh, wb]; exact sl_len (by omega), _, rfl, _, rfl, by show 4 ≤ sizeLine; decide, fun sn nsn => ?_⟩
          rw [W_cat, List.append_assoc]
          have ssn := same_upd (o := .tup [.str (W (g ++ (h ++ b))), .bl false, .str (W (h ++ b)), .ref q]) nsn
          have h12 := ssn _ _ (stt _ _ h1)
          refine ⟨_, rfl, a, C, dx, _, rfl, h12, LT.cl, LT.nS, by show 4 < 1000; decide, ?_⟩
          rw [lv_put_state]
          have esn : upd H2 sn (.tup [.str (W (g ++ (h ++ b))), .bl false, .str (W (h ++ b)), .ref q]) sn = some (.tup [.str (W (g ++ (h ++ b))), .bl false, .str (W (h ++ b)), .ref q]) := upd_same
          have sm : SmB a H1 (upd (upd H2 sn (.tup [.str (W (g ++ (h ++ b))), .bl false, .str (W (h ++ b)), .ref q])) a (.ins C dx (lvF r c sn pa))) := (SmB.of (stt.trans ssn)).trans SmB.put
          have ea : upd (upd H2 sn (.tup [.str (W (g ++ (h ++ b))), .bl false, .str (W (h ++ b)), .ref q])) a (.ins C dx (lvF r c sn pa)) a = some (.ins C dx (lvF r c sn pa)) := upd_same
          have esn2 : upd (upd H2 sn (.tup [.str (W (g ++ (h ++ b))), .bl false, .str (W (h ++ b)), .ref q])) a (.ins C dx (lvF r c sn pa)) sn = some (.tup [.str (W (g ++ (h ++ b))), .bl false, .str (W (h ++ b)), .ref q]) := by rw [upd_ne (ne_of esn h12 (by intro z; cases z))]; exact esn
          generalize upd (upd H2 sn (.tup [.str (W (g ++ (h ++ b))), .bl false, .str (W (h ++ b)), .ref q])) a (.ins C dx (lvF r c sn pa)) = H3 at sm ea esn2
          refine ⟨Nat.zero_le _, fun q2 nq2 => ?_⟩
          have sq2 := same_upd (o := .tup []) nq2
          have ec : clM fl ss p st h b = [] := by unfold clM; rw [e, st_none e2]
          refine k q2 _ ((SmB.of s1).trans (sm.trans (SmB.of sq2))) ?_ (by rw [ec]; exact ⟨[], fun _ => ("", none), upd_same, (fun _ h => nomatch h), rfl⟩)
          rw [st_none e2]
          exact ⟨dx, sn, pa, qs, sq2 _ _ ea, ⟨q, sq2 _ _ esn2, (h3.smb h1 sm).same sq2⟩, sq2 _ _ (sm _ _ h4 (ne_of h4 h1 (by intro z; cases z))), (h5.smb h1 sm).same sq2⟩
        | some i =>
          refine iteDF (by
            show ¬ V.str (W fl) = V.str ""
            intro z
            rw [W_nil] at z
            exact hf (W_inj (V.str.inj z))) ?_
          obtain ⟨h6, h7⟩ := posM_lt hf e2
          refine ⟨_, rfl, (h ++ b).drop (i + fl.length), _, _, _, _, _, _, _, rfl, stt, ?_, ?_, ?_⟩
          · rw [List.length_drop, List.length_append]; omega
          · rw [st_some e2]; rfl
          · unfold clM
            rw [e, st_some e2]
    rintro σ H2 ⟨rst, v3, v4, v7, v8, v9, v10, v11, rfl, s2, lr, est, ecl⟩
    have s12 := s1.trans s2
    have h12 := s2 _ _ h1
    have hq2 := h3.same s2
    refine ⟨_, rfl, a, C, dx, _, _, rfl, h12, LT.cl, LT.nR, lv_rule _ _ _ _, _, rfl, a, C, dx, _, _, rfl, h12, LT.cl, LT.nC, lv_check _ _ _ _, _, rfl, r, c, fl, ss, p, st, rst, rfl, hR.same s12, hC.same s12, lp, ls, lr, hf, fun t qc H3 nt s3 ht hqc => ?_⟩
    refine ⟨t, _, rfl, SqT.of ht, rfl, _, _, rfl, _, _, rfl, rfl, ?_⟩
    have h13 := s3 _ _ h12
    have hq3 := hq2.same s3
    have lf1 : (stM fl ss p st h).2.2.length ≤ 10000 := by
      cases e : posM h fl with
      | none => rw [st_none e]; exact Nat.zero_le _
      | some i =>
        rw [st_some e]
        have := (fr_sm (f := fl) (ss := ss) (p := p) (s := st) (l := h.drop (i + fl.length))).1
        rw [List.length_drop] at this
        show (frM fl ss p st (h.drop (i + fl.length))).length ≤ _
        omega
    have lf2 := (fr_sm (f := fl) (ss := ss) (p := p) (s := st) (l := rst)).1
    refine ⟨_, rfl, _, rfl, _, _, rfl, rfl, by rw [wh, wb]; exact sl_len (by omega), ?_⟩
    rw [W_cat, List.append_assoc]
    refine ⟨_, rfl, _, rfl, _, rfl, ?_⟩
    refine cat_fr hq3 hqc (by rw [List.length_append]; omega) fun qn H4 s4 hqn => ?_
    refine ⟨by show 4 ≤ sizeLine; decide, fun sn nsn => ?_⟩
    have ssn := same_upd (o := .tup [.str (W (g ++ (h ++ b))), .bl true, .str (W (cutF fl rst.length rst).2), .ref qn]) nsn
    have h14 := ssn _ _ (s4 _ _ h13)
    refine ⟨_, rfl, a, C, dx, _, rfl, h14, LT.cl, LT.nS, by show 4 < 1000; decide, ?_⟩
    rw [lv_put_state]
    have esn : upd H4 sn (.tup [.str (W (g ++ (h ++ b))), .bl true, .str (W (cutF fl rst.length rst).2), .ref qn]) sn = some (.tup [.str (W (g ++ (h ++ b))), .bl true, .str (W (cutF fl rst.length rst).2), .ref qn]) := upd_same
    have s14 : SmB a H1 (upd H4 sn (.tup [.str (W (g ++ (h ++ b))), .bl true, .str (W (cutF fl rst.length rst).2), .ref qn])) := SmB.of (((s2.trans s3).trans s4).trans ssn)
    have hqn5 := hqn.same ssn
    have hqc5 := (hqc.same s4).same ssn
    generalize upd H4 sn (.tup [.str (W (g ++ (h ++ b))), .bl true, .str (W (cutF fl rst.length rst).2), .ref qn]) = H5 at ssn h14 esn s14 hqn5 hqc5
    have sm : SmB a H5 (upd H5 a (.ins C dx (lvF r c sn pa))) := SmB.put
    have ea : upd H5 a (.ins C dx (lvF r c sn pa)) a = some (.ins C dx (lvF r c sn pa)) := upd_same
    generalize upd H5 a (.ins C dx (lvF r c sn pa)) = H6 at sm ea
    refine ⟨_, rfl, k qc H6 ((SmB.of s1).trans (s14.trans sm)) ?_ (by rw [ecl]; exact hqc5.smb h14 sm)⟩
    rw [est]
    exact ⟨dx, sn, pa, qs, ea, ⟨qn, sm _ _ esn (ne_of esn h14 (by intro z; cases z)), by show FrU _ qn (F0 ++ (_ ++ _)); rw [← List.append_assoc]; exact hqn5.smb h14 sm⟩, (s14.trans sm) _ _ h4 (ne_of h4 h1 (by intro z; cases z)), h5.smb h1 (s14.trans sm)⟩
theorem sc_Live_hear : FnScope ["self", "bits", "here", "closed"] ["self", "bits"] (fnScope s_Live_hear) := fnScope_by (by decide +kernel)
theorem met_hear {f C CR CK : Addr} {fd : FuncData} (F : C8.Fun K "hear" "Live.hear" s_Live_hear f fd) (me : Meth K C "hear" f) (b : Binds K fd ["self", "bits"] []) (T : Tx mg) (LT : LvT K C) (c_take : Met P w K mg base 6 C "take" (spTake C CR CK) []) : Met P w K mg base 7 C "hear" (spHear C CR CK) [] := by
  refine met0 LT.cl me F b sc_Live_hear (fun vs H Q E h => ?_) (fun cdv A outer s H vs Q E hr h => ?_)
  · obtain ⟨_, _, _, _, _, _, _, _, _, _, _, _, rfl, _⟩ := h; rfl
  · obtain ⟨a, r, c, fl, ss, p, st, g, h, b, F0, ps, rfl, hL, hR, hC, lp, ls, hf, lhb, lF, hn, k⟩ := h
    refine ⟨_, (pss_cons (ps_set (i := 2) sc_Live_hear.nd rfl (.inl rfl) (pe_tup (pa_cons (pe_fld (pv 0) rfl) (pa_cons (pe_fld (pv 0) rfl) pa_nil))))
    (pss_cons (ps_set (i := 3) sc_Live_hear.nd rfl (.inl rfl) (pe_mt (pl := _) c_take hr (by decide) (pv 0) (pa_cons (pv 1) pa_nil)))
    (pss_cons (ps_fld (pv 0) (pe_tup (pa_star (pe_fld (pv 0) rfl) (pa_cons (pv 2) pa_nil))) rfl)
    (pss_one (ps_ret (pv 3)))))), ?_⟩
    obtain ⟨dx, sa, pa, qs, h1, h2, h3, h4⟩ := id hL
    refine ⟨_, rfl, a, C, dx, _, _, rfl, h1, LT.cl, LT.nR, lv_rule _ _ _ _, _, rfl, a, C, dx, _, _, rfl, h1, LT.cl, LT.nS, lv_state _ _ _ _, by show 2 ≤ sizeLine; decide, fun hh nhh => ?_⟩
    have shh := same_upd (o := .tup [.ref r, .ref sa]) nhh
    have ehh : upd H hh (.tup [.ref r, .ref sa]) hh = some (.tup [.ref r, .ref sa]) := upd_same
    generalize upd H hh (.tup [.ref r, .ref sa]) = H1 at shh ehh
    have hps : PsA H1 hh (r, stG F0 (stM fl ss p st h), g ++ h) := ⟨sa, ehh, h2.same shh⟩
    refine ⟨_, rfl, a, dx, _, rfl, shh _ _ h1, by rfl, _, rfl, a, r, c, fl, ss, p, st, g, h, b, F0, ps, rfl, hL.same shh, hR.same shh, hC.same shh, lp, ls, hf, lhb, lF, fun qc H2 sm2 hL2 hqc => ?_⟩
    obtain ⟨dx2, sa2, pa2, qs2, g1, g2, g3, g4⟩ := hL2
    have hps2 := hps.smb (shh _ _ h1) sm2
    refine ⟨_, rfl, a, C, dx2, _, _, rfl, g1, LT.cl, LT.nP, lv_past _ _ _ _, pa2, _, rfl, .inl (SqT.of g3), _, rfl, ?_⟩
    refine ⟨by rw [List.length_append, List.length_map, g4.1]; exact sl_len (by show ps.length + 1 ≤ 100000; omega), fun pn npn => ?_⟩
    have spn := same_upd (o := .tup (qs2.map V.ref ++ [.ref hh])) npn
    have epn : upd H2 pn (.tup (qs2.map V.ref ++ [.ref hh])) pn = some (.tup ((qs2 ++ [hh]).map V.ref)) := by rw [upd_same, List.map_append]; rfl
    have g12 := spn _ _ g1
    refine ⟨_, rfl, a, C, dx2, _, rfl, g12, LT.cl, LT.nP, by show 4 < 1000; decide, ?_⟩
    rw [lv_put_past]
    generalize upd H2 pn (.tup (qs2.map V.ref ++ [.ref hh])) = H3 at spn epn g12
    have sm : SmB a H3 (upd H3 a (.ins C dx2 (lvF r c sa2 pn))) := SmB.put
    have ea : upd H3 a (.ins C dx2 (lvF r c sa2 pn)) a = some (.ins C dx2 (lvF r c sa2 pn)) := upd_same
    generalize upd H3 a (.ins C dx2 (lvF r c sa2 pn)) = H4 at sm ea
    refine ⟨_, rfl, k qc H4 ((SmB.of shh).trans (sm2.trans ((SmB.of spn).trans sm))) ?_ ((hqc.same spn).smb g12 sm)⟩
    exact ⟨dx2, sa2, pn, qs2 ++ [hh], ea, (g2.same spn).smb g12 sm, sm _ _ epn (ne_of epn g12 (by intro z; cases z)), ((g4.snoc hps2).same spn).smb g12 sm⟩
end
end U

set_option maxRecDepth 100000
set_option maxHeartbeats 4000000
/-! own errors whose __init__ says super().__init__(text, x) and self.f = x -/
namespace ExS
open PySem PySem.Spec PyProof.Rows L2 NdefX
/-- what such an __init__ does to the error at a -/
def spXI (C : Addr) (fld : Str) : Sp := fun vs H Q _ => ∃ (a : Addr) (v : V), vs = [.ref a, v] ∧ H a = some (exo a C none) ∧
  ∀ dx, H dx = none → dx ≠ a → Q .non (upd (upd H dx (exd dx [(fld, v)])) a (exo a C (some dx)))
/-- the built-in __init__ bound to the error, called: nothing of it is told -/
theorem call_mw {X : Cx} {pins : List (Addr × Obj)} {σ : L2.St} {H : Hp} {s : Shared} {a C u : Addr} {us : List Value} {Q : Value → Shared → Prop} {E : Value → Shared → Prop} {A : Around}
    (T : OexC X.K C) (I : Inv X pins σ H s) (e : H a = some (exo a C none)) (hu : s.heap.get? u = some (PySem.W.kxs_mw "ValueError.__init__" a)) (hl : us.length ≤ sizeLine) (h : ∀ s', Inv X pins σ H s' → Q .none s') :
    wpAny (model X.prog X.w) A (call (.ref u) us) Q E s := by
  obtain ⟨nm, q, N, bs, bm, sn, sub, ab, col, dd, k0, k1, k2, k3, k5, hC, hbm⟩ := T.cls
  obtain ⟨t1, ho⟩ := exo_at I.hok e
  obtain ⟨hp, g, d, t, os⟩ := s
  have fin : ∀ h' : Heap, (∀ b o, b ≠ a → hp.get? b = some o → h'.get? b = some o) → h'.get? a = some (PySem.W.excObj C hp.objs.size none .none) → Q .none ⟨h', g, d, t, os⟩ := fun h' k hx => by
    have J := I.write (t' := t) (x := a) (e := a) (o := exo a C none) (by rw [e]; exact True.intro) (.inl rfl) k ⟨_, hx⟩ (exo_ok hx)
    have eu : upd H a (exo a C none) = H := funext fun b => by
      by_cases hb : b = a
      · rw [hb, upd_same, e]
      · rw [upd_ne hb]
    rw [eu] at J
    exact h _ J
  refine wpAny_call (codeAny_of_tree ?_)
  show wpAny _ A.in1 (callAny (.ref u) ⟨us, []⟩) _ _ _
  simp only [callAny]
  refine wpAny_bind (wpAny_load hu ?_)
  simp only [PySem.W.kxs_mw, show (Value.type "method-wrapper" == Value.type "method" || Value.type "method-wrapper" == Value.type "builtin_function_or_method" || Value.type "method-wrapper" == Value.type "method-wrapper") = true by decide, if_true]
  refine PySem.W.KFB.if_so (by decide) ?_
  refine wpAny_bind (PySem.W.check_bound_init F.excBase_ValueError.toExcCallFacts (I.kIn _ _ hC) ho rfl ?_)
  refine wpAny_bind (wpAny_pure (wpAny_pure ?_))
  refine ⟨plainId_quiet F.excBase_ValueError.init.plain _, codeAny_builtin F.excBase_ValueError.initEntry ?_⟩
  exact PySem.W.exc_init_tree (cls := .ref C) (t0 := t1) (dv := none) (c2 := .none) (c3 := .none) (b4 := .bool false) ho hl fun h' k hx _ => fin h' k hx
/-- the two statements of such an __init__ -/
def Body2 (self word fld text : Str) (body : List Stmt) : Prop := ∃ (p0 p1 p2 p3 p4 p5 p6 p7 p8 p9 p10 : Pos) (j : Nat), body = [.Expr (.Call (.Attribute (.Call (.Name "super" p0) [] [] p1) "__init__" p2) [.Constant (.str text) j p3, .Name word p4] [] p5) p6, .Assign [.Attribute (.Name self p7) fld p8] (.Name word p9) p10] ∧ (p2.endLine == p5.line) = true
theorem eval_sup {o : Expr} {name : Str} {apos pos : Pos} {e1 e2 : Expr} {env : Env} (hl : (apos.endLine == pos.line) = true) (h1 : starEach [e1, e2] env = [(false, eval e1 env), (false, eval e2 env)]) :
    eval (.Call (.Attribute o name apos) [e1, e2] [] pos) env = (do
      let ov ← attributeBase o name env (eval o env)
      standAt apos.atName
      let (f, first) ← holding [ov] (getMethod ov name (do return (← importBound o env).getD true))
      callWith pos f first (backTo pos (starEach [e1, e2] env)) []) := by
  have hp : methodCallPos true o env apos pos = pure pos := by unfold methodCallPos; rw [hl]; rfl
  show (do
    let ov ← attributeBase o name env (eval o env)
    standAt apos.atName
    methodCall o name apos pos env ov 2 (backTo pos (starEach [e1, e2] env)) []) = _
  rw [h1]
  have hm : ∀ ov, methodCall o name apos pos env ov 2 (backTo pos [(false, eval e1 env), (false, eval e2 env)]) [] = (do
      let (f, first) ← holding [ov] (getMethod ov name (do return (← importBound o env).getD true))
      callWith pos f first (backTo pos [(false, eval e1 env), (false, eval e2 env)]) []) := fun ov => by
    unfold methodCall
    have hf : methodCallForm 2 (backTo pos [(false, eval e1 env), (false, eval e2 env)]) [] = true := rfl
    rw [hf, hp]
    rfl
  simp only [hm]
structure ExF (P : Program) (K : PySem.W.Frag) (mg : Str → Option Value) (C : Addr) (fld : Str) (f cc cda : Addr) (file : Str) : Prop where
  T : OexC K C
  no : PySem.W.findIn K (.ref C) fld = some none
  cell : ∃ cl cld csl, K.lookup cc = some ⟨cl, cld, .cell (some (.ref C)), csl⟩
  code : ∃ ccl cdd vs ccs tf, K.lookup cda = some ⟨ccl, cdd, .fields vs, ccs⟩ ∧ vs[2]? = some (.str file tf)
  file : ((P.main.file : Str) == file) = true
  top : (P.main.scope.names.lookup ("super" : Str)).isSome = false
  sub : PySem.W.mroIn K C (.ref C) = some true
  sup : mg "super" = none
  opq : PySem.W.nsIn K cStatics "thirdparty.any" = some none
  ini : PySem.W.ks_superIn K C C "__init__" = some (some (.builtin "ValueError.__init__"))
  ve : PySem.W.subIn K (.ref C) (.type "ValueError") = some true
theorem fn_exc {P : Program} {w : World} {K : PySem.W.Frag} {mg : Str → Option Value} {base : Heap} {C f cc cda : Addr} {name qual self word fld text file : Str} {params : Arguments} {body : List Stmt} {scope : Scope} {dV kV doc pm ct oc : Value} {an od : Option Addr} {osl : Array (Option Value)} {ar : Arg} {k : Nat}
    (X : ExF P K mg C fld f cc cda file) (lk : K.lookup f = some ⟨oc, od, .func (PySem.W.fnX name qual params body scope [("__class__", cc)] dV kV doc pm an (.ref cda) ct), osl⟩) (hcd : PySem.W.codeIn K (.ref cda) qual = true)
    (S : NScope [self, word, "__class__"] [self, word] ["__class__"] scope) (hks : scope.names.lookup ("super" : Str) = some .globalImplicit) (hp : (params.posonlyargs ++ params.args).head? = some ar) (har : ar.arg = self) (hb2 : Body2 self word fld text body) (hd0 : (self == ("__debug__" : Str)) = false) (hd1 : (word == ("__debug__" : Str)) = false) (hc0 : (self == ("__classdict__" : Str)) = false) (hc1 : (word == ("__classdict__" : Str)) = false) :
    FnOk P w K mg base CX0 (k + 1) f (PySem.W.fnX name qual params body scope [("__class__", cc)] dV kV doc pm an (.ref cda) ct) [self, word] (spXI C fld) := by
  refine ⟨fun vs H Q E h => by obtain ⟨_, _, rfl, _⟩ := h; rfl, fun A outer s H args us vs Q E hr e0 hb r hsp => ?_⟩
  obtain ⟨a, v, rfl, ha, kk⟩ := hsp
  obtain ⟨u1, rfl, rv⟩ : ∃ u1, us = [.ref a, u1] ∧ RelV v u1 := by
    cases r with
    | @cons _ u0 _ ur ra rr =>
      obtain rfl : u0 = Value.ref a := ra
      cases rr with
      | @cons _ u1 _ ur2 rv rn =>
        cases rn
        exact ⟨u1, rfl, rv⟩
  have KX : K.In s.heap := e0.mod.kin.keeps fun b o e => (e0.bs b o e).1
  have lim : s.heap.NoLimit := e0.mod.nolimit.keeps fun b o e => (e0.bs b o e).1
  obtain ⟨cl, cld, csl, lcc⟩ := X.cell
  obtain ⟨ccl, cdd, cvs, ccs, tf, lcd, hvs⟩ := X.code
  refine codeAny_call_function hr.depth (KX _ _ lk) rfl S.co S.gen rfl (PySem.W.codeRec_of KX hcd) (hb _ _ _ _ ?_)
  refine wpAny_newFunctionEnv S.nocell (fun ⟨n, _⟩ hy => S.par n (List.of_mem_zip hy).1) (fun h₁ hns hsb => ⟨lim.fresh _ hsb, ?_⟩) S.kind
  show codeAny _ _ (.func body (PySem.W.envX qual scope s.heap.objs.size f (.ref cda) [("__class__", cc)])) _ _
  refine ks_codeAny_funcAt ?_
  have kp : ∀ b o, s.heap.get? b = some o → h₁.get? b = some o := fun b o e => hsb.extBut b o (Nat.ne_of_lt (Heap.lt_size e)) (Heap.get?_push_of_some _ e)
  have hcb := e0.bs _ _ (e0.mod.kin _ _ lcc)
  have C0 : CellsAt [("__class__", cc)] ["__class__"] [some (.ref C)] s.heap H := by
    have one : ∀ y c, ([("__class__", cc)] : List (Str × Addr)).lookup y = some c → y = "__class__" ∧ c = cc := fun y c e => by
      rw [List.lookup_cons] at e
      split at e
      · rename_i z
        exact ⟨eq_of_beq z, (Option.some.inj e).symm⟩
      · cases e
    refine ⟨rfl, fun y c e => ?_, fun x y c e1 e2 => (one x c e1).1.trans (one y c e2).1.symm, fun i y e => ?_⟩
    · rw [(one y c e).2]
      exact ⟨hcb.2, _, _, hcb.1, rfl⟩
    · match i, e with
      | 0, e =>
        rw [← Option.some.inj e]
        exact ⟨cc, rfl, fun v hv => ⟨.ref C, by cases hv; exact rfl, _, hcb.1, rfl⟩⟩
  have I : Inv (ncx CX0 P w K mg base [self, word, "__class__"] ⟨name, qual, params, body, scope, [("__class__", cc)], cda⟩ f A outer s H E) [] (startF [self, word, "__class__"] [.ref a, v] [some (.ref C)]) H { s with heap := h₁, toks := s.toks + ([self, word].zip [Value.ref a, u1]).length } :=
    inv_startN (F := ⟨name, qual, params, body, scope, [("__class__", cc)], cda⟩) S hr.hd e0 rfl r C0 hns kp
  have KX1 : K.In h₁ := KX.keeps kp
  obtain ⟨p0, p1, p2, p3, p4, p5, p6, p7, p8, p9, p10, j, rfl, hline⟩ := hb2
  have hkc : scope.names.lookup ("__class__" : Str) = some .free := S.frk _ (List.mem_singleton.mpr rfl)
  have hself : scope.names.lookup self = some .local := S.par _ List.mem_cons_self
  have hword : scope.names.lookup word = some .local := S.par _ (List.mem_cons_of_mem _ List.mem_cons_self)
  obtain ⟨nm, q, N, bs, bm, sn, sub, ab, col, dd, k0, k1, k2, k3, k5, hC, hbm⟩ := X.T.cls
  have hcl : PySem.W.clsIn K C = some { name := nm, bases := bs, mro := .ref C :: bm, ns := N, qualname := q, hasDict := true, slotNames := sn, subclasses := sub, abstract := ab, collection := col, hasDel := false } := by unfold PySem.W.clsIn; rw [hC] <;> rfl
  obtain ⟨t1, hoa⟩ := exo_at I.hok ha
  obtain ⟨mb, b1, b2⟩ := I.mod.blt
  have boot : bootBuiltins "super" = some (.type "super") := by first | boot_by_name | rfl | kernel_rfl
  have hne : a ≠ C := fun z => by
    have := KX1 _ _ hC
    rw [← z, hoa] at this
    cases this
  refine ks_wpAt_execs_cons (ks_wpAt_Expr_any (ks_wpAt_MethodCall ?_ (eval_sup hline rfl)) I.quiet rfl)
  refine ks_wpAt_super_base (f := f) (cc := cda) hks hkc (by decide) rfl (KX1 _ _ lk) rfl hp rfl (KX1 _ _ lcd) rfl hvs X.file X.top ?_
  refine PySem.W.ks_loadName_global I.ok.kind hks (Calls.loadGlobal_builtin (I.mod.glob.keeps I.bk) X.sup (b1.keeps I.bk) ((b2 _ (by decide)).trans boot) ⟨rfl, ?_⟩)
  refine wpAny_loadName_free I.ok.kind hkc rfl ⟨_, kp _ _ hcb.1, rfl⟩ ?_
  rw [har]
  have ndp : [self, word].Nodup := (List.nodup_append.mp (show ([self, word] ++ [("__class__" : Str)]).Nodup from S.nd)).1
  refine wpAny_loadName_local I.ok.kind hself hns (zip_look (i := 0) ndp rfl rfl) ?_
  refine ks_wpAny_isType_cls (KX1 _ _ hC) rfl ⟨rfl, ?_⟩
  refine ks_wpAny_call_super (KX1 _ _ hC) rfl hoa rfl (fun c z => by cases z) (PySem.W.looks_mroIn KX1 X.sub) (fun h2 e2 kq => ?_)
  have I2 := I.kept (h' := h2) (t' := s.toks + ([self, word].zip [Value.ref a, u1]).length) kq
  have KX2 : K.In h2 := KX1.keeps kq
  have hoa2 := kq _ _ hoa
  have hal : PySem.W.alongIn K "__init__" (((Value.ref C :: bm).dropWhile (· != .ref C)).drop 1) = some (some (.builtin "ValueError.__init__")) := by
    have := X.ini
    unfold PySem.W.ks_superIn at this
    rw [hcl] at this
    exact this
  have IA : PySem.W.InstAt h2 a (PySem.W.excObj C t1 none .none) C none := ⟨hoa2, rfl, rfl, trivial⟩
  refine PySem.W.kxs_getMethod PySem.W.kxs_ValueError (l₀ := .ref C :: bm) e2 (PySem.W.looks_opaque KX2 X.opq) ?_ rfl KX2 hal (IA.type.andThen (PySem.W.looks_subIn KX2 X.ve)) hne (by decide) ?_
  · exact fun A Q E s k q => wpAny_bind ((PySem.W.looks_clsIn KX2 hcl) A _ E s k (wpAny_pure q))
  have kp3 : ∀ b o, h2.get? b = some o → (h2.push (PySem.W.kxs_mw "ValueError.__init__" a)).get? b = some o := fun b o e => Heap.get?_push_of_some _ e
  have I3 := I2.kept (h' := h2.push (PySem.W.kxs_mw "ValueError.__init__" a)) (t' := s.toks + ([self, word].zip [Value.ref a, u1]).length + 1) kp3
  have hu3 : (h2.push (PySem.W.kxs_mw "ValueError.__init__" a)).get? h2.objs.size = some (PySem.W.kxs_mw "ValueError.__init__" a) := Heap.get?_push_at rfl rfl
  have I4 := I3.pins_of (pins' := [(h2.objs.size, PySem.W.kxs_mw "ValueError.__init__" a)]) fun p hp => by
    rw [List.mem_singleton.mp hp]
    exact ⟨hu3, I2.hok.fresh (Nat.le_refl _), (Nat.ne_of_lt I2.lt).symm, I2.nofs (Nat.le_refl _), fun v z => by cases z⟩
  have pw : PE (ncx CX0 P w K mg base [self, word, "__class__"] ⟨name, qual, params, [.Expr (.Call (.Attribute (.Call (.Name "super" p0) [] [] p1) "__init__" p2) [.Constant (.str text) j p3, .Name word p4] [] p5) p6, .Assign [.Attribute (.Name self p7) fld p8] (.Name word p9) p10], scope, [("__class__", cc)], cda⟩ f A outer s H E) (.Name word p4) (tVar 1) := pe_var rfl (.inl hword) hd1 hc1
  have pa := pa_cons (pe_str (x := text) (j := j) (pos := p3)) (pa_cons pw pa_nil)
  refine PySem.W.kxs_callWith (i := "ValueError.__init__") (x := a) rfl (PySem.Calls.evalArgs_plain (thn (pa.run p5 _ _ _ _ (fun vs H1 => vs = [.str text, v] ∧ H1 = H) I4 ⟨v, rfl, rfl, rfl⟩) fun ws s5 h5 => ?_))
  obtain ⟨vs5, H5, I5, r5, rfl, rfl⟩ := h5
  have hu5 := (I5.pin _ (List.mem_append_right _ (List.mem_singleton.mpr rfl))).1
  have l5 : ws.length ≤ sizeLine := by
    have := Paired.length r5
    rw [← this]
    show 2 ≤ sizeLine
    decide
  refine ⟨hu5, ?_⟩
  refine call_mw X.T (I5.pins_of (pins' := []) fun p hp => absurd hp (by exact List.not_mem_nil)) ha hu5 l5 fun s6 I6 => ?_
  have pself : PE (ncx CX0 P w K mg base [self, word, "__class__"] ⟨name, qual, params, [.Expr (.Call (.Attribute (.Call (.Name "super" p0) [] [] p1) "__init__" p2) [.Constant (.str text) j p3, .Name word p4] [] p5) p6, .Assign [.Attribute (.Name self p7) fld p8] (.Name word p9) p10], scope, [("__class__", cc)], cda⟩ f A outer s H5 E) (.Name self p7) (tVar 0) := pe_var rfl (.inl hself) hd0 hc0
  have pword : PE (ncx CX0 P w K mg base [self, word, "__class__"] ⟨name, qual, params, [.Expr (.Call (.Attribute (.Call (.Name "super" p0) [] [] p1) "__init__" p2) [.Constant (.str text) j p3, .Name word p4] [] p5) p6, .Assign [.Attribute (.Name self p7) fld p8] (.Name word p9) p10], scope, [("__class__", cc)], cda⟩ f A outer s H5 E) (.Name word p9) (tVar 1) := pe_var rfl (.inl hword) hd1 hc1
  have st := pss_one (ps_ost (f := fld) (p' := p8) (pos := p10) pself pword)
  refine wpAt_of_wpAny (wpAny_mono (st.run [] s6 _ H5 { nx := fun _ H' => Q .non H', rt := Q } I6 ⟨v, rfl, .ref a, rfl, a, C, rfl, X.T, X.no, .inl ⟨ha, fun dx n ne => kk dx n ne⟩⟩) (fun fl s7 hs => ?_) fun e s' hs => hs)
  cases fl with
  | ret u =>
    obtain ⟨v7, σ7, H7, J, r7, q7⟩ := hs
    exact ⟨v7, H7, J.os, J.bare, J.base, J.hok, r7, q7⟩
  | next =>
    obtain ⟨σ7, H7, J, q7⟩ := hs
    exact ⟨.non, H7, J.os, J.bare, J.base, J.hok, rfl, q7⟩
  | brk =>
    obtain ⟨_, _, _, q7⟩ := hs
    exact False.elim q7
  | cont =>
    obtain ⟨_, _, _, q7⟩ := hs
    exact False.elim q7
end ExS

set_option maxRecDepth 100000
set_option maxHeartbeats 4000000
namespace ExS
open PySem PySem.Spec PyProof.Rows L2
/-- an own error's class under its name -/
structure XMk (P : Program) (w : World) (K : PySem.W.Frag) (mg : Str → Option Value) (base : Heap) (k : Nat) (x : Str) (C : Addr) (fld : Str) : Prop where
  ex : ∃ (fI : Addr) (fd : FuncData) (ps : List Str), OexC K C ∧ PySem.W.findIn K (.ref C) "__init__" = some (some (.ref fI)) ∧ PySem.W.typeIn K (.ref fI) = some (.type "function") ∧ FnOk P w K mg base L2.CX0 k fI fd ps (spXI C fld) ∧ Binds K fd ps [] ∧ mg x = some (.ref C)
section
variable {X : Cx} {x fld : Str} {C : Addr} {k j : Nat} {p pos : Pos} {e : Expr} {es : List Expr} {ta : TA}
theorem pmk_x (c : XMk X.prog X.w X.K X.mg X.base k x C fld) (hr : Room j X.A) (hk : k + 1 ≤ j) (hg : Gl X x) (ha : PA X (e :: es) ta)
    (hdb : (x == ("__debug__" : Str)) = false := by decide) (he : starEach (e :: es) X.env = (false, eval e X.env) :: starEach es X.env := by rfl) (hpl : (backTo pos (starEach es X.env)).any (·.1) = false := by rfl) :
    PMk X (.Call (.Name x p) (e :: es) [] pos) (tMkO C (spXI C fld) [] ta) := by
  obtain ⟨fI, fd, ps, T, iC, tI, F, b, hm⟩ := c.ex
  exact pmk_oex T iC tI F (hr.mono hk) b .nil L2.pass0 hg hm ha hdb he hpl
end
theorem exo_exd {a C d : Addr} {o : Option Addr} {fs : List (Str × V)} {H : Hp} (h1 : H a = some (exo a C o)) (h2 : H d = none) : d ≠ a := fun z => by
  rw [z, h1] at h2
  cases h2
/-- what the making of such an error asks -/
theorem rd_x {C : Addr} {fld : Str} {H1 : Hp} {v : V} {Q : XK} (k : ∀ d H', Same H1 H' → H1 d = none → H' d = some (.xd [(fld, v)]) → Q (.ref C) (some d) H') :
    [v].length ≤ 1000 ∧ ∀ a, H1 a = none → spXI C fld (.ref a :: ([v] ++ [])) (upd H1 a (exo a C none)) (fun w H2 => w = .non ∧ ∃ (d : Addr) (fs : List (Str × V)), H2 a = some (exo a C (some d)) ∧ H2 d = some (exd d fs) ∧ H1 d = none ∧ Q (.ref C) (some d) (upd (del H2 a) d (.xd fs))) (fun _ _ _ => False) := by
  refine ⟨by show 1 ≤ 1000; decide, fun a na => ⟨a, v, rfl, upd_same, fun dx nd ne => ⟨rfl, dx, [(fld, v)], upd_same, by rw [upd_ne ne, upd_same], ?_, ?_⟩⟩⟩
  · rw [upd_ne ne] at nd
    exact nd
  · rw [upd_ne ne] at nd
    refine k dx _ (fun b o e => ?_) nd upd_same
    have b1 : b ≠ a := ne_of_none e na
    have b2 : b ≠ dx := ne_of_none e nd
    rw [upd_ne b2, del_ne b1, upd_ne b1, upd_ne b2, upd_ne b1]
    exact e
theorem takes0 {X : Cx} : L2.Takes X (fun _ _ _ _ => False) := fun _ _ ⟨_, _, _, _, _, _, _, _, _, _, _, _, _, _, _, _, w⟩ => w.elim
/-- a class whose __init__ may raise -/
structure MakX (P : Program) (w : World) (K : PySem.W.Frag) (mg : Str → Option Value) (base : Heap) (k : Nat) (x : Str) (C : Addr) (sp : Sp) (dvs : List V) : Prop where
  ex : ∃ (f : Addr) (fd : FuncData) (ps : List Str) (ds : List Value), Mk K C f ∧ FnOk P w K mg base (L2.CX P w) k f fd ps sp ∧ mg x = some (.ref C) ∧ Binds K fd ps ds ∧ Vals dvs ds
def tMakeS (C : Addr) (sp : Sp) (dvs : List V) (E : L2.St → XK) (t : TA) : TE := fun σ H Q => t σ H fun vs H1 => ∀ x dx, H1 x = none → H1 dx = none → dx ≠ x →
  sp (.ref x :: (vs ++ dvs)) (upd (upd H1 dx (.own x)) x (.ins C dx [])) (fun v H2 => v = .non ∧ Q (.ref x) H2) (E σ)
section
variable {X : Cx} {x : Str} {C : Addr} {k j : Nat} {p pos : Pos} {e : Expr} {es : List Expr} {t : TA} {sp : Sp} {dvs : List V} {W : WX}
theorem pe_mkT (c : MakX X.prog X.w X.K X.mg X.base k x C sp dvs) (hr : Room j X.A) (hk : k + 1 ≤ j) (tk : Takes X W) (hg : Gl X x) (ha : PA X (e :: es) t)
    (hdb : (x == ("__debug__" : Str)) = false := by decide) (he : starEach (e :: es) X.env = (false, eval e X.env) :: starEach es X.env := by rfl) (hpl : (backTo pos (starEach es X.env)).any (·.1) = false := by rfl) :
    PE X (.Call (.Name x p) (e :: es) [] pos) (tMakeS C sp dvs (WE W) t) := by
  obtain ⟨f, fd, ps, ds, M, F, hm, b, d⟩ := c.ex
  refine ⟨fun pins s σ H Q I h => wpAny_Call_Name_kw (ld_glob I hg hm ?_ hdb)⟩
  refine PySem.W.callWith_K (h₀ := X.base) I.ok.mod.kin M.kp (thn (ha.run pos pins s σ H _ I h) fun us s1 ⟨vs, H1, I1, r, q⟩ => ⟨I1.kIn, ?_⟩) he hpl
  have q1 := q (s1.heap.objs.size + 1) s1.heap.objs.size (I1.hok.fresh (Nat.le_succ _)) (I1.hok.fresh (Nat.le_refl _)) (Nat.ne_of_lt (Nat.lt_succ_self _))
  have J := Inv.made (C := C) I1
  have rr : Vals (V.ref (s1.heap.objs.size + 1) :: (vs ++ dvs)) (Value.ref (s1.heap.objs.size + 1) :: (us ++ ds)) := .cons rfl (r.append d)
  have len : (Value.ref (s1.heap.objs.size + 1) :: us ++ ds).length = ps.length := (rr.length).symm.trans (F.len _ _ _ _ q1)
  have go := F.run (X.A.under (.builtin "type.__call__" ⟨.ref C :: us, []⟩)) X.stack _ _ ⟨Value.ref (s1.heap.objs.size + 1) :: us, []⟩ _ _ _ _ ((hr.mono hk).make C us []) (J.env0.make C us []) (b _ (Value.ref (s1.heap.objs.size + 1) :: us) J.kIn len) rr q1
  refine wpAny_call (make_map (f := f) I1.kIn M.makes M.init (beq_iff_eq.mp M.fn) (codeAny_mono go fun res s2 hres => ?_))
  match res, hres with
  | .error er, hres => exact passAt tk σ pins _ _ er s2 J hres
  | .ok (.ret u), hres =>
    obtain ⟨v, H2, J2, rv, ev, q2⟩ := J.after hres
    subst ev
    exact ⟨rv, V.ref (s1.heap.objs.size + 1), H2, J2, rfl, q2⟩
  | .ok .next, hres => exact False.elim hres
  | .ok .brk, hres => exact False.elim hres
  | .ok .cont, hres => exact False.elim hres
end
section
variable {P : Program} {w : World} {K : PySem.W.Frag} {mg : Str → Option Value} {base : Heap}
/-- a def that may raise, by its body -/
theorem fnR {x qual : Str} {st : Stmt} {f : Addr} {fd : FuncData} {N ps : List Str} {k : Nat} {sp : Sp} (F : C8.Fun K x qual st f fd) (S : FnScope N ps (C8.fnScope st)) (len : ∀ vs H Q E, sp vs H Q E → vs.length = ps.length)
    (hbody : ∀ (cdv : Value) (A : Around) (outer : List Env) (s : Shared) (H : Hp) (vs : List V) (Q : VK) (E : XK), Room k (A.deeper (envOfC qual (C8.fnScope st) s.heap.objs.size f cdv)) → sp vs H Q E →
      ∃ t, PSs (cxOf (L2.CX P w) P w K mg base N qual (C8.fnScope st) f cdv A outer s H E) (C8.fnBody st) t ∧ t { nx := fun _ H' => Q .non H', rt := Q } (start N vs) H) : FnOk P w K mg base (L2.CX P w) (k + 1) f fd ps sp := by
  obtain ⟨oc, od, dV, kV, doc, pm, an, cdv, ct, osl, rfl, lk, hcd⟩ := F.ex
  exact fn_of lk hcd S len fun A outer s H vs Q E hr hsp => hbody cdv A outer s H vs Q E hr hsp
end
end ExS

set_option maxRecDepth 100000
set_option maxHeartbeats 4000000
set_option pp.maxSteps 400
namespace U
open PySem PySem.Spec PyProof.Rows
open L2 hiding Fun CX0 E0 pass0 Fun.binds
open C8 Lx SX StX
theorem PsL.split {H : Hp} {qs : List Addr} {ps : List Pst} {x : Pst} (h : PsL H qs (ps ++ [x])) : ∃ qs' q, qs = qs' ++ [q] ∧ PsL H qs' ps ∧ PsA H q x := by
  obtain ⟨h1, h2⟩ := h
  have hn : qs ≠ [] := fun z => by
    rw [z, List.length_append] at h1
    simp only [List.length_cons, List.length_nil] at h1
    omega
  obtain ⟨qs', q, rfl⟩ : ∃ qs' q, qs = qs' ++ [q] := ⟨qs.dropLast, qs.getLast hn, (List.dropLast_concat_getLast hn).symm⟩
  have l1 : qs'.length = ps.length := by
    rw [List.length_append, List.length_append] at h1
    simp only [List.length_cons, List.length_nil] at h1
    omega
  refine ⟨qs', q, rfl, ⟨l1, fun i u y e1 e2 => ?_⟩, ?_⟩
  · have i1 := (List.getElem?_eq_some_iff.mp e1).1
    exact h2 i u y (by rw [List.getElem?_append_left i1]; exact e1) (by rw [List.getElem?_append_left (by omega)]; exact e2)
  · exact h2 qs'.length q x (by rw [List.getElem?_append_right (Nat.le_refl _), Nat.sub_self]; rfl) (by rw [l1, List.getElem?_append_right (Nat.le_refl _), Nat.sub_self]; rfl)
theorem sIx_m1 (k d : Nat) : HT.sIx (k + 1) d (some (-1)) = k := by
  unfold HT.sIx
  simp only []
  split <;> omega
theorem cutV_last (xs : List V) (v : V) : cutV (xs ++ [v]) none (some (-1)) = xs := by
  unfold cutV
  rw [HT.sIx_none]
  have e : HT.sIx (xs ++ [v]).length (xs ++ [v]).length (some (-1)) = xs.length := by
    unfold HT.sIx
    simp only [List.length_append, List.length_cons, List.length_nil]
    split <;> omega
  rw [e, List.drop_zero, Nat.sub_zero, List.take_left]
def spUndo (C : Addr) : Sp := fun vs H Q _ => ∃ (a r c : Addr) (S : Sta) (h : List Bool) (ps : List Pst), vs = [.ref a] ∧ LvP C H a r c S h ps ∧
  (ps = [] → ∀ H', Same H H' → Q (.bl false) H') ∧ ∀ ps' x, ps = ps' ++ [x] → ∀ H', SmB a H H' → LvP C H' a x.1 c x.2.1 x.2.2 ps' → Q (.bl true) H'
def clsM (f : List Bool) (ss : List Stf) (p s : List Bool) : List Bool → List (List Bool) → List (List Rd2)
  | _, [] => []
  | h, b :: bs => clM f ss p s h b :: clsM f ss p s (h ++ b) bs
theorem cls_snoc (f : List Bool) (ss : List Stf) (p s : List Bool) : ∀ (bs : List (List Bool)) (h b : List Bool), clsM f ss p s h (bs ++ [b]) = clsM f ss p s h bs ++ [clM f ss p s (h ++ bs.flatten) b]
  | [], h, b => by simp [clsM]
  | x :: bs, h, b => by
    show clM f ss p s h x :: clsM f ss p s (h ++ x) (bs ++ [b]) = clM f ss p s h x :: (clsM f ss p s (h ++ x) bs ++ [_])
    rw [cls_snoc f ss p s bs (h ++ x) b, List.flatten_cons, List.append_assoc]
theorem cls_len (f : List Bool) (ss : List Stf) (p s : List Bool) : ∀ (bs : List (List Bool)) (h : List Bool), (clsM f ss p s h bs).length = bs.length
  | [], _ => rfl
  | x :: bs, h => by
    show (clsM f ss p s (h ++ x) bs).length + 1 = _
    rw [cls_len f ss p s bs, List.length_cons]
def wdV (ws : List (List Bool)) : List V := ws.map fun w => V.str (W w)
theorem wdV_get {ws : List (List Bool)} {i : Nat} {x : V} (h : (wdV ws)[i]? = some x) : ∃ w, ws[i]? = some w ∧ x = .str (W w) := by
  unfold wdV at h
  rw [List.getElem?_map] at h
  obtain ⟨w, hw, rfl⟩ := Option.map_eq_some_iff.mp h
  exact ⟨w, hw, rfl⟩
theorem paired_snoc {α β : Type} {F : α → β → Prop} : ∀ {l : List α} {m : List β} {a : α} {b : β}, Paired F l m → F a b → Paired F (l ++ [a]) (m ++ [b])
  | _, _, _, _, .nil, h => .cons h .nil
  | _, _, _, _, .cons x r, h => .cons x (paired_snoc r h)
theorem paired_len {α β : Type} {F : α → β → Prop} : ∀ {l : List α} {m : List β}, Paired F l m → l.length = m.length
  | _, _, .nil => rfl
  | _, _, .cons _ t => by rw [List.length_cons, List.length_cons, paired_len t]
theorem FrU.nl' {H H' : Hp} {q : Addr} {rs : List Rd2} (h : FrU H q rs) (e : NL H H') : FrU H' q rs := by
  obtain ⟨ps, kb, h1, h2, h3⟩ := h
  exact ⟨ps, kb, e.tup h1, fun t ht => e.tup (h2 t ht), h3⟩
theorem StA.nl {H H' : Hp} {st : Addr} {S : Sta} {h : List Bool} (x : StA H st S h) (e : NL H H') : StA H' st S h := by
  obtain ⟨q, h1, h2⟩ := x
  exact ⟨q, e.tup h1, h2.nl' e⟩
theorem PsA.nl {H H' : Hp} {q : Addr} {x : Pst} (h : PsA H q x) (e : NL H H') : PsA H' q x := by
  obtain ⟨st, h1, h2⟩ := h
  exact ⟨st, e.tup h1, h2.nl e⟩
theorem LvP.nl {C : Addr} {H H' : Hp} {a r c : Addr} {S : Sta} {h : List Bool} {ps : List Pst} (x : LvP C H a r c S h ps) (e : NL H H') : LvP C H' a r c S h ps := by
  obtain ⟨dx, st, pa, qs, h1, h2, h3, h4⟩ := x
  exact ⟨dx, st, pa, qs, e.ins h1, h2.nl e, e.tup h3, h4.1, fun i q x e1 e2 => (h4.2 i q x e1 e2).nl e⟩
theorem LvP.ins {C : Addr} {H : Hp} {a r c : Addr} {S : Sta} {h : List Bool} {ps : List Pst} (x : LvP C H a r c S h ps) : ∃ dx st pa, H a = some (.ins C dx (lvF r c st pa)) := by
  obtain ⟨dx, st, pa, _, h1, _⟩ := x
  exact ⟨dx, st, pa, h1⟩
theorem RuAt.smb' {a C dx CR : Addr} {fs : List (Str × V)} {H H' : Hp} {m : Addr} {f : List Bool} {ss : List Stf} (h : RuAt CR H m f ss) (ha : H a = some (.ins C dx fs)) (hn : m ≠ a) (s : SmB a H H') : RuAt CR H' m f ss := by
  obtain ⟨d, t, ps, kb, h1, h2, h3, h4⟩ := h
  exact ⟨d, t, ps, kb, s _ _ h1 hn, s _ _ h2 (ne_of h2 ha (by intro z; cases z)), fun t ht => s _ _ (h3 t ht) (ne_of (h3 t ht) ha (by intro z; cases z)), h4⟩
theorem CkAt.smb' {a CK : Addr} {H H' : Hp} {c : Addr} {p s : List Bool} (h : CkAt CK H c p s) (hn : c ≠ a) (sm : SmB a H H') : CkAt CK H' c p s := by
  obtain ⟨d, h1⟩ := h
  exact ⟨d, sm _ _ h1 hn⟩
def spSeveral (C CR CK : Addr) : Sp := fun vs H Q _ => ∃ (a r c l : Addr) (f : List Bool) (ss : List Stf) (p s g h : List Bool) (ws : List (List Bool)) (F0 : List Rd2) (ps : List Pst), vs = [.ref a, .ref l] ∧ H l = some (.lst (wdV ws)) ∧ LvP C H a r c (stG F0 (stM f ss p s h)) (g ++ h) ps ∧ RuAt CR H r f ss ∧ r ≠ a ∧ CkAt CK H c p s ∧ c ≠ a ∧ p.length ≤ 1000 ∧ s.length + 1 = p.length ∧ f ≠ [] ∧ g.length + h.length + ws.flatten.length ≤ 10000 ∧ ws.length ≤ 1000 ∧ F0.length ≤ 10000 ∧ ps.length ≤ 10000 ∧
  ∀ q qs H', SmB a H H' → LvP C H' a r c (stG F0 (stM f ss p s (h ++ ws.flatten))) (g ++ (h ++ ws.flatten)) (ps ++ [(r, stG F0 (stM f ss p s h), g ++ h)]) → H' q = some (.tup (qs.map V.ref)) → Paired (fun q rs => FrU H' q rs) qs (clsM f ss p s h ws) → Q (.ref q) H'
section
variable {P : Program} {w : World} {K : PySem.W.Frag} {mg : Str → Option Value} {base : Heap}
theorem sc_Live_several : FnScope ["self", "words", "here", "found", "at", "bits", "error"] ["self", "words"] (fnScope s_Live_several) := fnScope_by (by decide +kernel)
theorem met_several {f C CR CK CW : Addr} {fd : FuncData} (F : C8.Fun K "several" "Live.several" s_Live_several f fd) (me : Meth K C "several" f) (b : Binds K fd ["self", "words"] []) (T : Tx mg) (LT : LvT K C) (g_InvalidWord : mg "InvalidWord" = some (.ref CW)) (c_is_sequence : Cal P w K mg base 1 "is_sequence" (spIsSeq K) []) (c_take : Met P w K mg base 6 C "take" (spTake C CR CK) []) : Met P w K mg base 7 C "several" (spSeveral C CR CK) [] := by
  refine met0 LT.cl me F b sc_Live_several (fun vs H Q E h => ?_) (fun cdv A outer s H vs Q E hr h => ?_)
  · obtain ⟨_, _, _, _, _, _, _, _, _, _, _, _, _, rfl, _⟩ := h; rfl
  · obtain ⟨a, r, c, l, fl, ss, p, st, g, h, ws, F0, ps, rfl, hl, hL, hR, ra, hC, ca, lp, ls, hf, lhb, lws, lF, hn, k⟩ := h
    refine ⟨_, (pss_cons (ps_if (pt_not (pt_val (pe_c c_is_sequence hr (by decide) rfl (pa_cons (pv 1) pa_nil)))) (pss_one ps_never) pss_nil)
    (pss_cons (ps_par (i := 2) (j := 3) (by rfl) sc_Live_several.nd rfl rfl (by decide) rfl rfl (pa_cons (pe_tup (pa_cons (pe_fld (pv 0) rfl) (pa_cons (pe_fld (pv 0) rfl) pa_nil))) (pa_cons (pe_lst pa_nil) pa_nil)) (by rfl))
    (pss_cons (ps_for PassesOwn.never rfl (pi_enum (by rfl) T.b_enumerate (pa_cons (pv 1) pa_nil)) (pg_tup rfl (pgs_cons (pg_name (i := 4) sc_Live_several.nd rfl (.inl rfl)) (pgs_cons (pg_name (i := 5) sc_Live_several.nd rfl (.inl rfl)) pgs_nil)))
    (pss_one (ps_try_as (i := 6) rfl rfl sc_Live_several.nd rfl rfl ⟨rfl, by decide, .inl g_InvalidWord⟩ ExS.takes0 (fun W pn xe tk po => (pss_one (ps_expr (show PE _ _ (tBM K _ _ _ _) from (pe_bm PySem.F.plainAttrs_list PySem.F.slot_list_append PySem.F.type_list_append mt_append (pv 3) (pa_cons (pe_mt (pl := _) c_take hr (by decide) (pv 0) (pa_cons (pv 5) pa_nil)) pa_nil)))))) (fun a oe cls d pn zc zf => pss_never))))
    (pss_cons (ps_fld (pv 0) (pe_tup (pa_star (pe_fld (pv 0) rfl) (pa_cons (pv 2) pa_nil))) rfl)
    (pss_one (ps_ret (pe_callTy call_tuple_of (by rfl) T.b_tuple (by decide +kernel) (pa_cons (pv 3) pa_nil)))))))), ?_⟩
    refine ⟨_, rfl, l, _, rfl, .inl (SqL.of hl), fun H1 s1 => ⟨_, rfl, iteF ?_⟩⟩
    have hL1 := hL.same s1
    have hl1 := s1 _ _ hl
    have hR1 := hR.same s1
    have hC1 := hC.same s1
    obtain ⟨dx, sa, pa, qs, h1, h2, h3, h4⟩ := id hL1
    refine ⟨_, rfl, a, C, dx, _, _, rfl, h1, LT.cl, LT.nR, lv_rule _ _ _ _, _, rfl, a, C, dx, _, _, rfl, h1, LT.cl, LT.nS, lv_state _ _ _ _, by show 2 ≤ sizeLine; decide, fun hh nhh => ?_⟩
    have shh := same_upd (o := .tup [.ref r, .ref sa]) nhh
    have ehh : upd H1 hh (.tup [.ref r, .ref sa]) hh = some (.tup [.ref r, .ref sa]) := upd_same
    have hL2 := hL1.same shh
    have hl2 := shh _ _ hl1
    have hR2 := hR1.same shh
    have hC2 := hC1.same shh
    have h12 := shh _ _ h1
    have hps : PsA (upd H1 hh (.tup [.ref r, .ref sa])) hh (r, stG F0 (stM fl ss p st h), g ++ h) := ⟨sa, ehh, h2.same shh⟩
    have s02 := s1.trans shh
    generalize upd H1 hh (.tup [.ref r, .ref sa]) = H2 at shh ehh hL2 hl2 hR2 hC2 h12 hps s02
    refine ⟨by show 0 ≤ sizeLine; decide, fun fd' nfd => ⟨_, _, rfl, ?_⟩⟩
    have nfa : fd' ≠ a := fun z => by rw [z, h12] at nfd; cases nfd
    have sfd := same_upd (o := .lst []) nfd
    have hfd0 : upd H2 fd' (.lst []) fd' = some (.lst (([] : List Addr).map V.ref)) := upd_same
    have hl3 := sfd _ _ hl2
    have hL3 := hL2.same sfd
    have hR3 := hR2.same sfd
    have hC3 := hC2.same sfd
    have hps3 := hps.same sfd
    have s03 := s02.trans sfd
    have nfl : fd' ≠ l := fun z => by rw [z, hl2] at nfd; cases nfd
    have nfH : H fd' = none := s02.free nfd
    have h13 := sfd _ _ h12
    generalize upd H2 fd' (.lst []) = H3 at hfd0 hl3 hL3 hR3 hC3 hps3 s03 h13
    clear hL1 hl1 hR1 hC1 h1 h2 h3 h4 hL2 hl2 hR2 hC2 h12 hps shh ehh s02 nfd sfd s1 hL hR hC
    have nla : l ≠ a := ne_of hl3 h13 (by intro z; cases z)
    refine ⟨_, rfl, l, _, rfl, SqL.of hl3, ?_⟩
    refine for_it (walk_enum (xs := wdV ws)) (fun i σ H' => ∃ (v4 v5 v6 : Option V) (qs : List Addr), σ = [some (.ref a), some (.ref l), some (.ref hh), some (.ref fd'), v4, v5, v6] ∧ SmB a H H' ∧ LvP C H' a r c (stG F0 (stM fl ss p st (h ++ (ws.take i).flatten))) (g ++ (h ++ (ws.take i).flatten)) ps ∧ H' l = some (.lst (wdV ws)) ∧ H' fd' = some (.lst (qs.map V.ref)) ∧ Paired (fun q rs => FrU H' q rs) qs (clsM fl ss p st h (ws.take i)) ∧ RuAt CR H' r fl ss ∧ CkAt CK H' c p st ∧ PsA H' hh (r, stG F0 (stM fl ss p st h), g ++ h))
      ⟨_, _, _, [], rfl, SmB.of s03, by rw [List.take_zero, List.flatten_nil, List.append_nil]; exact hL3, hl3, hfd0, .nil, hR3, hC3, hps3⟩ (fun i σ H' _ h' => by obtain ⟨_, _, _, _, _, _, _, h', _⟩ := h'; exact SqL.of h') ?_ ?_
    · rintro i x σ H' H4 hi ⟨v4, v5, v6, qs, rfl, sm, hLi, hli, hfi, hPi, hRi, hCi, hpi⟩ ⟨T', y1, y2, rfl, nT, rfl, e1, e2⟩
      cases e1
      obtain ⟨b, hb, rfl⟩ := wdV_get e2
      have sT := same_upd (o := .tup [.int (i : Nat), .str (W b)]) nT
      have eT : upd H' T' (.tup [.int (i : Nat), .str (W b)]) T' = some (.tup [.int (i : Nat), .str (W b)]) := upd_same
      have sm4 := sm.trans (SmB.of sT)
      have hL4 := hLi.same sT
      have hl4 := sT _ _ hli
      have hf4 := sT _ _ hfi
      have hP4 : Paired (fun q rs => FrU (upd H' T' (.tup [.int (i : Nat), .str (W b)])) q rs) qs (clsM fl ss p st h (ws.take i)) := L2.Paired.mapP hPi fun _ _ z => z.same sT
      have hR4 := hRi.same sT
      have hC4 := hCi.same sT
      have hp4 := hpi.same sT
      generalize upd H' T' (.tup [.int (i : Nat), .str (W b)]) = H4 at eT sm4 hL4 hl4 hf4 hP4 hR4 hC4 hp4
      clear hLi hli hfi hPi hRi hCi hpi sm sT nT
      refine ⟨T', _, rfl, SqT.of eT, rfl, _, _, rfl, _, _, rfl, rfl, ?_⟩
      have etk : ws.take (i + 1) = ws.take i ++ [b] := by rw [List.take_add_one, hb]; rfl
      have efl : (ws.take (i + 1)).flatten = (ws.take i).flatten ++ b := by rw [etk, List.flatten_append]; simp
      have ltk : (ws.take i).flatten.length + b.length ≤ ws.flatten.length := by
        have h1 := congrArg (fun z => z.flatten.length) (List.take_append_drop (i + 1) ws)
        rw [List.flatten_append, efl, List.length_append, List.length_append] at h1
        omega
      obtain ⟨dx4, st4, pa4, g4⟩ := hL4.ins
      have lqs : qs.length ≤ 1000 := by
        have := paired_len hP4
        rw [cls_len, List.length_take] at this
        omega
      refine ⟨_, rfl, .inl ⟨rfl, _, SqL.of hf4⟩, _, rfl, a, dx4, _, rfl, g4, by rfl, _, rfl, a, r, c, fl, ss, p, st, g, h ++ (ws.take i).flatten, b, F0, ps, rfl, hL4, hR4, hC4, lp, ls, hf, by rw [List.length_append]; omega, lF, fun q H5 sm5 hL5 hq5 => ?_⟩
      have hf5 := sm5 _ _ hf4 nfa
      refine ⟨fd', _, _, rfl, rfl, hf5, by rw [List.length_map]; exact sl_lt (by omega), ?_⟩
      have nl6 := nl_upd (o := .lst (qs.map V.ref ++ [.ref q])) hf5
      have nlH : ∀ b' o, H b' = some o → b' ≠ a → upd H5 fd' (.lst (qs.map V.ref ++ [.ref q])) b' = some o := fun b' o e n => by
        rw [upd_ne (ne_of_none e nfH)]
        exact sm5 _ _ (sm4 _ _ e n) n
      refine ⟨_, _, _, qs ++ [q], rfl, nlH, ?_, ?_, by rw [upd_same, List.map_append]; rfl, ?_, ?_, ?_, ?_⟩
      · rw [efl, ← List.append_assoc h]
        exact hL5.nl nl6
      · rw [upd_ne (Ne.symm nfl)]
        exact sm5 _ _ hl4 nla
      · rw [etk, cls_snoc]
        exact paired_snoc (L2.Paired.mapP hP4 fun _ _ z => (z.smb g4 sm5).nl' nl6) (hq5.nl' nl6)
      · exact (hR4.smb' g4 ra sm5).nl nl6
      · exact (hC4.smb' ca sm5).nl nl6
      · exact (hp4.smb g4 sm5).nl nl6
    · rintro σ H' ⟨v4, v5, v6, qs, rfl, sm, hLi, hli, hfi, hPi, hRi, hCi, hpi⟩
      have el : (wdV ws).length = ws.length := List.length_map ..
      rw [el, List.take_length] at hLi hPi
      obtain ⟨dx4, st4, pa4, pq, g1, g2, g3, g4⟩ := id hLi
      refine ⟨_, rfl, a, C, dx4, _, _, rfl, g1, LT.cl, LT.nP, lv_past _ _ _ _, pa4, _, rfl, .inl (SqT.of g3), _, rfl, ?_⟩
      refine ⟨by rw [List.length_append, List.length_map, g4.1]; exact sl_len (by show ps.length + 1 ≤ 100000; omega), fun pn npn => ?_⟩
      have spn := same_upd (o := .tup (pq.map V.ref ++ [.ref hh])) npn
      have epn : upd H' pn (.tup (pq.map V.ref ++ [.ref hh])) pn = some (.tup ((pq ++ [hh]).map V.ref)) := by rw [upd_same, List.map_append]; rfl
      have g12 := spn _ _ g1
      refine ⟨_, rfl, a, C, dx4, _, rfl, g12, LT.cl, LT.nP, by show 4 < 1000; decide, ?_⟩
      rw [lv_put_past]
      have g22 := g2.same spn
      have g42 := (g4.snoc hpi).same spn
      have hf2 := spn _ _ hfi
      have hP2 : Paired (fun q rs => FrU (upd H' pn (.tup (pq.map V.ref ++ [.ref hh]))) q rs) qs (clsM fl ss p st h ws) := L2.Paired.mapP hPi fun _ _ z => z.same spn
      have smH := sm.trans (SmB.of spn)
      generalize upd H' pn (.tup (pq.map V.ref ++ [.ref hh])) = H5 at spn epn g12 g22 g42 hf2 hP2 smH
      have sm5 : SmB a H5 (upd H5 a (.ins C dx4 (lvF r c st4 pn))) := SmB.put
      have ea : upd H5 a (.ins C dx4 (lvF r c st4 pn)) a = some (.ins C dx4 (lvF r c st4 pn)) := upd_same
      generalize upd H5 a (.ins C dx4 (lvF r c st4 pn)) = H6 at sm5 ea
      have hf6 := sm5 _ _ hf2 nfa
      refine ⟨_, rfl, fd', _, rfl, .inl ⟨SqL.of hf6, fun u nu => ?_⟩⟩
      have su := same_upd (o := .tup (qs.map V.ref)) nu
      refine k u qs _ ((smH.trans sm5).trans (SmB.of su)) ?_ upd_same (L2.Paired.mapP hP2 fun _ _ z => (z.smb g12 sm5).same su)
      exact LvP.same ⟨dx4, st4, pn, pq ++ [hh], ea, g22.smb g12 sm5, sm5 _ _ epn (ne_of epn g12 (by intro z; cases z)), g42.smb g12 sm5⟩ su
end
end U

set_option maxRecDepth 100000
set_option maxHeartbeats 4000000
set_option pp.maxSteps 400
namespace U
open PySem PySem.Spec PyProof.Rows
open L2 hiding Fun CX0 E0 pass0 Fun.binds
open C8 Lx SX StX
def wordsM : Nat → List (List Bool)
  | 0 => [[]]
  | n + 1 => (wordsM n).flatMap fun w => [w ++ [false], w ++ [true]]
theorem words_len : ∀ n, (wordsM n).length = 2 ^ n
  | 0 => rfl
  | n + 1 => by
    have : (wordsM (n + 1)).length = 2 * (wordsM n).length := by
      show ((wordsM n).flatMap fun w => [w ++ [false], w ++ [true]]).length = _
      generalize wordsM n = l
      induction l with
      | nil => rfl
      | cons x r ih => rw [List.flatMap_cons, List.length_append, ih, List.length_cons]; simp only [List.length_cons, List.length_nil]; omega
    rw [this, words_len n, Nat.pow_succ]
    omega
theorem words_size : ∀ {n : Nat} {w : List Bool}, w ∈ wordsM n → w.length = n
  | 0, w, h => by
    rw [List.mem_singleton.mp h]
    rfl
  | n + 1, w, h => by
    obtain ⟨v, hv, hw⟩ := List.mem_flatMap.mp h
    have := words_size hv
    simp only [List.mem_cons, List.not_mem_nil, or_false] at hw
    rcases hw with rfl | rfl <;> simp [this]
theorem words_filter : ∀ {n : Nat} {c : List Bool}, c.length = n → (wordsM n).filter (fun w => decide (w = c)) = [c]
  | 0, c, h => by
    have : c = [] := List.length_eq_zero_iff.mp h
    subst this
    rfl
  | n + 1, c, h => by
    obtain ⟨d, b, rfl⟩ : ∃ d b, c = d ++ [b] := by
      have hn : c ≠ [] := fun z => by rw [z] at h; cases h
      exact ⟨c.dropLast, c.getLast hn, (List.dropLast_concat_getLast hn).symm⟩
    have hd : d.length = n := by rw [List.length_append] at h; simp only [List.length_cons, List.length_nil] at h; omega
    have ih := words_filter hd
    show ((wordsM n).flatMap fun w => [w ++ [false], w ++ [true]]).filter (fun w => decide (w = d ++ [b])) = _
    have key : ∀ l : List (List Bool), (l.flatMap fun w => [w ++ [false], w ++ [true]]).filter (fun w => decide (w = d ++ [b])) = (l.filter (fun w => decide (w = d))).map (· ++ [b]) := by
      intro l
      induction l with
      | nil => rfl
      | cons x r ih =>
        rw [List.flatMap_cons, List.filter_append, ih]
        have e2 : ([x ++ [false], x ++ [true]]).filter (fun w => decide (w = d ++ [b])) = if x = d then [d ++ [b]] else [] := by
          by_cases e : x = d
          · subst e
            cases b <;> simp [List.filter_cons]
          · have e1 : ∀ z : Bool, decide (x ++ [z] = d ++ [b]) = false := fun z => decide_eq_false fun q => e (List.append_inj_left' q rfl)
            rw [if_neg e, List.filter_cons, e1, List.filter_cons, e1]
            rfl
        rw [e2]
        by_cases e : x = d
        · subst e
          rw [if_pos rfl]
          simp [List.filter_cons]
        · rw [if_neg e]
          simp [List.filter_cons, e]
    rw [key, ih]
    rfl
def strsV (ls : List (List Bool)) : List V := (ls.map W).map V.str
theorem strsV_len (ls : List (List Bool)) : (strsV ls).length = ls.length := by unfold strsV; rw [List.length_map, List.length_map]
theorem strsV_app (a b : List (List Bool)) : strsV (a ++ b) = strsV a ++ strsV b := by unfold strsV; simp
theorem strsV_get {ls : List (List Bool)} {i : Nat} {x : V} (h : (strsV ls)[i]? = some x) : ∃ w, ls[i]? = some w ∧ x = .str (W w) := by
  unfold strsV at h
  rw [List.getElem?_map, List.getElem?_map] at h
  cases e : ls[i]? with
  | none => rw [e] at h; cases h
  | some w => rw [e] at h; exact ⟨w, rfl, (Option.some.inj h).symm⟩
def spWords : Sp := fun vs H Q _ => ∃ n : Nat, vs = [.int n] ∧ n ≤ 10 ∧ ∀ l H', H l = none → Same H H' → H' l = some (.lst (strsV (wordsM n))) → Q (.ref l) H'
def spLBits : Sp := fun vs H Q _ => ∃ (t : Addr) (p s m : List Bool), vs = [.ref t, .str (W m)] ∧ H t = some (.tup [.str (W p), .str (W s)]) ∧ CkOk p s ∧ s.length ≤ 10 ∧ m.length ≤ 900 ∧
  ∀ H', Same H H' → Q (.str (W (bitsM p s m))) H'
section
variable {P : Program} {w : World} {K : PySem.W.Frag} {mg : Str → Option Value} {base : Heap}
theorem sc_l_words : FnScope ["_law_size", "_law_found", "_law_turn_here", "_law_longer", "_law_one"] ["_law_size"] (fnScope s_l_words) := fnScope_by (by decide +kernel)
theorem cal_l_words {f : Addr} {fd : FuncData} (F : Def K mg "_law_words" s_l_words f fd) (b : Binds K fd ["_law_size"] []) (T : Tx mg) : Cal P w K mg base 1 "_law_words" spWords [] := by
  refine cal0 F b .nil sc_l_words (fun vs H Q E h => ?_) (fun cdv A outer s H vs Q E hr h => ?_)
  · obtain ⟨_, rfl, _⟩ := h; rfl
  · obtain ⟨n, rfl, hn, k⟩ := h
    refine ⟨_, (pss_cons (ps_set (i := 1) sc_l_words.nd rfl (.inl rfl) (pe_lst (pa_cons pe_str pa_nil)))
    (pss_cons (ps_for PassesOwn.never rfl (pi_range1 (by rfl) T.b_range (pa_cons (pv 0) pa_nil)) (pg_name (i := 2) sc_l_words.nd rfl (.inl rfl))
    (pss_cons (ps_set (i := 3) sc_l_words.nd rfl (.inl rfl) (pe_lst pa_nil))
    (pss_cons (ps_for PassesOwn.never rfl (pi_list (pv 1)) (pg_name (i := 4) sc_l_words.nd rfl (.inl rfl))
    (pss_one (ps_expr (pe_bm PySem.F.plainAttrs_list PySem.F.slot_list_extend PySem.F.type_list_extend mt_extend (pv 3) (pa_cons (pe_lst (pa_cons (pe_op op_add_str (pv 4) pe_str) (pa_cons (pe_op op_add_str (pv 4) pe_str) pa_nil))) pa_nil)))))
    (pss_one (ps_set (i := 1) sc_l_words.nd rfl (.inl rfl) (pv 3))))))
    (pss_one (ps_ret (pv 1))))), ?_⟩
    refine ⟨by show 1 ≤ sizeLine; decide, fun q nq => ?_⟩
    refine ⟨_, rfl, _, rfl, by omega, by omega, ?_⟩
    refine for_it (walk_range (lo := 0) (n := (n : Int).toNat)) (fun i σ H2 => ∃ (l : Addr) (v2 v3 v4 : Option V), σ = [some (.int n), some (.ref l), v2, v3, v4] ∧ H l = none ∧ Same H H2 ∧ H2 l = some (.lst (strsV (wordsM i))))
      ⟨q, _, _, _, rfl, nq, same_upd nq, by rw [upd_same]; show some (HO.lst [V.str ""]) = _; rw [W_nil]; rfl⟩ (fun _ _ _ _ _ => trivial) ?_ ?_
    · rintro i x σ H2' H2 hi ⟨l, v2, v3, v4, rfl, nl, s2, hl⟩ ⟨rfl, rfl⟩
      refine ⟨Nat.zero_le _, fun q2 nq2 => ?_⟩
      have s3 := s2.trans (same_upd (o := .lst []) nq2)
      have nql : q2 ≠ l := fun z => by rw [z, hl] at nq2; cases nq2
      have hl3 : upd H2 q2 (.lst []) l = some (.lst (strsV (wordsM i))) := by rw [upd_ne nql.symm]; exact hl
      have hq3 : upd H2 q2 (.lst []) q2 = some (.lst (strsV (((wordsM i).take 0).flatMap fun w => [w ++ [false], w ++ [true]]))) := upd_same
      generalize upd H2 q2 (.lst []) = H3 at s3 hl3 hq3
      have wl := words_len i
      have wb : 2 ^ i ≤ 2 ^ 10 := Nat.pow_le_pow_right (by decide) (by omega)
      refine ⟨_, rfl, l, rfl, ⟨_, SqL.of hl3⟩, for_it (walk_list (K := K) (a := l) (xs := strsV (wordsM i))) (fun j σ H4 => ∃ v4 : Option V, σ = [some (.int n), some (.ref l), some (.int (0 + (i : Int))), some (.ref q2), v4] ∧ Same H H4 ∧ H4 l = some (.lst (strsV (wordsM i))) ∧ H4 q2 = some (.lst (strsV (((wordsM i).take j).flatMap fun w => [w ++ [false], w ++ [true]]))))
        ⟨_, rfl, s3, hl3, hq3⟩ (fun j σ H4 _ ⟨_, _, _, h, _⟩ => SqL.of h) ?_ ?_⟩
      · rintro j y σ H4' H4 hj ⟨v4, rfl, s4, hl4, hq4⟩ ⟨rfl, hy⟩
        obtain ⟨u, hu, rfl⟩ := strsV_get hy
        have ul : u.length = i := words_size (List.mem_of_getElem? hu)
        have lu : (W u).length + 1 ≤ sizeLine := by rw [W_len]; exact sl_len (by omega)
        have l1 : ("1" : Str).length = 1 := by decide +kernel
        have l0 : ("0" : Str).length = 1 := by decide +kernel
        refine ⟨_, rfl, .inl ⟨rfl, _, SqL.of hq4⟩, _, rfl, _, _, rfl, rfl, by rw [l0]; exact lu, _, rfl, _, _, rfl, rfl, by rw [l1]; exact lu, by show 2 ≤ sizeLine; decide, fun z nz => ?_⟩
        have nzq : z ≠ q2 := fun e => by rw [e, hq4] at nz; cases nz
        have hq5 : upd H4 z (.lst [.str (W u ++ "0"), .str (W u ++ "1")]) q2 = some (.lst (strsV (((wordsM i).take j).flatMap fun w => [w ++ [false], w ++ [true]]))) := by rw [upd_ne nzq.symm]; exact hq4
        have jl : (((wordsM i).take j).flatMap fun w => [w ++ [false], w ++ [true]]).length ≤ 2 * 2 ^ 10 := by
          have e : ∀ ls : List (List Bool), (ls.flatMap fun w => [w ++ [false], w ++ [true]]).length = 2 * ls.length := by
            intro ls
            induction ls with
            | nil => rfl
            | cons x r ih => rw [List.flatMap_cons, List.length_append, ih, List.length_cons]; simp only [List.length_cons, List.length_nil]; omega
          rw [e, List.length_take]
          omega
        refine ⟨q2, z, _, _, rfl, rfl, hq5, upd_same, ?_, ?_⟩
        · rw [strsV_len]; exact sl_len (by show _ + 2 ≤ 100000; omega)
        · refine ⟨_, rfl, ?_, ?_, ?_⟩
          · intro c o e
            have nc : c ≠ q2 := ne_of_none e (s2.free nq2)
            rw [upd_ne nc]
            exact same_upd nz _ _ (s4 _ _ e)
          · rw [upd_ne nql.symm]; exact same_upd nz _ _ hl4
          · rw [upd_same, List.take_add_one, hu, List.flatMap_append, strsV_app]
            show some (HO.lst (_ ++ [V.str (W u ++ "0"), V.str (W u ++ "1")])) = _
            rw [W_0, W_1, W_cat, W_cat]
            rfl
      · rintro σ H4 ⟨v4, rfl, s4, hl4, hq4⟩
        rw [strsV_len, List.take_length] at hq4
        exact ⟨_, rfl, q2, _, _, _, rfl, s2.free nq2, s4, hq4⟩
    · rintro σ H2 ⟨l, v2, v3, v4, rfl, nl, s2, hl⟩
      exact ⟨_, rfl, k l H2 nl s2 hl⟩
theorem sc_l_bits_for : FnScope ["_law_check_here", "_law_bits", "_law_found", "_law_one"] ["_law_check_here", "_law_bits"] (fnScope s_l_bits_for) := fnScope_by (by decide +kernel)
theorem cal_l_bits_for {f : Addr} {fd : FuncData} (F : Def K mg "_law_bits_for" s_l_bits_for f fd) (b : Binds K fd ["_law_check_here", "_law_bits"] []) (T : Tx mg) (c_l_words : Cal P w K mg base 1 "_law_words" spWords []) (c_l_right : Cal P w K mg base 2 "_law_right" spRight []) :
    Cal P w K mg base 3 "_law_bits_for" spLBits [] := by
  refine cal0 F b .nil sc_l_bits_for (fun vs H Q E h => ?_) (fun cdv A outer s H vs Q E hr h => ?_)
  · obtain ⟨_, _, _, _, rfl, _⟩ := h; rfl
  · obtain ⟨t, p, st, m, rfl, ht, ok, hs, hm, k⟩ := h
    refine ⟨_, (pss_cons (ps_set (i := 2) sc_l_bits_for.nd rfl (.inl rfl) (pe_c c_l_words hr (by decide) rfl (pa_cons (pe_callB call_len_str (by rfl) T.b_len (by decide +kernel) (pa_cons (pe_ix ix_tup (pv 0) pe_int (fun _ _ => rfl)) pa_nil)) pa_nil)))
    (pss_one (ps_ret (pe_ix ix_list (pe_lc (own := [("_law_one", 3)]) (g := gName 3) (by rfl) sc_l_bits_for.nd (pi_list (pv 2)) (blkOk_by (own := [("_law_one", 3)]) (N := ["_law_check_here", "_law_bits", "_law_found", "_law_one"]) (sc := fnScope s_l_bits_for) (by decide +kernel)) (fun _ _ _ _ _ => (pg_name (i := 3) sc_l_bits_for.nd rfl (.inl rfl))) (fun _ _ _ _ _ => (pts_one (pt_val (pe_c c_l_right hr (by decide) rfl (pa_cons (pv 0) (pa_cons (pe_op op_add_str (pv 1) (pv 3)) pa_nil)))))) (fun _ _ _ _ _ => (pv 3))) pe_int (fun _ _ => rfl))))), ?_⟩
    have hlen := ok.len
    refine ⟨_, rfl, t, _, _, _, rfl, rfl, SqT.of ht, atI_nat (j := 1) rfl, _, rfl, by rw [W_len]; exact sl_len (by omega), st.length, (by show [V.int ((W st).length : Nat)] = _; rw [W_len]), hs, fun l H1 nl s1 hl => ?_⟩
    refine ⟨_, rfl, l, rfl, ⟨_, SqL.of hl⟩, fun D nD => ?_⟩
    have wb : 2 ^ st.length ≤ 2 ^ 10 := Nat.pow_le_pow_right (by decide) hs
    have wl := words_len st.length
    refine lc_it (walk_list (K := K) (a := l) (xs := strsV (wordsM st.length))) (fun i H2 => Same H1 H2 ∧ H2 D = some (.lst (strsV (((wordsM st.length).take i).filter fun w => decide (w = bitsM p st m))))) ⟨same_upd nD, upd_same⟩ (fun i H2 _ h => SqL.of (h.1 _ _ hl)) ?_ ?_
    · rintro i x H2' H2 hi ⟨s2, hD⟩ ⟨rfl, hx⟩
      obtain ⟨u, hu, rfl⟩ := strsV_get hx
      have ul : u.length = st.length := words_size (List.mem_of_getElem? hu)
      refine ⟨rfl, ?_⟩
      refine ⟨_, rfl, _, rfl, _, rfl, _, _, rfl, rfl, by rw [W_len, W_len]; exact sl_len (by omega), ?_⟩
      rw [W_cat]
      refine ⟨t, p, st, m ++ u, rfl, s2 _ _ (s1 _ _ ht), ok, by omega, by rw [List.length_append]; omega, fun H3 s3 => ⟨_, rfl, ?_⟩⟩
      rw [goodM_tail hlen ul]
      have s3' := s2.trans s3
      have eN : ((wordsM st.length).take (i + 1)).filter (fun w => decide (w = bitsM p st m)) = ((wordsM st.length).take i).filter (fun w => decide (w = bitsM p st m)) ++ (if decide (u = bitsM p st m) then [u] else []) := by
        rw [List.take_add_one, hu, List.filter_append]
        congr 1
        show [u].filter _ = _
        rw [List.filter_cons]
        rfl
      refine ite2 (fun h1 => ?_) (fun h1 => ?_)
      · refine ⟨_, rfl, _, s3 _ _ hD, ?_, ?_, ?_⟩
        · rw [strsV_len]
          have := List.length_filter_le (fun w => decide (w = bitsM p st m)) ((wordsM st.length).take i)
          rw [List.length_take] at this
          exact sl_lt (by omega)
        · intro c o e
          rw [upd_ne (ne_of_none e nD)]
          exact s3' _ _ e
        · rw [upd_same, eN, if_pos h1, strsV_app]
          rfl
      · refine ⟨s3', ?_⟩
        rw [eN, if_neg h1, List.append_nil]
        exact s3 _ _ hD
    · rintro H2 ⟨s2, hD⟩
      rw [strsV_len, List.take_length, words_filter (bitsM_len hlen m)] at hD
      exact ⟨D, _, _, _, rfl, rfl, SqL.of hD, atI_nat (j := 0) rfl, k H2 (s1.trans s2)⟩
end
end U

set_option maxRecDepth 100000
set_option maxHeartbeats 400000
/-! a sorted row of texts is one -/
namespace U
open PySem PySem.Spec PyProof.Rows
theorem ltCps_iff : ∀ {a b : List Nat}, ltCps a b = true ↔ a < b
  | [], [] => by simp [ltCps]
  | [], _ :: _ => by simp [ltCps]
  | _ :: _, [] => by simp [ltCps]
  | a :: r, b :: t => by
    unfold ltCps
    rw [Bool.or_eq_true, Bool.and_eq_true, decide_eq_true_iff, beq_iff_eq, ltCps_iff (a := r) (b := t), List.cons_lt_cons_iff]
theorem rising_le : ∀ {l : List Str} {p : Str}, risingS p l = true → (p :: l).Pairwise fun a b => a.cps.toList ≤ b.cps.toList
  | [], p, _ => List.pairwise_singleton _ _
  | x :: r, p, h => by
    have h' : (!ltCps x.cps.toList p.cps.toList && risingS x r) = true := h
    rw [Bool.and_eq_true, Bool.not_eq_true'] at h'
    have ih := rising_le h'.2
    have hx : p.cps.toList ≤ x.cps.toList := List.not_lt.mp fun z => by rw [ltCps_iff.mpr z] at h'; cases h'.1
    refine List.pairwise_cons.mpr ⟨fun y hy => ?_, ih⟩
    rcases List.mem_cons.mp hy with rfl | hy
    · exact hx
    · exact List.le_trans hx ((List.pairwise_cons.mp ih).1 y hy)
theorem sorted_le : ∀ {l : List Str}, sortedS l = true → l.Pairwise fun a b => a.cps.toList ≤ b.cps.toList
  | [], _ => List.Pairwise.nil
  | _ :: _, h => rising_le h
theorem le_one : ∀ {ss ts : List Str}, ss.Perm ts → (ss.Pairwise fun a b => a.cps.toList ≤ b.cps.toList) → (ts.Pairwise fun a b => a.cps.toList ≤ b.cps.toList) → ss = ts
  | [], ts, p, _, _ => (List.Perm.nil_eq p)
  | a :: l, [], p, _, _ => absurd (List.Perm.eq_nil p) (List.cons_ne_nil _ _)
  | a :: l, b :: m, p, h1, h2 => by
    obtain ⟨a1, a2⟩ := List.pairwise_cons.mp h1
    obtain ⟨b1, b2⟩ := List.pairwise_cons.mp h2
    have e : a = b := by
      rcases List.mem_cons.mp (p.mem_iff.mp (List.mem_cons_self (a := a) (l := l))) with z | z
      · exact z
      · rcases List.mem_cons.mp (p.mem_iff.mpr (List.mem_cons_self (a := b) (l := m))) with y | y
        · exact y.symm
        · have e := List.le_antisymm (a1 b y) (b1 a z)
          cases a; cases b
          congr 1
          exact Array.ext' e
    subst e
    rw [le_one (List.Perm.cons_inv p) a2 b2]
theorem sortedS_one {ss ts : List Str} (p : ss.Perm ts) (h1 : sortedS ss = true) (h2 : sortedS ts = true) : ss = ts := le_one p (sorted_le h1) (sorted_le h2)
end U

set_option maxRecDepth 100000
set_option maxHeartbeats 4000000
set_option pp.maxSteps 400
namespace U
open PySem PySem.Spec PyProof.Rows
open L2 hiding Fun CX0 E0 pass0 Fun.binds
open C8 Lx SX StX
def lkV (ws : List (List Bool)) : List V := ws.map fun w => V.str (W w)
def spLOpen : Sp := fun vs H Q _ => ∃ (t c : Addr) (f : List Bool) (ss : List Stf) (p s l : List Bool), vs = [.ref t, .ref c, .str (W l)] ∧ Told H t f ss ∧ H c = some (.tup [.str (W p), .str (W s)]) ∧ CkOk p s ∧ s.length ≤ 100 ∧ l.length ≤ 800 ∧ f ≠ [] ∧ f.length ≤ 1000 ∧ ss.length ≤ 1000 ∧ (∀ s ∈ ss, s.1 ≠ [] ∧ s.1.length ≤ 1000) ∧ OkN 39 ss ∧
  ∀ u q H', Same H H' → H' u = some (.tup [.bl (stM f ss p s l).1, .ref q, .str (W (if (stM f ss p s l).1 then (stM f ss p s l).2.1 else []))]) → FrU H' q (stM f ss p s l).2.2 → Q (.ref u) H'
def spPieces : Sp := fun vs H Q _ => ∃ (b : Addr) (l : List Bool), vs = [.ref b, .str (W l)] ∧ Box H b ∧ l.length ≤ 1000 ∧
  ∀ (q : Addr) (ws : List (List Bool)) H', Up b H H' → q ≠ b → H q = none → H' q = some (.lst (lkV ws)) → ws.flatten = l → ws.length ≤ 13 → ws ≠ [] → Q (.ref q) H'
def spStream : Sp := fun vs H Q _ => ∃ (b t c : Addr) (f : List Bool) (ss : List Stf) (p s : List Bool) (n : Nat), vs = [.ref b, .ref t, .ref c, .int n] ∧ Box H b ∧ Told H t f ss ∧ H c = some (.tup [.str (W p), .str (W s)]) ∧ CkOk p s ∧ s.length ≤ 3 ∧ 0 < f.length ∧ f.length ≤ 6 ∧ ss.length ≤ 1000 ∧ (∀ s ∈ ss, s.1.length ≤ 3) ∧ OkN 39 ss ∧ n ≤ 4 ∧
  ∀ (l : List Bool) H', l.length ≤ 800 → Up b H H' → Q (.str (W l)) H'
theorem mul_01 {l : List Bool} {d : Int} (h0 : 0 ≤ d) (h2 : d < 2) : ∃ x : List Bool, Txt.mul (W l) d = W x ∧ x.length ≤ l.length := by
  have : d = 0 ∨ d = 1 := by omega
  rcases this with rfl | rfl
  · exact ⟨[], by rw [← W_nil]; rfl, Nat.zero_le _⟩
  · refine ⟨l, ?_, Nat.le_refl _⟩
    have := mul_W (l := l) (n := 1) (by decide)
    rw [show ((1 : Nat) : Int) = 1 from rfl] at this
    rw [this]
    simp
theorem flat_len {ws : List (List Bool)} {w : List Bool} (h : w ∈ ws) : w.length ≤ ws.flatten.length := by
  induction ws with
  | nil => cases h
  | cons x r ih =>
    rw [List.flatten_cons, List.length_append]
    rcases List.mem_cons.mp h with rfl | h
    · omega
    · have := ih h; omega
section
variable {P : Program} {w : World} {K : PySem.W.Frag} {mg : Str → Option Value} {base : Heap}
theorem sc_l_open : FnScope ["_law_rule_here", "_law_check_here", "_law_line", "_law_at", "_law_found", "_law_rest_here"] ["_law_rule_here", "_law_check_here", "_law_line"] (fnScope s_l_open) := fnScope_by (by decide +kernel)
theorem cal_l_open {f : Addr} {fd : FuncData} (F : Def K mg "_law_open" s_l_open f fd) (b : Binds K fd ["_law_rule_here", "_law_check_here", "_law_line"] []) (T : Tx mg) (c_l_first : Cal P w K mg base 1 "_law_first" spFirst []) (c_l_cut : Cal P w K mg base 7 "_law_cut" spLCut []) : Cal P w K mg base 8 "_law_open" spLOpen [] := by
  refine cal0 F b .nil sc_l_open (fun vs H Q E h => ?_) (fun cdv A outer s H vs Q E hr h => ?_)
  · obtain ⟨_, _, _, _, _, _, _, rfl, _⟩ := h; rfl
  · obtain ⟨t, c, fl, ss, p, st, l, rfl, told, hc, ck, ls, ll, hf, lf, few, hs, hO, k⟩ := h
    refine ⟨_, (pss_cons (ps_set (i := 3) sc_l_open.nd rfl (.inl rfl) (pe_c c_l_first hr (by decide) rfl (pa_cons (pv 2) (pa_cons (pe_ix ix_tup (pv 0) pe_int (fun _ _ => rfl)) pa_nil))))
    (pss_cons (ps_if (pt_cmpR op_isN (pv 3) pe_non (nomark _)) (pss_one (ps_ret (pe_tup (pa_cons pe_bl (pa_cons (pe_tup pa_nil) (pa_cons pe_str pa_nil)))))) pss_nil)
    (pss_cons (ps_asg (pe_c c_l_cut hr (by decide) rfl (pa_cons (pv 0) (pa_cons (pv 1) (pa_cons (pe_slice sl_txt (pv 2) (po_some (pe_op op_add (pv 3) (pe_callB call_len_str (by rfl) T.b_len (by decide +kernel) (pa_cons (pe_ix ix_tup (pv 0) pe_int (fun _ _ => rfl)) pa_nil)))) po_none) pa_nil)))) (pg_tup rfl (pgs_cons (pg_name (i := 4) sc_l_open.nd rfl (.inl rfl)) (pgs_cons (pg_name (i := 5) sc_l_open.nd rfl (.inl rfl)) pgs_nil))))
    (pss_one (ps_ret (pe_tup (pa_cons pe_bl (pa_cons (pv 4) (pa_cons (pv 5) pa_nil))))))))), ?_⟩
    obtain ⟨lk, ht, _⟩ := told.stl
    refine ⟨_, rfl, _, rfl, t, _, _, _, rfl, rfl, SqT.of ht, atI_nat (j := 0) rfl, l, fl, rfl, by omega, lf, fun H1 s1 => ?_⟩
    refine ⟨_, rfl, rfl, _, rfl, ?_⟩
    cases e : posM l fl with
    | none =>
      refine iteDT rfl ?_
      refine ⟨Nat.zero_le _, fun q nq => ⟨by show 3 ≤ sizeLine; decide, fun u nu => ?_⟩⟩
      have sq := same_upd (o := .tup []) nq
      have su := same_upd (o := .tup [.bl false, .ref q, .str ""]) nu
      refine k u q _ ((s1.trans sq).trans su) ?_ ?_
      · rw [upd_same, st_none e, W_nil]; rfl
      · rw [st_none e]
        exact ⟨[], fun _ => ("", none), su _ _ upd_same, (fun _ h => nomatch h), rfl⟩
    | some i =>
      refine iteDF nofun ?_
      obtain ⟨h6, h7⟩ := posM_lt hf e
      have ht1 := s1 _ _ ht
      have wfl : (W fl).length = fl.length := W_len fl
      have wl : (W l).length = l.length := W_len l
      have es : Txt.slice (W l) (some (((i : Nat) : Int) + ((W fl).length : Nat))) none = W (l.drop (i + fl.length)) := by
        rw [wfl, W_drop (by omega)]
        congr 2
      refine ⟨_, rfl, _, rfl, _, rfl, _, rfl, _, rfl, t, _, _, _, rfl, rfl, SqT.of ht1, atI_nat (j := 0) rfl, _, rfl, by rw [wfl]; exact sl_len (by omega), _, _, rfl, rfl, _, rfl, _, rfl, by rw [wl]; exact sl_len (by omega), ?_⟩
      rw [es]
      refine ⟨t, c, fl, ss, p, st, l.drop (i + fl.length), rfl, told.same s1, s1 _ _ hc, ck, ls, by rw [List.length_drop]; omega, hf, lf, few, hs, hO, fun u2 q2 H2 s2 hu2 hq2 => ?_⟩
      refine ⟨u2, _, rfl, SqT.of hu2, rfl, _, _, rfl, _, _, rfl, rfl, ?_⟩
      refine ⟨_, rfl, _, rfl, by show 3 ≤ sizeLine; decide, fun u3 nu3 => ?_⟩
      have su := same_upd (o := .tup [.bl true, .ref q2, .str (W (cutF fl (l.drop (i + fl.length)).length (l.drop (i + fl.length))).2)]) nu3
      refine k u3 q2 _ ((s1.trans s2).trans su) ?_ ?_
      · rw [upd_same, st_some e]; rfl
      · rw [st_some e]
        exact hq2.same su
theorem sc_l_pieces : FnScope ["_law_box", "_law_line", "_law_found", "_law_rest_here", "_law_turn_here", "_law_size"] ["_law_box", "_law_line"] (fnScope s_l_pieces) := fnScope_by (by decide +kernel)
theorem cal_l_pieces {f : Addr} {fd : FuncData} (F : Def K mg "_law_pieces" s_l_pieces f fd) (b : Binds K fd ["_law_box", "_law_line"] []) (T : Tx mg) (c_l_one_of : Cal P w K mg base 2 "_law_one_of" spOneOf []) : Cal P w K mg base 3 "_law_pieces" spPieces [] := by
  refine cal0 F b .nil sc_l_pieces (fun vs H Q E h => ?_) (fun cdv A outer s H vs Q E hr h => ?_)
  · obtain ⟨_, _, rfl, _⟩ := h; rfl
  · obtain ⟨bx, l, rfl, hb, ll, k⟩ := h
    refine ⟨_, (pss_cons (ps_par (i := 2) (j := 3) (by rfl) sc_l_pieces.nd rfl rfl (by decide) rfl rfl (pa_cons (pe_lst pa_nil) (pa_cons (pv 1) pa_nil)) (by rfl))
    (pss_cons (ps_for PassesOwn.never rfl (pi_range1 (by rfl) T.b_range (pa_cons pe_int pa_nil)) (pg_name (i := 4) sc_l_pieces.nd rfl (.inl rfl))
    (pss_cons (ps_set (i := 5) sc_l_pieces.nd rfl (.inl rfl) (pe_c c_l_one_of hr (by decide) rfl (pa_cons (pv 0) (pa_cons (pe_lst (pa_cons pe_int (pa_cons pe_int (pa_cons pe_int (pa_cons pe_int (pa_cons pe_int (pa_cons pe_int pa_nil))))))) pa_nil))))
    (pss_cons (ps_expr (pe_bm PySem.F.plainAttrs_list PySem.F.slot_list_append PySem.F.type_list_append mt_append (pv 2) (pa_cons (pe_slice sl_txt (pv 3) po_none (po_some (pv 5))) pa_nil)))
    (pss_one (ps_set (i := 3) sc_l_pieces.nd rfl (.inl rfl) (pe_slice sl_txt (pv 3) (po_some (pv 5)) po_none))))))
    (pss_one (ps_ret (pe_op op_cat (pv 2) (pe_lst (pa_cons (pv 3) pa_nil))))))), ?_⟩
    refine ⟨Nat.zero_le _, fun F0 nF => ⟨_, rfl, _, _, rfl, ?_⟩⟩
    have nFb : F0 ≠ bx := hb.ne nF
    refine ⟨_, rfl, by decide, by decide, ?_⟩
    refine for_it walk_range (fun i σ H3 => ∃ (ws : List (List Bool)) (r : List Bool), ∃ v4 v5 : Option V, σ = [some (.ref bx), some (.str (W l)), some (.ref F0), some (.str (W r)), v4, v5] ∧ Up bx H H3 ∧ H3 F0 = some (.lst (lkV ws)) ∧ ws.flatten ++ r = l ∧ ws.length ≤ i)
      ⟨[], l, _, _, rfl, Up.of_same hb (same_upd nF), upd_same, rfl, Nat.le_refl _⟩ (fun _ _ _ _ _ => trivial) ?_ ?_
    · rintro i x σ H3' H3 hi ⟨ws, r, v4, v5, rfl, u3, hF, ef, lw⟩ ⟨rfl, rfl⟩
      have lr : r.length ≤ l.length := by rw [← ef, List.length_append]; omega
      have wr : (W r).length = r.length := W_len r
      refine ⟨_, rfl, by show 6 ≤ sizeLine; decide, fun z nz => ?_⟩
      have nzb : z ≠ bx := u3.2.ne nz
      have sz := same_upd (o := .lst [.int 0, .int 1, .int 1, .int 2, .int 3, .int 7]) nz
      refine ⟨bx, z, _, rfl, u3.2.same sz, upd_same, nzb, by decide, by decide, fun v H4 hv u4 => ?_⟩
      obtain ⟨n, rfl, n7⟩ : ∃ n : Nat, v = .int n ∧ n ≤ 7 := by
        simp only [List.mem_cons, List.not_mem_nil, or_false] at hv
        rcases hv with rfl | rfl | rfl | rfl | rfl | rfl
        · exact ⟨0, rfl, by decide⟩
        · exact ⟨1, rfl, by decide⟩
        · exact ⟨1, rfl, by decide⟩
        · exact ⟨2, rfl, by decide⟩
        · exact ⟨3, rfl, by decide⟩
        · exact ⟨7, rfl, by decide⟩
      have u34 := (u3.same sz).trans u4
      have hF4 := u4.1 _ _ (sz _ _ hF) nFb
      have es1 : Txt.slice (W r) none (some ((n : Nat) : Int)) = W (r.take n) := by rw [W_take (by omega)]; rfl
      have es2 : Txt.slice (W r) (some ((n : Nat) : Int)) none = W (r.drop n) := by rw [W_drop (by omega)]; rfl
      refine ⟨_, rfl, .inl ⟨rfl, _, SqL.of hF4⟩, _, rfl, _, rfl, _, rfl, _, rfl, by rw [wr]; exact sl_len (by omega), ?_⟩
      rw [es1]
      refine ⟨F0, _, _, rfl, rfl, hF4, by unfold lkV; rw [List.length_map]; exact sl_lt (by omega), ?_⟩
      refine ⟨_, rfl, _, rfl, _, rfl, _, rfl, by rw [wr]; exact sl_len (by omega), ?_⟩
      rw [es2]
      refine ⟨ws ++ [r.take n], r.drop n, _, _, rfl, u34.mut nF nFb, by rw [upd_same]; unfold lkV; rw [List.map_append]; rfl, ?_, by rw [List.length_append]; show _ + 1 ≤ _; omega⟩
      rw [List.flatten_append, List.append_assoc, ← ef]
      congr 1
      show ([r.take n].flatten) ++ r.drop n = r
      rw [List.flatten_cons, List.flatten_nil, List.append_nil, List.take_append_drop]
    · rintro σ H3 ⟨ws, r, v4, v5, rfl, u3, hF, ef, lw⟩
      have lw : ws.length ≤ 12 := lw
      refine ⟨_, rfl, _, rfl, by show 1 ≤ sizeLine; decide, fun z nz => ?_⟩
      have sz := same_upd (o := .lst [.str (W r)]) nz
      refine ⟨_, _, _, _, rfl, rfl, sz _ _ hF, upd_same, by unfold lkV; rw [List.length_map]; exact sl_len (by show _ + 1 ≤ _; omega), fun q nq => ?_⟩
      have sq := same_upd (o := .lst (lkV ws ++ [.str (W r)])) nq
      have u5 := (u3.same sz).same sq
      refine k q (ws ++ [r]) _ u5 ((u3.same sz).2.ne nq) ((u3.same sz).free nq) (by rw [upd_same]; unfold lkV; rw [List.map_append]; rfl) ?_ (by rw [List.length_append]; show _ + 1 ≤ _; omega) (fun z => by have := congrArg List.length z; rw [List.length_append] at this; cases this)
      rw [List.flatten_append, ← ef]
      simp
theorem sc_l_stream : FnScope ["_law_box", "_law_rule_here", "_law_check_here", "_law_many", "_law_line", "_law_turn_here", "_law_bits", "_law_frame", "_law_spot"] ["_law_box", "_law_rule_here", "_law_check_here", "_law_many"] (fnScope s_l_stream) := fnScope_by (by decide +kernel)
theorem cal_l_stream {f : Addr} {fd : FuncData} (F : Def K mg "_law_stream" s_l_stream f fd) (b : Binds K fd ["_law_box", "_law_rule_here", "_law_check_here", "_law_many"] []) (T : Tx mg) (c_l_choose : Cal P w K mg base 1 "_law_choose" spChoose []) (c_l_one_of : Cal P w K mg base 2 "_law_one_of" spOneOf []) (c_l_word : Cal P w K mg base 3 "_law_word" spWordN []) (c_l_turn : Cal P w K mg base 1 "_law_turn" spTurn []) (c_l_body : Cal P w K mg base 4 "_law_body" spLBody2 []) (c_l_bits_for : Cal P w K mg base 3 "_law_bits_for" spLBits []) : Cal P w K mg base 5 "_law_stream" spStream [] := by
  refine cal0 F b .nil sc_l_stream (fun vs H Q E h => ?_) (fun cdv A outer s H vs Q E hr h => ?_)
  · obtain ⟨_, _, _, _, _, _, _, _, rfl, _⟩ := h; rfl
  · obtain ⟨bx, t, c, fl, ss, p, st, n, rfl, hb, told, hc, ck, ls, f0, f6, few, h3, hO, hn, k⟩ := h
    refine ⟨_, (pss_cut (ps_set (i := 4) sc_l_stream.nd rfl (.inl rfl) (pe_op op_add_str (pe_c c_l_word hr (by decide) rfl (pa_cons (pv 0) (pa_cons (pe_c c_l_choose hr (by decide) rfl (pa_cons (pv 0) (pa_cons pe_int pa_nil))) pa_nil))) (pe_ifExp (pt_cmpR op_gt (pe_c c_l_choose hr (by decide) rfl (pa_cons (pv 0) (pa_cons pe_int pa_nil))) pe_int (nomark _)) (pe_ix ix_tup (pv 1) pe_int (fun _ _ => rfl)) pe_str)))
    (pss_cons (ps_for PassesOwn.never rfl (pi_range1 (by rfl) T.b_range (pa_cons (pv 3) pa_nil)) (pg_name (i := 5) sc_l_stream.nd rfl (.inl rfl))
    (pss_cons (ps_set (i := 6) sc_l_stream.nd rfl (.inl rfl) (pe_c c_l_word hr (by decide) rfl (pa_cons (pv 0) (pa_cons (pe_c c_l_choose hr (by decide) rfl (pa_cons (pv 0) (pa_cons pe_int pa_nil))) pa_nil))))
    (pss_cons (ps_set (i := 7) sc_l_stream.nd rfl (.inl rfl) (pe_op op_add_str (pe_c c_l_body hr (by decide) rfl (pa_cons (pe_ix ix_tup (pv 1) pe_int (fun _ _ => rfl)) (pa_cons (pe_op op_add_str (pv 6) (pe_c c_l_bits_for hr (by decide) rfl (pa_cons (pv 2) (pa_cons (pv 6) pa_nil)))) pa_nil))) (pe_ix ix_tup (pv 1) pe_int (fun _ _ => rfl))))
    (pss_cut (ps_if (pt_cmpR op_eq (pe_c c_l_choose hr (by decide) rfl (pa_cons (pv 0) (pa_cons pe_int pa_nil))) pe_int (nomark _)) (pss_cons (ps_set (i := 8) sc_l_stream.nd rfl (.inl rfl) (pe_c c_l_choose hr (by decide) rfl (pa_cons (pv 0) (pa_cons (pe_callB call_len_str (by rfl) T.b_len (by decide +kernel) (pa_cons (pv 7) pa_nil)) pa_nil))))
    (pss_one (ps_set (i := 7) sc_l_stream.nd rfl (.inl rfl) (pe_op op_add_str (pe_op op_add_str (pe_slice sl_txt (pv 7) po_none (po_some (pv 8))) (pe_c c_l_turn hr (by decide) rfl (pa_cons (pe_ix ix_str (pv 7) (pv 8) (fun _ _ => rfl)) pa_nil))) (pe_slice sl_txt (pv 7) (po_some (pe_op op_add (pv 8) pe_int)) po_none))))) pss_nil)
    (pss_one (ps_set (i := 4) sc_l_stream.nd rfl (.inl rfl) (pe_op op_add_str (pe_op op_add_str (pv 4) (pv 7)) (pe_op op_rep_str (pe_ix ix_tup (pv 1) pe_int (fun _ _ => rfl)) (pe_c c_l_one_of hr (by decide) rfl (pa_cons (pv 0) (pa_cons (pe_lst (pa_cons pe_int (pa_cons pe_int (pa_cons pe_int pa_nil)))) pa_nil)))))))))))
    (pss_one (ps_ret (pe_op op_add_str (pv 4) (pe_c c_l_word hr (by decide) rfl (pa_cons (pv 0) (pa_cons (pe_c c_l_choose hr (by decide) rfl (pa_cons (pv 0) (pa_cons pe_int pa_nil))) pa_nil)))))))), ?_⟩
    have wfl : (W fl).length = fl.length := W_len fl
    refine ⟨fun σ H' => ∃ l0 : List Bool, ∃ v5 v6 v7 v8 : Option V, σ = [some (.ref bx), some (.ref t), some (.ref c), some (.int n), some (.str (W l0)), v5, v6, v7, v8] ∧ Up bx H H' ∧ l0.length ≤ 10, ?_, ?_⟩
    · refine ⟨_, rfl, _, rfl, bx, 5, rfl, hb, by decide, by decide, fun d H1 d0 d5 u1 => ?_⟩
      obtain ⟨m, rfl⟩ := Int.eq_ofNat_of_zero_le d0
      refine ⟨bx, m, rfl, u1.2, by omega, fun w0 H2 lw0 u2 => ?_⟩
      have u2' := u1.trans u2
      refine ⟨_, rfl, bx, 4, rfl, u2'.2, by decide, by decide, fun d2 H3 e0 e4 u3 => ?_⟩
      have u3' := u2'.trans u3
      refine ⟨_, _, rfl, rfl, _, rfl, ite2 (fun _ => ?_) (fun _ => ?_)⟩
      · obtain ⟨lk, ht, _⟩ := (told.up hb u3').stl
        refine ⟨_, rfl, t, _, _, _, rfl, rfl, SqT.of ht, atI_nat (j := 0) rfl, _, _, rfl, rfl, by rw [W_len, wfl]; exact sl_len (by omega), ?_⟩
        rw [W_cat]
        exact ⟨_, _, _, _, _, rfl, u3', by rw [List.length_append]; omega⟩
      · refine ⟨_, _, rfl, rfl, by rw [W_len, show ("" : Str).length = 0 by decide +kernel]; exact sl_len (by omega), ?_⟩
        rw [W_nil, W_cat]
        exact ⟨_, _, _, _, _, rfl, u3', by rw [List.length_append]; show _ + 0 ≤ _; omega⟩
    rintro σ H4 ⟨l0, v5, v6, v7, v8, rfl, u4, ll0⟩
    refine ⟨_, rfl, _, rfl, by omega, by omega, ?_⟩
    refine for_it walk_range (fun i σ H5 => ∃ l1 : List Bool, ∃ v5 v6 v7 v8 : Option V, σ = [some (.ref bx), some (.ref t), some (.ref c), some (.int n), some (.str (W l1)), v5, v6, v7, v8] ∧ Up bx H H5 ∧ l1.length ≤ 10 + 140 * i) ⟨l0, _, _, _, _, rfl, u4, by omega⟩ (fun _ _ _ _ _ => trivial) ?_ ?_
    · rintro i x σ H5' H5 hi ⟨l1, v5, v6, v7, v8, rfl, u5, ll1⟩ ⟨rfl, rfl⟩
      have hi : i < 4 := by omega
      refine ⟨_, rfl, _, rfl, bx, 6, rfl, u5.2, by decide, by decide, fun d H6 d0 d6 u6 => ?_⟩
      obtain ⟨m, rfl⟩ := Int.eq_ofNat_of_zero_le d0
      refine ⟨bx, m, rfl, u6.2, by omega, fun wd H7 lwd u7 => ?_⟩
      have u7' := (u5.trans u6).trans u7
      have hc7 := u7'.1 _ _ hc (hb.neT hc)
      have told7 := told.up hb u7'
      obtain ⟨lk, ht7, hl7⟩ := told7.stl
      refine ⟨_, rfl, t, _, _, _, rfl, rfl, SqT.of ht7, atI_nat (j := 1) rfl, _, rfl, _, rfl, _, rfl, c, p, st, wd, rfl, hc7, ck, by omega, by omega, fun H8 s8 => ?_⟩
      have lbm := bitsM_len ck.len wd
      refine ⟨_, _, rfl, rfl, by rw [W_len, W_len]; exact sl_len (by omega), ?_⟩
      rw [W_cat]
      refine ⟨lk, wd ++ bitsM p st wd, ss, rfl, ?_, by rw [List.length_append]; omega, few, fun s hs => Nat.le_trans (h3 s hs) (by decide), hO, fun l H9 hB _ s9 => ?_⟩
      · obtain ⟨ps, kb, x1, x2, x3⟩ := hl7
        exact ⟨ps, kb, s8 _ _ x1, x2.same s8, x3⟩
      have lb := body_len16 h3 hB
      rw [List.length_append] at lb
      have u9 := (u7'.same s8).same s9
      obtain ⟨lk9, ht9, _⟩ := (told.up hb u9).stl
      refine ⟨_, rfl, t, _, _, _, rfl, rfl, SqT.of ht9, atI_nat (j := 0) rfl, _, _, rfl, rfl, by rw [W_len, wfl]; exact sl_len (by omega), ?_⟩
      rw [W_cat]
      -- a bit otherwise
      refine ⟨fun σ H' => ∃ fr : List Bool, ∃ v5 v6 v8 : Option V, σ = [some (.ref bx), some (.ref t), some (.ref c), some (.int n), some (.str (W l1)), v5, v6, some (.str (W fr)), v8] ∧ Up bx H H' ∧ fr.length ≤ 134, ?_, ?_⟩
      · refine ⟨_, rfl, bx, 4, rfl, u9.2, by decide, by decide, fun d2 H10 e0 e4 u10 => ?_⟩
        have u10' := u9.trans u10
        have lfr : (l ++ fl).length ≤ 134 := by rw [List.length_append]; omega
        have lfr0 : 0 < (l ++ fl).length := by rw [List.length_append]; omega
        generalize l ++ fl = fr at lfr lfr0
        have wf : (W fr).length = fr.length := W_len fr
        refine ⟨rfl, _, rfl, ite2 (fun _ => ?_) (fun _ => ?_)⟩
        · refine ⟨_, rfl, _, rfl, _, rfl, by rw [wf]; exact sl_len (by omega), bx, _, rfl, u10'.2, by rw [wf]; omega, by rw [wf]; omega, fun e H11 g0 g1 u11 => ?_⟩
          rw [wf] at g1
          obtain ⟨j, rfl⟩ := Int.eq_ofNat_of_zero_le g0
          have hj : j < fr.length := by omega
          have es1 : Txt.slice (W fr) none (some ((j : Nat) : Int)) = W (fr.take j) := by rw [W_take (by omega)]; rfl
          have es2 : Txt.slice (W fr) (some (((j : Nat) : Int) + 1)) none = W (fr.drop (j + 1)) := by rw [W_drop (by omega)]; rfl
          have ea : atI (W fr).cps.toList ((j : Nat) : Int) = some (bt fr[j]) := by
            rw [W_tl]
            exact atI_nat (by rw [List.getElem?_map, List.getElem?_eq_getElem hj]; rfl)
          refine ⟨_, rfl, _, rfl, _, rfl, _, rfl, by rw [wf]; exact sl_len (by omega), _, rfl, _, rfl, _, _, _, rfl, rfl, by rw [wf]; exact sl_len (by omega), ea, fr[j], rfl, ?_⟩
          rw [es1]
          refine ⟨_, _, rfl, rfl, by rw [W_len, W_len, List.length_take]; exact sl_len (by show _ + 1 ≤ _; omega), ?_⟩
          rw [W_cat]
          refine ⟨_, rfl, _, rfl, _, _, rfl, rfl, _, rfl, _, rfl, by rw [wf]; exact sl_len (by omega), ?_⟩
          rw [es2]
          refine ⟨_, _, rfl, rfl, by rw [W_len, W_len, List.length_append, List.length_take, List.length_drop]; exact sl_len (by show _ + 1 + _ ≤ _; omega), ?_⟩
          rw [W_cat]
          exact ⟨_, _, _, _, rfl, u10'.trans u11, by simp only [List.length_append, List.length_take, List.length_drop, List.length_cons, List.length_nil]; omega⟩
        · exact ⟨fr, _, _, _, rfl, u10', lfr⟩
      rintro σ H10 ⟨fr, v5, v6, v8, rfl, u10, lfr⟩
      have w1 : (W l1).length = l1.length := W_len l1
      refine ⟨_, rfl, _, rfl, _, _, rfl, rfl, by rw [w1, W_len]; exact sl_len (by omega), ?_⟩
      rw [W_cat]
      obtain ⟨lk10, ht10, _⟩ := (told.up hb u10).stl
      refine ⟨_, rfl, t, _, _, _, rfl, rfl, SqT.of ht10, atI_nat (j := 0) rfl, _, rfl, by show 3 ≤ sizeLine; decide, fun z nz => ?_⟩
      have sz := same_upd (o := .lst [.int 0, .int 0, .int 1]) nz
      refine ⟨bx, z, _, rfl, u10.2.same sz, upd_same, u10.2.ne nz, by decide, by decide, fun v H11 hv u11 => ?_⟩
      obtain ⟨g, rfl, g0, g2⟩ : ∃ g : Int, v = .int g ∧ 0 ≤ g ∧ g < 2 := by
        simp only [List.mem_cons, List.not_mem_nil, or_false] at hv
        rcases hv with rfl | rfl | rfl
        · exact ⟨0, rfl, by decide, by decide⟩
        · exact ⟨0, rfl, by decide, by decide⟩
        · exact ⟨1, rfl, by decide, by decide⟩
      obtain ⟨xm, exm, lxm⟩ := mul_01 (l := fl) g0 g2
      refine ⟨_, _, rfl, rfl, by omega, by omega, by rw [wfl]; exact Nat.le_trans (Nat.mul_le_mul f6 (show g.toNat ≤ 1 by omega)) (by decide), ?_⟩
      rw [exm]
      refine ⟨_, _, rfl, rfl, by rw [W_len, W_len, List.length_append]; exact sl_len (by omega), ?_⟩
      rw [W_cat]
      exact ⟨_, _, _, _, _, rfl, (u10.same sz).trans u11, by simp only [List.length_append]; omega⟩
    · rintro σ H5 ⟨l1, v5, v6, v7, v8, rfl, u5, ll1⟩
      have ll1 : l1.length ≤ 570 := by omega
      refine ⟨_, rfl, _, rfl, _, rfl, bx, 4, rfl, u5.2, by decide, by decide, fun d H6 d0 d4 u6 => ?_⟩
      obtain ⟨m, rfl⟩ := Int.eq_ofNat_of_zero_le d0
      refine ⟨bx, m, rfl, u6.2, by omega, fun wd H7 lwd u7 => ?_⟩
      refine ⟨_, _, rfl, rfl, by rw [W_len, W_len]; exact sl_len (by omega), ?_⟩
      rw [W_cat]
      exact k _ H7 (by rw [List.length_append]; omega) ((u5.trans u6).trans u7)
end
end U

set_option maxRecDepth 100000
set_option maxHeartbeats 4000000
set_option pp.maxSteps 400
namespace U
open PySem PySem.Spec PyProof.Rows
open L2 hiding Fun CX0 E0 pass0 Fun.binds
open C8 Lx SX StX
/-! live receivers in a law -/
theorem u65 {k : Nat} {A : Around} (r : Room k A) : A.units + 65 < cLine := by have := r.un; omega
theorem mk_lv {C : Addr} {H : Hp} {r c : Addr} {R : Addr → Hp → Prop} {E : XK} (k : ∀ x H', H x = none → Same H H' → LvAt C H' x r c (false, [], []) [] 0 → R x H') :
    ∀ x dx, H x = none → H dx = none → dx ≠ x → spLvInit C [.ref x, .ref r, .ref c] (upd (upd H dx (.own x)) x (.ins C dx [])) (fun v H2 => v = .non ∧ R x H2) E := fun x dx nx ndx nex =>
  ⟨x, dx, r, c, rfl, upd_same, fun H' sm hL => ⟨rfl, k x H' nx (fun b o e => sm b o (by rw [upd_ne (ne_of_none e nx), upd_ne (ne_of_none e ndx)]; exact e) (ne_of_none e nx)) hL⟩⟩
theorem LvAt.ins {C : Addr} {H : Hp} {a r c : Addr} {S : Sta} {h : List Bool} {n : Nat} (x : LvAt C H a r c S h n) : ∃ dx st pa, H a = some (.ins C dx (lvF r c st pa)) := by
  obtain ⟨dx, st, pa, _, _, h1, _⟩ := x
  exact ⟨dx, st, pa, h1⟩
theorem Told.smb {a C dx : Addr} {fs : List (Str × V)} {H H' : Hp} {t : Addr} {f : List Bool} {ss : List Stf} (h : Told H t f ss) (ha : H a = some (.ins C dx fs)) (s : SmB a H H') : Told H' t f ss := by
  obtain ⟨l, ps, kb, h1, h2, h3, h4⟩ := h
  exact ⟨l, ps, kb, s _ _ h1 (ne_of h1 ha (by intro z; cases z)), s _ _ h2 (ne_of h2 ha (by intro z; cases z)), fun t ht => s _ _ (h3 t ht) (ne_of (h3 t ht) ha (by intro z; cases z)), h4⟩
theorem RuAt.smb {a C dx CR : Addr} {fs : List (Str × V)} {H H' : Hp} {m : Addr} {f : List Bool} {ss : List Stf} (h : RuAt CR H m f ss) (ha : H a = some (.ins C dx fs)) (hn : m ≠ a) (s : SmB a H H') : RuAt CR H' m f ss := by
  obtain ⟨d, t, ps, kb, h1, h2, h3, h4⟩ := h
  exact ⟨d, t, ps, kb, s _ _ h1 hn, s _ _ h2 (ne_of h2 ha (by intro z; cases z)), fun t ht => s _ _ (h3 t ht) (ne_of (h3 t ht) ha (by intro z; cases z)), h4⟩
theorem CkAt.smb {a CK : Addr} {H H' : Hp} {c : Addr} {p s : List Bool} (h : CkAt CK H c p s) (hn : c ≠ a) (sm : SmB a H H') : CkAt CK H' c p s := by
  obtain ⟨d, h1⟩ := h
  exact ⟨d, sm _ _ h1 hn⟩
/-- what is drawn and made, beside the live receiver at a -/
structure Hl (CR CK a t tc m c : Addr) (fl : List Bool) (z ss : List Stf) (p st : List Bool) (H : Hp) : Prop where
  told : Told H t fl z
  htc : H tc = some (.tup [.str (W p), .str (W st)])
  hR : RuAt CR H m fl ss
  hC : CkAt CK H c p st
  nm : m ≠ a
  nc : c ≠ a
theorem Hl.same {CR CK a t tc m c : Addr} {fl : List Bool} {z ss : List Stf} {p st : List Bool} {H H' : Hp} (h : Hl CR CK a t tc m c fl z ss p st H) (s : Same H H') : Hl CR CK a t tc m c fl z ss p st H' := ⟨h.told.same s, s _ _ h.htc, h.hR.same s, h.hC.same s, h.nm, h.nc⟩
theorem Hl.up {CR CK a t tc m c b : Addr} {fl : List Bool} {z ss : List Stf} {p st : List Bool} {H H' : Hp} (h : Hl CR CK a t tc m c fl z ss p st H) (hb : Box H b) (u : Up b H H') : Hl CR CK a t tc m c fl z ss p st H' := ⟨h.told.up hb u, u.1 _ _ h.htc (hb.neT h.htc), h.hR.nl (u.nl hb), h.hC.up hb u, h.nm, h.nc⟩
theorem Hl.smb {C dx CR CK a t tc m c : Addr} {fs : List (Str × V)} {fl : List Bool} {z ss : List Stf} {p st : List Bool} {H H' : Hp} (h : Hl CR CK a t tc m c fl z ss p st H) (ha : H a = some (.ins C dx fs)) (s : SmB a H H') : Hl CR CK a t tc m c fl z ss p st H' := ⟨h.told.smb ha s, s _ _ h.htc (ne_of h.htc ha (by intro z; cases z)), h.hR.smb ha h.nm s, h.hC.smb h.nc s, h.nm, h.nc⟩
theorem LvAt.up {C b : Addr} {H H' : Hp} {a r c : Addr} {S : Sta} {h : List Bool} {n : Nat} (x : LvAt C H a r c S h n) (hb : Box H b) (u : Up b H H') : LvAt C H' a r c S h n := by
  obtain ⟨dx, st, pa, q, ps, h1, h2, ⟨ps2, kb, h3, h4, h5⟩, h6, h7⟩ := x
  exact ⟨dx, st, pa, q, ps, (u.nl hb).ins h1, u.1 _ _ h2 (hb.neT h2), ⟨ps2, kb, u.1 _ _ h3 (hb.neT h3), fun t ht => u.1 _ _ (h4 t ht) (hb.neT (h4 t ht)), h5⟩, u.1 _ _ h6 (hb.neT h6), h7⟩
theorem FrU.up {b : Addr} {H H' : Hp} {q : Addr} {rs : List Rd2} (h : FrU H q rs) (hb : Box H b) (u : Up b H H') : FrU H' q rs := by
  obtain ⟨ps, kb, h1, h2, h3⟩ := h
  exact ⟨ps, kb, u.1 _ _ h1 (hb.neT h1), fun t ht => u.1 _ _ (h2 t ht) (hb.neT (h2 t ht)), h3⟩
theorem st_nil {f : List Bool} (hf : f ≠ []) (ss : List Stf) (p s : List Bool) : stM f ss p s [] = (false, [], []) := st_none (posM_none.mpr fun i hi z => by
  have := z.length_le
  rw [List.drop_nil] at this
  exact hf (List.length_eq_zero_iff.mp (Nat.le_zero.mp this)))
theorem st_congr {ss ts : List Stf} (h : ∀ l, putM ss l = putM ts l) (f p s l : List Bool) : stM f ss p s l = stM f ts p s l := by
  unfold stM
  cases posM l f with
  | none => rfl
  | some i => dsimp only; rw [frM_congr h]
theorem st_sm {f : List Bool} {ss : List Stf} {p s l : List Bool} (hl : l.length ≤ 800) : (stM f ss p s l).2.2.length ≤ 800 ∧ ∀ r ∈ (stM f ss p s l).2.2, Sm 800 r := by
  cases e : posM l f with
  | none => rw [st_none e]; exact ⟨Nat.zero_le _, fun r hr => by cases hr⟩
  | some i =>
    rw [st_some e]
    obtain ⟨h1, h2⟩ := fr_sm (f := f) (ss := ss) (p := p) (s := s) (l := l.drop (i + f.length))
    have ld : (l.drop (i + f.length)).length ≤ 800 := by rw [List.length_drop]; omega
    exact ⟨Nat.le_trans h1 ld, fun r hr => (h2 r hr).mono ld⟩
theorem mk_stlN {K : PySem.W.Frag} {C : Addr} {H : Hp} {l : Addr} {z : Str} {f : List Bool} {ss : List Stf} {R : Addr → Hp → Prop} {E : XK} (hz : z = W f) (hl : Stl H l ss) (ok : StOk ss) (hO : OkR ss) (h2 : 2 ≤ f.length) (h3 : f.length ≤ 1000)
    (k : ∀ x ss' H', H x = none → Same H H' → ss'.Perm ss → SortedS ss' → RuAt C H' x f ss' → R x H') :
    ∀ x dx, H x = none → H dx = none → dx ≠ x → spRuInit K C [.ref x, .str z, .ref l] (upd (upd H dx (.own x)) x (.ins C dx [])) (fun v H2 => v = .non ∧ R x H2) E := by
  subst hz
  intro x dx nx ndx nex
  obtain ⟨ps, kb, h1, hs, rfl⟩ := hl
  have sm : Same H (upd (upd H dx (.own x)) x (.ins C dx [])) := fun c o e => by
    rw [upd_ne (ne_of_none e nx), upd_ne (ne_of_none e ndx)]; exact e
  exact ⟨x, dx, l, f, ps, kb, rfl, upd_same, .inl (SqL.of (sm _ _ h1)), hs.same sm, ok, hO, h2, h3, fun H' ss' keep pm srt hR => ⟨rfl, k x ss' H' nx (Same.made nx ndx keep) pm srt hR⟩⟩
theorem mk_defN {K : PySem.W.Frag} {C dE : Addr} {H : Hp} {z : Str} {f : List Bool} {R : Addr → Hp → Prop} {E : XK} (hz : z = W f) (hE : ∀ H, SqT K H dE []) (h2 : 2 ≤ f.length) (h3 : f.length ≤ 1000)
    (k : ∀ x H', H x = none → Same H H' → RuAt C H' x f [] → R x H') :
    ∀ x dx, H x = none → H dx = none → dx ≠ x → spRuInit K C [.ref x, .str z, .ref dE] (upd (upd H dx (.own x)) x (.ins C dx [])) (fun v H2 => v = .non ∧ R x H2) E := by
  subst hz
  intro x dx nx ndx nex
  refine ⟨x, dx, dE, f, [], fun _ => ([], false), rfl, upd_same, .inr (hE _), (fun _ h => nomatch h), ⟨Nat.zero_le _, (fun _ h => nomatch h), Nat.zero_le _, .nil⟩, okR_nil, h2, h3, fun H' ss' keep pm srt hR => ⟨rfl, ?_⟩⟩
  have es : ss' = [] := List.Perm.eq_nil pm
  subst es
  exact k x H' nx (Same.made nx ndx keep) hR
end U

set_option maxRecDepth 100000
set_option maxHeartbeats 4000000
set_option pp.maxSteps 400
namespace U
open PySem PySem.Spec PyProof.Rows
open L2 hiding Fun CX0 E0 pass0 Fun.binds
open C8 Lx SX StX
theorem cl_app {f : List Bool} (hf : f ≠ []) (ss : List Stf) (p s h a b : List Bool) : clM f ss p s h (a ++ b) = clM f ss p s h a ++ clM f ss p s (h ++ a) b := by
  have e1 := st_found hf ss p s h (a ++ b)
  have e2 := st_found hf ss p s (h ++ a) b
  have e3 := st_found hf ss p s h a
  rw [← List.append_assoc, e2, e3, List.append_assoc] at e1
  exact (List.append_cancel_left e1).symm
theorem cl_nil {f : List Bool} (hf : f ≠ []) (ss : List Stf) (p s h : List Bool) : clM f ss p s h [] = [] := by
  have e := st_found hf ss p s h []
  rw [List.append_nil] at e
  exact List.append_cancel_left (by rw [← e, List.append_nil])
theorem cls_flat {f : List Bool} (hf : f ≠ []) (ss : List Stf) (p s : List Bool) : ∀ (ws : List (List Bool)) (h : List Bool), (clsM f ss p s h ws).flatten = clM f ss p s h ws.flatten
  | [], h => by rw [List.flatten_nil, cl_nil hf]; rfl
  | x :: r, h => by
    show (clM f ss p s h x :: clsM f ss p s (h ++ x) r).flatten = _
    rw [List.flatten_cons, List.flatten_cons, cls_flat hf ss p s r, cl_app hf]
theorem cl_first {f : List Bool} (hf : f ≠ []) (ss : List Stf) (p s l : List Bool) : clM f ss p s [] l = (stM f ss p s l).2.2 := by
  have e := st_found hf ss p s [] l
  rw [st_nil hf] at e
  exact e.symm
theorem posM_self {f : List Bool} : posM f f = some 0 := posM_some.mpr ⟨Nat.zero_le _, List.prefix_refl _, fun k h => absurd h (Nat.not_lt_zero _)⟩
theorem cutA_none {f r : List Bool} (e : posM r f = none) : cutA f r = ([], r) := cutF_none e _
theorem cutA_nil {f : List Bool} (hf : f ≠ []) : cutA f [] = ([], []) := cutA_none (posM_none.mpr fun i hi z => by
  rw [Nat.le_zero.mp hi] at z
  exact hf (List.prefix_nil.mp z))
theorem cl_flag {f : List Bool} (hf : f ≠ []) (ss : List Stf) (p s l : List Bool) : clM f ss p s f l = frM f ss p s l := by
  unfold clM
  rw [posM_self]
  show frM f ss p s ((cutA f (f.drop (0 + f.length))).2 ++ l) = _
  rw [Nat.zero_add, List.drop_length, cutA_nil hf]
  rfl
theorem fr_first {f : List Bool} {ss : List Stf} {p s l : List Bool} {i : Nat} (hf : f ≠ []) (e : posM l f = some i) (hi : 0 < i) : (frM f ss p s l).take 1 = [rcM f ss p s l] := by
  have h : frM f ss p s l = frA f ss p s l := rfl
  rw [h]
  unfold frA rcM
  rw [cutA_some hf e, e]
  have hn : l.take i ≠ [] := fun z => by
    have := congrArg List.length z
    rw [List.length_take, List.length_nil] at this
    have := (posM_some.mp e).1
    omega
  show ((((l.take i) :: (cutA f (l.drop (i + f.length))).1).filter (· ≠ [])).map (rdM ss p s)).take 1 = _
  rw [List.filter_cons_of_pos (by simpa using hn), List.map_cons]
  rfl
/-! exchanged -/
theorem takL_sw (ss : List Stf) : ∀ (r p m : List Bool), takL (ss.map swS) (sw p) (sw r) (sw m) = (takL ss p r m).map sw
  | [], p, m => by
    show takL (ss.map swS) (sw p) [] (sw m) = _
    unfold takL
    rw [put_sw]
    cases putM ss p <;> rfl
  | b :: r, p, m => by
    show takL (ss.map swS) (sw p) ((!b) :: sw r) (sw m) = _
    have e1 : sw p ++ [!b] = sw (p ++ [b]) := by rw [sw_app]; rfl
    have e2 : sw m ++ [!b] = sw (m ++ [b]) := by rw [sw_app]; rfl
    rw [takL, takL, put_sw]
    cases hp : putM ss p with
    | none =>
      show takL (ss.map swS) (sw p ++ [!b]) (sw r) (sw m ++ [!b]) = _
      rw [e1, e2]
      exact takL_sw ss r (p ++ [b]) (m ++ [b])
    | some c =>
      show (if (!c) = (!b) then takL (ss.map swS) (sw p ++ [!b]) (sw r) (sw m) else none) = Option.map sw (if c = b then takL ss (p ++ [b]) r m else none)
      by_cases h : c = b
      · rw [if_pos h, if_pos (by rw [h]), e1]
        exact takL_sw ss r (p ++ [b]) m
      · rw [if_neg h, if_neg (fun z => h (by cases c <;> cases b <;> simp_all))]
        rfl
theorem takM_sw (ss : List Stf) (l : List Bool) : takM (ss.map swS) (sw l) = (takM ss l).map sw := takL_sw ss l [] []
theorem rd_plain (ss : List Stf) (l : List Bool) : (rdM ss [true] [] l).1 = if (takM ss l).isSome then "good" else "put" := by
  unfold rdM
  cases takM ss l with
  | none => rfl
  | some m =>
    have e : restM [true] [] m = [] := List.length_eq_zero_iff.mp (restM_len _ _ rfl)
    have g : goodM [true] [] m = true := by
      unfold goodM
      rw [e]
      rfl
    simp only [g, if_true]
    rfl
theorem rd_sw (ss : List Stf) (l : List Bool) : (rdM (ss.map swS) [true] [] (sw l)).1 = (rdM ss [true] [] l).1 := by
  rw [rd_plain, rd_plain, takM_sw, Option.isSome_map]
theorem cutF_sw (f : List Bool) : ∀ (n : Nat) (r : List Bool), cutF (sw f) n (sw r) = ((cutF f n r).1.map sw, sw (cutF f n r).2)
  | 0, r => rfl
  | n + 1, r => by
    cases e : posM r f with
    | none => rw [cutF_none e, cutF_none (by rw [posM_sw]; exact e)]; rfl
    | some i =>
      have e' : posM (sw r) (sw f) = some i := by rw [posM_sw]; exact e
      have d : (sw r).drop (i + (sw f).length) = sw (r.drop (i + f.length)) := by rw [sw_len]; unfold sw; rw [List.map_drop]
      have t : (sw r).take i = sw (r.take i) := by unfold sw; rw [List.map_take]
      rw [cutF_some e, cutF_some e', d, t, cutF_sw f n]
      rfl
theorem fr_sw (f : List Bool) (ss : List Stf) (r : List Bool) : (frM (sw f) (ss.map swS) [true] [] (sw r)).map (·.1) = (frM f ss [true] [] r).map (·.1) := by
  unfold frM
  rw [sw_len, cutF_sw]
  show ((((cutF f r.length r).1.map sw).filter (· ≠ [])).map _).map _ = _
  generalize (cutF f r.length r).1 = rows
  induction rows with
  | nil => rfl
  | cons x t ih =>
    rw [List.map_cons]
    by_cases h : x = []
    · rw [List.filter_cons_of_neg (by rw [h]; decide), List.filter_cons_of_neg (by rw [h]; decide)]
      exact ih
    · have h' : sw x ≠ [] := fun z => h (List.length_eq_zero_iff.mp (by rw [← sw_len, z]; rfl))
      rw [List.filter_cons_of_pos (by simpa using h'), List.filter_cons_of_pos (by simpa using h), List.map_cons, List.map_cons, List.map_cons, List.map_cons, rd_sw, ih]
theorem st_sw (f : List Bool) (ss : List Stf) (l : List Bool) : (stM (sw f) (ss.map swS) [true] [] (sw l)).2.2.map (·.1) = (stM f ss [true] [] l).2.2.map (·.1) := by
  cases e : posM l f with
  | none => rw [st_none e, st_none (by rw [posM_sw]; exact e)]
  | some i =>
    rw [st_some e, st_some (by rw [posM_sw]; exact e)]
    show (frM (sw f) (ss.map swS) [true] [] ((sw l).drop (i + (sw f).length))).map _ = _
    rw [sw_len, show (sw l).drop (i + f.length) = sw (l.drop (i + f.length)) by unfold sw; rw [List.map_drop]]
    exact fr_sw f ss _
theorem Up.smb {bx lv : Addr} {H1 H H' : Hp} (u : Up bx H1 H) (n1 : H1 lv = none) (nb : lv ≠ bx) (s : SmB lv H H') : Up bx H1 H' := ⟨fun b o e n => s _ _ (u.1 _ _ e n) (ne_of_none e n1), by
  obtain ⟨x1, x2, ex⟩ := u.2
  exact ⟨x1, x2, s _ _ ex (Ne.symm nb)⟩⟩
theorem frL_dp {K : PySem.W.Frag} {H : Hp} {q : Addr} {rs : List Rd2} (h : FrL H q rs) : Dp K H (.ref q) (.list (rs.map prD)) := by
  obtain ⟨ps, kb, h1, h2, rfl⟩ := h
  exact .lst (SqL.of h1) (frD_dp h2)
theorem frL_ok {rs : List Rd2} (h : ∀ r ∈ rs, PyData.strOk r.1 = true) : DOk 2 (.list (rs.map prD)) := dok_list (n := 1) fun e he => by
  obtain ⟨r, hr, rfl⟩ := List.mem_map.mp he
  exact prD_ok (h r hr)
theorem frs_dp {K : PySem.W.Frag} {H : Hp} : ∀ {qs : List Addr} {rss : List (List Rd2)}, Paired (fun q rs => FrU H q rs) qs rss → DpAll K H (qs.map V.ref) (rss.map fun rs => PyData.tuple (rs.map prD))
  | _, _, .nil => .nil
  | _, _, .cons h r => .cons h.dp (frs_dp r)
theorem frs_ok {rss : List (List Rd2)} (h : ∀ rs ∈ rss, ∀ r ∈ rs, PyData.strOk r.1 = true) : DOk 3 (.tuple (rss.map fun rs => PyData.tuple (rs.map prD))) := dok_tup (n := 2) fun e he => by
  obtain ⟨rs, hr, rfl⟩ := List.mem_map.mp he
  exact frD_ok (h rs hr)
theorem frs_same {H H' : Hp} (s : Same H H') : ∀ {qs : List Addr} {rss : List (List Rd2)}, Paired (fun q rs => FrU H q rs) qs rss → Paired (fun q rs => FrU H' q rs) qs rss
  | _, _, .nil => .nil
  | _, _, .cons h r => .cons (h.same s) (frs_same s r)
theorem frs_nl {H H' : Hp} (s : NL H H') : ∀ {qs : List Addr} {rss : List (List Rd2)}, Paired (fun q rs => FrU H q rs) qs rss → Paired (fun q rs => FrU H' q rs) qs rss
  | _, _, .nil => .nil
  | _, _, .cons h r => .cons (h.nl' s) (frs_nl s r)
theorem W_piece {l : List Bool} {i z : Nat} (h : i ≤ l.length) : Txt.slice (W l) (some (i : Int)) (some ((i : Int) + (z : Int))) = W ((l.drop i).take z) := by
  have mid : ∀ n : Nat, i + n ≤ l.length → Txt.slice (W l) (some (i : Int)) (some ((i : Int) + (n : Int))) = W ((l.drop i).take n) := fun n hn => by
    have e := beq_iff_eq.mp (PyProof.Rows.slice_closesL (x := W l) (i := (i : Int)) (j := (i : Int) + (n : Int)) (by omega) (by omega) (by rw [W_len]; omega))
    rw [e]
    refine TL.ext_tl ?_
    show (((l.map bt).drop ((i : Int)).toNat).take ((i : Int) + (n : Int) - (i : Int)).toNat) = _
    rw [show ((i : Int)).toNat = i by omega, show ((i : Int) + (n : Int) - (i : Int)).toNat = n by omega, ← List.map_drop, ← List.map_take]
    rfl
  by_cases c : i + z ≤ l.length
  · exact mid z c
  · have e2 : Txt.slice (W l) (some (i : Int)) (some ((i : Int) + (z : Int))) = Txt.slice (W l) (some (i : Int)) (some ((i : Int) + ((l.length - i : Nat) : Int))) := by
      unfold Txt.slice
      rw [W_len, show (i : Int) + ((l.length - i : Nat) : Int) = (l.length : Int) by omega, idx_hi (by omega)]
    rw [e2, mid (l.length - i) (by omega), List.take_of_length_le (by rw [List.length_drop]; omega), List.take_of_length_le (by rw [List.length_drop]; omega)]
structure Km (CR CK m c : Addr) (fl : List Bool) (ss : List Stf) (p st : List Bool) (H : Hp) : Prop where
  hR : RuAt CR H m fl ss
  hC : CkAt CK H c p st
theorem Km.same {CR CK m c : Addr} {fl : List Bool} {s : List Stf} {p st : List Bool} {H H' : Hp} (h : Km CR CK m c fl s p st H) (e : Same H H') : Km CR CK m c fl s p st H' := ⟨h.hR.same e, h.hC.same e⟩
theorem Km.up {CR CK m c b : Addr} {fl : List Bool} {s : List Stf} {p st : List Bool} {H H' : Hp} (h : Km CR CK m c fl s p st H) (hb : Box H b) (u : Up b H H') : Km CR CK m c fl s p st H' := ⟨h.hR.nl (u.nl hb), h.hC.up hb u⟩
theorem Km.smb {C dx CR CK a m c : Addr} {fs : List (Str × V)} {fl : List Bool} {z : List Stf} {p st : List Bool} {H H' : Hp} (h : Km CR CK m c fl z p st H) (ha : H a = some (.ins C dx fs)) (hn : m ≠ a) (hc : c ≠ a) (s : SmB a H H') : Km CR CK m c fl z p st H' := ⟨h.hR.smb ha hn s, h.hC.smb hc s⟩
/-- another live receiver is changed -/
theorem LvP.smbO {C C' dx a lv : Addr} {fs : List (Str × V)} {H H' : Hp} {r c : Addr} {S : Sta} {h : List Bool} {ps : List Pst} (x : LvP C H a r c S h ps) (ha : H lv = some (.ins C' dx fs)) (n : a ≠ lv) (s : SmB lv H H') : LvP C H' a r c S h ps := by
  obtain ⟨dx, st, pa, qs, h1, h2, h3, h4⟩ := x
  exact ⟨dx, st, pa, qs, s _ _ h1 n, h2.smb ha s, s _ _ h3 (ne_of h3 ha (by intro z; cases z)), h4.smb ha s⟩
/-- a live receiver that heard h by one rule, at n changes -/
def LH (C : Addr) (H : Hp) (lv m c : Addr) (fl : List Bool) (ss : List Stf) (p st h : List Bool) (n : Nat) : Prop := ∃ ps : List Pst, ps.length = n ∧ LvP C H lv m c (stG [] (stM fl ss p st h)) ([] ++ h) ps
section
variable {C lv m c : Addr} {fl : List Bool} {ss : List Stf} {p st h : List Bool} {n : Nat} {H H' : Hp}
theorem LH.same (x : LH C H lv m c fl ss p st h n) (s : Same H H') : LH C H' lv m c fl ss p st h n := by
  obtain ⟨ps, e, y⟩ := x
  exact ⟨ps, e, y.same s⟩
theorem LH.up {b : Addr} (x : LH C H lv m c fl ss p st h n) (hb : Box H b) (u : Up b H H') : LH C H' lv m c fl ss p st h n := by
  obtain ⟨ps, e, y⟩ := x
  exact ⟨ps, e, y.up hb u⟩
theorem LH.smbO {C' dx a : Addr} {fs : List (Str × V)} (x : LH C H lv m c fl ss p st h n) (ha : H a = some (.ins C' dx fs)) (ne : lv ≠ a) (s : SmB a H H') : LH C H' lv m c fl ss p st h n := by
  obtain ⟨ps, e, y⟩ := x
  exact ⟨ps, e, y.smbO ha ne s⟩
theorem LH.at (x : LH C H lv m c fl ss p st h n) : LvAt C H lv m c (stM fl ss p st h) h n := by
  obtain ⟨ps, rfl, y⟩ := x
  exact y.at
theorem LH.ins (x : LH C H lv m c fl ss p st h n) : ∃ dx sa pa, H lv = some (.ins C dx (lvF m c sa pa)) := x.at.ins
theorem LH.new (hf : fl ≠ []) (x : LvAt C H lv m c (false, [], []) [] 0) : LH C H lv m c fl ss p st [] 0 := ⟨[], rfl, by rw [st_nil hf]; exact x.p⟩
theorem hear_lh {CR CK : Addr} {Q : VK} {E : XK} {b : List Bool} (x : LH C H lv m c fl ss p st h n) (k0 : Km CR CK m c fl ss p st H) (lp : p.length ≤ 1000) (ls : st.length + 1 = p.length) (hf : fl ≠ []) (hl : h.length + b.length ≤ 10000) (hn : n ≤ 10000)
    (k : ∀ q H', SmB lv H H' → LH C H' lv m c fl ss p st (h ++ b) (n + 1) → FrU H' q (clM fl ss p st h b) → Q (.ref q) H') : spHear C CR CK [.ref lv, .str (W b)] H Q E := by
  obtain ⟨ps, rfl, y⟩ := x
  exact ⟨lv, m, c, fl, ss, p, st, [], h, b, [], ps, rfl, y, k0.hR, k0.hC, lp, ls, hf, by rw [List.length_nil]; omega, Nat.zero_le _, hn, fun q H' sm y' hq => k q H' sm ⟨_, by rw [List.length_append]; rfl, y'⟩ hq⟩
theorem several_lh {CR CK l : Addr} {Q : VK} {E : XK} {ws : List (List Bool)} (x : LH C H lv m c fl ss p st h n) (k0 : Km CR CK m c fl ss p st H) (hq : H l = some (.lst (wdV ws))) (nm : m ≠ lv) (nc : c ≠ lv) (lp : p.length ≤ 1000) (ls : st.length + 1 = p.length) (hf : fl ≠ []) (hl : h.length + ws.flatten.length ≤ 10000) (lw : ws.length ≤ 1000) (hn : n ≤ 10000)
    (k : ∀ q qs H', SmB lv H H' → LH C H' lv m c fl ss p st (h ++ ws.flatten) (n + 1) → H' q = some (.tup (qs.map V.ref)) → Paired (fun q rs => FrU H' q rs) qs (clsM fl ss p st h ws) → Q (.ref q) H') : spSeveral C CR CK [.ref lv, .ref l] H Q E := by
  obtain ⟨ps, rfl, y⟩ := x
  exact ⟨lv, m, c, l, fl, ss, p, st, [], h, ws, [], ps, rfl, hq, y, k0.hR, nm, k0.hC, nc, lp, ls, hf, by rw [List.length_nil]; omega, lw, Nat.zero_le _, hn, fun q qs H' sm y' h1 h2 => k q qs H' sm ⟨_, by rw [List.length_append]; rfl, y'⟩ h1 h2⟩
end
theorem cls_len' {f : List Bool} {ss : List Stf} {p s h : List Bool} {ws : List (List Bool)} : (clsM f ss p s h ws).length = ws.length := cls_len f ss p s ws h
theorem cl_str (f : List Bool) (ss : List Stf) (p s h b : List Bool) : ∀ r ∈ clM f ss p s h b, PyData.strOk r.1 = true := by
  intro r hr
  have fr : ∀ l, ∀ r ∈ frM f ss p s l, PyData.strOk r.1 = true := fun l r hr => (fr_sm.2 r hr).2.2.1
  unfold clM at hr
  split at hr
  · unfold stM at hr
    split at hr
    · cases hr
    · exact fr _ r hr
  · exact fr _ r hr
theorem cls_str (f : List Bool) (ss : List Stf) (p s : List Bool) : ∀ (ws : List (List Bool)) (h : List Bool), ∀ rs ∈ clsM f ss p s h ws, ∀ r ∈ rs, PyData.strOk r.1 = true
  | [], h, rs, hr => by cases hr
  | x :: t, h, rs, hr => by
    rcases List.mem_cons.mp hr with rfl | hr
    · exact cl_str f ss p s h x
    · exact cls_str f ss p s t (h ++ x) rs hr
theorem st_len {f : List Bool} {ss : List Stf} {p s l : List Bool} : (stM f ss p s l).2.2.length ≤ l.length := by
  cases e : posM l f with
  | none => rw [st_none e]; exact Nat.zero_le _
  | some i =>
    rw [st_some e]
    refine Nat.le_trans fr_sm.1 ?_
    rw [List.length_drop]
    omega
theorem strs_dp {K : PySem.W.Frag} {H : Hp} : ∀ zs : List Str, DpAll K H (zs.map V.str) (zs.map PyData.str)
  | [] => .nil
  | z :: r => .cons (.str z) (strs_dp r)
theorem strs_ok {zs : List Str} (h : ∀ z ∈ zs, PyData.strOk z = true) : DOk 1 (.list (zs.map PyData.str)) := dok_list (n := 0) fun e he => by
  obtain ⟨z, hz, rfl⟩ := List.mem_map.mp he
  exact ⟨h z hz, Nat.zero_le _⟩
theorem st_str {f : List Bool} {ss : List Stf} {p s l : List Bool} (hf : f ≠ []) : ∀ r ∈ (stM f ss p s l).2.2, PyData.strOk r.1 = true := by
  rw [← cl_first hf]
  exact cl_str f ss p s [] l
theorem spPerm {ss ts : List Stf} (h : ts.Perm (ss.map swS)) (hs : SufFree ts) : ∀ l, putM ts l = putM (ss.map swS) l := fun l => put_perm hs h l
/-- a list of lists of pairs -/
def LLs (H : Hp) (D : Addr) (rss : List (List Rd2)) : Prop := ∃ bs : List Addr, H D = some (.lst (bs.map V.ref)) ∧ Paired (fun b rs => FrL H b rs) bs rss ∧ D ∉ bs
theorem paired_imp {α β : Type} {F G : α → β → Prop} : ∀ {l : List α} {m : List β}, Paired F l m → (∀ a b, a ∈ l → F a b → G a b) → Paired G l m
  | _, _, .nil, _ => .nil
  | _, _, .cons h r, f => .cons (f _ _ List.mem_cons_self h) (paired_imp r fun a b ha => f a b (List.mem_cons_of_mem _ ha))
theorem paired_mem {α β : Type} {F : α → β → Prop} : ∀ {l : List α} {m : List β} {a : α}, Paired F l m → a ∈ l → ∃ b, F a b
  | _, _, _, .nil, h => nomatch h
  | _, _, _, .cons h r, z => by
    rcases List.mem_cons.mp z with rfl | z
    · exact ⟨_, h⟩
    · exact paired_mem r z
theorem LLs.same {H H' : Hp} {D : Addr} {rss : List (List Rd2)} (h : LLs H D rss) (s : Same H H') : LLs H' D rss := by
  obtain ⟨bs, h1, h2, h3⟩ := h
  exact ⟨bs, s _ _ h1, paired_imp h2 fun b rs _ f => f.same s, h3⟩
theorem ll_push {H : Hp} {D l : Addr} {rss : List (List Rd2)} {rs : List Rd2} {bs ps : List Addr} {kb : Addr → Rd2} (h1 : H D = some (.lst (bs.map V.ref))) (h2 : Paired (fun b rs => FrL H b rs) bs rss) (h3 : D ∉ bs) (hT : FrT H kb ps) (hr : rs = ps.map kb) (nl : H l = none) :
    LLs (upd (upd H l (.lst (ps.map V.ref))) D (.lst (bs.map V.ref ++ [V.ref l]))) D (rss ++ [rs]) := by
  have lD : l ≠ D := fun z => by rw [z, h1] at nl; cases nl
  have kt : ∀ {kc : Addr → Rd2} {qs : List Addr}, FrT H kc qs → FrT (upd (upd H l (.lst (ps.map V.ref))) D (.lst (bs.map V.ref ++ [V.ref l]))) kc qs := fun hq t ht => by
    have e := hq t ht
    rw [upd_ne (ne_of e h1 (by intro z; cases z)), upd_ne (ne_of_none e nl)]
    exact e
  refine ⟨bs ++ [l], by rw [upd_same, List.map_append]; rfl, paired_snoc (paired_imp h2 fun b r hb f => ?_) ⟨ps, kb, by rw [upd_ne lD, upd_same], kt hT, hr⟩, fun z => ?_⟩
  · obtain ⟨qs, kc, f1, f2, f3⟩ := f
    refine ⟨qs, kc, ?_, kt f2, f3⟩
    rw [upd_ne (show b ≠ D from fun z => h3 (z ▸ hb)), upd_ne (ne_of_none f1 nl)]
    exact f1
  · rcases List.mem_append.mp z with z | z
    · exact h3 z
    · exact lD (List.mem_singleton.mp z).symm
theorem ll_join {H : Hp} : ∀ {bs : List Addr} {rss : List (List Rd2)}, Paired (fun b rs => FrL H b rs) bs rss → ∃ (rows : List (List V)) (ps : List Addr) (kb : Addr → Rd2), rows.length = bs.length ∧ (∀ (j : Nat) (b : Addr) (r : List V), bs[j]? = some b → rows[j]? = some r → H b = some (.lst r)) ∧ rows.flatten = ps.map V.ref ∧ FrT H kb ps ∧ rss.flatten = ps.map kb
  | _, _, .nil => ⟨[], [], fun _ => ("", none), rfl, (fun j b r h => nomatch h), rfl, (fun _ h => nomatch h), rfl⟩
  | _, _, .cons h r => by
    obtain ⟨rows, ps, kb, e1, e2, e3, e4, e5⟩ := ll_join r
    obtain ⟨qs, ka, f1, f2, f3⟩ := h
    obtain ⟨kc, g1, g2⟩ := fr_cat f2 e4
    refine ⟨qs.map V.ref :: rows, qs ++ ps, kc, by rw [List.length_cons, List.length_cons, e1], fun j b r h1 h2 => ?_, by rw [List.flatten_cons, e3, List.map_append], g1, by rw [List.flatten_cons, f3, e5, g2]⟩
    cases j with
    | zero =>
      cases h1
      cases h2
      exact f1
    | succ j => exact e2 j b r (by simpa using h1) (by simpa using h2)
theorem ll_sum {H : Hp} {Q : VK} {D p0 : Addr} {rss : List (List Rd2)} (h : LLs H D rss) (hne : rss ≠ []) (hp : H p0 = some (.lst [])) (hz : rss.flatten.length ≤ sizeLine) (k : ∀ q H', Same H H' → FrL H' q rss.flatten → Q (.ref q) H') : SumL.rSumL [.ref D, .ref p0] H Q := by
  obtain ⟨bs, h1, h2, h3⟩ := h
  obtain ⟨rows, ps, kb, e1, e2, e3, e4, e5⟩ := ll_join h2
  have lz : rows.flatten.length = rss.flatten.length := by rw [e3, e5, List.length_map, List.length_map]
  refine ⟨D, p0, bs, rows, [], rfl, fun z => hne ?_, h1, hp, e1, e2, by rw [lz, List.length_nil, Nat.zero_add]; exact hz, fun q nq => ?_⟩
  · have := paired_len h2
    rw [z] at this
    exact List.length_eq_zero_iff.mp this.symm
  · have s := same_upd (o := .lst ([] ++ rows.flatten)) nq
    exact k q _ s ⟨ps, kb, by rw [upd_same, List.nil_append, e3], e4.same s, e5⟩
theorem paired_at {α β : Type} {F : α → β → Prop} : ∀ {l : List α} {m : List β} {i : Nat} {a : α}, Paired F l m → l[i]? = some a → ∃ b, m[i]? = some b ∧ F a b
  | _, _, _, _, .nil, h => by cases h
  | _, _, 0, _, .cons h r, e => by
    cases e
    exact ⟨_, rfl, h⟩
  | _, _, i + 1, _, .cons h r, e => paired_at (i := i) r (by simpa using e)
theorem sl_frG {K : PySem.W.Frag} {H : Hp} {Q : VK} {q : Addr} {rs : List Rd2} {lo hi : Option Int} (h : FrU H q rs) (k : ∀ q' H', Same H H' → FrU H' q' ((rs.drop (HT.sIx rs.length 0 lo)).take (HT.sIx rs.length rs.length hi - HT.sIx rs.length 0 lo)) → Q (.ref q') H') : rSlA K (.ref q) lo hi H Q := by
  obtain ⟨ps, kb, h1, h2, rfl⟩ := id h
  rw [List.length_map] at k
  refine ⟨q, _, rfl, SqT.of h1, fun hw => ?_, fun _ p np => ?_⟩
  · rw [List.length_map] at hw
    refine k q H (Same.refl _) ?_
    rw [hw.1, hw.2, List.drop_zero, Nat.sub_zero, List.take_of_length_le (by rw [List.length_map]; exact Nat.le_refl _)]
    exact h
  · have s := same_upd (o := .tup (cutV (ps.map V.ref) lo hi)) np
    refine k p _ s ⟨(ps.drop (HT.sIx ps.length 0 lo)).take (HT.sIx ps.length ps.length hi - HT.sIx ps.length 0 lo), kb, ?_, fun t ht => s _ _ (h2 t (List.mem_of_mem_drop (List.mem_of_mem_take ht))), ?_⟩
    · rw [upd_same]
      unfold cutV
      rw [List.length_map, List.map_take, List.map_drop]
    · rw [List.map_take, List.map_drop]
theorem sl_frT {K : PySem.W.Frag} {H : Hp} {Q : VK} {q : Addr} {rs : List Rd2} {i : Nat} (h : FrU H q rs) (k : ∀ q' H', Same H H' → FrU H' q' (rs.take i) → Q (.ref q') H') : rSlA K (.ref q) none (some (i : Int)) H Q := by
  refine sl_frG h fun q' H' s h' => k q' H' s ?_
  rw [HT.sIx_none, HT.sIx_nat, List.drop_zero, Nat.sub_zero] at h'
  rw [← List.take_eq_take_min] at h'
  exact h'
end U

set_option maxRecDepth 100000
set_option maxHeartbeats 4000000
set_option pp.maxSteps 400
namespace U
open PySem PySem.Spec PyProof.Rows
open L2 hiding Fun CX0 E0 pass0 Fun.binds
open C8 Lx SX StX
def spMirror (C : Addr) : Sp := fun vs H Q _ => ∃ (m : Addr) (f : List Bool) (ss : List Stf) (l : List Bool), vs = [.ref m, .str (W l)] ∧ RuAt C H m f ss ∧ StOk ss ∧ OkN 39 ss ∧ 2 ≤ f.length ∧ f.length ≤ 1000 ∧ l.length ≤ 1000 ∧ ∀ H', Same H H' → Q (.bl true) H'
def spLong (C CK : Addr) : Sp := fun vs H Q _ => ∃ (b m c : Addr) (f : List Bool) (ss : List Stf) (p s : List Bool), vs = [.ref b, .ref m, .ref c] ∧ Box H b ∧ Km C CK m c f ss p s H ∧ p.length ≤ 1000 ∧ s.length + 1 = p.length ∧ f ≠ [] ∧ ∀ H', Up b H H' → Q (.bl true) H'
section
variable {P : Program} {w : World} {K : PySem.W.Frag} {mg : Str → Option Value} {base : Heap}
theorem sc_l_mirror_right : FnScope ["_law_made", "_law_line", "_law_plain", "_law_mirror", "_law_bit", "_law_reason", "_law_data"] ["_law_made", "_law_line"] (fnScope s_l_mirror_right) := fnScope_by (by decide +kernel)
theorem cal_l_mirror_right {f CL C CK : Addr} {fd : FuncData} (F : Def K mg "_law_mirror_right" s_l_mirror_right f fd) (b : Binds K fd ["_law_made", "_law_line"] []) (T : Tx mg)
    (c_l_turn : Cal P w K mg base 1 "_law_turn" spTurn []) (c_hear : Met P w K mg base 7 CL "hear" (spHear CL C CK) []) (c_swapped : Met P w K mg base 7 C "swapped" (spSwapped C) []) (p_found : Prp P w K mg base 1 CL "found" (spFound CL))
    (m_Check0 : Mak P w K mg base 2 "Check" CK (spCkInit CK) [.str "1", .non]) (m_Live2 : Mak P w K mg base 1 "Live" CL (spLvInit CL) []) :
    Cal P w K mg base 8 "_law_mirror_right" (spMirror C) [] := by
  refine cal0 F b .nil sc_l_mirror_right (fun vs H Q E h => ?_) (fun cdv A outer s H vs Q E hr h => ?_)
  · obtain ⟨_, _, _, _, rfl, _⟩ := h; rfl
  · obtain ⟨m, fl, ss, l, rfl, hR, ok, o39, a1, a2, ll, k⟩ := h
    refine ⟨_, (pss_cons (ps_par (i := 2) (j := 3) (by rfl) sc_l_mirror_right.nd rfl rfl (by decide) rfl rfl (pa_cons (pe_mk m_Live2 hr (by decide) rfl (pa_cons (pv 0) (pa_cons (pe_mk0 m_Check0 hr (by decide) rfl) pa_nil))) (pa_cons (pe_mk m_Live2 hr (by decide) rfl (pa_cons (pe_mt0 (pl := _) c_swapped hr (by decide) (pv 0)) (pa_cons (pe_mk0 m_Check0 hr (by decide) rfl) pa_nil))) pa_nil)) (by rfl))
    (pss_cons (ps_expr (pe_mt (pl := _) c_hear hr (by decide) (pv 2) (pa_cons (pv 1) pa_nil)))
    (pss_cons (ps_expr (pe_mt (pl := _) c_hear hr (by decide) (pv 3) (pa_cons (pe_join pe_str (pe_lc (own := [("_law_bit", 4)]) (g := gName 4) (by rfl) sc_l_mirror_right.nd (pi_str (pv 1)) (blkOk_by (own := [("_law_bit", 4)]) (N := ["_law_made", "_law_line", "_law_plain", "_law_mirror", "_law_bit", "_law_reason", "_law_data"]) (sc := fnScope s_l_mirror_right) (by decide +kernel)) (fun _ _ _ _ _ => (pg_name (i := 4) sc_l_mirror_right.nd rfl (.inl rfl))) (fun _ _ _ _ _ => pts_nil) (fun _ _ _ _ _ => (pe_c c_l_turn hr (by decide) rfl (pa_cons (pv 4) pa_nil))))) pa_nil)))
    (pss_one (ps_ret (pe_cmpR (op_eqD hr.units) (pe_lc (own := [("_law_reason", 5), ("_law_data", 6)]) (g := gTup K 2 (gCons (gName 5) (gCons (gName 6) gNil))) (by rfl) sc_l_mirror_right.nd (pi_tup (pe_pr p_found hr (by decide) (pv 3))) (blkOk_by (own := [("_law_reason", 5), ("_law_data", 6)]) (N := ["_law_made", "_law_line", "_law_plain", "_law_mirror", "_law_bit", "_law_reason", "_law_data"]) (sc := fnScope s_l_mirror_right) (by decide +kernel)) (fun _ _ _ _ _ => (pg_tup rfl (pgs_cons (pg_name (i := 5) sc_l_mirror_right.nd rfl (.inl rfl)) (pgs_cons (pg_name (i := 6) sc_l_mirror_right.nd rfl (.inl rfl)) pgs_nil)))) (fun _ _ _ _ _ => pts_nil) (fun _ _ _ _ _ => (pv 5))) (pe_lc (own := [("_law_reason", 5), ("_law_data", 6)]) (g := gTup K 2 (gCons (gName 5) (gCons (gName 6) gNil))) (by rfl) sc_l_mirror_right.nd (pi_tup (pe_pr p_found hr (by decide) (pv 2))) (blkOk_by (own := [("_law_reason", 5), ("_law_data", 6)]) (N := ["_law_made", "_law_line", "_law_plain", "_law_mirror", "_law_bit", "_law_reason", "_law_data"]) (sc := fnScope s_l_mirror_right) (by decide +kernel)) (fun _ _ _ _ _ => (pg_tup rfl (pgs_cons (pg_name (i := 5) sc_l_mirror_right.nd rfl (.inl rfl)) (pgs_cons (pg_name (i := 6) sc_l_mirror_right.nd rfl (.inl rfl)) pgs_nil)))) (fun _ _ _ _ _ => pts_nil) (fun _ _ _ _ _ => (pv 5))) (nomark _))))))), ?_⟩
    have fnn : fl ≠ [] := fun e => by rw [e] at a1; cases a1
    refine ⟨_, rfl, mk_ck0 fun c1 H1 s1 hC1 => mk_lv fun lv H2 nlv s2 hL2 => ?_⟩
    obtain ⟨dm0, tm0, em0⟩ := hR.few
    refine ⟨_, rfl, m, dm0, _, rfl, (s1.trans s2) _ _ em0, by rfl, m, fl, ss, rfl, hR.same (s1.trans s2), ok, o39.ok, a1, a2, fun x ss' H3 s3 pm srt hX3 => mk_ck0 fun c2 H4 s4 hC4 => mk_lv fun l2 H5 nl2 s5 hL5 => ?_⟩
    have s25 := (s3.trans s4).trans s5
    have k1 : Km C CK m c1 fl ss [true] [] H5 := ⟨hR.same ((s1.trans s2).trans s25), hC1.same (s2.trans s25)⟩
    have k2 : Km C CK x c2 (sw fl) ss' [true] [] H5 := ⟨hX3.same (s4.trans s5), hC4.same s5⟩
    have fnn2 : sw fl ≠ [] := fun z => fnn (List.length_eq_zero_iff.mp (by rw [← sw_len, z]; rfl))
    have hA1 : LH CL H5 lv m c1 fl ss [true] [] [] 0 := (LH.new fnn hL2).same s25
    have hA2 : LH CL H5 l2 x c2 (sw fl) ss' [true] [] [] 0 := LH.new fnn2 hL5
    obtain ⟨dx1, sa1, pa1, hin1⟩ := hA1.ins
    obtain ⟨dx2, sa2, pa2, hin2⟩ := hA2.ins
    have n12 : lv ≠ l2 := by
      obtain ⟨dz, sz, pz, ez⟩ := hL2.ins
      exact ne_of_none (s3.trans s4 _ _ ez) nl2
    have m1 : m ≠ lv := ne_of_none (s1 _ _ em0) nlv
    have c1n : c1 ≠ lv := by
      obtain ⟨d, e⟩ := id hC1
      exact ne_of_none e nlv
    have mx : ∀ (y d s p : Addr) {r' c' : Addr}, H5 y = some (.ins CL d (lvF r' c' s p)) → x ≠ y := fun y d s p r' c' ey z => by
      obtain ⟨d, t, e⟩ := k2.hR.few
      rw [z] at e
      have h := Option.some.inj (ey.symm.trans e)
      injection h with _ _ h3
      exact absurd (congrArg List.length h3) (by show ¬ (4 : Nat) = 2; decide)
    have x1 : x ≠ lv := mx _ _ _ _ hin1
    have x2 : x ≠ l2 := mx _ _ _ _ hin2
    have ml2 : m ≠ l2 := ne_of_none (s3.trans s4 _ _ ((s1.trans s2) _ _ em0)) nl2
    have c1l : c1 ≠ l2 := by
      obtain ⟨d, e⟩ := id hC1
      exact ne_of_none (s3.trans s4 _ _ (s2 _ _ e)) nl2
    have c2l : c2 ≠ l2 := by
      obtain ⟨d, e⟩ := id hC4
      exact ne_of_none e nl2
    have c2n : c2 ≠ lv := fun z => by
      obtain ⟨d, e⟩ := k2.hC
      rw [z] at e
      have h := Option.some.inj (hin1.symm.trans e)
      injection h with _ _ h3
      exact absurd (congrArg List.length h3) (by show ¬ (4 : Nat) = 2; decide)
    have sH : Same H H5 := (s1.trans s2).trans s25
    have nH1 : H lv = none := s1.free nlv
    have nH2 : H l2 = none := (((s1.trans s2).trans s3).trans s4).free nl2
    clear hR hC1 hL2 s1 s2 s3 s4 s5 s25 hX3 hC4 hL5 nlv nl2 em0
    have wl : (W l).length = l.length := W_len l
    -- heard
    refine ⟨_, _, rfl, ?_⟩
    refine ⟨_, rfl, lv, dx1, _, rfl, hin1, by rfl, _, rfl, ?_⟩
    try dsimp only [tNil, List.append_nil]
    refine hear_lh hA1 k1 (by decide) rfl fnn (by rw [List.length_nil]; omega) (by decide) fun q1 H6 sm6 hA16 _ => ?_
    have hA26 := hA2.smbO hin1 n12.symm sm6
    have k16 := k1.smb hin1 m1 c1n sm6
    have k26 := k2.smb hin1 x1 c2n sm6
    obtain ⟨dx6, sa6, pa6, hin6⟩ := hA26.ins
    refine ⟨_, rfl, l2, dx6, _, rfl, hin6, by rfl, ⟨_, rfl⟩, _, rfl, _, rfl, fun D nD => ?_⟩
    refine lc_it walk_str (fun i H7 => Same H6 H7 ∧ H7 D = some (.lst (bitsV (sw (l.take i))))) ⟨same_upd nD, upd_same⟩ (fun _ _ _ _ => trivial) ?_ ?_
    · rintro i x H7 H8 hi ⟨s7, hD⟩ ⟨rfl, cc, hc, rfl⟩
      obtain ⟨bb, hbb, rfl⟩ := W_get hc
      refine ⟨rfl, _, rfl, bb, rfl, _, hD, ?_, ?_, ?_⟩
      · rw [bitsV_len, sw_len, List.length_take]; exact sl_lt (by omega)
      · intro c' o e'
        rw [upd_ne (ne_of_none e' nD)]
        exact s7 _ _ e'
      · rw [upd_same, bitsV_snoc, List.take_add_one, hbb, sw_app]
        rfl
    rintro H7 ⟨s7, hD⟩
    rw [W_size, List.take_length] at hD
    refine ⟨_, D, (sw l).map fun b => W [b], rfl, rfl, .inl (SqL.of hD), ?_, ?_⟩
    · rw [lens_bits, empty_len, sw_len]; omega
    try dsimp only [tNil, List.append_nil]
    rw [join_bits]
    refine hear_lh (hA26.same s7) (k26.same s7) (by decide) rfl fnn2 (by rw [sw_len, List.length_nil]; omega) (by decide) fun q2 H8 sm8 hA28 _ => ?_
    have hin7 := s7 _ _ hin6
    have hA18 := (hA16.same s7).smbO hin7 n12 sm8
    obtain ⟨d8, sa8, pa8, hin8⟩ := hA18.ins
    obtain ⟨d9, sa9, pa9, hin9⟩ := hA28.ins
    -- the reasons
    have reas : ∀ {H0 Hx : Hp} {D q : Addr} {ps : List Addr} {kb : Addr → Rd2}, True := trivial
    refine ⟨_, rfl, l2, d9, _, rfl, hin9, l2, x, c2, _, _, _, rfl, hA28.at, fun qf hqf => ?_⟩
    obtain ⟨ps2, kb2, f1, f2, f3⟩ := hqf
    refine ⟨qf, rfl, ⟨_, SqT.of f1⟩, fun D1 nD1 => ?_⟩
    refine lc_it (walk_tup (xs := ps2.map V.ref)) (fun i H9 => Same H8 H9 ∧ H9 D1 = some (.lst (((ps2.take i).map kb2).map fun r => V.str r.1))) ⟨same_upd nD1, upd_same⟩ (fun i H9 _ h => SqT.of (h.1 _ _ f1)) ?_ ?_
    · rintro i y H9 H10 hi ⟨s9, hD1⟩ ⟨rfl, hy⟩
      rw [List.getElem?_map] at hy
      obtain ⟨t, ht, rfl⟩ := Option.map_eq_some_iff.mp hy
      refine ⟨t, _, rfl, SqT.of (s9 _ _ (f2 t (List.mem_of_getElem? ht))), rfl, _, _, rfl, _, _, rfl, rfl, rfl, ?_⟩
      have hi' := (List.getElem?_eq_some_iff.mp ht).1
      have ln := congrArg List.length f3
      rw [List.length_map] at ln
      have l2 : (stM (sw fl) ss' [true] [] ([] ++ sw l)).2.2.length ≤ l.length := Nat.le_trans st_len (by rw [List.nil_append, sw_len]; exact Nat.le_refl _)
      refine ⟨_, rfl, _, hD1, by rw [List.length_map, List.length_map, List.length_take]; exact sl_lt (by omega), same_mut' s9 nD1, ?_⟩
      rw [upd_same, List.take_add_one, ht, List.map_append, List.map_append]
      rfl
    rintro H9 ⟨s9, hD1⟩
    rw [List.length_map, List.take_length, ← f3] at hD1
    have hA19 := hA18.same s9
    refine ⟨_, rfl, lv, d8, _, rfl, s9 _ _ hin8, lv, m, c1, _, _, _, rfl, hA19.at, fun qg hqg => ?_⟩
    obtain ⟨ps3, kb3, g1, g2, g3⟩ := hqg
    refine ⟨qg, rfl, ⟨_, SqT.of g1⟩, fun D3 nD3 => ?_⟩
    refine lc_it (walk_tup (xs := ps3.map V.ref)) (fun i HA => Same H9 HA ∧ HA D3 = some (.lst (((ps3.take i).map kb3).map fun r => V.str r.1))) ⟨same_upd nD3, upd_same⟩ (fun i HA _ h => SqT.of (h.1 _ _ g1)) ?_ ?_
    · rintro i y HA HB hi ⟨sA, hD3⟩ ⟨rfl, hy⟩
      rw [List.getElem?_map] at hy
      obtain ⟨t, ht, rfl⟩ := Option.map_eq_some_iff.mp hy
      refine ⟨t, _, rfl, SqT.of (sA _ _ (g2 t (List.mem_of_getElem? ht))), rfl, _, _, rfl, _, _, rfl, rfl, rfl, ?_⟩
      have hi' := (List.getElem?_eq_some_iff.mp ht).1
      have ln := congrArg List.length g3
      rw [List.length_map] at ln
      have l2 : (stM fl ss [true] [] ([] ++ l)).2.2.length ≤ l.length := Nat.le_trans st_len (by rw [List.nil_append]; exact Nat.le_refl _)
      refine ⟨_, rfl, _, hD3, by rw [List.length_map, List.length_map, List.length_take]; exact sl_lt (by omega), same_mut' sA nD3, ?_⟩
      rw [upd_same, List.take_add_one, ht, List.map_append, List.map_append]
      rfl
    rintro HA ⟨sA, hD3⟩
    rw [List.length_map, List.take_length, ← g3] at hD3
    have hp : ∀ l, putM ss' l = putM (ss.map swS) l := fun l => put_perm (ok.sw.perm pm.symm).free pm l
    have eq : ((stM (sw fl) ss' [true] [] ([] ++ sw l)).2.2.map (·.1)) = ((stM fl ss [true] [] ([] ++ l)).2.2.map (·.1)) := by
      rw [List.nil_append, List.nil_append, st_congr hp]
      exact st_sw fl ss l
    have o1 : DOk 1 (.list (((stM fl ss [true] [] ([] ++ l)).2.2.map (·.1)).map PyData.str)) := strs_ok fun z hz => by
      obtain ⟨r, hr, rfl⟩ := List.mem_map.mp hz
      exact st_str fnn r hr
    have d2 : Dp K HA (.ref D1) (.list (((stM (sw fl) ss' [true] [] ([] ++ sw l)).2.2.map (·.1)).map PyData.str)) := .lst (SqL.of (sA _ _ hD1)) (by
      have := strs_dp (K := K) (H := HA) ((stM (sw fl) ss' [true] [] ([] ++ sw l)).2.2.map (·.1))
      rw [List.map_map] at this
      exact this)
    have d3 : Dp K HA (.ref D3) (.list (((stM fl ss [true] [] ([] ++ l)).2.2.map (·.1)).map PyData.str)) := .lst (SqL.of hD3) (by
      have := strs_dp (K := K) (H := HA) ((stM fl ss [true] [] ([] ++ l)).2.2.map (·.1))
      rw [List.map_map] at this
      exact this)
    rw [eq] at d2
    refine ⟨_, _, d2, d3, o1.shaped (by decide), o1.shaped (by decide), ?_⟩
    rw [o1.refl]
    refine k HA (fun cc o e => ?_)
    have e5 := sH _ _ e
    exact sA _ _ (s9 _ _ (sm8 _ _ (s7 _ _ (sm6 _ _ e5 (ne_of_none e nH1))) (ne_of_none e nH2)))
theorem sc_l_long_right : FnScope ["_law_box", "_law_made", "_law_asked", "_law_line", "_law_one", "_law_mate", "_law_told", "_law_lot"] ["_law_box", "_law_made", "_law_asked"] (fnScope s_l_long_right) := fnScope_by (by decide +kernel)
theorem cal_l_long_right {f CL C CK : Addr} {fd : FuncData} (F : Def K mg "_law_long_right" s_l_long_right f fd) (b : Binds K fd ["_law_box", "_law_made", "_law_asked"] []) (T : Tx mg)
    (c_l_word : Cal P w K mg base 3 "_law_word" spWordN []) (c_hear : Met P w K mg base 7 CL "hear" (spHear CL C CK) []) (c_several : Met P w K mg base 7 CL "several" (spSeveral CL C CK) []) (p_found : Prp P w K mg base 1 CL "found" (spFound CL)) (p_part : Prp P w K mg base 1 CL "part" (spPart CL)) (p_heard : Prp P w K mg base 1 CL "heard" (spHeard CL)) (p_is_open : Prp P w K mg base 1 CL "is_open" (spIsOpen CL))
    (m_Live2 : Mak P w K mg base 1 "Live" CL (spLvInit CL) []) :
    Cal P w K mg base 8 "_law_long_right" (spLong C CK) [] := by
  refine cal0 F b .nil sc_l_long_right (fun vs H Q E h => ?_) (fun cdv A outer s H vs Q E hr h => ?_)
  · obtain ⟨_, _, _, _, _, _, _, rfl, _⟩ := h; rfl
  · obtain ⟨bx, m, c, fl, ss, p, st, rfl, hb, km, lp, ls, fnn, k⟩ := h
    refine ⟨_, (pss_cons (ps_par3 (i := 3) (j := 4) (l := 5) (by rfl) sc_l_long_right.nd rfl rfl rfl (by decide) (by decide) (by decide) rfl rfl rfl (pa_cons (pe_op op_rep_str (pe_c c_l_word hr (by decide) rfl (pa_cons (pv 0) (pa_cons pe_int pa_nil))) pe_int) (pa_cons (pe_mk m_Live2 hr (by decide) rfl (pa_cons (pv 1) (pa_cons (pv 2) pa_nil))) (pa_cons (pe_mk m_Live2 hr (by decide) rfl (pa_cons (pv 1) (pa_cons (pv 2) pa_nil))) pa_nil))) (by rfl))
    (pss_cons (ps_set (i := 6) sc_l_long_right.nd rfl (.inl rfl) (pe_mt (pl := _) c_hear hr (by decide) (pv 4) (pa_cons (pv 3) pa_nil)))
    (pss_cons (ps_if (pt_cmpR (op_neD hr.units) (pe_callB (SumL.cr_sumL rfl) (by rfl) T.b_sum (by decide +kernel) (pa_cons (pe_lc (own := [("_law_lot", 7)]) (g := gName 7) (by rfl) sc_l_long_right.nd (pi_tup (pe_mt (pl := _) c_several hr (by decide) (pv 5) (pa_cons (pe_lst (pa_cons (pe_slice sl_txt (pv 3) po_none (po_some pe_int)) (pa_cons (pe_slice sl_txt (pv 3) (po_some pe_int) (po_some pe_int)) (pa_cons (pe_slice sl_txt (pv 3) (po_some pe_int) po_none) pa_nil)))) pa_nil))) (blkOk_by (own := [("_law_lot", 7)]) (N := ["_law_box", "_law_made", "_law_asked", "_law_line", "_law_one", "_law_mate", "_law_told", "_law_lot"]) (sc := fnScope s_l_long_right) (by decide +kernel)) (fun _ _ _ _ _ => (pg_name (i := 7) sc_l_long_right.nd rfl (.inl rfl))) (fun _ _ _ _ _ => pts_nil) (fun _ _ _ _ _ => (pe_callTy (show CallR _ (.type "list") (SumL.rListOf K) from call_list_of) (by rfl) T.b_list (by decide +kernel) (pa_cons (pv 7) pa_nil)))) (pa_cons (pe_lst pa_nil) pa_nil))) (pe_callTy call_list_of (by rfl) T.b_list (by decide +kernel) (pa_cons (pv 6) pa_nil)) (nomark _)) (pss_one (ps_ret pe_bl)) pss_nil)
    (pss_one (ps_ret (pe_cmpR (op_eqD hr.units) (pe_tup (pa_cons (pe_pr p_found hr (by decide) (pv 5)) (pa_cons (pe_pr p_part hr (by decide) (pv 5)) (pa_cons (pe_pr p_heard hr (by decide) (pv 5)) (pa_cons (pe_pr p_is_open hr (by decide) (pv 5)) pa_nil))))) (pe_tup (pa_cons (pe_pr p_found hr (by decide) (pv 4)) (pa_cons (pe_pr p_part hr (by decide) (pv 4)) (pa_cons (pv 3) (pa_cons (pe_pr p_is_open hr (by decide) (pv 4)) pa_nil))))) (nomark _))))))), ?_⟩
    refine ⟨_, rfl, bx, 29, rfl, hb, by decide, fun w29 H1 lw u1 => ?_⟩
    have lww : (W w29).length = 29 := by rw [W_len, lw]
    refine ⟨_, _, rfl, rfl, by omega, by omega, by rw [lww]; decide, ?_⟩
    have em : Txt.mul (W w29) 10 = W (List.replicate 10 w29).flatten := mul_W (n := 10) (by decide)
    rw [em]
    have lL : (List.replicate 10 w29).flatten.length = 290 := by simp [lw]
    generalize (List.replicate 10 w29).flatten = L at lL
    clear em lww
    have wL : (W L).length = 290 := by rw [W_len, lL]
    refine ⟨_, rfl, _, rfl, mk_lv fun lv H2 nlv s2 hL2 => ⟨_, rfl, _, rfl, mk_lv fun l2 H3 nl2 s3 hL3 => ?_⟩⟩
    have km1 := km.up hb u1
    obtain ⟨dm, tm, em⟩ := km1.hR.few
    obtain ⟨dc, ec⟩ := id km1.hC
    have m1 : m ≠ lv := ne_of_none em nlv
    have c1 : c ≠ lv := ne_of_none ec nlv
    have m2 : m ≠ l2 := ne_of_none (s2 _ _ em) nl2
    have c2 : c ≠ l2 := ne_of_none (s2 _ _ ec) nl2
    have n12 : lv ≠ l2 := by
      obtain ⟨dz, sz, pz, ez⟩ := hL2.ins
      exact ne_of_none ez nl2
    have km3 := km1.same (s2.trans s3)
    have hA1 : LH CL H3 lv m c fl ss p st [] 0 := (LH.new fnn hL2).same s3
    have hA2 : LH CL H3 l2 m c fl ss p st [] 0 := LH.new fnn hL3
    obtain ⟨dx1, sa1, pa1, hin1⟩ := hA1.ins
    have b1 : lv ≠ bx := u1.2.ne nlv
    have b2 : l2 ≠ bx := (u1.same s2).2.ne nl2
    have z1 : H lv = none := u1.free nlv
    have z2 : H l2 = none := (u1.same s2).free nl2
    have u3 := (u1.same s2).same s3
    clear hL2 hL3 nlv nl2 km1 em ec
    refine ⟨_, _, _, rfl, ?_⟩
    refine ⟨_, rfl, lv, dx1, _, rfl, hin1, by rfl, _, rfl, ?_⟩
    try dsimp only [tNil, List.append_nil]
    refine hear_lh hA1 km3 lp ls fnn (by rw [lL, List.length_nil]; decide) (by decide) fun q1 H5 sm5 hA15 hq1 => ?_
    have hA25 := hA2.smbO hin1 n12.symm sm5
    have km5 := km3.smb hin1 m1 c1 sm5
    have u5 := u3.smb z1 b1 sm5
    obtain ⟨dx2, sa2, pa2, hin2⟩ := hA25.ins
    refine ⟨_, rfl, l2, dx2, _, rfl, hin2, by rfl, ?_⟩
    refine ⟨_, rfl, _, rfl, _, rfl, by rw [wL]; exact sl_len (by omega), ?_⟩
    refine ⟨_, rfl, _, rfl, _, rfl, _, rfl, by rw [wL]; exact sl_len (by omega), ?_⟩
    refine ⟨_, rfl, _, rfl, _, rfl, by rw [wL]; exact sl_len (by omega), ?_⟩
    have t1 : Txt.slice (W L) none (some 100) = W (L.take 100) := W_take (by decide)
    have t2 : Txt.slice (W L) (some 100) (some 101) = W ((L.drop 100).take 1) := W_mid (i := 100) (n := 1) (by omega)
    have t3 : Txt.slice (W L) (some 101) none = W (L.drop 101) := W_drop (by decide)
    rw [t1, t2, t3]
    refine ⟨by show 3 ≤ sizeLine; decide, fun q nq => ?_⟩
    have ef : ([L.take 100, (L.drop 100).take 1, L.drop 101] : List (List Bool)).flatten = L := by
      have e1 : L.drop 101 = (L.drop 100).drop 1 := by rw [List.drop_drop]
      rw [e1]
      simp only [List.flatten_cons, List.flatten_nil, List.append_nil]
      rw [List.take_append_drop, List.take_append_drop]
    have sq := same_upd (o := .lst [.str (W (L.take 100)), .str (W ((L.drop 100).take 1)), .str (W (L.drop 101))]) nq
    have hq : upd H5 q (.lst [.str (W (L.take 100)), .str (W ((L.drop 100).take 1)), .str (W (L.drop 101))]) q = some (.lst (wdV [L.take 100, (L.drop 100).take 1, L.drop 101])) := upd_same
    have hA26 := hA25.same sq
    have hA16 := hA15.same sq
    have km6 := km5.same sq
    have hq16 := hq1.same sq
    have u6 := u5.same sq
    have hin6 := sq _ _ hin2
    generalize upd H5 q (.lst [.str (W (L.take 100)), .str (W ((L.drop 100).take 1)), .str (W (L.drop 101))]) = H6 at hq hA26 hA16 km6 hq16 u6 hin6
    clear hA25 hA15 km5 hq1 u5 hin2 sq nq t1 t2 t3
    have ew : ([L.take 100, (L.drop 100).take 1, L.drop 101] : List (List Bool)).length = 3 := rfl
    generalize ([L.take 100, (L.drop 100).take 1, L.drop 101] : List (List Bool)) = ws at ef hq ew
    have lws : ws.length = 3 := ew
    try dsimp only [tNil, List.append_nil]
    refine several_lh hA26 km6 hq m2 c2 lp ls fnn (by rw [ef, lL, List.length_nil]; decide) (by omega) (by decide) fun q2 qs H7 sm7 hA27 hq2 hp2 => ?_
    rw [ef] at hA27
    have hA17 := hA16.smbO hin6 n12 sm7
    have hq17 := hq16.smb hin6 sm7
    have u7 := u6.smb z2 b2 sm7
    clear hA26 hA16 hq16 u6 hin6 sm7 km6 hq
    have lqs : qs.length = 3 := by rw [paired_len hp2, cls_len', lws]
    refine ⟨q2, rfl, ⟨_, SqT.of hq2⟩, fun D nD => ?_⟩
    refine lc_it (walk_tup (xs := qs.map V.ref)) (fun i H8 => Same H7 H8 ∧ LLs H8 D ((clsM fl ss p st [] ws).take i)) ⟨same_upd nD, [], upd_same, .nil, fun h => nomatch h⟩ (fun i H8 _ h => SqT.of (h.1 _ _ hq2)) ?_ ?_
    · rintro i y H8 H9 hi ⟨s8, bs, hD, hbs, nDb⟩ ⟨rfl, hy⟩
      rw [List.getElem?_map] at hy
      obtain ⟨t, ht, rfl⟩ := Option.map_eq_some_iff.mp hy
      obtain ⟨rs, hrs, hfr⟩ := paired_at hp2 ht
      obtain ⟨ps, kb, f1, f2, f3⟩ := hfr.same s8
      have lbs : bs.length ≤ 3 := by
        have := paired_len hbs
        rw [List.length_take, cls_len', lws] at this
        omega
      refine ⟨rfl, _, rfl, t, _, rfl, .inr (SqT.of f1), fun l nl => ?_⟩
      have sl := same_upd (o := .lst (ps.map V.ref)) nl
      refine ⟨_, sl _ _ hD, by rw [List.length_map]; exact sl_lt (by omega), same_mut' (s8.trans sl) nD, ?_⟩
      rw [List.take_add_one, hrs]
      exact ll_push hD hbs nDb f2 f3 nl
    rintro H8 ⟨s8, hD⟩
    rw [List.length_map, lqs, ← lws, ← cls_len' (f := fl) (ss := ss) (p := p) (s := st) (h := []), List.take_length] at hD
    refine ⟨Nat.zero_le _, fun p0 np0 => ?_⟩
    try dsimp only [tNil, List.append_nil]
    have sp0 := same_upd (o := .lst []) np0
    refine ll_sum (hD.same sp0) (fun z => by have := congrArg List.length z; rw [cls_len', lws] at this; cases this) upd_same (by rw [cls_flat fnn, ef, cl_first fnn]; exact sl_len (Nat.le_trans st_len (by omega))) fun q3 H9 s9 hq3 => ?_
    rw [cls_flat fnn, ef] at hq3
    have s79 := (s8.trans sp0).trans s9
    have hq19 := hq17.same s79
    obtain ⟨ps, kb, f1, f2, f3⟩ := id hq19
    refine ⟨_, rfl, q1, _, rfl, .inr (SqT.of f1), fun l3 nl3 => ?_⟩
    have sl := same_upd (o := .lst (ps.map V.ref)) nl3
    have okL : DOk 2 (.list ((clM fl ss p st [] L).map prD)) := frL_ok (cl_str fl ss p st [] L)
    refine ⟨_, _, frL_dp (hq3.same sl), frL_dp ⟨ps, kb, upd_same, f2.same sl, f3⟩, okL.shaped (by decide), okL.shaped (by decide), _, rfl, iteBF (by rw [okL.refl]; rfl) ?_⟩
    have s7a := s79.trans sl
    have hA1a := hA17.same s7a
    have hA2a := hA27.same s7a
    have ua := u7.same s7a
    generalize upd H9 l3 (.lst (ps.map V.ref)) = HA at s7a hA1a hA2a ua ⊢
    obtain ⟨d1, x1, y1, i1⟩ := hA1a.ins
    obtain ⟨d2, x2, y2, i2⟩ := hA2a.ins
    refine ⟨_, rfl, l2, d2, _, rfl, i2, l2, m, c, _, _, _, rfl, hA2a.at, fun qf hqf => ?_⟩
    refine ⟨_, rfl, l2, d2, _, rfl, i2, l2, m, c, _, _, _, rfl, hA2a.at, ?_⟩
    refine ⟨_, rfl, l2, d2, _, rfl, i2, l2, m, c, _, _, _, rfl, hA2a.at, ?_⟩
    refine ⟨_, rfl, l2, d2, _, rfl, i2, l2, m, c, _, _, _, rfl, hA2a.at, ?_⟩
    refine ⟨by show 4 ≤ sizeLine; decide, fun ta nta => ?_⟩
    have sta := same_upd (o := .tup [.ref qf, .str (W (if (stM fl ss p st ([] ++ L)).1 then (stM fl ss p st ([] ++ L)).2.1 else [])), .str (W ([] ++ L)), .bl (stM fl ss p st ([] ++ L)).1]) nta
    have hta : upd HA ta (.tup [.ref qf, .str (W (if (stM fl ss p st ([] ++ L)).1 then (stM fl ss p st ([] ++ L)).2.1 else [])), .str (W ([] ++ L)), .bl (stM fl ss p st ([] ++ L)).1]) ta = some (.tup [.ref qf, .str (W (if (stM fl ss p st ([] ++ L)).1 then (stM fl ss p st ([] ++ L)).2.1 else [])), .str (W ([] ++ L)), .bl (stM fl ss p st ([] ++ L)).1]) := upd_same
    have hqf2 := hqf.same sta
    have hA1b := hA1a.same sta
    have ub := ua.same sta
    have i1b := sta _ _ i1
    generalize upd HA ta (.tup [.ref qf, .str (W (if (stM fl ss p st ([] ++ L)).1 then (stM fl ss p st ([] ++ L)).2.1 else [])), .str (W ([] ++ L)), .bl (stM fl ss p st ([] ++ L)).1]) = HB at hta hqf2 hA1b ub i1b ⊢
    clear sta hA1a ua i1 nta hqf
    refine ⟨_, rfl, lv, d1, _, rfl, i1b, lv, m, c, _, _, _, rfl, hA1b.at, fun qg hqg => ?_⟩
    refine ⟨_, rfl, lv, d1, _, rfl, i1b, lv, m, c, _, _, _, rfl, hA1b.at, ?_⟩
    refine ⟨_, rfl, _, rfl, lv, d1, _, rfl, i1b, lv, m, c, _, _, _, rfl, hA1b.at, ?_⟩
    refine ⟨by show 4 ≤ sizeLine; decide, fun tb ntb => ?_⟩
    have stb := same_upd (o := .tup [.ref qg, .str (W (if (stM fl ss p st ([] ++ L)).1 then (stM fl ss p st ([] ++ L)).2.1 else [])), .str (W L), .bl (stM fl ss p st ([] ++ L)).1]) ntb
    have ok4 : DOk 3 (.tuple [.tuple ((stM fl ss p st ([] ++ L)).2.2.map prD), .str (W (if (stM fl ss p st ([] ++ L)).1 then (stM fl ss p st ([] ++ L)).2.1 else [])), .str (W ([] ++ L)), .bool (stM fl ss p st ([] ++ L)).1]) := dok_tup (n := 2) fun d hd => by
      simp only [List.mem_cons, List.not_mem_nil, or_false] at hd
      rcases hd with rfl | rfl | rfl | rfl
      · exact frD_ok (st_str fnn)
      · exact ⟨(dok_str _).1, Nat.zero_le _⟩
      · exact ⟨(dok_str _).1, Nat.zero_le _⟩
      · exact ⟨rfl, Nat.zero_le _⟩
    refine ⟨_, .tuple [.tuple ((stM fl ss p st ([] ++ L)).2.2.map prD), .str (W (if (stM fl ss p st ([] ++ L)).1 then (stM fl ss p st ([] ++ L)).2.1 else [])), .str (W ([] ++ L)), .bool (stM fl ss p st ([] ++ L)).1], .tup (SqT.of (stb _ _ hta)) (.cons (FrU.dp (hqf2.same stb)) (.cons (.str _) (.cons (.str _) (.cons (.bl _) .nil)))), .tup (SqT.of upd_same) (.cons (FrU.dp (hqg.same stb)) (.cons (.str _) (.cons (.str _) (.cons (.bl _) .nil)))), ok4.shaped (by decide), ok4.shaped (by decide), ?_⟩
    rw [ok4.refl]
    exact k _ (ub.same stb)
end
end U

set_option maxRecDepth 100000
set_option maxHeartbeats 4000000
set_option pp.maxSteps 400
namespace U
open PySem PySem.Spec PyProof.Rows
open L2 hiding Fun CX0 E0 pass0 Fun.binds
open C8 Lx SX StX
/-- the text that is found in the middle of a partition -/
def midT (L fl : List Bool) : Str := match posM L fl with
  | none => ""
  | some _ => W fl
structure N7 (m c lv l2 l3 bx : Addr) : Prop where
  m1 : m ≠ lv
  m2 : m ≠ l2
  m3 : m ≠ l3
  c1 : c ≠ lv
  c2 : c ≠ l2
  c3 : c ≠ l3
  n12 : lv ≠ l2
  n13 : lv ≠ l3
  n23 : l2 ≠ l3
  b1 : lv ≠ bx
  b2 : l2 ≠ bx
  b3 : l3 ≠ bx
/-- what stands while the lines are heard -/
structure B7 (C CK CL t tc m c lv l2 l3 : Addr) (fl : List Bool) (z ss : List Stf) (p st h1 h2 h3 : List Bool) (i1 i2 i3 : Nat) (H : Hp) : Prop where
  told : Told H t fl z
  htc : H tc = some (.tup [.str (W p), .str (W st)])
  km : Km C CK m c fl ss p st H
  A1 : LH CL H lv m c fl ss p st h1 i1
  A2 : LH CL H l2 m c fl ss p st h2 i2
  A3 : LH CL H l3 m c fl ss p st h3 i3
section
variable {C CK CL t tc m c lv l2 l3 bx : Addr} {fl : List Bool} {z ss : List Stf} {p st h1 h2 h3 h' : List Bool} {i1 i2 i3 n' : Nat} {H H' : Hp}
theorem B7.same (x : B7 C CK CL t tc m c lv l2 l3 fl z ss p st h1 h2 h3 i1 i2 i3 H) (s : Same H H') : B7 C CK CL t tc m c lv l2 l3 fl z ss p st h1 h2 h3 i1 i2 i3 H' := ⟨x.told.same s, s _ _ x.htc, x.km.same s, x.A1.same s, x.A2.same s, x.A3.same s⟩
theorem B7.up (x : B7 C CK CL t tc m c lv l2 l3 fl z ss p st h1 h2 h3 i1 i2 i3 H) (hb : Box H bx) (u : Up bx H H') : B7 C CK CL t tc m c lv l2 l3 fl z ss p st h1 h2 h3 i1 i2 i3 H' := ⟨x.told.up hb u, u.1 _ _ x.htc (hb.neT x.htc), x.km.up hb u, x.A1.up hb u, x.A2.up hb u, x.A3.up hb u⟩
theorem B7.s1 (x : B7 C CK CL t tc m c lv l2 l3 fl z ss p st h1 h2 h3 i1 i2 i3 H) (N : N7 m c lv l2 l3 bx) (s : SmB lv H H') (y : LH CL H' lv m c fl ss p st h' n') : B7 C CK CL t tc m c lv l2 l3 fl z ss p st h' h2 h3 n' i2 i3 H' := by
  obtain ⟨d, s1, p1, e⟩ := x.A1.ins
  exact ⟨x.told.smb e s, s _ _ x.htc (ne_of x.htc e (by intro z; cases z)), x.km.smb e N.m1 N.c1 s, y, x.A2.smbO e N.n12.symm s, x.A3.smbO e N.n13.symm s⟩
theorem B7.s2 (x : B7 C CK CL t tc m c lv l2 l3 fl z ss p st h1 h2 h3 i1 i2 i3 H) (N : N7 m c lv l2 l3 bx) (s : SmB l2 H H') (y : LH CL H' l2 m c fl ss p st h' n') : B7 C CK CL t tc m c lv l2 l3 fl z ss p st h1 h' h3 i1 n' i3 H' := by
  obtain ⟨d, s1, p1, e⟩ := x.A2.ins
  exact ⟨x.told.smb e s, s _ _ x.htc (ne_of x.htc e (by intro z; cases z)), x.km.smb e N.m2 N.c2 s, x.A1.smbO e N.n12 s, y, x.A3.smbO e N.n23.symm s⟩
theorem B7.s3 (x : B7 C CK CL t tc m c lv l2 l3 fl z ss p st h1 h2 h3 i1 i2 i3 H) (N : N7 m c lv l2 l3 bx) (s : SmB l3 H H') (y : LH CL H' l3 m c fl ss p st h' n') : B7 C CK CL t tc m c lv l2 l3 fl z ss p st h1 h2 h' i1 i2 n' H' := by
  obtain ⟨d, s1, p1, e⟩ := x.A3.ins
  exact ⟨x.told.smb e s, s _ _ x.htc (ne_of x.htc e (by intro z; cases z)), x.km.smb e N.m3 N.c3 s, x.A1.smbO e N.n13 s, x.A2.smbO e N.n23 s, y⟩
theorem B7.sO {a C' dx : Addr} {fs : List (Str × V)} (x : B7 C CK CL t tc m c lv l2 l3 fl z ss p st h1 h2 h3 i1 i2 i3 H) (e : H a = some (.ins C' dx fs)) (k1 : m ≠ a) (k2 : c ≠ a) (k3 : lv ≠ a) (k4 : l2 ≠ a) (k5 : l3 ≠ a) (s : SmB a H H') : B7 C CK CL t tc m c lv l2 l3 fl z ss p st h1 h2 h3 i1 i2 i3 H' :=
  ⟨x.told.smb e s, s _ _ x.htc (ne_of x.htc e (by intro z; cases z)), x.km.smb e k1 k2 s, x.A1.smbO e k3 s, x.A2.smbO e k4 s, x.A3.smbO e k5 s⟩
end
section
variable {P : Program} {w : World} {K : PySem.W.Frag} {mg : Str → Option Value} {base : Heap}
theorem sc_law : FnScope ["_law_script", "_law_k", "_law_box", "_law_turn_here", "_law_rule_here", "_law_check_here", "_law_made", "_law_asked", "_law_line", "_law_one", "_law_mate", "_law_third", "_law_told", "_law_pieces_here", "_law_closed", "_law_lot", "_law_ahead", "_law_flag", "_law_rest_here", "_law_bits", "_law_frame", "_law_fresh", "_law_heard"] ["_law_script"] (fnScope s_law) := fnScope_by (by decide +kernel)
theorem ok_law {f CL C CK : Addr} {fd : FuncData} (F : Def K mg "law" s_law f fd) (T : Tx mg) (RT : RuT K C) (LT : LvT K CL)
    (c_l_seed : Cal P w K mg base 1 "_law_seed" (spSeed K) []) (c_l_choose : Cal P w K mg base 1 "_law_choose" spChoose []) (c_l_word : Cal P w K mg base 3 "_law_word" spWordN []) (c_l_rule : Cal P w K mg base 6 "_law_rule" spRule2 []) (c_l_check : Cal P w K mg base 4 "_law_check" spCheck []) (c_l_stream : Cal P w K mg base 5 "_law_stream" spStream []) (c_l_pieces : Cal P w K mg base 3 "_law_pieces" spPieces []) (c_l_mirror_right : Cal P w K mg base 8 "_law_mirror_right" (spMirror C) []) (c_l_long_right : Cal P w K mg base 8 "_law_long_right" (spLong C CK) [])
    (c_send : Cal P w K mg base 5 "send" (spSend C CK) []) (c_receive : Cal P w K mg base 5 "receive" (spReceive C CK) []) (c_frames : Cal P w K mg base 6 "frames" (spFrames C CK) [])
    (c_hear : Met P w K mg base 7 CL "hear" (spHear CL C CK) []) (c_several : Met P w K mg base 7 CL "several" (spSeveral CL C CK) []) (p_is_open : Prp P w K mg base 1 CL "is_open" (spIsOpen CL)) (p_part : Prp P w K mg base 1 CL "part" (spPart CL)) (p_found : Prp P w K mg base 1 CL "found" (spFound CL))
    (m_Rule2 : Mak P w K mg base 5 "Rule" C (spRuInit K C) []) (m_Check2 : Mak P w K mg base 2 "Check" CK (spCkInit CK) []) (m_Live2 : Mak P w K mg base 1 "Live" CL (spLvInit CL) []) :
    FnOk P w K mg base CX0 10 f fd ["_law_script"] (spLaw K) := by
  refine fn0 F.fn sc_law (fun vs H Q E h => ?_) (fun cdv A outer s H vs Q E hr h => ?_)
  · obtain ⟨_, _, rfl, _⟩ := h; rfl
  · obtain ⟨a, ns, rfl, hS, hlen, k⟩ := h
    refine ⟨_, (pss_cons (ps_for PassesOwn.never rfl (pi_range1 (by rfl) T.b_range (pa_cons (pe_callB (call_max2 rfl) (by rfl) T.b_max (by decide +kernel) (pa_cons pe_int (pa_cons (pe_callB (call_min2 rfl) (by rfl) T.b_min (by decide +kernel) (pa_cons pe_int (pa_cons (pe_callB call_len_seq (by rfl) T.b_len (by decide +kernel) (pa_cons (pv 0) pa_nil)) pa_nil))) pa_nil))) pa_nil)) (pg_name (i := 1) sc_law.nd rfl (.inl rfl))
    (pss_cons (ps_set (i := 2) sc_law.nd rfl (.inl rfl) (pe_c c_l_seed hr (by decide) rfl (pa_cons (pv 0) (pa_cons (pv 1) pa_nil))))
    (pss_one (ps_for PassesOwn.never rfl (pi_range1 (by rfl) T.b_range (pa_cons pe_int pa_nil)) (pg_name (i := 3) sc_law.nd rfl (.inl rfl))
    (pss_cons (ps_par (i := 4) (j := 5) (by rfl) sc_law.nd rfl rfl (by decide) rfl rfl (pa_cons (pe_c c_l_rule hr (by decide) rfl (pa_cons (pv 2) (pa_cons pe_int (pa_cons pe_int pa_nil)))) (pa_cons (pe_c c_l_check hr (by decide) rfl (pa_cons (pv 2) (pa_cons pe_int pa_nil))) pa_nil)) (by rfl))
    (pss_cons (ps_par (i := 6) (j := 7) (by rfl) sc_law.nd rfl rfl (by decide) rfl rfl (pa_cons (pe_mk m_Rule2 hr (by decide) rfl (pa_cons (pe_ix ix_tup (pv 4) pe_int (fun _ _ => rfl)) (pa_cons (pe_ix ix_tup (pv 4) pe_int (fun _ _ => rfl)) pa_nil))) (pa_cons (pe_mk m_Check2 hr (by decide) rfl (pa_cons (pe_ix ix_tup (pv 5) pe_int (fun _ _ => rfl)) (pa_cons (pe_ix ix_tup (pv 5) pe_int (fun _ _ => rfl)) pa_nil))) pa_nil)) (by rfl))
    (pss_cons (ps_set (i := 8) sc_law.nd rfl (.inl rfl) (pe_c c_l_stream hr (by decide) rfl (pa_cons (pv 2) (pa_cons (pv 4) (pa_cons (pv 5) (pa_cons pe_int pa_nil))))))
    (pss_cons (ps_par3 (i := 9) (j := 10) (l := 11) (by rfl) sc_law.nd rfl rfl rfl (by decide) (by decide) (by decide) rfl rfl rfl (pa_cons (pe_mk m_Live2 hr (by decide) rfl (pa_cons (pv 6) (pa_cons (pv 7) pa_nil))) (pa_cons (pe_mk m_Live2 hr (by decide) rfl (pa_cons (pv 6) (pa_cons (pv 7) pa_nil))) (pa_cons (pe_mk m_Live2 hr (by decide) rfl (pa_cons (pv 6) (pa_cons (pv 7) pa_nil))) pa_nil))) (by rfl))
    (pss_cons (ps_set (i := 12) sc_law.nd rfl (.inl rfl) (pe_mt (pl := _) c_hear hr (by decide) (pv 9) (pa_cons (pv 8) pa_nil)))
    (pss_cons (ps_set (i := 13) sc_law.nd rfl (.inl rfl) (pe_c c_l_pieces hr (by decide) rfl (pa_cons (pv 2) (pa_cons (pv 8) pa_nil))))
    (pss_cons (ps_set (i := 14) sc_law.nd rfl (.inl rfl) (pe_mt (pl := _) c_several hr (by decide) (pv 10) (pa_cons (pv 13) pa_nil)))
    (pss_cons (ps_if (PW.pt (pw_or (pt_cmpR (op_neD hr.units) (pv 14) (pe_mt (pl := _) c_several hr (by decide) (pv 11) (pa_cons (pe_callTy call_list_of (by rfl) T.b_list (by decide +kernel) (pa_cons (pv 13) pa_nil)) pa_nil)) (nomark _)) (pw_or1 (pt_cmpR op_ne (pe_callB call_len_seq (by rfl) T.b_len (by decide +kernel) (pa_cons (pv 14) pa_nil)) (pe_callB call_len_seq (by rfl) T.b_len (by decide +kernel) (pa_cons (pv 13) pa_nil)) (nomark _))))) (pss_one (ps_ret pe_bl)) pss_nil)
    (pss_cons (ps_if (PW.pt (pw_or (pt_cmpR (op_neD hr.units) (pe_callB (SumL.cr_sumL rfl) (by rfl) T.b_sum (by decide +kernel) (pa_cons (pe_lc (own := [("_law_lot", 15)]) (g := gName 15) (by rfl) sc_law.nd (pi_tup (pv 14)) (blkOk_by (own := [("_law_lot", 15)]) (N := ["_law_script", "_law_k", "_law_box", "_law_turn_here", "_law_rule_here", "_law_check_here", "_law_made", "_law_asked", "_law_line", "_law_one", "_law_mate", "_law_third", "_law_told", "_law_pieces_here", "_law_closed", "_law_lot", "_law_ahead", "_law_flag", "_law_rest_here", "_law_bits", "_law_frame", "_law_fresh", "_law_heard"]) (sc := fnScope s_law) (by decide +kernel)) (fun _ _ _ _ _ => (pg_name (i := 15) sc_law.nd rfl (.inl rfl))) (fun _ _ _ _ _ => pts_nil) (fun _ _ _ _ _ => (pe_callTy (show CallR _ (.type "list") (SumL.rListOf K) from call_list_of) (by rfl) T.b_list (by decide +kernel) (pa_cons (pv 15) pa_nil)))) (pa_cons (pe_lst pa_nil) pa_nil))) (pe_callTy call_list_of (by rfl) T.b_list (by decide +kernel) (pa_cons (pv 12) pa_nil)) (nomark _)) (pw_or1 (pt_cmpR (op_neD hr.units) (pe_pr p_found hr (by decide) (pv 9)) (pv 12) (nomark _))))) (pss_one (ps_ret pe_bl)) pss_nil)
    (pss_cons (ps_if (pt_cmpR (op_neD hr.units) (pe_tup (pa_cons (pe_pr p_found hr (by decide) (pv 10)) (pa_cons (pe_pr p_part hr (by decide) (pv 10)) (pa_cons (pe_pr p_is_open hr (by decide) (pv 10)) pa_nil)))) (pe_tup (pa_cons (pe_pr p_found hr (by decide) (pv 9)) (pa_cons (pe_pr p_part hr (by decide) (pv 9)) (pa_cons (pe_pr p_is_open hr (by decide) (pv 9)) pa_nil)))) (nomark _)) (pss_one (ps_ret pe_bl)) pss_nil)
    (pss_cons (ps_asg (pe_partition (pv 8) (pe_ix ix_tup (pv 4) pe_int (fun _ _ => rfl))) (pg_tup rfl (pgs_cons (pg_name (i := 16) sc_law.nd rfl (.inl rfl)) (pgs_cons (pg_name (i := 17) sc_law.nd rfl (.inl rfl)) (pgs_cons (pg_name (i := 18) sc_law.nd rfl (.inl rfl)) pgs_nil)))))
    (pss_cut (ps_if (PW.pt (pw_and (pt_cmpR op_ne (pv 17) pe_str (nomark _)) (pw_and1 (pt_cmpR (op_neD hr.units) (pe_c c_frames hr (by decide) rfl (pa_cons (pv 6) (pa_cons (pv 7) (pa_cons (pv 18) pa_nil)))) (pv 12) (nomark _))))) (pss_one (ps_ret pe_bl)) pss_nil)
    (pss_cut (ps_if (PW.pt (pw_and (pt_cmpR op_eq (pv 17) pe_str (nomark _)) (pw_and1 (PW.pt (pw_or (pt_cmpR (op_neD hr.units) (pv 12) (pe_tup pa_nil) (nomark _)) (pw_or1 (pt_cmpR op_notBl (pe_pr p_is_open hr (by decide) (pv 9)) pe_bl (nomark _)))))))) (pss_one (ps_ret pe_bl)) pss_nil)
    (pss_cons (ps_set (i := 19) sc_law.nd rfl (.inl rfl) (pe_c c_l_word hr (by decide) rfl (pa_cons (pv 2) (pa_cons (pe_c c_l_choose hr (by decide) rfl (pa_cons (pv 2) (pa_cons pe_int pa_nil))) pa_nil))))
    (pss_cons (ps_set (i := 20) sc_law.nd rfl (.inl rfl) (pe_c c_send hr (by decide) rfl (pa_cons (pv 6) (pa_cons (pv 7) (pa_cons (pv 19) pa_nil)))))
    (pss_cons (ps_set (i := 21) sc_law.nd rfl (.inl rfl) (pe_mk m_Live2 hr (by decide) rfl (pa_cons (pv 6) (pa_cons (pv 7) pa_nil))))
    (pss_cons (ps_expr (pe_mt (pl := _) c_hear hr (by decide) (pv 21) (pa_cons (pe_ix ix_tup (pv 4) pe_int (fun _ _ => rfl)) pa_nil)))
    (pss_cons (ps_set (i := 22) sc_law.nd rfl (.inl rfl) (pe_mt (pl := _) c_hear hr (by decide) (pv 21) (pa_cons (pv 20) pa_nil)))
    (pss_cut (ps_if (PW.pt (pw_and (pt_cmpR op_gt (pe_m1 PySem.F.slot_str_find PySem.F.type_str_find mt_find (pv 20) (pe_ix ix_tup (pv 4) pe_int (fun _ _ => rfl))) pe_int (nomark _)) (pw_and1 (pt_cmpR (op_neD hr.units) (pe_slice sl_tupA (pv 22) po_none (po_some pe_int)) (pe_tup (pa_cons (pe_c c_receive hr (by decide) rfl (pa_cons (pv 6) (pa_cons (pv 7) (pa_cons (pv 20) pa_nil)))) pa_nil)) (nomark _))))) (pss_one (ps_ret pe_bl)) pss_nil)
    (pss_one (ps_if (PW.pt (pw_or (pt_not (pt_val (pe_c c_l_mirror_right hr (by decide) rfl (pa_cons (pv 6) (pa_cons (pv 8) pa_nil))))) (pw_or1 (PW.pt (pw_and (pt_cmpR op_eq (pv 3) pe_int (nomark _)) (pw_and1 (pt_not (pt_val (pe_c c_l_long_right hr (by decide) rfl (pa_cons (pv 2) (pa_cons (pv 6) (pa_cons (pv 7) pa_nil)))))))))))) (pss_one (ps_ret pe_bl)) pss_nil)))))))))))))))))))))))))
    (pss_one (ps_ret pe_bl))), ?_⟩
    refine ⟨_, rfl, a, _, rfl, .inl hS, _, _, rfl, _, _, rfl, _, rfl, by split <;> split <;> omega, by rw [List.length_map]; split <;> split <;> omega, ?_⟩
    refine for_it walk_range (fun i σ H2 => ∃ v1 v2 v3 v4 v5 v6 v7 v8 v9 v10 v11 v12 v13 v14 v15 v16 v17 v18 v19 v20 v21 v22 : Option V, σ = [some (.ref a), v1, v2, v3, v4, v5, v6, v7, v8, v9, v10, v11, v12, v13, v14, v15, v16, v17, v18, v19, v20, v21, v22] ∧ Same H H2) ⟨_, _, _, _, _, _, _, _, _, _, _, _, _, _, _, _, _, _, _, _, _, _, rfl, Same.refl _⟩ (fun _ _ _ _ _ => trivial) ?_ ?_
    · rintro i x σ H2' H2 hi ⟨v1, v2, v3, v4, v5, v6, v7, v8, v9, v10, v11, v12, v13, v14, v15, v16, v17, v18, v19, v20, v21, v22, rfl, s2⟩ ⟨rfl, rfl⟩
      refine ⟨_, rfl, _, rfl, a, ns, i, (by show [V.ref a, V.int (0 + (i : Int))] = _; rw [Int.zero_add]), s2.seq hS, fun bx H1 nb s1 hb => ?_⟩
      have back : ∀ {H3 : Hp}, Up bx H1 H3 → Same H H3 := fun u3 c o e => u3.1 c o (s1 _ _ (s2 _ _ e)) (ne_of_none (s2 _ _ e) nb)
      refine ⟨_, rfl, by decide, by decide, for_it walk_range (fun j σ H3 => ∃ v1 v3 v4 v5 v6 v7 v8 v9 v10 v11 v12 v13 v14 v15 v16 v17 v18 v19 v20 v21 v22 : Option V, σ = [some (.ref a), v1, some (.ref bx), v3, v4, v5, v6, v7, v8, v9, v10, v11, v12, v13, v14, v15, v16, v17, v18, v19, v20, v21, v22] ∧ Up bx H1 H3) ⟨_, _, _, _, _, _, _, _, _, _, _, _, _, _, _, _, _, _, _, _, _, rfl, Up.refl hb⟩ (fun _ _ _ _ _ => trivial) ?_ ?_⟩
      · rintro j y σ H3' H3 hj ⟨v1, v3, v4, v5, v6, v7, v8, v9, v10, v11, v12, v13, v14, v15, v16, v17, v18, v19, v20, v21, v22, rfl, u3⟩ ⟨rfl, rfl⟩
        refine ⟨_, rfl, bx, 6, 3, rfl, u3.2, by decide, by decide, by decide, by decide, fun t fl z H4 u4 told a1 b1 cc1 ok o39 l3 => ?_⟩
        refine ⟨_, rfl, bx, 3, rfl, u4.2, by decide, fun tc p st H5 ntc u5 htc ck lst => ⟨_, _, rfl, ?_⟩⟩
        have told5 := told.up u4.2 u5
        obtain ⟨lk, ht5, hl5⟩ := told5.stl
        refine ⟨_, rfl, t, _, _, _, rfl, rfl, SqT.of ht5, atI_nat (j := 0) rfl, _, rfl, t, _, _, _, rfl, rfl, SqT.of ht5, atI_nat (j := 1) rfl, ?_⟩
        refine mk_stl rfl hl5 ok o39.ok a1 (by omega) fun m ss H6 s6 pm srt hR => ?_
        have htc6 := s6 _ _ htc
        refine ⟨_, rfl, tc, _, _, _, rfl, rfl, SqT.of htc6, atI_nat (j := 0) rfl, _, rfl, tc, _, _, _, rfl, rfl, SqT.of htc6, atI_nat (j := 1) rfl, ?_⟩
        have lp : p.length = st.length + 1 := ck.len.symm
        refine mk_ck2 ck (by omega) fun c H7 s7 hC => ⟨_, _, rfl, ?_⟩
        have ok' := ok.perm pm.symm
        have pe : ∀ l, putM ss l = putM z l := fun l => put_perm ok'.free pm l
        have o39' : OkN 39 ss := o39.congr fun l => (pe l).symm
        have fnn : fl ≠ [] := fun e => by rw [e] at a1; cases a1
        have s67 := s6.trans s7
        have km7 : Km C CK m c fl ss p st H7 := ⟨hR.same s7, hC⟩
        have told7 := told5.same s67
        have htc7 := s67 _ _ htc
        have u7 := ((u3.trans u4).trans u5).same s67
        clear told told5 ht5 hl5 lk htc htc6 s6 s7 s67 ntc hR hC u5 u4 u3
        -- the line
        refine ⟨_, rfl, _, rfl, _, rfl, bx, t, tc, fl, z, p, st, 3, rfl, u7.2, told7, htc7, ck, lst, by omega, b1, by omega, l3, o39, by decide, fun L H8 lL u8 => ?_⟩
        have wL : (W L).length = L.length := W_len L
        refine ⟨_, rfl, _, rfl, mk_lv fun lv H9 nlv s9 hL9 => ⟨_, rfl, _, rfl, mk_lv fun l2 HA nl2 sA hLA => ⟨_, rfl, _, rfl, mk_lv fun l3' HB nl3 sB hLB => ⟨_, _, _, rfl, ?_⟩⟩⟩⟩
        generalize l3' = l3 at nl3 hLB ⊢
        obtain ⟨dm, tm, em⟩ := (km7.up u7.2 u8).hR.few
        obtain ⟨dc, ec⟩ := id (km7.up u7.2 u8).hC
        have u78 := u7.trans u8
        have N : N7 m c lv l2 l3 bx := by
          obtain ⟨d1, x1, y1, e1⟩ := hL9.ins
          obtain ⟨d2, x2, y2, e2⟩ := hLA.ins
          exact ⟨ne_of_none em nlv, ne_of_none (s9 _ _ em) nl2, ne_of_none (sA _ _ (s9 _ _ em)) nl3, ne_of_none ec nlv, ne_of_none (s9 _ _ ec) nl2, ne_of_none (sA _ _ (s9 _ _ ec)) nl3, ne_of_none e1 nl2, ne_of_none (sA _ _ e1) nl3, ne_of_none e2 nl3, u78.2.ne nlv, (u78.same s9).2.ne nl2, ((u78.same s9).same sA).2.ne nl3⟩
        have z1 : H1 lv = none := u78.free nlv
        have z2 : H1 l2 = none := (u78.same s9).free nl2
        have z3 : H1 l3 = none := ((u78.same s9).same sA).free nl3
        have bB : B7 C CK CL t tc m c lv l2 l3 fl z ss p st [] [] [] 0 0 0 HB := by
          have s9B := (s9.trans sA).trans sB
          exact ⟨(told7.up u7.2 u8).same s9B, s9B _ _ (u8.1 _ _ htc7 (u7.2.neT htc7)), (km7.up u7.2 u8).same s9B, (LH.new fnn hL9).same (sA.trans sB), (LH.new fnn hLA).same sB, LH.new fnn hLB⟩
        have uB := ((u78.same s9).same sA).same sB
        clear told7 htc7 km7 u7 u8 u78 s9 sA sB hL9 hLA hLB nlv nl2 nl3 em ec
        -- heard at once
        obtain ⟨d1, x1, y1, e1⟩ := bB.A1.ins
        refine ⟨_, rfl, lv, d1, _, rfl, e1, by rfl, _, rfl, ?_⟩
        try dsimp only [tNil, List.append_nil]
        refine hear_lh bB.A1 bB.km (by omega) lp.symm fnn (by rw [List.length_nil]; omega) (by decide) fun q1 HC smC hAC hq1 => ?_
        have bC := bB.s1 N smC hAC
        have uC := uB.smb z1 N.b1 smC
        rw [List.nil_append] at bC
        clear bB uB smC hAC d1 x1 y1 e1
        -- the pieces
        refine ⟨_, rfl, _, rfl, bx, L, rfl, uC.2, by omega, fun qp ws HD uD nqb nqp hqp efl lws wne => ?_⟩
        have bD := bC.up uC.2 uD
        have hq1D := hq1.up uC.2 uD
        have uD' := uC.trans uD
        have nqp1 : H1 qp = none := uC.free nqp
        clear bC hq1 uC uD nqp
        obtain ⟨d2, x2, y2, e2⟩ := bD.A2.ins
        refine ⟨_, rfl, l2, d2, _, rfl, e2, by rfl, _, rfl, ?_⟩
        try dsimp only [tNil, List.append_nil]
        refine several_lh bD.A2 bD.km hqp N.m2 N.c2 (by omega) lp.symm fnn (by rw [efl, List.length_nil]; omega) (by omega) (by decide) fun q2 qs HE smE hAE hq2 hp2 => ?_
        have bE := bD.s2 N smE hAE
        rw [efl, List.nil_append] at bE
        have uE := uD'.smb z2 N.b2 smE
        have hqpE := smE _ _ hqp (ne_of hqp e2 (by intro z; cases z))
        have hq1E := hq1D.smb e2 smE
        clear bD uD' hq1D smE hAE hqp d2 x2 y2 e2
        -- another one hears several
        obtain ⟨d3, x3, y3, e3⟩ := bE.A3.ins
        refine ⟨_, rfl, _, rfl, l3, d3, _, rfl, e3, by rfl, _, rfl, qp, _, rfl, .inl (SqL.of hqpE), fun ql nql => ?_⟩
        have sql := same_upd (o := .lst (lkV ws)) nql
        have hql : upd HE ql (.lst (lkV ws)) ql = some (.lst (wdV ws)) := upd_same
        have bF := bE.same sql
        have uF := uE.same sql
        have hqpF := sql _ _ hqpE
        have hq1F := hq1E.same sql
        have hq2F := sql _ _ hq2
        have hp2F := frs_same sql hp2
        have e3F := sql _ _ e3
        try dsimp only [tNil, List.append_nil]
        generalize upd HE ql (.lst (lkV ws)) = HF at hql bF uF hqpF hq1F hq2F hp2F e3F ⊢
        clear bE uE hqpE hq1E hq2 hp2 e3 sql nql
        refine several_lh bF.A3 bF.km hql N.m3 N.c3 (by omega) lp.symm fnn (by rw [efl, List.length_nil]; omega) (by omega) (by decide) fun q3 rs HG smG hAG hq3 hp3 => ?_
        have bG := bF.s3 N smG hAG
        rw [efl, List.nil_append] at bG
        have uG := uF.smb z3 N.b3 smG
        have hqpG := smG _ _ hqpF (ne_of hqpF e3F (by intro z; cases z))
        have hq1G := hq1F.smb e3F smG
        have hq2G := smG _ _ hq2F (ne_of hq2F e3F (by intro z; cases z))
        have hp2G := paired_imp hp2F fun q r _ f => f.smb e3F smG
        clear bF uF hqpF hq1F hq2F hp2F smG hAG hql
        have okS : DOk 3 (.tuple ((clsM fl ss p st [] ws).map fun rs => PyData.tuple (rs.map prD))) := frs_ok (cls_str fl ss p st ws [])
        refine ⟨_, _, .tup (SqT.of hq2G) (frs_dp hp2G), .tup (SqT.of hq3) (frs_dp hp3), okS.shaped (by decide), okS.shaped (by decide), _, rfl, iteBF (by rw [okS.refl]; rfl) ?_⟩
        clear hq3 hp3 e3F
        have lqs : qs.length = ws.length := by rw [paired_len hp2G, cls_len']
        refine ⟨_, rfl, q2, _, rfl, .inr (SqT.of hq2G), _, rfl, qp, _, rfl, .inl (SqL.of hqpG), rfl, _, rfl, iteNS (by rw [List.length_map, lqs]; unfold lkV; rw [List.length_map]) ?_⟩
        -- the sum of what the pieces closed
        refine ⟨_, rfl, q2, rfl, ⟨_, SqT.of hq2G⟩, fun D nD => ?_⟩
        refine lc_it (walk_tup (xs := qs.map V.ref)) (fun i H8 => Same HG H8 ∧ LLs H8 D ((clsM fl ss p st [] ws).take i)) ⟨same_upd nD, [], upd_same, .nil, fun h => nomatch h⟩ (fun i H8 _ h => SqT.of (h.1 _ _ hq2G)) ?_ ?_
        · rintro i y H8 H9 hi ⟨s8, bs, hD, hbs, nDb⟩ ⟨rfl, hy⟩
          rw [List.getElem?_map] at hy
          obtain ⟨t8, ht, rfl⟩ := Option.map_eq_some_iff.mp hy
          obtain ⟨rs8, hrs, hfr⟩ := paired_at hp2G ht
          obtain ⟨ps, kb, f1, f2, f3⟩ := hfr.same s8
          have lbs : bs.length ≤ 13 := by
            have := paired_len hbs
            rw [List.length_take, cls_len'] at this
            omega
          refine ⟨rfl, _, rfl, t8, _, rfl, .inr (SqT.of f1), fun l nl => ?_⟩
          have sl := same_upd (o := .lst (ps.map V.ref)) nl
          refine ⟨_, sl _ _ hD, by rw [List.length_map]; exact sl_lt (by omega), same_mut' (s8.trans sl) nD, ?_⟩
          rw [List.take_add_one, hrs]
          exact ll_push hD hbs nDb f2 f3 nl
        rintro H8 ⟨s8, hD⟩
        rw [List.length_map, lqs, ← cls_len' (f := fl) (ss := ss) (p := p) (s := st) (h := []), List.take_length] at hD
        refine ⟨Nat.zero_le _, fun p0 np0 => ?_⟩
        try dsimp only [tNil, List.append_nil]
        have sp0 := same_upd (o := .lst []) np0
        refine ll_sum (hD.same sp0) (fun z => ?_) upd_same (by rw [cls_flat fnn, efl, cl_first fnn]; exact sl_len (Nat.le_trans st_len (by omega))) fun q4 H9 s9 hq4 => ?_
        · have := congrArg List.length z
          rw [cls_len'] at this
          exact wne (List.length_eq_zero_iff.mp this)
        rw [cls_flat fnn, efl] at hq4
        have s79 := (s8.trans sp0).trans s9
        obtain ⟨ps, kb, f1, f2, f3⟩ := id (hq1G.same s79)
        refine ⟨_, rfl, q1, _, rfl, .inr (SqT.of f1), fun l4 nl4 => ?_⟩
        have sl := same_upd (o := .lst (ps.map V.ref)) nl4
        have okL : DOk 2 (.list ((clM fl ss p st [] L).map prD)) := frL_ok (cl_str fl ss p st [] L)
        refine ⟨_, _, frL_dp (hq4.same sl), frL_dp ⟨ps, kb, upd_same, f2.same sl, f3⟩, okL.shaped (by decide), okL.shaped (by decide), _, rfl, iteBF (by rw [okL.refl]; rfl) ?_⟩
        have s7a := s79.trans sl
        have bA := bG.same s7a
        have uA := uG.same s7a
        have hq1A := hq1G.same s7a
        generalize upd H9 l4 (.lst (ps.map V.ref)) = HA at bA uA hq1A ⊢
        clear s7a s79 sl sp0 s9 s8 hD hq4 f1 f2 f3 bG uG hq1G hq2G hp2G hqpG nD np0 nl4
        obtain ⟨d1, x1, y1, i1⟩ := bA.A1.ins
        obtain ⟨d2, x2, y2, i2⟩ := bA.A2.ins
        have ok1 : DOk 2 (.tuple ((clM fl ss p st [] L).map prD)) := frD_ok (cl_str fl ss p st [] L)
        have ec1 : clM fl ss p st [] L = (stM fl ss p st L).2.2 := cl_first fnn ss p st L
        refine ⟨_, rfl, lv, d1, _, rfl, i1, lv, m, c, _, _, _, rfl, bA.A1.at, fun qf hqf => ?_⟩
        rw [← ec1] at hqf
        refine ⟨_, rfl, _, _, hqf.dp, hq1A.dp, ok1.shaped (by decide), ok1.shaped (by decide), _, rfl, iteBF (by rw [ok1.refl]; rfl) ?_⟩
        clear hqf
        -- found, part, is_open
        refine ⟨_, rfl, l2, d2, _, rfl, i2, l2, m, c, _, _, _, rfl, bA.A2.at, fun qf hqf => ?_⟩
        refine ⟨_, rfl, l2, d2, _, rfl, i2, l2, m, c, _, _, _, rfl, bA.A2.at, ?_⟩
        refine ⟨_, rfl, l2, d2, _, rfl, i2, l2, m, c, _, _, _, rfl, bA.A2.at, ?_⟩
        refine ⟨by show 3 ≤ sizeLine; decide, fun ta nta => ?_⟩
        have sta := same_upd (o := .tup [.ref qf, .str (W (if (stM fl ss p st L).1 then (stM fl ss p st L).2.1 else [])), .bl (stM fl ss p st L).1]) nta
        have hta : upd HA ta (.tup [.ref qf, .str (W (if (stM fl ss p st L).1 then (stM fl ss p st L).2.1 else [])), .bl (stM fl ss p st L).1]) ta = some (.tup [.ref qf, .str (W (if (stM fl ss p st L).1 then (stM fl ss p st L).2.1 else [])), .bl (stM fl ss p st L).1]) := upd_same
        have bB := bA.same sta
        have uB := uA.same sta
        have hq1B := hq1A.same sta
        have hqfB := hqf.same sta
        have i1B := sta _ _ i1
        generalize upd HA ta (.tup [.ref qf, .str (W (if (stM fl ss p st L).1 then (stM fl ss p st L).2.1 else [])), .bl (stM fl ss p st L).1]) = HB at hta bB uB hq1B hqfB i1B ⊢
        clear sta nta bA uA hq1A hqf i1 i2
        refine ⟨_, rfl, lv, d1, _, rfl, i1B, lv, m, c, _, _, _, rfl, bB.A1.at, fun qg hqg => ?_⟩
        refine ⟨_, rfl, lv, d1, _, rfl, i1B, lv, m, c, _, _, _, rfl, bB.A1.at, ?_⟩
        refine ⟨_, rfl, lv, d1, _, rfl, i1B, lv, m, c, _, _, _, rfl, bB.A1.at, ?_⟩
        refine ⟨by show 3 ≤ sizeLine; decide, fun tb ntb => ?_⟩
        have stb := same_upd (o := .tup [.ref qg, .str (W (if (stM fl ss p st L).1 then (stM fl ss p st L).2.1 else [])), .bl (stM fl ss p st L).1]) ntb
        have ok3 : DOk 3 (.tuple [.tuple ((stM fl ss p st L).2.2.map prD), .str (W (if (stM fl ss p st L).1 then (stM fl ss p st L).2.1 else [])), .bool (stM fl ss p st L).1]) := dok_tup (n := 2) fun d hd => by
          simp only [List.mem_cons, List.not_mem_nil, or_false] at hd
          rcases hd with rfl | rfl | rfl
          · exact frD_ok (st_str fnn)
          · exact ⟨(dok_str _).1, Nat.zero_le _⟩
          · exact ⟨rfl, Nat.zero_le _⟩
        refine ⟨_, .tuple [.tuple ((stM fl ss p st L).2.2.map prD), .str (W (if (stM fl ss p st L).1 then (stM fl ss p st L).2.1 else [])), .bool (stM fl ss p st L).1], .tup (SqT.of (stb _ _ hta)) (.cons (FrU.dp (hqfB.same stb)) (.cons (.str _) (.cons (.bl _) .nil))), .tup (SqT.of upd_same) (.cons (FrU.dp (hqg.same stb)) (.cons (.str _) (.cons (.bl _) .nil))), ok3.shaped (by decide), ok3.shaped (by decide), _, rfl, iteBF (by rw [ok3.refl]; rfl) ?_⟩
        have bC := bB.same stb
        have uC := uB.same stb
        have hq1C := hq1B.same stb
        generalize upd HB tb (.tup [.ref qg, .str (W (if (stM fl ss p st L).1 then (stM fl ss p st L).2.1 else [])), .bl (stM fl ss p st L).1]) = HC at bC uC hq1C ⊢
        clear stb ntb bB uB hq1B hqfB hqg hta i1B
        -- the line behind the first flag
        obtain ⟨lk, htC, hlC⟩ := bC.told.stl
        have nz : ((W fl).length == 0) = false := by
          rw [W_len]
          exact beq_false_of_ne (by omega)
        refine ⟨_, rfl, ⟨_, rfl⟩, _, rfl, t, _, _, _, rfl, rfl, SqT.of htC, atI_nat (j := 0) rfl, _, _, rfl, rfl, nz, by rw [W_len]; exact sl_len (by omega), fun tp ntp => ?_⟩
        have stp := same_upd (o := .tup [.str (Txt.partition (W L) (W fl)).1, .str (Txt.partition (W L) (W fl)).2.1, .str (Txt.partition (W L) (W fl)).2.2]) ntp
        refine ⟨tp, _, rfl, SqT.of upd_same, rfl, _, _, rfl, _, _, rfl, _, _, rfl, rfl, ?_⟩
        have bD := bC.same stp
        have uD := uC.same stp
        have hq1D := hq1C.same stp
        generalize upd HC tp (.tup [.str (Txt.partition (W L) (W fl)).1, .str (Txt.partition (W L) (W fl)).2.1, .str (Txt.partition (W L) (W fl)).2.2]) = HD at bD uD hq1D ⊢
        clear stp ntp bC uC hq1C htC hlC lk
        have emid : (Txt.partition (W L) (W fl)).2.1 = midT L fl := by
          rw [part_W]
          unfold midT
          cases posM L fl <;> rfl
        refine ⟨fun σ H' => ∃ v1 v15 v16 v18 v19 v20 v21 v22 : Option V, σ = [some (.ref a), v1, some (.ref bx), some (.int (0 + (j : Int))), some (.ref t), some (.ref tc), some (.ref m), some (.ref c), some (.str (W L)), some (.ref lv), some (.ref l2), some (.ref l3), some (.ref q1), some (.ref qp), some (.ref q2), v15, v16, some (.str (midT L fl)), v18, v19, v20, v21, v22] ∧ Same HD H', ?_, ?_⟩
        · refine ⟨_, rfl, rfl, _, rfl, ?_⟩
          rw [emid]
          cases e : posM L fl with
          | none =>
            have em0 : midT L fl = "" := by unfold midT; rw [e]
            rw [em0]
            exact iteNS rfl ⟨_, _, _, _, _, _, _, _, by rw [← em0]; rfl, Same.refl _⟩
          | some i0 =>
            have em0 : midT L fl = W fl := by unfold midT; rw [e]
            have epar : (Txt.partition (W L) (W fl)).2.2 = W (L.drop (i0 + fl.length)) := by rw [part_W, e]
            rw [em0, epar]
            refine iteNT (fun z => ?_) ?_
            · have := V.str.inj z
              exact fnn (W_inj (this.trans W_nil.symm))
            have ldr : (L.drop (i0 + fl.length)).length ≤ 800 := by rw [List.length_drop]; omega
            refine ⟨_, rfl, _, rfl, _, rfl, m, c, fl, ss, p, st, L.drop (i0 + fl.length), rfl, bD.km.hR, bD.km.hC, by omega, lp.symm, by omega, fnn, fun qf HE sE hqf => ?_⟩
            rw [← (show (stM fl ss p st L).2.2 = frM fl ss p st (L.drop (i0 + fl.length)) by rw [st_some e]), ← ec1] at hqf
            refine ⟨_, rfl, _, _, hqf.dp, (hq1D.same sE).dp, ok1.shaped (by decide), ok1.shaped (by decide), _, rfl, iteBF (by rw [ok1.refl]; rfl) ?_⟩
            exact ⟨_, _, _, _, _, _, _, _, by rw [← em0]; rfl, sE⟩
        rintro σ HE ⟨v1, v15, v16, v18, v19, v20, v21, v22, rfl, sE⟩
        have bE := bD.same sE
        have uE := uD.same sE
        have hq1E := hq1D.same sE
        clear bD uD hq1D sE
        refine ⟨fun σ H' => ∃ v1 v15 v16 v17 v18 v19 v20 v21 v22 : Option V, σ = [some (.ref a), v1, some (.ref bx), some (.int (0 + (j : Int))), some (.ref t), some (.ref tc), some (.ref m), some (.ref c), some (.str (W L)), some (.ref lv), some (.ref l2), some (.ref l3), some (.ref q1), some (.ref qp), some (.ref q2), v15, v16, v17, v18, v19, v20, v21, v22] ∧ Same HE H', ?_, ?_⟩
        · refine ⟨_, rfl, rfl, _, rfl, ?_⟩
          cases e : posM L fl with
          | none =>
            have em0 : midT L fl = "" := by unfold midT; rw [e]
            rw [em0]
            refine iteDT rfl ?_
            have ecl : clM fl ss p st [] L = [] := by rw [ec1, st_none e]
            have eop : (stM fl ss p st L).1 = false := by rw [st_none e]
            have hq1n : FrU HE q1 [] := by rw [← ecl]; exact hq1E
            refine ⟨_, rfl, Nat.zero_le _, fun te nte => ?_⟩
            have ste := same_upd (o := .tup []) nte
            have okN : DOk 2 (.tuple (([] : List Rd2).map prD)) := frD_ok fun _ h => nomatch h
            refine ⟨.tuple (([] : List Rd2).map prD), .tuple [], (hq1n.same ste).dp, .tup (SqT.of upd_same) .nil, okN.shaped (by decide), okN.shaped (by decide), _, rfl, iteBF (by decide) ?_⟩
            obtain ⟨d1', x1', y1', i1'⟩ := (bE.same ste).A1.ins
            refine ⟨_, rfl, lv, d1', _, rfl, i1', lv, m, c, _, _, _, rfl, (bE.same ste).A1.at, _, false, rfl, rfl, _, rfl, iteBF (by rw [eop]; rfl) ?_⟩
            exact ⟨_, _, _, _, _, _, _, _, _, rfl, ste⟩
          | some i0 =>
            have em0 : midT L fl = W fl := by unfold midT; rw [e]
            rw [em0]
            refine iteDF (fun z => fnn (W_inj ((V.str.inj z).trans W_nil.symm))) ?_
            exact ⟨_, _, _, _, _, _, _, _, _, rfl, Same.refl _⟩
        rintro σ HF ⟨v1, v15, v16, v17, v18, v19, v20, v21, v22, rfl, sF⟩
        have bF := bE.same sF
        have uF := uE.same sF
        clear bE uE hq1E sF
        -- what is sent
        refine ⟨_, rfl, _, rfl, bx, 9, rfl, uF.2, by decide, by decide, fun d HG d0 d9 uG => ?_⟩
        obtain ⟨n, rfl⟩ := Int.eq_ofNat_of_zero_le d0
        refine ⟨bx, n, rfl, uG.2, by omega, fun bits HH lb uH => ?_⟩
        have bH := bF.up uF.2 (uG.trans uH)
        have uH' := uF.trans (uG.trans uH)
        clear bF uF uG uH
        refine ⟨_, rfl, _, rfl, _, rfl, m, c, fl, ss, p, st, bits, rfl, bH.km.hR, bH.km.hC, by omega, lp.symm, by omega, by omega, o39', fun bd HI hBd lbd sI => ?_⟩
        obtain ⟨i0, hi0, li0⟩ := posM_end bd fl
        have lfr : (bd ++ fl).length ≤ 480 := by rw [List.length_append]; omega
        generalize bd ++ fl = fr at hi0 lfr
        clear hBd lbd li0
        have bI := bH.same sI
        have uI := uH'.same sI
        clear bH uH' sI
        refine ⟨_, rfl, _, rfl, mk_lv fun l4 HJ nl4 sJ hLJ => ?_⟩
        obtain ⟨dm, tm, em⟩ := bI.km.hR.few
        obtain ⟨dc, ec⟩ := id bI.km.hC
        obtain ⟨d1, x1, y1, i1⟩ := bI.A1.ins
        obtain ⟨d2, x2, y2, i2⟩ := bI.A2.ins
        obtain ⟨d3, x3, y3, i3⟩ := bI.A3.ins
        have k1 : m ≠ l4 := ne_of_none em nl4
        have k2 : c ≠ l4 := ne_of_none ec nl4
        have k3 : lv ≠ l4 := ne_of_none i1 nl4
        have k4 : l2 ≠ l4 := ne_of_none i2 nl4
        have k5 : l3 ≠ l4 := ne_of_none i3 nl4
        have k6 : l4 ≠ bx := uI.2.ne nl4
        have k7 : H1 l4 = none := uI.free nl4
        have bJ := bI.same sJ
        have uJ := uI.same sJ
        have A4 : LH CL HJ l4 m c fl ss p st [] 0 := LH.new fnn hLJ
        clear bI uI sJ hLJ nl4 em ec i1 i2 i3 x1 y1 x2 y2 x3 y3 d1 d2 d3
        obtain ⟨d4, x4, y4, i4⟩ := A4.ins
        obtain ⟨lk, htJ, hlJ⟩ := bJ.told.stl
        refine ⟨_, rfl, l4, d4, _, rfl, i4, by rfl, _, rfl, t, _, _, _, rfl, rfl, SqT.of htJ, atI_nat (j := 0) rfl, ?_⟩
        try dsimp only [tNil, List.append_nil]
        refine hear_lh A4 bJ.km (by omega) lp.symm fnn (by rw [List.length_nil]; omega) (by decide) fun qx HK smK A4K _ => ?_
        have bK := bJ.sO i4 k1 k2 k3 k4 k5 smK
        have uK := uJ.smb k7 k6 smK
        clear bJ uJ A4 smK htJ hlJ lk i4
        rw [List.nil_append] at A4K
        obtain ⟨d5, x5, y5, i5⟩ := A4K.ins
        refine ⟨_, rfl, l4, d5, _, rfl, i5, by rfl, _, rfl, ?_⟩
        try dsimp only [tNil, List.append_nil]
        refine hear_lh A4K bK.km (by omega) lp.symm fnn (by omega) (by decide) fun qh HL smL A4L hqh => ?_
        have bL := bK.sO i5 k1 k2 k3 k4 k5 smL
        have uL := uK.smb k7 k6 smL
        rw [cl_flag fnn] at hqh
        clear bK uK A4K smL A4L i5 x4 y4 x5 y5
        obtain ⟨lk, htL, hlL⟩ := bL.told.stl
        refine ⟨fun σ H' => ∃ v1 v15 v16 v17 v18 v19 v20 v21 v22 : Option V, σ = [some (.ref a), v1, some (.ref bx), some (.int (0 + (j : Int))), some (.ref t), some (.ref tc), some (.ref m), some (.ref c), some (.str (W L)), some (.ref lv), some (.ref l2), some (.ref l3), some (.ref q1), some (.ref qp), some (.ref q2), v15, v16, v17, v18, v19, v20, v21, v22] ∧ Same HL H', ?_, ?_⟩
        · refine ⟨_, rfl, ⟨_, rfl⟩, _, rfl, t, _, _, _, rfl, rfl, SqT.of htL, atI_nat (j := 0) rfl, _, _, rfl, rfl, ?_⟩
          rw [find_W hi0]
          by_cases hp : 0 < i0
          · refine ⟨_, _, rfl, rfl, _, rfl, iteDT (by omega) ?_⟩
            refine ⟨_, rfl, _, rfl, ?_⟩
            dsimp only [tNoPart]
            refine sl_frT (i := 1) hqh fun q6 HM sM hq6 => ?_
            rw [fr_first fnn hi0 hp] at hq6
            refine ⟨_, rfl, _, rfl, _, rfl, m, c, fl, ss, p, st, fr, rfl, (bL.same sM).km.hR, (bL.same sM).km.hC, by omega, lp.symm, by omega, fnn, fun i hi => by have := (posM_some.mp hi).1; omega, fun trc HN ntr sN htr => ?_⟩
            refine ⟨by show 1 ≤ sizeLine; decide, fun tu ntu => ?_⟩
            have stu := same_upd (o := .tup [.ref trc]) ntu
            have ok1 : DOk 2 (.tuple ([rcM fl ss p st fr].map prD)) := frD_ok fun r hr => by
              have e1 : r ∈ (frM fl ss p st fr).take 1 := by rw [fr_first fnn hi0 hp]; exact hr
              exact (fr_sm.2 r (List.mem_of_mem_take e1)).2.2.1
            have hFu : FrU (upd HN tu (.tup [.ref trc])) tu [rcM fl ss p st fr] := ⟨[trc], fun _ => rcM fl ss p st fr, upd_same, fun u hu => by rw [List.mem_singleton.mp hu]; exact stu _ _ htr, rfl⟩
            refine ⟨_, _, (hq6.same (sN.trans stu)).dp, hFu.dp, ok1.shaped (by decide), ok1.shaped (by decide), _, rfl, iteBF (by rw [ok1.refl]; rfl) ?_⟩
            exact ⟨_, _, _, _, _, _, _, _, _, rfl, (sM.trans sN).trans stu⟩
          · refine ⟨_, _, rfl, rfl, _, rfl, iteDF (by omega) ?_⟩
            exact ⟨_, _, _, _, _, _, _, _, _, rfl, Same.refl _⟩
        rintro σ HM ⟨v1, v15, v16, v17, v18, v19, v20, v21, v22, rfl, sM⟩
        have bM := bL.same sM
        have uM := uL.same sM
        clear bL uL hqh htL hlL lk sM
        refine ⟨_, rfl, _, rfl, m, fl, ss, L, rfl, bM.km.hR, ok', o39', a1, by omega, by omega, fun HN sN => ?_⟩
        have bN := bM.same sN
        have uN := uM.same sN
        refine ⟨_, rfl, iteBF rfl ?_⟩
        refine ⟨_, rfl, rfl, _, rfl, ?_⟩
        by_cases hj0 : (0 + (j : Int)) = 0
        · refine iteDT (by rw [hj0]) ?_
          refine ⟨_, rfl, _, rfl, _, rfl, bx, m, c, fl, ss, p, st, rfl, uN.2, bN.km, by omega, lp.symm, fnn, fun HO uO => ?_⟩
          refine ⟨_, rfl, iteBF rfl ?_⟩
          exact ⟨_, _, _, _, _, _, _, _, _, _, _, _, _, _, _, _, _, _, _, _, _, rfl, uN.trans uO⟩
        · refine iteDF (fun z => hj0 (V.int.inj z)) ?_
          exact ⟨_, _, _, _, _, _, _, _, _, _, _, _, _, _, _, _, _, _, _, _, _, rfl, uN⟩
      · rintro σ H3 ⟨v1, v3, v4, v5, v6, v7, v8, v9, v10, v11, v12, v13, v14, v15, v16, v17, v18, v19, v20, v21, v22, rfl, u3⟩
        exact ⟨_, _, _, _, _, _, _, _, _, _, _, _, _, _, _, _, _, _, _, _, _, _, rfl, back u3⟩
    · rintro σ H2 ⟨v1, v2, v3, v4, v5, v6, v7, v8, v9, v10, v11, v12, v13, v14, v15, v16, v17, v18, v19, v20, v21, v22, rfl, s2⟩
      exact k _
end
end U

set_option maxRecDepth 100000
set_option maxHeartbeats 4000000
namespace U
open PySem PySem.Spec PyProof.Rows
open L2 hiding Fun CX0 E0 pass0 Fun.binds
open C8 Lx
theorem all_mk {l : PySem.W.OpenLaw} {w : World} {K : PySem.W.Frag} {h : Heap} {mg : Str → Option Value} {fa : Addr} (X : K.In h) (G : h.Ns mainGlobals mg) (hfa : mg "law" = some (.ref fa))
    {f_put_behind : Addr} {od_put_behind an_put_behind : Option Addr} {sl_put_behind : Array (Option Value)} {oc_put_behind kV_put_behind dc_put_behind pm_put_behind cd_put_behind ct_put_behind : Value}
    {f_body : Addr} {od_body an_body : Option Addr} {sl_body : Array (Option Value)} {oc_body kV_body dc_body pm_body cd_body ct_body : Value}
    {f_taken_out : Addr} {od_taken_out an_taken_out : Option Addr} {sl_taken_out : Array (Option Value)} {oc_taken_out kV_taken_out dc_taken_out pm_taken_out cd_taken_out ct_taken_out : Value}
    {f_send : Addr} {od_send an_send : Option Addr} {sl_send : Array (Option Value)} {oc_send kV_send dc_send pm_send cd_send ct_send : Value}
    {f_read_part : Addr} {od_read_part an_read_part : Option Addr} {sl_read_part : Array (Option Value)} {oc_read_part kV_read_part dc_read_part pm_read_part cd_read_part ct_read_part : Value}
    {f_receive : Addr} {od_receive an_receive : Option Addr} {sl_receive : Array (Option Value)} {oc_receive kV_receive dc_receive pm_receive cd_receive ct_receive : Value}
    {f_cut_up : Addr} {od_cut_up an_cut_up : Option Addr} {sl_cut_up : Array (Option Value)} {oc_cut_up kV_cut_up dc_cut_up pm_cut_up cd_cut_up ct_cut_up : Value}
    {f_frames : Addr} {od_frames an_frames : Option Addr} {sl_frames : Array (Option Value)} {oc_frames kV_frames dc_frames pm_frames cd_frames ct_frames : Value}
    {f_is_sequence : Addr} {od_is_sequence an_is_sequence : Option Addr} {sl_is_sequence : Array (Option Value)} {oc_is_sequence kV_is_sequence dc_is_sequence pm_is_sequence cd_is_sequence ct_is_sequence : Value}
    {f_is_word : Addr} {od_is_word an_is_word : Option Addr} {sl_is_word : Array (Option Value)} {oc_is_word kV_is_word dc_is_word pm_is_word cd_is_word ct_is_word : Value}
    {f_is_bit : Addr} {od_is_bit an_is_bit : Option Addr} {sl_is_bit : Array (Option Value)} {oc_is_bit kV_is_bit dc_is_bit pm_is_bit cd_is_bit ct_is_bit : Value}
    {f_other : Addr} {od_other an_other : Option Addr} {sl_other : Array (Option Value)} {oc_other kV_other dc_other pm_other cd_other ct_other : Value}
    {f_swapped_word : Addr} {od_swapped_word an_swapped_word : Option Addr} {sl_swapped_word : Array (Option Value)} {oc_swapped_word kV_swapped_word dc_swapped_word pm_swapped_word cd_swapped_word ct_swapped_word : Value}
    {f_tail : Addr} {od_tail an_tail : Option Addr} {sl_tail : Array (Option Value)} {oc_tail kV_tail dc_tail pm_tail cd_tail ct_tail : Value}
    {f_is_stuff : Addr} {od_is_stuff an_is_stuff : Option Addr} {sl_is_stuff : Array (Option Value)} {oc_is_stuff kV_is_stuff dc_is_stuff pm_is_stuff cd_is_stuff ct_is_stuff : Value}
    {f_are_stuffs : Addr} {od_are_stuffs an_are_stuffs : Option Addr} {sl_are_stuffs : Array (Option Value)} {oc_are_stuffs kV_are_stuffs dc_are_stuffs pm_are_stuffs cd_are_stuffs ct_are_stuffs : Value}
    {f_l_seed : Addr} {od_l_seed an_l_seed : Option Addr} {sl_l_seed : Array (Option Value)} {oc_l_seed kV_l_seed dc_l_seed pm_l_seed cd_l_seed ct_l_seed : Value}
    {f_l_choose : Addr} {od_l_choose an_l_choose : Option Addr} {sl_l_choose : Array (Option Value)} {oc_l_choose kV_l_choose dc_l_choose pm_l_choose cd_l_choose ct_l_choose : Value}
    {f_l_one_of : Addr} {od_l_one_of an_l_one_of : Option Addr} {sl_l_one_of : Array (Option Value)} {oc_l_one_of kV_l_one_of dc_l_one_of pm_l_one_of cd_l_one_of ct_l_one_of : Value}
    {f_l_word : Addr} {od_l_word an_l_word : Option Addr} {sl_l_word : Array (Option Value)} {oc_l_word kV_l_word dc_l_word pm_l_word cd_l_word ct_l_word : Value}
    {f_l_turn : Addr} {od_l_turn an_l_turn : Option Addr} {sl_l_turn : Array (Option Value)} {oc_l_turn kV_l_turn dc_l_turn pm_l_turn cd_l_turn ct_l_turn : Value}
    {f_l_ends : Addr} {od_l_ends an_l_ends : Option Addr} {sl_l_ends : Array (Option Value)} {oc_l_ends kV_l_ends dc_l_ends pm_l_ends cd_l_ends ct_l_ends : Value}
    {f_l_due : Addr} {od_l_due an_l_due : Option Addr} {sl_l_due : Array (Option Value)} {oc_l_due kV_l_due dc_l_due pm_l_due cd_l_due ct_l_due : Value}
    {f_l_chain : Addr} {od_l_chain an_l_chain : Option Addr} {sl_l_chain : Array (Option Value)} {oc_l_chain kV_l_chain dc_l_chain pm_l_chain cd_l_chain ct_l_chain : Value}
    {f_l_tails : Addr} {od_l_tails an_l_tails : Option Addr} {sl_l_tails : Array (Option Value)} {oc_l_tails kV_l_tails dc_l_tails pm_l_tails cd_l_tails ct_l_tails : Value}
    {f_l_are_stuffs : Addr} {od_l_are_stuffs an_l_are_stuffs : Option Addr} {sl_l_are_stuffs : Array (Option Value)} {oc_l_are_stuffs kV_l_are_stuffs dc_l_are_stuffs pm_l_are_stuffs cd_l_are_stuffs ct_l_are_stuffs : Value}
    {f_l_stuff : Addr} {od_l_stuff an_l_stuff : Option Addr} {sl_l_stuff : Array (Option Value)} {oc_l_stuff kV_l_stuff dc_l_stuff pm_l_stuff cd_l_stuff ct_l_stuff : Value}
    {f_l_rule : Addr} {od_l_rule an_l_rule : Option Addr} {sl_l_rule : Array (Option Value)} {oc_l_rule kV_l_rule dc_l_rule pm_l_rule cd_l_rule ct_l_rule : Value}
    {f_l_body : Addr} {od_l_body an_l_body : Option Addr} {sl_l_body : Array (Option Value)} {oc_l_body kV_l_body dc_l_body pm_l_body cd_l_body ct_l_body : Value}
    {f_l_words : Addr} {od_l_words an_l_words : Option Addr} {sl_l_words : Array (Option Value)} {oc_l_words kV_l_words dc_l_words pm_l_words cd_l_words ct_l_words : Value}
    {f_l_check : Addr} {od_l_check an_l_check : Option Addr} {sl_l_check : Array (Option Value)} {oc_l_check kV_l_check dc_l_check pm_l_check cd_l_check ct_l_check : Value}
    {f_l_rest : Addr} {od_l_rest an_l_rest : Option Addr} {sl_l_rest : Array (Option Value)} {oc_l_rest kV_l_rest dc_l_rest pm_l_rest cd_l_rest ct_l_rest : Value}
    {f_l_right : Addr} {od_l_right an_l_right : Option Addr} {sl_l_right : Array (Option Value)} {oc_l_right kV_l_right dc_l_right pm_l_right cd_l_right ct_l_right : Value}
    {f_l_bits_for : Addr} {od_l_bits_for an_l_bits_for : Option Addr} {sl_l_bits_for : Array (Option Value)} {oc_l_bits_for kV_l_bits_for dc_l_bits_for pm_l_bits_for cd_l_bits_for ct_l_bits_for : Value}
    {f_l_stream : Addr} {od_l_stream an_l_stream : Option Addr} {sl_l_stream : Array (Option Value)} {oc_l_stream kV_l_stream dc_l_stream pm_l_stream cd_l_stream ct_l_stream : Value}
    {f_l_pieces : Addr} {od_l_pieces an_l_pieces : Option Addr} {sl_l_pieces : Array (Option Value)} {oc_l_pieces kV_l_pieces dc_l_pieces pm_l_pieces cd_l_pieces ct_l_pieces : Value}
    {f_l_long_right : Addr} {od_l_long_right an_l_long_right : Option Addr} {sl_l_long_right : Array (Option Value)} {oc_l_long_right kV_l_long_right dc_l_long_right pm_l_long_right cd_l_long_right ct_l_long_right : Value}
    {f_l_mirror_right : Addr} {od_l_mirror_right an_l_mirror_right : Option Addr} {sl_l_mirror_right : Array (Option Value)} {oc_l_mirror_right kV_l_mirror_right dc_l_mirror_right pm_l_mirror_right cd_l_mirror_right ct_l_mirror_right : Value}
    {f_law : Addr} {od_law an_law : Option Addr} {sl_law : Array (Option Value)} {oc_law kV_law dc_law pm_law cd_law ct_law : Value}
    {C_Rule : Addr}
    {f_Rule_put : Addr} {od_Rule_put an_Rule_put : Option Addr} {sl_Rule_put : Array (Option Value)} {oc_Rule_put kV_Rule_put dc_Rule_put pm_Rule_put cd_Rule_put ct_Rule_put : Value}
    {f_Rule_longest : Addr} {od_Rule_longest an_Rule_longest : Option Addr} {sl_Rule_longest : Array (Option Value)} {oc_Rule_longest kV_Rule_longest dc_Rule_longest pm_Rule_longest cd_Rule_longest ct_Rule_longest : Value}
    {p_Rule_longest : Addr} {pr_Rule_longest : List Value}
    {f_Rule_put_in : Addr} {od_Rule_put_in an_Rule_put_in : Option Addr} {sl_Rule_put_in : Array (Option Value)} {oc_Rule_put_in kV_Rule_put_in dc_Rule_put_in pm_Rule_put_in cd_Rule_put_in ct_Rule_put_in : Value}
    {f_Rule_is_endless : Addr} {od_Rule_is_endless an_Rule_is_endless : Option Addr} {sl_Rule_is_endless : Array (Option Value)} {oc_Rule_is_endless kV_Rule_is_endless dc_Rule_is_endless pm_Rule_is_endless cd_Rule_is_endless ct_Rule_is_endless : Value}
    {f_Rule_init : Addr} {od_Rule_init an_Rule_init : Option Addr} {sl_Rule_init : Array (Option Value)} {oc_Rule_init kV_Rule_init dc_Rule_init pm_Rule_init cd_Rule_init ct_Rule_init : Value}
    {dT_Rule_init : Addr} {dd_Rule_init : Option Addr} {dn_Rule_init : Nat} {ds_Rule_init : Array (Option Value)} {dE_R : Addr} {dde_R : Option Addr} {dne_R : Nat} {dse_R : Array (Option Value)}
    {f_Rule_swapped : Addr} {od_Rule_swapped an_Rule_swapped : Option Addr} {sl_Rule_swapped : Array (Option Value)} {oc_Rule_swapped kV_Rule_swapped dc_Rule_swapped pm_Rule_swapped cd_Rule_swapped ct_Rule_swapped : Value}
    {C_Live : Addr}
    {f_Live_take : Addr} {od_Live_take an_Live_take : Option Addr} {sl_Live_take : Array (Option Value)} {oc_Live_take kV_Live_take dc_Live_take pm_Live_take cd_Live_take ct_Live_take : Value}
    {f_Live_hear : Addr} {od_Live_hear an_Live_hear : Option Addr} {sl_Live_hear : Array (Option Value)} {oc_Live_hear kV_Live_hear dc_Live_hear pm_Live_hear cd_Live_hear ct_Live_hear : Value}
    {f_Live_found : Addr} {od_Live_found an_Live_found : Option Addr} {sl_Live_found : Array (Option Value)} {oc_Live_found kV_Live_found dc_Live_found pm_Live_found cd_Live_found ct_Live_found : Value}
    {p_Live_found : Addr} {pr_Live_found : List Value}
    {f_Live_init : Addr} {od_Live_init an_Live_init : Option Addr} {sl_Live_init : Array (Option Value)} {oc_Live_init kV_Live_init dc_Live_init pm_Live_init cd_Live_init ct_Live_init : Value}
    {f_Live_several : Addr} {od_Live_several an_Live_several : Option Addr} {sl_Live_several : Array (Option Value)} {oc_Live_several kV_Live_several dc_Live_several pm_Live_several cd_Live_several ct_Live_several : Value}
    {f_Live_part : Addr} {od_Live_part an_Live_part : Option Addr} {sl_Live_part : Array (Option Value)} {oc_Live_part kV_Live_part dc_Live_part pm_Live_part cd_Live_part ct_Live_part : Value}
    {p_Live_part : Addr} {pr_Live_part : List Value}
    {f_Live_heard : Addr} {od_Live_heard an_Live_heard : Option Addr} {sl_Live_heard : Array (Option Value)} {oc_Live_heard kV_Live_heard dc_Live_heard pm_Live_heard cd_Live_heard ct_Live_heard : Value}
    {p_Live_heard : Addr} {pr_Live_heard : List Value}
    {f_Live_is_open : Addr} {od_Live_is_open an_Live_is_open : Option Addr} {sl_Live_is_open : Array (Option Value)} {oc_Live_is_open kV_Live_is_open dc_Live_is_open pm_Live_is_open cd_Live_is_open ct_Live_is_open : Value}
    {p_Live_is_open : Addr} {pr_Live_is_open : List Value}
    {C_Check : Addr}
    {f_Check_step : Addr} {od_Check_step an_Check_step : Option Addr} {sl_Check_step : Array (Option Value)} {oc_Check_step kV_Check_step dc_Check_step pm_Check_step cd_Check_step ct_Check_step : Value}
    {f_Check_rest : Addr} {od_Check_rest an_Check_rest : Option Addr} {sl_Check_rest : Array (Option Value)} {oc_Check_rest kV_Check_rest dc_Check_rest pm_Check_rest cd_Check_rest ct_Check_rest : Value}
    {f_Check_degree : Addr} {od_Check_degree an_Check_degree : Option Addr} {sl_Check_degree : Array (Option Value)} {oc_Check_degree kV_Check_degree dc_Check_degree pm_Check_degree cd_Check_degree ct_Check_degree : Value}
    {p_Check_degree : Addr} {pr_Check_degree : List Value}
    {f_Check_is_good : Addr} {od_Check_is_good an_Check_is_good : Option Addr} {sl_Check_is_good : Array (Option Value)} {oc_Check_is_good kV_Check_is_good dc_Check_is_good pm_Check_is_good cd_Check_is_good ct_Check_is_good : Value}
    {f_Check_init : Addr} {od_Check_init an_Check_init : Option Addr} {sl_Check_init : Array (Option Value)} {oc_Check_init kV_Check_init dc_Check_init pm_Check_init cd_Check_init ct_Check_init : Value}
    {dT_Check_init : Addr} {dd_Check_init : Option Addr} {dn_Check_init : Nat} {ds_Check_init : Array (Option Value)} {tD : Tok}
    {f_Check_bits_for : Addr} {od_Check_bits_for an_Check_bits_for : Option Addr} {sl_Check_bits_for : Array (Option Value)} {oc_Check_bits_for kV_Check_bits_for dc_Check_bits_for pm_Check_bits_for cd_Check_bits_for ct_Check_bits_for : Value}
    {tB : Tok}
    {CW_ : Addr}
    (a_put_behind : PySem.W.nsIn K mainGlobals "put_behind" = some (some (.ref f_put_behind)))
    (l_put_behind : K.lookup f_put_behind = some ⟨oc_put_behind, od_put_behind, .func (PySem.W.fnOf "put_behind" "put_behind" (fnArgs s_put_behind) (fnBody s_put_behind) (fnScope s_put_behind) .none kV_put_behind dc_put_behind pm_put_behind an_put_behind cd_put_behind ct_put_behind), sl_put_behind⟩)
    (c_put_behind : PySem.W.codeIn K cd_put_behind "put_behind" = true)
    (k_put_behind : PySem.W.keepIn K (.ref f_put_behind) = true)
    (a_body : PySem.W.nsIn K mainGlobals "body" = some (some (.ref f_body)))
    (l_body : K.lookup f_body = some ⟨oc_body, od_body, .func (PySem.W.fnOf "body" "body" (fnArgs s_body) (fnBody s_body) (fnScope s_body) .none kV_body dc_body pm_body an_body cd_body ct_body), sl_body⟩)
    (c_body : PySem.W.codeIn K cd_body "body" = true)
    (k_body : PySem.W.keepIn K (.ref f_body) = true)
    (a_taken_out : PySem.W.nsIn K mainGlobals "taken_out" = some (some (.ref f_taken_out)))
    (l_taken_out : K.lookup f_taken_out = some ⟨oc_taken_out, od_taken_out, .func (PySem.W.fnOf "taken_out" "taken_out" (fnArgs s_taken_out) (fnBody s_taken_out) (fnScope s_taken_out) .none kV_taken_out dc_taken_out pm_taken_out an_taken_out cd_taken_out ct_taken_out), sl_taken_out⟩)
    (c_taken_out : PySem.W.codeIn K cd_taken_out "taken_out" = true)
    (k_taken_out : PySem.W.keepIn K (.ref f_taken_out) = true)
    (a_send : PySem.W.nsIn K mainGlobals "send" = some (some (.ref f_send)))
    (l_send : K.lookup f_send = some ⟨oc_send, od_send, .func (PySem.W.fnOf "send" "send" (fnArgs s_send) (fnBody s_send) (fnScope s_send) .none kV_send dc_send pm_send an_send cd_send ct_send), sl_send⟩)
    (c_send : PySem.W.codeIn K cd_send "send" = true)
    (k_send : PySem.W.keepIn K (.ref f_send) = true)
    (a_read_part : PySem.W.nsIn K mainGlobals "read_part" = some (some (.ref f_read_part)))
    (l_read_part : K.lookup f_read_part = some ⟨oc_read_part, od_read_part, .func (PySem.W.fnOf "read_part" "read_part" (fnArgs s_read_part) (fnBody s_read_part) (fnScope s_read_part) .none kV_read_part dc_read_part pm_read_part an_read_part cd_read_part ct_read_part), sl_read_part⟩)
    (c_read_part : PySem.W.codeIn K cd_read_part "read_part" = true)
    (k_read_part : PySem.W.keepIn K (.ref f_read_part) = true)
    (a_receive : PySem.W.nsIn K mainGlobals "receive" = some (some (.ref f_receive)))
    (l_receive : K.lookup f_receive = some ⟨oc_receive, od_receive, .func (PySem.W.fnOf "receive" "receive" (fnArgs s_receive) (fnBody s_receive) (fnScope s_receive) .none kV_receive dc_receive pm_receive an_receive cd_receive ct_receive), sl_receive⟩)
    (c_receive : PySem.W.codeIn K cd_receive "receive" = true)
    (k_receive : PySem.W.keepIn K (.ref f_receive) = true)
    (a_cut_up : PySem.W.nsIn K mainGlobals "cut_up" = some (some (.ref f_cut_up)))
    (l_cut_up : K.lookup f_cut_up = some ⟨oc_cut_up, od_cut_up, .func (PySem.W.fnOf "cut_up" "cut_up" (fnArgs s_cut_up) (fnBody s_cut_up) (fnScope s_cut_up) .none kV_cut_up dc_cut_up pm_cut_up an_cut_up cd_cut_up ct_cut_up), sl_cut_up⟩)
    (c_cut_up : PySem.W.codeIn K cd_cut_up "cut_up" = true)
    (k_cut_up : PySem.W.keepIn K (.ref f_cut_up) = true)
    (a_frames : PySem.W.nsIn K mainGlobals "frames" = some (some (.ref f_frames)))
    (l_frames : K.lookup f_frames = some ⟨oc_frames, od_frames, .func (PySem.W.fnOf "frames" "frames" (fnArgs s_frames) (fnBody s_frames) (fnScope s_frames) .none kV_frames dc_frames pm_frames an_frames cd_frames ct_frames), sl_frames⟩)
    (c_frames : PySem.W.codeIn K cd_frames "frames" = true)
    (k_frames : PySem.W.keepIn K (.ref f_frames) = true)
    (a_is_sequence : PySem.W.nsIn K mainGlobals "is_sequence" = some (some (.ref f_is_sequence)))
    (l_is_sequence : K.lookup f_is_sequence = some ⟨oc_is_sequence, od_is_sequence, .func (PySem.W.fnOf "is_sequence" "is_sequence" (fnArgs s_is_sequence) (fnBody s_is_sequence) (fnScope s_is_sequence) .none kV_is_sequence dc_is_sequence pm_is_sequence an_is_sequence cd_is_sequence ct_is_sequence), sl_is_sequence⟩)
    (c_is_sequence : PySem.W.codeIn K cd_is_sequence "is_sequence" = true)
    (k_is_sequence : PySem.W.keepIn K (.ref f_is_sequence) = true)
    (a_is_word : PySem.W.nsIn K mainGlobals "is_word" = some (some (.ref f_is_word)))
    (l_is_word : K.lookup f_is_word = some ⟨oc_is_word, od_is_word, .func (PySem.W.fnOf "is_word" "is_word" (fnArgs s_is_word) (fnBody s_is_word) (fnScope s_is_word) .none kV_is_word dc_is_word pm_is_word an_is_word cd_is_word ct_is_word), sl_is_word⟩)
    (c_is_word : PySem.W.codeIn K cd_is_word "is_word" = true)
    (k_is_word : PySem.W.keepIn K (.ref f_is_word) = true)
    (a_is_bit : PySem.W.nsIn K mainGlobals "is_bit" = some (some (.ref f_is_bit)))
    (l_is_bit : K.lookup f_is_bit = some ⟨oc_is_bit, od_is_bit, .func (PySem.W.fnOf "is_bit" "is_bit" (fnArgs s_is_bit) (fnBody s_is_bit) (fnScope s_is_bit) .none kV_is_bit dc_is_bit pm_is_bit an_is_bit cd_is_bit ct_is_bit), sl_is_bit⟩)
    (c_is_bit : PySem.W.codeIn K cd_is_bit "is_bit" = true)
    (k_is_bit : PySem.W.keepIn K (.ref f_is_bit) = true)
    (a_other : PySem.W.nsIn K mainGlobals "other" = some (some (.ref f_other)))
    (l_other : K.lookup f_other = some ⟨oc_other, od_other, .func (PySem.W.fnOf "other" "other" (fnArgs s_other) (fnBody s_other) (fnScope s_other) .none kV_other dc_other pm_other an_other cd_other ct_other), sl_other⟩)
    (c_other : PySem.W.codeIn K cd_other "other" = true)
    (k_other : PySem.W.keepIn K (.ref f_other) = true)
    (a_swapped_word : PySem.W.nsIn K mainGlobals "swapped_word" = some (some (.ref f_swapped_word)))
    (l_swapped_word : K.lookup f_swapped_word = some ⟨oc_swapped_word, od_swapped_word, .func (PySem.W.fnOf "swapped_word" "swapped_word" (fnArgs s_swapped_word) (fnBody s_swapped_word) (fnScope s_swapped_word) .none kV_swapped_word dc_swapped_word pm_swapped_word an_swapped_word cd_swapped_word ct_swapped_word), sl_swapped_word⟩)
    (c_swapped_word : PySem.W.codeIn K cd_swapped_word "swapped_word" = true)
    (k_swapped_word : PySem.W.keepIn K (.ref f_swapped_word) = true)
    (a_tail : PySem.W.nsIn K mainGlobals "tail" = some (some (.ref f_tail)))
    (l_tail : K.lookup f_tail = some ⟨oc_tail, od_tail, .func (PySem.W.fnOf "tail" "tail" (fnArgs s_tail) (fnBody s_tail) (fnScope s_tail) .none kV_tail dc_tail pm_tail an_tail cd_tail ct_tail), sl_tail⟩)
    (c_tail : PySem.W.codeIn K cd_tail "tail" = true)
    (k_tail : PySem.W.keepIn K (.ref f_tail) = true)
    (a_is_stuff : PySem.W.nsIn K mainGlobals "is_stuff" = some (some (.ref f_is_stuff)))
    (l_is_stuff : K.lookup f_is_stuff = some ⟨oc_is_stuff, od_is_stuff, .func (PySem.W.fnOf "is_stuff" "is_stuff" (fnArgs s_is_stuff) (fnBody s_is_stuff) (fnScope s_is_stuff) .none kV_is_stuff dc_is_stuff pm_is_stuff an_is_stuff cd_is_stuff ct_is_stuff), sl_is_stuff⟩)
    (c_is_stuff : PySem.W.codeIn K cd_is_stuff "is_stuff" = true)
    (k_is_stuff : PySem.W.keepIn K (.ref f_is_stuff) = true)
    (a_are_stuffs : PySem.W.nsIn K mainGlobals "are_stuffs" = some (some (.ref f_are_stuffs)))
    (l_are_stuffs : K.lookup f_are_stuffs = some ⟨oc_are_stuffs, od_are_stuffs, .func (PySem.W.fnOf "are_stuffs" "are_stuffs" (fnArgs s_are_stuffs) (fnBody s_are_stuffs) (fnScope s_are_stuffs) .none kV_are_stuffs dc_are_stuffs pm_are_stuffs an_are_stuffs cd_are_stuffs ct_are_stuffs), sl_are_stuffs⟩)
    (c_are_stuffs : PySem.W.codeIn K cd_are_stuffs "are_stuffs" = true)
    (k_are_stuffs : PySem.W.keepIn K (.ref f_are_stuffs) = true)
    (a_l_seed : PySem.W.nsIn K mainGlobals "_law_seed" = some (some (.ref f_l_seed)))
    (l_l_seed : K.lookup f_l_seed = some ⟨oc_l_seed, od_l_seed, .func (PySem.W.fnOf "_law_seed" "_law_seed" (fnArgs s_l_seed) (fnBody s_l_seed) (fnScope s_l_seed) .none kV_l_seed dc_l_seed pm_l_seed an_l_seed cd_l_seed ct_l_seed), sl_l_seed⟩)
    (c_l_seed : PySem.W.codeIn K cd_l_seed "_law_seed" = true)
    (k_l_seed : PySem.W.keepIn K (.ref f_l_seed) = true)
    (a_l_choose : PySem.W.nsIn K mainGlobals "_law_choose" = some (some (.ref f_l_choose)))
    (l_l_choose : K.lookup f_l_choose = some ⟨oc_l_choose, od_l_choose, .func (PySem.W.fnOf "_law_choose" "_law_choose" (fnArgs s_l_choose) (fnBody s_l_choose) (fnScope s_l_choose) .none kV_l_choose dc_l_choose pm_l_choose an_l_choose cd_l_choose ct_l_choose), sl_l_choose⟩)
    (c_l_choose : PySem.W.codeIn K cd_l_choose "_law_choose" = true)
    (k_l_choose : PySem.W.keepIn K (.ref f_l_choose) = true)
    (a_l_one_of : PySem.W.nsIn K mainGlobals "_law_one_of" = some (some (.ref f_l_one_of)))
    (l_l_one_of : K.lookup f_l_one_of = some ⟨oc_l_one_of, od_l_one_of, .func (PySem.W.fnOf "_law_one_of" "_law_one_of" (fnArgs s_l_one_of) (fnBody s_l_one_of) (fnScope s_l_one_of) .none kV_l_one_of dc_l_one_of pm_l_one_of an_l_one_of cd_l_one_of ct_l_one_of), sl_l_one_of⟩)
    (c_l_one_of : PySem.W.codeIn K cd_l_one_of "_law_one_of" = true)
    (k_l_one_of : PySem.W.keepIn K (.ref f_l_one_of) = true)
    (a_l_word : PySem.W.nsIn K mainGlobals "_law_word" = some (some (.ref f_l_word)))
    (l_l_word : K.lookup f_l_word = some ⟨oc_l_word, od_l_word, .func (PySem.W.fnOf "_law_word" "_law_word" (fnArgs s_l_word) (fnBody s_l_word) (fnScope s_l_word) .none kV_l_word dc_l_word pm_l_word an_l_word cd_l_word ct_l_word), sl_l_word⟩)
    (c_l_word : PySem.W.codeIn K cd_l_word "_law_word" = true)
    (k_l_word : PySem.W.keepIn K (.ref f_l_word) = true)
    (a_l_turn : PySem.W.nsIn K mainGlobals "_law_turn" = some (some (.ref f_l_turn)))
    (l_l_turn : K.lookup f_l_turn = some ⟨oc_l_turn, od_l_turn, .func (PySem.W.fnOf "_law_turn" "_law_turn" (fnArgs s_l_turn) (fnBody s_l_turn) (fnScope s_l_turn) .none kV_l_turn dc_l_turn pm_l_turn an_l_turn cd_l_turn ct_l_turn), sl_l_turn⟩)
    (c_l_turn : PySem.W.codeIn K cd_l_turn "_law_turn" = true)
    (k_l_turn : PySem.W.keepIn K (.ref f_l_turn) = true)
    (a_l_ends : PySem.W.nsIn K mainGlobals "_law_ends" = some (some (.ref f_l_ends)))
    (l_l_ends : K.lookup f_l_ends = some ⟨oc_l_ends, od_l_ends, .func (PySem.W.fnOf "_law_ends" "_law_ends" (fnArgs s_l_ends) (fnBody s_l_ends) (fnScope s_l_ends) .none kV_l_ends dc_l_ends pm_l_ends an_l_ends cd_l_ends ct_l_ends), sl_l_ends⟩)
    (c_l_ends : PySem.W.codeIn K cd_l_ends "_law_ends" = true)
    (k_l_ends : PySem.W.keepIn K (.ref f_l_ends) = true)
    (a_l_due : PySem.W.nsIn K mainGlobals "_law_due" = some (some (.ref f_l_due)))
    (l_l_due : K.lookup f_l_due = some ⟨oc_l_due, od_l_due, .func (PySem.W.fnOf "_law_due" "_law_due" (fnArgs s_l_due) (fnBody s_l_due) (fnScope s_l_due) .none kV_l_due dc_l_due pm_l_due an_l_due cd_l_due ct_l_due), sl_l_due⟩)
    (c_l_due : PySem.W.codeIn K cd_l_due "_law_due" = true)
    (k_l_due : PySem.W.keepIn K (.ref f_l_due) = true)
    (a_l_chain : PySem.W.nsIn K mainGlobals "_law_chain" = some (some (.ref f_l_chain)))
    (l_l_chain : K.lookup f_l_chain = some ⟨oc_l_chain, od_l_chain, .func (PySem.W.fnOf "_law_chain" "_law_chain" (fnArgs s_l_chain) (fnBody s_l_chain) (fnScope s_l_chain) .none kV_l_chain dc_l_chain pm_l_chain an_l_chain cd_l_chain ct_l_chain), sl_l_chain⟩)
    (c_l_chain : PySem.W.codeIn K cd_l_chain "_law_chain" = true)
    (k_l_chain : PySem.W.keepIn K (.ref f_l_chain) = true)
    (a_l_tails : PySem.W.nsIn K mainGlobals "_law_tails" = some (some (.ref f_l_tails)))
    (l_l_tails : K.lookup f_l_tails = some ⟨oc_l_tails, od_l_tails, .func (PySem.W.fnOf "_law_tails" "_law_tails" (fnArgs s_l_tails) (fnBody s_l_tails) (fnScope s_l_tails) .none kV_l_tails dc_l_tails pm_l_tails an_l_tails cd_l_tails ct_l_tails), sl_l_tails⟩)
    (c_l_tails : PySem.W.codeIn K cd_l_tails "_law_tails" = true)
    (k_l_tails : PySem.W.keepIn K (.ref f_l_tails) = true)
    (a_l_are_stuffs : PySem.W.nsIn K mainGlobals "_law_are_stuffs" = some (some (.ref f_l_are_stuffs)))
    (l_l_are_stuffs : K.lookup f_l_are_stuffs = some ⟨oc_l_are_stuffs, od_l_are_stuffs, .func (PySem.W.fnOf "_law_are_stuffs" "_law_are_stuffs" (fnArgs s_l_are_stuffs) (fnBody s_l_are_stuffs) (fnScope s_l_are_stuffs) .none kV_l_are_stuffs dc_l_are_stuffs pm_l_are_stuffs an_l_are_stuffs cd_l_are_stuffs ct_l_are_stuffs), sl_l_are_stuffs⟩)
    (c_l_are_stuffs : PySem.W.codeIn K cd_l_are_stuffs "_law_are_stuffs" = true)
    (k_l_are_stuffs : PySem.W.keepIn K (.ref f_l_are_stuffs) = true)
    (a_l_stuff : PySem.W.nsIn K mainGlobals "_law_stuff" = some (some (.ref f_l_stuff)))
    (l_l_stuff : K.lookup f_l_stuff = some ⟨oc_l_stuff, od_l_stuff, .func (PySem.W.fnOf "_law_stuff" "_law_stuff" (fnArgs s_l_stuff) (fnBody s_l_stuff) (fnScope s_l_stuff) .none kV_l_stuff dc_l_stuff pm_l_stuff an_l_stuff cd_l_stuff ct_l_stuff), sl_l_stuff⟩)
    (c_l_stuff : PySem.W.codeIn K cd_l_stuff "_law_stuff" = true)
    (k_l_stuff : PySem.W.keepIn K (.ref f_l_stuff) = true)
    (a_l_rule : PySem.W.nsIn K mainGlobals "_law_rule" = some (some (.ref f_l_rule)))
    (l_l_rule : K.lookup f_l_rule = some ⟨oc_l_rule, od_l_rule, .func (PySem.W.fnOf "_law_rule" "_law_rule" (fnArgs s_l_rule) (fnBody s_l_rule) (fnScope s_l_rule) .none kV_l_rule dc_l_rule pm_l_rule an_l_rule cd_l_rule ct_l_rule), sl_l_rule⟩)
    (c_l_rule : PySem.W.codeIn K cd_l_rule "_law_rule" = true)
    (k_l_rule : PySem.W.keepIn K (.ref f_l_rule) = true)
    (a_l_body : PySem.W.nsIn K mainGlobals "_law_body" = some (some (.ref f_l_body)))
    (l_l_body : K.lookup f_l_body = some ⟨oc_l_body, od_l_body, .func (PySem.W.fnOf "_law_body" "_law_body" (fnArgs s_l_body) (fnBody s_l_body) (fnScope s_l_body) .none kV_l_body dc_l_body pm_l_body an_l_body cd_l_body ct_l_body), sl_l_body⟩)
    (c_l_body : PySem.W.codeIn K cd_l_body "_law_body" = true)
    (k_l_body : PySem.W.keepIn K (.ref f_l_body) = true)
    (a_l_words : PySem.W.nsIn K mainGlobals "_law_words" = some (some (.ref f_l_words)))
    (l_l_words : K.lookup f_l_words = some ⟨oc_l_words, od_l_words, .func (PySem.W.fnOf "_law_words" "_law_words" (fnArgs s_l_words) (fnBody s_l_words) (fnScope s_l_words) .none kV_l_words dc_l_words pm_l_words an_l_words cd_l_words ct_l_words), sl_l_words⟩)
    (c_l_words : PySem.W.codeIn K cd_l_words "_law_words" = true)
    (k_l_words : PySem.W.keepIn K (.ref f_l_words) = true)
    (a_l_check : PySem.W.nsIn K mainGlobals "_law_check" = some (some (.ref f_l_check)))
    (l_l_check : K.lookup f_l_check = some ⟨oc_l_check, od_l_check, .func (PySem.W.fnOf "_law_check" "_law_check" (fnArgs s_l_check) (fnBody s_l_check) (fnScope s_l_check) .none kV_l_check dc_l_check pm_l_check an_l_check cd_l_check ct_l_check), sl_l_check⟩)
    (c_l_check : PySem.W.codeIn K cd_l_check "_law_check" = true)
    (k_l_check : PySem.W.keepIn K (.ref f_l_check) = true)
    (a_l_rest : PySem.W.nsIn K mainGlobals "_law_rest" = some (some (.ref f_l_rest)))
    (l_l_rest : K.lookup f_l_rest = some ⟨oc_l_rest, od_l_rest, .func (PySem.W.fnOf "_law_rest" "_law_rest" (fnArgs s_l_rest) (fnBody s_l_rest) (fnScope s_l_rest) .none kV_l_rest dc_l_rest pm_l_rest an_l_rest cd_l_rest ct_l_rest), sl_l_rest⟩)
    (c_l_rest : PySem.W.codeIn K cd_l_rest "_law_rest" = true)
    (k_l_rest : PySem.W.keepIn K (.ref f_l_rest) = true)
    (a_l_right : PySem.W.nsIn K mainGlobals "_law_right" = some (some (.ref f_l_right)))
    (l_l_right : K.lookup f_l_right = some ⟨oc_l_right, od_l_right, .func (PySem.W.fnOf "_law_right" "_law_right" (fnArgs s_l_right) (fnBody s_l_right) (fnScope s_l_right) .none kV_l_right dc_l_right pm_l_right an_l_right cd_l_right ct_l_right), sl_l_right⟩)
    (c_l_right : PySem.W.codeIn K cd_l_right "_law_right" = true)
    (k_l_right : PySem.W.keepIn K (.ref f_l_right) = true)
    (a_l_bits_for : PySem.W.nsIn K mainGlobals "_law_bits_for" = some (some (.ref f_l_bits_for)))
    (l_l_bits_for : K.lookup f_l_bits_for = some ⟨oc_l_bits_for, od_l_bits_for, .func (PySem.W.fnOf "_law_bits_for" "_law_bits_for" (fnArgs s_l_bits_for) (fnBody s_l_bits_for) (fnScope s_l_bits_for) .none kV_l_bits_for dc_l_bits_for pm_l_bits_for an_l_bits_for cd_l_bits_for ct_l_bits_for), sl_l_bits_for⟩)
    (c_l_bits_for : PySem.W.codeIn K cd_l_bits_for "_law_bits_for" = true)
    (k_l_bits_for : PySem.W.keepIn K (.ref f_l_bits_for) = true)
    (a_l_stream : PySem.W.nsIn K mainGlobals "_law_stream" = some (some (.ref f_l_stream)))
    (l_l_stream : K.lookup f_l_stream = some ⟨oc_l_stream, od_l_stream, .func (PySem.W.fnOf "_law_stream" "_law_stream" (fnArgs s_l_stream) (fnBody s_l_stream) (fnScope s_l_stream) .none kV_l_stream dc_l_stream pm_l_stream an_l_stream cd_l_stream ct_l_stream), sl_l_stream⟩)
    (c_l_stream : PySem.W.codeIn K cd_l_stream "_law_stream" = true)
    (k_l_stream : PySem.W.keepIn K (.ref f_l_stream) = true)
    (a_l_pieces : PySem.W.nsIn K mainGlobals "_law_pieces" = some (some (.ref f_l_pieces)))
    (l_l_pieces : K.lookup f_l_pieces = some ⟨oc_l_pieces, od_l_pieces, .func (PySem.W.fnOf "_law_pieces" "_law_pieces" (fnArgs s_l_pieces) (fnBody s_l_pieces) (fnScope s_l_pieces) .none kV_l_pieces dc_l_pieces pm_l_pieces an_l_pieces cd_l_pieces ct_l_pieces), sl_l_pieces⟩)
    (c_l_pieces : PySem.W.codeIn K cd_l_pieces "_law_pieces" = true)
    (k_l_pieces : PySem.W.keepIn K (.ref f_l_pieces) = true)
    (a_l_long_right : PySem.W.nsIn K mainGlobals "_law_long_right" = some (some (.ref f_l_long_right)))
    (l_l_long_right : K.lookup f_l_long_right = some ⟨oc_l_long_right, od_l_long_right, .func (PySem.W.fnOf "_law_long_right" "_law_long_right" (fnArgs s_l_long_right) (fnBody s_l_long_right) (fnScope s_l_long_right) .none kV_l_long_right dc_l_long_right pm_l_long_right an_l_long_right cd_l_long_right ct_l_long_right), sl_l_long_right⟩)
    (c_l_long_right : PySem.W.codeIn K cd_l_long_right "_law_long_right" = true)
    (k_l_long_right : PySem.W.keepIn K (.ref f_l_long_right) = true)
    (a_l_mirror_right : PySem.W.nsIn K mainGlobals "_law_mirror_right" = some (some (.ref f_l_mirror_right)))
    (l_l_mirror_right : K.lookup f_l_mirror_right = some ⟨oc_l_mirror_right, od_l_mirror_right, .func (PySem.W.fnOf "_law_mirror_right" "_law_mirror_right" (fnArgs s_l_mirror_right) (fnBody s_l_mirror_right) (fnScope s_l_mirror_right) .none kV_l_mirror_right dc_l_mirror_right pm_l_mirror_right an_l_mirror_right cd_l_mirror_right ct_l_mirror_right), sl_l_mirror_right⟩)
    (c_l_mirror_right : PySem.W.codeIn K cd_l_mirror_right "_law_mirror_right" = true)
    (k_l_mirror_right : PySem.W.keepIn K (.ref f_l_mirror_right) = true)
    (a_law : PySem.W.nsIn K mainGlobals "law" = some (some (.ref f_law)))
    (l_law : K.lookup f_law = some ⟨oc_law, od_law, .func (PySem.W.fnOf "law" "law" (fnArgs s_law) (fnBody s_law) (fnScope s_law) .none kV_law dc_law pm_law an_law cd_law ct_law), sl_law⟩)
    (c_law : PySem.W.codeIn K cd_law "law" = true)
    (k_law : PySem.W.keepIn K (.ref f_law) = true)
    (aC_Rule : PySem.W.nsIn K mainGlobals "Rule" = some (some (.ref C_Rule)))
    (pg_Rule : PySem.W.plainGet K C_Rule Str.empty = true)
    (hd_Rule : PySem.W.hasDictIn K C_Rule = true)
    (po_Rule : PySem.W.plainOver K C_Rule = true)
    (sa_Rule : PySem.W.findIn K (.ref C_Rule) "__setattr__" = some (some (.builtin "object.__setattr__")))
    (mk_Rule : PySem.W.makesIn K C_Rule = true)
    (kc_Rule : PySem.W.keepIn K (.ref C_Rule) = true)
    (n_Rule_flag : PySem.W.findIn K (.ref C_Rule) "flag" = some none)
    (n_Rule_stuffs : PySem.W.findIn K (.ref C_Rule) "stuffs" = some none)
    (a_Rule_put : PySem.W.findIn K (.ref C_Rule) "put" = some (some (.ref f_Rule_put)))
    (i_Rule_put : PySem.W.isFn K (.ref f_Rule_put) = true)
    (l_Rule_put : K.lookup f_Rule_put = some ⟨oc_Rule_put, od_Rule_put, .func (PySem.W.fnOf "put" "Rule.put" (fnArgs s_Rule_put) (fnBody s_Rule_put) (fnScope s_Rule_put) .none kV_Rule_put dc_Rule_put pm_Rule_put an_Rule_put cd_Rule_put ct_Rule_put), sl_Rule_put⟩)
    (c_Rule_put : PySem.W.codeIn K cd_Rule_put "Rule.put" = true)
    (k_Rule_put : PySem.W.keepIn K (.ref f_Rule_put) = true)
    (a_Rule_longest : PySem.W.findIn K (.ref C_Rule) "longest" = some (some (.ref p_Rule_longest)))
    (g_Rule_longest : PySem.W.specialIn K (.ref p_Rule_longest) "__get__" = some (some (.builtin "property.__get__")))
    (t_Rule_longest : PySem.W.takesIn K (.ref p_Rule_longest) = some true)
    (r_Rule_longest : PySem.W.recIn K p_Rule_longest "property" = some (.ref f_Rule_longest :: pr_Rule_longest))
    (l_Rule_longest : K.lookup f_Rule_longest = some ⟨oc_Rule_longest, od_Rule_longest, .func (PySem.W.fnOf "longest" "Rule.longest" (fnArgs s_Rule_longest) (fnBody s_Rule_longest) (fnScope s_Rule_longest) .none kV_Rule_longest dc_Rule_longest pm_Rule_longest an_Rule_longest cd_Rule_longest ct_Rule_longest), sl_Rule_longest⟩)
    (c_Rule_longest : PySem.W.codeIn K cd_Rule_longest "Rule.longest" = true)
    (a_Rule_put_in : PySem.W.findIn K (.ref C_Rule) "put_in" = some (some (.ref f_Rule_put_in)))
    (i_Rule_put_in : PySem.W.isFn K (.ref f_Rule_put_in) = true)
    (l_Rule_put_in : K.lookup f_Rule_put_in = some ⟨oc_Rule_put_in, od_Rule_put_in, .func (PySem.W.fnOf "put_in" "Rule.put_in" (fnArgs s_Rule_put_in) (fnBody s_Rule_put_in) (fnScope s_Rule_put_in) .none kV_Rule_put_in dc_Rule_put_in pm_Rule_put_in an_Rule_put_in cd_Rule_put_in ct_Rule_put_in), sl_Rule_put_in⟩)
    (c_Rule_put_in : PySem.W.codeIn K cd_Rule_put_in "Rule.put_in" = true)
    (k_Rule_put_in : PySem.W.keepIn K (.ref f_Rule_put_in) = true)
    (a_Rule_is_endless : PySem.W.findIn K (.ref C_Rule) "is_endless" = some (some (.ref f_Rule_is_endless)))
    (i_Rule_is_endless : PySem.W.isFn K (.ref f_Rule_is_endless) = true)
    (l_Rule_is_endless : K.lookup f_Rule_is_endless = some ⟨oc_Rule_is_endless, od_Rule_is_endless, .func (PySem.W.fnOf "is_endless" "Rule.is_endless" (fnArgs s_Rule_is_endless) (fnBody s_Rule_is_endless) (fnScope s_Rule_is_endless) .none kV_Rule_is_endless dc_Rule_is_endless pm_Rule_is_endless an_Rule_is_endless cd_Rule_is_endless ct_Rule_is_endless), sl_Rule_is_endless⟩)
    (c_Rule_is_endless : PySem.W.codeIn K cd_Rule_is_endless "Rule.is_endless" = true)
    (k_Rule_is_endless : PySem.W.keepIn K (.ref f_Rule_is_endless) = true)
    (a_Rule_init : PySem.W.findIn K (.ref C_Rule) "__init__" = some (some (.ref f_Rule_init)))
    (i_Rule_init : PySem.W.isFn K (.ref f_Rule_init) = true)
    (l_Rule_init : K.lookup f_Rule_init = some ⟨oc_Rule_init, od_Rule_init, .func (PySem.W.fnOf "__init__" "Rule.__init__" (fnArgs s_Rule_init) (fnBody s_Rule_init) (fnScope s_Rule_init) (.ref dT_Rule_init) kV_Rule_init dc_Rule_init pm_Rule_init an_Rule_init cd_Rule_init ct_Rule_init), sl_Rule_init⟩)
    (c_Rule_init : PySem.W.codeIn K cd_Rule_init "Rule.__init__" = true)
    (k_Rule_init : PySem.W.keepIn K (.ref f_Rule_init) = true)
    (dl_Rule_init : K.lookup dT_Rule_init = some ⟨.type "tuple", dd_Rule_init, .seq #[.ref dE_R] dn_Rule_init, ds_Rule_init⟩)
    (dlE_Rule : K.lookup dE_R = some ⟨.type "tuple", dde_R, .seq #[] dne_R, dse_R⟩)
    (a_Rule_swapped : PySem.W.findIn K (.ref C_Rule) "swapped" = some (some (.ref f_Rule_swapped)))
    (i_Rule_swapped : PySem.W.isFn K (.ref f_Rule_swapped) = true)
    (l_Rule_swapped : K.lookup f_Rule_swapped = some ⟨oc_Rule_swapped, od_Rule_swapped, .func (PySem.W.fnOf "swapped" "Rule.swapped" (fnArgs s_Rule_swapped) (fnBody s_Rule_swapped) (fnScope s_Rule_swapped) .none kV_Rule_swapped dc_Rule_swapped pm_Rule_swapped an_Rule_swapped cd_Rule_swapped ct_Rule_swapped), sl_Rule_swapped⟩)
    (c_Rule_swapped : PySem.W.codeIn K cd_Rule_swapped "Rule.swapped" = true)
    (k_Rule_swapped : PySem.W.keepIn K (.ref f_Rule_swapped) = true)
    (aC_Live : PySem.W.nsIn K mainGlobals "Live" = some (some (.ref C_Live)))
    (pg_Live : PySem.W.plainGet K C_Live Str.empty = true)
    (hd_Live : PySem.W.hasDictIn K C_Live = true)
    (po_Live : PySem.W.plainOver K C_Live = true)
    (sa_Live : PySem.W.findIn K (.ref C_Live) "__setattr__" = some (some (.builtin "object.__setattr__")))
    (mk_Live : PySem.W.makesIn K C_Live = true)
    (kc_Live : PySem.W.keepIn K (.ref C_Live) = true)
    (n_Live_now_rule : PySem.W.findIn K (.ref C_Live) "now_rule" = some none)
    (n_Live_now_check : PySem.W.findIn K (.ref C_Live) "now_check" = some none)
    (n_Live_state : PySem.W.findIn K (.ref C_Live) "state" = some none)
    (n_Live_past : PySem.W.findIn K (.ref C_Live) "past" = some none)
    (a_Live_take : PySem.W.findIn K (.ref C_Live) "take" = some (some (.ref f_Live_take)))
    (i_Live_take : PySem.W.isFn K (.ref f_Live_take) = true)
    (l_Live_take : K.lookup f_Live_take = some ⟨oc_Live_take, od_Live_take, .func (PySem.W.fnOf "take" "Live.take" (fnArgs s_Live_take) (fnBody s_Live_take) (fnScope s_Live_take) .none kV_Live_take dc_Live_take pm_Live_take an_Live_take cd_Live_take ct_Live_take), sl_Live_take⟩)
    (c_Live_take : PySem.W.codeIn K cd_Live_take "Live.take" = true)
    (k_Live_take : PySem.W.keepIn K (.ref f_Live_take) = true)
    (a_Live_hear : PySem.W.findIn K (.ref C_Live) "hear" = some (some (.ref f_Live_hear)))
    (i_Live_hear : PySem.W.isFn K (.ref f_Live_hear) = true)
    (l_Live_hear : K.lookup f_Live_hear = some ⟨oc_Live_hear, od_Live_hear, .func (PySem.W.fnOf "hear" "Live.hear" (fnArgs s_Live_hear) (fnBody s_Live_hear) (fnScope s_Live_hear) .none kV_Live_hear dc_Live_hear pm_Live_hear an_Live_hear cd_Live_hear ct_Live_hear), sl_Live_hear⟩)
    (c_Live_hear : PySem.W.codeIn K cd_Live_hear "Live.hear" = true)
    (k_Live_hear : PySem.W.keepIn K (.ref f_Live_hear) = true)
    (a_Live_found : PySem.W.findIn K (.ref C_Live) "found" = some (some (.ref p_Live_found)))
    (g_Live_found : PySem.W.specialIn K (.ref p_Live_found) "__get__" = some (some (.builtin "property.__get__")))
    (t_Live_found : PySem.W.takesIn K (.ref p_Live_found) = some true)
    (r_Live_found : PySem.W.recIn K p_Live_found "property" = some (.ref f_Live_found :: pr_Live_found))
    (l_Live_found : K.lookup f_Live_found = some ⟨oc_Live_found, od_Live_found, .func (PySem.W.fnOf "found" "Live.found" (fnArgs s_Live_found) (fnBody s_Live_found) (fnScope s_Live_found) .none kV_Live_found dc_Live_found pm_Live_found an_Live_found cd_Live_found ct_Live_found), sl_Live_found⟩)
    (c_Live_found : PySem.W.codeIn K cd_Live_found "Live.found" = true)
    (a_Live_init : PySem.W.findIn K (.ref C_Live) "__init__" = some (some (.ref f_Live_init)))
    (i_Live_init : PySem.W.isFn K (.ref f_Live_init) = true)
    (l_Live_init : K.lookup f_Live_init = some ⟨oc_Live_init, od_Live_init, .func (PySem.W.fnOf "__init__" "Live.__init__" (fnArgs s_Live_init) (fnBody s_Live_init) (fnScope s_Live_init) .none kV_Live_init dc_Live_init pm_Live_init an_Live_init cd_Live_init ct_Live_init), sl_Live_init⟩)
    (c_Live_init : PySem.W.codeIn K cd_Live_init "Live.__init__" = true)
    (k_Live_init : PySem.W.keepIn K (.ref f_Live_init) = true)
    (a_Live_several : PySem.W.findIn K (.ref C_Live) "several" = some (some (.ref f_Live_several)))
    (i_Live_several : PySem.W.isFn K (.ref f_Live_several) = true)
    (l_Live_several : K.lookup f_Live_several = some ⟨oc_Live_several, od_Live_several, .func (PySem.W.fnOf "several" "Live.several" (fnArgs s_Live_several) (fnBody s_Live_several) (fnScope s_Live_several) .none kV_Live_several dc_Live_several pm_Live_several an_Live_several cd_Live_several ct_Live_several), sl_Live_several⟩)
    (c_Live_several : PySem.W.codeIn K cd_Live_several "Live.several" = true)
    (k_Live_several : PySem.W.keepIn K (.ref f_Live_several) = true)
    (a_Live_part : PySem.W.findIn K (.ref C_Live) "part" = some (some (.ref p_Live_part)))
    (g_Live_part : PySem.W.specialIn K (.ref p_Live_part) "__get__" = some (some (.builtin "property.__get__")))
    (t_Live_part : PySem.W.takesIn K (.ref p_Live_part) = some true)
    (r_Live_part : PySem.W.recIn K p_Live_part "property" = some (.ref f_Live_part :: pr_Live_part))
    (l_Live_part : K.lookup f_Live_part = some ⟨oc_Live_part, od_Live_part, .func (PySem.W.fnOf "part" "Live.part" (fnArgs s_Live_part) (fnBody s_Live_part) (fnScope s_Live_part) .none kV_Live_part dc_Live_part pm_Live_part an_Live_part cd_Live_part ct_Live_part), sl_Live_part⟩)
    (c_Live_part : PySem.W.codeIn K cd_Live_part "Live.part" = true)
    (a_Live_heard : PySem.W.findIn K (.ref C_Live) "heard" = some (some (.ref p_Live_heard)))
    (g_Live_heard : PySem.W.specialIn K (.ref p_Live_heard) "__get__" = some (some (.builtin "property.__get__")))
    (t_Live_heard : PySem.W.takesIn K (.ref p_Live_heard) = some true)
    (r_Live_heard : PySem.W.recIn K p_Live_heard "property" = some (.ref f_Live_heard :: pr_Live_heard))
    (l_Live_heard : K.lookup f_Live_heard = some ⟨oc_Live_heard, od_Live_heard, .func (PySem.W.fnOf "heard" "Live.heard" (fnArgs s_Live_heard) (fnBody s_Live_heard) (fnScope s_Live_heard) .none kV_Live_heard dc_Live_heard pm_Live_heard an_Live_heard cd_Live_heard ct_Live_heard), sl_Live_heard⟩)
    (c_Live_heard : PySem.W.codeIn K cd_Live_heard "Live.heard" = true)
    (a_Live_is_open : PySem.W.findIn K (.ref C_Live) "is_open" = some (some (.ref p_Live_is_open)))
    (g_Live_is_open : PySem.W.specialIn K (.ref p_Live_is_open) "__get__" = some (some (.builtin "property.__get__")))
    (t_Live_is_open : PySem.W.takesIn K (.ref p_Live_is_open) = some true)
    (r_Live_is_open : PySem.W.recIn K p_Live_is_open "property" = some (.ref f_Live_is_open :: pr_Live_is_open))
    (l_Live_is_open : K.lookup f_Live_is_open = some ⟨oc_Live_is_open, od_Live_is_open, .func (PySem.W.fnOf "is_open" "Live.is_open" (fnArgs s_Live_is_open) (fnBody s_Live_is_open) (fnScope s_Live_is_open) .none kV_Live_is_open dc_Live_is_open pm_Live_is_open an_Live_is_open cd_Live_is_open ct_Live_is_open), sl_Live_is_open⟩)
    (c_Live_is_open : PySem.W.codeIn K cd_Live_is_open "Live.is_open" = true)
    (aC_Check : PySem.W.nsIn K mainGlobals "Check" = some (some (.ref C_Check)))
    (pg_Check : PySem.W.plainGet K C_Check Str.empty = true)
    (hd_Check : PySem.W.hasDictIn K C_Check = true)
    (po_Check : PySem.W.plainOver K C_Check = true)
    (sa_Check : PySem.W.findIn K (.ref C_Check) "__setattr__" = some (some (.builtin "object.__setattr__")))
    (mk_Check : PySem.W.makesIn K C_Check = true)
    (kc_Check : PySem.W.keepIn K (.ref C_Check) = true)
    (n_Check_poly : PySem.W.findIn K (.ref C_Check) "poly" = some none)
    (n_Check_start : PySem.W.findIn K (.ref C_Check) "start" = some none)
    (a_Check_step : PySem.W.findIn K (.ref C_Check) "step" = some (some (.ref f_Check_step)))
    (i_Check_step : PySem.W.isFn K (.ref f_Check_step) = true)
    (l_Check_step : K.lookup f_Check_step = some ⟨oc_Check_step, od_Check_step, .func (PySem.W.fnOf "step" "Check.step" (fnArgs s_Check_step) (fnBody s_Check_step) (fnScope s_Check_step) .none kV_Check_step dc_Check_step pm_Check_step an_Check_step cd_Check_step ct_Check_step), sl_Check_step⟩)
    (c_Check_step : PySem.W.codeIn K cd_Check_step "Check.step" = true)
    (k_Check_step : PySem.W.keepIn K (.ref f_Check_step) = true)
    (a_Check_rest : PySem.W.findIn K (.ref C_Check) "rest" = some (some (.ref f_Check_rest)))
    (i_Check_rest : PySem.W.isFn K (.ref f_Check_rest) = true)
    (l_Check_rest : K.lookup f_Check_rest = some ⟨oc_Check_rest, od_Check_rest, .func (PySem.W.fnOf "rest" "Check.rest" (fnArgs s_Check_rest) (fnBody s_Check_rest) (fnScope s_Check_rest) .none kV_Check_rest dc_Check_rest pm_Check_rest an_Check_rest cd_Check_rest ct_Check_rest), sl_Check_rest⟩)
    (c_Check_rest : PySem.W.codeIn K cd_Check_rest "Check.rest" = true)
    (k_Check_rest : PySem.W.keepIn K (.ref f_Check_rest) = true)
    (a_Check_degree : PySem.W.findIn K (.ref C_Check) "degree" = some (some (.ref p_Check_degree)))
    (g_Check_degree : PySem.W.specialIn K (.ref p_Check_degree) "__get__" = some (some (.builtin "property.__get__")))
    (t_Check_degree : PySem.W.takesIn K (.ref p_Check_degree) = some true)
    (r_Check_degree : PySem.W.recIn K p_Check_degree "property" = some (.ref f_Check_degree :: pr_Check_degree))
    (l_Check_degree : K.lookup f_Check_degree = some ⟨oc_Check_degree, od_Check_degree, .func (PySem.W.fnOf "degree" "Check.degree" (fnArgs s_Check_degree) (fnBody s_Check_degree) (fnScope s_Check_degree) .none kV_Check_degree dc_Check_degree pm_Check_degree an_Check_degree cd_Check_degree ct_Check_degree), sl_Check_degree⟩)
    (c_Check_degree : PySem.W.codeIn K cd_Check_degree "Check.degree" = true)
    (a_Check_is_good : PySem.W.findIn K (.ref C_Check) "is_good" = some (some (.ref f_Check_is_good)))
    (i_Check_is_good : PySem.W.isFn K (.ref f_Check_is_good) = true)
    (l_Check_is_good : K.lookup f_Check_is_good = some ⟨oc_Check_is_good, od_Check_is_good, .func (PySem.W.fnOf "is_good" "Check.is_good" (fnArgs s_Check_is_good) (fnBody s_Check_is_good) (fnScope s_Check_is_good) .none kV_Check_is_good dc_Check_is_good pm_Check_is_good an_Check_is_good cd_Check_is_good ct_Check_is_good), sl_Check_is_good⟩)
    (c_Check_is_good : PySem.W.codeIn K cd_Check_is_good "Check.is_good" = true)
    (k_Check_is_good : PySem.W.keepIn K (.ref f_Check_is_good) = true)
    (a_Check_init : PySem.W.findIn K (.ref C_Check) "__init__" = some (some (.ref f_Check_init)))
    (i_Check_init : PySem.W.isFn K (.ref f_Check_init) = true)
    (l_Check_init : K.lookup f_Check_init = some ⟨oc_Check_init, od_Check_init, .func (PySem.W.fnOf "__init__" "Check.__init__" (fnArgs s_Check_init) (fnBody s_Check_init) (fnScope s_Check_init) (.ref dT_Check_init) kV_Check_init dc_Check_init pm_Check_init an_Check_init cd_Check_init ct_Check_init), sl_Check_init⟩)
    (c_Check_init : PySem.W.codeIn K cd_Check_init "Check.__init__" = true)
    (k_Check_init : PySem.W.keepIn K (.ref f_Check_init) = true)
    (dl_Check_init : K.lookup dT_Check_init = some ⟨.type "tuple", dd_Check_init, .seq #[.str "1" tD, .none] dn_Check_init, ds_Check_init⟩)
    (a_Check_bits_for : PySem.W.findIn K (.ref C_Check) "bits_for" = some (some (.ref f_Check_bits_for)))
    (i_Check_bits_for : PySem.W.isFn K (.ref f_Check_bits_for) = true)
    (l_Check_bits_for : K.lookup f_Check_bits_for = some ⟨oc_Check_bits_for, od_Check_bits_for, .func (PySem.W.fnOf "bits_for" "Check.bits_for" (fnArgs s_Check_bits_for) (fnBody s_Check_bits_for) (fnScope s_Check_bits_for) .none kV_Check_bits_for dc_Check_bits_for pm_Check_bits_for an_Check_bits_for cd_Check_bits_for ct_Check_bits_for), sl_Check_bits_for⟩)
    (c_Check_bits_for : PySem.W.codeIn K cd_Check_bits_for "Check.bits_for" = true)
    (k_Check_bits_for : PySem.W.keepIn K (.ref f_Check_bits_for) = true)
    (gBITS : PySem.W.nsIn K mainGlobals "BITS" = some (some (.str "01" tB)))
    (aCW : PySem.W.nsIn K mainGlobals "InvalidWord" = some (some (.ref CW_)))
    (z_len : PySem.W.nsIn K mainGlobals "len" = some none)
    (z_abs : PySem.W.nsIn K mainGlobals "abs" = some none)
    (z_int : PySem.W.nsIn K mainGlobals "int" = some none)
    (z_range : PySem.W.nsIn K mainGlobals "range" = some none)
    (z_max : PySem.W.nsIn K mainGlobals "max" = some none)
    (z_min : PySem.W.nsIn K mainGlobals "min" = some none)
    (z_enumerate : PySem.W.nsIn K mainGlobals "enumerate" = some none)
    (z_zip : PySem.W.nsIn K mainGlobals "zip" = some none)
    (z_dict : PySem.W.nsIn K mainGlobals "dict" = some none)
    (z_list : PySem.W.nsIn K mainGlobals "list" = some none)
    (z_tuple : PySem.W.nsIn K mainGlobals "tuple" = some none)
    (z_isinstance : PySem.W.nsIn K mainGlobals "isinstance" = some none)
    (z_bool : PySem.W.nsIn K mainGlobals "bool" = some none)
    (z_str : PySem.W.nsIn K mainGlobals "str" = some none)
    (z_all : PySem.W.nsIn K mainGlobals "all" = some none)
    (z_any : PySem.W.nsIn K mainGlobals "any" = some none)
    (z_sum : PySem.W.nsIn K mainGlobals "sum" = some none)
    (z_sorted : PySem.W.nsIn K mainGlobals "sorted" = some none)
    (z_repr : PySem.W.nsIn K mainGlobals "repr" = some none) :
    ∃ fd : FuncData, (∀ (s : Shared) (v : Value), BindsTo s fd ⟨[v], []⟩ [("_law_script", v)]) ∧ ∀ base : Heap, K.In base → base.Ns mainGlobals mg → FnOk l.prog w K mg base CX0 10 fa fd ["_law_script"] (spLaw K) := by
  have e : f_law = fa := Value.ref.inj (Option.some.inj ((PySem.W.mg_of X G a_law).symm.trans hfa))
  subst e
  have T : Tx mg := ⟨PySem.W.mg_none_of X G z_len, PySem.W.mg_none_of X G z_abs, PySem.W.mg_none_of X G z_int, PySem.W.mg_none_of X G z_range, PySem.W.mg_none_of X G z_max, PySem.W.mg_none_of X G z_min, PySem.W.mg_none_of X G z_enumerate, PySem.W.mg_none_of X G z_zip, PySem.W.mg_none_of X G z_dict, PySem.W.mg_none_of X G z_list, PySem.W.mg_none_of X G z_tuple, PySem.W.mg_none_of X G z_isinstance, PySem.W.mg_none_of X G z_bool, PySem.W.mg_none_of X G z_str, PySem.W.mg_none_of X G z_all, PySem.W.mg_none_of X G z_any, PySem.W.mg_none_of X G z_sum, PySem.W.mg_none_of X G z_sorted, PySem.W.mg_none_of X G z_repr⟩
  have F_put_behind : Def K mg "put_behind" s_put_behind f_put_behind (PySem.W.fnOf "put_behind" "put_behind" (fnArgs s_put_behind) (fnBody s_put_behind) (fnScope s_put_behind) .none kV_put_behind dc_put_behind pm_put_behind an_put_behind cd_put_behind ct_put_behind) := ⟨⟨_, _, _, _, _, _, _, _, _, _, rfl, l_put_behind, c_put_behind⟩, PySem.W.mg_of X G a_put_behind, k_put_behind⟩
  have b_put_behind := C8.Fun.binds (ps := ["rule", "line"]) F_put_behind.fn rfl fun _ _ _ _ _ _ us hl => match us, hl with | [_, _], _ => rfl
  have F_body : Def K mg "body" s_body f_body (PySem.W.fnOf "body" "body" (fnArgs s_body) (fnBody s_body) (fnScope s_body) .none kV_body dc_body pm_body an_body cd_body ct_body) := ⟨⟨_, _, _, _, _, _, _, _, _, _, rfl, l_body, c_body⟩, PySem.W.mg_of X G a_body, k_body⟩
  have b_body := C8.Fun.binds (ps := ["rule", "message"]) F_body.fn rfl fun _ _ _ _ _ _ us hl => match us, hl with | [_, _], _ => rfl
  have F_taken_out : Def K mg "taken_out" s_taken_out f_taken_out (PySem.W.fnOf "taken_out" "taken_out" (fnArgs s_taken_out) (fnBody s_taken_out) (fnScope s_taken_out) .none kV_taken_out dc_taken_out pm_taken_out an_taken_out cd_taken_out ct_taken_out) := ⟨⟨_, _, _, _, _, _, _, _, _, _, rfl, l_taken_out, c_taken_out⟩, PySem.W.mg_of X G a_taken_out, k_taken_out⟩
  have b_taken_out := C8.Fun.binds (ps := ["rule", "line"]) F_taken_out.fn rfl fun _ _ _ _ _ _ us hl => match us, hl with | [_, _], _ => rfl
  have F_send : Def K mg "send" s_send f_send (PySem.W.fnOf "send" "send" (fnArgs s_send) (fnBody s_send) (fnScope s_send) .none kV_send dc_send pm_send an_send cd_send ct_send) := ⟨⟨_, _, _, _, _, _, _, _, _, _, rfl, l_send, c_send⟩, PySem.W.mg_of X G a_send, k_send⟩
  have b_send := C8.Fun.binds (ps := ["rule", "check", "data"]) F_send.fn rfl fun _ _ _ _ _ _ us hl => match us, hl with | [_, _, _], _ => rfl
  have F_read_part : Def K mg "read_part" s_read_part f_read_part (PySem.W.fnOf "read_part" "read_part" (fnArgs s_read_part) (fnBody s_read_part) (fnScope s_read_part) .none kV_read_part dc_read_part pm_read_part an_read_part cd_read_part ct_read_part) := ⟨⟨_, _, _, _, _, _, _, _, _, _, rfl, l_read_part, c_read_part⟩, PySem.W.mg_of X G a_read_part, k_read_part⟩
  have b_read_part := C8.Fun.binds (ps := ["rule", "check", "part"]) F_read_part.fn rfl fun _ _ _ _ _ _ us hl => match us, hl with | [_, _, _], _ => rfl
  have F_receive : Def K mg "receive" s_receive f_receive (PySem.W.fnOf "receive" "receive" (fnArgs s_receive) (fnBody s_receive) (fnScope s_receive) .none kV_receive dc_receive pm_receive an_receive cd_receive ct_receive) := ⟨⟨_, _, _, _, _, _, _, _, _, _, rfl, l_receive, c_receive⟩, PySem.W.mg_of X G a_receive, k_receive⟩
  have b_receive := C8.Fun.binds (ps := ["rule", "check", "raw"]) F_receive.fn rfl fun _ _ _ _ _ _ us hl => match us, hl with | [_, _, _], _ => rfl
  have F_cut_up : Def K mg "cut_up" s_cut_up f_cut_up (PySem.W.fnOf "cut_up" "cut_up" (fnArgs s_cut_up) (fnBody s_cut_up) (fnScope s_cut_up) .none kV_cut_up dc_cut_up pm_cut_up an_cut_up cd_cut_up ct_cut_up) := ⟨⟨_, _, _, _, _, _, _, _, _, _, rfl, l_cut_up, c_cut_up⟩, PySem.W.mg_of X G a_cut_up, k_cut_up⟩
  have b_cut_up := C8.Fun.binds (ps := ["rule", "check", "raw"]) F_cut_up.fn rfl fun _ _ _ _ _ _ us hl => match us, hl with | [_, _, _], _ => rfl
  have F_frames : Def K mg "frames" s_frames f_frames (PySem.W.fnOf "frames" "frames" (fnArgs s_frames) (fnBody s_frames) (fnScope s_frames) .none kV_frames dc_frames pm_frames an_frames cd_frames ct_frames) := ⟨⟨_, _, _, _, _, _, _, _, _, _, rfl, l_frames, c_frames⟩, PySem.W.mg_of X G a_frames, k_frames⟩
  have b_frames := C8.Fun.binds (ps := ["rule", "check", "raw"]) F_frames.fn rfl fun _ _ _ _ _ _ us hl => match us, hl with | [_, _, _], _ => rfl
  have F_is_sequence : Def K mg "is_sequence" s_is_sequence f_is_sequence (PySem.W.fnOf "is_sequence" "is_sequence" (fnArgs s_is_sequence) (fnBody s_is_sequence) (fnScope s_is_sequence) .none kV_is_sequence dc_is_sequence pm_is_sequence an_is_sequence cd_is_sequence ct_is_sequence) := ⟨⟨_, _, _, _, _, _, _, _, _, _, rfl, l_is_sequence, c_is_sequence⟩, PySem.W.mg_of X G a_is_sequence, k_is_sequence⟩
  have b_is_sequence := C8.Fun.binds (ps := ["value"]) F_is_sequence.fn rfl fun _ _ _ _ _ _ us hl => match us, hl with | [_], _ => rfl
  have F_is_word : Def K mg "is_word" s_is_word f_is_word (PySem.W.fnOf "is_word" "is_word" (fnArgs s_is_word) (fnBody s_is_word) (fnScope s_is_word) .none kV_is_word dc_is_word pm_is_word an_is_word cd_is_word ct_is_word) := ⟨⟨_, _, _, _, _, _, _, _, _, _, rfl, l_is_word, c_is_word⟩, PySem.W.mg_of X G a_is_word, k_is_word⟩
  have b_is_word := C8.Fun.binds (ps := ["value"]) F_is_word.fn rfl fun _ _ _ _ _ _ us hl => match us, hl with | [_], _ => rfl
  have F_is_bit : Def K mg "is_bit" s_is_bit f_is_bit (PySem.W.fnOf "is_bit" "is_bit" (fnArgs s_is_bit) (fnBody s_is_bit) (fnScope s_is_bit) .none kV_is_bit dc_is_bit pm_is_bit an_is_bit cd_is_bit ct_is_bit) := ⟨⟨_, _, _, _, _, _, _, _, _, _, rfl, l_is_bit, c_is_bit⟩, PySem.W.mg_of X G a_is_bit, k_is_bit⟩
  have b_is_bit := C8.Fun.binds (ps := ["value"]) F_is_bit.fn rfl fun _ _ _ _ _ _ us hl => match us, hl with | [_], _ => rfl
  have F_other : Def K mg "other" s_other f_other (PySem.W.fnOf "other" "other" (fnArgs s_other) (fnBody s_other) (fnScope s_other) .none kV_other dc_other pm_other an_other cd_other ct_other) := ⟨⟨_, _, _, _, _, _, _, _, _, _, rfl, l_other, c_other⟩, PySem.W.mg_of X G a_other, k_other⟩
  have b_other := C8.Fun.binds (ps := ["bit"]) F_other.fn rfl fun _ _ _ _ _ _ us hl => match us, hl with | [_], _ => rfl
  have F_swapped_word : Def K mg "swapped_word" s_swapped_word f_swapped_word (PySem.W.fnOf "swapped_word" "swapped_word" (fnArgs s_swapped_word) (fnBody s_swapped_word) (fnScope s_swapped_word) .none kV_swapped_word dc_swapped_word pm_swapped_word an_swapped_word cd_swapped_word ct_swapped_word) := ⟨⟨_, _, _, _, _, _, _, _, _, _, rfl, l_swapped_word, c_swapped_word⟩, PySem.W.mg_of X G a_swapped_word, k_swapped_word⟩
  have b_swapped_word := C8.Fun.binds (ps := ["word"]) F_swapped_word.fn rfl fun _ _ _ _ _ _ us hl => match us, hl with | [_], _ => rfl
  have F_tail : Def K mg "tail" s_tail f_tail (PySem.W.fnOf "tail" "tail" (fnArgs s_tail) (fnBody s_tail) (fnScope s_tail) .none kV_tail dc_tail pm_tail an_tail cd_tail ct_tail) := ⟨⟨_, _, _, _, _, _, _, _, _, _, rfl, l_tail, c_tail⟩, PySem.W.mg_of X G a_tail, k_tail⟩
  have b_tail := C8.Fun.binds (ps := ["line", "size"]) F_tail.fn rfl fun _ _ _ _ _ _ us hl => match us, hl with | [_, _], _ => rfl
  have F_is_stuff : Def K mg "is_stuff" s_is_stuff f_is_stuff (PySem.W.fnOf "is_stuff" "is_stuff" (fnArgs s_is_stuff) (fnBody s_is_stuff) (fnScope s_is_stuff) .none kV_is_stuff dc_is_stuff pm_is_stuff an_is_stuff cd_is_stuff ct_is_stuff) := ⟨⟨_, _, _, _, _, _, _, _, _, _, rfl, l_is_stuff, c_is_stuff⟩, PySem.W.mg_of X G a_is_stuff, k_is_stuff⟩
  have b_is_stuff := C8.Fun.binds (ps := ["value"]) F_is_stuff.fn rfl fun _ _ _ _ _ _ us hl => match us, hl with | [_], _ => rfl
  have F_are_stuffs : Def K mg "are_stuffs" s_are_stuffs f_are_stuffs (PySem.W.fnOf "are_stuffs" "are_stuffs" (fnArgs s_are_stuffs) (fnBody s_are_stuffs) (fnScope s_are_stuffs) .none kV_are_stuffs dc_are_stuffs pm_are_stuffs an_are_stuffs cd_are_stuffs ct_are_stuffs) := ⟨⟨_, _, _, _, _, _, _, _, _, _, rfl, l_are_stuffs, c_are_stuffs⟩, PySem.W.mg_of X G a_are_stuffs, k_are_stuffs⟩
  have b_are_stuffs := C8.Fun.binds (ps := ["value"]) F_are_stuffs.fn rfl fun _ _ _ _ _ _ us hl => match us, hl with | [_], _ => rfl
  have F_l_seed : Def K mg "_law_seed" s_l_seed f_l_seed (PySem.W.fnOf "_law_seed" "_law_seed" (fnArgs s_l_seed) (fnBody s_l_seed) (fnScope s_l_seed) .none kV_l_seed dc_l_seed pm_l_seed an_l_seed cd_l_seed ct_l_seed) := ⟨⟨_, _, _, _, _, _, _, _, _, _, rfl, l_l_seed, c_l_seed⟩, PySem.W.mg_of X G a_l_seed, k_l_seed⟩
  have b_l_seed := C8.Fun.binds (ps := ["_law_script", "_law_k"]) F_l_seed.fn rfl fun _ _ _ _ _ _ us hl => match us, hl with | [_, _], _ => rfl
  have F_l_choose : Def K mg "_law_choose" s_l_choose f_l_choose (PySem.W.fnOf "_law_choose" "_law_choose" (fnArgs s_l_choose) (fnBody s_l_choose) (fnScope s_l_choose) .none kV_l_choose dc_l_choose pm_l_choose an_l_choose cd_l_choose ct_l_choose) := ⟨⟨_, _, _, _, _, _, _, _, _, _, rfl, l_l_choose, c_l_choose⟩, PySem.W.mg_of X G a_l_choose, k_l_choose⟩
  have b_l_choose := C8.Fun.binds (ps := ["_law_box", "_law_many"]) F_l_choose.fn rfl fun _ _ _ _ _ _ us hl => match us, hl with | [_, _], _ => rfl
  have F_l_one_of : Def K mg "_law_one_of" s_l_one_of f_l_one_of (PySem.W.fnOf "_law_one_of" "_law_one_of" (fnArgs s_l_one_of) (fnBody s_l_one_of) (fnScope s_l_one_of) .none kV_l_one_of dc_l_one_of pm_l_one_of an_l_one_of cd_l_one_of ct_l_one_of) := ⟨⟨_, _, _, _, _, _, _, _, _, _, rfl, l_l_one_of, c_l_one_of⟩, PySem.W.mg_of X G a_l_one_of, k_l_one_of⟩
  have b_l_one_of := C8.Fun.binds (ps := ["_law_box", "_law_some"]) F_l_one_of.fn rfl fun _ _ _ _ _ _ us hl => match us, hl with | [_, _], _ => rfl
  have F_l_word : Def K mg "_law_word" s_l_word f_l_word (PySem.W.fnOf "_law_word" "_law_word" (fnArgs s_l_word) (fnBody s_l_word) (fnScope s_l_word) .none kV_l_word dc_l_word pm_l_word an_l_word cd_l_word ct_l_word) := ⟨⟨_, _, _, _, _, _, _, _, _, _, rfl, l_l_word, c_l_word⟩, PySem.W.mg_of X G a_l_word, k_l_word⟩
  have b_l_word := C8.Fun.binds (ps := ["_law_box", "_law_size"]) F_l_word.fn rfl fun _ _ _ _ _ _ us hl => match us, hl with | [_, _], _ => rfl
  have F_l_turn : Def K mg "_law_turn" s_l_turn f_l_turn (PySem.W.fnOf "_law_turn" "_law_turn" (fnArgs s_l_turn) (fnBody s_l_turn) (fnScope s_l_turn) .none kV_l_turn dc_l_turn pm_l_turn an_l_turn cd_l_turn ct_l_turn) := ⟨⟨_, _, _, _, _, _, _, _, _, _, rfl, l_l_turn, c_l_turn⟩, PySem.W.mg_of X G a_l_turn, k_l_turn⟩
  have b_l_turn := C8.Fun.binds (ps := ["_law_bit"]) F_l_turn.fn rfl fun _ _ _ _ _ _ us hl => match us, hl with | [_], _ => rfl
  have F_l_ends : Def K mg "_law_ends" s_l_ends f_l_ends (PySem.W.fnOf "_law_ends" "_law_ends" (fnArgs s_l_ends) (fnBody s_l_ends) (fnScope s_l_ends) .none kV_l_ends dc_l_ends pm_l_ends an_l_ends cd_l_ends ct_l_ends) := ⟨⟨_, _, _, _, _, _, _, _, _, _, rfl, l_l_ends, c_l_ends⟩, PySem.W.mg_of X G a_l_ends, k_l_ends⟩
  have b_l_ends := C8.Fun.binds (ps := ["_law_line", "_law_pattern"]) F_l_ends.fn rfl fun _ _ _ _ _ _ us hl => match us, hl with | [_, _], _ => rfl
  have F_l_due : Def K mg "_law_due" s_l_due f_l_due (PySem.W.fnOf "_law_due" "_law_due" (fnArgs s_l_due) (fnBody s_l_due) (fnScope s_l_due) .none kV_l_due dc_l_due pm_l_due an_l_due cd_l_due ct_l_due) := ⟨⟨_, _, _, _, _, _, _, _, _, _, rfl, l_l_due, c_l_due⟩, PySem.W.mg_of X G a_l_due, k_l_due⟩
  have b_l_due := C8.Fun.binds (ps := ["_law_stuffs", "_law_line"]) F_l_due.fn rfl fun _ _ _ _ _ _ us hl => match us, hl with | [_, _], _ => rfl
  have F_l_chain : Def K mg "_law_chain" s_l_chain f_l_chain (PySem.W.fnOf "_law_chain" "_law_chain" (fnArgs s_l_chain) (fnBody s_l_chain) (fnScope s_l_chain) .none kV_l_chain dc_l_chain pm_l_chain an_l_chain cd_l_chain ct_l_chain) := ⟨⟨_, _, _, _, _, _, _, _, _, _, rfl, l_l_chain, c_l_chain⟩, PySem.W.mg_of X G a_l_chain, k_l_chain⟩
  have b_l_chain := C8.Fun.binds (ps := ["_law_stuffs", "_law_line"]) F_l_chain.fn rfl fun _ _ _ _ _ _ us hl => match us, hl with | [_, _], _ => rfl
  have F_l_tails : Def K mg "_law_tails" s_l_tails f_l_tails (PySem.W.fnOf "_law_tails" "_law_tails" (fnArgs s_l_tails) (fnBody s_l_tails) (fnScope s_l_tails) .none kV_l_tails dc_l_tails pm_l_tails an_l_tails cd_l_tails ct_l_tails) := ⟨⟨_, _, _, _, _, _, _, _, _, _, rfl, l_l_tails, c_l_tails⟩, PySem.W.mg_of X G a_l_tails, k_l_tails⟩
  have b_l_tails := C8.Fun.binds (ps := ["_law_stuffs"]) F_l_tails.fn rfl fun _ _ _ _ _ _ us hl => match us, hl with | [_], _ => rfl
  have F_l_are_stuffs : Def K mg "_law_are_stuffs" s_l_are_stuffs f_l_are_stuffs (PySem.W.fnOf "_law_are_stuffs" "_law_are_stuffs" (fnArgs s_l_are_stuffs) (fnBody s_l_are_stuffs) (fnScope s_l_are_stuffs) .none kV_l_are_stuffs dc_l_are_stuffs pm_l_are_stuffs an_l_are_stuffs cd_l_are_stuffs ct_l_are_stuffs) := ⟨⟨_, _, _, _, _, _, _, _, _, _, rfl, l_l_are_stuffs, c_l_are_stuffs⟩, PySem.W.mg_of X G a_l_are_stuffs, k_l_are_stuffs⟩
  have b_l_are_stuffs := C8.Fun.binds (ps := ["_law_stuffs"]) F_l_are_stuffs.fn rfl fun _ _ _ _ _ _ us hl => match us, hl with | [_], _ => rfl
  have F_l_stuff : Def K mg "_law_stuff" s_l_stuff f_l_stuff (PySem.W.fnOf "_law_stuff" "_law_stuff" (fnArgs s_l_stuff) (fnBody s_l_stuff) (fnScope s_l_stuff) .none kV_l_stuff dc_l_stuff pm_l_stuff an_l_stuff cd_l_stuff ct_l_stuff) := ⟨⟨_, _, _, _, _, _, _, _, _, _, rfl, l_l_stuff, c_l_stuff⟩, PySem.W.mg_of X G a_l_stuff, k_l_stuff⟩
  have b_l_stuff := C8.Fun.binds (ps := ["_law_box", "_law_flag", "_law_most"]) F_l_stuff.fn rfl fun _ _ _ _ _ _ us hl => match us, hl with | [_, _, _], _ => rfl
  have F_l_rule : Def K mg "_law_rule" s_l_rule f_l_rule (PySem.W.fnOf "_law_rule" "_law_rule" (fnArgs s_l_rule) (fnBody s_l_rule) (fnScope s_l_rule) .none kV_l_rule dc_l_rule pm_l_rule an_l_rule cd_l_rule ct_l_rule) := ⟨⟨_, _, _, _, _, _, _, _, _, _, rfl, l_l_rule, c_l_rule⟩, PySem.W.mg_of X G a_l_rule, k_l_rule⟩
  have b_l_rule := C8.Fun.binds (ps := ["_law_box", "_law_top", "_law_most"]) F_l_rule.fn rfl fun _ _ _ _ _ _ us hl => match us, hl with | [_, _, _], _ => rfl
  have F_l_body : Def K mg "_law_body" s_l_body f_l_body (PySem.W.fnOf "_law_body" "_law_body" (fnArgs s_l_body) (fnBody s_l_body) (fnScope s_l_body) .none kV_l_body dc_l_body pm_l_body an_l_body cd_l_body ct_l_body) := ⟨⟨_, _, _, _, _, _, _, _, _, _, rfl, l_l_body, c_l_body⟩, PySem.W.mg_of X G a_l_body, k_l_body⟩
  have b_l_body := C8.Fun.binds (ps := ["_law_stuffs", "_law_message"]) F_l_body.fn rfl fun _ _ _ _ _ _ us hl => match us, hl with | [_, _], _ => rfl
  have F_l_words : Def K mg "_law_words" s_l_words f_l_words (PySem.W.fnOf "_law_words" "_law_words" (fnArgs s_l_words) (fnBody s_l_words) (fnScope s_l_words) .none kV_l_words dc_l_words pm_l_words an_l_words cd_l_words ct_l_words) := ⟨⟨_, _, _, _, _, _, _, _, _, _, rfl, l_l_words, c_l_words⟩, PySem.W.mg_of X G a_l_words, k_l_words⟩
  have b_l_words := C8.Fun.binds (ps := ["_law_size"]) F_l_words.fn rfl fun _ _ _ _ _ _ us hl => match us, hl with | [_], _ => rfl
  have F_l_check : Def K mg "_law_check" s_l_check f_l_check (PySem.W.fnOf "_law_check" "_law_check" (fnArgs s_l_check) (fnBody s_l_check) (fnScope s_l_check) .none kV_l_check dc_l_check pm_l_check an_l_check cd_l_check ct_l_check) := ⟨⟨_, _, _, _, _, _, _, _, _, _, rfl, l_l_check, c_l_check⟩, PySem.W.mg_of X G a_l_check, k_l_check⟩
  have b_l_check := C8.Fun.binds (ps := ["_law_box", "_law_most"]) F_l_check.fn rfl fun _ _ _ _ _ _ us hl => match us, hl with | [_, _], _ => rfl
  have F_l_rest : Def K mg "_law_rest" s_l_rest f_l_rest (PySem.W.fnOf "_law_rest" "_law_rest" (fnArgs s_l_rest) (fnBody s_l_rest) (fnScope s_l_rest) .none kV_l_rest dc_l_rest pm_l_rest an_l_rest cd_l_rest ct_l_rest) := ⟨⟨_, _, _, _, _, _, _, _, _, _, rfl, l_l_rest, c_l_rest⟩, PySem.W.mg_of X G a_l_rest, k_l_rest⟩
  have b_l_rest := C8.Fun.binds (ps := ["_law_check_here", "_law_bits"]) F_l_rest.fn rfl fun _ _ _ _ _ _ us hl => match us, hl with | [_, _], _ => rfl
  have F_l_right : Def K mg "_law_right" s_l_right f_l_right (PySem.W.fnOf "_law_right" "_law_right" (fnArgs s_l_right) (fnBody s_l_right) (fnScope s_l_right) .none kV_l_right dc_l_right pm_l_right an_l_right cd_l_right ct_l_right) := ⟨⟨_, _, _, _, _, _, _, _, _, _, rfl, l_l_right, c_l_right⟩, PySem.W.mg_of X G a_l_right, k_l_right⟩
  have b_l_right := C8.Fun.binds (ps := ["_law_check_here", "_law_message"]) F_l_right.fn rfl fun _ _ _ _ _ _ us hl => match us, hl with | [_, _], _ => rfl
  have F_l_bits_for : Def K mg "_law_bits_for" s_l_bits_for f_l_bits_for (PySem.W.fnOf "_law_bits_for" "_law_bits_for" (fnArgs s_l_bits_for) (fnBody s_l_bits_for) (fnScope s_l_bits_for) .none kV_l_bits_for dc_l_bits_for pm_l_bits_for an_l_bits_for cd_l_bits_for ct_l_bits_for) := ⟨⟨_, _, _, _, _, _, _, _, _, _, rfl, l_l_bits_for, c_l_bits_for⟩, PySem.W.mg_of X G a_l_bits_for, k_l_bits_for⟩
  have b_l_bits_for := C8.Fun.binds (ps := ["_law_check_here", "_law_bits"]) F_l_bits_for.fn rfl fun _ _ _ _ _ _ us hl => match us, hl with | [_, _], _ => rfl
  have F_l_stream : Def K mg "_law_stream" s_l_stream f_l_stream (PySem.W.fnOf "_law_stream" "_law_stream" (fnArgs s_l_stream) (fnBody s_l_stream) (fnScope s_l_stream) .none kV_l_stream dc_l_stream pm_l_stream an_l_stream cd_l_stream ct_l_stream) := ⟨⟨_, _, _, _, _, _, _, _, _, _, rfl, l_l_stream, c_l_stream⟩, PySem.W.mg_of X G a_l_stream, k_l_stream⟩
  have b_l_stream := C8.Fun.binds (ps := ["_law_box", "_law_rule_here", "_law_check_here", "_law_many"]) F_l_stream.fn rfl fun _ _ _ _ _ _ us hl => match us, hl with | [_, _, _, _], _ => rfl
  have F_l_pieces : Def K mg "_law_pieces" s_l_pieces f_l_pieces (PySem.W.fnOf "_law_pieces" "_law_pieces" (fnArgs s_l_pieces) (fnBody s_l_pieces) (fnScope s_l_pieces) .none kV_l_pieces dc_l_pieces pm_l_pieces an_l_pieces cd_l_pieces ct_l_pieces) := ⟨⟨_, _, _, _, _, _, _, _, _, _, rfl, l_l_pieces, c_l_pieces⟩, PySem.W.mg_of X G a_l_pieces, k_l_pieces⟩
  have b_l_pieces := C8.Fun.binds (ps := ["_law_box", "_law_line"]) F_l_pieces.fn rfl fun _ _ _ _ _ _ us hl => match us, hl with | [_, _], _ => rfl
  have F_l_long_right : Def K mg "_law_long_right" s_l_long_right f_l_long_right (PySem.W.fnOf "_law_long_right" "_law_long_right" (fnArgs s_l_long_right) (fnBody s_l_long_right) (fnScope s_l_long_right) .none kV_l_long_right dc_l_long_right pm_l_long_right an_l_long_right cd_l_long_right ct_l_long_right) := ⟨⟨_, _, _, _, _, _, _, _, _, _, rfl, l_l_long_right, c_l_long_right⟩, PySem.W.mg_of X G a_l_long_right, k_l_long_right⟩
  have b_l_long_right := C8.Fun.binds (ps := ["_law_box", "_law_made", "_law_asked"]) F_l_long_right.fn rfl fun _ _ _ _ _ _ us hl => match us, hl with | [_, _, _], _ => rfl
  have F_l_mirror_right : Def K mg "_law_mirror_right" s_l_mirror_right f_l_mirror_right (PySem.W.fnOf "_law_mirror_right" "_law_mirror_right" (fnArgs s_l_mirror_right) (fnBody s_l_mirror_right) (fnScope s_l_mirror_right) .none kV_l_mirror_right dc_l_mirror_right pm_l_mirror_right an_l_mirror_right cd_l_mirror_right ct_l_mirror_right) := ⟨⟨_, _, _, _, _, _, _, _, _, _, rfl, l_l_mirror_right, c_l_mirror_right⟩, PySem.W.mg_of X G a_l_mirror_right, k_l_mirror_right⟩
  have b_l_mirror_right := C8.Fun.binds (ps := ["_law_made", "_law_line"]) F_l_mirror_right.fn rfl fun _ _ _ _ _ _ us hl => match us, hl with | [_, _], _ => rfl
  have F_law : Def K mg "law" s_law f_law (PySem.W.fnOf "law" "law" (fnArgs s_law) (fnBody s_law) (fnScope s_law) .none kV_law dc_law pm_law an_law cd_law ct_law) := ⟨⟨_, _, _, _, _, _, _, _, _, _, rfl, l_law, c_law⟩, PySem.W.mg_of X G a_law, k_law⟩
  have b_law := C8.Fun.binds (ps := ["_law_script"]) F_law.fn rfl fun _ _ _ _ _ _ us hl => match us, hl with | [_], _ => rfl
  have CL_Rule : Cls K C_Rule := ⟨pg_Rule, hd_Rule, po_Rule, sa_Rule⟩
  have F_Rule_put : C8.Fun K "put" "Rule.put" s_Rule_put f_Rule_put (PySem.W.fnOf "put" "Rule.put" (fnArgs s_Rule_put) (fnBody s_Rule_put) (fnScope s_Rule_put) .none kV_Rule_put dc_Rule_put pm_Rule_put an_Rule_put cd_Rule_put ct_Rule_put) := ⟨_, _, _, _, _, _, _, _, _, _, rfl, l_Rule_put, c_Rule_put⟩
  have b_Rule_put := C8.Fun.binds (ps := ["self", "line"]) F_Rule_put rfl fun _ _ _ _ _ _ us hl => match us, hl with | [_, _], _ => rfl
  have F_Rule_longest : C8.Fun K "longest" "Rule.longest" s_Rule_longest f_Rule_longest (PySem.W.fnOf "longest" "Rule.longest" (fnArgs s_Rule_longest) (fnBody s_Rule_longest) (fnScope s_Rule_longest) .none kV_Rule_longest dc_Rule_longest pm_Rule_longest an_Rule_longest cd_Rule_longest ct_Rule_longest) := ⟨_, _, _, _, _, _, _, _, _, _, rfl, l_Rule_longest, c_Rule_longest⟩
  have b_Rule_longest := C8.Fun.binds (ps := ["self"]) F_Rule_longest rfl fun _ _ _ _ _ _ us hl => match us, hl with | [_], _ => rfl
  have F_Rule_put_in : C8.Fun K "put_in" "Rule.put_in" s_Rule_put_in f_Rule_put_in (PySem.W.fnOf "put_in" "Rule.put_in" (fnArgs s_Rule_put_in) (fnBody s_Rule_put_in) (fnScope s_Rule_put_in) .none kV_Rule_put_in dc_Rule_put_in pm_Rule_put_in an_Rule_put_in cd_Rule_put_in ct_Rule_put_in) := ⟨_, _, _, _, _, _, _, _, _, _, rfl, l_Rule_put_in, c_Rule_put_in⟩
  have b_Rule_put_in := C8.Fun.binds (ps := ["self", "line"]) F_Rule_put_in rfl fun _ _ _ _ _ _ us hl => match us, hl with | [_, _], _ => rfl
  have F_Rule_is_endless : C8.Fun K "is_endless" "Rule.is_endless" s_Rule_is_endless f_Rule_is_endless (PySem.W.fnOf "is_endless" "Rule.is_endless" (fnArgs s_Rule_is_endless) (fnBody s_Rule_is_endless) (fnScope s_Rule_is_endless) .none kV_Rule_is_endless dc_Rule_is_endless pm_Rule_is_endless an_Rule_is_endless cd_Rule_is_endless ct_Rule_is_endless) := ⟨_, _, _, _, _, _, _, _, _, _, rfl, l_Rule_is_endless, c_Rule_is_endless⟩
  have b_Rule_is_endless := C8.Fun.binds (ps := ["self"]) F_Rule_is_endless rfl fun _ _ _ _ _ _ us hl => match us, hl with | [_], _ => rfl
  have F_Rule_init : C8.Fun K "__init__" "Rule.__init__" s_Rule_init f_Rule_init (PySem.W.fnOf "__init__" "Rule.__init__" (fnArgs s_Rule_init) (fnBody s_Rule_init) (fnScope s_Rule_init) (.ref dT_Rule_init) kV_Rule_init dc_Rule_init pm_Rule_init an_Rule_init cd_Rule_init ct_Rule_init) := ⟨_, _, _, _, _, _, _, _, _, _, rfl, l_Rule_init, c_Rule_init⟩
  have FD_Rule_init : FunD K "__init__" "Rule.__init__" (fnArgs s_Rule_init) (fnBody s_Rule_init) (fnScope s_Rule_init) [.ref dE_R] [] f_Rule_init (PySem.W.fnOf "__init__" "Rule.__init__" (fnArgs s_Rule_init) (fnBody s_Rule_init) (fnScope s_Rule_init) (.ref dT_Rule_init) kV_Rule_init dc_Rule_init pm_Rule_init an_Rule_init cd_Rule_init ct_Rule_init) := ⟨⟨_, _, _, _, _, _, _, _, _, _, rfl, l_Rule_init, c_Rule_init, .inr ⟨List.cons_ne_nil _ _, _, _, _, _, rfl, dl_Rule_init, rfl, .cons rfl .nil⟩, .inl rfl⟩, k_Rule_init⟩
  obtain ⟨ds0_Rule_init, vd0_Rule_init, bd0_Rule_init⟩ := FD_Rule_init.binds1 (ps := ["self", "flag", "stuffs"]) 2 0 (List.cons_ne_nil _ _) rfl fun _ _ _ _ _ _ _ us its h1 h2 => match us, its, h1, h2 with | [_, _], [_], _, _ => ⟨_, rfl, rfl⟩
  obtain ⟨ds1_Rule_init, vd1_Rule_init, bd1_Rule_init⟩ := FD_Rule_init.binds1 (ps := ["self", "flag", "stuffs"]) 3 1 (List.cons_ne_nil _ _) rfl fun _ _ _ _ _ _ _ us its h1 h2 => match us, its, h1, h2 with | [_, _, _], [_], _, _ => ⟨_, rfl, rfl⟩
  have F_Rule_swapped : C8.Fun K "swapped" "Rule.swapped" s_Rule_swapped f_Rule_swapped (PySem.W.fnOf "swapped" "Rule.swapped" (fnArgs s_Rule_swapped) (fnBody s_Rule_swapped) (fnScope s_Rule_swapped) .none kV_Rule_swapped dc_Rule_swapped pm_Rule_swapped an_Rule_swapped cd_Rule_swapped ct_Rule_swapped) := ⟨_, _, _, _, _, _, _, _, _, _, rfl, l_Rule_swapped, c_Rule_swapped⟩
  have b_Rule_swapped := C8.Fun.binds (ps := ["self"]) F_Rule_swapped rfl fun _ _ _ _ _ _ us hl => match us, hl with | [_], _ => rfl
  have CL_Live : Cls K C_Live := ⟨pg_Live, hd_Live, po_Live, sa_Live⟩
  have F_Live_take : C8.Fun K "take" "Live.take" s_Live_take f_Live_take (PySem.W.fnOf "take" "Live.take" (fnArgs s_Live_take) (fnBody s_Live_take) (fnScope s_Live_take) .none kV_Live_take dc_Live_take pm_Live_take an_Live_take cd_Live_take ct_Live_take) := ⟨_, _, _, _, _, _, _, _, _, _, rfl, l_Live_take, c_Live_take⟩
  have b_Live_take := C8.Fun.binds (ps := ["self", "bits"]) F_Live_take rfl fun _ _ _ _ _ _ us hl => match us, hl with | [_, _], _ => rfl
  have F_Live_hear : C8.Fun K "hear" "Live.hear" s_Live_hear f_Live_hear (PySem.W.fnOf "hear" "Live.hear" (fnArgs s_Live_hear) (fnBody s_Live_hear) (fnScope s_Live_hear) .none kV_Live_hear dc_Live_hear pm_Live_hear an_Live_hear cd_Live_hear ct_Live_hear) := ⟨_, _, _, _, _, _, _, _, _, _, rfl, l_Live_hear, c_Live_hear⟩
  have b_Live_hear := C8.Fun.binds (ps := ["self", "bits"]) F_Live_hear rfl fun _ _ _ _ _ _ us hl => match us, hl with | [_, _], _ => rfl
  have F_Live_found : C8.Fun K "found" "Live.found" s_Live_found f_Live_found (PySem.W.fnOf "found" "Live.found" (fnArgs s_Live_found) (fnBody s_Live_found) (fnScope s_Live_found) .none kV_Live_found dc_Live_found pm_Live_found an_Live_found cd_Live_found ct_Live_found) := ⟨_, _, _, _, _, _, _, _, _, _, rfl, l_Live_found, c_Live_found⟩
  have b_Live_found := C8.Fun.binds (ps := ["self"]) F_Live_found rfl fun _ _ _ _ _ _ us hl => match us, hl with | [_], _ => rfl
  have F_Live_init : C8.Fun K "__init__" "Live.__init__" s_Live_init f_Live_init (PySem.W.fnOf "__init__" "Live.__init__" (fnArgs s_Live_init) (fnBody s_Live_init) (fnScope s_Live_init) .none kV_Live_init dc_Live_init pm_Live_init an_Live_init cd_Live_init ct_Live_init) := ⟨_, _, _, _, _, _, _, _, _, _, rfl, l_Live_init, c_Live_init⟩
  have b_Live_init := C8.Fun.binds (ps := ["self", "rule", "check"]) F_Live_init rfl fun _ _ _ _ _ _ us hl => match us, hl with | [_, _, _], _ => rfl
  have F_Live_several : C8.Fun K "several" "Live.several" s_Live_several f_Live_several (PySem.W.fnOf "several" "Live.several" (fnArgs s_Live_several) (fnBody s_Live_several) (fnScope s_Live_several) .none kV_Live_several dc_Live_several pm_Live_several an_Live_several cd_Live_several ct_Live_several) := ⟨_, _, _, _, _, _, _, _, _, _, rfl, l_Live_several, c_Live_several⟩
  have b_Live_several := C8.Fun.binds (ps := ["self", "words"]) F_Live_several rfl fun _ _ _ _ _ _ us hl => match us, hl with | [_, _], _ => rfl
  have F_Live_part : C8.Fun K "part" "Live.part" s_Live_part f_Live_part (PySem.W.fnOf "part" "Live.part" (fnArgs s_Live_part) (fnBody s_Live_part) (fnScope s_Live_part) .none kV_Live_part dc_Live_part pm_Live_part an_Live_part cd_Live_part ct_Live_part) := ⟨_, _, _, _, _, _, _, _, _, _, rfl, l_Live_part, c_Live_part⟩
  have b_Live_part := C8.Fun.binds (ps := ["self"]) F_Live_part rfl fun _ _ _ _ _ _ us hl => match us, hl with | [_], _ => rfl
  have F_Live_heard : C8.Fun K "heard" "Live.heard" s_Live_heard f_Live_heard (PySem.W.fnOf "heard" "Live.heard" (fnArgs s_Live_heard) (fnBody s_Live_heard) (fnScope s_Live_heard) .none kV_Live_heard dc_Live_heard pm_Live_heard an_Live_heard cd_Live_heard ct_Live_heard) := ⟨_, _, _, _, _, _, _, _, _, _, rfl, l_Live_heard, c_Live_heard⟩
  have b_Live_heard := C8.Fun.binds (ps := ["self"]) F_Live_heard rfl fun _ _ _ _ _ _ us hl => match us, hl with | [_], _ => rfl
  have F_Live_is_open : C8.Fun K "is_open" "Live.is_open" s_Live_is_open f_Live_is_open (PySem.W.fnOf "is_open" "Live.is_open" (fnArgs s_Live_is_open) (fnBody s_Live_is_open) (fnScope s_Live_is_open) .none kV_Live_is_open dc_Live_is_open pm_Live_is_open an_Live_is_open cd_Live_is_open ct_Live_is_open) := ⟨_, _, _, _, _, _, _, _, _, _, rfl, l_Live_is_open, c_Live_is_open⟩
  have b_Live_is_open := C8.Fun.binds (ps := ["self"]) F_Live_is_open rfl fun _ _ _ _ _ _ us hl => match us, hl with | [_], _ => rfl
  have CL_Check : Cls K C_Check := ⟨pg_Check, hd_Check, po_Check, sa_Check⟩
  have F_Check_step : C8.Fun K "step" "Check.step" s_Check_step f_Check_step (PySem.W.fnOf "step" "Check.step" (fnArgs s_Check_step) (fnBody s_Check_step) (fnScope s_Check_step) .none kV_Check_step dc_Check_step pm_Check_step an_Check_step cd_Check_step ct_Check_step) := ⟨_, _, _, _, _, _, _, _, _, _, rfl, l_Check_step, c_Check_step⟩
  have b_Check_step := C8.Fun.binds (ps := ["self", "rest", "bit"]) F_Check_step rfl fun _ _ _ _ _ _ us hl => match us, hl with | [_, _, _], _ => rfl
  have F_Check_rest : C8.Fun K "rest" "Check.rest" s_Check_rest f_Check_rest (PySem.W.fnOf "rest" "Check.rest" (fnArgs s_Check_rest) (fnBody s_Check_rest) (fnScope s_Check_rest) .none kV_Check_rest dc_Check_rest pm_Check_rest an_Check_rest cd_Check_rest ct_Check_rest) := ⟨_, _, _, _, _, _, _, _, _, _, rfl, l_Check_rest, c_Check_rest⟩
  have b_Check_rest := C8.Fun.binds (ps := ["self", "bits"]) F_Check_rest rfl fun _ _ _ _ _ _ us hl => match us, hl with | [_, _], _ => rfl
  have F_Check_degree : C8.Fun K "degree" "Check.degree" s_Check_degree f_Check_degree (PySem.W.fnOf "degree" "Check.degree" (fnArgs s_Check_degree) (fnBody s_Check_degree) (fnScope s_Check_degree) .none kV_Check_degree dc_Check_degree pm_Check_degree an_Check_degree cd_Check_degree ct_Check_degree) := ⟨_, _, _, _, _, _, _, _, _, _, rfl, l_Check_degree, c_Check_degree⟩
  have b_Check_degree := C8.Fun.binds (ps := ["self"]) F_Check_degree rfl fun _ _ _ _ _ _ us hl => match us, hl with | [_], _ => rfl
  have F_Check_is_good : C8.Fun K "is_good" "Check.is_good" s_Check_is_good f_Check_is_good (PySem.W.fnOf "is_good" "Check.is_good" (fnArgs s_Check_is_good) (fnBody s_Check_is_good) (fnScope s_Check_is_good) .none kV_Check_is_good dc_Check_is_good pm_Check_is_good an_Check_is_good cd_Check_is_good ct_Check_is_good) := ⟨_, _, _, _, _, _, _, _, _, _, rfl, l_Check_is_good, c_Check_is_good⟩
  have b_Check_is_good := C8.Fun.binds (ps := ["self", "message"]) F_Check_is_good rfl fun _ _ _ _ _ _ us hl => match us, hl with | [_, _], _ => rfl
  have F_Check_init : C8.Fun K "__init__" "Check.__init__" s_Check_init f_Check_init (PySem.W.fnOf "__init__" "Check.__init__" (fnArgs s_Check_init) (fnBody s_Check_init) (fnScope s_Check_init) (.ref dT_Check_init) kV_Check_init dc_Check_init pm_Check_init an_Check_init cd_Check_init ct_Check_init) := ⟨_, _, _, _, _, _, _, _, _, _, rfl, l_Check_init, c_Check_init⟩
  have FD_Check_init : FunD K "__init__" "Check.__init__" (fnArgs s_Check_init) (fnBody s_Check_init) (fnScope s_Check_init) [.str "1", .non] [] f_Check_init (PySem.W.fnOf "__init__" "Check.__init__" (fnArgs s_Check_init) (fnBody s_Check_init) (fnScope s_Check_init) (.ref dT_Check_init) kV_Check_init dc_Check_init pm_Check_init an_Check_init cd_Check_init ct_Check_init) := ⟨⟨_, _, _, _, _, _, _, _, _, _, rfl, l_Check_init, c_Check_init, .inr ⟨List.cons_ne_nil _ _, _, _, _, _, rfl, dl_Check_init, rfl, .cons ⟨_, rfl⟩ (.cons rfl .nil)⟩, .inl rfl⟩, k_Check_init⟩
  obtain ⟨ds0_Check_init, vd0_Check_init, bd0_Check_init⟩ := FD_Check_init.binds1 (ps := ["self", "poly", "start"]) 1 0 (List.cons_ne_nil _ _) rfl fun _ _ _ _ _ _ _ us its h1 h2 => match us, its, h1, h2 with | [_], [_, _], _, _ => ⟨_, rfl, rfl⟩
  obtain ⟨ds1_Check_init, vd1_Check_init, bd1_Check_init⟩ := FD_Check_init.binds1 (ps := ["self", "poly", "start"]) 2 1 (List.cons_ne_nil _ _) rfl fun _ _ _ _ _ _ _ us its h1 h2 => match us, its, h1, h2 with | [_, _], [_, _], _, _ => ⟨_, rfl, rfl⟩
  obtain ⟨ds2_Check_init, vd2_Check_init, bd2_Check_init⟩ := FD_Check_init.binds1 (ps := ["self", "poly", "start"]) 3 2 (List.cons_ne_nil _ _) rfl fun _ _ _ _ _ _ _ us its h1 h2 => match us, its, h1, h2 with | [_, _, _], [_, _], _, _ => ⟨_, rfl, rfl⟩
  have F_Check_bits_for : C8.Fun K "bits_for" "Check.bits_for" s_Check_bits_for f_Check_bits_for (PySem.W.fnOf "bits_for" "Check.bits_for" (fnArgs s_Check_bits_for) (fnBody s_Check_bits_for) (fnScope s_Check_bits_for) .none kV_Check_bits_for dc_Check_bits_for pm_Check_bits_for an_Check_bits_for cd_Check_bits_for ct_Check_bits_for) := ⟨_, _, _, _, _, _, _, _, _, _, rfl, l_Check_bits_for, c_Check_bits_for⟩
  have b_Check_bits_for := C8.Fun.binds (ps := ["self", "data"]) F_Check_bits_for rfl fun _ _ _ _ _ _ us hl => match us, hl with | [_, _], _ => rfl
  refine ⟨PySem.W.fnOf "law" "law" (fnArgs s_law) (fnBody s_law) (fnScope s_law) .none kV_law dc_law pm_law an_law cd_law ct_law, fun s v => .of_eq rfl, fun base _ _ => ?_⟩
  have RT : RuT K C_Rule := ⟨CL_Rule, n_Rule_flag, n_Rule_stuffs⟩
  have LT : LvT K C_Live := ⟨CL_Live, n_Live_now_rule, n_Live_now_check, n_Live_state, n_Live_past⟩
  have c_l_seed := cal_l_seed (P := l.prog) (w := w) (base := base) F_l_seed b_l_seed T
  have c_l_choose := cal_l_choose (P := l.prog) (w := w) (base := base) F_l_choose b_l_choose T
  have c_l_one_of := cal_l_one_of (P := l.prog) (w := w) (base := base) F_l_one_of b_l_one_of T c_l_choose
  have c_l_word := cal_l_word (P := l.prog) (w := w) (base := base) F_l_word b_l_word T c_l_one_of
  have c_l_turn := cal_l_turn (P := l.prog) (w := w) (base := base) F_l_turn b_l_turn T
  have c_l_stuff := cal_l_stuff (P := l.prog) (w := w) (base := base) F_l_stuff b_l_stuff T c_l_choose c_l_word c_l_turn
  have c_l_ends := cal_l_ends (P := l.prog) (w := w) (base := base) F_l_ends b_l_ends T
  have c_l_due := cal_l_due (P := l.prog) (w := w) (base := base) F_l_due b_l_due T c_l_ends
  have c_l_chain := cal_l_chain (P := l.prog) (w := w) (base := base) F_l_chain b_l_chain T c_l_due
  have c_l_tails := cal_l_tails (P := l.prog) (w := w) (base := base) F_l_tails b_l_tails T c_l_chain
  have c_l_are_stuffs := cal_l_are_stuffs (P := l.prog) (w := w) (base := base) F_l_are_stuffs b_l_are_stuffs T c_l_ends c_l_tails
  have c_l_rule := cal_l_rule (P := l.prog) (w := w) (base := base) F_l_rule b_l_rule T c_l_choose c_l_one_of c_l_word c_l_stuff c_l_are_stuffs
  have c_l_check := cal_l_check (P := l.prog) (w := w) (base := base) F_l_check b_l_check T c_l_choose c_l_word
  have c_l_body := cal_l_body (P := l.prog) (w := w) (base := base) F_l_body b_l_body T c_l_chain
  have c_l_words := cal_l_words (P := l.prog) (w := w) (base := base) F_l_words b_l_words T
  have c_l_rest := cal_l_rest (P := l.prog) (w := w) (base := base) F_l_rest b_l_rest T
  have c_l_right := cal_l_right (P := l.prog) (w := w) (base := base) F_l_right b_l_right T c_l_rest
  have c_l_bits_for := cal_l_bits_for (P := l.prog) (w := w) (base := base) F_l_bits_for b_l_bits_for T c_l_words c_l_right
  have c_l_stream := cal_l_stream (P := l.prog) (w := w) (base := base) F_l_stream b_l_stream T c_l_choose c_l_one_of c_l_word c_l_turn c_l_body c_l_bits_for
  have c_l_pieces := cal_l_pieces (P := l.prog) (w := w) (base := base) F_l_pieces b_l_pieces T c_l_one_of
  have g_BITS := PySem.W.mg_of X G gBITS
  have c_is_word := cal_is_word (P := l.prog) (w := w) (base := base) F_is_word b_is_word T g_BITS
  have c_put := met_put (P := l.prog) (w := w) (base := base) F_Rule_put ⟨a_Rule_put, i_Rule_put, k_Rule_put⟩ b_Rule_put T RT
  have c_taken_out := cal_taken_out (P := l.prog) (w := w) (base := base) F_taken_out b_taken_out T c_put
  have CT : CkT K C_Check := ⟨CL_Check, n_Check_poly, n_Check_start⟩
  have c_step := met_step (P := l.prog) (w := w) (base := base) F_Check_step ⟨a_Check_step, i_Check_step, k_Check_step⟩ b_Check_step T CT
  have c_rest := met_rest (P := l.prog) (w := w) (base := base) F_Check_rest ⟨a_Check_rest, i_Check_rest, k_Check_rest⟩ b_Check_rest T CT c_step
  have p_degree : Prp l.prog w K mg base 1 C_Check "degree" (spDegree C_Check) := ⟨_, _, _, _, CL_Check, ⟨a_Check_degree, g_Check_degree, t_Check_degree, ⟨_, r_Check_degree⟩⟩, ok_degree F_Check_degree T CT, b_Check_degree⟩
  have c_is_good := met_is_good (P := l.prog) (w := w) (base := base) F_Check_is_good ⟨a_Check_is_good, i_Check_is_good, k_Check_is_good⟩ b_Check_is_good T CT c_rest p_degree
  have c_read_part := cal_read_part (P := l.prog) (w := w) (base := base) F_read_part b_read_part T c_taken_out c_is_good p_degree
  have c_cut_up := cal_cut_up (P := l.prog) (w := w) (base := base) F_cut_up b_cut_up T RT c_read_part
  have c_take := met_take (P := l.prog) (w := w) (base := base) F_Live_take ⟨a_Live_take, i_Live_take, k_Live_take⟩ b_Live_take T LT RT c_is_word c_cut_up
  have c_hear := met_hear (P := l.prog) (w := w) (base := base) F_Live_hear ⟨a_Live_hear, i_Live_hear, k_Live_hear⟩ b_Live_hear T LT c_take
  have c_other := cal_other (P := l.prog) (w := w) (base := base) F_other b_other T
  have c_swapped_word := cal_swapped_word (P := l.prog) (w := w) (base := base) F_swapped_word b_swapped_word T c_other
  have c_is_sequence := cal_is_sequence (P := l.prog) (w := w) (base := base) F_is_sequence b_is_sequence T
  have c_is_bit := cal_is_bit (P := l.prog) (w := w) (base := base) F_is_bit b_is_bit T c_is_word
  have c_is_stuff := cal_is_stuff (P := l.prog) (w := w) (base := base) F_is_stuff b_is_stuff T c_is_word c_is_bit
  have c_are_stuffs := cal_are_stuffs (P := l.prog) (w := w) (base := base) F_are_stuffs b_are_stuffs T c_is_sequence c_is_stuff
  have p_longest : Prp l.prog w K mg base 1 C_Rule "longest" (spLongest C_Rule) := ⟨_, _, _, _, CL_Rule, ⟨a_Rule_longest, g_Rule_longest, t_Rule_longest, ⟨_, r_Rule_longest⟩⟩, ok_longest F_Rule_longest T RT, b_Rule_longest⟩
  have c_tail := cal_tail (P := l.prog) (w := w) (base := base) F_tail b_tail T
  have c_put_in := met_put_in (P := l.prog) (w := w) (base := base) F_Rule_put_in ⟨a_Rule_put_in, i_Rule_put_in, k_Rule_put_in⟩ b_Rule_put_in T RT c_put p_longest c_tail
  have c_is_endless := met_is_endless (P := l.prog) (w := w) (base := base) F_Rule_is_endless ⟨a_Rule_is_endless, i_Rule_is_endless, k_Rule_is_endless⟩ b_Rule_is_endless T RT g_BITS c_put_in p_longest c_tail
  have M_Rule : Mk K C_Rule f_Rule_init := ⟨mk_Rule, a_Rule_init, i_Rule_init, kc_Rule⟩
  have i_ok_Rule := ok_Rule_init (P := l.prog) (w := w) (base := base) F_Rule_init T RT c_is_word c_are_stuffs c_is_endless
  have m_Rule2 : Mak l.prog w K mg base 5 "Rule" C_Rule (spRuInit K C_Rule) [] := ⟨_, _, _, _, M_Rule, i_ok_Rule, PySem.W.mg_of X G aC_Rule, bd1_Rule_init, vd1_Rule_init⟩
  have c_swapped := met_swapped (P := l.prog) (w := w) (base := base) F_Rule_swapped ⟨a_Rule_swapped, i_Rule_swapped, k_Rule_swapped⟩ b_Rule_swapped T RT c_swapped_word m_Rule2
  have p_found : Prp l.prog w K mg base 1 C_Live "found" (spFound C_Live) := ⟨_, _, _, _, CL_Live, ⟨a_Live_found, g_Live_found, t_Live_found, ⟨_, r_Live_found⟩⟩, ok_found F_Live_found T LT, b_Live_found⟩
  have M_Check : Mk K C_Check f_Check_init := ⟨mk_Check, a_Check_init, i_Check_init, kc_Check⟩
  have i_ok_Check := ok_Check_init (P := l.prog) (w := w) (base := base) F_Check_init T CT c_is_word
  have m_Check0 : Mak l.prog w K mg base 2 "Check" C_Check (spCkInit C_Check) [.str "1", .non] := ⟨_, _, _, _, M_Check, i_ok_Check, PySem.W.mg_of X G aC_Check, bd0_Check_init, vd0_Check_init⟩
  have M_Live : Mk K C_Live f_Live_init := ⟨mk_Live, a_Live_init, i_Live_init, kc_Live⟩
  have i_ok_Live := ok_Live_init (P := l.prog) (w := w) (base := base) F_Live_init T LT
  have m_Live2 : Mak l.prog w K mg base 1 "Live" C_Live (spLvInit C_Live) [] := ⟨_, _, _, _, M_Live, i_ok_Live, PySem.W.mg_of X G aC_Live, b_Live_init, .nil⟩
  have c_l_mirror_right := cal_l_mirror_right (P := l.prog) (w := w) (base := base) F_l_mirror_right b_l_mirror_right T c_l_turn c_hear c_swapped p_found m_Check0 m_Live2
  have g_InvalidWord := PySem.W.mg_of X G aCW
  have c_several := met_several (P := l.prog) (w := w) (base := base) F_Live_several ⟨a_Live_several, i_Live_several, k_Live_several⟩ b_Live_several T LT g_InvalidWord c_is_sequence c_take
  have p_part : Prp l.prog w K mg base 1 C_Live "part" (spPart C_Live) := ⟨_, _, _, _, CL_Live, ⟨a_Live_part, g_Live_part, t_Live_part, ⟨_, r_Live_part⟩⟩, ok_part F_Live_part T LT, b_Live_part⟩
  have p_heard : Prp l.prog w K mg base 1 C_Live "heard" (spHeard C_Live) := ⟨_, _, _, _, CL_Live, ⟨a_Live_heard, g_Live_heard, t_Live_heard, ⟨_, r_Live_heard⟩⟩, ok_heard F_Live_heard T LT, b_Live_heard⟩
  have p_is_open : Prp l.prog w K mg base 1 C_Live "is_open" (spIsOpen C_Live) := ⟨_, _, _, _, CL_Live, ⟨a_Live_is_open, g_Live_is_open, t_Live_is_open, ⟨_, r_Live_is_open⟩⟩, ok_is_open F_Live_is_open T LT, b_Live_is_open⟩
  have c_l_long_right := cal_l_long_right (P := l.prog) (w := w) (base := base) F_l_long_right b_l_long_right T c_l_word c_hear c_several p_found p_part p_heard p_is_open m_Live2
  have c_put_behind := cal_put_behind (P := l.prog) (w := w) (base := base) F_put_behind b_put_behind T c_put
  have c_body := cal_body (P := l.prog) (w := w) (base := base) F_body b_body T c_put_behind
  have c_bits_for := met_bits_for (P := l.prog) (w := w) (base := base) F_Check_bits_for ⟨a_Check_bits_for, i_Check_bits_for, k_Check_bits_for⟩ b_Check_bits_for T CT c_rest p_degree
  have c_send := cal_send (P := l.prog) (w := w) (base := base) F_send b_send T RT c_body c_bits_for
  have c_receive := cal_receive (P := l.prog) (w := w) (base := base) F_receive b_receive T RT c_read_part
  have c_frames := cal_frames (P := l.prog) (w := w) (base := base) F_frames b_frames T c_cut_up
  have m_Check2 : Mak l.prog w K mg base 2 "Check" C_Check (spCkInit C_Check) [] := ⟨_, _, _, _, M_Check, i_ok_Check, PySem.W.mg_of X G aC_Check, bd2_Check_init, vd2_Check_init⟩
  exact ok_law F_law T RT LT c_l_seed c_l_choose c_l_word c_l_rule c_l_check c_l_stream c_l_pieces c_l_mirror_right c_l_long_right c_send c_receive c_frames c_hear c_several p_is_open p_part p_found m_Rule2 m_Check2 m_Live2
theorem walk {l : PySem.W.OpenLaw} {q : Program} {loose : List Str} {XP : (Str → Option Value) → Heap → Prop} {YP : World → Heap → Prop} {d : DefRec} {K : Params → PySem.W.Frag} (hn : l.most = some 63) (hdf : d.params.defaults = [])
    (hY : ∀ (w : World) (h : Heap), YP w h → (K w.params).In h)
    (F : ∀ (w : World) (mg : Str → Option Value) (fa : Addr) (h : Heap), (K w.params).In h → h.Ns mainGlobals mg → mg d.name = some (.ref fa) →
      ∃ fd : FuncData, (∀ (s : Shared) (u : Value), BindsTo s fd ⟨[u], []⟩ [("_law_script", u)]) ∧ ∀ base : Heap, (K w.params).In base → base.Ns mainGlobals mg → FnOk l.prog w (K w.params) mg base CX0 10 fa fd ["_law_script"] (spLaw (K w.params))) :
    PySem.W.WalkO q loose XP YP l.row.toRowW d [] (fun f vs => PySem.call f vs) :=
  L2.walk_of (n := 63) (k := 10) (x := "_law_script") (CX := fun _ => CX0) (sp := fun w => spLaw (K w.params)) hn (by decide) hdf ⟨rfl, by decide, by decide⟩ hY F (fun _ _ a ns hl _ hS => ⟨a, ns, rfl, hS, hl, fun _ => rfl⟩) fun _ _ _ _ _ z => z
end U

set_option pp.maxSteps 300
open PySem PySem.W PyProof.Rows
set_option maxRecDepth 100000 in
set_option maxHeartbeats 0 in
theorem PySem.Challenge.cw_unseenflips_k77_whole_live_receivers_and_holds : PySem.Challenge.rw_unseenflips_k77_whole_live_receivers_and.Holds := by
  w_on; o_law; k_head; (case hw => w_witness2)
  k_fill
  refine U.walk (l := PySem.Challenge.rw_unseenflips_k77_whole_live_receivers_and) rfl rfl (fun w h Y => PySem.W.kIn_of Y) ?F
  case F =>
    intro w mg fa h KX G hmg
    refine' U.all_mk KX G hmg ?a_put_behind ?l_put_behind ?c_put_behind ?k_put_behind ?a_body ?l_body ?c_body ?k_body ?a_taken_out ?l_taken_out ?c_taken_out ?k_taken_out ?a_send ?l_send ?c_send ?k_send ?a_read_part ?l_read_part ?c_read_part ?k_read_part ?a_receive ?l_receive ?c_receive ?k_receive ?a_cut_up ?l_cut_up ?c_cut_up ?k_cut_up ?a_frames ?l_frames ?c_frames ?k_frames ?a_is_sequence ?l_is_sequence ?c_is_sequence ?k_is_sequence ?a_is_word ?l_is_word ?c_is_word ?k_is_word ?a_is_bit ?l_is_bit ?c_is_bit ?k_is_bit ?a_other ?l_other ?c_other ?k_other ?a_swapped_word ?l_swapped_word ?c_swapped_word ?k_swapped_word ?a_tail ?l_tail ?c_tail ?k_tail ?a_is_stuff ?l_is_stuff ?c_is_stuff ?k_is_stuff ?a_are_stuffs ?l_are_stuffs ?c_are_stuffs ?k_are_stuffs ?a_l_seed ?l_l_seed ?c_l_seed ?k_l_seed ?a_l_choose ?l_l_choose ?c_l_choose ?k_l_choose ?a_l_one_of ?l_l_one_of ?c_l_one_of ?k_l_one_of ?a_l_word ?l_l_word ?c_l_word ?k_l_word ?a_l_turn ?l_l_turn ?c_l_turn ?k_l_turn ?a_l_ends ?l_l_ends ?c_l_ends ?k_l_ends ?a_l_due ?l_l_due ?c_l_due ?k_l_due ?a_l_chain ?l_l_chain ?c_l_chain ?k_l_chain ?a_l_tails ?l_l_tails ?c_l_tails ?k_l_tails ?a_l_are_stuffs ?l_l_are_stuffs ?c_l_are_stuffs ?k_l_are_stuffs ?a_l_stuff ?l_l_stuff ?c_l_stuff ?k_l_stuff ?a_l_rule ?l_l_rule ?c_l_rule ?k_l_rule ?a_l_body ?l_l_body ?c_l_body ?k_l_body ?a_l_words ?l_l_words ?c_l_words ?k_l_words ?a_l_check ?l_l_check ?c_l_check ?k_l_check ?a_l_rest ?l_l_rest ?c_l_rest ?k_l_rest ?a_l_right ?l_l_right ?c_l_right ?k_l_right ?a_l_bits_for ?l_l_bits_for ?c_l_bits_for ?k_l_bits_for ?a_l_stream ?l_l_stream ?c_l_stream ?k_l_stream ?a_l_pieces ?l_l_pieces ?c_l_pieces ?k_l_pieces ?a_l_long_right ?l_l_long_right ?c_l_long_right ?k_l_long_right ?a_l_mirror_right ?l_l_mirror_right ?c_l_mirror_right ?k_l_mirror_right ?a_law ?l_law ?c_law ?k_law ?aC_Rule ?pg_Rule ?hd_Rule ?po_Rule ?sa_Rule ?mk_Rule ?kc_Rule ?n_Rule_flag ?n_Rule_stuffs ?a_Rule_put ?i_Rule_put ?l_Rule_put ?c_Rule_put ?k_Rule_put ?a_Rule_longest ?g_Rule_longest ?t_Rule_longest ?r_Rule_longest ?l_Rule_longest ?c_Rule_longest ?a_Rule_put_in ?i_Rule_put_in ?l_Rule_put_in ?c_Rule_put_in ?k_Rule_put_in ?a_Rule_is_endless ?i_Rule_is_endless ?l_Rule_is_endless ?c_Rule_is_endless ?k_Rule_is_endless ?a_Rule_init ?i_Rule_init ?l_Rule_init ?c_Rule_init ?k_Rule_init ?dl_Rule_init ?dlE_Rule ?a_Rule_swapped ?i_Rule_swapped ?l_Rule_swapped ?c_Rule_swapped ?k_Rule_swapped ?aC_Live ?pg_Live ?hd_Live ?po_Live ?sa_Live ?mk_Live ?kc_Live ?n_Live_now_rule ?n_Live_now_check ?n_Live_state ?n_Live_past ?a_Live_take ?i_Live_take ?l_Live_take ?c_Live_take ?k_Live_take ?a_Live_hear ?i_Live_hear ?l_Live_hear ?c_Live_hear ?k_Live_hear ?a_Live_found ?g_Live_found ?t_Live_found ?r_Live_found ?l_Live_found ?c_Live_found ?a_Live_init ?i_Live_init ?l_Live_init ?c_Live_init ?k_Live_init ?a_Live_several ?i_Live_several ?l_Live_several ?c_Live_several ?k_Live_several ?a_Live_part ?g_Live_part ?t_Live_part ?r_Live_part ?l_Live_part ?c_Live_part ?a_Live_heard ?g_Live_heard ?t_Live_heard ?r_Live_heard ?l_Live_heard ?c_Live_heard ?a_Live_is_open ?g_Live_is_open ?t_Live_is_open ?r_Live_is_open ?l_Live_is_open ?c_Live_is_open ?aC_Check ?pg_Check ?hd_Check ?po_Check ?sa_Check ?mk_Check ?kc_Check ?n_Check_poly ?n_Check_start ?a_Check_step ?i_Check_step ?l_Check_step ?c_Check_step ?k_Check_step ?a_Check_rest ?i_Check_rest ?l_Check_rest ?c_Check_rest ?k_Check_rest ?a_Check_degree ?g_Check_degree ?t_Check_degree ?r_Check_degree ?l_Check_degree ?c_Check_degree ?a_Check_is_good ?i_Check_is_good ?l_Check_is_good ?c_Check_is_good ?k_Check_is_good ?a_Check_init ?i_Check_init ?l_Check_init ?c_Check_init ?k_Check_init ?dl_Check_init ?a_Check_bits_for ?i_Check_bits_for ?l_Check_bits_for ?c_Check_bits_for ?k_Check_bits_for ?gBITS ?aCW ?z_len ?z_abs ?z_int ?z_range ?z_max ?z_min ?z_enumerate ?z_zip ?z_dict ?z_list ?z_tuple ?z_isinstance ?z_bool ?z_str ?z_all ?z_any ?z_sum ?z_sorted ?z_repr
    (case a_put_behind => k_is)
    (case l_put_behind => k_is)
    (case c_put_behind => k_is)
    (case k_put_behind => k_is)
    (case a_body => k_is)
    (case l_body => k_is)
    (case c_body => k_is)
    (case k_body => k_is)
    (case a_taken_out => k_is)
    (case l_taken_out => k_is)
    (case c_taken_out => k_is)
    (case k_taken_out => k_is)
    (case a_send => k_is)
    (case l_send => k_is)
    (case c_send => k_is)
    (case k_send => k_is)
    (case a_read_part => k_is)
    (case l_read_part => k_is)
    (case c_read_part => k_is)
    (case k_read_part => k_is)
    (case a_receive => k_is)
    (case l_receive => k_is)
    (case c_receive => k_is)
    (case k_receive => k_is)
    (case a_cut_up => k_is)
    (case l_cut_up => k_is)
    (case c_cut_up => k_is)
    (case k_cut_up => k_is)
    (case a_frames => k_is)
    (case l_frames => k_is)
    (case c_frames => k_is)
    (case k_frames => k_is)
    (case a_is_sequence => k_is)
    (case l_is_sequence => k_is)
    (case c_is_sequence => k_is)
    (case k_is_sequence => k_is)
    (case a_is_word => k_is)
    (case l_is_word => k_is)
    (case c_is_word => k_is)
    (case k_is_word => k_is)
    (case a_is_bit => k_is)
    (case l_is_bit => k_is)
    (case c_is_bit => k_is)
    (case k_is_bit => k_is)
    (case a_other => k_is)
    (case l_other => k_is)
    (case c_other => k_is)
    (case k_other => k_is)
    (case a_swapped_word => k_is)
    (case l_swapped_word => k_is)
    (case c_swapped_word => k_is)
    (case k_swapped_word => k_is)
    (case a_tail => k_is)
    (case l_tail => k_is)
    (case c_tail => k_is)
    (case k_tail => k_is)
    (case a_is_stuff => k_is)
    (case l_is_stuff => k_is)
    (case c_is_stuff => k_is)
    (case k_is_stuff => k_is)
    (case a_are_stuffs => k_is)
    (case l_are_stuffs => k_is)
    (case c_are_stuffs => k_is)
    (case k_are_stuffs => k_is)
    (case a_l_seed => k_is)
    (case l_l_seed => k_is)
    (case c_l_seed => k_is)
    (case k_l_seed => k_is)
    (case a_l_choose => k_is)
    (case l_l_choose => k_is)
    (case c_l_choose => k_is)
    (case k_l_choose => k_is)
    (case a_l_one_of => k_is)
    (case l_l_one_of => k_is)
    (case c_l_one_of => k_is)
    (case k_l_one_of => k_is)
    (case a_l_word => k_is)
    (case l_l_word => k_is)
    (case c_l_word => k_is)
    (case k_l_word => k_is)
    (case a_l_turn => k_is)
    (case l_l_turn => k_is)
    (case c_l_turn => k_is)
    (case k_l_turn => k_is)
    (case a_l_ends => k_is)
    (case l_l_ends => k_is)
    (case c_l_ends => k_is)
    (case k_l_ends => k_is)
    (case a_l_due => k_is)
    (case l_l_due => k_is)
    (case c_l_due => k_is)
    (case k_l_due => k_is)
    (case a_l_chain => k_is)
    (case l_l_chain => k_is)
    (case c_l_chain => k_is)
    (case k_l_chain => k_is)
    (case a_l_tails => k_is)
    (case l_l_tails => k_is)
    (case c_l_tails => k_is)
    (case k_l_tails => k_is)
    (case a_l_are_stuffs => k_is)
    (case l_l_are_stuffs => k_is)
    (case c_l_are_stuffs => k_is)
    (case k_l_are_stuffs => k_is)
    (case a_l_stuff => k_is)
    (case l_l_stuff => k_is)
    (case c_l_stuff => k_is)
    (case k_l_stuff => k_is)
    (case a_l_rule => k_is)
    (case l_l_rule => k_is)
    (case c_l_rule => k_is)
    (case k_l_rule => k_is)
    (case a_l_body => k_is)
    (case l_l_body => k_is)
    (case c_l_body => k_is)
    (case k_l_body => k_is)
    (case a_l_words => k_is)
    (case l_l_words => k_is)
    (case c_l_words => k_is)
    (case k_l_words => k_is)
    (case a_l_check => k_is)
    (case l_l_check => k_is)
    (case c_l_check => k_is)
    (case k_l_check => k_is)
    (case a_l_rest => k_is)
    (case l_l_rest => k_is)
    (case c_l_rest => k_is)
    (case k_l_rest => k_is)
    (case a_l_right => k_is)
    (case l_l_right => k_is)
    (case c_l_right => k_is)
    (case k_l_right => k_is)
    (case a_l_bits_for => k_is)
    (case l_l_bits_for => k_is)
    (case c_l_bits_for => k_is)
    (case k_l_bits_for => k_is)
    (case a_l_stream => k_is)
    (case l_l_stream => k_is)
    (case c_l_stream => k_is)
    (case k_l_stream => k_is)
    (case a_l_pieces => k_is)
    (case l_l_pieces => k_is)
    (case c_l_pieces => k_is)
    (case k_l_pieces => k_is)
    (case a_l_long_right => k_is)
    (case l_l_long_right => k_is)
    (case c_l_long_right => k_is)
    (case k_l_long_right => k_is)
    (case a_l_mirror_right => k_is)
    (case l_l_mirror_right => k_is)
    (case c_l_mirror_right => k_is)
    (case k_l_mirror_right => k_is)
    (case a_law => k_is)
    (case l_law => k_is)
    (case c_law => k_is)
    (case k_law => k_is)
    (case aC_Rule => k_is)
    (case pg_Rule => k_is)
    (case hd_Rule => k_is)
    (case po_Rule => k_is)
    (case sa_Rule => k_is)
    (case mk_Rule => k_is)
    (case kc_Rule => k_is)
    (case n_Rule_flag => k_is)
    (case n_Rule_stuffs => k_is)
    (case a_Rule_put => k_is)
    (case i_Rule_put => k_is)
    (case l_Rule_put => k_is)
    (case c_Rule_put => k_is)
    (case k_Rule_put => k_is)
    (case a_Rule_longest => k_is)
    (case g_Rule_longest => k_is)
    (case t_Rule_longest => k_is)
    (case r_Rule_longest => k_is)
    (case l_Rule_longest => k_is)
    (case c_Rule_longest => k_is)
    (case a_Rule_put_in => k_is)
    (case i_Rule_put_in => k_is)
    (case l_Rule_put_in => k_is)
    (case c_Rule_put_in => k_is)
    (case k_Rule_put_in => k_is)
    (case a_Rule_is_endless => k_is)
    (case i_Rule_is_endless => k_is)
    (case l_Rule_is_endless => k_is)
    (case c_Rule_is_endless => k_is)
    (case k_Rule_is_endless => k_is)
    (case a_Rule_init => k_is)
    (case i_Rule_init => k_is)
    (case l_Rule_init => k_is)
    (case c_Rule_init => k_is)
    (case k_Rule_init => k_is)
    (case dl_Rule_init => k_is)
    (case dlE_Rule => k_is)
    (case a_Rule_swapped => k_is)
    (case i_Rule_swapped => k_is)
    (case l_Rule_swapped => k_is)
    (case c_Rule_swapped => k_is)
    (case k_Rule_swapped => k_is)
    (case aC_Live => k_is)
    (case pg_Live => k_is)
    (case hd_Live => k_is)
    (case po_Live => k_is)
    (case sa_Live => k_is)
    (case mk_Live => k_is)
    (case kc_Live => k_is)
    (case n_Live_now_rule => k_is)
    (case n_Live_now_check => k_is)
    (case n_Live_state => k_is)
    (case n_Live_past => k_is)
    (case a_Live_take => k_is)
    (case i_Live_take => k_is)
    (case l_Live_take => k_is)
    (case c_Live_take => k_is)
    (case k_Live_take => k_is)
    (case a_Live_hear => k_is)
    (case i_Live_hear => k_is)
    (case l_Live_hear => k_is)
    (case c_Live_hear => k_is)
    (case k_Live_hear => k_is)
    (case a_Live_found => k_is)
    (case g_Live_found => k_is)
    (case t_Live_found => k_is)
    (case r_Live_found => k_is)
    (case l_Live_found => k_is)
    (case c_Live_found => k_is)
    (case a_Live_init => k_is)
    (case i_Live_init => k_is)
    (case l_Live_init => k_is)
    (case c_Live_init => k_is)
    (case k_Live_init => k_is)
    (case a_Live_several => k_is)
    (case i_Live_several => k_is)
    (case l_Live_several => k_is)
    (case c_Live_several => k_is)
    (case k_Live_several => k_is)
    (case a_Live_part => k_is)
    (case g_Live_part => k_is)
    (case t_Live_part => k_is)
    (case r_Live_part => k_is)
    (case l_Live_part => k_is)
    (case c_Live_part => k_is)
    (case a_Live_heard => k_is)
    (case g_Live_heard => k_is)
    (case t_Live_heard => k_is)
    (case r_Live_heard => k_is)
    (case l_Live_heard => k_is)
    (case c_Live_heard => k_is)
    (case a_Live_is_open => k_is)
    (case g_Live_is_open => k_is)
    (case t_Live_is_open => k_is)
    (case r_Live_is_open => k_is)
    (case l_Live_is_open => k_is)
    (case c_Live_is_open => k_is)
    (case aC_Check => k_is)
    (case pg_Check => k_is)
    (case hd_Check => k_is)
    (case po_Check => k_is)
    (case sa_Check => k_is)
    (case mk_Check => k_is)
    (case kc_Check => k_is)
    (case n_Check_poly => k_is)
    (case n_Check_start => k_is)
    (case a_Check_step => k_is)
    (case i_Check_step => k_is)
    (case l_Check_step => k_is)
    (case c_Check_step => k_is)
    (case k_Check_step => k_is)
    (case a_Check_rest => k_is)
    (case i_Check_rest => k_is)
    (case l_Check_rest => k_is)
    (case c_Check_rest => k_is)
    (case k_Check_rest => k_is)
    (case a_Check_degree => k_is)
    (case g_Check_degree => k_is)
    (case t_Check_degree => k_is)
    (case r_Check_degree => k_is)
    (case l_Check_degree => k_is)
    (case c_Check_degree => k_is)
    (case a_Check_is_good => k_is)
    (case i_Check_is_good => k_is)
    (case l_Check_is_good => k_is)
    (case c_Check_is_good => k_is)
    (case k_Check_is_good => k_is)
    (case a_Check_init => k_is)
    (case i_Check_init => k_is)
    (case l_Check_init => k_is)
    (case c_Check_init => k_is)
    (case k_Check_init => k_is)
    (case dl_Check_init => k_is)
    (case a_Check_bits_for => k_is)
    (case i_Check_bits_for => k_is)
    (case l_Check_bits_for => k_is)
    (case c_Check_bits_for => k_is)
    (case k_Check_bits_for => k_is)
    (case gBITS => k_is)
    (case aCW => k_is)
    (case z_len => k_is)
    (case z_abs => k_is)
    (case z_int => k_is)
    (case z_range => k_is)
    (case z_max => k_is)
    (case z_min => k_is)
    (case z_enumerate => k_is)
    (case z_zip => k_is)
    (case z_dict => k_is)
    (case z_list => k_is)
    (case z_tuple => k_is)
    (case z_isinstance => k_is)
    (case z_bool => k_is)
    (case z_str => k_is)
    (case z_all => k_is)
    (case z_any => k_is)
    (case z_sum => k_is)
    (case z_sorted => k_is)
    (case z_repr => k_is)
#print axioms PySem.Challenge.cw_unseenflips_k77_whole_live_receivers_and_holds
