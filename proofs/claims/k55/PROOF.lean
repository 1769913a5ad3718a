import PyProof.Rows.All
import Wide.All
import OpenK.AllK
import Wide.FinOn
import HandS.ForMost
import HandS.Codes
import HandS.FStr
import HandS.IsInst
import HandS.Star
import HandS.TupAny
import HandS.Style
import HandS.Walk
import KE.GoesEnum
import KE.GoesNew
import HandS.Property
import HandS.Defaults
import HandS.ClsMeth
import HandS.MakeKw
import KE.GoesZip
import HandS.SortOrd
import HandS.SortRule
import HandS.OwnEq
import HandS.CallLocal
import KE.KCallOwn
import HandS.Replace
import KE.KDictPairs
import HandS.RaiseMore
import PySem.Challenge.RW_unseenflips_k55_unseen_hits_counted
set_option Elab.async false
set_option linter.all false
set_option maxRecDepth 100000
set_option maxHeartbeats 4000000
namespace Lx
open PySem PySem.Spec PyProof.Rows L2

/-! enumerate over a text -/
def ItES (x : Str) : It := ⟨fun i _ => i < x.cps.size, fun i H v H' => ∃ T c, v = .ref T ∧ H T = none ∧ H' = upd H T (.tup [.int (i : Nat), .str ⟨#[c]⟩]) ∧ x.cps[i]? = some c, fun i _ => x.cps.size ≤ i⟩
theorem turn_enumS {P : Program} {w : World} {K : PySem.W.Frag} {elts : List Expr} {kk : Nat} {tpos : Pos} (x : Str) (t : Tok) (e it : Addr) :
    Turn P w K (.Tuple elts kk tpos) (ItES x) [e, it] e (fun i h => (∃ old, IsEnum h e it ((i : Nat) : Int) old) ∧ h.IsStrIter it (strIterType x) x t i ∧ e ≠ it ∧ i ≤ x.cps.size) where
  mem := by simp
  obj := fun i h st b hb => by
    obtain ⟨⟨old, he⟩, ⟨o, ho, hc, hd⟩, _⟩ := st
    have e' : b = e ∨ b = it := by simpa using hb
    rcases e' with z | z
    · rw [z]; exact ⟨_, he, fun v q => nomatch q⟩
    · rw [z]; exact ⟨o, ho, fun v q => by rw [hd] at q; cases q⟩
  keep := fun i h h' st k => by
    obtain ⟨⟨old, he⟩, ⟨o, ho, r⟩, hne⟩ := st
    exact ⟨⟨old, k e (by simp) _ he⟩, ⟨o, k it (by simp) o ho, r⟩, hne⟩
  item := by
    intro X hP hw hK hc i pins s σ H E I hf st hg
    subst hP hw hK
    obtain ⟨⟨old, he⟩, hit, hne, _⟩ := st
    have hlt : i < x.cps.size := hg
    have hel : e < s.heap.objs.size := Heap.lt_size he
    have hil : it < s.heap.objs.size := by obtain ⟨_, q, _⟩ := hit; exact Heap.lt_size q
    have hh : X.A.in1.handled = none := I.ok.hd hc
    refine wpAny_pyNext_enum_itemC (Draws.text hh it x t) he hit hlt hne (by simpa using hne) fun v h' tk hP ho hit' hT hsz hk => ?_
    obtain ⟨c, u, hcx, rfl⟩ := hP
    refine ⟨_, rfl, wpAny_letOwnedTupleGo_enum (s := { s with heap := h', toks := tk + 1 }) ho fun h'' he' sb => ?_⟩
    have hT2 : h''.get? s.heap.objs.size = some { cls := .type "tuple", data := .seq #[.int i tk, .str ⟨#[c]⟩ u] } := (sb.2 _ (Nat.ne_of_gt hel)).trans hT
    have new : ObjOk X.prog X.w (upd H s.heap.objs.size (.tup [.int (i : Nat), .str ⟨#[c]⟩])) h'' s.heap.objs.size (.tup [.int (i : Nat), .str ⟨#[c]⟩]) :=
      ⟨by show 2 ≤ sizeLine; decide, [.int i tk, .str ⟨#[c]⟩ u], .cons ⟨_, rfl⟩ (.cons ⟨_, rfl⟩ .nil), ⟨_, hT2, rfl, _, rfl⟩⟩
    have I1 : Inv X pins σ (upd H s.heap.objs.size (.tup [.int (i : Nat), .str ⟨#[c]⟩])) { s with heap := h'', toks := tk + 1 } :=
      I.turnedNew (ch := [e, it]) (fun b ob hb q => (sb.2 b (fun z => hb (by simp [z]))).trans (hk b ob (fun z => hb (by simp [z])) (fun z => hb (by simp [z])) q)) hf (Nat.le_refl _) new
    refine ⟨.ref s.heap.objs.size, _, I1, rfl, ⟨_, c, rfl, I.hok.fresh (Nat.le_refl _), rfl, hcx⟩, ⟨⟨.str ⟨#[c]⟩ u, ?_⟩, ?_, hne, hlt⟩, fun b hb => ?_⟩
    · have e1 : ((i + 1 : Nat) : Int) = (i : Int) + 1 := by omega
      rw [e1]; exact he'
    · obtain ⟨o, ho', r⟩ := hit'
      exact ⟨o, (sb.2 it (Ne.symm hne)).trans ho', r⟩
    · have hb' : b < s.heap.objs.size := by
        have e' : b = e ∨ b = it := by simpa using hb
        rcases e' with z | z
        · rw [z]; exact hel
        · rw [z]; exact hil
      rw [upd_ne (Nat.ne_of_lt hb')]
      exact (hf b hb).1
  done := by
    intro X hP hw hK hc i pins s σ H E I hf st hg
    subst hP hw hK
    obtain ⟨⟨old, he⟩, hit, hne, hle⟩ := st
    have hge : x.cps.size ≤ i := hg
    have hi : i = x.cps.size := Nat.le_antisymm hle hge
    subst hi
    have hh : X.A.in1.handled = none := I.ok.hd hc
    obtain ⟨f0, f1, f2, f3, f4, f5⟩ := hf it (by simp)
    exact wpAny_pyNext_enum_endD (Draws.text hh it x t) he hit fun h' eb => ⟨rfl, I.turned (t' := s.toks) (fun b o hb q => eb b o hb q) f0 f1 f3 f4 f5⟩
  self := fun A i s Q E st h => let ⟨⟨_, he⟩, _⟩ := st; wpAny_pyIter_enum he h
def iEnumS (ta : TA) : TI := fun σ H R => ta σ H fun vs H1 => ∃ x, vs = [.str x] ∧ R (ItES x) H1
theorem pi_enumS {X : Cx} {e : Expr} {ta : TA} {p pos tpos : Pos} {elts : List Expr} {kk : Nat} (hg : Gl X "enumerate") (hm : X.mg "enumerate" = none) (ha : PA X [e] ta) (hs : starEach [e] X.env = [(false, eval e X.env)] := by rfl) :
    PI X (.Tuple elts kk tpos) (.Call (.Name "enumerate" p) [e] [] pos) (iEnumS ta) := by
  refine ⟨fun pins s σ H R I h => ?_⟩
  refine Call_ (ld_blt I hg hm boot_enumerate (PyProof.Rows.callWith_type1 (thn (ha.run pos pins s σ H _ I h) fun us s1 ⟨vs, H1, I1, r1, q1⟩ => ?_) hs rfl))
  obtain ⟨x, ex, q⟩ := q1
  subst ex
  cases r1 with
  | cons r rr =>
    cases rr
    obtain ⟨t, rfl⟩ := r
    refine call_enumerate_str fun h' he hit hsz hk => wpAny_pyIter_enum he ?_
    have I2 : Inv X pins σ H1 { s1 with heap := h' } := I1.kept (t' := s1.toks) hk
    refine ⟨s1.heap.objs.size + 1, [s1.heap.objs.size + 1, s1.heap.objs.size], _, _, H1, rfl, I2, turn_enumS x t (s1.heap.objs.size + 1) s1.heap.objs.size, ⟨⟨.none, he⟩, hit, Nat.succ_ne_self _, Nat.zero_le _⟩, fun b hb => ?_, q⟩
    have e' : b = s1.heap.objs.size + 1 ∨ b = s1.heap.objs.size := by simpa using hb
    have hle : s1.heap.objs.size ≤ b := by
      rcases e' with z | z
      · rw [z]; exact Nat.le_add_right _ _
      · rw [z]; exact Nat.le_refl _
    exact I1.fpOk hle (I1.hok.fresh hle)

/-! enumerate over a tuple -/
def ItET (K : PySem.W.Frag) (a : Addr) : It :=
  ⟨fun i H => ∃ (xs : List V) (x : V), SqT K H a xs ∧ xs[i]? = some x, fun i H v H' => ∃ T x, v = .ref T ∧ H T = none ∧ H' = upd H T (.tup [.int (i : Nat), x]) ∧ ∀ xs, SqT K H a xs → xs[i]? = some x, fun i H => ∃ xs : List V, SqT K H a xs ∧ xs.length ≤ i⟩
theorem meets_enumerate_newT (l : Addr) (items : Array Value) (n : Nat) (dct : Option Addr) (sl : Array (Option Value)) :
    Meets (Builtin.«enumerate.__new__» ⟨[.type "enumerate", .ref l], []⟩) (fun _ R s => s.heap.get? l = some { cls := .type "tuple", dict := dct, data := .seq items n, slots := sl } ∧
      R (.ok (.ret (.ref (s.heap.push { cls := .type "tuple_iterator", data := .fields #[.ref l, .int 0 0] }).objs.size)))
        { s with heap := (s.heap.push { cls := .type "tuple_iterator", data := .fields #[.ref l, .int 0 0] }).push { cls := .type "enumerate", data := .fields #[.none, .bool false, .ref s.heap.objs.size, rawInt 0, .none, .none] } }) :=
  .of_wp fun prog w A R s h => by
    obtain ⟨hp, g, d, tk, os⟩ := s; obtain ⟨hl, h⟩ := h
    have hsub := sub_enumerate
    have hL : Heap.IsTuple (Shared.heap ⟨hp, g, d, tk, os⟩) l items := ⟨_, hl, rfl, n, rfl⟩
    wp_walk using AutoSeq1.wpAny_loadPart' hl
    refine wpAny_stack_any fun st => wpAny_pure ?_
    split
    · rename_i c _ _ _ _ _
      cases (c == Value.type "enumerate")
      · wp_walk using AutoSeq1.wpAny_loadPart' hl, wpAny_pyIter_tuple hL
        exact ⟨_, rfl, h⟩
      · wp_walk using AutoSeq1.wpAny_loadPart' hl, wpAny_pyIter_tuple hL
        exact ⟨_, rfl, h⟩
    · wp_walk using AutoSeq1.wpAny_loadPart' hl, wpAny_pyIter_tuple hL
      exact ⟨_, rfl, h⟩
theorem call_enumerate_tup {prog : Program} {w : World} {A : Around} {E : Value → Shared → Prop} {s : Shared} {l : Addr} {items : Array Value} {Q : Value → Shared → Prop} (hL : s.heap.IsTuple l items)
    (h : ∀ h', IsEnum h' (s.heap.objs.size + 1) s.heap.objs.size 0 .none → h'.IsTupleIter s.heap.objs.size l 0 → h'.objs.size = s.heap.objs.size + 2 →
      (∀ b o, s.heap.get? b = some o → h'.get? b = some o) → Q (.ref (s.heap.objs.size + 1)) { s with heap := h' }) :
    wpAny (model prog w) A (call (.type "enumerate") [.ref l]) Q E s := by
  obtain ⟨⟨c, dct, dt, sl⟩, hl, hc, n, hd⟩ := hL
  replace hc : c = .type "tuple" := hc
  replace hd : dt = .seq items n := hd
  subst hc hd
  refine callType_new F.called_enumerate (by decide) (F.typeCall_enumerate_1 _) (F.newCall_enumerate_1 _) (fun obj => F.args_object_init_2 obj _) F.entry_enumerate_new
    (meets_enumerate_newT l items n dct sl) ⟨hl, ?_⟩
  have hz : (s.heap.push { cls := .type "tuple_iterator", data := .fields #[.ref l, .int 0 0] }).objs.size = s.heap.objs.size + 1 := Heap.size_push ..
  show _ ∧ _
  rw [hz]
  have he : IsEnum ((s.heap.push { cls := .type "tuple_iterator", data := .fields #[.ref l, .int 0 0] }).push
      { cls := .type "enumerate", data := .fields #[.none, .bool false, .ref s.heap.objs.size, rawInt 0, .none, .none] }) (s.heap.objs.size + 1) s.heap.objs.size 0 .none := by
    have := Heap.get?_push_size (s.heap.push { cls := .type "tuple_iterator", data := .fields #[.ref l, .int 0 0] })
      (o := { cls := .type "enumerate", data := .fields #[.none, .bool false, .ref s.heap.objs.size, rawInt 0, .none, .none] }) rfl
    rw [hz] at this; exact this
  refine ⟨⟨_, he, rfl⟩, h _ he ⟨_, Heap.get?_push_of_some _ (Heap.get?_push_size _ rfl), rfl, rfl⟩ (by rw [Heap.size_push, hz]) fun b o x => Heap.get?_push_of_some _ (Heap.get?_push_of_some _ x)⟩
theorem turn_enumT {P : Program} {w : World} {K : PySem.W.Frag} {elts : List Expr} {kk : Nat} {tpos : Pos} (a e it : Addr) :
    Turn P w K (.Tuple elts kk tpos) (ItET K a) [e, it] e (fun i h => (∃ old, IsEnum h e it ((i : Nat) : Int) old) ∧ h.IsTupleIter it a i ∧ e ≠ it ∧ a ≠ it ∧ a ≠ e) where
  mem := by simp
  obj := fun i h st b hb => by
    obtain ⟨⟨old, he⟩, ⟨o, ho, hc, hd⟩, _⟩ := st
    have e' : b = e ∨ b = it := by simpa using hb
    rcases e' with z | z
    · rw [z]; exact ⟨_, he, fun v q => nomatch q⟩
    · rw [z]; exact ⟨o, ho, fun v q => by rw [hd] at q; cases q⟩
  keep := fun i h h' st k => by
    obtain ⟨⟨old, he⟩, ⟨o, ho, r⟩, hne⟩ := st
    exact ⟨⟨old, k e (by simp) _ he⟩, ⟨o, k it (by simp) o ho, r⟩, hne⟩
  item := by
    intro X hP hw hK hc i pins s σ H E I hf st hg
    subst hP hw hK
    obtain ⟨⟨old, he⟩, hit, hne, hai, hae⟩ := st
    obtain ⟨xs, x, hq, hx⟩ := hg
    obtain ⟨its, rv, p, hz⟩ := I.tuple hq
    obtain ⟨u, hu, ru⟩ := rv.get hx
    have hel : e < s.heap.objs.size := Heap.lt_size he
    have hil : it < s.heap.objs.size := by obtain ⟨_, q, _⟩ := hit; exact Heap.lt_size q
    have hh : X.A.in1.handled = none := I.ok.hd hc
    have pT : s.heap.IsTuple a its.toArray := p
    have hlt : i < its.toArray.size := by
      have := (List.getElem?_eq_some_iff.mp hu).1
      simpa using this
    refine wpAny_pyNext_enum_itemC (Draws.tuple hh it a hai its.toArray) he ⟨hit, pT⟩ hlt hne (by simp [hne, Ne.symm hae]) fun v h' tk hP ho hit' hT hsz hk => ?_
    have ev : v = u := by
      have hP' : its.toArray[i]? = some v := hP
      rw [List.getElem?_toArray, hu] at hP'
      exact (Option.some.inj hP').symm
    subst ev
    refine ⟨_, rfl, wpAny_letOwnedTupleGo_enum (s := { s with heap := h', toks := tk + 1 }) ho fun h'' he' sb => ?_⟩
    have hT2 : h''.get? s.heap.objs.size = some { cls := .type "tuple", data := .seq #[.int i tk, v] } := (sb.2 _ (Nat.ne_of_gt hel)).trans hT
    have new : ObjOk X.prog X.w (upd H s.heap.objs.size (.tup [.int (i : Nat), x])) h'' s.heap.objs.size (.tup [.int (i : Nat), x]) :=
      ⟨by show 2 ≤ sizeLine; decide, [.int i tk, v], .cons ⟨_, rfl⟩ (.cons ru .nil), ⟨_, hT2, rfl, _, rfl⟩⟩
    have I1 : Inv X pins σ (upd H s.heap.objs.size (.tup [.int (i : Nat), x])) { s with heap := h'', toks := tk + 1 } :=
      I.turnedNew (ch := [e, it]) (fun b ob hb q => (sb.2 b (fun z => hb (by simp [z]))).trans (hk b ob (fun z => hb (by simp [z])) (fun z => hb (by simp [z])) q)) hf (Nat.le_refl _) new
    refine ⟨.ref s.heap.objs.size, _, I1, rfl, ⟨_, x, rfl, I.hok.fresh (Nat.le_refl _), rfl, fun ys hy => by rw [I.tuple_inj hy hq]; exact hx⟩, ⟨⟨v, ?_⟩, ?_, hne, hai, hae⟩, fun b hb => ?_⟩
    · have e1 : ((i + 1 : Nat) : Int) = (i : Int) + 1 := by omega
      rw [e1]; exact he'
    · obtain ⟨⟨o, ho', r⟩, _⟩ := hit'
      exact ⟨o, (sb.2 it (Ne.symm hne)).trans ho', r⟩
    · have hb' : b < s.heap.objs.size := by
        have e' : b = e ∨ b = it := by simpa using hb
        rcases e' with z | z
        · rw [z]; exact hel
        · rw [z]; exact hil
      rw [upd_ne (Nat.ne_of_lt hb')]
      exact (hf b hb).1
  done := by
    intro X hP hw hK hc i pins s σ H E I hf st hg
    subst hP hw hK
    obtain ⟨⟨old, he⟩, hit, hne, hai, hae⟩ := st
    obtain ⟨xs, hq, hx⟩ := hg
    obtain ⟨its, rv, p, hz⟩ := I.tuple hq
    have hl := rv.length
    have pT : s.heap.IsTuple a its.toArray := p
    have hh : X.A.in1.handled = none := I.ok.hd hc
    obtain ⟨f0, f1, f2, f3, f4, f5⟩ := hf it (by simp)
    have D : Draws X.prog X.w X.A.in1 it [it, a] i (fun _ _ => True) (fun j h => j = i ∧ h.IsTupleIter it a i ∧ h.IsTuple a its.toArray) :=
      { live := fun _ _ st => let ⟨o, ho, _⟩ := st.2.1; ⟨o, ho⟩
        frame := fun _ _ _ st hk => ⟨st.1, st.2.1.at fun o e => hk it (by simp) o e, st.2.2.at fun o e => hk a (by simp) o e⟩
        item := fun j s Q E hj st hQ => absurd st.1 (Nat.ne_of_lt hj)
        done := fun s Q E st hE => wpAny_nextOf_tuple_end hh st.2.1 st.2.2 (by simp; omega) hE }
    exact wpAny_pyNext_enum_endD D he ⟨rfl, hit, pT⟩ fun h' eb => ⟨rfl, I.turned (t' := s.toks) (fun b o hb q => eb b o hb q) f0 f1 f3 f4 f5⟩
  self := fun A i s Q E st h => let ⟨⟨_, he⟩, _⟩ := st; wpAny_pyIter_enum he h
def iEnumT (K : PySem.W.Frag) (ta : TA) : TI := fun σ H R => ta σ H fun vs H1 => ∃ a xs, vs = [.ref a] ∧ SqT K H1 a xs ∧ R (ItET K a) H1
theorem pi_enumT {X : Cx} {e : Expr} {ta : TA} {p pos tpos : Pos} {elts : List Expr} {kk : Nat} (hg : Gl X "enumerate") (hm : X.mg "enumerate" = none) (ha : PA X [e] ta) (hs : starEach [e] X.env = [(false, eval e X.env)] := by rfl) :
    PI X (.Tuple elts kk tpos) (.Call (.Name "enumerate" p) [e] [] pos) (iEnumT X.K ta) := by
  refine ⟨fun pins s σ H R I h => ?_⟩
  refine Call_ (ld_blt I hg hm boot_enumerate (PyProof.Rows.callWith_type1 (thn (ha.run pos pins s σ H _ I h) fun us s1 ⟨vs, H1, I1, r1, q1⟩ => ?_) hs rfl))
  obtain ⟨a, xs, ex, hq, q⟩ := q1
  subst ex
  cases r1 with
  | cons r rr =>
    cases rr
    cases r
    obtain ⟨its, rv, p', hz⟩ := I1.tuple hq
    have pT : s1.heap.IsTuple a its.toArray := p'
    have hlt : a < s1.heap.objs.size := by obtain ⟨o, ho, _⟩ := pT; exact Heap.lt_size ho
    refine call_enumerate_tup pT fun h' he hit hsz hk => wpAny_pyIter_enum he ?_
    have I2 : Inv X pins σ H1 { s1 with heap := h' } := I1.kept (t' := s1.toks) hk
    refine ⟨s1.heap.objs.size + 1, [s1.heap.objs.size + 1, s1.heap.objs.size], _, _, H1, rfl, I2, turn_enumT a (s1.heap.objs.size + 1) s1.heap.objs.size, ⟨⟨.none, he⟩, hit, Nat.succ_ne_self _, Nat.ne_of_lt hlt, Nat.ne_of_lt (Nat.lt_succ_of_lt hlt)⟩, fun b hb => ?_, q⟩
    have e' : b = s1.heap.objs.size + 1 ∨ b = s1.heap.objs.size := by simpa using hb
    have hle : s1.heap.objs.size ≤ b := by
      rcases e' with z | z
      · rw [z]; exact Nat.le_add_right _ _
      · rw [z]; exact Nat.le_refl _
    exact I1.fpOk hle (I1.hok.fresh hle)
/-- a list or a tuple, enumerated -/
def iEnumQ (K : PySem.W.Frag) (ta : TA) : TI := fun σ H R => iEnum K ta σ H R ∨ iEnumT K ta σ H R
theorem pi_enumQ {X : Cx} {e : Expr} {ta : TA} {p pos tpos : Pos} {elts : List Expr} {kk : Nat} (hg : Gl X "enumerate") (hm : X.mg "enumerate" = none) (ha : PA X [e] ta) (hs : starEach [e] X.env = [(false, eval e X.env)] := by rfl) :
    PI X (.Tuple elts kk tpos) (.Call (.Name "enumerate" p) [e] [] pos) (iEnumQ X.K ta) := by
  refine ⟨fun pins s σ H R I h => ?_⟩
  rcases h with h | h
  · exact (pi_enum hg hm ha hs).run pins s σ H R I h
  · exact (pi_enumT hg hm ha hs).run pins s σ H R I h
theorem walk_enumT {K : PySem.W.Frag} {a : Addr} {xs : List V} : Walk (ItET K a) xs.length (fun H => SqT K H a xs) (YPair (fun i => some (.int (i : Nat))) (fun i => xs[i]?)) := by
  refine ⟨fun i _ hi q => ⟨xs, xs[i], q, by simp [hi]⟩, fun _ q => ⟨xs, q, Nat.le_refl _⟩, fun i H v H' _ q y => ?_⟩
  obtain ⟨T, x, h1, h2, h3, h4⟩ := y
  exact ⟨T, .int (i : Nat), x, h1, h2, h3, rfl, h4 xs q⟩
theorem walk_enumS {x : Str} : Walk (ItES x) x.cps.size (fun _ => True) (fun i H v H' => ∃ T c, v = .ref T ∧ H T = none ∧ H' = upd H T (.tup [.int (i : Nat), .str ⟨#[c]⟩]) ∧ x.cps[i]? = some c) :=
  ⟨fun _ _ hi _ => hi, fun _ _ => Nat.le_refl _, fun _ _ _ _ _ _ y => y⟩
end Lx

set_option maxRecDepth 100000
set_option maxHeartbeats 4000000
namespace Lx
open PySem PySem.Spec PyProof.Rows L2
/-- n turns, each a new tuple whose items are as f says -/
def ItTup (n : Nat) (f : Nat → List V → Prop) : It :=
  ⟨fun i _ => i < n, fun i H v H' => ∃ T xs, v = .ref T ∧ H T = none ∧ H' = upd H T (.tup xs) ∧ f i xs, fun i _ => n ≤ i⟩
theorem turn_tuples {P : Program} {w : World} {K : PySem.W.Frag} {elts : List Expr} {kk : Nat} {tpos : Pos} {it : Addr} {fp wr : List Addr} {n : Nat} {Pt : Nat → Array Value → Prop} {St : Nat → Heap → Prop} {Mid : Nat → Addr → Heap → Prop} {f : Nat → List V → Prop}
    (Wk : ∀ A : Around, A.in1.handled = none → WalksT P w A it fp wr n Pt St Mid) (hrel : ∀ i vals, Pt i vals → ∃ xs, Vals xs vals.toList ∧ f i xs ∧ xs.length ≤ 8)
    (hobj : ∀ i h, St i h → ∀ b ∈ fp, ∃ o, h.get? b = some o ∧ ∀ v, o.data ≠ .cell v) (hmem : it ∈ fp)
    (hself : ∀ (A : Around) (i : Nat) (s : Shared) (Q : Value → Shared → Prop) (E : Value → Shared → Prop), St i s.heap → Q (.ref it) s → wpAny (model P w) A (pyIter (.ref it)) Q E s) :
    Turn P w K (.Tuple elts kk tpos) (ItTup n f) fp it (fun i h => St i h ∧ i ≤ n) where
  mem := hmem
  obj := fun i h st => hobj i h st.1
  keep := fun i h h' st k => ⟨(Wk {} rfl).frame i h h' st.1 k, st.2⟩
  item := by
    intro X hP hw hK hc i pins s σ H E I hf st hg
    subst hP hw hK
    have hh : X.A.in1.handled = none := I.ok.hd hc
    have hlt : i < n := hg
    refine (GoesN.ofWalksT (elts := elts) (k := kk) (pos := tpos) (Wk X.A hh)).goes i s _ _ hlt st.1 fun v h' tk hY st' hk htk => ?_
    obtain ⟨T, vals, rfl, hnew, hPt, hT⟩ := hY
    obtain ⟨xs, rv, hfx, hl⟩ := hrel i vals hPt
    have new : ObjOk X.prog X.w (upd H T (.tup xs)) h' T (.tup xs) := ⟨Nat.le_trans hl (by decide), vals.toList, rv, by rw [Array.toArray_toList]; exact hT⟩
    have I1 : Inv X pins σ (upd H T (.tup xs)) { s with heap := h', toks := tk } :=
      I.turnedNew (ch := fp) (fun b ob hb q => hk b ob (fun z => hb ((Wk X.A hh).sub b z)) q) hf hnew new
    refine ⟨.ref T, _, I1, rfl, ⟨T, xs, rfl, I.hok.fresh hnew, rfl, hfx⟩, ⟨st', hlt⟩, fun b hb => ?_⟩
    have hb' : b < s.heap.objs.size := by obtain ⟨o, ho, _⟩ := hobj i _ st.1 b hb; exact Heap.lt_size ho
    rw [upd_ne (Nat.ne_of_lt (Nat.lt_of_lt_of_le hb' hnew))]
    exact (hf b hb).1
  done := by
    intro X hP hw hK hc i pins s σ H E I hf st hg
    subst hP hw hK
    have hh : X.A.in1.handled = none := I.ok.hd hc
    have hge : n ≤ i := hg
    have hi : i = n := Nat.le_antisymm st.2 hge
    subst hi
    refine (Wk X.A hh).done s _ _ st.1 fun h' tk hk => ⟨rfl, ?_⟩
    exact I.turnedL (ch := fp) (fun c o hb q => hk c o (fun z => hb ((Wk X.A hh).sub c z)) q) hf
  self := fun A i s Q E st h => hself A i s Q E st.1 h
theorem walk_tuples {n : Nat} {f : Nat → List V → Prop} : Walk (ItTup n f) n (fun _ => True) (fun i H v H' => ∃ T xs, v = .ref T ∧ H T = none ∧ H' = upd H T (.tup xs) ∧ f i xs) :=
  ⟨fun _ _ hi _ => hi, fun _ _ => Nat.le_refl _, fun _ _ _ _ _ _ y => y⟩
/-! zip of two texts -/
def zipF (x y : Str) : Nat → List V → Prop := fun i xs => ∃ c d, x.cps[i]? = some c ∧ y.cps[i]? = some d ∧ xs = [.str ⟨#[c]⟩, .str ⟨#[d]⟩]
def iZipS (ta : TA) : TI := fun σ H R => ta σ H fun vs H1 => ∃ x y, vs = [.str x, .str y] ∧ R (ItTup (min x.cps.size y.cps.size) (zipF x y)) H1
theorem pi_zipS {X : Cx} {e e2 : Expr} {ta : TA} {p pos tpos : Pos} {elts : List Expr} {kk : Nat} (hg : Gl X "zip") (hm : X.mg "zip" = none) (ha : PA X [e, e2] ta)
    (hs : starEach [e, e2] X.env = (false, eval e X.env) :: starEach [e2] X.env := by rfl) (hpl : (backTo pos (starEach [e2] X.env)).any (·.1) = false := by rfl) :
    PI X (.Tuple elts kk tpos) (.Call (.Name "zip" p) [e, e2] [] pos) (iZipS ta) := by
  refine ⟨fun pins s σ H R I h => ?_⟩
  refine Call_ (ld_blt I hg hm PyProof.Rows.boot_zip (PyProof.Rows.callWith_type1 (thn (ha.run pos pins s σ H _ I h) fun us s1 ⟨vs, H1, I1, r1, q1⟩ => ?_) hs hpl))
  obtain ⟨x, y, ex, q⟩ := q1
  subst ex
  cases r1 with
  | cons r rr =>
    cases rr with
    | cons r' rr =>
      cases rr
      obtain ⟨t, rfl⟩ := r
      obtain ⟨t', rfl⟩ := r'
      refine zip_begins2 (begins_text x t) (begins_text y t') trivial trivial fun h' hz hTI hTO h1 h2 hsz hk => wpAny_pyIter_zip hz ?_
      have I2 : Inv X pins σ H1 { s1 with heap := h' } := I1.kept (t' := s1.toks) hk
      have sep := zip_sep2 (N := s1.heap.objs.size) (fp1 := []) (fp2 := []) (fun b hb => nomatch hb) (fun b hb => nomatch hb)
      have tn := turn_tuples (P := X.prog) (w := X.w) (K := X.K) (elts := elts) (kk := kk) (tpos := tpos) (f := zipF x y)
        (fun A hh => WalksT.zipD2 sep (Draws.text (prog := X.prog) (w := X.w) hh s1.heap.objs.size x t) (Draws.text (prog := X.prog) (w := X.w) hh (s1.heap.objs.size + 1) y t'))
        (fun i vals hv => by
          obtain ⟨x1, x2, ⟨c, u, hc, rfl⟩, ⟨d, u', hd, rfl⟩, rfl⟩ := hv
          exact ⟨[.str ⟨#[c]⟩, .str ⟨#[d]⟩], .cons ⟨_, rfl⟩ (.cons ⟨_, rfl⟩ .nil), ⟨c, d, hc, hd, rfl⟩, by show 2 ≤ 8; decide⟩)
        (fun i h st b hb => by
          obtain ⟨z1, z2, ⟨a1, a2, z3⟩, ⟨o1, e1, _, d1⟩, ⟨o2, e2, _, d2⟩⟩ := st
          have e' : b = s1.heap.objs.size + 4 ∨ b = s1.heap.objs.size + 2 ∨ b = s1.heap.objs.size + 3 ∨ b = s1.heap.objs.size ∨ b = s1.heap.objs.size + 1 := by simpa using hb
          rcases e' with q | q | q | q | q
          · rw [q]; exact ⟨_, z1, fun v q => nomatch q⟩
          · rw [q]; exact ⟨_, z2, fun v q => nomatch q⟩
          · rw [q]; exact ⟨_, z3, fun v q => nomatch q⟩
          · rw [q]; exact ⟨o1, e1, fun v q => by rw [d1] at q; cases q⟩
          · rw [q]; exact ⟨o2, e2, fun v q => by rw [d2] at q; cases q⟩)
        (by simp) (fun A i s Q E st h => wpAny_pyIter_zip st.1 h)
      refine ⟨s1.heap.objs.size + 4, _, _, _, H1, rfl, I2, tn, ⟨⟨hz, hTI, ⟨_, _, hTO⟩, ⟨_, h1, rfl, rfl⟩, ⟨_, h2, rfl, rfl⟩⟩, Nat.zero_le _⟩, fun c hcm => ?_, q⟩
      have e' : c = s1.heap.objs.size + 4 ∨ c = s1.heap.objs.size + 2 ∨ c = s1.heap.objs.size + 3 ∨ c = s1.heap.objs.size ∨ c = s1.heap.objs.size + 1 := by simpa using hcm
      have hle : s1.heap.objs.size ≤ c := by
        rcases e' with z | z | z | z | z
        · rw [z]; exact Nat.le_add_right _ _
        · rw [z]; exact Nat.le_add_right _ _
        · rw [z]; exact Nat.le_add_right _ _
        · rw [z]; exact Nat.le_refl _
        · rw [z]; exact Nat.le_add_right _ _
      exact I1.fpOk hle (I1.hok.fresh hle)
/-! text * int -/
section
variable {X : Cx}
theorem op_rep_str : OpR X (binaryOp .Mult) (fun x y H Q => ∃ (z : Str) (n : Int), x = .str z ∧ y = .int n ∧ n < 2 ^ 20 ∧ -(2 ^ 20) < n ∧ z.length * n.toNat ≤ 100000 ∧ Q (.str (Txt.mul z n)) H) := by
  intro pins s σ H x y u v Q I rx ry h
  obtain ⟨z, n, rfl, rfl, h1, h2, h3, q⟩ := h
  obtain ⟨t, rfl⟩ := rx
  obtain ⟨t', rfl⟩ := ry
  refine SB.mul ⟨?_, fun a b => ?_, fun a b => ?_⟩ fun t' k => ⟨.str (Txt.mul z n), H, I.tok _, ⟨_, rfl⟩, q⟩
  · rw [decide_eq_false (by omega), decide_eq_false (by omega)]; rfl
  · have e1 : ((z.length : Int)) ≤ 100000 := by
      have : z.length * 1 ≤ z.length * n.toNat := Nat.mul_le_mul_left _ (by omega)
      omega
    have e2 : (100000 : Int) ≤ (2 ^ 63 - 1) / n := by
      refine (Int.le_ediv_iff_mul_le (by omega)).mpr ?_
      omega
    omega
  · show decide (z.length * n.toNat > sizeLine) = false
    exact decide_eq_false (Nat.not_lt.mpr (Nat.le_trans h3 (by decide)))
end
/-! a class made without arguments; a def called without; a property -/
open C8 in
theorem pe_mk0 {X : Cx} {k j : Nat} {C : Addr} {x : Str} {sp : Sp} {dvs : List V} {p pos : Pos} (c : Mak X.prog X.w X.K X.mg X.base k x C sp dvs) (hr : Room j X.A) (hk : k + 1 ≤ j) (hg : Gl X x) (hdb : (x == ("__debug__" : Str)) = false := by decide) :
    PE X (.Call (.Name x p) [] [] pos) (tMake C sp dvs C8.E0 tNil) := by
  obtain ⟨f, fd, ps, ds, M, F, hm, b, d⟩ := c.ex
  exact pe_make0 M F (hr.mono hk) hg hm b d C8.pass0 hdb
open C8 in
theorem pe_c0 {X : Cx} {k j : Nat} {x : Str} {sp : Sp} {dvs : List V} {p pos : Pos} (c : Cal X.prog X.w X.K X.mg X.base k x sp dvs) (hr : Room j X.A) (hk : k ≤ j) (hg : Gl X x) (hdb : (x == ("__debug__" : Str)) = false := by decide) :
    PE X (.Call (.Name x p) [] [] pos) (tCall sp dvs C8.E0 tNil) := by
  obtain ⟨f, fd, ps, ds, F, hm, kp, b, d⟩ := c.ex
  exact pe_call0 F (hr.mono hk) hg hm kp b d C8.pass0 hdb
/-- a property of the class at C -/
structure Prp (P : Program) (w : World) (K : PySem.W.Frag) (mg : Str → Option Value) (base : Heap) (k : Nat) (C : Addr) (m : Str) (sp : Sp) : Prop where
  ex : ∃ (p f : Addr) (fd : FuncData) (ps : List Str), Cls K C ∧ PropOf K C m p f ∧ FnOk P w K mg base C8.CX0 k f fd ps sp ∧ Binds K fd ps []
theorem pe_pr {X : Cx} {k j : Nat} {C : Addr} {m : Str} {sp : Sp} {e : Expr} {ta : TE} {pos : Pos} (c : Prp X.prog X.w X.K X.mg X.base k C m sp) (hr : Room j X.A) (hk : k + 1 ≤ j) (he : PE X e ta) (hab : attributeBase e m X.env (eval e X.env) = eval e X.env := by rfl) :
    PE X (.Attribute e m pos) (tProp C sp [] C8.E0 ta) := by
  obtain ⟨p, f, fd, ps, hc, hp, F, b⟩ := c.ex
  exact pe_prop he hc hp F (hr.mono hk) b .nil C8.pass0 hab
end Lx

set_option maxRecDepth 100000
set_option maxHeartbeats 4000000
/-! sorted of pairs of texts -/
namespace SrT
open PySem PyProof.Rows SrtO
def IsTT (h : Heap) (v : Value) (x y : Str) : Prop := ∃ a o t u n, v = .ref a ∧ h.get? a = some o ∧ o.cls = .type "tuple" ∧ o.data = .seq #[.str x t, .str y u] n
theorem IsTT.keeps {h h' : Heap} {v : Value} {x y : Str} (p : IsTT h v x y) (k : ∀ b o, h.get? b = some o → o.cls = .type "tuple" → h'.get? b = some o) : IsTT h' v x y := by
  obtain ⟨a, o, t, u, n, e, ho, hc, hd⟩ := p
  exact ⟨a, o, t, u, n, e, k _ _ ho hc, hc, hd⟩
def lexT (p q : Str × Str) : Bool := if p.1 = q.1 then decide (p.2.cps.toList < q.2.cps.toList) else decide (p.1.cps.toList < q.1.cps.toList)
theorem str_of {a b : Str} (h : a.cps.toList = b.cps.toList) : a = b := TL.ext_tl h
theorem tri {a b : Str} (h1 : ¬ a.cps.toList < b.cps.toList) (h2 : ¬ b.cps.toList < a.cps.toList) : a = b :=
  str_of (List.le_antisymm (List.not_lt.mp h2) (List.not_lt.mp h1))
theorem lexT_no {p q : Str × Str} : lexT p q = false ↔ q.1.cps.toList < p.1.cps.toList ∨ (p.1 = q.1 ∧ ¬ p.2.cps.toList < q.2.cps.toList) := by
  unfold lexT
  by_cases e : p.1 = q.1
  · rw [if_pos e, decide_eq_false_iff_not]
    constructor
    · intro h; exact .inr ⟨e, h⟩
    · rintro (h | h)
      · rw [e] at h; exact absurd h (List.lt_irrefl _)
      · exact h.2
  · rw [if_neg e, decide_eq_false_iff_not]
    constructor
    · intro h
      by_cases c : q.1.cps.toList < p.1.cps.toList
      · exact .inl c
      · exact absurd (tri h c) e
    · rintro (h | h)
      · exact List.lt_asymm h
      · exact absurd h.1 e
theorem lexT_yes {p q : Str × Str} : lexT p q = true ↔ p.1.cps.toList < q.1.cps.toList ∨ (p.1 = q.1 ∧ p.2.cps.toList < q.2.cps.toList) := by
  unfold lexT
  by_cases e : p.1 = q.1
  · rw [if_pos e, decide_eq_true_eq]
    constructor
    · intro h; exact .inr ⟨e, h⟩
    · rintro (h | h)
      · rw [e] at h; exact absurd h (List.lt_irrefl _)
      · exact h.2
  · rw [if_neg e, decide_eq_true_eq]
    constructor
    · intro h; exact .inl h
    · rintro (h | h)
      · exact h
      · exact absurd h.1 e
theorem swo_T {α : Type} (k : α → Str × Str) : Swo fun v u => lexT (k v) (k u) := by
  refine ⟨fun x y h => ?_, fun x y z h1 h2 => ?_⟩
  · rcases lexT_yes.mp h with a | ⟨a, b⟩
    · exact lexT_no.mpr (.inl a)
    · exact lexT_no.mpr (.inr ⟨a.symm, List.lt_asymm b⟩)
  · refine lexT_no.mpr ?_
    rcases lexT_no.mp h1 with a | ⟨a, b⟩ <;> rcases lexT_no.mp h2 with c | ⟨c, d⟩
    · exact .inl (List.lt_trans a c)
    · rw [← c] at a; exact .inl a
    · rw [a] at c; exact .inl c
    · refine .inr ⟨c.trans a, fun hz => ?_⟩
      by_cases e : (k y).2.cps.toList < (k x).2.cps.toList
      · exact b e
      · by_cases g : (k z).2 = (k y).2
        · rw [g] at hz; exact b hz
        · by_cases i : (k y).2.cps.toList < (k z).2.cps.toList
          · exact b (List.lt_trans i hz)
          · exact g (tri d i)
section
variable {prog : Program} {w : World} {A : Around} {E : Value → Shared → Prop} {s : Shared}
theorem tt_cmp {vs : List Value} {k : Value → Str × Str} (hp : ∀ v ∈ vs, IsTT s.heap v (k v).1 (k v).2) : Cmp prog w A s (tuples' true) (fun p => p.1 ∈ vs) (lt2 fun v u => lexT (k v) (k u)) := by
  intro p q hm hm'
  have h1 := hp _ hm
  have h2 := hp _ hm'
  show wpAny (model prog w) A (keyLt' (tuples' true) p.1 q.1) (fun r s' => s' = s ∧ r = lexT (k p.1) (k q.1)) (fun _ _ => False) s
  unfold lexT
  generalize (k p.1).1 = x at h1 ⊢
  generalize (k p.1).2 = y at h1 ⊢
  generalize (k q.1).1 = x' at h2 ⊢
  generalize (k q.1).2 = y' at h2 ⊢
  obtain ⟨a, o, t, u, n, e, ho, hc, hd⟩ := h1
  obtain ⟨a', o', t', u', n', e', ho', hc', hd'⟩ := h2
  rw [e, e']
  refine PySem.W.kat_lt ho hd ho' hd' ?_
  show PySem.W.KatLex prog w A true (decide (2 < 2)) _ [(.str x t, .str x' t'), (.str y u, .str y' u')] 0 s
  refine PySem.W.kat_cons (SeqAt.EqAt.str_str x t x' t' prog w _ _ ?_)
  refine PySem.W.kat_go (fun e1 => ?_) (fun e1 => ?_)
  · have ex : x = x' := by simpa using e1
    refine PySem.W.kat_yes (PySem.W.kat_cons (SeqAt.EqAt.str_str y u y' u' prog w _ _ ?_))
    refine PySem.W.kat_go (fun e2 => ?_) (fun e2 => ?_)
    · have ey : y = y' := by simpa using e2
      have e3 : (if x = x' then decide (y.cps.toList < y'.cps.toList) else decide (x.cps.toList < x'.cps.toList)) = false := by
        rw [if_pos ex, ey]
        exact decide_eq_false (List.lt_irrefl _)
      exact PySem.W.kat_yes (PySem.W.kat_nil ⟨rfl, e3.symm⟩)
    · have e3 : (if x = x' then decide (y.cps.toList < y'.cps.toList) else decide (x.cps.toList < x'.cps.toList)) = decide (y.cps.toList < y'.cps.toList) := if_pos ex
      refine PySem.W.kat_no (PySem.W.kat_one _ _ (PyProof.Rows.lt_str ?_))
      exact (show s = s ∧ decide (y.cps.toList < y'.cps.toList) = (if x = x' then decide (y.cps.toList < y'.cps.toList) else decide (x.cps.toList < x'.cps.toList)) from ⟨rfl, e3.symm⟩)
  · have ex : ¬ x = x' := by simpa using e1
    have e3 : (if x = x' then decide (y.cps.toList < y'.cps.toList) else decide (x.cps.toList < x'.cps.toList)) = decide (x.cps.toList < x'.cps.toList) := if_neg ex
    exact PySem.W.kat_no (oneLt_str ⟨rfl, e3.symm⟩)
theorem firsts_T {h : Heap} : ∀ {vs : List Value}, (∀ v ∈ vs, ∃ x y, IsTT h v x y) → ∃ fs : List Value, PySem.W.KatTups h vs fs ∧ fs.length = vs.length ∧ ∀ f ∈ fs, ∃ x t, f = Value.str x t
  | [], _ => ⟨[], PySem.W.KatTups.nil, rfl, fun _ hm => by simp at hm⟩
  | v :: vs, hp => by
    obtain ⟨fs, h1, h2, h3⟩ := firsts_T (vs := vs) fun v' hm => hp v' (List.mem_cons_of_mem _ hm)
    obtain ⟨x, y, a, o, t, u, n, e, ho, hc, hd⟩ := hp v (List.mem_cons_self ..)
    subst e
    refine ⟨.str x t :: fs, PySem.W.KatTups.cons ho hc hd rfl h1, by rw [List.length_cons, List.length_cons, h2], fun f hm => ?_⟩
    rcases List.mem_cons.mp hm with rfl | hm
    · exact ⟨x, t, rfl⟩
    · exact h3 f hm
theorem tt_sortable {a : Addr} {vs : List Value} {k : Value → Str × Str} (h0 : 0 < vs.length) (hp : ∀ v ∈ vs, IsTT s.heap v (k v).1 (k v).2) (ha : ∀ o, s.heap.get? a = some o → o.cls ≠ .type "tuple") : SortableO prog w A s a vs fun v u => lexT (k v) (k u) := by
  intro h' keep
  have hp' : ∀ v ∈ vs, IsTT h' v (k v).1 (k v).2 := fun v hm => (hp v hm).keeps fun b o e c => keep b o (fun z => by subst z; exact ha o e c) e
  obtain ⟨fs, h1, h2, h3⟩ := firsts_T fun v hm => ⟨_, _, hp' v hm⟩
  refine ⟨tuples' true, fun Q E hq => ?_, tt_cmp hp'⟩
  refine PySem.W.kat_kind (T := .type "str") h1 (by omega) (fun f hm => ?_) (by rfl) ?_
  · obtain ⟨x, t, rfl⟩ := h3 f hm
    exact PySem.W.Looks.now
  · have e : (Value.type "str" != Value.type "tuple") = true := by first | decide +kernel | rfl | decide
    rw [e]
    exact hq
theorem collect_tup {l : Addr} {vs : List Value} {Q : List Value → Shared → Prop} (hl : s.heap.IsTuple l vs.toArray)
    (h : Q vs { s with heap := (s.heap.push (seqObj "list" #[] 0)).update s.heap.objs.size (Obj.mapSeq (· ++ vs.toArray)) }) (hsz : vs.length ≤ sizeLine) :
    wpAny (model prog w) A (collect (.ref l)) Q E s := by
  obtain ⟨o, ho, hc, n, hd⟩ := id hl
  unfold collect
  refine wpAny_bind (wpAny_runValue (codeAny_builtin entry_proto_collect' ?_))
  show wpAny _ _ (do again (.builtin "list.__iadd__" ⟨[← newList [], .ref l], []⟩)) _ _ s
  refine wpAny_bind (wpAny_newList (wpAny_pure ⟨Code.quiet_builtin _ (by decide +kernel), codeAny_builtin entry_list_iadd' ?_⟩))
  show wpAny _ _ (Builtin.List.listExtendWith (.ref s.heap.objs.size) (.ref l) (.ref s.heap.objs.size)) _ _ { s with heap := s.heap.push (seqObj "list" #[] 0) }
  unfold Builtin.List.listExtendWith
  have ho' : (s.heap.push (seqObj "list" #[] 0)).get? l = some o := Heap.get?_push_of_some _ ho
  refine wpAny_bind (wpAny_typeOf (T := "tuple") ⟨o, ho', hc⟩ ?_)
  have ht : (Value.type "tuple" == Value.type "tuple") = true := by rfl
  rw [if_pos (by rw [ht]; simp)]
  refine wpAny_bind (listItems_at ho' hd ?_)
  refine wpAny_bind (listItems_at (xs := #[]) (n := 0) (Heap.get?_push_size _ rfl) rfl ?_)
  rw [if_neg (by simp)]
  refine wpAny_bind (listUpdate_at (xs := #[]) (n := 0) (Heap.get?_push_size _ rfl) rfl ?_ (Nat.zero_le _) (by show (#[] ++ vs.toArray).size ≤ sizeLine + 1; simp only [Array.size_append, List.size_toArray, List.length_nil]; omega))
  refine wpAny_pure ?_
  show wpAny (model prog w) A (do
      let o ← load s.heap.objs.size
      match o.data with
      | .seq xs _ => pure xs.toList
      | _ => unsupported "internal:collect") Q E { s with heap := (s.heap.push (seqObj "list" #[] 0)).update s.heap.objs.size (Obj.mapSeq (· ++ vs.toArray)) }
  refine wpAny_bind (wpAny_load (get?_update_seq (Heap.get?_push_size _ rfl) _) ?_)
  show wpAny _ _ (pure ((#[] : Array Value) ++ vs.toArray).toList) Q E _
  rw [show ((#[] : Array Value) ++ vs.toArray).toList = vs by simp]
  exact wpAny_pure h
/-- sorted(x) of what is collected -/
theorem sorted_col {x : Value} {vs : List Value} {ltv : Value → Value → Bool} {Q : Value → Shared → Prop} (O : Swo ltv)
    (hcol : ∀ (A : Around) (E : Value → Shared → Prop) (Q : List Value → Shared → Prop), Q vs { s with heap := (s.heap.push (seqObj "list" #[] 0)).update s.heap.objs.size (Obj.mapSeq (· ++ vs.toArray)) } → wpAny (model prog w) A (collect x) Q E s) (hz : vs.length ≤ sizeLine)
    (hS : 2 ≤ vs.length → ∀ (h₁ : Heap) (a : Addr), h₁.get? a = some (seqObj "list" vs.toArray 0) → (∀ b o, s.heap.get? b = some o → b ≠ a ∧ h₁.get? b = some o) → SortableO prog w A.in1.in1 { s with heap := h₁ } a vs ltv)
    (h : ∀ out : List Value, Srtd ltv out → Stb ltv out vs → Q (.ref (s.heap.objs.size + 1)) { s with heap := sortedAll s.heap vs out.toArray }) :
    wpAny (model prog w) A (call (.builtin "sorted") [x]) Q E s := by
  refine Calls.call_function_entry kind_sorted plain_sorted entry_sorted (args_sorted1 _) ?_
  unfold Builtin.«sorted»
  refine wpAny_bind (m := checkCount "sorted" 1 1 _) (wpAny_pure ?_)
  refine wpAny_bind (hcol _ _ _ ?_)
  refine wpAny_bind (wpAny_newList ?_ hz)
  have hsz : ((s.heap.push (seqObj "list" #[] 0)).update s.heap.objs.size (Obj.mapSeq (· ++ vs.toArray))).objs.size = s.heap.objs.size + 1 := by
    rw [Heap.size_update, size_push']
  have hoL : (((s.heap.push (seqObj "list" #[] 0)).update s.heap.objs.size (Obj.mapSeq (· ++ vs.toArray))).push (seqObj "list" vs.toArray 0)).get? (s.heap.objs.size + 1) = some (seqObj "list" vs.toArray 0) := by
    rw [← hsz]; exact Heap.get?_push_size _ rfl
  have keep : ∀ b o, s.heap.get? b = some o → b ≠ s.heap.objs.size + 1 ∧ (((s.heap.push (seqObj "list" #[] 0)).update s.heap.objs.size (Obj.mapSeq (· ++ vs.toArray))).push (seqObj "list" vs.toArray 0)).get? b = some o := fun b o q => by
    have hlt : b < s.heap.objs.size := Heap.lt_size q
    refine ⟨Nat.ne_of_lt (Nat.lt_succ_of_lt hlt), Heap.get?_push_of_some _ ?_⟩
    rw [Heap.get?_update_ne _ _ _ _ (Nat.ne_of_lt hlt)]
    exact Heap.get?_push_of_some _ q
  show wpAny _ _ _ _ _ { s with heap := ((s.heap.push (seqObj "list" #[] 0)).update s.heap.objs.size (Obj.mapSeq (· ++ vs.toArray))).push (seqObj "list" vs.toArray 0) }
  rw [hsz]
  refine wpAny_bind (wpAny_holding (wpAny_call_entry slot_list_sort ⟨_, hoL, rfl⟩ entry_list_sort (list_sort_ord O hoL hz (fun h2 => hS h2 _ _ hoL keep) fun out hs hb => ⟨_, rfl, ?_⟩) (args_list_sort _)))
  exact wpAny_pure ⟨_, rfl, h out hs hb⟩
end
end SrT
namespace Lx
open PySem PySem.Spec PyProof.Rows L2
/-- sorted(xs), xs a list or a tuple of pairs of texts -/
def rSortedT (K : PySem.W.Frag) : List V → Hp → VK → Prop := fun vs H Q => ∃ (a : Addr) (ps : List Addr) (k : Addr → Str × Str), vs = [V.ref a] ∧ (SqL K H a (ps.map V.ref) ∨ SqT K H a (ps.map V.ref)) ∧ (∀ t ∈ ps, H t = some (.tup [.str (k t).1, .str (k t).2])) ∧
  ∀ (qs : List Addr) p, SrtO.Srtd (fun x y => SrT.lexT (k x) (k y)) qs → qs.Perm ps → H p = none → Q (.ref p) (upd H p (.lst (qs.map V.ref)))
section
variable {X : Cx}
theorem cr_sortedT : CallR X (.builtin "sorted") (rSortedT X.K) := by
  intro pins s σ H vs us Q I r h
  obtain ⟨a, ps, k, rfl, hs, hx, q⟩ := h
  obtain ⟨u, rfl, ru⟩ := vals1 r
  obtain rfl : u = Value.ref a := ru
  have com : ∀ its : List Value, Vals (ps.map V.ref) its → its.length ≤ sizeLine → (∀ (A : Around) (E : Value → Shared → Prop) (Q : List Value → Shared → Prop), Q its { s with heap := (s.heap.push (seqObj "list" #[] 0)).update s.heap.objs.size (Obj.mapSeq (· ++ its.toArray)) } → wpAny (model X.prog X.w) A (collect (.ref a)) Q E s) →
      wpAny (model X.prog X.w) X.A (call (.builtin "sorted") [Value.ref a]) (EP X pins σ Q) X.xe s := by
    intro its rv hz hcol
    have ei : its = ps.map Value.ref := by
      clear hcol hz hx q hs
      induction ps generalizing its with
      | nil => cases rv; rfl
      | cons x l ih =>
        cases rv with
        | cons h1 h2 =>
          rw [List.map_cons, ← ih _ h2]
          congr 1
    subst ei
    have hp : ∀ v ∈ ps.map Value.ref, SrT.IsTT s.heap v (match v with | .ref t => k t | _ => ("", "")).1 (match v with | .ref t => k t | _ => ("", "")).2 := by
      intro v hv
      obtain ⟨t, ht, rfl⟩ := List.mem_map.mp hv
      obtain ⟨_, its2, r2, o, ho, hc, n, hd⟩ := I.hok _ _ (hx t ht)
      obtain ⟨u1, u2, rfl, ri, rj⟩ := vals2 r2
      obtain ⟨t1, rfl⟩ := ri
      obtain ⟨t2, rfl⟩ := rj
      exact ⟨t, o, t1, t2, n, rfl, ho, hc, hd⟩
    refine SrT.sorted_col (SrT.swo_T fun v : Value => match v with | .ref t => k t | _ => ("", "")) hcol hz (fun h2 h₁ b hb kk => ?_) fun out h1 h2 => ?_
    · refine SrT.tt_sortable (s := { s with heap := h₁ }) (by omega) (fun v hm => (hp v hm).keeps fun b o e _ => (kk b o e).2) fun o e => ?_
      have e' : some o = some (seqObj "list" (ps.map Value.ref).toArray 0) := e.symm.trans hb
      cases e'
      intro c
      exact absurd (Value.type.inj c) (by decide)
    · obtain ⟨qs, rfl⟩ : ∃ qs : List Addr, out = qs.map Value.ref := by
        have hm : ∀ v ∈ out, ∃ t, v = Value.ref t := fun v hv => by
          obtain ⟨t, _, e⟩ := List.mem_map.mp (h2.perm.mem_iff.mp hv)
          exact ⟨t, e.symm⟩
        clear h1 h2
        induction out with
        | nil => exact ⟨[], rfl⟩
        | cons v r ih =>
          obtain ⟨t, rfl⟩ := hm v List.mem_cons_self
          obtain ⟨qs, rfl⟩ := ih fun v hv => hm v (List.mem_cons_of_mem _ hv)
          exact ⟨t :: qs, rfl⟩
      have perm : qs.Perm ps := by
        have h3 := h2.perm.map (fun v : Value => match v with | .ref t => t | _ => 0)
        rw [List.map_map, List.map_map] at h3
        have ef : ((fun v : Value => match v with | .ref t => t | _ => 0) ∘ Value.ref) = id := by funext t; rfl
        rw [ef, List.map_id, List.map_id] at h3
        exact h3
      have srt : SrtO.Srtd (fun x y => SrT.lexT (k x) (k y)) qs := List.pairwise_map.mp h1
      obtain ⟨n, hn⟩ := PyProof.Rows.sortedAll_at s.heap (ps.map Value.ref) (qs.map Value.ref).toArray
      have hd : s.heap.objs.size ≤ s.heap.objs.size + 1 := Nat.le_succ _
      have rq : Vals (qs.map V.ref) (qs.map Value.ref) := by
        clear h1 h2 perm srt hn
        induction qs with
        | nil => exact .nil
        | cons x l ih => exact .cons rfl ih
      refine ⟨.ref (s.heap.objs.size + 1), upd H (s.heap.objs.size + 1) (.lst (qs.map V.ref)), I.laid (t' := s.toks) (fun b o e => PyProof.Rows.sortedAll_old e) hd ⟨?_, _, n, rq, hn⟩, rfl, q qs _ srt perm (I.hok.fresh hd)⟩
      rw [List.length_map, perm.length_eq, ← List.length_map (f := Value.ref)]
      exact hz
  rcases hs with hs | hs
  · obtain ⟨its, rv, hl, hz⟩ := I.list hs
    exact com its rv (by rw [← rv.length]; exact hz) fun A E Q h => collect_list hl.isList h (by rw [← rv.length]; exact hz)
  · obtain ⟨its, rv, hl, hz⟩ := I.tuple hs
    exact com its rv (by rw [← rv.length]; exact hz) fun A E Q h => SrT.collect_tup (show s.heap.IsTuple a its.toArray from hl) h (by rw [← rv.length]; exact hz)
/-- a list or a tuple, walked -/
def iSeq (K : PySem.W.Frag) (tl : TE) : TI := fun σ H R => iList K tl σ H R ∨ iTup K tl σ H R
theorem pi_seq {tg l : Expr} {tl : TE} (hl : PE X l tl) : PI X tg l (iSeq X.K tl) := by
  refine ⟨fun pins s σ H R I h => ?_⟩
  rcases h with h | h
  · exact (pi_list hl).run pins s σ H R I h
  · exact (pi_tup hl).run pins s σ H R I h
theorem ty_list {K : PySem.W.Frag} {H : Hp} {a : Addr} {xs : List V} (h : SqL K H a xs) : TyX K H (.ref a) (.type "list") := by
  rcases h with (h | ⟨o, h⟩) | ⟨o, its, n, hk, hc, _⟩
  · exact .base (.lst h)
  · exact .base (.frz h)
  · exact .kList hk hc
theorem ty_tup {K : PySem.W.Frag} {H : Hp} {a : Addr} {xs : List V} (h : SqT K H a xs) : TyX K H (.ref a) (.type "tuple") := by
  rcases h with (h | ⟨o, h⟩) | ⟨o, its, n, hk, hc, _⟩
  · exact .base (.tup h)
  · exact .fTuple h
  · exact .kTuple hk hc
theorem same_tup {K : PySem.W.Frag} {H H' : Hp} {a : Addr} {xs : List V} (e : Same H H') (h : SqT K H a xs) : SqT K H' a xs := by
  rcases h with (h | ⟨o, h⟩) | h
  · exact .inl (.inl (e _ _ h))
  · exact .inl (.inr ⟨o, e _ _ h⟩)
  · exact .inr h
/-- a list or a tuple -/
def Sq (K : PySem.W.Frag) (H : Hp) (a : Addr) (xs : List V) : Prop := SqL K H a xs ∨ SqT K H a xs
theorem Sq.same {K : PySem.W.Frag} {H H' : Hp} {a : Addr} {xs : List V} (h : Sq K H a xs) (e : Same H H') : Sq K H' a xs := h.elim (fun h => .inl (e.seq h)) (fun h => .inr (same_tup e h))
end
end Lx

set_option maxRecDepth 100000
set_option maxHeartbeats 4000000
namespace Lx
open PySem PySem.Spec PyProof.Rows L2
section
variable {X : Cx} {k j : Nat} {C : Addr} {sp : Sp}
/-- a def run from a deeper place of the same frame -/
theorem run_sub {CX : CXT} {f : Addr} {fd : FuncData} {ps : List Str} {A : Around} {pins : List (Addr × Obj)} {σ : L2.St} {H : Hp} {s : Shared} {Q : VK} {E : XK} {us : List Value} {vs : List V} (F : FnOk X.prog X.w X.K X.mg X.base CX k f fd ps sp) (sb : Sub X k A) (hb : Binds X.K fd ps [])
    (hx : Passes CX X E) (I : Inv X pins σ H s) (r : Vals vs us) (h : sp vs H Q E) : wpAny (model X.prog X.w) A (call (.ref f) us) (EP X pins σ Q) X.xe s := by
  have e0 : Env0 X.prog X.w X.K X.mg X.base A X.stack s H := by
    have e := I.env0
    exact ⟨by rw [sb.fr]; exact e.frames, e.mod, e.bs, e.bsz, e.funs, e.frf, e.hok, e.bare⟩
  have hl : (us ++ []).length = ps.length := by rw [List.append_nil, ← r.length]; exact F.len _ _ _ _ h
  refine wpAny_call (codeAny_mono (F.run A X.stack s H ⟨us, []⟩ us vs Q E sb.room e0 (by have := hb s us I.kIn hl; simpa using this) r h) fun r s' hq => ?_)
  cases r with
  | error e => exact hx pins σ H s e s' I hq
  | ok fl =>
    cases fl with
    | ret w => exact I.after hq
    | next => exact False.elim hq
    | brk => exact False.elim hq
    | cont => exact False.elim hq
theorem vals_nil {ds : List Value} (h : Vals [] ds) : ds = [] := by cases h; rfl
theorem sub_in2 {A : Around} (hr : Room j A) (hk : k + 2 ≤ j) (hf : A.frames = X.A.frames) : Sub X k A.in1.in1 := by
  have s : Sub X (k + 2) A := ⟨hr.mono hk, hf⟩
  exact s.in1.in1
/-- str(o) by the text's own __str__ -/
def rStrO (C : Addr) (sp : Sp) : List V → Hp → VK → Prop := fun xs H Q => ∃ a dx fs, xs = [.ref a] ∧ H a = some (.ins C dx fs) ∧ sp [.ref a] H (fun v H' => ∃ z, v = .str z ∧ Q (.str z) H') C8.E0
theorem call_str_own (c : C8.Met X.prog X.w X.K X.mg X.base k C "__str__" sp []) (hr : Room j X.A) (hk : k + 2 ≤ j) : CallR X (.type "str") (rStrO C sp) := by
  intro pins s σ H xs us Q I rv h
  obtain ⟨a, dx, fs, rfl, ha, hsp⟩ := h
  obtain ⟨f, fd, ps, ds, _, me, F, b, d⟩ := c.ex
  obtain rfl := vals_nil d
  cases rv with
  | cons r rr =>
    cases rr
    cases r
    obtain ⟨mA, J, _⟩ := ins_get I.hok ha
    obtain ⟨od, J, _⟩ := J.look
    have sb : Sub X k X.A.in1.in1 := sub_in2 hr hk rfl
    refine PySem.W.kso_call sb.room.units0 I.kIn J me.at_ me.fn (wpAny_mono (run_sub (vs := [.ref a]) F sb b C8.pass0 I (.cons rfl .nil) hsp) (fun u s' q => ?_) fun _ _ x => x)
    obtain ⟨v, H', I', ru, z, ez, q⟩ := q
    subst ez
    obtain ⟨t, rfl⟩ := ru
    exact ⟨.str z, H', I', ⟨t, rfl⟩, q⟩
/-- len(o) by the text's own __len__ -/
def rLenO (C : Addr) (sp : Sp) : List V → Hp → VK → Prop := fun xs H Q => ∃ a dx fs, xs = [.ref a] ∧ H a = some (.ins C dx fs) ∧ sp [.ref a] H (fun v H' => ∃ n : Int, v = .int n ∧ 0 ≤ n ∧ n < 2 ^ 63 ∧ Q (.int n) H') C8.E0
theorem call_len_own (c : C8.Met X.prog X.w X.K X.mg X.base k C "__len__" sp []) (hr : Room j X.A) (hk : k + 2 ≤ j) : CallR X (.builtin "len") (rLenO C sp) := by
  intro pins s σ H xs us Q I rv h
  obtain ⟨a, dx, fs, rfl, ha, hsp⟩ := h
  obtain ⟨f, fd, ps, ds, _, me, F, b, d⟩ := c.ex
  obtain rfl := vals_nil d
  cases rv with
  | cons r rr =>
    cases rr
    cases r
    obtain ⟨mA, J, _⟩ := ins_get I.hok ha
    obtain ⟨od, J, _⟩ := J.look
    have sb : Sub X k X.A.in1 := (show Sub X (k + 1) X.A from ⟨hr.mono (by omega), rfl⟩).in1
    obtain ⟨m, hF⟩ := I.fr
    refine PySem.W.len_K hF I.ok.mod.kin J me.at_ me.fn (wpAny_mono (run_sub (vs := [.ref a]) F sb b C8.pass0 I (.cons rfl .nil) hsp) (fun u s' q => ?_) fun _ _ x => x)
    obtain ⟨v, H', I', ru, z, ez, h0, h1, q⟩ := q
    subst ez
    obtain ⟨t, rfl⟩ := ru
    exact ⟨⟨h0, h1⟩, .int z, H', I'.tok _, ⟨_, rfl⟩, q⟩
/-- o == p, both of the class at C, by the text's own __eq__ -/
def rEqO (C : Addr) (sp : Sp) : R2 := fun x y H Q => ∃ a b dx dy fs gs, x = .ref a ∧ y = .ref b ∧ H a = some (.ins C dx fs) ∧ H b = some (.ins C dy gs) ∧ sp [.ref a, .ref b] H (fun v H' => ∃ t : Bool, v = .bl t ∧ Q (.bl t) H') C8.E0
theorem op_eqOwn (c : C8.Met X.prog X.w X.K X.mg X.base k C "__eq__" sp []) (hr : Room j X.A) (hk : k ≤ j) : OpR X (compareOp .Eq) (rEqO C sp) := by
  intro pins s σ H x y v u Q I rx ry h
  obtain ⟨a, b, dx, dy, fs, gs, rfl, rfl, ha, hb, hsp⟩ := h
  obtain ⟨f, fd, ps, ds, _, me, F, bn, d⟩ := c.ex
  obtain rfl := vals_nil d
  cases rx
  cases ry
  obtain ⟨mA, J, _⟩ := ins_get I.hok ha
  obtain ⟨mB, J', _⟩ := ins_get I.hok hb
  obtain ⟨od, J, _⟩ := J.look
  obtain ⟨od', J', _⟩ := J'.look
  obtain ⟨m, hF⟩ := I.fr
  have sb : Sub X k X.A := ⟨hr.mono hk, rfl⟩
  show wpAny (model X.prog X.w) X.A (richCompare .Eq (.ref a) (.ref b)) (EP X pins σ Q) X.xe s
  refine PySem.W.cmp_K (op := .Eq) (tb := .ref C) sb.room.units0 hF I.ok.mod.kin J J'.type (by simp [PySem.W.notFirst]) me.at_ me.fn ?_
  refine wpAny_mono (run_sub (vs := [.ref a, .ref b]) F sb bn C8.pass0 I (.cons rfl (.cons rfl .nil)) hsp) (fun u s' q => ?_) fun _ _ x => x
  obtain ⟨v, H', I', ru, t, ez, q⟩ := q
  subst ez
  cases (show u = Value.bool t from ru)
  exact ⟨.bl t, H', I', rfl, q⟩
end
/-- what of the text != wants -/
structure NeT (K : PySem.W.Frag) (C : Addr) : Prop where
  mro : PySem.W.mroIn K C (.type "object") = some true
  ne : PySem.W.findIn K (.ref C) "__ne__" = some (some (.builtin "object.__ne__"))
section
open PySem.W
variable {M : Model} {prog : Program} {w : World} {A : Around} {E : Value → Shared → Prop} {s : Shared} {K : PySem.W.Frag} {x C f : Addr} {ox : Obj} {od : Option Obj} {b tb : Value}
theorem ifBound_bltn {name : Str} {id : String} {args : List Value} {Q : Option Value → Shared → Prop} (X : K.In s.heap) (I : PySem.W.InstAt s.heap x ox C od) (hs : PySem.W.findIn K (.ref C) name = some (some (.builtin id)))
    (hb : ∀ self, bindSpecial (.builtin id) self = pure (.builtin id, [self])) (h : wpAny M A (call (.builtin id) (.ref x :: args)) (fun v => Q (some v)) E s) : wpAny M A (callSpecialIfBound? (.ref x) name args) Q E s := by
  simp only [callSpecialIfBound?, bindSpecialIfBound?]
  refine wpAny_holding (wpAny_bind (wpAny_bind (wpAny_bind (I.type.here ((PySem.W.looks_findIn X hs).here ?_)))))
  refine wpAny_bind (wpAny_askSetting (wpAny_ite ?_))
  have fin : wpAny M A (call (.builtin id) ([.ref x] ++ args) >>= fun v => pure (some v)) Q E s := wpAny_bind (wpAny_mono h (fun v s' h' => wpAny_pure h') fun _ _ h' => h')
  split
  · exact wpAny_bind (wpAny_of_eq (hb _) (wpAny_pure (by exact fin)))
  · exact wpAny_tryCatch (wpAny_bind (wpAny_of_eq (hb _) (wpAny_pure (by exact fin))))
theorem ne_tree {Q : Fin → Shared → Prop} (hu : A.units < cLine) (X : K.In s.heap) (I : PySem.W.InstAt s.heap x ox C od) (he : PySem.W.findIn K (.ref C) "__eq__" = some (some (.ref f))) (hf : PySem.W.isFn K (.ref f) = true)
    (h : wpAny M A (call (.ref f) [.ref x, b]) (fun v s' => ∃ t : Bool, v = .bool t ∧ Q (.done (.ret (.bool (!t)))) s') E s) : wpAny M A (Builtin.«object.__ne__» ⟨[.ref x, b], []⟩) Q E s := by
  unfold Builtin.«object.__ne__»
  refine wpAny_bind (m := slotArgs "__ne__" 1 _) (wpAny_pure ?_)
  refine wpAny_bind (m := cRoomFor _ _) (wpAny_cRoomFor hu ?_)
  refine wpAny_bind (m := callSpecialIfBound? (.ref x) (Str.ofString "__eq__") _) (ifBound_K X I he hf (wpAny_mono h (fun r s' hr => ?_) fun _ _ y => y))
  obtain ⟨t, rfl, q⟩ := hr
  exact wpAny_bind (wpAny_truthy_bool (wpAny_pure q))
theorem cmp_neK {Q : Value → Shared → Prop} (hu : A.units < cLine) (hu1 : A.in1.units < cLine) (X : K.In s.heap) (I : PySem.W.InstAt s.heap x ox C od) (hb : Looks (model prog w) s.heap (typeOf b) tb) (hn : PySem.W.notFirst K C tb = true) (N : NeT K C)
    (he : PySem.W.findIn K (.ref C) "__eq__" = some (some (.ref f))) (hf : PySem.W.isFn K (.ref f) = true)
    (h : wpAny (model prog w) A.in1 (call (.ref f) [.ref x, b]) (fun v s' => ∃ t : Bool, v = .bool t ∧ Q (.bool (!t)) s') E s) : wpAny (model prog w) A (richCompare .NotEq (.ref x) b) Q E s := by
  have one : wpAny (model prog w) A (tryCompare (.ref x) (cmpInfo .NotEq).2.1 b) (fun r s' => ∃ v, r = some v ∧ Q v s') E s := by
    unfold tryCompare
    refine wpAny_bind (ifBound_bltn X I N.ne F.cmp_object.ne.bind ?_)
    refine wpAny_call (codeAny_call_builtin F.cmp_object.ne.plain F.cmpEntry_ne (PySem.W.check_slot F.cmpKind_ne F.cmpSplit_ne (I.type.andThen (PySem.W.looks_mroIn X N.mro)) (F.cmpArgs_ne _ _) (ne_tree hu1 X I he hf (wpAny_mono h (fun v s' hv => ?_) fun _ _ e => e))))
    obtain ⟨t, rfl, q⟩ := hv
    exact ⟨t, rfl, wpAny_pure ⟨_, rfl, q⟩⟩
  unfold richCompare
  simp only [oneThing_ref]
  refine wpAny_holding (wpAny_bind (wpAny_cRoomFor hu ?_))
  refine wpAny_bind (I.type.here (wpAny_bind (hb.here ?_)))
  split
  · rename_i q
    have e : subIn K tb (.ref C) = some false := by
      rcases Bool.or_eq_true_iff.mp hn with e | e
      · rw [beq_iff_eq.mp e] at q; simp at q
      · exact beq_iff_eq.mp e
    refine wpAny_bind ((looks_subIn X e).here ?_)
    simp only [Bool.false_eq_true, if_false]
    refine wpAny_bind (wpAny_mono one (fun r s' z => ?_) fun _ _ e => e)
    obtain ⟨v, rfl, hq⟩ := z
    exact wpAny_pure hq
  · refine wpAny_bind (wpAny_pure ?_)
    simp only [Bool.false_eq_true, if_false]
    refine wpAny_bind (wpAny_mono one (fun r s' z => ?_) fun _ _ e => e)
    obtain ⟨v, rfl, hq⟩ := z
    exact wpAny_pure hq
end
section
variable {X : Cx} {k j i : Nat} {C : Addr} {sp : Sp} {x y : Str} {dvs : List V} {p pos : Pos} {e : Expr} {es : List Expr} {t : TA}
/-- o != p -/
def rNeO (C : Addr) (sp : Sp) : R2 := fun x y H Q => ∃ a b dx dy fs gs, x = .ref a ∧ y = .ref b ∧ H a = some (.ins C dx fs) ∧ H b = some (.ins C dy gs) ∧ sp [.ref a, .ref b] H (fun v H' => ∃ t : Bool, v = .bl t ∧ Q (.bl (!t)) H') C8.E0
theorem op_neOwn (c : C8.Met X.prog X.w X.K X.mg X.base k C "__eq__" sp []) (N : NeT X.K C) (hr : Room j X.A) (hk : k + 1 ≤ j) : OpR X (compareOp .NotEq) (rNeO C sp) := by
  intro pins s σ H x y v u Q I rx ry h
  obtain ⟨a, b, dx, dy, fs, gs, rfl, rfl, ha, hb, hsp⟩ := h
  obtain ⟨f, fd, ps, ds, _, me, F, bn, d⟩ := c.ex
  obtain rfl := vals_nil d
  cases rx
  cases ry
  obtain ⟨mA, J, _⟩ := ins_get I.hok ha
  obtain ⟨mB, J', _⟩ := ins_get I.hok hb
  obtain ⟨od, J, _⟩ := J.look
  obtain ⟨od', J', _⟩ := J'.look
  have sb1 : Sub X (k + 1) X.A := ⟨hr.mono hk, rfl⟩
  have sb := sb1.in1
  show wpAny (model X.prog X.w) X.A (richCompare .NotEq (.ref a) (.ref b)) (EP X pins σ Q) X.xe s
  refine cmp_neK (tb := .ref C) sb1.room.units0 sb.room.units0 I.kIn J J'.type (by simp [PySem.W.notFirst]) N me.at_ me.fn ?_
  refine wpAny_mono (run_sub (vs := [.ref a, .ref b]) F sb bn C8.pass0 I (.cons rfl (.cons rfl .nil)) hsp) (fun u s' q => ?_) fun _ _ x => x
  obtain ⟨v, H', I', ru, t, ez, q⟩ := q
  subst ez
  cases (show u = Value.bool t from ru)
  exact ⟨t, rfl, .bl (!t), H', I', rfl, q⟩
/-- the class in the i-th slot is made -/
def tMakeL (i : Nat) (C : Addr) (sp : Sp) (dvs : List V) (t : TA) : TE := fun σ H Q => σ[i]? = some (some (.ref C)) ∧ tMake C sp dvs C8.E0 t σ H Q
theorem pe_mkL (i : Nat) (c : C8.Mak X.prog X.w X.K X.mg X.base k y C sp dvs) (hr : Room j X.A) (hk : k + 1 ≤ j) (ha : PA X (e :: es) t) (hN : X.N[i]? = some x := by rfl) (hv : Vis X.env.scope x := by first | exact Or.inl rfl | exact Or.inr (Or.inl rfl) | exact Or.inr (Or.inr rfl))
    (hdb : (x == ("__debug__" : Str)) = false := by decide) (hcd : (x == ("__classdict__" : Str)) = false := by decide)
    (he : starEach (e :: es) X.env = (false, eval e X.env) :: starEach es X.env := by rfl) (hpl : (backTo pos (starEach es X.env)).any (·.1) = false := by rfl) : PE X (.Call (.Name x p) (e :: es) [] pos) (tMakeL i C sp dvs t) := by
  obtain ⟨f, fd, ps, ds, M, F, hm, b, d⟩ := c.ex
  refine ⟨fun pins s σ H Q I h => ?_⟩
  obtain ⟨hs, ht⟩ := h
  refine wpAny_Call_Name_kw (thn ((pe_var (pos := p) hN hv hdb hcd).run pins s σ H (fun v H1 => v = .ref C ∧ H1 = H) I ⟨.ref C, hs, rfl, rfl⟩) fun u s1 ⟨v, H1, I1, r1, q1⟩ => ?_)
  obtain ⟨rfl, rfl⟩ := q1
  cases r1
  refine PySem.W.callWith_K (h₀ := X.base) I.ok.mod.kin M.kp (thn (ha.run pos pins s1 σ _ _ I1 ht) fun us s2 ⟨vs, H2, I2, r, q⟩ => ⟨I2.kIn, ?_⟩) he hpl
  exact run_make M F (hr.mono hk) b d C8.pass0 I2 r q
theorem pe_mkL0 (i : Nat) (c : C8.Mak X.prog X.w X.K X.mg X.base k y C sp dvs) (hr : Room j X.A) (hk : k + 1 ≤ j) (hN : X.N[i]? = some x := by rfl) (hv : Vis X.env.scope x := by first | exact Or.inl rfl | exact Or.inr (Or.inl rfl) | exact Or.inr (Or.inr rfl))
    (hdb : (x == ("__debug__" : Str)) = false := by decide) (hcd : (x == ("__classdict__" : Str)) = false := by decide) : PE X (.Call (.Name x p) [] [] pos) (tMakeL i C sp dvs tNil) := by
  obtain ⟨f, fd, ps, ds, M, F, hm, b, d⟩ := c.ex
  refine ⟨fun pins s σ H Q I h => ?_⟩
  obtain ⟨hs, ht⟩ := h
  refine wpAny_Call_Name_kw (thn ((pe_var (pos := p) hN hv hdb hcd).run pins s σ H (fun v H1 => v = .ref C ∧ H1 = H) I ⟨.ref C, hs, rfl, rfl⟩) fun u s1 ⟨v, H1, I1, r1, q1⟩ => ?_)
  obtain ⟨rfl, rfl⟩ := q1
  cases r1
  exact PySem.W.callWith_K0 I1.kIn M.kp (run_make (us := []) M F (hr.mono hk) b d C8.pass0 I1 .nil ht)
/-- a classmethod of the class at C, C the module's name x -/
structure CMt (P : Program) (w : World) (K : PySem.W.Frag) (mg : Str → Option Value) (base : Heap) (k : Nat) (x : Str) (C : Addr) (m : Str) (sp : Sp) : Prop where
  ex : ∃ (mc : Value) (p g : Addr) (fd : FuncData) (ps : List Str), mg x = some (.ref C) ∧ ClX.CRead K C mc ∧ ClX.CMet K C mc m p g ∧ FnOk P w K mg base C8.CX0 k g fd ps sp ∧ Binds K fd ps []
theorem pe_cm {m : Str} {apos : Pos} {pl : Sem Bool} (c : CMt X.prog X.w X.K X.mg X.base k x C m sp) (hr : Room j X.A) (hk : k ≤ j) (hg : Gl X x) (ha : PA X (e :: es) t) (hdb : (x == ("__debug__" : Str)) = false := by decide)
    (hst : starEach (e :: es) X.env = (false, eval e X.env) :: starEach es X.env := by rfl) (hpl : (backTo pos (starEach es X.env)).any (·.1) = false := by rfl)
    (ht : eval (.Call (.Attribute (.Name x p) m apos) (e :: es) [] pos) X.env = (do
      let ov ← eval (.Name x p) X.env
      standAt apos.atName
      let (f, first) ← holding [ov] (getMethod ov m pl)
      callWith pos f first (backTo pos (starEach (e :: es) X.env)) (backToKw pos (keywordEach [] X.env))) := by rfl) :
    PE X (.Call (.Attribute (.Name x p) m apos) (e :: es) [] pos) (ClX.tCMeth C sp C8.E0 (tC (.ref C)) t) := by
  obtain ⟨mc, q, g, fd, ps, hm, r, cm, F, b⟩ := c.ex
  exact ClX.pe_cmeth (pe_glob (v := .ref C) hg hm rfl hdb) r cm (F.raw b .nil |>.imp fun vs H Q E h => by rw [List.append_nil]; exact h) (hr.mono hk) C8.pass0 ha hst hpl ht
end
/-- what isinstance wants of a class -/
structure IsT (K : PySem.W.Frag) (C : Addr) : Prop where
  cl : Cls K C
  ha : PySem.W.findIn K (.ref C) "__class__" = some (some (.builtin "object.__class__"))
  hn : PySem.W.specialIn K (.builtin "object.__class__") "__get__" = some (some (.builtin "getset_descriptor.__get__"))
  ht : PySem.W.takesIn K (.builtin "object.__class__") = some true
  hm : PySem.W.mroIn K C (.type "object") = some true
theorem IsT.ty {K : PySem.W.Frag} {C a dx : Addr} {H : Hp} {fs : List (Str × V)} (I : IsT K C) (e : H a = some (.ins C dx fs)) : TyX K H (.ref a) (.ref C) := .base (.ins e I.cl I.ha I.hn I.ht I.hm)
theorem IsT.one {K : PySem.W.Frag} {C : Addr} (_ : IsT K C) : PySem.W.kitOne K (.ref C) (.ref C) = some true := by
  unfold PySem.W.kitOne
  rw [if_pos (beq_self_eq_true _)]
/-- an f-string inside a comprehension: its reading by a name -/
def tJn (ts : List TE) : TE := fun σ H Q => tJs ts Str.empty σ H fun out H1 => Q (.str out) H1
theorem pe_jn {X : Cx} {v1 v2 : Expr} {rest : List Expr} {ts : List TE} {pos : Pos} (h : PJ X (v1 :: v2 :: rest) ts) : PE X (.JoinedStr (v1 :: v2 :: rest) pos) (tJn ts) := pe_joined h
end Lx

set_option maxRecDepth 100000
set_option maxHeartbeats 4000000
namespace U
open PySem PySem.Spec PyProof.Rows
open L2 hiding Fun CX0 E0 pass0 Fun.binds
open C8 Lx SX
/-! words of bits as texts -/
def bt (b : Bool) : Nat := if b then 49 else 48
def W (l : List Bool) : Str := S (l.map bt)
theorem bt_inj : ∀ {a b : Bool}, bt a = bt b → a = b := by decide
theorem map_bt_inj : ∀ {a b : List Bool}, a.map bt = b.map bt → a = b
  | [], [], _ => rfl
  | [], _ :: _, h => by simp at h
  | _ :: _, [], h => by simp at h
  | x :: l, y :: m, h => by
    rw [List.map_cons, List.map_cons] at h
    injection h with h1 h2
    rw [bt_inj h1, map_bt_inj h2]
theorem W_inj {a b : List Bool} (h : W a = W b) : a = b := map_bt_inj (S_inj h)
theorem W_eq {a b : List Bool} : (W a = W b) ↔ a = b := ⟨W_inj, fun h => by rw [h]⟩
theorem W_len (a : List Bool) : (W a).length = a.length := by unfold W; rw [S_len, List.length_map]
theorem W_size (a : List Bool) : (W a).cps.size = a.length := by unfold W; simp
theorem W_cat (a b : List Bool) : W a ++ W b = W (a ++ b) := by unfold W; rw [S_cat, List.map_append]
theorem W_nil : ("" : Str) = W [] := by decide +kernel
theorem W_0 : ("0" : Str) = W [false] := by decide +kernel
theorem W_1 : ("1" : Str) = W [true] := by decide +kernel
theorem W_get {a : List Bool} {i : Nat} {c : Nat} (h : (W a).cps[i]? = some c) : ∃ b, a[i]? = some b ∧ c = bt b := by
  unfold W S at h
  rw [List.getElem?_toArray, List.getElem?_map] at h
  cases e : a[i]? with
  | none => rw [e] at h; cases h
  | some b => rw [e] at h; exact ⟨b, rfl, (Option.some.inj h).symm⟩
theorem W_bit (b : Bool) : (⟨#[bt b]⟩ : Str) = W [b] := rfl
theorem W_tl (a : List Bool) : (W a).cps.toList = a.map bt := rfl
theorem joinL_nil : ∀ ys : List (List Nat), TL.joinL [] ys = ys.flatten
  | [] => rfl
  | [p] => by simp [TL.joinL]
  | p :: q :: r => by
    show p ++ ([] ++ TL.joinL [] (q :: r)) = _
    rw [List.nil_append, joinL_nil (q :: r)]
    rfl
theorem join_W (ls : List (List Bool)) : Txt.join "" (ls.map W) = W ls.flatten := by
  have e : (ls.map W) = (ls.map (·.map bt)).map S := by rw [List.map_map]; rfl
  have e2 : ("" : Str) = S [] := by decide +kernel
  rw [e, e2, join_S, joinL_nil]
  unfold W
  rw [List.map_flatten]
theorem join_bits (l : List Bool) : Txt.join "" (l.map fun b => W [b]) = W l := by
  have e : (l.map fun b => W [b]) = (l.map fun b => [b]).map W := by rw [List.map_map]; rfl
  rw [e, join_W]
  congr 1
  induction l with
  | nil => rfl
  | cons b r ih => simp [ih]
theorem sum_lens : ∀ ls : List (List Bool), ((ls.map W).map (·.length)).sum = (ls.map (·.length)).sum
  | [] => rfl
  | l :: r => by
    rw [List.map_cons, List.map_cons, List.map_cons, List.sum_cons, List.sum_cons, W_len, sum_lens r]
theorem sl_len {n : Nat} (h : n ≤ 100000) : n ≤ sizeLine := Nat.le_trans h (by decide)
theorem sl_lt {n : Nat} (h : n < 100000) : n < sizeLine := Nat.lt_of_lt_of_le h (by decide)
def bitsV (l : List Bool) : List V := (l.map fun b => W [b]).map V.str
theorem lens_bits (l : List Bool) : ((l.map fun b => W [b]).map (·.length)).sum = l.length := by
  induction l with
  | nil => rfl
  | cons b r ih => rw [List.map_cons, List.map_cons, List.sum_cons, ih, W_len, List.length_cons]; simp only [List.length_cons, List.length_nil]; omega
theorem bitsV_len (l : List Bool) : (bitsV l).length = l.length := by unfold bitsV; rw [List.length_map, List.length_map]
theorem bitsV_snoc (l : List Bool) (b : Bool) : bitsV l ++ [V.str (W [b])] = bitsV (l ++ [b]) := by unfold bitsV; simp
theorem mem2 {v : V} (h : v ∈ ([.str "0", .str "1"] : List V)) : ∃ b : Bool, v = .str (W [b]) := by
  rcases List.mem_cons.mp h with rfl | h
  · exact ⟨false, by rw [W_0]⟩
  · rcases List.mem_cons.mp h with rfl | h
    · exact ⟨true, by rw [W_1]⟩
    · cases h
theorem empty_len : ("" : Str).length = 0 := by decide +kernel
/-! tests whose answer is known -/
theorem q_dec {c : Prop} [Decidable c] {Q : VK} {H : Hp} (hc : c) (h : Q (.bl true) H) : Q (.bl (decide c)) H := by rw [decide_eq_true hc]; exact h
theorem q_ndec {c : Prop} [Decidable c] {Q : VK} {H : Hp} (hc : ¬ c) (h : Q (.bl false) H) : Q (.bl (decide c)) H := by rw [decide_eq_false hc]; exact h
theorem iteDT {c A B : Prop} [Decidable c] (hc : c) (h : A) : if decide c = true then A else B := by rw [decide_eq_true hc]; exact iteT h
theorem iteDF {c A B : Prop} [Decidable c] (hc : ¬ c) (h : B) : if decide c = true then A else B := by rw [decide_eq_false hc]; exact iteF h
theorem iteNT {c A B : Prop} [Decidable c] (hc : ¬ c) (h : A) : if (!decide c) = true then A else B := by rw [decide_eq_false hc]; exact iteT h
theorem iteBT {b : Bool} {A B : Prop} (hc : b = true) (h : A) : if b = true then A else B := by rw [hc]; exact iteT h
theorem iteBF {b : Bool} {A B : Prop} (hc : b = false) (h : B) : if b = true then A else B := by rw [hc]; exact iteF h
def oW : Option (List Bool) → V
  | none => .non
  | some x => .str (W x)
/-! slices -/
theorem W_drop {a : List Bool} {i : Int} (h : 0 ≤ i) : Txt.slice (W a) (some i) none = W (a.drop i.toNat) := by
  unfold W; rw [slice_from h, List.map_drop]
theorem W_take {a : List Bool} {i : Int} (h : 0 ≤ i) : Txt.slice (W a) none (some i) = W (a.take i.toNat) := by
  unfold W; rw [slice_to h, List.map_take]
theorem repl_succ (l : List Bool) (n : Nat) : (List.replicate (n + 1) l).flatten = l ++ (List.replicate n l).flatten := by rw [List.replicate_succ]; rfl
theorem foldl_app : ∀ (n : Nat) (a b : Array Nat), ((List.replicate n a).foldl (· ++ ·) b).toList = b.toList ++ (List.replicate n a.toList).flatten
  | 0, a, b => by simp
  | n + 1, a, b => by
    rw [List.replicate_succ, List.foldl_cons, foldl_app n a (b ++ a), List.replicate_succ, List.flatten_cons, Array.toList_append, List.append_assoc]
theorem mul_W {l : List Bool} {n : Nat} (h : 1 ≤ n) : Txt.mul (W l) (n : Int) = W (List.replicate n l).flatten := by
  refine TL.ext_tl ?_
  unfold Txt.mul
  rw [if_neg (by omega)]
  by_cases c : (((n : Int) == 1) || (W l).length == 0) = true
  · rw [if_pos c]
    simp only [Bool.or_eq_true, beq_iff_eq] at c
    rcases c with c | c
    · have : n = 1 := by omega
      subst this
      simp
    · rw [W_len] at c
      have : l = [] := List.length_eq_zero_iff.mp c
      subst this
      rw [show (List.replicate n ([] : List Bool)).flatten = [] by simp]
  · rw [if_neg c]
    show ((List.replicate (n : Int).toNat (W l).cps).foldl (· ++ ·) #[]).toList = _
    rw [foldl_app, Int.toNat_natCast]
    show [] ++ (List.replicate n (l.map bt)).flatten = ((List.replicate n l).flatten).map bt
    rw [List.map_flatten, List.map_replicate, List.nil_append]
end U

set_option maxRecDepth 100000
set_option maxHeartbeats 4000000
/-! rules, in plain Lean -/
namespace U
abbrev Stf := List Bool × Bool
def putM (ss : List Stf) (l : List Bool) : Option Bool := (ss.find? fun s => s.1.isSuffixOf l).map (·.2)
/-- the bits that are put in behind l -/
inductive Ins (ss : List Stf) : List Bool → List Bool → Prop
  | stop {l : List Bool} : putM ss l = none → Ins ss l []
  | more {l x : List Bool} {b : Bool} : putM ss l = some b → Ins ss (l ++ [b]) x → Ins ss l (b :: x)
inductive Reach (ss : List Stf) : List Bool → Prop
  | nil : Reach ss []
  | next {l x : List Bool} {b : Bool} : Reach ss l → Ins ss (l ++ [b]) x → Reach ss (l ++ [b] ++ x)
def OkR (ss : List Stf) : Prop := ∀ l, Reach ss l → ∀ b, ∃ x, Ins ss (l ++ [b]) x
/-- each message ends, within n bits that are put in at a time -/
def OkN (n : Nat) (ss : List Stf) : Prop := ∀ l, Reach ss l → ∀ b, ∃ x, Ins ss (l ++ [b]) x ∧ x.length ≤ n
abbrev OkS (ss : List Stf) : Prop := OkN 19 ss
theorem OkN.ok {n : Nat} {ss : List Stf} (h : OkN n ss) : OkR ss := fun l r b => by
  obtain ⟨x, hx, _⟩ := h l r b
  exact ⟨x, hx⟩
theorem OkN.mono {n m : Nat} {ss : List Stf} (h : OkN n ss) (hn : n ≤ m) : OkN m ss := fun l r b => by
  obtain ⟨x, hx, h1⟩ := h l r b
  exact ⟨x, hx, Nat.le_trans h1 hn⟩
def tl (n : Nat) (l : List Bool) : List Bool := l.drop (l.length - n)
theorem tl_len (n : Nat) (l : List Bool) : (tl n l).length = min n l.length := by unfold tl; rw [List.length_drop]; omega
theorem tl_le (n : Nat) (l : List Bool) : (tl n l).length ≤ n := by rw [tl_len]; omega
theorem tl_id {n : Nat} {l : List Bool} (h : l.length ≤ n) : tl n l = l := by
  unfold tl
  rw [show l.length - n = 0 by omega, List.drop_zero]
theorem tl_tl {a b : Nat} (h : a ≤ b) (l : List Bool) : tl a (tl b l) = tl a l := by
  unfold tl
  rw [List.drop_drop, List.length_drop]
  congr 1
  omega
theorem tl_of {a b : Nat} (h : a ≤ b) {l m : List Bool} (e : tl b l = tl b m) : tl a l = tl a m := by rw [← tl_tl h l, e, tl_tl h m]
theorem tl_snoc0 (n : Nat) (l : List Bool) (b : Bool) : tl (n + 1) (l ++ [b]) = tl n l ++ [b] := by
  unfold tl
  rw [List.length_append, List.length_cons, List.length_nil, List.drop_append]
  have e : l.length + (0 + 1) - (n + 1) = l.length - n := by omega
  rw [e, show l.length - n - l.length = 0 by omega]
  rfl
theorem tl_zero (l : List Bool) : tl 0 l = [] := by unfold tl; rw [List.drop_eq_nil_iff]; omega
theorem tl_snoc {n : Nat} {l m : List Bool} {b : Bool} (e : tl n l = tl n m) : tl n (l ++ [b]) = tl n (m ++ [b]) := by
  cases n with
  | zero => rw [tl_zero, tl_zero]
  | succ n => rw [tl_snoc0, tl_snoc0, tl_of (Nat.le_succ n) e]
theorem tl_app {n : Nat} {l m : List Bool} (e : tl n l = tl n m) : ∀ x : List Bool, tl n (l ++ x) = tl n (m ++ x)
  | [] => by rw [List.append_nil, List.append_nil]; exact e
  | b :: x => by
    have := tl_app (tl_snoc (b := b) e) x
    rw [List.append_assoc, List.append_assoc] at this
    exact this
theorem suf_iff {p l : List Bool} : p.isSuffixOf l = true ↔ p = tl p.length l := by
  rw [List.isSuffixOf_iff_suffix, List.suffix_iff_eq_drop]
  rfl
theorem suf_tl {L : Nat} {p l m : List Bool} (h : p.length ≤ L) (e : tl L l = tl L m) : p.isSuffixOf l = p.isSuffixOf m := by
  rw [Bool.eq_iff_iff, suf_iff, suf_iff, tl_of h e]
theorem put_tl {L : Nat} {l m : List Bool} (e : tl L l = tl L m) : ∀ {ss : List Stf}, (∀ s ∈ ss, s.1.length ≤ L) → putM ss l = putM ss m
  | [], _ => rfl
  | s :: r, h => by
    have ih := put_tl e (ss := r) fun s hs => h s (List.mem_cons_of_mem _ hs)
    have es := suf_tl (h s List.mem_cons_self) e
    unfold putM at ih ⊢
    rw [List.find?_cons, List.find?_cons, es]
    cases s.1.isSuffixOf m with
    | true => rfl
    | false => exact ih
theorem Ins.tl {ss : List Stf} {L : Nat} (hL : ∀ s ∈ ss, s.1.length ≤ L) {l x : List Bool} (h : Ins ss l x) : ∀ {m}, tl L l = tl L m → Ins ss m x := by
  induction h with
  | stop h => intro m e; exact .stop (by rw [← put_tl e hL]; exact h)
  | more h _ ih => intro m e; exact .more (by rw [← put_tl e hL]; exact h) (ih (tl_snoc e))
theorem Ins.det {ss : List Stf} {l x : List Bool} (h : Ins ss l x) : ∀ {y}, Ins ss l y → x = y := by
  induction h with
  | stop h =>
    intro y hy
    cases hy with
    | stop _ => rfl
    | more h2 _ => rw [h] at h2; cases h2
  | more h _ ih =>
    intro y hy
    cases hy with
    | stop h2 => rw [h] at h2; cases h2
    | more h2 hx =>
      rw [h] at h2
      cases h2
      rw [ih hx]
theorem Ins.end {ss : List Stf} {l x : List Bool} (h : Ins ss l x) : putM ss (l ++ x) = none := by
  induction h with
  | stop h => rw [List.append_nil]; exact h
  | more _ _ ih => rw [List.append_assoc] at ih; exact ih
theorem Ins.drop {ss : List Stf} {l x : List Bool} (h : Ins ss l x) : ∀ {i}, i ≤ x.length → Ins ss (l ++ x.take i) (x.drop i) := by
  induction h with
  | stop h => intro i hi; rw [List.take_nil, List.drop_nil, List.append_nil]; exact .stop h
  | more h hx ih =>
    intro i hi
    cases i with
    | zero => rw [List.take_zero, List.append_nil, List.drop_zero]; exact .more h hx
    | succ i =>
      have := ih (i := i) (by rw [List.length_cons] at hi; omega)
      rw [List.append_assoc] at this
      exact this
theorem Ins.at {ss : List Stf} {l x : List Bool} (h : Ins ss l x) {i : Nat} {b : Bool} (hb : x[i]? = some b) : putM ss (l ++ x.take i) = some b := by
  have hi := (List.getElem?_eq_some_iff.mp hb).1
  have h2 := h.drop (Nat.le_of_lt hi)
  rw [List.drop_eq_getElem_cons hi] at h2
  cases h2 with
  | more h3 _ => rw [h3, ← hb, List.getElem?_eq_getElem hi]
theorem Ins.apart {ss : List Stf} {L : Nat} (hL : ∀ s ∈ ss, s.1.length ≤ L) {l x : List Bool} (h : Ins ss l x) {i j : Nat} (hi : i ≤ x.length) (hj : j ≤ x.length) (e : U.tl L (l ++ x.take i) = U.tl L (l ++ x.take j)) : i = j := by
  have := congrArg List.length (((h.drop hi).tl hL e).det (h.drop hj))
  rw [List.length_drop, List.length_drop] at this
  omega
/-! how many words there are -/
def allW : Nat → List (List Bool)
  | 0 => [[]]
  | n + 1 => [] :: ((allW n).map (false :: ·) ++ (allW n).map (true :: ·))
theorem allW_len : ∀ n, (allW n).length + 1 = 2 ^ (n + 1)
  | 0 => rfl
  | n + 1 => by
    have := allW_len n
    show ([] :: ((allW n).map (false :: ·) ++ (allW n).map (true :: ·))).length + 1 = _
    rw [List.length_cons, List.length_append, List.length_map, List.length_map, Nat.pow_succ]
    omega
theorem mem_allW : ∀ {n : Nat} {w : List Bool}, w.length ≤ n → w ∈ allW n
  | 0, [], _ => List.mem_cons_self
  | 0, _ :: _, h => by rw [List.length_cons] at h; omega
  | n + 1, [], _ => List.mem_cons_self
  | n + 1, b :: w, h => by
    have := mem_allW (n := n) (w := w) (by rw [List.length_cons] at h; omega)
    refine List.mem_cons_of_mem _ (List.mem_append.mpr ?_)
    cases b with
    | false => exact .inl (List.mem_map_of_mem this)
    | true => exact .inr (List.mem_map_of_mem this)
theorem nodup_le {α : Type} [DecidableEq α] : ∀ {l m : List α}, l.Nodup → (∀ x ∈ l, x ∈ m) → l.length ≤ m.length
  | [], _, _, _ => Nat.zero_le _
  | x :: r, m, hn, hs => by
    have hx := hs x List.mem_cons_self
    have hn' := List.nodup_cons.mp hn
    have h2 := nodup_le (l := r) (m := m.erase x) hn'.2 fun y hy => by
      have hne : y ≠ x := fun e => hn'.1 (e ▸ hy)
      exact (List.mem_erase_of_ne hne).mpr (hs y (List.mem_cons_of_mem _ hy))
    rw [List.length_erase_of_mem hx] at h2
    have := List.length_pos_of_mem hx
    rw [List.length_cons]
    omega
theorem words_le {ws : List (List Bool)} {n : Nat} (hn : ws.Nodup) (hl : ∀ w ∈ ws, w.length ≤ n) : ws.length + 1 ≤ 2 ^ (n + 1) := by
  have := nodup_le hn fun w hw => mem_allW (hl w hw)
  have := allW_len n
  omega
theorem Ins.len {ss : List Stf} {L : Nat} (hL : ∀ s ∈ ss, s.1.length ≤ L) {l x : List Bool} (h : Ins ss l x) : x.length + 1 ≤ 2 ^ (L + 1) := by
  have := words_le (ws := (List.range x.length).map fun i => U.tl L (l ++ x.take i)) (n := L) (by
    rw [List.nodup_iff_pairwise_ne, List.pairwise_map]
    refine List.Pairwise.imp_of_mem ?_ List.nodup_range
    intro a b ha hb hne e
    have ha' := List.mem_range.mp ha
    have hb' := List.mem_range.mp hb
    exact hne (h.apart hL (Nat.le_of_lt ha') (Nat.le_of_lt hb') e)) (fun w hw => by
      obtain ⟨i, _, rfl⟩ := List.mem_map.mp hw
      exact tl_le _ _)
  rw [List.length_map, List.length_range] at this
  exact this
/-! the order of the stuffs does not matter -/
def SufFree (ss : List Stf) : Prop := ss.Pairwise fun a b => ¬ a.1 <:+ b.1 ∧ ¬ b.1 <:+ a.1
theorem SufFree.ne {ss : List Stf} (h : SufFree ss) {a b : Stf} (ha : a ∈ ss) (hb : b ∈ ss) (n : a ≠ b) : ¬ a.1 <:+ b.1 := by
  unfold SufFree at h
  induction ss with
  | nil => cases ha
  | cons s r ih =>
    obtain ⟨h1, h2⟩ := List.pairwise_cons.mp h
    rcases List.mem_cons.mp ha with ea | ha'
    · rcases List.mem_cons.mp hb with eb | hb'
      · exact absurd (ea.trans eb.symm) n
      · rw [ea]; exact (h1 _ hb').1
    · rcases List.mem_cons.mp hb with eb | hb'
      · rw [eb]; exact (h1 _ ha').2
      · exact ih h2 ha' hb'
theorem put_iff {ss : List Stf} (h : SufFree ss) {l : List Bool} {b : Bool} : putM ss l = some b ↔ ∃ p, (p, b) ∈ ss ∧ p <:+ l := by
  unfold putM
  constructor
  · intro e
    obtain ⟨s, hs, rfl⟩ := Option.map_eq_some_iff.mp e
    exact ⟨s.1, List.mem_of_find?_eq_some hs, List.isSuffixOf_iff_suffix.mp (List.find?_some (p := fun s : Stf => s.1.isSuffixOf l) hs)⟩
  · rintro ⟨p, hm, hp⟩
    cases e : ss.find? fun s => s.1.isSuffixOf l with
    | none =>
      have := List.find?_eq_none.mp e _ hm
      exact absurd (List.isSuffixOf_iff_suffix.mpr hp) this
    | some s =>
      have hs := List.mem_of_find?_eq_some e
      have hq : s.1 <:+ l := List.isSuffixOf_iff_suffix.mp (List.find?_some (p := fun s : Stf => s.1.isSuffixOf l) e)
      by_cases n : s = (p, b)
      · rw [n]; rfl
      · rcases List.suffix_or_suffix_of_suffix hq hp with z | z
        · exact absurd z (h.ne hs hm n)
        · exact absurd z (h.ne hm hs (Ne.symm n))
theorem SufFree.perm {ss ts : List Stf} (h : SufFree ss) (p : ss.Perm ts) : SufFree ts := by
  unfold SufFree at h ⊢
  exact (List.Perm.pairwise_iff (fun ⟨a, b⟩ => ⟨b, a⟩) p).mp h
theorem put_perm {ss ts : List Stf} (h : SufFree ss) (p : ss.Perm ts) (l : List Bool) : putM ss l = putM ts l := by
  refine Option.ext fun b => ?_
  rw [put_iff h, put_iff (h.perm p)]
  constructor
  · rintro ⟨q, hm, hq⟩; exact ⟨q, p.mem_iff.mp hm, hq⟩
  · rintro ⟨q, hm, hq⟩; exact ⟨q, p.mem_iff.mpr hm, hq⟩
theorem Ins.congr {ss ts : List Stf} (h : ∀ l, putM ss l = putM ts l) {l x : List Bool} (i : Ins ss l x) : Ins ts l x := by
  induction i with
  | stop e => exact .stop (by rw [← h]; exact e)
  | more e _ ih => exact .more (by rw [← h]; exact e) ih
theorem Reach.congr {ss ts : List Stf} (h : ∀ l, putM ss l = putM ts l) {l : List Bool} (r : Reach ss l) : Reach ts l := by
  induction r with
  | nil => exact .nil
  | next _ i ih => exact .next ih (i.congr h)
theorem OkR.congr {ss ts : List Stf} (h : ∀ l, putM ss l = putM ts l) (o : OkR ss) : OkR ts := fun l r b => by
  obtain ⟨x, hx⟩ := o l (r.congr fun l => (h l).symm) b
  exact ⟨x, hx.congr h⟩
/-! so many puts, one behind another -/
def stP (ss : List Stf) (l : List Bool) : List Bool := match putM ss l with
  | none => l
  | some b => l ++ [b]
def itP (ss : List Stf) : Nat → List Bool → List Bool
  | 0, l => l
  | n + 1, l => itP ss n (stP ss l)
theorem itP_succ (ss : List Stf) : ∀ (n : Nat) (l : List Bool), itP ss (n + 1) l = stP ss (itP ss n l)
  | 0, _ => rfl
  | n + 1, l => itP_succ ss n (stP ss l)
theorem itP_stop {ss : List Stf} {l : List Bool} (h : putM ss l = none) : ∀ n, itP ss n l = l
  | 0 => rfl
  | n + 1 => by
    show itP ss n (stP ss l) = l
    have e : stP ss l = l := by unfold stP; rw [h]
    rw [e, itP_stop h n]
theorem itP_add (ss : List Stf) : ∀ (i j : Nat) (l : List Bool), itP ss (i + j) l = itP ss j (itP ss i l)
  | 0, j, l => by rw [Nat.zero_add]; rfl
  | i + 1, j, l => by rw [show i + 1 + j = (i + j) + 1 by omega]; exact itP_add ss i j (stP ss l)
theorem itP_rest {ss : List Stf} {i n : Nat} {l : List Bool} (h : putM ss (itP ss i l) = none) (hi : i ≤ n) : itP ss n l = itP ss i l := by
  rw [show n = i + (n - i) by omega, itP_add, itP_stop h]
theorem itP_or (ss : List Stf) : ∀ (n : Nat) (l : List Bool), (itP ss n l).length = l.length + n ∨ ∃ x, Ins ss l x ∧ itP ss n l = l ++ x
  | 0, l => .inl rfl
  | n + 1, l => by
    cases e : putM ss l with
    | none => exact .inr ⟨[], .stop e, by rw [itP_stop e, List.append_nil]⟩
    | some b =>
      have es : stP ss l = l ++ [b] := by unfold stP; rw [e]
      show (itP ss n (stP ss l)).length = _ ∨ ∃ x, Ins ss l x ∧ itP ss n (stP ss l) = l ++ x
      rw [es]
      rcases itP_or ss n (l ++ [b]) with h | ⟨x, h1, h2⟩
      · left; rw [h, List.length_append, List.length_cons, List.length_nil]; omega
      · exact .inr ⟨b :: x, .more e h1, by rw [h2, List.append_assoc]; rfl⟩
theorem itP_le (ss : List Stf) : ∀ (n : Nat) (l : List Bool), l.length ≤ (itP ss n l).length ∧ (itP ss n l).length ≤ l.length + n
  | 0, l => ⟨Nat.le_refl _, Nat.le_refl _⟩
  | n + 1, l => by
    have h := itP_le ss n (stP ss l)
    have e : l.length ≤ (stP ss l).length ∧ (stP ss l).length ≤ l.length + 1 := by
      unfold stP
      cases putM ss l with
      | none => exact ⟨Nat.le_refl _, Nat.le_succ _⟩
      | some b => show l.length ≤ (l ++ [b]).length ∧ (l ++ [b]).length ≤ _; rw [List.length_append, List.length_cons, List.length_nil]; omega
    show l.length ≤ (itP ss n (stP ss l)).length ∧ (itP ss n (stP ss l)).length ≤ _
    omega
/-- a closed set of standings, of 5 bits at most, shows that no message is without end -/
theorem okS_of {ss : List Stf} (kn : List (List Bool)) (hL : ∀ s ∈ ss, s.1.length ≤ 5) (h0 : [] ∈ kn) (hc : ∀ w ∈ kn, ∀ b, (itP ss 24 (w ++ [b])).length ≤ w.length + 20 ∧ tl 5 (itP ss 24 (w ++ [b])) ∈ kn) : OkS ss := by
  have hx : ∀ w ∈ kn, ∀ b, ∃ x, Ins ss (w ++ [b]) x ∧ tl 5 (w ++ [b] ++ x) ∈ kn ∧ x.length ≤ 19 := fun w hw b => by
    obtain ⟨h1, h2⟩ := hc w hw b
    rcases itP_or ss 24 (w ++ [b]) with h | ⟨x, hi, e⟩
    · rw [h, List.length_append, List.length_cons, List.length_nil] at h1; omega
    · rw [e] at h2 h1; exact ⟨x, hi, h2, by rw [List.length_append, List.length_append, List.length_cons, List.length_nil] at h1; omega⟩
  have hr : ∀ l, Reach ss l → ∃ w ∈ kn, tl 5 w = tl 5 l := fun l r => by
    induction r with
    | nil => exact ⟨[], h0, rfl⟩
    | @next l x b r i ih =>
      obtain ⟨w, hw, e⟩ := ih
      obtain ⟨y, hy, hm, _⟩ := hx w hw b
      have e2 := tl_snoc (b := b) e
      have ey := (hy.tl hL e2).det i
      subst ey
      exact ⟨_, hm, by rw [tl_tl (Nat.le_refl 5)]; exact tl_app e2 y⟩
  intro l r b
  obtain ⟨w, hw, e⟩ := hr l r
  obtain ⟨y, hy, _, h19⟩ := hx w hw b
  exact ⟨y, hy.tl hL (tl_snoc e), h19⟩
theorem okS_dec {ss : List Stf} (hL : (ss.all fun s => decide (s.1.length ≤ 5)) = true) (h : ((allW 5).all fun w => [false, true].all fun b => decide ((itP ss 24 (w ++ [b])).length ≤ w.length + 20)) = true) : OkS ss := by
  refine okS_of (allW 5) (fun s hs => of_decide_eq_true (List.all_eq_true.mp hL s hs)) (mem_allW (by decide)) fun w hw b => ⟨?_, mem_allW (tl_le _ _)⟩
  have := List.all_eq_true.mp (List.all_eq_true.mp h w hw) b (by cases b <;> decide)
  exact of_decide_eq_true this
theorem okS_11 : OkS [([true, true], false)] := okS_dec (by decide +kernel) (by decide +kernel)
theorem okS_001 : OkS [([false, false, true], true)] := okS_dec (by decide +kernel) (by decide +kernel)
theorem okS_1 : OkS [([true], false)] := okS_dec (by decide +kernel) (by decide +kernel)
theorem okS_00 : OkS [([false, false], true)] := okS_dec (by decide +kernel) (by decide +kernel)
theorem okS_nil : OkS [] := okS_dec (by decide +kernel) (by decide +kernel)
theorem okR_nil : OkR [] := okS_nil.ok
theorem OkN.congr {n : Nat} {ss ts : List Stf} (h : ∀ l, putM ss l = putM ts l) (o : OkN n ss) : OkN n ts := fun l r b => by
  obtain ⟨x, hx, hl⟩ := o l (r.congr fun l => (h l).symm) b
  exact ⟨x, hx.congr h, hl⟩
/-- the line for a message -/
inductive Body (ss : List Stf) : List Bool → List Bool → Prop
  | nil : Body ss [] []
  | snoc {m l x : List Bool} {b : Bool} : Body ss m l → Ins ss (l ++ [b]) x → Body ss (m ++ [b]) (l ++ [b] ++ x)
theorem Body.reach {ss : List Stf} {m l : List Bool} (h : Body ss m l) : Reach ss l := by
  induction h with
  | nil => exact .nil
  | snoc _ i ih => exact .next ih i
theorem Body.congr {ss ts : List Stf} (h : ∀ l, putM ss l = putM ts l) {m l : List Bool} (b : Body ss m l) : Body ts m l := by
  induction b with
  | nil => exact .nil
  | snoc _ i ih => exact .snoc ih (i.congr h)
theorem body_steps {N : Nat} {ss : List Stf} (o : OkN N ss) (m : List Bool) : ∃ f : Nat → List Bool, f 0 = [] ∧ (∀ i b, m[i]? = some b → ∃ x, Ins ss (f i ++ [b]) x ∧ x.length ≤ N ∧ f (i + 1) = f i ++ [b] ++ x) ∧ (∀ i, i ≤ m.length → Body ss (m.take i) (f i) ∧ (f i).length ≤ (N + 1) * i) := by
  have step : ∀ (n : Nat) (hn : n ≤ m.length), ∃ f : Nat → List Bool, f 0 = [] ∧ (∀ i b, i < n → m[i]? = some b → ∃ x, Ins ss (f i ++ [b]) x ∧ x.length ≤ N ∧ f (i + 1) = f i ++ [b] ++ x) ∧ (∀ i, i ≤ n → Body ss (m.take i) (f i) ∧ (f i).length ≤ (N + 1) * i) := by
    intro n
    induction n with
    | zero => exact fun _ => ⟨fun _ => [], rfl, fun i b h => absurd h (Nat.not_lt_zero _), fun i h => by rw [Nat.le_zero.mp h, List.take_zero]; exact ⟨.nil, Nat.le_refl _⟩⟩
    | succ n ih =>
      intro hn
      obtain ⟨f, h0, h1, h2⟩ := ih (by omega)
      have hb : m[n]? = some m[n] := List.getElem?_eq_getElem (by omega)
      obtain ⟨hB, hl⟩ := h2 n (Nat.le_refl _)
      obtain ⟨x, hx, hx19⟩ := o (f n) hB.reach m[n]
      refine ⟨fun i => if i = n + 1 then f n ++ [m[n]] ++ x else f i, ?_, fun i b hi hb' => ?_, fun i hi => ?_⟩
      · show (if 0 = n + 1 then _ else f 0) = []
        rw [if_neg (by omega), h0]
      · show ∃ y, Ins ss ((if i = n + 1 then _ else f i) ++ [b]) y ∧ _ ∧ (if i + 1 = n + 1 then f n ++ [m[n]] ++ x else f (i + 1)) = (if i = n + 1 then f n ++ [m[n]] ++ x else f i) ++ [b] ++ y
        rw [if_neg (show ¬ i = n + 1 by omega)]
        by_cases e : i = n
        · subst e
          rw [hb] at hb'
          cases hb'
          rw [if_pos rfl]
          exact ⟨x, hx, hx19, rfl⟩
        · rw [if_neg (by omega)]
          exact h1 i b (by omega) hb'
      · show Body ss (m.take i) (if i = n + 1 then _ else f i) ∧ (if i = n + 1 then f n ++ [m[n]] ++ x else f i).length ≤ (N + 1) * i
        by_cases e : i = n + 1
        · subst e
          rw [if_pos rfl, List.take_add_one, hb]
          refine ⟨.snoc hB hx, ?_⟩
          rw [List.length_append, List.length_append, List.length_cons, List.length_nil, Nat.mul_add]
          omega
        · rw [if_neg e]
          exact h2 i (by omega)
  obtain ⟨f, h0, h1, h2⟩ := step m.length (Nat.le_refl _)
  exact ⟨f, h0, fun i b hb => h1 i b (List.getElem?_eq_some_iff.mp hb).1 hb, h2⟩
theorem Ins.itP {ss : List Stf} {l x : List Bool} (h : Ins ss l x) : ∀ n, itP ss n l = l ++ x.take n := by
  induction h with
  | stop h => intro n; rw [itP_stop h, List.take_nil, List.append_nil]
  | @more l x b h _ ih =>
    intro n
    cases n with
    | zero => rw [List.take_zero, List.append_nil]; rfl
    | succ n =>
      have es : stP ss l = l ++ [b] := by unfold stP; rw [h]
      show U.itP ss n (stP ss l) = _
      rw [es, ih n, List.append_assoc]
      rfl
theorem ins_of_itP {ss : List Stf} {l y : List Bool} {j : Nat} (h : itP ss j l = l ++ y) (hn : putM ss (l ++ y) = none) (hj : y.length = j) : Ins ss l y := by
  rcases itP_or ss (j + 1) l with c | ⟨x, hx, e⟩
  · rw [itP_succ, h] at c
    unfold stP at c
    rw [hn] at c
    have c' : (l ++ y).length = l.length + (j + 1) := c
    rw [List.length_append] at c'
    omega
  · rw [itP_succ, h] at e
    unfold stP at e
    rw [hn] at e
    have e' : l ++ y = l ++ x := e
    rw [List.append_cancel_left e']
    exact hx
/-- the line for a message, as a function -/
def bodyF (ss : List Stf) (m : List Bool) : List Bool := m.foldl (fun l b => itP ss 40 (l ++ [b])) []
theorem Body.isF {ss : List Stf} (o : OkN 39 ss) {m l : List Bool} (h : Body ss m l) : l = bodyF ss m := by
  induction h with
  | nil => rfl
  | @snoc m l x b hb hi ih =>
    obtain ⟨y, hy, h39⟩ := o l hb.reach b
    have e := hi.det hy
    subst e
    unfold bodyF
    rw [List.foldl_append]
    show _ = itP ss 40 (bodyF ss m ++ [b])
    rw [← ih, hi.itP, List.take_of_length_le (by omega)]
theorem body_ex {ss : List Stf} (o : OkN 39 ss) (m : List Bool) : Body ss m (bodyF ss m) := by
  obtain ⟨f, _, _, h⟩ := body_steps o m
  have := (h m.length (Nat.le_refl _)).1
  rw [List.take_length] at this
  rw [← this.isF o]
  exact this
end U

set_option maxRecDepth 100000
set_option maxHeartbeats 4000000
namespace U
open PySem PySem.Spec PyProof.Rows L2
def top (i : Nat) : Stmt := PySem.Challenge.pw_unseenflips_k55_unseen_hits_counted.main.body.getD i (.Pass ⟨0, 0, 0, 0⟩)
abbrev s_wall : Stmt := top 0
abbrev s_InvalidRule_init : Stmt := inClass (top 3) 0
abbrev s_InvalidCheck_init : Stmt := inClass (top 4) 0
abbrev s_InvalidText_init : Stmt := inClass (top 5) 0
abbrev s_InvalidHits_init : Stmt := inClass (top 6) 0
abbrev s_is_integer : Stmt := top 9
abbrev s_is_number : Stmt := top 10
abbrev s_is_sequence : Stmt := top 11
abbrev s_is_word : Stmt := top 12
abbrev s_is_bit : Stmt := top 13
abbrev s_other : Stmt := top 14
abbrev s_all_words : Stmt := top 15
abbrev s_tail : Stmt := top 16
abbrev s_Check_init : Stmt := inClass (top 19) 0
abbrev s_Check_read : Stmt := inClass (top 19) 1
abbrev s_Check_degree : Stmt := inClass (top 19) 2
abbrev s_Check_rest : Stmt := inClass (top 19) 3
abbrev s_Check_step : Stmt := inClass (top 19) 4
abbrev s_Check_bits_for : Stmt := inClass (top 19) 5
abbrev s_Check_is_good : Stmt := inClass (top 19) 6
abbrev s_Check_eq : Stmt := inClass (top 19) 7
abbrev s_Check_str : Stmt := inClass (top 19) 8
abbrev s_Check_iter : Stmt := inClass (top 19) 9
abbrev s_arriving : Stmt := top 22
abbrev s_is_hit : Stmt := top 23
abbrev s_hit : Stmt := top 24
abbrev s_put_behind : Stmt := top 26
abbrev s_body : Stmt := top 27
abbrev s_taken_out : Stmt := top 28
abbrev s_read_part : Stmt := top 29
abbrev s_receive : Stmt := top 30
abbrev s_ways_of : Stmt := top 33
abbrev s_all_hits : Stmt := top 34
abbrev s_way_of : Stmt := top 35
abbrev s_count_unseen : Stmt := top 36
abbrev s_is_stuff : Stmt := top 38
abbrev s_are_stuffs : Stmt := top 39
abbrev s_stuff_in : Stmt := top 40
abbrev s_Rule_init : Stmt := inClass (top 41) 0
abbrev s_Rule_read : Stmt := inClass (top 41) 1
abbrev s_Rule_longest : Stmt := inClass (top 41) 2
abbrev s_Rule_swapped : Stmt := inClass (top 41) 3
abbrev s_Rule_put : Stmt := inClass (top 41) 4
abbrev s_Rule_put_in : Stmt := inClass (top 41) 5
abbrev s_Rule_is_endless : Stmt := inClass (top 41) 6
abbrev s_Rule_len : Stmt := inClass (top 41) 7
abbrev s_Rule_iter : Stmt := inClass (top 41) 8
abbrev s_Rule_eq : Stmt := inClass (top 41) 9
abbrev s_Rule_str : Stmt := inClass (top 41) 10
abbrev s_l_seed : Stmt := top 43
abbrev s_l_choose : Stmt := top 44
abbrev s_l_one_of : Stmt := top 45
abbrev s_l_word : Stmt := top 46
abbrev s_l_words : Stmt := top 47
abbrev s_l_put : Stmt := top 48
abbrev s_l_is_rule : Stmt := top 49
abbrev s_l_rule : Stmt := top 50
abbrev s_l_made : Stmt := top 51
abbrev s_l_body : Stmt := top 52
abbrev s_l_read : Stmt := top 53
abbrev s_l_check : Stmt := top 54
abbrev s_l_rest : Stmt := top 55
abbrev s_l_is_good : Stmt := top 56
abbrev s_l_bits_for : Stmt := top 57
abbrev s_l_receive : Stmt := top 58
abbrev s_l_arrived : Stmt := top 59
abbrev s_l_hit_rows : Stmt := top 60
abbrev s_l_way : Stmt := top 61
abbrev s_l_kinds : Stmt := top 62
abbrev s_l_counts : Stmt := top 63
abbrev s_law : Stmt := top 64
structure Tx (mg : Str → Option Value) : Prop where
  b_len : mg "len" = none
  b_abs : mg "abs" = none
  b_int : mg "int" = none
  b_range : mg "range" = none
  b_max : mg "max" = none
  b_min : mg "min" = none
  b_enumerate : mg "enumerate" = none
  b_zip : mg "zip" = none
  b_dict : mg "dict" = none
  b_list : mg "list" = none
  b_tuple : mg "tuple" = none
  b_isinstance : mg "isinstance" = none
  b_bool : mg "bool" = none
  b_str : mg "str" = none
  b_all : mg "all" = none
  b_any : mg "any" = none
  b_sum : mg "sum" = none
  b_sorted : mg "sorted" = none
  b_repr : mg "repr" = none
end U

set_option maxRecDepth 100000
set_option maxHeartbeats 4000000
namespace U
open PySem PySem.Spec PyProof.Rows
open L2 hiding Fun CX0 E0 pass0 Fun.binds
open C8 Lx
local macro_rules | `(tactic| walk_at "g") => `(tactic| repeat (first | (refine ⟨_, rfl, ?_⟩) | (refine ⟨_, _, rfl, rfl, ?_⟩) | (refine ⟨rfl, ?_⟩) | (refine .inl ⟨_, rfl, ?_⟩)))
/-- the box: a list of two ints -/
def Box (H : Hp) (b : Addr) : Prop := ∃ x y : Int, H b = some (.lst [.int x, .int y])
/-- all but the box at b stands as it stood; the box is a box -/
def Up (b : Addr) (H H' : Hp) : Prop := (∀ c o, H c = some o → c ≠ b → H' c = some o) ∧ Box H' b
theorem Box.same {b : Addr} {H H' : Hp} (h : Box H b) (y : Same H H') : Box H' b := by obtain ⟨i, j, e⟩ := h; exact ⟨i, j, y _ _ e⟩
theorem Up.refl {b : Addr} {H : Hp} (h : Box H b) : Up b H H := ⟨fun _ _ e _ => e, h⟩
theorem Up.trans {b : Addr} {H H1 H2 : Hp} (x : Up b H H1) (y : Up b H1 H2) : Up b H H2 := ⟨fun c o e n => y.1 c o (x.1 c o e n) n, y.2⟩
theorem Up.same {b : Addr} {H H1 H2 : Hp} (x : Up b H H1) (y : Same H1 H2) : Up b H H2 := ⟨fun c o e n => y c o (x.1 c o e n), x.2.same y⟩
theorem Up.of_same {b : Addr} {H H2 : Hp} (h : Box H b) (y : Same H H2) : Up b H H2 := (Up.refl h).same y
theorem same_upd {H : Hp} {p : Addr} {o : HO} (h : H p = none) : Same H (upd H p o) := fun b x e => by
  rw [upd_ne (ne_of_none e h)]
  exact e
theorem same_mut' {H H1 : Hp} {p : Addr} {o : HO} (s : Same H H1) (n : H p = none) : Same H (upd H1 p o) := fun c u e => by
  rw [upd_ne (ne_of_none e n)]
  exact s _ _ e
theorem Box.ne {H : Hp} {b p : Addr} (h : Box H b) (n : H p = none) : p ≠ b := by
  obtain ⟨i, j, e⟩ := h
  intro z
  rw [z, e] at n
  cases n
/-- a thing that is no list of two ints is not the box -/
theorem Box.neT {H : Hp} {b p : Addr} {xs : List V} (h : Box H b) (n : H p = some (.tup xs)) : p ≠ b := by
  obtain ⟨i, j, e⟩ := h
  intro z
  rw [z, e] at n
  cases n
/-- an object that H doesn't know, changed -/
theorem Up.mut {b : Addr} {H H1 : Hp} {p : Addr} {o : HO} (x : Up b H H1) (h : H p = none) (n : p ≠ b) : Up b H (upd H1 p o) :=
  ⟨fun c u e nc => by rw [upd_ne (ne_of_none e h)]; exact x.1 c u e nc, by obtain ⟨i, j, e⟩ := x.2; exact ⟨i, j, by rw [upd_ne (Ne.symm n)]; exact e⟩⟩
theorem Up.free {b : Addr} {H H1 : Hp} {p : Addr} (x : Up b H H1) (h : H1 p = none) : H p = none := by
  cases e : H p with
  | none => rfl
  | some o =>
    by_cases n : p = b
    · obtain ⟨i, j, e2⟩ := x.2
      rw [n, e2] at h
      cases h
    · rw [x.1 p o e n] at h
      cases h
/-- what is no list stands as it stood -/
def NL (H H' : Hp) : Prop := ∀ c o, H c = some o → (∀ xs, o ≠ .lst xs) → H' c = some o
theorem NL.refl (H : Hp) : NL H H := fun _ _ e _ => e
theorem NL.trans {H H1 H2 : Hp} (a : NL H H1) (b : NL H1 H2) : NL H H2 := fun c o e n => b c o (a c o e n) n
theorem NL.of {H H' : Hp} (s : Same H H') : NL H H' := fun c o e _ => s c o e
theorem Up.nl {b : Addr} {H H' : Hp} (hb : Box H b) (u : Up b H H') : NL H H' := fun c o e n => u.1 c o e fun z => by
  obtain ⟨i, j, hb⟩ := hb
  rw [z, hb] at e
  exact n _ (Option.some.inj e).symm
theorem nl_upd {H : Hp} {q : Addr} {xs : List V} {o : HO} (h : H q = some (.lst xs)) : NL H (upd H q o) := fun c u e n => by
  have nq : c ≠ q := fun z => by
    rw [z, h] at e
    exact n _ (Option.some.inj e).symm
  rw [upd_ne nq]
  exact e
theorem NL.tup {H H' : Hp} {a : Addr} {xs : List V} (n : NL H H') (h : H a = some (.tup xs)) : H' a = some (.tup xs) := n _ _ h fun _ z => by cases z
theorem NL.ins {H H' : Hp} {a C dx : Addr} {fs : List (Str × V)} (n : NL H H') (h : H a = some (.ins C dx fs)) : H' a = some (.ins C dx fs) := n _ _ h fun _ z => by cases z
def spSeed (K : PySem.W.Frag) : Sp := fun vs H Q _ => ∃ (a : Addr) (ns : List Int) (k : Nat), vs = [.ref a, .int k] ∧ SqL K H a (ns.map V.int) ∧
  ∀ p H', H p = none → Same H H' → Box H' p → Q (.ref p) H'
def spChoose : Sp := fun vs H Q _ => ∃ (b : Addr) (m : Int), vs = [.ref b, .int m] ∧ Box H b ∧ 0 < m ∧ m < 1073741824 ∧
  ∀ (d : Int) H', 0 ≤ d → d < m → Up b H H' → Q (.int d) H'
def spOneOf : Sp := fun vs H Q _ => ∃ (b l : Addr) (xs : List V), vs = [.ref b, .ref l] ∧ Box H b ∧ H l = some (.lst xs) ∧ l ≠ b ∧ 0 < xs.length ∧ xs.length < 1000 ∧
  ∀ (v : V) H', v ∈ xs → Up b H H' → Q v H'
theorem cell_at {ns : List Int} {k : Int} (h0 : 0 ≤ k) (h1 : k < ns.length) : ∃ z, atI (ns.map V.int) k = some (V.int z) := by
  obtain ⟨j, rfl⟩ := Int.eq_ofNat_of_zero_le h0
  have h2 : j < ns.length := by omega
  exact ⟨ns[j], atI_nat (by simp [h2])⟩
section
variable {P : Program} {w : World} {K : PySem.W.Frag} {mg : Str → Option Value} {base : Heap}
theorem sc_l_choose : FnScope ["_law_box", "_law_many", "_law_digit", "_law_raw"] ["_law_box", "_law_many"] (fnScope s_l_choose) := fnScope_by (by decide +kernel)
theorem cal_l_choose {f : Addr} {fd : FuncData} (F : Def K mg "_law_choose" s_l_choose f fd) (b : Binds K fd ["_law_box", "_law_many"] []) (T : Tx mg) : Cal P w K mg base 1 "_law_choose" spChoose [] := by
  refine cal0 F b .nil sc_l_choose (fun vs H Q E h => ?_) (fun cdv A outer s H vs Q E hr h => ?_)
  · obtain ⟨_, _, rfl, _⟩ := h; rfl
  · obtain ⟨bx, m, rfl, ⟨x, y, hb⟩, m0, m1, k⟩ := h
    refine ⟨_, (pss_cons (ps_if (pt_cmpR op_gt (pe_ix ix_list (pv 0) pe_int (fun _ _ => rfl)) pe_int (nomark _)) (pss_cons (ps_set (i := 2) sc_l_choose.nd rfl (.inl rfl) (pe_op op_mod (pe_callTy call_int1 (by rfl) T.b_int (by decide +kernel) (pa_cons (pe_ix ix_list (pv 0) pe_int (fun _ _ => rfl)) pa_nil)) (pv 1)))
    (pss_cons (ps_asg (pe_op op_fdiv (pe_ix ix_list (pv 0) pe_int (fun _ _ => rfl)) (pv 1)) (pg_sub (pv 0) pe_int set_list))
    (pss_one (ps_ret (pv 2))))) pss_nil)
    (pss_cons (ps_set (i := 3) sc_l_choose.nd rfl (.inl rfl) (pe_op op_mod (pe_callTy call_int1 (by rfl) T.b_int (by decide +kernel) (pa_cons (pe_op op_add (pe_op op_mul (pe_ix ix_list (pv 0) pe_int (fun _ _ => rfl)) pe_int) pe_int) pa_nil)) pe_int))
    (pss_cons (ps_asg (pe_op op_add (pe_op op_mod (pe_callTy call_int1 (by rfl) T.b_int (by decide +kernel) (pa_cons (pe_op op_add (pe_op op_mul (pv 3) pe_int) pe_int) pa_nil)) pe_int) pe_int) (pg_sub (pv 0) pe_int set_list))
    (pss_one (ps_ret (pe_op op_mod (pe_callTy call_int1 (by rfl) T.b_int (by decide +kernel) (pa_cons (pe_op op_fdiv (pe_op op_add (pe_op op_mul (pv 3) pe_int) (pe_ix ix_list (pv 0) pe_int (fun _ _ => rfl))) pe_int) pa_nil)) (pv 1))))))), ?_⟩
    have up : ∀ x' y' : Int, Up bx H (upd H bx (.lst [.int x', .int y'])) := fun x' y' => ⟨fun c o e n => by rw [upd_ne n]; exact e, _, _, upd_same⟩
    refine ⟨_, rfl, bx, _, _, _, rfl, rfl, SqL.of hb, atI_nat (j := 0) rfl, _, _, rfl, rfl, _, rfl, ?_⟩
    refine ite2 (fun h1 => ?_) (fun h1 => ?_)
    · refine ⟨_, rfl, bx, _, _, _, rfl, rfl, SqL.of hb, atI_nat (j := 0) rfl, .inl ⟨_, rfl, _, rfl, _, _, rfl, rfl, m0, ?_⟩⟩
      refine ⟨_, rfl, bx, _, _, _, rfl, rfl, SqL.of hb, atI_nat (j := 0) rfl, _, rfl, _, _, rfl, rfl, ⟨m0, m1⟩, _, rfl, bx, _, _, 0, rfl, rfl, hb, rfl, ?_⟩
      exact ⟨_, rfl, k _ _ (Int.emod_nonneg _ (by omega)) (Int.emod_lt_of_pos _ m0) (up _ _)⟩
    · refine ⟨_, rfl, bx, _, _, _, rfl, rfl, SqL.of hb, atI_nat (j := 1) rfl, _, _, rfl, rfl, .inr ⟨by decide, by decide⟩, _, _, rfl, rfl, .inl ⟨_, rfl, _, _, rfl, rfl, (by show (0 : Int) < 2147483563; decide), ?_⟩⟩
      refine ⟨_, rfl, _, _, rfl, rfl, .inr ⟨by decide, by decide⟩, _, _, rfl, rfl, .inl ⟨_, rfl, _, _, rfl, rfl, (by show (0 : Int) < 2147483629; decide), _, _, rfl, rfl, _, rfl, bx, _, _, 1, rfl, rfl, hb, rfl, ?_⟩⟩
      refine ⟨_, rfl, _, _, rfl, rfl, .inr ⟨by decide, by decide⟩, _, rfl, bx, _, _, _, rfl, rfl, SqL.of upd_same, atI_nat (j := 1) rfl, _, _, rfl, rfl, _, _, rfl, rfl, ⟨by decide, by decide⟩, .inl ⟨_, rfl, _, rfl, _, _, rfl, rfl, m0, ?_⟩⟩
      exact k _ _ (Int.emod_nonneg _ (by omega)) (Int.emod_lt_of_pos _ m0) (up _ _)
theorem sc_l_seed : FnScope ["_law_script", "_law_k", "_law_cell"] ["_law_script", "_law_k"] (fnScope s_l_seed) := fnScope_by (by decide +kernel)
theorem cal_l_seed {f : Addr} {fd : FuncData} (F : Def K mg "_law_seed" s_l_seed f fd) (b : Binds K fd ["_law_script", "_law_k"] []) (T : Tx mg) : Cal P w K mg base 1 "_law_seed" (spSeed K) [] := by
  refine cal0 F b .nil sc_l_seed (fun vs H Q E h => ?_) (fun cdv A outer s H vs Q E hr h => ?_)
  · obtain ⟨_, _, _, rfl, _⟩ := h; rfl
  · obtain ⟨a, ns, n, rfl, hS, k⟩ := h
    refine ⟨_, (pss_cons (ps_set (i := 2) sc_l_seed.nd rfl (.inl rfl) (pe_op op_add (pe_op op_mul pe_int (pv 1)) pe_int))
    (pss_cons (ps_if (pt_cmpR op_lt (pv 1) (pe_callB call_len_seq (by rfl) T.b_len (by decide +kernel) (pa_cons (pv 0) pa_nil)) (nomark _)) (pss_one (ps_set (i := 2) sc_l_seed.nd rfl (.inl rfl) (pe_callB call_abs (by rfl) T.b_abs (by decide +kernel) (pa_cons (pe_ix ix_list (pv 0) (pv 1) (fun _ _ => rfl)) pa_nil)))) (pss_one (ps_if (pt_cmpR op_gt (pe_callB call_len_seq (by rfl) T.b_len (by decide +kernel) (pa_cons (pv 0) pa_nil)) pe_int (nomark _)) (pss_one (ps_set (i := 2) sc_l_seed.nd rfl (.inl rfl) (pe_op op_add (pv 2) (pe_op op_mul (pe_op op_mod (pe_callTy call_int1 (by rfl) T.b_int (by decide +kernel) (pa_cons (pe_callB call_abs (by rfl) T.b_abs (by decide +kernel) (pa_cons (pe_ix ix_list (pv 0) (pe_op op_mod (pe_callTy call_int1 (by rfl) T.b_int (by decide +kernel) (pa_cons (pv 1) pa_nil)) (pe_callB call_len_seq (by rfl) T.b_len (by decide +kernel) (pa_cons (pv 0) pa_nil))) (fun _ _ => rfl)) pa_nil)) pa_nil)) pe_int) pe_int)))) pss_nil)))
    (pss_one (ps_ret (pe_lst (pa_cons (pe_ifExp (pt_cmpR op_ge (pv 2) (pe_op op_pow pe_int pe_int) (nomark _)) (pv 2) pe_int) (pa_cons (pe_op op_add (pe_op op_mod (pe_callTy call_int1 (by rfl) T.b_int (by decide +kernel) (pa_cons (pe_op op_add (pe_op op_mul (pe_op op_mod (pe_callTy call_int1 (by rfl) T.b_int (by decide +kernel) (pa_cons (pv 2) pa_nil)) pe_int) pe_int) (pe_op op_mul pe_int (pv 1))) pa_nil)) pe_int) pe_int) pa_nil))))))), ?_⟩
    have fin : ∀ z : Int, tRet (tLst (tCons (tIf (tTest (tOp (rI0 fun i j => V.bl (decide (j ≤ i))) (tVar 2) (tOp (rI CPow fun i j => V.int (i ^ j.toNat)) (tC (V.int 10)) (tC (V.int 18))))) (tVar 2) (tC (V.int 0))) (tCons (tOp (rI0 fun i j => V.int (i + j)) (tOp (rI (fun _ j => 0 < j) fun i j => V.int (i % j)) (tCB (fun xs H Q => (∃ i, xs = [V.int i] ∧ Q (V.int i) H) ∨ ∃ k, xs = [V.bl k] ∧ Q (V.int (if k = true then 1 else 0)) H) (tCons (tOp (rI0 fun i j => V.int (i + j)) (tOp (rI CMul fun i j => V.int (i * j)) (tOp (rI (fun _ j => 0 < j) fun i j => V.int (i % j)) (tCB (fun xs H Q => (∃ i, xs = [V.int i] ∧ Q (V.int i) H) ∨ ∃ k, xs = [V.bl k] ∧ Q (V.int (if k = true then 1 else 0)) H) (tCons (tVar 2) tNil)) (tC (V.int 2147483629))) (tC (V.int 48271))) (tOp (rI CMul fun i j => V.int (i * j)) (tC (V.int 39019)) (tVar 1))) tNil)) (tC (V.int 2147483629))) (tC (V.int 1))) tNil))) { nx := fun _ H' => Q .non H', rt := Q } [some (.ref a), some (.int n), some (.int z)] H := by
      intro z
      refine ⟨_, rfl, _, _, rfl, rfl, ⟨by decide, by decide, by decide⟩, _, _, rfl, rfl, _, rfl, ?_⟩
      refine ite2 (fun h1 => ?_) (fun h1 => ?_)
      all_goals
        first
          | refine ⟨_, rfl, _, rfl, .inl ⟨_, rfl, _, _, rfl, rfl, (by show (0 : Int) < 2147483629; decide), _, _, rfl, rfl, .inr ⟨by decide, by decide⟩, _, rfl, _, _, rfl, rfl, .inl ⟨by decide, by decide⟩, _, _, rfl, rfl, .inl ⟨_, rfl, _, _, rfl, rfl, (by show (0 : Int) < 2147483629; decide), _, _, rfl, rfl, ?_⟩⟩⟩
          | refine ⟨_, rfl, .inl ⟨_, rfl, _, _, rfl, rfl, (by show (0 : Int) < 2147483629; decide), _, _, rfl, rfl, .inr ⟨by decide, by decide⟩, _, rfl, _, _, rfl, rfl, .inl ⟨by decide, by decide⟩, _, _, rfl, rfl, .inl ⟨_, rfl, _, _, rfl, rfl, (by show (0 : Int) < 2147483629; decide), _, _, rfl, rfl, ?_⟩⟩⟩
        exact ⟨by show 2 ≤ sizeLine; decide, fun p hp => k p _ hp (same_upd hp) ⟨_, _, upd_same⟩⟩
    refine ⟨_, rfl, _, _, rfl, rfl, .inl ⟨by decide, by decide⟩, _, _, rfl, rfl, ?_⟩
    refine ⟨_, rfl, _, rfl, a, _, rfl, .inl hS, _, _, rfl, rfl, _, rfl, ?_⟩
    refine ite2 (fun h1 => ?_) (fun h1 => ?_)
    · have h2 : (n : Int) < ((ns.map V.int).length : Int) := of_decide_eq_true h1
      rw [List.length_map] at h2
      obtain ⟨z, hz⟩ := cell_at (ns := ns) (by omega : (0 : Int) ≤ n) h2
      refine ⟨_, rfl, _, rfl, a, _, _, _, rfl, rfl, hS, hz, _, rfl, ?_⟩
      exact fin _
    · refine ⟨_, rfl, a, _, rfl, .inl hS, _, _, rfl, rfl, _, rfl, ?_⟩
      refine ite2 (fun h3 => ?_) (fun h3 => ?_)
      · have h4 : (0 : Int) < ((ns.map V.int).length : Int) := of_decide_eq_true h3
        have h5 := h4
        rw [List.length_map] at h5
        obtain ⟨z, hz⟩ := cell_at (ns := ns) (k := (n : Int) % ((ns.map V.int).length : Int)) (Int.emod_nonneg _ (by omega)) (by have := Int.emod_lt_of_pos (n : Int) h4; rw [List.length_map] at this ⊢; exact this)
        refine ⟨_, rfl, _, rfl, _, rfl, .inl ⟨_, rfl, _, rfl, a, _, rfl, .inl hS, _, _, rfl, rfl, h4, a, _, _, _, rfl, rfl, hS, hz, _, rfl, .inl ⟨_, rfl, _, _, rfl, rfl, (by show (0 : Int) < 2147483629; decide), _, _, rfl, rfl, .inr ⟨by decide, by decide⟩, _, _, rfl, rfl, ?_⟩⟩⟩
        exact fin _
      · exact fin _
theorem sc_l_one_of : FnScope ["_law_box", "_law_some"] ["_law_box", "_law_some"] (fnScope s_l_one_of) := fnScope_by (by decide +kernel)
theorem cal_l_one_of {f : Addr} {fd : FuncData} (F : Def K mg "_law_one_of" s_l_one_of f fd) (b : Binds K fd ["_law_box", "_law_some"] []) (T : Tx mg) (c_l_choose : Cal P w K mg base 1 "_law_choose" spChoose []) : Cal P w K mg base 2 "_law_one_of" spOneOf [] := by
  refine cal0 F b .nil sc_l_one_of (fun vs H Q E h => ?_) (fun cdv A outer s H vs Q E hr h => ?_)
  · obtain ⟨_, _, _, rfl, _⟩ := h; rfl
  · obtain ⟨bx, l, xs, rfl, hb, hl, nl, x0, x1, k⟩ := h
    refine ⟨_, (pss_one (ps_ret (pe_ix ix_list (pv 1) (pe_c c_l_choose hr (by decide) rfl (pa_cons (pv 0) (pa_cons (pe_callB call_len_seq (by rfl) T.b_len (by decide +kernel) (pa_cons (pv 1) pa_nil)) pa_nil))) (fun _ _ => rfl)))), ?_⟩
    refine ⟨_, rfl, _, rfl, _, rfl, l, _, rfl, .inl (SqL.of hl), bx, _, rfl, hb, by omega, by omega, fun d H' d0 d1 u => ?_⟩
    obtain ⟨j, rfl⟩ := Int.eq_ofNat_of_zero_le d0
    have hj : j < xs.length := by omega
    have g : xs[j]? = some xs[j] := by simp [hj]
    exact ⟨l, xs, _, xs[j], rfl, rfl, SqL.of (u.1 l _ hl nl), atI_nat g, k _ _ (List.getElem_mem hj) u⟩
end
end U

set_option maxRecDepth 100000
set_option maxHeartbeats 4000000
namespace U
open PySem PySem.Spec PyProof.Rows
open L2 hiding Fun CX0 E0 pass0 Fun.binds
open C8 Lx SX
/-! words told -/
def isW (z : Str) : Bool := z.cps.toList.all fun c => decide (c ∈ ("01" : Str).cps.toList)
theorem isW_W (l : List Bool) : isW (W l) = true := by
  unfold isW
  rw [W_tl, List.all_map, List.all_eq_true]
  intro b _
  cases b <;> decide +kernel
/-- is_word of any value: a text, or a thing whose type is not str -/
def spIsWord (K : PySem.W.Frag) : Sp := fun vs H Q _ => ∃ x, vs = [x] ∧ ((∃ z : Str, x = .str z ∧ z.length ≤ 100000 ∧ ∀ H', Same H H' → Q (.bl (isW z)) H') ∨
  (∃ t, TyX K H x t ∧ PySem.W.kitOne K t (.type "str") = some false ∧ Q (.bl false) H))
theorem spIsWord.word {K : PySem.W.Frag} {H : Hp} {Q : VK} {E : XK} {l : List Bool} (hl : l.length ≤ 100000) (k : ∀ H', Same H H' → Q (.bl true) H') : spIsWord K [.str (W l)] H Q E :=
  ⟨_, rfl, .inl ⟨_, rfl, by rw [W_len]; exact hl, fun H' s => by rw [isW_W]; exact k H' s⟩⟩
section
variable {P : Program} {w : World} {K : PySem.W.Frag} {mg : Str → Option Value} {base : Heap}
theorem sc_is_word : FnScope ["value", "sign"] ["value"] (fnScope s_is_word) := fnScope_by (by decide +kernel)
theorem cal_is_word {f : Addr} {fd : FuncData} {tB : Tok} (F : Def K mg "is_word" s_is_word f fd) (b : Binds K fd ["value"] []) (T : Tx mg) (g_BITS : mg "BITS" = some (.str "01" tB)) : Cal P w K mg base 1 "is_word" (spIsWord K) [] := by
  refine cal0 F b .nil sc_is_word (fun vs H Q E h => ?_) (fun cdv A outer s H vs Q E hr h => ?_)
  · obtain ⟨_, rfl, _⟩ := h; rfl
  · obtain ⟨_, rfl, h⟩ := h
    refine ⟨_, (pss_one (ps_ret (pe_and (pe_callB call_isi (by rfl) T.b_isinstance (by decide +kernel) (pa_cons (pv 0) (pa_cons (pe_bltn (v := .ty "str") (u := .type "str") (by rfl) T.b_str (by decide +kernel) rfl) pa_nil))) (pe_one (pe_callB (cr_all rfl) (by rfl) T.b_all (by decide +kernel) (pa_cons (pe_lc (own := [("sign", 1)]) (g := gName 1) (by rfl) sc_is_word.nd (pi_str (pv 0)) (blkOk_by (own := [("sign", 1)]) (N := ["value", "sign"]) (sc := fnScope s_is_word) (by decide +kernel)) (fun _ _ _ _ _ => (pg_name (i := 1) sc_is_word.nd rfl (.inl rfl))) (fun _ _ _ _ _ => pts_nil) (fun _ _ _ _ _ => (pe_cmpR op_in_sign (pv 1) (pe_glob (v := .str "01") (by rfl) g_BITS ⟨_, rfl⟩) (by with_unfolding_all rfl)))) pa_nil)))))), ?_⟩
    rcases h with ⟨z, rfl, hz, k⟩ | ⟨t, ht, hk, k⟩
    · refine ⟨_, rfl, _, _, _, _, true, rfl, .ty _, .base (.str z), kit_ty (by decide +kernel), _, rfl, ?_⟩
      refine ⟨_, rfl, z, rfl, fun D nD => ?_⟩
      refine lc_it walk_str (fun i H2 => Same H H2 ∧ H2 D = some (.lst (((z.cps.toList.take i).map fun c => decide (c ∈ ("01" : Str).cps.toList)).map V.bl))) ⟨same_upd nD, upd_same⟩ (fun _ _ _ _ => trivial) ?_ ?_
      · rintro i x H2 H3 hi ⟨s2, hD⟩ ⟨rfl, c, hc, rfl⟩
        refine ⟨rfl, ?_⟩
        refine ⟨_, rfl, c, _, rfl, rfl, _, hD, ?_, ?_, ?_⟩
        · rw [List.length_map, List.length_map, List.length_take]
          have e : z.length = z.cps.toList.length := TL.len_tl z
          exact sl_lt (by have : z.cps.size = z.cps.toList.length := by simp
                          omega)
        · intro c' o e
          rw [upd_ne (ne_of_none e nD)]
          exact s2 _ _ e
        · have hc' : z.cps.toList[i]? = some c := by rw [Array.getElem?_toList]; exact hc
          rw [upd_same, List.take_add_one, hc']
          simp
      · rintro H2 ⟨s2, hD⟩
        have e : z.cps.toList.take z.cps.size = z.cps.toList := List.take_of_length_le (by simp)
        rw [e] at hD
        refine ⟨D, _, rfl, SqL.of hD, ?_⟩
        have e2 : (List.map (fun c => decide (c ∈ ("01" : Str).cps.toList)) z.cps.toList).all id = isW z := by
          unfold isW
          rw [List.all_map]
          rfl
        rw [e2]
        exact k H2 s2
    · exact ⟨_, rfl, _, _, _, _, false, rfl, .ty _, ht, hk, _, rfl, k⟩
end
end U

set_option maxRecDepth 100000
set_option maxHeartbeats 4000000
namespace Lx
open PySem PySem.Spec PyProof.Rows L2
theorem Sq.of_same {K : PySem.W.Frag} {H H' : Hp} {a : Addr} {xs : List V} (h : Sq K H a xs) (e : Same H H') : Sq K H' a xs := h.same e
/-- a list or a tuple, walked: what holds behind -/
theorem iSeq_var {K : PySem.W.Frag} {i : Nat} {σ : L2.St} {H : Hp} {R : It → Hp → Prop} {a : Addr} {xs : List V} (hv : σ[i]? = some (some (.ref a))) (hS : Sq K H a xs)
    (h : ∀ (J : It) (G : Hp → Prop), (∀ H', Same H H' → G H') → Walk J xs.length G (YAt xs) → R J H) : iSeq K (tVar i) σ H R := by
  rcases hS with hS | hS
  · exact .inl ⟨_, hv, a, rfl, ⟨xs, hS⟩, h _ _ (fun H' s => s.seq hS) walk_list⟩
  · exact .inr ⟨_, hv, a, rfl, ⟨xs, hS⟩, h _ _ (fun H' s => same_tup s hS) walk_tup⟩
theorem iEnumQ_var {K : PySem.W.Frag} {i : Nat} {σ : L2.St} {H : Hp} {R : It → Hp → Prop} {a : Addr} {xs : List V} (hv : σ[i]? = some (some (.ref a))) (hS : Sq K H a xs)
    (h : ∀ (J : It) (G : Hp → Prop), (∀ H', Same H H' → G H') → Walk J xs.length G (YPair (fun i => some (.int (i : Nat))) (fun i => xs[i]?)) → R J H) : iEnumQ K (tCons (tVar i) tNil) σ H R := by
  rcases hS with hS | hS
  · exact .inl ⟨_, hv, a, xs, rfl, hS, h _ _ (fun H' s => s.seq hS) walk_enum⟩
  · exact .inr ⟨_, hv, a, xs, rfl, hS, h _ _ (fun H' s => same_tup s hS) walk_enumT⟩
theorem cut_whole {xs : List V} {lo hi : Option Int} (h1 : HT.sIx xs.length 0 lo = 0) (h2 : HT.sIx xs.length xs.length hi = xs.length) : cutV xs lo hi = xs := by
  unfold cutV
  rw [h1, h2, List.drop_zero, Nat.sub_zero, List.take_length]
theorem slQ_of {K : PySem.W.Frag} {H : Hp} {Q : VK} {a : Addr} {xs : List V} {lo hi : Option Int} (hS : Sq K H a xs) (h : ∀ p H', Same H H' → Sq K H' p (cutV xs lo hi) → Q (.ref p) H') : rSlL K (.ref a) lo hi H Q ∨ rSlA K (.ref a) lo hi H Q := by
  rcases hS with hS | hS
  · exact .inl ⟨a, xs, rfl, hS, fun p hp => h p _ (fun b x e => by rw [upd_ne (ne_of_none e hp)]; exact e) (.inl (SqL.of upd_same))⟩
  · refine .inr ⟨a, xs, rfl, hS, fun c => h a H (Same.refl H) ?_, fun _ p hp => h p _ (fun b x e => by rw [upd_ne (ne_of_none e hp)]; exact e) (.inr (SqT.of upd_same))⟩
    rw [cut_whole c.1 c.2]
    exact .inr hS
theorem Sq.star {K : PySem.W.Frag} {H : Hp} {a : Addr} {xs : List V} (h : Sq K H a xs) : SqT K H a xs ∨ SqL K H a xs := h.elim .inr .inl
end Lx
namespace U
open PySem PySem.Spec PyProof.Rows
open L2 hiding Fun CX0 E0 pass0 Fun.binds
open C8 Lx SX StX
/-! texts -/
theorem W_ends (l p : List Bool) : Txt.endswith (W l) (W p) = p.isSuffixOf l := by
  unfold Txt.endswith
  rw [PySem.StrLaws.subAt_eq, W_len, W_len, W_tl, W_tl, ← List.map_drop, ← List.map_take, Bool.eq_iff_iff, List.isSuffixOf_iff_suffix, Bool.and_eq_true, decide_eq_true_eq, beq_iff_eq]
  constructor
  · rintro ⟨h1, h2⟩
    have h3 := map_bt_inj h2
    rw [List.take_of_length_le (by rw [List.length_drop]; omega)] at h3
    rw [← h3]
    exact List.drop_suffix _ _
  · intro h
    have hl := h.length_le
    refine ⟨by omega, ?_⟩
    rw [List.take_of_length_le (by rw [List.length_drop]; omega), ← List.suffix_iff_eq_drop.mp h]
theorem W_tail (l : List Bool) (n : Nat) : Txt.slice (W l) (some (if (((W l).length : Nat) : Int) - (n : Int) > 0 then (((W l).length : Nat) : Int) - (n : Int) else 0)) none = W (tl n l) := by
  rw [W_drop (by split <;> omega)]
  congr 1
  unfold tl
  rw [W_len]
  congr 1
  split <;> omega
/-! stuffs -/
def StV (H : Hp) (kb : Addr → Stf) (ps : List Addr) : Prop := ∀ t ∈ ps, H t = some (.tup [.str (W (kb t).1), .str (W [(kb t).2])])
theorem StV.same {H H' : Hp} {kb : Addr → Stf} {ps : List Addr} (h : StV H kb ps) (e : Same H H') : StV H' kb ps := fun t ht => e _ _ (h t ht)
theorem StV.nl {H H' : Hp} {kb : Addr → Stf} {ps : List Addr} (h : StV H kb ps) (e : NL H H') : StV H' kb ps := fun t ht => e.tup (h t ht)
theorem StV.perm {H : Hp} {kb : Addr → Stf} {ps qs : List Addr} (h : StV H kb ps) (p : qs.Perm ps) : StV H kb qs := fun t ht => h t (p.mem_iff.mp ht)
def ruF (f : List Bool) (t : Addr) : List (Str × V) := putF "stuffs" (.ref t) (putF "flag" (.str (W f)) [])
theorem fs_ne : ¬ (("flag" : Str) = "stuffs") := by decide +kernel
theorem ruF_flag (f : List Bool) (t : Addr) : (ruF f t).lookup ("flag" : Str) = some (.str (W f)) := by
  unfold ruF
  rw [lookup_putF, if_neg fs_ne, lookup_putF, if_pos rfl]
theorem ruF_stuffs (f : List Bool) (t : Addr) : (ruF f t).lookup ("stuffs" : Str) = some (.ref t) := by
  unfold ruF
  rw [lookup_putF, if_pos rfl]
theorem ruF_no (f : List Bool) (t : Addr) {m : Str} (h1 : ¬ m = "stuffs") (h2 : ¬ m = "flag") : (ruF f t).lookup m = none := by
  unfold ruF
  rw [lookup_putF, if_neg h1, lookup_putF, if_neg h2]
  all_goals rfl
def RuAt (C : Addr) (H : Hp) (a : Addr) (f : List Bool) (ss : List Stf) : Prop :=
  ∃ dx t ps kb, H a = some (.ins C dx (ruF f t)) ∧ H t = some (.tup (ps.map V.ref)) ∧ StV H kb ps ∧ ss = ps.map kb
theorem RuAt.same {C : Addr} {H H' : Hp} {a : Addr} {f : List Bool} {ss : List Stf} (h : RuAt C H a f ss) (e : Same H H') : RuAt C H' a f ss := by
  obtain ⟨dx, t, ps, kb, h1, h2, h3, h4⟩ := h
  exact ⟨dx, t, ps, kb, e _ _ h1, e _ _ h2, h3.same e, h4⟩
theorem RuAt.nl {C : Addr} {H H' : Hp} {a : Addr} {f : List Bool} {ss : List Stf} (h : RuAt C H a f ss) (e : NL H H') : RuAt C H' a f ss := by
  obtain ⟨dx, t, ps, kb, h1, h2, h3, h4⟩ := h
  exact ⟨dx, t, ps, kb, e.ins h1, e.tup h2, h3.nl e, h4⟩
def longM (ss : List Stf) : Nat := ss.foldr (fun s m => max s.1.length m) 0
theorem longM_le : ∀ {ss : List Stf} {s : Stf}, s ∈ ss → s.1.length ≤ longM ss
  | x :: r, s, h => by
    show s.1.length ≤ max x.1.length (longM r)
    rcases List.mem_cons.mp h with e | h
    · rw [e]; omega
    · have := longM_le h; omega
theorem longM_max : ∀ {ss : List Stf} {n : Nat}, (∀ s ∈ ss, s.1.length ≤ n) → longM ss ≤ n
  | [], _, _ => Nat.zero_le _
  | x :: r, n, h => by
    have := longM_max (ss := r) fun s hs => h s (List.mem_cons_of_mem _ hs)
    have := h x List.mem_cons_self
    show max x.1.length (longM r) ≤ n
    omega
theorem longM_perm {ss ts : List Stf} (p : ss.Perm ts) : longM ss = longM ts :=
  Nat.le_antisymm (longM_max fun s hs => longM_le (p.mem_iff.mp hs)) (longM_max fun s hs => longM_le (p.mem_iff.mpr hs))
theorem longM_is {ss : List Stf} {m : Int} (hm : m ∈ (0 : Int) :: ss.map fun s => (s.1.length : Int)) (hx : ∀ y ∈ (0 : Int) :: ss.map fun s => (s.1.length : Int), y ≤ m) : m = (longM ss : Nat) := by
  have h0 := hx 0 List.mem_cons_self
  have h1 : longM ss ≤ m.toNat := longM_max fun s hs => by
    have := hx _ (List.mem_cons_of_mem _ (List.mem_map_of_mem (f := fun s : Stf => (s.1.length : Int)) hs))
    omega
  rcases List.mem_cons.mp hm with e | h
  · omega
  · obtain ⟨s, hs, rfl⟩ := List.mem_map.mp h
    have := longM_le hs
    omega
def oB : Option Bool → V
  | none => .non
  | some b => .str (W [b])
theorem oB_non (o : Option Bool) : decide (oB o = .non) = o.isNone := by
  cases o with
  | none => exact decide_eq_true rfl
  | some b => exact decide_eq_false (fun z => by cases z)
/-- the class as the top leaves it -/
structure RuT (K : PySem.W.Frag) (C : Addr) : Prop where
  cl : Cls K C
  nF : NoAttr K C "flag"
  nS : NoAttr K C "stuffs"
def spIsSeq (K : PySem.W.Frag) : Sp := fun vs H Q _ => ∃ a xs, vs = [.ref a] ∧ Sq K H a xs ∧ ∀ H', Same H H' → Q (.bl true) H'
def spIsBit : Sp := fun vs H Q _ => ∃ b, vs = [.str (W [b])] ∧ ∀ H', Same H H' → Q (.bl true) H'
def spIsStuff : Sp := fun vs H Q _ => ∃ (t : Addr) (p : List Bool) (b : Bool), vs = [.ref t] ∧ H t = some (.tup [.str (W p), .str (W [b])]) ∧ p ≠ [] ∧ p.length ≤ 1000 ∧ ∀ H', Same H H' → Q (.bl true) H'
def spTail : Sp := fun vs H Q _ => ∃ (l : List Bool) (n : Nat), vs = [.str (W l), .int n] ∧ l.length ≤ 100000 ∧ Q (.str (W (tl n l))) H
def spLongest (C : Addr) : Sp := fun vs H Q _ => ∃ (a : Addr) (f : List Bool) (ss : List Stf), vs = [.ref a] ∧ RuAt C H a f ss ∧ ss.length ≤ 1000 ∧ (∀ s ∈ ss, s.1.length ≤ 1000) ∧ ∀ H', Same H H' → Q (.int (longM ss : Nat)) H'
def spPut (C : Addr) : Sp := fun vs H Q _ => ∃ (a : Addr) (f : List Bool) (ss : List Stf) (l : List Bool), vs = [.ref a, .str (W l)] ∧ RuAt C H a f ss ∧ ∀ H', Same H H' → Q (oB (putM ss l)) H'
section
variable {P : Program} {w : World} {K : PySem.W.Frag} {mg : Str → Option Value} {base : Heap}
theorem sc_is_sequence : FnScope ["value"] ["value"] (fnScope s_is_sequence) := fnScope_by (by decide +kernel)
theorem cal_is_sequence {f : Addr} {fd : FuncData} (F : Def K mg "is_sequence" s_is_sequence f fd) (b : Binds K fd ["value"] []) (T : Tx mg) : Cal P w K mg base 1 "is_sequence" (spIsSeq K) [] := by
  refine cal0 F b .nil sc_is_sequence (fun vs H Q E h => ?_) (fun cdv A outer s H vs Q E hr h => ?_)
  · obtain ⟨_, _, rfl, _⟩ := h; rfl
  · obtain ⟨a, xs, rfl, hS, k⟩ := h
    refine ⟨_, (pss_one (ps_ret (pe_callB call_isiT (by rfl) T.b_isinstance (by decide +kernel) (pa_cons (pv 0) (pa_cons (pe_tup (pa_cons (pe_bltn (v := .ty "list") (u := .type "list") (by rfl) T.b_list (by decide +kernel) rfl) (pa_cons (pe_bltn (v := .ty "tuple") (u := .type "tuple") (by rfl) T.b_tuple (by decide +kernel) rfl) pa_nil))) pa_nil))))), ?_⟩
    refine ⟨_, rfl, by show 2 ≤ sizeLine; decide, fun tp htp => ?_⟩
    have hS' := hS.same (same_upd (o := .tup [.ty "list", .ty "tuple"]) htp)
    rcases hS' with hS' | hS'
    · exact ⟨_, tp, _, _, _, true, rfl, upd_same, .cons (.ty _) (.cons (.ty _) .nil), ty_list hS', by first | exact kit_any (by decide +kernel) | rfl | decide +kernel, k _ (same_upd htp)⟩
    · exact ⟨_, tp, _, _, _, true, rfl, upd_same, .cons (.ty _) (.cons (.ty _) .nil), ty_tup hS', by first | exact kit_any (by decide +kernel) | rfl | decide +kernel, k _ (same_upd htp)⟩
theorem sc_is_bit : FnScope ["value"] ["value"] (fnScope s_is_bit) := fnScope_by (by decide +kernel)
theorem cal_is_bit {f : Addr} {fd : FuncData} (F : Def K mg "is_bit" s_is_bit f fd) (b : Binds K fd ["value"] []) (T : Tx mg) (c_is_word : Cal P w K mg base 1 "is_word" (spIsWord K) []) : Cal P w K mg base 2 "is_bit" spIsBit [] := by
  refine cal0 F b .nil sc_is_bit (fun vs H Q E h => ?_) (fun cdv A outer s H vs Q E hr h => ?_)
  · obtain ⟨_, rfl, _⟩ := h; rfl
  · obtain ⟨x, rfl, k⟩ := h
    refine ⟨_, (pss_one (ps_ret (pe_and (pe_c c_is_word hr (by decide) rfl (pa_cons (pv 0) pa_nil)) (pe_one (pe_cmpR op_eq (pe_callB call_len_str (by rfl) T.b_len (by decide +kernel) (pa_cons (pv 0) pa_nil)) pe_int (nomark _)))))), ?_⟩
    have l1 : (W [x]).length = 1 := W_len _
    refine ⟨_, rfl, _, rfl, .inl ⟨_, rfl, by rw [l1]; decide, fun H1 s1 => ⟨_, rfl, iteBT (isW_W _) ?_⟩⟩⟩
    refine ⟨_, rfl, _, rfl, by rw [l1]; decide, ?_⟩
    rw [l1]
    exact ⟨rfl, q_dec (Q := Q) rfl (k H1 s1)⟩
theorem sc_is_stuff : FnScope ["value"] ["value"] (fnScope s_is_stuff) := fnScope_by (by decide +kernel)
theorem cal_is_stuff {f : Addr} {fd : FuncData} (F : Def K mg "is_stuff" s_is_stuff f fd) (b : Binds K fd ["value"] []) (T : Tx mg) (c_is_word : Cal P w K mg base 1 "is_word" (spIsWord K) []) (c_is_bit : Cal P w K mg base 2 "is_bit" spIsBit []) : Cal P w K mg base 3 "is_stuff" spIsStuff [] := by
  refine cal0 F b .nil sc_is_stuff (fun vs H Q E h => ?_) (fun cdv A outer s H vs Q E hr h => ?_)
  · obtain ⟨_, _, _, rfl, _⟩ := h; rfl
  · obtain ⟨t, p, x, rfl, ht, hp, hl, k⟩ := h
    refine ⟨_, (pss_cons (ps_if (PW.pt (pw_or (pt_not (pt_val (pe_callB call_isi (by rfl) T.b_isinstance (by decide +kernel) (pa_cons (pv 0) (pa_cons (pe_bltn (v := .ty "tuple") (u := .type "tuple") (by rfl) T.b_tuple (by decide +kernel) rfl) pa_nil))))) (pw_or1 (pt_cmpR op_ne (pe_callB call_len_seq (by rfl) T.b_len (by decide +kernel) (pa_cons (pv 0) pa_nil)) pe_int (nomark _))))) (pss_one (ps_ret pe_bl)) pss_nil)
    (pss_one (ps_ret (pe_and (pe_c c_is_word hr (by decide) rfl (pa_cons (pe_ix ix_tup (pv 0) pe_int (fun _ _ => rfl)) pa_nil)) (pe_and (pe_cmpR op_gt (pe_callB call_len_str (by rfl) T.b_len (by decide +kernel) (pa_cons (pe_ix ix_tup (pv 0) pe_int (fun _ _ => rfl)) pa_nil)) pe_int (nomark _)) (pe_one (pe_c c_is_bit hr (by decide) rfl (pa_cons (pe_ix ix_tup (pv 0) pe_int (fun _ _ => rfl)) pa_nil)))))))), ?_⟩
    have lp : (W p).length ≤ sizeLine := by rw [W_len]; exact sl_len (by omega)
    refine ⟨_, rfl, _, _, _, _, true, rfl, .ty _, .base (.tup ht), kit_ty (by decide +kernel), _, rfl, ?_⟩
    refine ⟨_, rfl, t, _, rfl, .inr (SqT.of ht), rfl, _, rfl, iteNS rfl ?_⟩
    refine ⟨_, rfl, t, _, 0, _, rfl, rfl, SqT.of ht, rfl, _, rfl, .inl ⟨_, rfl, by rw [W_len]; omega, fun H1 s1 => ⟨_, rfl, iteBT (isW_W _) ?_⟩⟩⟩
    have ht1 := s1 _ _ ht
    refine ⟨_, rfl, t, _, 0, _, rfl, rfl, SqT.of ht1, rfl, _, rfl, lp, ?_⟩
    refine ⟨_, _, rfl, rfl, _, rfl, iteDT ?_ ?_⟩
    · rw [W_len]
      have : p.length ≠ 0 := fun z => hp (List.length_eq_zero_iff.mp z)
      omega
    · refine ⟨_, rfl, t, _, 1, _, rfl, rfl, SqT.of ht1, rfl, x, rfl, fun H2 s2 => k H2 (s1.trans s2)⟩
theorem sc_tail : FnScope ["line", "size"] ["line", "size"] (fnScope s_tail) := fnScope_by (by decide +kernel)
theorem cal_tail {f : Addr} {fd : FuncData} (F : Def K mg "tail" s_tail f fd) (b : Binds K fd ["line", "size"] []) (T : Tx mg) : Cal P w K mg base 1 "tail" spTail [] := by
  refine cal0 F b .nil sc_tail (fun vs H Q E h => ?_) (fun cdv A outer s H vs Q E hr h => ?_)
  · obtain ⟨_, _, rfl, _⟩ := h; rfl
  · obtain ⟨l, n, rfl, hl, k⟩ := h
    refine ⟨_, (pss_one (ps_ret (pe_slice sl_txt (pv 0) (po_some (pe_callB (call_max2 rfl) (by rfl) T.b_max (by decide +kernel) (pa_cons pe_int (pa_cons (pe_op op_sub (pe_callB call_len_str (by rfl) T.b_len (by decide +kernel) (pa_cons (pv 0) pa_nil)) (pv 1)) pa_nil)))) po_none))), ?_⟩
    have lw : (W l).length ≤ sizeLine := by rw [W_len]; exact sl_len (by omega)
    refine ⟨_, rfl, _, rfl, _, rfl, lw, _, rfl, _, _, rfl, rfl, _, _, rfl, _, rfl, _, rfl, lw, ?_⟩
    rw [W_tail]
    exact k
theorem sc_Rule_longest : FnScope ["self", "pattern", "bit"] ["self"] (fnScope s_Rule_longest) := fnScope_by (by decide +kernel)
theorem ok_longest {f C : Addr} {fd : FuncData} (F : C8.Fun K "longest" "Rule.longest" s_Rule_longest f fd) (T : Tx mg) (RT : RuT K C) : FnOk P w K mg base CX0 1 f fd ["self"] (spLongest C) := by
  refine fn0 F sc_Rule_longest (fun vs H Q E h => ?_) (fun cdv A outer s H vs Q E hr h => ?_)
  · obtain ⟨_, _, _, rfl, _⟩ := h; rfl
  · obtain ⟨a, fl, ss, rfl, ⟨dx, t, ps, kb, ha, ht, hs, rfl⟩, hn, hl, k⟩ := h
    refine ⟨_, (pss_one (ps_ret (pe_callB (cr_max rfl) (by rfl) T.b_max (by decide +kernel) (pa_cons (pe_lst (pa_cons pe_int (pa_star (pe_lc (own := [("pattern", 1), ("bit", 2)]) (g := gTup K 2 (gCons (gName 1) (gCons (gName 2) gNil))) (by rfl) sc_Rule_longest.nd (pi_tup (pe_fld (pv 0) rfl)) (blkOk_by (own := [("pattern", 1), ("bit", 2)]) (N := ["self", "pattern", "bit"]) (sc := fnScope s_Rule_longest) (by decide +kernel)) (fun _ _ _ _ _ => (pg_tup rfl (pgs_cons (pg_name (i := 1) sc_Rule_longest.nd rfl (.inl rfl)) (pgs_cons (pg_name (i := 2) sc_Rule_longest.nd rfl (.inl rfl)) pgs_nil)))) (fun _ _ _ _ _ => pts_nil) (fun _ _ _ _ _ => (pe_callB call_len_str (by rfl) T.b_len (by decide +kernel) (pa_cons (pv 1) pa_nil)))) pa_nil))) pa_nil)))), ?_⟩
    refine ⟨_, rfl, a, C, dx, _, _, rfl, ha, RT.cl, RT.nS, ruF_stuffs _ _, t, rfl, ⟨_, SqT.of ht⟩, fun D nD => ?_⟩
    refine lc_it (walk_tup (xs := ps.map V.ref)) (fun i H2 => Same H H2 ∧ H2 D = some (.lst ((((ps.take i).map kb).map fun s => (s.1.length : Int)).map V.int))) ⟨same_upd nD, upd_same⟩ (fun i H2 _ h2 => SqT.of (h2.1 _ _ ht)) ?_ ?_
    · rintro i x H2 H3 hi ⟨s2, hD⟩ ⟨rfl, hx⟩
      rw [List.getElem?_map] at hx
      obtain ⟨q, hq, rfl⟩ := Option.map_eq_some_iff.mp hx
      have hqm : q ∈ ps := List.mem_of_getElem? hq
      have lq : (kb q).1.length ≤ 1000 := hl _ (List.mem_map_of_mem hqm)
      refine ⟨q, _, rfl, SqT.of (s2 _ _ (hs q hqm)), rfl, ?_⟩
      refine ⟨_, _, rfl, _, _, rfl, rfl, rfl, ?_⟩
      refine ⟨_, rfl, _, rfl, by rw [W_len]; exact sl_len (by omega), _, hD, ?_, ?_, ?_⟩
      · rw [List.length_map] at hi
        rw [List.length_map, List.length_map, List.length_map, List.length_take]
        rw [List.length_map] at hn
        exact sl_lt (by omega)
      · intro c' o e
        rw [upd_ne (ne_of_none e nD)]
        exact s2 _ _ e
      · rw [upd_same, List.take_add_one, hq, W_len]
        simp
    · rintro H2 ⟨s2, hD⟩
      rw [List.length_map, List.take_length] at hD
      refine ⟨D, _, rfl, .inr (SqL.of hD), ?_⟩
      have hn' : ps.length ≤ 1000 := by rw [List.length_map] at hn; exact hn
      refine ⟨?_, fun p hp => ?_⟩
      · simp only [List.length_cons, List.length_append, List.length_map, List.length_nil]
        exact sl_len (by omega)
      · refine ⟨p, (0 : Int) :: (ps.map kb).map fun s => (s.1.length : Int), rfl, ?_, by rw [List.length_cons]; omega, fun m hm hx => ?_⟩
        · refine SqL.of (upd_same.trans ?_)
          simp
        · rw [longM_is hm hx]
          exact k _ (s2.trans (same_upd hp))
theorem sc_Rule_put : FnScope ["self", "line", "pattern", "bit"] ["self", "line"] (fnScope s_Rule_put) := fnScope_by (by decide +kernel)
theorem met_put {f C : Addr} {fd : FuncData} (F : C8.Fun K "put" "Rule.put" s_Rule_put f fd) (me : Meth K C "put" f) (b : Binds K fd ["self", "line"] []) (T : Tx mg) (RT : RuT K C) : Met P w K mg base 1 C "put" (spPut C) [] := by
  refine met0 RT.cl me F b sc_Rule_put (fun vs H Q E h => ?_) (fun cdv A outer s H vs Q E hr h => ?_)
  · obtain ⟨_, _, _, _, rfl, _⟩ := h; rfl
  · obtain ⟨a, fl, ss, l, rfl, ⟨dx, t, ps, kb, ha, ht, hs, rfl⟩, k⟩ := h
    refine ⟨_, (pss_cons (ps_for PassesOwn.never rfl (pi_tup (pe_fld (pv 0) rfl)) (pg_tup rfl (pgs_cons (pg_name (i := 2) sc_Rule_put.nd rfl (.inl rfl)) (pgs_cons (pg_name (i := 3) sc_Rule_put.nd rfl (.inl rfl)) pgs_nil)))
    (pss_one (ps_if (pt_val (pe_m1 PySem.F.slot_str_endswith PySem.F.type_str_endswith mt_endswith (pv 1) (pv 2))) (pss_one (ps_ret (pv 3))) pss_nil)))
    (pss_one (ps_ret pe_non))), ?_⟩
    refine ⟨_, rfl, a, C, dx, _, _, rfl, ha, RT.cl, RT.nS, ruF_stuffs _ _, t, rfl, ⟨_, SqT.of ht⟩, ?_⟩
    refine for_it (walk_tup (xs := ps.map V.ref)) (fun i σ H2 => ∃ v2 v3 : Option V, σ = [some (.ref a), some (.str (W l)), v2, v3] ∧ H2 = H ∧ ∀ j q, j < i → ps[j]? = some q → (kb q).1.isSuffixOf l = false) ⟨none, none, rfl, rfl, fun j q hj => absurd hj (Nat.not_lt_zero _)⟩ (fun i σ H2 _ h2 => by obtain ⟨_, _, _, rfl, _⟩ := h2; exact SqT.of ht) ?_ ?_
    · rintro i x σ H2 H3 hi ⟨v2, v3, rfl, rfl, hno⟩ ⟨rfl, hx⟩
      rw [List.getElem?_map] at hx
      obtain ⟨q, hq, rfl⟩ := Option.map_eq_some_iff.mp hx
      have hqm : q ∈ ps := List.mem_of_getElem? hq
      refine ⟨q, _, rfl, SqT.of (hs q hqm), rfl, ?_⟩
      refine ⟨_, _, rfl, _, _, rfl, rfl, ?_⟩
      refine ⟨_, rfl, ⟨_, rfl⟩, _, rfl, _, _, rfl, rfl, _, rfl, ?_⟩
      rw [W_ends]
      cases e : (kb q).1.isSuffixOf l with
      | true =>
        refine ⟨_, rfl, ?_⟩
        have ep : putM (ps.map kb) l = some (kb q).2 := by
          have hf : (ps.map kb).find? (fun s => s.1.isSuffixOf l) = some (kb q) := by
            rw [List.find?_eq_some_iff_getElem]
            have hi' := (List.getElem?_eq_some_iff.mp hq)
            obtain ⟨hi1, hi2⟩ := hi'
            refine ⟨e, i, by rw [List.length_map]; exact hi1, by rw [List.getElem_map, hi2], fun j hj => ?_⟩
            rw [List.getElem_map]
            have := hno j ps[j] hj (List.getElem?_eq_getElem _)
            rw [this]
            rfl
          unfold putM
          rw [hf]
          rfl
        have := k _ (Same.refl _)
        rw [ep] at this
        exact this
      | false =>
        refine ⟨_, _, rfl, rfl, fun j q' hj hq' => ?_⟩
        by_cases ej : j = i
        · subst ej
          rw [hq] at hq'
          cases hq'
          exact e
        · exact hno j q' (by omega) hq'
    · rintro σ H2 ⟨v2, v3, rfl, rfl, hno⟩
      have ep : putM (ps.map kb) l = none := by
        have hf : (ps.map kb).find? (fun s => s.1.isSuffixOf l) = none := by
          rw [List.find?_eq_none]
          intro s hs'
          obtain ⟨q, hq, rfl⟩ := List.mem_map.mp hs'
          obtain ⟨j, hj⟩ := List.getElem?_of_mem hq
          have := hno j q (by rw [List.length_map]; exact (List.getElem?_eq_some_iff.mp hj).1) hj
          rw [this]
          decide
        unfold putM
        rw [hf]
        rfl
      have := k _ (Same.refl _)
      rw [ep] at this
      exact this
end
end U

set_option maxRecDepth 100000
set_option maxHeartbeats 4000000
namespace U
open PySem PySem.Spec PyProof.Rows
open L2 hiding Fun CX0 E0 pass0 Fun.binds
open C8 Lx SX StX
theorem sf_at {ps : List Addr} {kb : Addr → Stf} {i : Nat} {q : Addr} (h : SufFree (ps.map kb)) (hq : ps[i]? = some q) : ∀ q' ∈ ps.take i ++ ps.drop (i + 1), ¬ (kb q').1 <:+ (kb q).1 := by
  obtain ⟨hi, rfl⟩ := List.getElem?_eq_some_iff.mp hq
  have e : ps = ps.take i ++ ps[i] :: ps.drop (i + 1) := by rw [← List.drop_eq_getElem_cons hi, List.take_append_drop]
  unfold SufFree at h
  rw [List.pairwise_map] at h
  generalize ps.take i = A at e ⊢
  generalize ps.drop (i + 1) = B at e ⊢
  generalize ps[i] = q at e ⊢
  rw [e, List.pairwise_append, List.pairwise_cons] at h
  obtain ⟨_, ⟨h2, _⟩, h3⟩ := h
  intro q' hq'
  rcases List.mem_append.mp hq' with m | m
  · exact (h3 q' m q List.mem_cons_self).1
  · exact (h2 q' m).2
theorem cut_to {xs : List V} {i : Nat} (h : i < xs.length) : cutV xs none (some (i : Int)) = xs.take i := by
  unfold cutV
  rw [HT.sIx_none, HT.sIx_nat, List.drop_zero, Nat.sub_zero, Nat.min_eq_left (Nat.le_of_lt h)]
theorem cut_from {xs : List V} {i : Nat} (h : i < xs.length) : cutV xs (some ((i : Int) + 1)) none = xs.drop (i + 1) := by
  unfold cutV
  rw [HT.sIx_none, show ((i : Int) + 1) = ((i + 1 : Nat) : Int) by omega, HT.sIx_nat, Nat.min_eq_left (by omega), List.take_of_length_le (by rw [List.length_drop]; omega)]
/-- stuffs that make a rule -/
structure StOk (ss : List Stf) : Prop where
  few : ss.length ≤ 1000
  pos : ∀ s ∈ ss, s.1 ≠ []
  long : longM ss ≤ 9
  free : SufFree ss
theorem StOk.l9 {ss : List Stf} (h : StOk ss) : ∀ s ∈ ss, s.1.length ≤ 9 := fun s hs => Nat.le_trans (longM_le hs) h.long
theorem StOk.perm {ss ts : List Stf} (h : StOk ss) (p : ss.Perm ts) : StOk ts := ⟨by rw [← p.length_eq]; exact h.few, fun s hs => h.pos s (p.mem_iff.mpr hs), by rw [← longM_perm p]; exact h.long, h.free.perm p⟩
def spAre (K : PySem.W.Frag) : Sp := fun vs H Q _ => ∃ (a : Addr) (ps : List Addr) (kb : Addr → Stf), vs = [.ref a] ∧ Sq K H a (ps.map V.ref) ∧ StV H kb ps ∧ StOk (ps.map kb) ∧ ∀ H', Same H H' → Q (.bl true) H'
def spPutIn (C : Addr) : Sp := fun vs H Q _ => ∃ (a : Addr) (f : List Bool) (ss : List Stf) (l x : List Bool), vs = [.ref a, .str (W l)] ∧ RuAt C H a f ss ∧ ss.length ≤ 1000 ∧ longM ss ≤ 9 ∧ l.length ≤ 50000 ∧ Ins ss l x ∧ ∀ H', Same H H' → Q (.str (W x)) H'
def spEndless (C : Addr) : Sp := fun vs H Q _ => ∃ (a : Addr) (f : List Bool) (ss : List Stf), vs = [.ref a] ∧ RuAt C H a f ss ∧ ss.length ≤ 1000 ∧ longM ss ≤ 9 ∧ OkR ss ∧ ∀ H', Same H H' → Q (.bl false) H'
def kst (ws : List (List Bool)) : List (Key × V) := ws.map fun w => (Sum.inr (W w), V.bl true)
theorem val_in {ws : List (List Bool)} {w : List Bool} (h : w ∈ ws) : valV (kst ws) (Sum.inr (W w)) = some (.bl true) := by
  unfold valV kst
  induction ws with
  | nil => cases h
  | cons x r ih =>
    rw [List.map_cons, List.find?_cons]
    by_cases e : x = w
    · rw [e, decide_eq_true rfl]; rfl
    · rw [decide_eq_false (fun z => e (W_inj (Sum.inr.inj z)))]
      rcases List.mem_cons.mp h with z | h
      · exact absurd z.symm e
      · exact ih h
theorem val_out {ws : List (List Bool)} {w : List Bool} (h : ¬ w ∈ ws) : valV (kst ws) (Sum.inr (W w)) = none := by
  unfold valV kst
  have : (ws.map fun w => ((Sum.inr (W w) : Key), V.bl true)).find? (fun kv => decide (kv.1 = Sum.inr (W w))) = none := by
    rw [List.find?_eq_none]
    intro kv hk
    obtain ⟨x, hx, rfl⟩ := List.mem_map.mp hk
    rw [decide_eq_true_eq]
    intro z
    exact h (W_inj (Sum.inr.inj z) ▸ hx)
  rw [this]
  rfl
theorem put_out {ws : List (List Bool)} {w : List Bool} (h : ¬ w ∈ ws) : putK (kst ws) (Sum.inr (W w)) (.bl true) = kst (ws ++ [w]) := by
  have e : ((kst ws).any fun kv => decide (kv.1 = Sum.inr (W w))) = false := by
    rw [List.any_eq_false]
    intro kv hk
    unfold kst at hk
    obtain ⟨x, hx, rfl⟩ := List.mem_map.mp hk
    rw [decide_eq_true_eq]
    intro z
    exact h (W_inj (Sum.inr.inj z) ▸ hx)
  unfold putK
  rw [e]
  unfold kst
  rw [List.map_append]
  rfl
section
variable {P : Program} {w : World} {K : PySem.W.Frag} {mg : Str → Option Value} {base : Heap}
theorem sc_are_stuffs : FnScope ["value", "one", "at", "stuff", "rest", "pattern", "bit"] ["value"] (fnScope s_are_stuffs) := fnScope_by (by decide +kernel)
theorem cal_are_stuffs {f : Addr} {fd : FuncData} (F : Def K mg "are_stuffs" s_are_stuffs f fd) (b : Binds K fd ["value"] []) (T : Tx mg) (c_is_sequence : Cal P w K mg base 1 "is_sequence" (spIsSeq K) []) (c_is_stuff : Cal P w K mg base 3 "is_stuff" spIsStuff []) : Cal P w K mg base 4 "are_stuffs" (spAre K) [] := by
  refine cal0 F b .nil sc_are_stuffs (fun vs H Q E h => ?_) (fun cdv A outer s H vs Q E hr h => ?_)
  · obtain ⟨_, _, _, rfl, _⟩ := h; rfl
  · obtain ⟨a, ps, kb, rfl, hS, hs, ok, k⟩ := h
    refine ⟨_, (pss_cons (ps_if (PW.pt (pw_or (pt_not (pt_val (pe_c c_is_sequence hr (by decide) rfl (pa_cons (pv 0) pa_nil)))) (pw_or1 (pt_not (pt_val (pe_callB (cr_all rfl) (by rfl) T.b_all (by decide +kernel) (pa_cons (pe_lc (own := [("one", 1)]) (g := gName 1) (by rfl) sc_are_stuffs.nd (pi_seq (pv 0)) (blkOk_by (own := [("one", 1)]) (N := ["value", "one", "at", "stuff", "rest", "pattern", "bit"]) (sc := fnScope s_are_stuffs) (by decide +kernel)) (fun _ _ _ _ _ => (pg_name (i := 1) sc_are_stuffs.nd rfl (.inl rfl))) (fun _ _ _ _ _ => pts_nil) (fun _ _ _ _ _ => (pe_c c_is_stuff hr (by decide) rfl (pa_cons (pv 1) pa_nil)))) pa_nil))))))) (pss_one (ps_ret pe_bl)) pss_nil)
    (pss_cons (ps_for PassesOwn.never rfl (pi_enumQ (by rfl) T.b_enumerate (pa_cons (pv 0) pa_nil)) (pg_tup rfl (pgs_cons (pg_name (i := 2) sc_are_stuffs.nd rfl (.inl rfl)) (pgs_cons (pg_name (i := 3) sc_are_stuffs.nd rfl (.inr rfl)) pgs_nil)))
    (pss_cons (ps_set (i := 4) sc_are_stuffs.nd rfl (.inl rfl) (pe_lst (pa_star (pe_slice (SlR.or sl_list sl_tupA) (pv 0) po_none (po_some (pv 2))) (pa_star (pe_slice (SlR.or sl_list sl_tupA) (pv 0) (po_some (pe_op op_add (pv 2) pe_int)) po_none) pa_nil))))
    (pss_one (ps_if (pt_val (pe_callB (cr_any rfl) (by rfl) T.b_any (by decide +kernel) (pa_cons (pe_lc (own := [("pattern", 5), ("bit", 6)]) (g := gTup K 2 (gCons (gName 5) (gCons (gName 6) gNil))) (by rfl) sc_are_stuffs.nd (pi_list (pv 4)) (blkOk_by (own := [("pattern", 5), ("bit", 6)]) (N := ["value", "one", "at", "stuff", "rest", "pattern", "bit"]) (sc := fnScope s_are_stuffs) (by decide +kernel)) (fun _ _ _ _ _ => (pg_tup rfl (pgs_cons (pg_name (i := 5) sc_are_stuffs.nd rfl (.inl rfl)) (pgs_cons (pg_name (i := 6) sc_are_stuffs.nd rfl (.inl rfl)) pgs_nil)))) (fun _ _ _ _ _ => pts_nil) (fun _ _ _ _ _ => (pe_m1 PySem.F.slot_str_endswith PySem.F.type_str_endswith mt_endswith (pe_ix (show IxR _ (rIxT K) from ix_tup) (pv 3) pe_int (fun _ _ => rfl)) (pv 5)))) pa_nil))) (pss_one (ps_ret pe_bl)) pss_nil))))
    (pss_one (ps_ret pe_bl)))), ?_⟩
    have hn : ps.length ≤ 1000 := by have := ok.few; rw [List.length_map] at this; exact this
    refine ⟨_, rfl, a, _, rfl, hS, fun H1 s1 => ⟨_, rfl, ?_⟩⟩
    have hS1 := hS.same s1
    refine iSeq_var rfl hS1 fun J G hG wk D nD => ?_
    refine lc_it wk (fun i H2 => Same H1 H2 ∧ H2 D = some (.lst ((List.replicate i true).map V.bl))) ⟨same_upd nD, upd_same⟩ (fun i H2 _ h2 => hG _ h2.1) ?_ ?_
    · rintro i x H2 H3 hi ⟨s2, hD⟩ ⟨rfl, hx⟩
      rw [List.getElem?_map] at hx
      obtain ⟨q, hq, rfl⟩ := Option.map_eq_some_iff.mp hx
      have hqm : q ∈ ps := List.mem_of_getElem? hq
      have mk : kb q ∈ ps.map kb := List.mem_map_of_mem hqm
      rw [List.length_map] at hi
      refine ⟨rfl, ?_⟩
      refine ⟨_, rfl, q, (kb q).1, (kb q).2, rfl, (s1.trans s2) _ _ (hs q hqm), ok.pos _ mk, Nat.le_trans (ok.l9 _ mk) (by decide), fun H4 s4 => ⟨_, s4 _ _ hD, ?_, ?_, ?_⟩⟩
      · rw [List.length_map, List.length_replicate]; exact sl_lt (by omega)
      · intro c' o e
        rw [upd_ne (ne_of_none e nD)]
        exact (s2.trans s4) _ _ e
      · rw [upd_same, List.replicate_succ', List.map_append]; rfl
    · rintro H2 ⟨s2, hD⟩
      refine ⟨D, _, rfl, SqL.of hD, _, rfl, ?_⟩
      have et : (List.replicate (ps.map V.ref).length true).all id = true := by simp
      rw [et]
      have hS2 := hS1.same s2
      have s02 := s1.trans s2
      refine iEnumQ_var rfl hS2 fun J G hG wk => ?_
      refine for_it wk (fun i σ H3 => ∃ v1 v2 v3 v4 v5 v6 : Option V, σ = [some (.ref a), v1, v2, v3, v4, v5, v6] ∧ Same H2 H3) ⟨none, none, none, none, none, none, rfl, Same.refl _⟩ (fun i σ H3 _ h3 => by obtain ⟨_, _, _, _, _, _, _, s3⟩ := h3; exact hG _ s3) ?_ ?_
      · rintro i x σ H3 H4 hi ⟨v1, v2, v3, v4, v5, v6, rfl, s3⟩ ⟨T', y1, y2, rfl, nT, rfl, h1, h2⟩
        cases h1
        replace h2 : (ps.map V.ref)[i]? = some y2 := h2
        rw [List.getElem?_map] at h2
        obtain ⟨q, hq, rfl⟩ := Option.map_eq_some_iff.mp h2
        have hqm : q ∈ ps := List.mem_of_getElem? hq
        refine ⟨T', _, rfl, SqT.of upd_same, rfl, _, _, rfl, _, _, rfl, rfl, ?_⟩
        have s4 : Same H2 (upd H3 T' (.tup [.int (i : Nat), .ref q])) := s3.trans (same_upd nT)
        generalize upd H3 T' (.tup [.int (i : Nat), .ref q]) = H4 at s4
        have hS4 := hS2.same s4
        refine ⟨_, rfl, _, rfl, _, rfl, slQ_of hS4 fun p1 H5 s5 h5 => ⟨p1, _, rfl, h5.star, ?_⟩⟩
        refine ⟨_, rfl, _, rfl, _, _, rfl, rfl, _, rfl, slQ_of (hS4.same s5) fun p2 H6 s6 h6 => ⟨p2, _, rfl, h6.star, ?_⟩⟩
        have el : cutV (ps.map V.ref) none (some ((i : Nat) : Int)) ++ (cutV (ps.map V.ref) (some (((i : Nat) : Int) + 1)) none ++ []) = (ps.take i ++ ps.drop (i + 1)).map V.ref := by
          rw [cut_to hi, cut_from hi, List.append_nil, List.map_append, List.map_take, List.map_drop]
        refine ⟨?_, fun R nR => ?_⟩
        · show (cutV (ps.map V.ref) none (some ((i : Nat) : Int)) ++ (cutV (ps.map V.ref) (some (((i : Nat) : Int) + 1)) none ++ [])).length ≤ sizeLine
          rw [el, List.length_map, List.length_append, List.length_take, List.length_drop]
          exact sl_len (by omega)
        · have hR : upd H6 R (.lst (cutV (ps.map V.ref) none (some ((i : Nat) : Int)) ++ (cutV (ps.map V.ref) (some (((i : Nat) : Int) + 1)) none ++ []))) R = some (.lst ((ps.take i ++ ps.drop (i + 1)).map V.ref)) := by rw [upd_same, el]
          have s7 : Same H2 (upd H6 R (.lst (cutV (ps.map V.ref) none (some ((i : Nat) : Int)) ++ (cutV (ps.map V.ref) (some (((i : Nat) : Int) + 1)) none ++ [])))) := ((s4.trans s5).trans s6).trans (same_upd nR)
          show gName 4 _ _ (upd H6 R (.lst (cutV (ps.map V.ref) none (some ((i : Nat) : Int)) ++ (cutV (ps.map V.ref) (some (((i : Nat) : Int) + 1)) none ++ [])))) _
          generalize upd H6 R (.lst (cutV (ps.map V.ref) none (some ((i : Nat) : Int)) ++ (cutV (ps.map V.ref) (some (((i : Nat) : Int) + 1)) none ++ []))) = H7 at hR s7 ⊢
          refine ⟨_, rfl, R, rfl, ⟨_, SqL.of hR⟩, fun D2 nD2 => ?_⟩
          have ne := sf_at ok.free hq
          have hlen : (ps.take i ++ ps.drop (i + 1)).length ≤ 1000 := by
            rw [List.length_append, List.length_take, List.length_drop]; omega
          have hsub : ∀ q' ∈ ps.take i ++ ps.drop (i + 1), q' ∈ ps := fun q' hq' => by
            rcases List.mem_append.mp hq' with m | m
            · exact List.mem_of_mem_take m
            · exact List.mem_of_mem_drop m
          generalize ps.take i ++ ps.drop (i + 1) = rs at hR ne hlen hsub
          refine lc_it (walk_list (xs := rs.map V.ref)) (fun j H8 => Same H7 H8 ∧ H8 D2 = some (.lst ((List.replicate j false).map V.bl))) ⟨same_upd nD2, upd_same⟩ (fun j H8 _ h8 => h8.1.seq (SqL.of hR)) ?_ ?_
          · rintro j x H8 H9 hj ⟨s8, hD2⟩ ⟨rfl, hx⟩
            rw [List.getElem?_map] at hx
            obtain ⟨q', hq', rfl⟩ := Option.map_eq_some_iff.mp hx
            have hm' : q' ∈ rs := List.mem_of_getElem? hq'
            rw [List.length_map] at hj
            have s28 := s02.trans (s7.trans s8)
            refine ⟨q', _, rfl, SqT.of (s28 _ _ (hs q' (hsub _ hm'))), rfl, _, _, rfl, _, _, rfl, rfl, rfl, ?_⟩
            refine ⟨_, rfl, q, _, 0, _, rfl, rfl, SqT.of (s28 _ _ (hs q hqm)), rfl, ⟨_, rfl⟩, _, rfl, _, _, rfl, rfl, _, hD2, ?_, ?_, ?_⟩
            · rw [List.length_map, List.length_replicate]; exact sl_lt (by omega)
            · intro c' o e
              rw [upd_ne (ne_of_none e nD2)]
              exact s8 _ _ e
            · have ef : Txt.endswith (W (kb q).1) (W (kb q').1) = false := by
                rw [W_ends]
                cases e : (kb q').1.isSuffixOf (kb q).1 with
                | false => rfl
                | true => exact absurd (List.isSuffixOf_iff_suffix.mp e) (ne q' hm')
              rw [upd_same, ef, List.replicate_succ', List.map_append]
              rfl
          · rintro H8 ⟨s8, hD2⟩
            refine ⟨D2, _, rfl, SqL.of hD2, _, rfl, ?_⟩
            have et : (List.replicate (rs.map V.ref).length false).any id = false := by simp
            rw [et]
            exact ⟨_, _, _, _, _, _, rfl, s7.trans s8⟩
      · rintro σ H3 ⟨v1, v2, v3, v4, v5, v6, rfl, s3⟩
        exact k H3 (s02.trans s3)
end
end U

set_option maxRecDepth 100000
set_option maxHeartbeats 4000000
namespace U
open PySem PySem.Spec PyProof.Rows
open L2 hiding Fun CX0 E0 pass0 Fun.binds
open C8 Lx SX StX
theorem p10 {n : Nat} (h : n ≤ 9) : 2 ^ (n + 1) ≤ 1024 := Nat.le_trans (Nat.pow_le_pow_right (by decide) (show n + 1 ≤ 10 by omega)) (by decide)
section
variable {P : Program} {w : World} {K : PySem.W.Frag} {mg : Str → Option Value} {base : Heap}
theorem sc_Rule_put_in : FnScope ["self", "line", "found", "known", "bit", "standing"] ["self", "line"] (fnScope s_Rule_put_in) := fnScope_by (by decide +kernel)
theorem met_put_in {f C : Addr} {fd : FuncData} (F : C8.Fun K "put_in" "Rule.put_in" s_Rule_put_in f fd) (me : Meth K C "put_in" f) (b : Binds K fd ["self", "line"] []) (T : Tx mg) (RT : RuT K C)
    (c_put : Met P w K mg base 1 C "put" (spPut C) []) (p_longest : Prp P w K mg base 1 C "longest" (spLongest C)) (c_tail : Cal P w K mg base 1 "tail" spTail []) : Met P w K mg base 3 C "put_in" (spPutIn C) [] := by
  refine met0 RT.cl me F b sc_Rule_put_in (fun vs H Q E h => ?_) (fun cdv A outer s H vs Q E hr h => ?_)
  · obtain ⟨_, _, _, _, _, rfl, _⟩ := h; rfl
  · obtain ⟨a, fl, ss, l, x, rfl, hR, hn, h9, hl, hI, k⟩ := h
    refine ⟨_, (pss_cons (ps_par (i := 2) (j := 3) (by rfl) sc_Rule_put_in.nd rfl rfl (by decide) rfl rfl (pa_cons pe_str (pa_cons pe_dnewK pa_nil)) (by rfl))
    (pss_cons (ps_set (i := 4) sc_Rule_put_in.nd rfl (.inl rfl) (pe_mt (pl := _) c_put hr (by decide) (pv 0) (pa_cons (pv 1) pa_nil)))
    (pss_cons (ps_while PassesOwn.never (pt_cmpR op_notN (pv 4) pe_non (nomark _))
    (pss_cons (ps_set (i := 5) sc_Rule_put_in.nd rfl (.inl rfl) (pe_c c_tail hr (by decide) rfl (pa_cons (pe_op op_add_str (pv 1) (pv 2)) (pa_cons (pe_pr p_longest hr (by decide) (pv 0)) pa_nil))))
    (pss_cons (ps_if (pt_cmp (pc_din (hu_of hr) (pv 5) (pv 3))) (pss_one (ps_ret pe_non)) pss_nil)
    (pss_cons (ps_dput (hu_of hr) (pv 3) (pv 5) pe_bl rfl)
    (pss_cons (ps_aug (i := 2) sc_Rule_put_in.nd rfl (.inl rfl) (pv 4) iop_add_str)
    (pss_one (ps_set (i := 4) sc_Rule_put_in.nd rfl (.inl rfl) (pe_mt (pl := _) c_put hr (by decide) (pv 0) (pa_cons (pe_op op_add_str (pv 1) (pv 2)) pa_nil)))))))))
    (pss_one (ps_ret (pv 2)))))), ?_⟩
    have hL : ∀ s ∈ ss, s.1.length ≤ longM ss := fun s hs => longM_le hs
    have hx : x.length ≤ 1024 := by have := hI.len hL; have := p10 h9; omega
    have hat : ∀ {H2 : Hp}, Same H H2 → ∃ dx t, H2 a = some (.ins C dx (ruF fl t)) := fun s2 => by
      obtain ⟨dx, t, _, _, ha, _⟩ := hR.same s2
      exact ⟨dx, t, ha⟩
    refine fun D nD => ⟨_, _, rfl, ?_⟩
    have s1 : Same H (upd H D (.dK [])) := same_upd nD
    have hD1 : upd H D (.dK []) D = some (.dK []) := upd_same
    generalize upd H D (.dK []) = H1 at s1 hD1
    obtain ⟨dx, t, ha⟩ := hat s1
    refine ⟨_, rfl, a, dx, _, rfl, ha, ruF_no _ _ (by decide +kernel) (by decide +kernel), _, rfl, a, fl, ss, l, rfl, hR.same s1, fun H2 s2 => ?_⟩
    refine ⟨fun m σ H3 => ∃ (j : Nat) (v5 : Option V), j + m = x.length ∧ σ = [some (.ref a), some (.str (W l)), some (.str (W (x.take j))), some (.ref D), some (oB (putM ss (l ++ x.take j))), v5] ∧ Same H H3 ∧ H3 D = some (.dK (kst ((List.range j).map fun i => tl (longM ss) (l ++ x.take i)))),
      ⟨x.length, 0, none, by omega, by rw [List.take_zero, List.append_nil, ← W_nil]; rfl, s1.trans s2, s2 _ _ hD1⟩, ?_⟩
    rintro m σ H3 ⟨j, v5, hj, rfl, s3, hD3⟩
    refine ⟨_, rfl, rfl, _, rfl, ?_⟩
    rw [oB_non]
    by_cases hlt : j < x.length
    · have hb : x[j]? = some x[j] := List.getElem?_eq_getElem hlt
      have hput := hI.at hb
      rw [hput]
      have lx : (x.take j).length ≤ 1024 := by rw [List.length_take]; omega
      have e1 : (W l).length = l.length := W_len l
      have e2 : (W (x.take j)).length = (x.take j).length := W_len _
      refine ⟨fun σ' H' => ∃ m', m' < m ∧ ∃ (j : Nat) (v5 : Option V), j + m' = x.length ∧ σ' = [some (.ref a), some (.str (W l)), some (.str (W (x.take j))), some (.ref D), some (oB (putM ss (l ++ x.take j))), v5] ∧ Same H H' ∧ H' D = some (.dK (kst ((List.range j).map fun i => tl (longM ss) (l ++ x.take i)))), fun _ _ h => h, ?_⟩
      obtain ⟨dx3, t3, ha3⟩ := hat s3
      refine ⟨_, rfl, _, rfl, _, _, rfl, rfl, by rw [e1, e2]; exact sl_len (by omega), _, rfl, a, dx3, _, rfl, ha3, a, fl, ss, rfl, hR.same s3, hn, fun s hs => Nat.le_trans (longM_le hs) (by omega), fun H4 s4 => ?_⟩
      refine ⟨l ++ x.take j, longM ss, by rw [← W_cat]; rfl, by rw [List.length_append]; omega, ?_⟩
      have hD4 := s4 _ _ hD3
      have nin : ¬ tl (longM ss) (l ++ x.take j) ∈ (List.range j).map fun i => tl (longM ss) (l ++ x.take i) := fun hm => by
        obtain ⟨i, hi, e⟩ := List.mem_map.mp hm
        have hi' := List.mem_range.mp hi
        have := hI.apart hL (Nat.le_of_lt (Nat.lt_trans hi' hlt)) (Nat.le_of_lt hlt) e
        omega
      refine ⟨_, rfl, _, rfl, D, _, rfl, DGet.k (k := .inr (W (tl (longM ss) (l ++ x.take j)))) hD4, _, rfl, iteBF (by rw [val_out nin]; rfl) ?_⟩
      refine ⟨_, rfl, _, rfl, D, _, rfl, DPut.k (k := .inr (W (tl (longM ss) (l ++ x.take j)))) hD4 (by unfold kst; rw [List.length_map, List.length_map, List.length_range]; exact sl_lt (by omega)), ?_⟩
      rw [put_out nin]
      have et : x.take (j + 1) = x.take j ++ [x[j]] := by rw [List.take_add_one, hb]; rfl
      have ek : ((List.range j).map fun i => tl (longM ss) (l ++ x.take i)) ++ [tl (longM ss) (l ++ x.take j)] = (List.range (j + 1)).map fun i => tl (longM ss) (l ++ x.take i) := by
        rw [List.range_succ, List.map_append]; rfl
      rw [ek]
      have s5 : Same H (upd H4 D (.dK (kst ((List.range (j + 1)).map fun i => tl (longM ss) (l ++ x.take i))))) := fun c o e => by
        rw [upd_ne (ne_of_none e nD)]
        exact (s3.trans s4) _ _ e
      have hD5 : upd H4 D (.dK (kst ((List.range (j + 1)).map fun i => tl (longM ss) (l ++ x.take i)))) D = some (.dK (kst ((List.range (j + 1)).map fun i => tl (longM ss) (l ++ x.take i)))) := upd_same
      generalize upd H4 D (.dK (kst ((List.range (j + 1)).map fun i => tl (longM ss) (l ++ x.take i)))) = H5 at s5 hD5
      have e3 : (W [x[j]]).length = 1 := W_len _
      refine ⟨_, rfl, _, rfl, _, _, rfl, rfl, by rw [e2, e3]; exact sl_len (by omega), ?_⟩
      rw [W_cat, ← et]
      have e4 : (W (x.take (j + 1))).length = (x.take (j + 1)).length := W_len _
      obtain ⟨dx5, t5, ha5⟩ := hat s5
      refine ⟨_, rfl, a, dx5, _, rfl, ha5, ruF_no _ _ (by decide +kernel) (by decide +kernel), _, rfl, _, rfl, _, _, rfl, rfl, by rw [e1, e4, et, List.length_append]; exact sl_len (by simp only [List.length_cons, List.length_nil]; omega), ?_⟩
      refine ⟨a, fl, ss, l ++ x.take (j + 1), by rw [← W_cat]; rfl, hR.same s5, fun H6 s6 => ?_⟩
      exact ⟨m - 1, by omega, j + 1, _, by omega, rfl, s5.trans s6, s6 _ _ hD5⟩
    · have hj' : j = x.length := by omega
      subst hj'
      rw [List.take_length, hI.end]
      exact ⟨_, rfl, k H3 s3⟩
end
end U

set_option maxRecDepth 100000
set_option maxHeartbeats 4000000
namespace U
open PySem PySem.Spec PyProof.Rows
open L2 hiding Fun CX0 E0 pass0 Fun.binds
open C8 Lx SX StX
/-- the standings that wait, and are known -/
structure Bfs (ss : List Stf) (H H2 : Hp) (q d : Addr) (ws : List (List Bool)) : Prop where
  same : Same H H2
  wait : H2 q = some (.lst (ws.map fun w => V.str (W w)))
  known : H2 d = some (.dK (kst ws))
  nodup : ws.Nodup
  short : ∀ w ∈ ws, w.length ≤ longM ss
  reach : ∀ w ∈ ws, ∃ l, Reach ss l ∧ tl (longM ss) l = w
theorem Bfs.on {ss : List Stf} {H H2 H3 : Hp} {q d : Addr} {ws : List (List Bool)} (b : Bfs ss H H2 q d ws) (s : Same H2 H3) : Bfs ss H H3 q d ws :=
  ⟨b.same.trans s, s _ _ b.wait, s _ _ b.known, b.nodup, b.short, b.reach⟩
theorem Bfs.few {ss : List Stf} {H H2 : Hp} {q d : Addr} {ws : List (List Bool)} (b : Bfs ss H H2 q d ws) : ws.length + 1 ≤ 2 ^ (longM ss + 1) := words_le b.nodup b.short
def key (s : Stf) : Str × Str := (W s.1, W [s.2])
def SortedS (ss : List Stf) : Prop := SrtO.Srtd (fun x y => SrT.lexT (key x) (key y)) ss
def spRuInit (K : PySem.W.Frag) (C : Addr) : Sp := fun vs H Q _ => ∃ (a dx s : Addr) (f : List Bool) (ps : List Addr) (kb : Addr → Stf), vs = [.ref a, .str (W f), .ref s] ∧ H a = some (.ins C dx []) ∧ Sq K H s (ps.map V.ref) ∧ StV H kb ps ∧ StOk (ps.map kb) ∧ OkR (ps.map kb) ∧ 2 ≤ f.length ∧ f.length ≤ 1000 ∧
  ∀ H' ss, (∀ b o, H b = some o → b ≠ a → H' b = some o) → ss.Perm (ps.map kb) → SortedS ss → RuAt C H' a f ss → Q .non H'
theorem pwS {qs : List Addr} {kb : Addr → Stf} (h : SrtO.Srtd (fun x y => SrT.lexT (key (kb x)) (key (kb y))) qs) : SortedS (qs.map kb) := List.pairwise_map.mpr h
section
variable {P : Program} {w : World} {K : PySem.W.Frag} {mg : Str → Option Value} {base : Heap}
theorem sc_Rule_is_endless : FnScope ["self", "waiting", "known", "at", "bit", "line", "more", "standing"] ["self"] (fnScope s_Rule_is_endless) := fnScope_by (by decide +kernel)
theorem met_is_endless {f C : Addr} {fd : FuncData} {tB : Tok} (F : C8.Fun K "is_endless" "Rule.is_endless" s_Rule_is_endless f fd) (me : Meth K C "is_endless" f) (b : Binds K fd ["self"] []) (T : Tx mg) (RT : RuT K C) (g_BITS : mg "BITS" = some (.str "01" tB))
    (c_put_in : Met P w K mg base 3 C "put_in" (spPutIn C) []) (p_longest : Prp P w K mg base 1 C "longest" (spLongest C)) (c_tail : Cal P w K mg base 1 "tail" spTail []) : Met P w K mg base 4 C "is_endless" (spEndless C) [] := by
  refine met0 RT.cl me F b sc_Rule_is_endless (fun vs H Q E h => ?_) (fun cdv A outer s H vs Q E hr h => ?_)
  · obtain ⟨_, _, _, rfl, _⟩ := h; rfl
  · obtain ⟨a, fl, ss, rfl, hR, hn, h9, hO, k⟩ := h
    refine ⟨_, (pss_cons (ps_par3 (i := 1) (j := 2) (l := 3) (by rfl) sc_Rule_is_endless.nd rfl rfl rfl (by decide) (by decide) (by decide) rfl rfl rfl (pa_cons (pe_lst (pa_cons pe_str pa_nil)) (pa_cons (pe_disp (pps_cons pe_str pe_bl pps_nil) (by rfl) (by rfl) (fun z => by cases z) (by decide)) (pa_cons pe_int pa_nil))) (by rfl))
    (pss_cons (ps_while PassesOwn.never (pt_cmpR op_lt (pv 3) (pe_callB call_len_seq (by rfl) T.b_len (by decide +kernel) (pa_cons (pv 1) pa_nil)) (nomark _))
    (pss_cons (ps_for PassesOwn.never rfl (pi_str (pe_glob (v := .str "01") (by rfl) g_BITS ⟨_, rfl⟩)) (pg_name (i := 4) sc_Rule_is_endless.nd rfl (.inl rfl))
    (pss_cons (ps_set (i := 5) sc_Rule_is_endless.nd rfl (.inl rfl) (pe_op op_add_str (pe_ix ix_list (pv 1) (pv 3) (fun _ _ => rfl)) (pv 4)))
    (pss_cons (ps_set (i := 6) sc_Rule_is_endless.nd rfl (.inl rfl) (pe_mt (pl := _) c_put_in hr (by decide) (pv 0) (pa_cons (pv 5) pa_nil)))
    (pss_cons (ps_if (pt_cmpR op_isN (pv 6) pe_non (nomark _)) (pss_one (ps_ret pe_bl)) pss_nil)
    (pss_cons (ps_set (i := 7) sc_Rule_is_endless.nd rfl (.inl rfl) (pe_c c_tail hr (by decide) rfl (pa_cons (pe_op op_add_str (pv 5) (pv 6)) (pa_cons (pe_pr p_longest hr (by decide) (pv 0)) pa_nil))))
    (pss_one (ps_if (pt_cmp (pc_dnotin (hu_of hr) (pv 7) (pv 2))) (pss_cons (ps_dput (hu_of hr) (pv 2) (pv 7) pe_bl rfl)
    (pss_one (ps_expr (pe_bm PySem.F.plainAttrs_list PySem.F.slot_list_append PySem.F.type_list_append mt_append (pv 1) (pa_cons (pv 7) pa_nil))))) pss_nil)))))))
    (pss_one (ps_aug (i := 3) sc_Rule_is_endless.nd rfl (.inl rfl) pe_int ip_add))))
    (pss_one (ps_ret pe_bl)))), ?_⟩
    have hL : ∀ s ∈ ss, s.1.length ≤ longM ss := fun s hs => longM_le hs
    have hpw := p10 h9
    have hat : ∀ {H2 : Hp}, Same H H2 → ∃ dx t, H2 a = some (.ins C dx (ruF fl t)) := fun s2 => by
      obtain ⟨dx, t, _, _, ha, _⟩ := hR.same s2
      exact ⟨dx, t, ha⟩
    refine ⟨by show 1 ≤ sizeLine; decide, fun q nq d nd => ⟨upd_same, [(.inr "", .bl true)], rfl, by decide, _, _, _, rfl, ?_⟩⟩
    have nqd : q ≠ d := fun z => by rw [← z, upd_same] at nd; cases nd
    have b0 : Bfs ss H (upd (upd (upd H q (.lst [.str ""])) d (.dK [])) d (.dK (mergeK [] [(.inr "", .bl true)]))) q d [[]] := by
      refine ⟨fun c o e => ?_, ?_, ?_, ?_, ?_, ?_⟩
      · have n1 := ne_of_none e nq
        have n2 : c ≠ d := fun z => by rw [z] at e n1; rw [upd_ne n1, e] at nd; cases nd
        rw [upd_ne n2, upd_ne n2, upd_ne n1]
        exact e
      · rw [upd_ne nqd, upd_ne nqd, upd_same, W_nil]; rfl
      · rw [upd_same, W_nil]; rfl
      · simp
      · intro w hw; rw [List.mem_singleton.mp hw]; exact Nat.zero_le _
      · intro w hw; rw [List.mem_singleton.mp hw]; exact ⟨[], .nil, by unfold tl; rw [List.drop_nil]⟩
    have nq0 : H q = none := nq
    have nd0 : H d = none := by
      cases e : H d with
      | none => rfl
      | some o => rw [upd_ne (Ne.symm nqd), e] at nd; cases nd
    generalize upd (upd (upd H q (.lst [.str ""])) d (.dK [])) d (.dK (mergeK [] [(.inr "", .bl true)])) = H1 at b0
    refine ⟨fun m σ H2 => ∃ (n : Nat) (ws : List (List Bool)) (v4 v5 v6 v7 : Option V), σ = [some (.ref a), some (.ref q), some (.ref d), some (.int n), v4, v5, v6, v7] ∧ Bfs ss H H2 q d ws ∧ n ≤ ws.length ∧ m + n = 2 ^ (longM ss + 1),
      ⟨2 ^ (longM ss + 1), 0, [[]], none, none, none, none, rfl, b0, Nat.zero_le _, by omega⟩, ?_⟩
    rintro m σ H2 ⟨n, ws, v4, v5, v6, v7, rfl, B2, hn2, hm⟩
    have few2 := B2.few
    refine ⟨_, rfl, _, rfl, q, _, rfl, .inl (SqL.of B2.wait), _, _, rfl, rfl, _, rfl, ?_⟩
    rw [List.length_map]
    by_cases hlt : n < ws.length
    · refine iteDT (by omega) ?_
      refine ⟨fun σ' H' => ∃ m', m' < m ∧ ∃ (n : Nat) (ws : List (List Bool)) (v4 v5 v6 v7 : Option V), σ' = [some (.ref a), some (.ref q), some (.ref d), some (.int n), v4, v5, v6, v7] ∧ Bfs ss H H' q d ws ∧ n ≤ ws.length ∧ m' + n = 2 ^ (longM ss + 1), fun _ _ h => h, ?_⟩
      refine ⟨_, rfl, for_it walk_str (fun i σ H3 => ∃ (ws : List (List Bool)) (v4 v5 v6 v7 : Option V), σ = [some (.ref a), some (.ref q), some (.ref d), some (.int n), v4, v5, v6, v7] ∧ Bfs ss H H3 q d ws ∧ n < ws.length) ⟨ws, _, _, _, _, rfl, B2, hlt⟩ (fun _ _ _ _ _ => trivial) ?_ ?_⟩
      · rintro i x σ H3 H3' hi ⟨ws, v4, v5, v6, v7, rfl, B3, hlt3⟩ ⟨rfl, c, hc, rfl⟩
        have e01 : ("01" : Str) = W [false, true] := by decide +kernel
        rw [e01] at hc
        obtain ⟨bb, _, rfl⟩ := W_get hc
        have hw : (ws.map fun w => V.str (W w))[n]? = some (.str (W ws[n])) := by rw [List.getElem?_map, List.getElem?_eq_getElem hlt3]; rfl
        have hmem : ws[n] ∈ ws := List.getElem_mem hlt3
        generalize ws[n] = w0 at hw hmem
        have hs0 := B3.short _ hmem
        have few3 := B3.few
        obtain ⟨l0, hr0, rfl⟩ := B3.reach _ hmem
        obtain ⟨y, hy⟩ := hO l0 hr0 bb
        have ht0 : tl (longM ss) l0 = tl (longM ss) (tl (longM ss) l0) := (tl_tl (Nat.le_refl _) _).symm
        have hy' := hy.tl hL (tl_snoc (b := bb) ht0)
        have hyl := hy.len hL
        have hnx : tl (longM ss) (l0 ++ [bb] ++ y) = tl (longM ss) (tl (longM ss) l0 ++ [bb] ++ y) := tl_app (tl_snoc (b := bb) ht0) y
        have hrn : Reach ss (l0 ++ [bb] ++ y) := .next hr0 hy
        generalize tl (longM ss) l0 = w0 at *
        have ew : W w0 ++ (⟨#[bt bb]⟩ : Str) = W (w0 ++ [bb]) := W_cat w0 [bb]
        have el : (W w0).length + (⟨#[bt bb]⟩ : Str).length ≤ sizeLine := by
          have e1 : (W w0).length = w0.length := W_len _
          have e2 : (⟨#[bt bb]⟩ : Str).length = 1 := W_len [bb]
          rw [e1, e2]; exact sl_len (by omega)
        refine ⟨_, rfl, _, rfl, q, _, _, _, rfl, rfl, SqL.of B3.wait, atI_nat hw, _, rfl, _, _, rfl, rfl, el, ?_⟩
        rw [ew]
        obtain ⟨dx3, t3, ha3⟩ := hat B3.same
        have hl1 : (w0 ++ [bb]).length ≤ 10 := by rw [List.length_append, List.length_cons, List.length_nil]; omega
        refine ⟨_, rfl, a, dx3, _, rfl, ha3, ruF_no _ _ (by decide +kernel) (by decide +kernel), _, rfl, a, fl, ss, w0 ++ [bb], y, rfl, hR.same B3.same, hn, h9, by omega, hy', fun H4 s4 => ?_⟩
        have B4 := B3.on s4
        refine ⟨_, rfl, rfl, _, rfl, iteDF (fun z => by cases z) ?_⟩
        obtain ⟨dx4, t4, ha4⟩ := hat B4.same
        have e3 : (W (w0 ++ [bb])).length = (w0 ++ [bb]).length := W_len _
        have e4 : (W y).length = y.length := W_len _
        refine ⟨_, rfl, _, rfl, _, _, rfl, rfl, by rw [e3, e4]; exact sl_len (by omega), _, rfl, a, dx4, _, rfl, ha4, a, fl, ss, rfl, hR.same B4.same, hn, fun s hs => Nat.le_trans (longM_le hs) (by omega), fun H5 s5 => ?_⟩
        have B5 := B4.on s5
        refine ⟨w0 ++ [bb] ++ y, longM ss, by rw [← W_cat (w0 ++ [bb]) y]; rfl, by rw [List.length_append]; omega, ?_⟩
        refine ⟨_, rfl, _, rfl, d, _, rfl, DGet.k (k := .inr (W (tl (longM ss) (w0 ++ [bb] ++ y)))) B5.known, _, rfl, ?_⟩
        by_cases hin : tl (longM ss) (w0 ++ [bb] ++ y) ∈ ws
        · refine iteBF (by rw [val_in hin]; rfl) ?_
          exact ⟨ws, _, _, _, _, rfl, B5, hlt3⟩
        · refine iteBT (by rw [val_out hin]; rfl) ?_
          refine ⟨_, rfl, _, rfl, d, _, rfl, DPut.k (k := .inr (W (tl (longM ss) (w0 ++ [bb] ++ y)))) B5.known (by unfold kst; rw [List.length_map]; exact sl_lt (by omega)), ?_⟩
          rw [put_out hin]
          have hW6 : upd H5 d (.dK (kst (ws ++ [tl (longM ss) (w0 ++ [bb] ++ y)]))) q = some (.lst (ws.map fun w => V.str (W w))) := by rw [upd_ne nqd]; exact B5.wait
          refine ⟨_, rfl, .inl ⟨rfl, _, SqL.of hW6⟩, _, rfl, q, _, _, rfl, rfl, hW6, by rw [List.length_map]; exact sl_lt (by omega), ?_⟩
          refine ⟨ws ++ [tl (longM ss) (w0 ++ [bb] ++ y)], _, _, _, _, rfl, ⟨fun c o e => ?_, ?_, ?_, ?_, ?_, ?_⟩, ?_⟩
          · rw [upd_ne (ne_of_none e nq0), upd_ne (ne_of_none e nd0)]
            exact B5.same _ _ e
          · rw [upd_same, List.map_append]; rfl
          · rw [upd_ne (Ne.symm nqd), upd_same]
          · rw [List.nodup_append]
            refine ⟨B5.nodup, by simp, fun u hu v hv e => ?_⟩
            rw [List.mem_singleton.mp hv] at e
            exact hin (e ▸ hu)
          · intro u hu
            rcases List.mem_append.mp hu with m | m
            · exact B5.short _ m
            · rw [List.mem_singleton.mp m]; exact tl_le _ _
          · intro u hu
            rcases List.mem_append.mp hu with m | m
            · exact B5.reach _ m
            · rw [List.mem_singleton.mp m]; exact ⟨_, hrn, hnx⟩
          · rw [List.length_append]; omega
      · rintro σ H3 ⟨ws, v4, v5, v6, v7, rfl, B3, hlt3⟩
        refine ⟨_, rfl, _, _, rfl, rfl, ?_⟩
        refine ⟨m - 1, by omega, n + 1, ws, _, _, _, _, rfl, B3, hlt3, by omega⟩
    · refine iteDF (by omega) ?_
      exact k H2 B2.same
theorem sc_Rule_init : FnScope ["self", "flag", "stuffs"] ["self", "flag", "stuffs"] (fnScope s_Rule_init) := fnScope_by (by decide +kernel)
theorem ok_Rule_init {f C : Addr} {fd : FuncData} (F : C8.Fun K "__init__" "Rule.__init__" s_Rule_init f fd) (T : Tx mg) (RT : RuT K C) (c_is_word : Cal P w K mg base 1 "is_word" (spIsWord K) []) (c_are_stuffs : Cal P w K mg base 4 "are_stuffs" (spAre K) []) (c_is_endless : Met P w K mg base 4 C "is_endless" (spEndless C) []) :
    FnOk P w K mg base CX0 5 f fd ["self", "flag", "stuffs"] (spRuInit K C) := by
  refine fn0 F sc_Rule_init (fun vs H Q E h => ?_) (fun cdv A outer s H vs Q E hr h => ?_)
  · obtain ⟨_, _, _, _, _, _, rfl, _⟩ := h; rfl
  · obtain ⟨a, dx, sq, fl, ps, kb, rfl, ha, hS, hs, ok, hO, h2, hl, k⟩ := h
    refine ⟨_, (pss_cons (ps_if (PW.pt (pw_or (pt_not (pt_val (pe_c c_is_word hr (by decide) rfl (pa_cons (pv 1) pa_nil)))) (pw_or1 (pt_cmpR op_lt (pe_callB call_len_str (by rfl) T.b_len (by decide +kernel) (pa_cons (pv 1) pa_nil)) pe_int (nomark _))))) (pss_one ps_never) pss_nil)
    (pss_cons (ps_if (pt_not (pt_val (pe_c c_are_stuffs hr (by decide) rfl (pa_cons (pv 2) pa_nil)))) (pss_one ps_never) pss_nil)
    (pss_cons (ps_fld (pv 0) (pv 1) rfl)
    (pss_cons (ps_fld (pv 0) (pe_callTy call_tuple_of (by rfl) T.b_tuple (by decide +kernel) (pa_cons (pe_callB cr_sortedT (by rfl) T.b_sorted (by decide +kernel) (pa_cons (pv 2) pa_nil)) pa_nil)) rfl)
    (pss_one (ps_if (pt_val (pe_mt0 (pl := _) c_is_endless hr (by decide) (pv 0))) (pss_one ps_never) pss_nil)))))), ?_⟩
    have lf : (W fl).length = fl.length := W_len fl
    refine ⟨_, rfl, _, rfl, .inl ⟨_, rfl, by rw [lf]; omega, fun H1 s1 => ⟨_, rfl, iteBF (by rw [isW_W]; rfl) ?_⟩⟩⟩
    refine ⟨_, rfl, _, rfl, by rw [lf]; exact sl_len (by omega), _, _, rfl, rfl, _, rfl, iteDF (by rw [lf]; omega) ?_⟩
    refine ⟨_, rfl, sq, ps, kb, rfl, hS.same s1, hs.same s1, ok, fun H2 s2 => ⟨_, rfl, ?_⟩⟩
    have s02 := s1.trans s2
    have ha2 := s02 _ _ ha
    refine ⟨_, rfl, _, rfl, a, C, dx, _, rfl, ha2, RT.cl, RT.nF, by decide, ?_⟩
    have keep3 : ∀ c o, H c = some o → c ≠ a → upd H2 a (.ins C dx (putF "flag" (.str (W fl)) [])) c = some o := fun c o e n => by rw [upd_ne n]; exact s02 _ _ e
    have ha3 : upd H2 a (.ins C dx (putF "flag" (.str (W fl)) [])) a = some (.ins C dx (putF "flag" (.str (W fl)) [])) := upd_same
    have hs3 : StV (upd H2 a (.ins C dx (putF "flag" (.str (W fl)) []))) kb ps := fun t ht => keep3 _ _ (hs t ht) (ne_of (hs t ht) ha (by intro z; cases z))
    have hS3 : SqL K (upd H2 a (.ins C dx (putF "flag" (.str (W fl)) []))) sq (ps.map V.ref) ∨ SqT K (upd H2 a (.ins C dx (putF "flag" (.str (W fl)) []))) sq (ps.map V.ref) := by
      rcases hS with ((h | ⟨o, h⟩) | h) | ((h | ⟨o, h⟩) | h)
      · exact .inl (.inl (.inl (keep3 _ _ h (ne_of h ha (by intro z; cases z)))))
      · exact .inl (.inl (.inr ⟨o, keep3 _ _ h (ne_of h ha (by intro z; cases z))⟩))
      · exact .inl (.inr h)
      · exact .inr (.inl (.inl (keep3 _ _ h (ne_of h ha (by intro z; cases z)))))
      · exact .inr (.inl (.inr ⟨o, keep3 _ _ h (ne_of h ha (by intro z; cases z))⟩))
      · exact .inr (.inr h)
    generalize upd H2 a (.ins C dx (putF "flag" (.str (W fl)) [])) = H3 at keep3 ha3 hs3 hS3
    refine ⟨_, rfl, sq, ps, fun t => key (kb t), rfl, hS3, fun t ht => hs3 t ht, fun qs p1 srt prm n1 => ?_⟩
    refine ⟨p1, _, rfl, .inl ⟨SqL.of upd_same, fun p2 n2 => ?_⟩⟩
    have s5 : Same H3 (upd (upd H3 p1 (.lst (qs.map V.ref))) p2 (.tup (qs.map V.ref))) := (same_upd n1).trans (same_upd n2)
    have hT5 : upd (upd H3 p1 (.lst (qs.map V.ref))) p2 (.tup (qs.map V.ref)) p2 = some (.tup (qs.map V.ref)) := upd_same
    generalize upd (upd H3 p1 (.lst (qs.map V.ref))) p2 (.tup (qs.map V.ref)) = H5 at s5 hT5
    have ha5 := s5 _ _ ha3
    refine ⟨_, rfl, a, C, dx, _, rfl, ha5, RT.cl, RT.nS, by show 1 < 1000; decide, ?_⟩
    have na2 : p2 ≠ a := ne_of hT5 ha5 (by intro z; cases z)
    have keep6 : ∀ c o, H3 c = some o → c ≠ a → upd H5 a (.ins C dx (putF "stuffs" (.ref p2) (putF "flag" (.str (W fl)) []))) c = some o := fun c o e n => by rw [upd_ne n]; exact s5 _ _ e
    have ha6 : upd H5 a (.ins C dx (putF "stuffs" (.ref p2) (putF "flag" (.str (W fl)) []))) a = some (.ins C dx (ruF fl p2)) := upd_same
    have hT6 : upd H5 a (.ins C dx (putF "stuffs" (.ref p2) (putF "flag" (.str (W fl)) []))) p2 = some (.tup (qs.map V.ref)) := by rw [upd_ne na2]; exact hT5
    generalize upd H5 a (.ins C dx (putF "stuffs" (.ref p2) (putF "flag" (.str (W fl)) []))) = H6 at keep6 ha6 hT6
    have hs6 : StV H6 kb qs := StV.perm (fun t ht => keep6 _ _ (hs3 t ht) (ne_of (hs3 t ht) ha3 (by intro z; cases z))) prm
    have pm : (qs.map kb).Perm (ps.map kb) := prm.map kb
    have hR6 : RuAt C H6 a fl (qs.map kb) := ⟨dx, p2, qs, kb, ha6, hT6, hs6, rfl⟩
    have ok6 := ok.perm pm.symm
    refine ⟨_, rfl, a, dx, _, rfl, ha6, ruF_no _ _ (by decide +kernel) (by decide +kernel), a, fl, qs.map kb, rfl, hR6, ok6.few, ok6.long, hO.congr fun l => put_perm ok.free pm.symm l, fun H7 s7 => ⟨_, rfl, ?_⟩⟩
    exact k H7 (qs.map kb) (fun c o e n => s7 _ _ (keep6 _ _ (keep3 _ _ e n) n)) pm (pwS srt) (hR6.same s7)
end
end U

set_option maxRecDepth 100000
set_option maxHeartbeats 4000000
namespace U
open PySem PySem.Spec PyProof.Rows
open L2 hiding Fun CX0 E0 pass0 Fun.binds
open C8 Lx SX
/-! checks -/
def ckF (p s : List Bool) : List (Str × V) := putF "start" (.str (W s)) (putF "poly" (.str (W p)) [])
theorem ps_ne : ¬ (("poly" : Str) = "start") := by decide +kernel
theorem ckF_poly (p s : List Bool) : (ckF p s).lookup ("poly" : Str) = some (.str (W p)) := by
  unfold ckF
  rw [lookup_putF, if_neg ps_ne, lookup_putF, if_pos rfl]
theorem ckF_start (p s : List Bool) : (ckF p s).lookup ("start" : Str) = some (.str (W s)) := by
  unfold ckF
  rw [lookup_putF, if_pos rfl]
theorem ckF_no (p s : List Bool) {m : Str} (h1 : ¬ m = "start") (h2 : ¬ m = "poly") : (ckF p s).lookup m = none := by
  unfold ckF
  rw [lookup_putF, if_neg h1, lookup_putF, if_neg h2]
  all_goals rfl
def CkAt (C : Addr) (H : Hp) (a : Addr) (p s : List Bool) : Prop := ∃ dx, H a = some (.ins C dx (ckF p s))
theorem CkAt.same {C : Addr} {H H' : Hp} {a : Addr} {p s : List Bool} (h : CkAt C H a p s) (e : Same H H') : CkAt C H' a p s := by
  obtain ⟨dx, h⟩ := h
  exact ⟨dx, e _ _ h⟩
theorem CkAt.up {C b : Addr} {H H' : Hp} {a : Addr} {p s : List Bool} (hb : Box H b) (h : CkAt C H a p s) (e : Up b H H') : CkAt C H' a p s := by
  obtain ⟨dx, h⟩ := h
  obtain ⟨i, j, hb⟩ := hb
  exact ⟨dx, e.1 _ _ h (ne_of h hb (by intro z; cases z))⟩
theorem CkAt.nl {C : Addr} {H H' : Hp} {a : Addr} {p s : List Bool} (h : CkAt C H a p s) (e : NL H H') : CkAt C H' a p s := by
  obtain ⟨dx, h⟩ := h
  exact ⟨dx, e.ins h⟩
structure CkOk (p s : List Bool) : Prop where
  hd : p.head? = some true
  last : p.getLast? = some true
  len : s.length + 1 = p.length
def zs (n : Nat) : List Bool := List.replicate n false
theorem mul_0 (n : Int) : Txt.mul "0" n = W (zs n.toNat) := by
  refine TL.ext_tl ?_
  have e : ("0" : Str) = ⟨#[48]⟩ := by decide +kernel
  rw [e]
  show (Txt.mul ⟨#[48]⟩ n).cps.toList = (zs n.toNat).map bt
  rw [PyProof.Rows.mul_one_list]
  unfold zs
  rw [List.map_replicate]
  rfl
theorem take1 {p : List Bool} (h : p.head? = some true) : W (p.take 1) = "1" := by
  cases p with
  | nil => cases h
  | cons b r =>
    cases (Option.some.inj h)
    rw [W_1]
    rfl
theorem last1 {p : List Bool} (h : p.getLast? = some true) : W (p.drop (p.length - 1)) = "1" := by
  rw [W_1]
  cases p with
  | nil => cases h
  | cons b r =>
    congr 1
    rw [List.getLast?_eq_getElem?] at h
    have hl : (b :: r).length - 1 < (b :: r).length := by simp
    rw [List.drop_eq_getElem_cons hl]
    rw [List.getElem?_eq_getElem hl] at h
    rw [Option.some.inj h]
    congr 1
    rw [List.drop_eq_nil_iff]
    omega
theorem W_last {p : List Bool} (h : p ≠ []) : Txt.slice (W p) (some (-1)) none = W (p.drop (p.length - 1)) := by
  unfold W
  rw [slice_last (by simpa using h), List.map_drop, List.length_map]
/-- the class as the top leaves it -/
structure CkT (K : PySem.W.Frag) (C : Addr) : Prop where
  cl : Cls K C
  nP : NoAttr K C "poly"
  nS : NoAttr K C "start"
def spCkInit (C : Addr) : Sp := fun vs H Q _ => ∃ (a dx : Addr) (p s : List Bool) (sv : V), vs = [.ref a, .str (W p), sv] ∧ H a = some (.ins C dx []) ∧ CkOk p s ∧ p.length ≤ 1000 ∧ (sv = .str (W s) ∨ (sv = .non ∧ s = zs (p.length - 1))) ∧
  ∀ H', (∀ b o, H b = some o → b ≠ a → H' b = some o) → H' a = some (.ins C dx (ckF p s)) → Q .non H'
def stepM (p r : List Bool) (b : Bool) : List Bool := match r ++ [b] with
  | [] => []
  | x :: l => if x then List.zipWith xor l p.tail else l
def restM (p s : List Bool) (bits : List Bool) : List Bool := bits.foldl (stepM p) s
theorem stepM_len {p r : List Bool} (h : r.length + 1 = p.length) (b : Bool) : (stepM p r b).length = r.length := by
  unfold stepM
  cases r with
  | nil =>
    show (if b then List.zipWith xor [] p.tail else []).length = 0
    cases b <;> rfl
  | cons x l =>
    show (if x then List.zipWith xor (l ++ [b]) p.tail else l ++ [b]).length = _
    split
    · rw [List.length_zipWith, List.length_append, List.length_tail]
      simp only [List.length_cons, List.length_nil] at h ⊢
      omega
    · simp
theorem restM_len {p : List Bool} : ∀ (bits s : List Bool), s.length + 1 = p.length → (restM p s bits).length = s.length
  | [], _, _ => rfl
  | b :: r, s, h => by
    have e := stepM_len h b
    show (restM p (stepM p s b) r).length = _
    rw [restM_len r (stepM p s b) (by omega), e]
def spStep (C : Addr) : Sp := fun vs H Q _ => ∃ (a : Addr) (p s r : List Bool) (b : Bool), vs = [.ref a, .str (W r), .str (W [b])] ∧ CkAt C H a p s ∧ p.length ≤ 1000 ∧ r.length + 1 = p.length ∧
  ∀ H', Same H H' → Q (.str (W (stepM p r b))) H'
def spRest (C : Addr) : Sp := fun vs H Q _ => ∃ (a : Addr) (p s l : List Bool), vs = [.ref a, .str (W l)] ∧ CkAt C H a p s ∧ p.length ≤ 1000 ∧ s.length + 1 = p.length ∧
  ∀ H', Same H H' → Q (.str (W (restM p s l))) H'
def spDegree (C : Addr) : Sp := fun vs H Q _ => ∃ (a : Addr) (p s : List Bool), vs = [.ref a] ∧ CkAt C H a p s ∧ p.length ≤ 1000 ∧ s.length + 1 = p.length ∧ Q (.int (s.length : Nat)) H
theorem int_bit (b : Bool) : (Str.ofString (toString (if b then (1 : Int) else 0))) = W [b] := by cases b <;> decide +kernel
section
variable {P : Program} {w : World} {K : PySem.W.Frag} {mg : Str → Option Value} {base : Heap}
theorem sc_Check_init : FnScope ["self", "poly", "start"] ["self", "poly", "start"] (fnScope s_Check_init) := fnScope_by (by decide +kernel)
theorem ok_Check_init {f C : Addr} {fd : FuncData} (F : C8.Fun K "__init__" "Check.__init__" s_Check_init f fd) (T : Tx mg) (CT : CkT K C) (c_is_word : Cal P w K mg base 1 "is_word" (spIsWord K) []) :
    FnOk P w K mg base CX0 2 f fd ["self", "poly", "start"] (spCkInit C) := by
  refine fn0 F sc_Check_init (fun vs H Q E h => ?_) (fun cdv A outer s H vs Q E hr h => ?_)
  · obtain ⟨_, _, _, _, _, rfl, _⟩ := h; rfl
  · obtain ⟨a, dx, p, st, sv, rfl, ha, ok, hl, hsv, k⟩ := h
    refine ⟨_, (pss_cons (ps_if (PW.pt (pw_or (pt_not (pt_val (pe_c c_is_word hr (by decide) rfl (pa_cons (pv 1) pa_nil)))) (pw_or (pt_cmpR op_ne (pe_slice sl_txt (pv 1) po_none (po_some pe_int)) pe_str (nomark _)) (pw_or1 (pt_cmpR op_ne (pe_slice sl_txt (pv 1) (po_some (pe_un un_neg pe_int)) po_none) pe_str (nomark _)))))) (pss_one ps_never) pss_nil)
    (pss_cons (ps_if (PW.pt (pw_and (pt_cmpR op_notN (pv 2) pe_non (nomark _)) (pw_and1 (PW.pt (pw_or (pt_not (pt_val (pe_c c_is_word hr (by decide) rfl (pa_cons (pv 2) pa_nil)))) (pw_or1 (pt_cmpR op_ne (pe_callB call_len_str (by rfl) T.b_len (by decide +kernel) (pa_cons (pv 2) pa_nil)) (pe_op op_sub (pe_callB call_len_str (by rfl) T.b_len (by decide +kernel) (pa_cons (pv 1) pa_nil)) pe_int) (nomark _)))))))) (pss_one ps_never) pss_nil)
    (pss_cons (ps_fld (pv 0) (pv 1) rfl)
    (pss_one (ps_fld (pv 0) (pe_ifExp (pt_cmpR op_isN (pv 2) pe_non (nomark _)) (pe_op op_rep_str pe_str (pe_op op_sub (pe_callB call_len_str (by rfl) T.b_len (by decide +kernel) (pa_cons (pv 1) pa_nil)) pe_int)) (pv 2)) rfl))))), ?_⟩
    have pn : p ≠ [] := fun z => by have := ok.len; rw [z] at this; cases this
    have lw : (W p).length ≤ sizeLine := by rw [W_len]; exact sl_len (by omega)
    refine ⟨_, rfl, _, rfl, .inl ⟨_, rfl, by rw [W_len]; omega, fun H1 s1 => ⟨_, rfl, iteBF (by rw [isW_W]; rfl) ?_⟩⟩⟩
    refine ⟨_, rfl, _, rfl, _, rfl, lw, rfl, _, rfl, iteNS (by rw [W_take (by decide)]; exact congrArg V.str (take1 ok.hd)) ?_⟩
    refine ⟨_, rfl, _, rfl, _, rfl, _, rfl, lw, rfl, _, rfl, iteNS (by rw [W_last pn]; exact congrArg V.str (last1 ok.last)) ?_⟩
    have el : (W p).length = p.length := W_len p
    have hp1 : ∀ {H2 : Hp}, Same H H2 → H2 a = some (.ins C dx []) := fun s2 => s2 _ _ ha
    have keep : ∀ {H2 : Hp} {o u : HO}, Same H H2 → ∀ b x, H b = some x → b ≠ a → upd (upd H2 a o) a u b = some x := fun s2 b x e n => by
      rw [upd_ne n, upd_ne n]
      exact s2 _ _ e
    rcases hsv with rfl | ⟨rfl, rfl⟩
    · refine ⟨_, rfl, rfl, _, rfl, ?_⟩
      refine ⟨_, rfl, _, rfl, .inl ⟨_, rfl, by rw [W_len]; have := ok.len; omega, fun H2 s2 => ⟨_, rfl, iteBF (by rw [isW_W]; rfl) ?_⟩⟩⟩
      have lw2 : (W st).length ≤ sizeLine := by rw [W_len]; exact sl_len (by have := ok.len; omega)
      refine ⟨_, rfl, _, rfl, lw2, _, rfl, _, rfl, lw, _, _, rfl, rfl, rfl, _, rfl, iteNS (by rw [W_len, W_len]; have := ok.len; congr 1; omega) ?_⟩
      have s3 := s1.trans s2
      refine ⟨_, rfl, _, rfl, a, C, dx, _, rfl, hp1 s3, CT.cl, CT.nP, (by show 0 < 1000; decide), ?_⟩
      refine ⟨_, rfl, rfl, _, rfl, ?_⟩
      refine ⟨_, rfl, _, rfl, a, C, dx, _, rfl, upd_same, CT.cl, CT.nS, (by show 1 < 1000; decide), ?_⟩
      exact k _ (keep s3) upd_same
    · refine ⟨_, rfl, rfl, _, rfl, ?_⟩
      refine ⟨_, rfl, _, rfl, a, C, dx, _, rfl, hp1 s1, CT.cl, CT.nP, (by show 0 < 1000; decide), ?_⟩
      refine ⟨_, rfl, rfl, _, rfl, ?_⟩
      have ez : Txt.mul "0" (((W p).length : Int) - 1) = W (zs (p.length - 1)) := by rw [mul_0, W_len]; congr 2; omega
      have e0 : ("0" : Str).length = 1 := by decide +kernel
      refine ⟨_, rfl, _, rfl, lw, _, _, rfl, rfl, _, _, rfl, rfl, by omega, by omega, by rw [e0]; omega, ?_⟩
      rw [ez]
      refine ⟨_, rfl, a, C, dx, _, rfl, upd_same, CT.cl, CT.nS, (by show 1 < 1000; decide), ?_⟩
      exact k _ (keep s1) upd_same
theorem sc_Check_step : FnScope ["self", "rest", "bit", "longer", "one", "other"] ["self", "rest", "bit"] (fnScope s_Check_step) := fnScope_by (by decide +kernel)
theorem met_step {f C : Addr} {fd : FuncData} (F : C8.Fun K "step" "Check.step" s_Check_step f fd) (me : Meth K C "step" f) (b : Binds K fd ["self", "rest", "bit"] []) (T : Tx mg) (CT : CkT K C) : Met P w K mg base 1 C "step" (spStep C) [] := by
  refine met0 CT.cl me F b sc_Check_step (fun vs H Q E h => ?_) (fun cdv A outer s H vs Q E hr h => ?_)
  · obtain ⟨_, _, _, _, _, rfl, _⟩ := h; rfl
  · obtain ⟨a, p, st, r, bb, rfl, ⟨dx, ha⟩, hl, hr1, k⟩ := h
    refine ⟨_, (pss_cons (ps_set (i := 3) sc_Check_step.nd rfl (.inl rfl) (pe_op op_add_str (pv 1) (pv 2)))
    (pss_cons (ps_if (pt_cmpR op_eq (pe_ix ix_str (pv 3) pe_int (fun _ _ => rfl)) pe_str (nomark _)) (pss_one (ps_ret (pe_slice sl_txt (pv 3) (po_some pe_int) po_none))) pss_nil)
    (pss_one (ps_ret (pe_join pe_str (pe_lc (own := [("one", 4), ("other", 5)]) (g := gTup K 2 (gCons (gName 4) (gCons (gName 5) gNil))) (by rfl) sc_Check_step.nd (pi_zipS (by rfl) T.b_zip (pa_cons (pe_slice sl_txt (pv 3) (po_some pe_int) po_none) (pa_cons (pe_slice sl_txt (pe_fld (pv 0) rfl) (po_some pe_int) po_none) pa_nil))) (blkOk_by (own := [("one", 4), ("other", 5)]) (N := ["self", "rest", "bit", "longer", "one", "other"]) (sc := fnScope s_Check_step) (by decide +kernel)) (fun _ _ _ _ _ => (pg_tup rfl (pgs_cons (pg_name (i := 4) sc_Check_step.nd rfl (.inl rfl)) (pgs_cons (pg_name (i := 5) sc_Check_step.nd rfl (.inl rfl)) pgs_nil)))) (fun _ _ _ _ _ => pts_nil) (fun _ _ _ _ _ => (pe_callTy call_str_int (by rfl) T.b_str (by decide +kernel) (pa_cons (pe_callTy call_int1 (by rfl) T.b_int (by decide +kernel) (pa_cons (pe_cmpR op_ne (pv 4) (pv 5) (nomark _)) pa_nil)) pa_nil))))))))), ?_⟩
    have l1 : (W r).length + (W [bb]).length ≤ sizeLine := by rw [W_len, W_len]; exact sl_len (by show r.length + 1 ≤ 100000; omega)
    refine ⟨_, rfl, _, rfl, _, _, rfl, rfl, l1, ?_⟩
    rw [W_cat]
    have lw : (W (r ++ [bb])).length ≤ sizeLine := by rw [W_len, List.length_append]; exact sl_len (by show r.length + 1 ≤ 100000; omega)
    cases e : r ++ [bb] with
    | nil => exact absurd e (by simp)
    | cons x l =>
      rw [e] at lw
      have em : stepM p r bb = if x then List.zipWith xor l p.tail else l := by unfold stepM; rw [e]
      have at0 : atI (W (x :: l)).cps.toList 0 = some (bt x) := atI_nat (j := 0) (by rw [W_tl]; rfl)
      have ed : Txt.slice (W (x :: l)) (some 1) none = W l := by rw [W_drop (by decide)]; rfl
      refine ⟨_, rfl, _, _, _, rfl, rfl, lw, at0, rfl, _, rfl, ?_⟩
      cases x with
      | false =>
        refine iteDT (show V.str ⟨#[bt false]⟩ = V.str "0" by decide +kernel) ⟨_, rfl, _, rfl, _, rfl, lw, ?_⟩
        rw [ed]
        have := k H (Same.refl H)
        rw [em] at this
        exact this
      | true =>
        refine iteDF (show ¬ V.str ⟨#[bt true]⟩ = V.str "0" by decide +kernel) ⟨⟨_, rfl⟩, ?_⟩
        have lp : (W p).length ≤ sizeLine := by rw [W_len]; exact sl_len (by omega)
        have ep : Txt.slice (W p) (some 1) none = W p.tail := by rw [W_drop (by decide)]; congr 1; cases p <;> rfl
        refine ⟨_, rfl, _, rfl, _, rfl, lw, _, rfl, a, C, dx, _, _, rfl, ha, CT.cl, CT.nP, ckF_poly _ _, _, rfl, _, rfl, lp, ?_⟩
        rw [ed, ep]
        have ll : l.length = p.tail.length := by
          have := congrArg List.length e
          rw [List.length_append, List.length_cons] at this
          rw [List.length_tail]
          simp only [List.length_cons, List.length_nil] at this
          omega
        have lb : l.length ≤ 1000 := by rw [ll, List.length_tail]; omega
        refine ⟨_, _, rfl, fun D nD => ?_⟩
        have hn : min (W l).cps.size (W p.tail).cps.size = l.length := by rw [W_size, W_size, ll, Nat.min_self]
        rw [hn]
        have lz : (List.zipWith xor l p.tail).length = l.length := by rw [List.length_zipWith, ll, Nat.min_self]
        refine lc_it walk_tuples (fun i H2 => Same H H2 ∧ H2 D = some (.lst (bitsV ((List.zipWith xor l p.tail).take i)))) ⟨same_upd nD, upd_same⟩ (fun _ _ _ _ => trivial) ?_ ?_
        · rintro i x H2 H3 hi ⟨s2, hD⟩ ⟨T, xs, rfl, nT, rfl, c, d, hc, hd, rfl⟩
          obtain ⟨b1, hb1, rfl⟩ := W_get hc
          obtain ⟨b2, hb2, rfl⟩ := W_get hd
          refine ⟨T, _, rfl, SqT.of upd_same, rfl, _, _, rfl, _, _, rfl, rfl, rfl, ?_⟩
          have hz : (List.zipWith xor l p.tail)[i]? = some (xor b1 b2) := by rw [List.getElem?_zipWith, hb1, hb2]
          have ex : (!decide (V.str ⟨#[bt b1]⟩ = V.str ⟨#[bt b2]⟩)) = xor b1 b2 := by cases b1 <;> cases b2 <;> decide +kernel
          have hD3 : upd H2 T (.tup [.str ⟨#[bt b1]⟩, .str ⟨#[bt b2]⟩]) D = some (.lst (bitsV ((List.zipWith xor l p.tail).take i))) := by rw [upd_ne (ne_of_none hD nT)]; exact hD
          refine ⟨_, rfl, _, rfl, rfl, .inr ⟨_, rfl, _, rfl, ?_, _, hD3, ?_, ?_, ?_⟩⟩
          · split <;> decide
          · rw [bitsV_len, List.length_take]; exact sl_lt (by omega)
          · intro c' o e'
            rw [upd_ne (ne_of_none e' nD)]
            exact (s2.trans (same_upd nT)) _ _ e'
          · rw [upd_same, ex, List.take_add_one, hz]
            show some (HO.lst (bitsV _ ++ [V.str (Str.ofString (toString (if xor b1 b2 = true then (1 : Int) else 0)))])) = _
            rw [int_bit, bitsV_snoc]
            rfl
        · rintro H2 ⟨s2, hD⟩
          rw [List.take_of_length_le (by omega)] at hD
          refine ⟨_, D, _, rfl, rfl, .inl (SqL.of hD), ?_, ?_⟩
          · rw [lens_bits, empty_len]; omega
          · show Q (.str (Txt.join "" ((List.zipWith xor l p.tail).map fun b => W [b]))) H2
            rw [join_bits]
            have := k H2 s2
            rw [em] at this
            exact this
theorem sc_Check_rest : FnScope ["self", "bits", "found", "bit"] ["self", "bits"] (fnScope s_Check_rest) := fnScope_by (by decide +kernel)
theorem met_rest {f C : Addr} {fd : FuncData} (F : C8.Fun K "rest" "Check.rest" s_Check_rest f fd) (me : Meth K C "rest" f) (b : Binds K fd ["self", "bits"] []) (T : Tx mg) (CT : CkT K C) (c_step : Met P w K mg base 1 C "step" (spStep C) []) : Met P w K mg base 2 C "rest" (spRest C) [] := by
  refine met0 CT.cl me F b sc_Check_rest (fun vs H Q E h => ?_) (fun cdv A outer s H vs Q E hr h => ?_)
  · obtain ⟨_, _, _, _, rfl, _⟩ := h; rfl
  · obtain ⟨a, p, st, l, rfl, hc, hl, hs, k⟩ := h
    refine ⟨_, (pss_cons (ps_set (i := 2) sc_Check_rest.nd rfl (.inl rfl) (pe_fld (pv 0) rfl))
    (pss_cons (ps_for PassesOwn.never rfl (pi_str (pv 1)) (pg_name (i := 3) sc_Check_rest.nd rfl (.inl rfl))
    (pss_one (ps_set (i := 2) sc_Check_rest.nd rfl (.inl rfl) (pe_mt (pl := _) c_step hr (by decide) (pv 0) (pa_cons (pv 2) (pa_cons (pv 3) pa_nil))))))
    (pss_one (ps_ret (pv 2))))), ?_⟩
    have hc0 := hc
    obtain ⟨dx, ha⟩ := hc
    refine ⟨_, rfl, a, C, dx, _, _, rfl, ha, CT.cl, CT.nS, ckF_start _ _, ?_⟩
    refine ⟨_, rfl, W l, rfl, for_it walk_str (fun i σ H2 => ∃ v3 : Option V, σ = [some (.ref a), some (.str (W l)), some (.str (W (restM p st (l.take i)))), v3] ∧ Same H H2) ⟨none, rfl, Same.refl _⟩ (fun _ _ _ _ _ => trivial) ?_ ?_⟩
    · rintro i x σ H2 H3 hi ⟨v3, rfl, s2⟩ ⟨rfl, c, hc, rfl⟩
      obtain ⟨b1, hb1, rfl⟩ := W_get hc
      refine ⟨_, rfl, a, dx, _, rfl, s2 _ _ ha, ckF_no _ _ (by decide +kernel) (by decide +kernel), _, rfl, _, rfl, a, p, st, _, b1, rfl, hc0.same s2, hl, ?_, fun H4 s4 => ?_⟩
      · rw [restM_len _ _ hs]; exact hs
      · have e : restM p st (l.take (i + 1)) = stepM p (restM p st (l.take i)) b1 := by
          unfold restM
          rw [List.take_add_one, hb1, List.foldl_append]
          rfl
        rw [e]
        exact ⟨_, rfl, s2.trans s4⟩
    · rintro σ H2 ⟨v3, rfl, s2⟩
      refine ⟨_, rfl, ?_⟩
      rw [W_size, List.take_length]
      exact k H2 s2
theorem sc_Check_degree : FnScope ["self"] ["self"] (fnScope s_Check_degree) := fnScope_by (by decide +kernel)
theorem ok_degree {f C : Addr} {fd : FuncData} (F : C8.Fun K "degree" "Check.degree" s_Check_degree f fd) (T : Tx mg) (CT : CkT K C) : FnOk P w K mg base CX0 1 f fd ["self"] (spDegree C) := by
  refine fn0 F sc_Check_degree (fun vs H Q E h => ?_) (fun cdv A outer s H vs Q E hr h => ?_)
  · obtain ⟨_, _, _, rfl, _⟩ := h; rfl
  · obtain ⟨a, p, st, rfl, ⟨dx, ha⟩, hl, hs, k⟩ := h
    refine ⟨_, (pss_one (ps_ret (pe_op op_sub (pe_callB call_len_str (by rfl) T.b_len (by decide +kernel) (pa_cons (pe_fld (pv 0) rfl) pa_nil)) pe_int))), ?_⟩
    refine ⟨_, rfl, a, C, dx, _, _, rfl, ha, CT.cl, CT.nP, ckF_poly _ _, _, rfl, (by rw [W_len]; exact sl_len (by omega)), _, _, rfl, rfl, ?_⟩
    have e : (((W p).length : Nat) : Int) - 1 = (st.length : Nat) := by rw [W_len]; omega
    show Q (.int (((W p).length : Nat) - 1)) H
    rw [e]
    exact k
end
end U

namespace U
/-! the algebra of the rests -/
def xr (a b : List Bool) : List Bool := List.zipWith xor a b
theorem xr_len {a b : List Bool} (h : a.length = b.length) : (xr a b).length = a.length := by unfold xr; rw [List.length_zipWith, h, Nat.min_self]
theorem xr_cons (x y : Bool) (a b : List Bool) : xr (x :: a) (y :: b) = xor x y :: xr a b := rfl
theorem xr_app {a b c d : List Bool} (h : a.length = b.length) : xr (a ++ c) (b ++ d) = xr a b ++ xr c d := by
  unfold xr
  exact List.zipWith_append h
theorem xr_comm : ∀ a b : List Bool, xr a b = xr b a
  | [], [] => rfl
  | [], _ :: _ => rfl
  | _ :: _, [] => rfl
  | x :: a, y :: b => by rw [xr_cons, xr_cons, xr_comm a b, Bool.xor_comm]
theorem xr_assoc : ∀ a b c : List Bool, xr (xr a b) c = xr a (xr b c)
  | [], _, _ => by simp [xr]
  | _ :: _, [], _ => by simp [xr]
  | _ :: _, _ :: _, [] => by simp [xr]
  | x :: a, y :: b, z :: c => by rw [xr_cons, xr_cons, xr_cons, xr_cons, xr_assoc a b c, Bool.xor_assoc]
theorem xr_self : ∀ a : List Bool, xr a a = zs a.length
  | [] => rfl
  | x :: a => by rw [xr_cons, xr_self a, Bool.xor_self]; rfl
theorem xr_zs : ∀ (a : List Bool), xr a (zs a.length) = a
  | [] => rfl
  | x :: a => by
    show xr (x :: a) (false :: zs a.length) = _
    rw [xr_cons, xr_zs a, Bool.xor_false]
theorem zs_xr (a : List Bool) : xr (zs a.length) a = a := by rw [xr_comm, xr_zs]
theorem zs_len (n : Nat) : (zs n).length = n := by unfold zs; simp
theorem xr_eq_zs : ∀ {a b : List Bool}, a.length = b.length → xr a b = zs a.length → a = b
  | [], [], _, _ => rfl
  | [], _ :: _, h, _ => by simp at h
  | _ :: _, [], h, _ => by simp at h
  | x :: a, y :: b, h, e => by
    rw [xr_cons] at e
    have e' : xor x y :: xr a b = false :: zs a.length := e
    injection e' with e1 e2
    have h' : a.length = b.length := by simpa using h
    rw [xr_eq_zs h' e2]
    congr 1
    cases x <;> cases y <;> first | rfl | cases e1
theorem stepM_cons (p : List Bool) (x : Bool) (l : List Bool) (b : Bool) : stepM p (x :: l) b = if x then xr (l ++ [b]) p.tail else l ++ [b] := rfl
theorem stepM_nil (p : List Bool) (b : Bool) : stepM p [] b = [] := by
  show (if b then List.zipWith xor [] p.tail else []) = []
  cases b <;> rfl
theorem stepM_xr {p r q : List Bool} (h : r.length + 1 = p.length) (hq : q.length = r.length) (b c : Bool) : stepM p (xr r q) (xor b c) = xr (stepM p r b) (stepM p q c) := by
  cases r with
  | nil =>
    cases q with
    | nil => rw [show xr [] [] = [] from rfl, stepM_nil, stepM_nil, stepM_nil]; rfl
    | cons _ _ => simp at hq
  | cons x l =>
    cases q with
    | nil => simp at hq
    | cons y m =>
      have hl : m.length = l.length := by simpa using hq
      have e : xr (l ++ [b]) (m ++ [c]) = xr l m ++ [xor b c] := by rw [xr_app hl.symm]; rfl
      have ht : p.tail.length = l.length + 1 := by rw [List.length_tail]; simp only [List.length_cons] at h; omega
      rw [xr_cons, stepM_cons, stepM_cons, stepM_cons, ← e]
      have z : xr p.tail p.tail = zs p.tail.length := xr_self _
      have lb : (l ++ [b]).length = p.tail.length := by rw [List.length_append, ht]; rfl
      have lc : (m ++ [c]).length = p.tail.length := by rw [List.length_append, ht, hl]; rfl
      cases x <;> cases y <;> simp only [Bool.xor_false, Bool.false_xor, Bool.xor_true, Bool.not_true, Bool.not_false, if_true, if_false, Bool.false_eq_true, Bool.xor_self]
      · rw [← xr_assoc]
      · rw [xr_assoc, xr_assoc, xr_comm (m ++ [c]) p.tail]
      · rw [xr_assoc, xr_comm p.tail (xr (m ++ [c]) p.tail), xr_assoc (m ++ [c]), z, ← lc, xr_zs]
theorem restM_app (p s a b : List Bool) : restM p s (a ++ b) = restM p (restM p s a) b := List.foldl_append
theorem restM_xr {p : List Bool} : ∀ (a b r q : List Bool), a.length = b.length → r.length + 1 = p.length → q.length = r.length → restM p (xr r q) (xr a b) = xr (restM p r a) (restM p q b)
  | [], [], _, _, _, _, _ => rfl
  | [], _ :: _, _, _, h, _, _ => by simp at h
  | _ :: _, [], _, _, h, _, _ => by simp at h
  | x :: a, y :: b, r, q, h, hr, hq => by
    have h' : a.length = b.length := by simpa using h
    have l1 := stepM_len hr x
    have l2 := stepM_len (p := p) (r := q) (by omega) y
    show restM p (stepM p (xr r q) (xor x y)) (xr a b) = xr (restM p (stepM p r x) a) (restM p (stepM p q y) b)
    rw [stepM_xr hr hq, restM_xr a b _ _ h' (by omega) (by omega)]
theorem zs_succ (n : Nat) : zs (n + 1) = false :: zs n := rfl
theorem zs_app (m n : Nat) : zs (m + n) = zs m ++ zs n := by unfold zs; rw [List.replicate_append_replicate]
/-- noughts leave noughts -/
theorem stepM_0 (p : List Bool) (d : Nat) : stepM p (zs d) false = zs d := by
  cases d with
  | zero => exact stepM_nil p false
  | succ n =>
    rw [zs_succ, stepM_cons]
    show zs n ++ [false] = _
    rw [show [false] = zs 1 from rfl, ← zs_app]
    rfl
theorem restM_0 (p : List Bool) (d : Nat) : ∀ n : Nat, restM p (zs d) (zs n) = zs d
  | 0 => rfl
  | n + 1 => by
    show restM p (stepM p (zs d) false) (zs n) = _
    rw [stepM_0, restM_0 p d n]
/-- bits that come in behind noughts stand there -/
theorem restM_in (p : List Bool) : ∀ (c : List Bool) (e : List Bool), restM p (zs c.length ++ e) c = e ++ c ∨ (zs c.length ++ e).length + 1 ≠ p.length := by
  intro c
  induction c with
  | nil => intro e; left; show [] ++ e = e ++ []; simp
  | cons x c ih =>
    intro e
    by_cases h : (zs (x :: c).length ++ e).length + 1 = p.length
    · left
      have e1 : zs (x :: c).length ++ e = false :: (zs c.length ++ e) := rfl
      have e2 : stepM p (zs (x :: c).length ++ e) x = zs c.length ++ (e ++ [x]) := by
        rw [e1, stepM_cons]
        show zs c.length ++ e ++ [x] = _
        rw [List.append_assoc]
      show restM p (stepM p (zs (x :: c).length ++ e) x) c = _
      rw [e2]
      rcases ih (e ++ [x]) with h1 | h1
      · rw [h1]; simp
      · exfalso
        apply h1
        rw [← h, e1]
        simp only [List.length_append, List.length_cons, List.length_nil]
        omega
    · right; exact h
theorem restM_self {p c : List Bool} (h : c.length + 1 = p.length) : restM p (zs c.length) c = c := by
  rcases restM_in p c [] with e | e
  · rw [List.append_nil, List.nil_append] at e; exact e
  · rw [List.append_nil, zs_len] at e; exact absurd h e
/-- the check bits -/
def bitsM (p s data : List Bool) : List Bool := restM p s (data ++ zs s.length)
def goodM (p s m : List Bool) : Bool := decide (s.length ≤ m.length) && !decide (true ∈ restM p s m)
theorem bitsM_len {p s : List Bool} (h : s.length + 1 = p.length) (data : List Bool) : (bitsM p s data).length = s.length := restM_len _ _ h
theorem rest_tail {p s data x : List Bool} (h : s.length + 1 = p.length) (hx : x.length = s.length) : restM p s (data ++ x) = xr (bitsM p s data) x := by
  have lr : (restM p s data).length = s.length := restM_len _ _ h
  have e1 : restM p (xr (restM p s data) (zs s.length)) (xr (zs s.length) x) = xr (restM p (restM p s data) (zs s.length)) (restM p (zs s.length) x) :=
    restM_xr _ _ _ _ (by rw [zs_len, hx]) (by omega) (by rw [zs_len, lr])
  rw [← lr, xr_zs, lr, show zs s.length = zs x.length by rw [hx], zs_xr, restM_self (by omega)] at e1
  unfold bitsM
  rw [restM_app, restM_app, e1, hx]
theorem rest_good {p s : List Bool} (h : s.length + 1 = p.length) (data : List Bool) : restM p s (data ++ bitsM p s data) = zs s.length := by
  rw [rest_tail h (bitsM_len h data), xr_self, bitsM_len h]
theorem no_true_zs (n : Nat) : ¬ true ∈ zs n := by
  intro h
  have := List.eq_of_mem_replicate h
  cases this
theorem zs_of_no : ∀ {l : List Bool}, ¬ true ∈ l → l = zs l.length
  | [], _ => rfl
  | true :: r, h => absurd List.mem_cons_self h
  | false :: r, h => by
    have : r = zs r.length := zs_of_no fun z => h (List.mem_cons_of_mem _ z)
    show false :: r = false :: zs r.length
    rw [← this]
theorem goodM_tail {p s data x : List Bool} (h : s.length + 1 = p.length) (hx : x.length = s.length) : goodM p s (data ++ x) = decide (x = bitsM p s data) := by
  unfold goodM
  rw [rest_tail h hx, decide_eq_true (by rw [List.length_append]; omega), Bool.true_and]
  by_cases e : x = bitsM p s data
  · subst e
    rw [xr_self, decide_eq_true rfl, decide_eq_false (no_true_zs _)]
    rfl
  · rw [decide_eq_false e]
    have : true ∈ xr (bitsM p s data) x := Classical.byContradiction fun c => by
      have z := zs_of_no c
      have lb := bitsM_len h data
      rw [xr_len (by omega)] at z
      exact e (xr_eq_zs (by omega) z).symm
    rw [decide_eq_true this]
    rfl
theorem goodM_bits {p s : List Bool} (h : s.length + 1 = p.length) (data : List Bool) : goodM p s (data ++ bitsM p s data) = true := by
  rw [goodM_tail h (bitsM_len h data), decide_eq_true rfl]
theorem goodM_zs {p s m : List Bool} (g : goodM p s m = true) (hl : s.length + 1 = p.length) : restM p s m = zs s.length := by
  unfold goodM at g
  rw [Bool.and_eq_true, decide_eq_true_eq, Bool.not_eq_true', decide_eq_false_iff_not] at g
  have := zs_of_no g.2
  rw [restM_len _ _ hl] at this
  exact this
theorem goodM_iff {p s m : List Bool} (hl : s.length + 1 = p.length) : goodM p s m = true ↔ s.length ≤ m.length ∧ restM p s m = zs s.length := by
  constructor
  · intro g
    refine ⟨?_, goodM_zs g hl⟩
    unfold goodM at g
    rw [Bool.and_eq_true, decide_eq_true_eq] at g
    exact g.1
  · rintro ⟨h1, h2⟩
    unfold goodM
    rw [h2, decide_eq_true h1, decide_eq_false (no_true_zs _)]
    rfl
/-! one wrong bit is seen -/
theorem stepM_inj {p r : List Bool} (h : r.length + 1 = p.length) (hl : p.getLast? = some true) (h0 : r ≠ []) (e : stepM p r false = zs r.length) : r = zs r.length := by
  cases r with
  | nil => exact absurd rfl h0
  | cons x l =>
    rw [stepM_cons] at e
    have ht : p.tail.length = l.length + 1 := by rw [List.length_tail]; simp only [List.length_cons] at h; omega
    cases x with
    | false =>
      have e' : l ++ [false] = zs (l.length + 1) := e
      rw [zs_app] at e'
      have := List.append_inj_left e' (by rw [zs_len])
      show false :: l = false :: zs l.length
      rw [← this]
    | true =>
      exfalso
      have e' : xr (l ++ [false]) p.tail = zs (l ++ [false]).length := by
        have : xr (l ++ [false]) p.tail = zs (true :: l).length := e
        rw [this, List.length_append]
        rfl
      have e2 := xr_eq_zs (by rw [List.length_append, ht]; rfl) e'
      have e3 : p.tail.getLast? = some false := by rw [← e2, List.getLast?_append]; rfl
      cases p with
      | nil => cases hl
      | cons y t =>
        have e4 : t.getLast? = some false := e3
        cases t with
        | nil => cases e4
        | cons z u =>
          rw [List.getLast?_cons_cons] at hl
          rw [hl] at e4
          cases e4
theorem restM_inj {p : List Bool} (hl : p.getLast? = some true) : ∀ (n : Nat) (r : List Bool), r.length + 1 = p.length → r ≠ [] → restM p r (zs n) = zs r.length → r = zs r.length
  | 0, r, _, _, e => e
  | n + 1, r, h, h0, e => by
    have ls := stepM_len h false
    have e' : restM p (stepM p r false) (zs n) = zs r.length := e
    have n0 : stepM p r false ≠ [] := by
      intro z
      rw [z] at ls
      exact h0 (List.length_eq_zero_iff.mp ls.symm)
    have := restM_inj hl n (stepM p r false) (by omega) n0 (by rw [e', ls])
    rw [ls] at this
    exact stepM_inj h hl h0 this
/-- a unit -/
def unit (n i : Nat) : List Bool := zs i ++ true :: zs (n - i - 1)
theorem unit_len {n i : Nat} (h : i < n) : (unit n i).length = n := by
  unfold unit
  rw [List.length_append, List.length_cons, zs_len, zs_len]
  omega
theorem step_one {p : List Bool} {d : Nat} (h : d + 1 = p.length) (h0 : 0 < d) : stepM p (zs d) true ≠ zs d := by
  cases d with
  | zero => omega
  | succ n =>
    rw [zs_succ, stepM_cons]
    show ¬ (zs n ++ [true] = false :: zs n)
    intro e
    have m : true ∈ zs n ++ [true] := by simp
    rw [e] at m
    rcases List.mem_cons.mp m with z | z
    · cases z
    · exact no_true_zs _ z
theorem rest_unit {p : List Bool} {d n i : Nat} (h : d + 1 = p.length) (hl : p.getLast? = some true) (h0 : 0 < d) (hi : i < n) : restM p (zs d) (unit n i) ≠ zs d := by
  intro e
  unfold unit at e
  rw [restM_app, restM_0] at e
  have e' : restM p (stepM p (zs d) true) (zs (n - i - 1)) = zs d := e
  have ls : (stepM p (zs d) true).length = d := by rw [stepM_len (by rw [zs_len]; exact h), zs_len]
  have n0 : stepM p (zs d) true ≠ [] := by
    intro z
    rw [z] at ls
    exact absurd ls (by simp; omega)
  have := restM_inj hl _ _ (by omega) n0 (by rw [e', ls])
  rw [ls] at this
  exact step_one h h0 this
/-- the message with bit i turned -/
def bent (m : List Bool) (i : Nat) : List Bool := m.take i ++ [!(m.getD i false)] ++ m.drop (i + 1)
theorem bent_len {m : List Bool} {i : Nat} (h : i < m.length) : (bent m i).length = m.length := by
  unfold bent
  rw [List.length_append, List.length_append, List.length_take, List.length_drop]
  simp only [List.length_cons, List.length_nil]
  omega
theorem bent_xr {m : List Bool} {i : Nat} (h : i < m.length) : bent m i = xr m (unit m.length i) := by
  have e : m = m.take i ++ (m.getD i false :: m.drop (i + 1)) := by
    have e1 : m.drop i = m.getD i false :: m.drop (i + 1) := by
      rw [List.drop_eq_getElem_cons h]
      simp [h]
    rw [← e1, List.take_append_drop]
  have lt : (m.take i).length = i := by rw [List.length_take]; omega
  unfold bent unit
  generalize hA : m.take i = A at e lt ⊢
  generalize hB : m.drop (i + 1) = B at e ⊢
  generalize m.getD i false = c at e ⊢
  have lB : B.length = m.length - i - 1 := by rw [← hB, List.length_drop]; omega
  rw [← lB]
  conv => rhs; rw [e]
  rw [xr_app (by rw [lt, zs_len]), xr_cons, Bool.xor_true, xr_zs, ← lt, xr_zs]
  simp
theorem bent_bad {p s m : List Bool} {i : Nat} (h : s.length + 1 = p.length) (hl : p.getLast? = some true) (h0 : 0 < s.length) (g : goodM p s m = true) (hi : i < m.length) : goodM p s (bent m i) = false := by
  cases c : goodM p s (bent m i) with
  | false => rfl
  | true =>
    exfalso
    have e1 := goodM_zs c h
    have e2 := goodM_zs g h
    rw [bent_xr hi] at e1
    have e3 : restM p (xr s (zs s.length)) (xr m (unit m.length i)) = xr (restM p s m) (restM p (zs s.length) (unit m.length i)) :=
      restM_xr _ _ _ _ (by rw [unit_len hi]) h (by rw [zs_len])
    rw [xr_zs, e1, e2] at e3
    have lu : (restM p (zs s.length) (unit m.length i)).length = s.length := by rw [restM_len _ _ (by rw [zs_len]; exact h), zs_len]
    have nu := rest_unit h hl h0 hi
    generalize restM p (zs s.length) (unit m.length i) = R at e3 lu nu
    rw [← lu, zs_xr, lu] at e3
    exact nu e3.symm
end U

set_option maxRecDepth 100000
set_option maxHeartbeats 4000000
namespace U
open PySem PySem.Spec PyProof.Rows
open L2 hiding Fun CX0 E0 pass0 Fun.binds
open C8 Lx SX
theorem call_repr_bool {X : Cx} : CallR X (.builtin "repr") (fun xs H Q => ∃ k, xs = [.bl k] ∧ Q (.str (if k then "True" else "False")) H) := by
  intro pins s σ H xs us Q I r h
  obtain ⟨k, rfl, q⟩ := h
  obtain ⟨u, rfl, rfl⟩ := vals1 r
  exact PySem.P.repr_of_bool ⟨.str _, H, I.tok _, ⟨_, rfl⟩, q⟩
theorem one_in (l : List Bool) : decide ((49 : Nat) ∈ (W l).cps.toList) = decide (true ∈ l) := by
  rw [W_tl]
  congr 1
  refine propext ⟨fun h => ?_, fun h => ?_⟩
  · obtain ⟨b, hb, e⟩ := List.mem_map.mp h
    cases b with
    | true => exact hb
    | false => exact absurd e (by decide)
  · exact List.mem_map.mpr ⟨true, h, rfl⟩
theorem V_1 : V.str "1" = V.str ⟨#[49]⟩ := by decide +kernel
def spBitsFor (C : Addr) : Sp := fun vs H Q _ => ∃ (a : Addr) (p s l : List Bool), vs = [.ref a, .str (W l)] ∧ CkAt C H a p s ∧ p.length ≤ 1000 ∧ l.length ≤ 10000 ∧ s.length + 1 = p.length ∧
  ∀ H', Same H H' → Q (.str (W (bitsM p s l))) H'
def spIsGood (C : Addr) : Sp := fun vs H Q _ => ∃ (a : Addr) (p s l : List Bool), vs = [.ref a, .str (W l)] ∧ CkAt C H a p s ∧ p.length ≤ 1000 ∧ l.length ≤ 10000 ∧ s.length + 1 = p.length ∧
  ∀ H', Same H H' → Q (.bl (goodM p s l)) H'
section
variable {P : Program} {w : World} {K : PySem.W.Frag} {mg : Str → Option Value} {base : Heap}
theorem sc_Check_bits_for : FnScope ["self", "data"] ["self", "data"] (fnScope s_Check_bits_for) := fnScope_by (by decide +kernel)
theorem met_bits_for {f C : Addr} {fd : FuncData} (F : C8.Fun K "bits_for" "Check.bits_for" s_Check_bits_for f fd) (me : Meth K C "bits_for" f) (b : Binds K fd ["self", "data"] []) (T : Tx mg) (CT : CkT K C) (c_rest : Met P w K mg base 2 C "rest" (spRest C) [])
    (p_degree : Prp P w K mg base 1 C "degree" (spDegree C)) : Met P w K mg base 3 C "bits_for" (spBitsFor C) [] := by
  refine met0 CT.cl me F b sc_Check_bits_for (fun vs H Q E h => ?_) (fun cdv A outer s H vs Q E hr h => ?_)
  · obtain ⟨_, _, _, _, rfl, _⟩ := h; rfl
  · obtain ⟨a, p, st, l, rfl, hc, hl, hd, hs, k⟩ := h
    refine ⟨_, (pss_one (ps_ret (pe_mt (pl := _) c_rest hr (by decide) (pv 0) (pa_cons (pe_op op_add_str (pv 1) (pe_op op_rep_str pe_str (pe_pr p_degree hr (by decide) (pv 0)))) pa_nil)))), ?_⟩
    obtain ⟨dx, ha⟩ := id hc
    have l0 : ("0" : Str).length = 1 := by decide +kernel
    have ez : Txt.mul "0" ((st.length : Nat) : Int) = W (zs st.length) := by rw [mul_0]; rfl
    refine ⟨_, rfl, a, dx, _, rfl, ha, ckF_no _ _ (by decide +kernel) (by decide +kernel), _, rfl, _, rfl, a, dx, _, rfl, ha, a, p, st, rfl, hc, hl, hs, _, _, rfl, rfl, by omega, by omega, by rw [l0]; omega, ?_⟩
    rw [ez]
    refine ⟨_, _, rfl, rfl, by rw [W_len, W_len, zs_len]; exact sl_len (by omega), ?_⟩
    rw [W_cat]
    exact ⟨a, p, st, _, rfl, hc, hl, hs, k⟩
theorem sc_Check_is_good : FnScope ["self", "message"] ["self", "message"] (fnScope s_Check_is_good) := fnScope_by (by decide +kernel)
theorem met_is_good {f C : Addr} {fd : FuncData} (F : C8.Fun K "is_good" "Check.is_good" s_Check_is_good f fd) (me : Meth K C "is_good" f) (b : Binds K fd ["self", "message"] []) (T : Tx mg) (CT : CkT K C) (c_rest : Met P w K mg base 2 C "rest" (spRest C) [])
    (p_degree : Prp P w K mg base 1 C "degree" (spDegree C)) : Met P w K mg base 3 C "is_good" (spIsGood C) [] := by
  refine met0 CT.cl me F b sc_Check_is_good (fun vs H Q E h => ?_) (fun cdv A outer s H vs Q E hr h => ?_)
  · obtain ⟨_, _, _, _, rfl, _⟩ := h; rfl
  · obtain ⟨a, p, st, l, rfl, hc, hl, hd, hs, k⟩ := h
    refine ⟨_, (pss_one (ps_ret (pe_and (pe_cmpR op_ge (pe_callB call_len_str (by rfl) T.b_len (by decide +kernel) (pa_cons (pv 1) pa_nil)) (pe_pr p_degree hr (by decide) (pv 0)) (nomark _)) (pe_one (pe_cmpR op_notIn_sign pe_str (pe_mt (pl := _) c_rest hr (by decide) (pv 0) (pa_cons (pv 1) pa_nil)) (by with_unfolding_all rfl)))))), ?_⟩
    obtain ⟨dx, ha⟩ := id hc
    refine ⟨_, rfl, _, rfl, by rw [W_len]; exact sl_len (by omega), _, rfl, a, dx, _, rfl, ha, a, p, st, rfl, hc, hl, hs, _, _, rfl, rfl, _, rfl, ?_⟩
    rw [W_len]
    refine ite2 (fun h1 => ?_) (fun h1 => ?_)
    · have h2 : ((st.length : Nat) : Int) ≤ ((l.length : Nat) : Int) := of_decide_eq_true h1
      refine ⟨_, rfl, a, dx, _, rfl, ha, ckF_no _ _ (by decide +kernel) (by decide +kernel), _, rfl, a, p, st, l, rfl, hc, hl, hs, fun H1 s1 => ⟨49, _, V_1, rfl, ?_⟩⟩
      rw [one_in]
      have := k H1 s1
      unfold goodM at this
      rw [decide_eq_true (by omega : st.length ≤ l.length), Bool.true_and] at this
      exact this
    · have h2 : ¬ ((st.length : Nat) : Int) ≤ ((l.length : Nat) : Int) := of_decide_eq_false (by simpa using h1)
      have := k H (Same.refl H)
      unfold goodM at this
      rw [decide_eq_false (by omega : ¬ st.length ≤ l.length), Bool.false_and] at this
      exact this
end
end U

set_option maxRecDepth 100000
set_option maxHeartbeats 4000000
namespace U
open PySem PySem.Spec PyProof.Rows
open L2 hiding Fun CX0 E0 pass0 Fun.binds
open C8 Lx SX
/-! texts of checks -/
def ckT (p s : List Bool) : Str := if p = [true] then W p else W p ++ " start " ++ W s
def spCkStr (C : Addr) : Sp := fun vs H Q _ => ∃ (a : Addr) (p s : List Bool), vs = [.ref a] ∧ CkAt C H a p s ∧ p.length ≤ 1000 ∧ s.length ≤ 1000 ∧ Q (.str (ckT p s)) H
def spCkEq (C : Addr) : Sp := fun vs H Q _ => ∃ (a b : Addr) (p s p' s' : List Bool), vs = [.ref a, .ref b] ∧ CkAt C H a p s ∧ p.length ≤ 1000 ∧ s.length ≤ 1000 ∧ CkAt C H b p' s' ∧ p'.length ≤ 1000 ∧ s'.length ≤ 1000 ∧ Q (.bl (decide (ckT p s = ckT p' s'))) H
def spCkRead (C : Addr) : Sp := fun vs H Q _ => ∃ (p s : List Bool), vs = [.ref C, .str (ckT p s)] ∧ CkOk p s ∧ p.length ≤ 1000 ∧ ∀ x H', Same H H' → CkAt C H' x p s → Q (.ref x) H'
theorem e_cat (l : List Bool) : Str.empty ++ W l = W l := by
  have e : Str.empty = W [] := by decide +kernel
  rw [e, W_cat]; rfl
theorem mid_len : (" start " : Str).length = 7 := by decide +kernel
theorem len_cat (a b : Str) : (a ++ b).length = a.length + b.length := by
  rw [TL.len_tl, TL.len_tl a, TL.len_tl b]
  have := TL.tl_append a b
  show (TL.tl (a ++ b)).length = _
  rw [this, List.length_append]
theorem mid_tl : TL.tl (" start " : Str) = 32 :: [115, 116, 97, 114, 116, 32] := by decide +kernel
theorem no_sp (l : List Bool) : (32 : Nat) ∉ TL.tl (W l) := by
  show 32 ∉ l.map bt
  intro h
  obtain ⟨b, _, e⟩ := List.mem_map.mp h
  cases b <;> exact absurd e (by decide)
theorem W_ne_1 {p : List Bool} (h : ¬ p = [true]) : ¬ V.str (W p) = V.str "1" := fun z => h (by rw [W_1] at z; exact W_inj (V.str.inj z))
theorem ckT_ne_1 {p s : List Bool} (h : ¬ p = [true]) : ¬ ckT p s = "1" := fun z => by
  unfold ckT at z
  rw [if_neg h] at z
  have := congrArg Str.length z
  rw [len_cat, len_cat, mid_len, show ("1" : Str).length = 1 by decide +kernel] at this
  omega
theorem ckT_len {p s : List Bool} : (ckT p s).length ≤ p.length + 7 + s.length := by
  unfold ckT
  split
  · rw [W_len]; omega
  · rw [len_cat, len_cat, mid_len, W_len, W_len]; omega
theorem mk_ck2 {C : Addr} {H : Hp} {p s : List Bool} {R : Addr → Hp → Prop} {E : XK} (ok : CkOk p s) (hl : p.length ≤ 1000) (k : ∀ x H', Same H H' → CkAt C H' x p s → R x H') :
    ∀ x dx, H x = none → H dx = none → dx ≠ x → spCkInit C [.ref x, .str (W p), .str (W s)] (upd (upd H dx (.own x)) x (.ins C dx [])) (fun v H2 => v = .non ∧ R x H2) E := by
  intro x dx nx ndx nex
  exact ⟨x, dx, p, s, .str (W s), rfl, upd_same, ok, hl, .inl rfl, fun H5 keep hx => ⟨rfl, k x H5 (Same.made nx ndx keep) ⟨dx, hx⟩⟩⟩
theorem mk_ck1 {C : Addr} {H : Hp} {p s : List Bool} {R : Addr → Hp → Prop} {E : XK} (ok : CkOk p s) (hl : p.length ≤ 1000) (k : ∀ x H', Same H H' → CkAt C H' x p (zs s.length) → R x H') :
    ∀ x dx, H x = none → H dx = none → dx ≠ x → spCkInit C [.ref x, .str (W p), .non] (upd (upd H dx (.own x)) x (.ins C dx [])) (fun v H2 => v = .non ∧ R x H2) E := by
  intro x dx nx ndx nex
  have e : s.length = p.length - 1 := by have := ok.len; omega
  exact ⟨x, dx, p, zs s.length, .non, rfl, upd_same, ⟨ok.hd, ok.last, by rw [zs_len]; exact ok.len⟩, hl, .inr ⟨rfl, by rw [e]⟩, fun H5 keep hx => ⟨rfl, k x H5 (Same.made nx ndx keep) ⟨dx, hx⟩⟩⟩
theorem mk_ck0 {C : Addr} {H : Hp} {R : Addr → Hp → Prop} {E : XK} (k : ∀ x H', Same H H' → CkAt C H' x [true] [] → R x H') :
    ∀ x dx, H x = none → H dx = none → dx ≠ x → spCkInit C [.ref x, .str "1", .non] (upd (upd H dx (.own x)) x (.ins C dx [])) (fun v H2 => v = .non ∧ R x H2) E := by
  rw [W_1]
  exact mk_ck1 (s := []) ⟨rfl, rfl, rfl⟩ (by decide) k
section
variable {P : Program} {w : World} {K : PySem.W.Frag} {mg : Str → Option Value} {base : Heap}
theorem sc_Check_str : FnScope ["self"] ["self"] (fnScope s_Check_str) := fnScope_by (by decide +kernel)
theorem met_Check_str {f C : Addr} {fd : FuncData} {tM : Tok} (F : C8.Fun K "__str__" "Check.__str__" s_Check_str f fd) (me : Meth K C "__str__" f) (b : Binds K fd ["self"] []) (T : Tx mg) (CT : CkT K C) (g_MIDDLE : mg "MIDDLE" = some (.str " start " tM)) : Met P w K mg base 1 C "__str__" (spCkStr C) [] := by
  refine met0 CT.cl me F b sc_Check_str (fun vs H Q E h => ?_) (fun cdv A outer s H vs Q E hr h => ?_)
  · obtain ⟨_, _, _, rfl, _⟩ := h; rfl
  · obtain ⟨a, p, st, rfl, ⟨dx, ha⟩, h1, h2, k⟩ := h
    refine ⟨_, (pss_cons (ps_if (pt_cmpR op_eq (pe_fld (pv 0) rfl) pe_str (nomark _)) (pss_one (ps_ret (pe_joined1 (pe_fmt (pe_fld (pv 0) rfl))))) pss_nil)
    (pss_one (ps_ret (pe_joined (.cons (pe_fmt (pe_fld (pv 0) rfl)) (.cons (pe_fmt (pe_glob (v := .str " start ") (by rfl) g_MIDDLE ⟨_, rfl⟩)) (.cons (pe_fmt (pe_fld (pv 0) rfl)) .nil))))))), ?_⟩
    have lp : (W p).length ≤ sizeLine := by rw [W_len]; exact sl_len (by omega)
    have ls : (W st).length ≤ sizeLine := by rw [W_len]; exact sl_len (by omega)
    refine ⟨_, rfl, a, C, dx, _, _, rfl, ha, CT.cl, CT.nP, ckF_poly _ _, rfl, _, rfl, ?_⟩
    by_cases c : p = [true]
    · refine iteDT (by rw [c, W_1]) ⟨_, rfl, a, C, dx, _, _, rfl, ha, CT.cl, CT.nP, ckF_poly _ _, .inl ⟨_, rfl, lp, ?_⟩⟩
      unfold ckT at k
      rw [if_pos c] at k
      exact k
    · refine iteDF (W_ne_1 c) ?_
      refine ⟨_, rfl, a, C, dx, _, _, rfl, ha, CT.cl, CT.nP, ckF_poly _ _, .inl ⟨_, rfl, lp, _, rfl, by rw [e_cat]; exact lp, ?_⟩⟩
      refine .inl ⟨_, rfl, by rw [mid_len]; decide, _, rfl, by rw [e_cat, len_cat, mid_len, W_len]; exact sl_len (by omega), ?_⟩
      refine ⟨_, rfl, a, C, dx, _, _, rfl, ha, CT.cl, CT.nS, ckF_start _ _, .inl ⟨_, rfl, ls, _, rfl, by rw [e_cat, len_cat, len_cat, mid_len, W_len, W_len]; exact sl_len (by omega), ?_⟩⟩
      unfold ckT at k
      rw [if_neg c] at k
      rw [e_cat]
      exact k
theorem sc_Check_eq : FnScope ["self", "other"] ["self", "other"] (fnScope s_Check_eq) := fnScope_by (by decide +kernel)
theorem met_Check_eq {f C : Addr} {fd : FuncData} (F : C8.Fun K "__eq__" "Check.__eq__" s_Check_eq f fd) (me : Meth K C "__eq__" f) (b : Binds K fd ["self", "other"] []) (T : Tx mg) (CT : CkT K C) (g_Check : mg "Check" = some (.ref C)) (IS_Check : IsT K C)
    (c_Check_str : Met P w K mg base 1 C "__str__" (spCkStr C) []) : Met P w K mg base 4 C "__eq__" (spCkEq C) [] := by
  refine met0 CT.cl me F b sc_Check_eq (fun vs H Q E h => ?_) (fun cdv A outer s H vs Q E hr h => ?_)
  · obtain ⟨_, _, _, _, _, _, rfl, _⟩ := h; rfl
  · obtain ⟨a, b, p, st, p', st', rfl, ca, h1, h2, cb, h3, h4, k⟩ := h
    refine ⟨_, (pss_one (ps_ret (pe_and (pe_callB call_isi (by rfl) T.b_isinstance (by decide +kernel) (pa_cons (pv 1) (pa_cons (pe_glob (v := .ref C) (by rfl) g_Check rfl) pa_nil))) (pe_one (pe_cmpR op_eq (pe_callTy (call_str_own c_Check_str hr (by decide)) (by rfl) T.b_str (by decide +kernel) (pa_cons (pv 0) pa_nil)) (pe_callTy (call_str_own c_Check_str hr (by decide)) (by rfl) T.b_str (by decide +kernel) (pa_cons (pv 1) pa_nil)) (nomark _)))))), ?_⟩
    obtain ⟨dx, ha⟩ := id ca
    obtain ⟨dy, hb⟩ := id cb
    refine ⟨_, rfl, _, _, _, _, true, rfl, .own C, IS_Check.ty hb, IS_Check.one, _, rfl, ?_⟩
    refine ⟨_, rfl, a, dx, _, rfl, ha, a, p, st, rfl, ca, h1, h2, _, rfl, ?_⟩
    refine ⟨_, rfl, b, dy, _, rfl, hb, b, p', st', rfl, cb, h3, h4, _, rfl, rfl, ?_⟩
    have e : decide (V.str (ckT p st) = V.str (ckT p' st')) = decide (ckT p st = ckT p' st') := by
      rw [decide_eq_decide]
      exact ⟨V.str.inj, fun z => by rw [z]⟩
    rw [e]
    exact k
theorem sc_Check_read : FnScope ["cls", "text", "poly", "middle", "start"] ["cls", "text"] (fnScope s_Check_read) := fnScope_by (by decide +kernel)
theorem ok_Check_read {f C : Addr} {fd : FuncData} {tM : Tok} (F : C8.Fun K "read" "Check.read" s_Check_read f fd) (T : Tx mg) (CT : CkT K C) (g_MIDDLE : mg "MIDDLE" = some (.str " start " tM)) (c_is_word : Cal P w K mg base 1 "is_word" (spIsWord K) [])
    (m_Check0 : Mak P w K mg base 2 "Check" C (spCkInit C) [.str "1", .non]) (m_Check2 : Mak P w K mg base 2 "Check" C (spCkInit C) []) : FnOk P w K mg base CX0 4 f fd ["cls", "text"] (spCkRead C) := by
  refine fn0 F sc_Check_read (fun vs H Q E h => ?_) (fun cdv A outer s H vs Q E hr h => ?_)
  · obtain ⟨_, _, rfl, _⟩ := h; rfl
  · obtain ⟨p, st, rfl, ok, h1, k⟩ := h
    refine ⟨_, (pss_cons (ps_if (pt_not (pt_val (pe_callB call_isi (by rfl) T.b_isinstance (by decide +kernel) (pa_cons (pv 1) (pa_cons (pe_bltn (v := .ty "str") (u := .type "str") (by rfl) T.b_str (by decide +kernel) rfl) pa_nil))))) (pss_one ps_never) pss_nil)
    (pss_cons (ps_asg (pe_partition (pv 1) (pe_glob (v := .str " start ") (by rfl) g_MIDDLE ⟨_, rfl⟩)) (pg_tup rfl (pgs_cons (pg_name (i := 2) sc_Check_read.nd rfl (.inl rfl)) (pgs_cons (pg_name (i := 3) sc_Check_read.nd rfl (.inl rfl)) (pgs_cons (pg_name (i := 4) sc_Check_read.nd rfl (.inl rfl)) pgs_nil)))))
    (pss_cons (ps_if (pt_cmpR op_eq (pv 1) pe_str (nomark _)) (pss_one (ps_ret (pe_mkL0 0 m_Check0 hr (by decide)))) pss_nil)
    (pss_cons (ps_if (PW.pt (pw_or (pt_cmpR op_eq (pv 3) pe_str (nomark _)) (pw_or (pt_not (pt_val (pe_c c_is_word hr (by decide) rfl (pa_cons (pv 2) pa_nil)))) (pw_or (pt_not (pt_val (pe_c c_is_word hr (by decide) rfl (pa_cons (pv 4) pa_nil)))) (pw_or (pt_cmpR op_eq (pv 2) pe_str (nomark _)) (pw_or1 (pt_cmpR op_eq (pv 4) pe_str (nomark _)))))))) (pss_one ps_never) pss_nil)
    (pss_one (ps_ret (pe_mkL 0 m_Check2 hr (by decide) (pa_cons (pv 2) (pa_cons (pv 4) pa_nil))))))))), ?_⟩
    have hs : st.length ≤ 1000 := by have := ok.len; omega
    have lt : (ckT p st).length ≤ sizeLine := Nat.le_trans ckT_len (sl_len (by omega))
    refine ⟨_, rfl, _, _, _, _, true, rfl, .ty _, .base (.str _), kit_ty (by decide +kernel), _, rfl, ?_⟩
    refine ⟨_, rfl, ⟨_, rfl⟩, _, _, rfl, rfl, by rw [mid_len]; rfl, lt, fun t nt => ?_⟩
    have s1 : Same H _ := same_upd (o := .tup [.str (Txt.partition (ckT p st) " start ").1, .str (Txt.partition (ckT p st) " start ").2.1, .str (Txt.partition (ckT p st) " start ").2.2]) nt
    refine ⟨t, _, rfl, SqT.of upd_same, rfl, _, _, rfl, _, _, rfl, _, _, rfl, rfl, ?_⟩
    refine ⟨_, rfl, rfl, _, rfl, ?_⟩
    by_cases c : p = [true]
    · have est : st = [] := List.length_eq_zero_iff.mp (by have := ok.len; rw [c] at this; simpa using this)
      subst c est
      refine iteDT (by decide +kernel) ⟨rfl, mk_ck0 fun x H' s2 hx => k x H' (s1.trans s2) hx⟩
    · have e : Txt.partition (ckT p st) " start " = (W p, (" start " : Str), W st) := by
        unfold ckT
        rw [if_neg c]
        exact TL.partition_app mid_tl (no_sp p)
      refine iteDF (fun z => ckT_ne_1 c (V.str.inj z)) ?_
      generalize upd H t _ = H1 at s1
      rw [e]
      have np : p ≠ [] := fun z => by have := ok.hd; rw [z] at this; cases this
      have ns : st ≠ [] := fun z => by
        have h1 := ok.len
        have h2 := ok.hd
        rw [z] at h1
        cases p with
        | nil => cases h2
        | cons x r =>
          cases (Option.some.inj h2)
          have : r = [] := List.length_eq_zero_iff.mp (by simpa using h1.symm)
          exact c (by rw [this])
      have en : ∀ {l : List Bool}, l ≠ [] → ¬ V.str (W l) = V.str "" := fun h z => h (by rw [W_nil] at z; exact W_inj (V.str.inj z))
      refine ⟨_, rfl, rfl, _, rfl, iteDF (show ¬ V.str " start " = V.str "" by decide +kernel) ?_⟩
      refine ⟨_, rfl, _, rfl, .inl ⟨_, rfl, by show (W p).length ≤ _; rw [W_len]; omega, fun H2 s2 => ⟨_, rfl, iteBF (by show (!isW (W p)) = false; rw [isW_W]; rfl) ?_⟩⟩⟩
      refine ⟨_, rfl, _, rfl, .inl ⟨_, rfl, by show (W st).length ≤ _; rw [W_len]; omega, fun H3 s3 => ⟨_, rfl, iteBF (by show (!isW (W st)) = false; rw [isW_W]; rfl) ?_⟩⟩⟩
      refine ⟨_, rfl, rfl, _, rfl, iteDF (en np) ?_⟩
      refine ⟨_, rfl, rfl, _, rfl, iteDF (en ns) ?_⟩
      refine ⟨rfl, _, rfl, _, rfl, mk_ck2 ok h1 fun x H' s4 hx => k x H' (((s1.trans s2).trans s3).trans s4) hx⟩
end
end U

set_option maxRecDepth 100000
set_option maxHeartbeats 4000000
namespace U
open PySem PySem.Spec PyProof.Rows
open L2 hiding Fun CX0 E0 pass0 Fun.binds
open C8 Lx SX
/-- where f begins in l first -/
def posM (l f : List Bool) : Option Nat := (List.range (l.length + 1)).find? fun i => f.isPrefixOf (l.drop i)
theorem posM_some {l f : List Bool} {i : Nat} : posM l f = some i ↔ (i ≤ l.length ∧ f <+: l.drop i ∧ ∀ k, k < i → ¬ f <+: l.drop k) := by
  unfold posM
  rw [List.find?_range_eq_some, List.isPrefixOf_iff_prefix]
  constructor
  · rintro ⟨h1, h2, h3⟩
    refine ⟨by have := List.mem_range.mp h2; omega, h1, fun k hk z => ?_⟩
    have := h3 k hk
    rw [List.isPrefixOf_iff_prefix.mpr z] at this
    cases this
  · rintro ⟨h1, h2, h3⟩
    refine ⟨h2, List.mem_range.mpr (by omega), fun k hk => ?_⟩
    cases e : f.isPrefixOf (l.drop k) with
    | false => rfl
    | true => exact absurd (List.isPrefixOf_iff_prefix.mp e) (h3 k hk)
theorem posM_none {l f : List Bool} : posM l f = none ↔ ∀ i, i ≤ l.length → ¬ f <+: l.drop i := by
  unfold posM
  rw [List.find?_eq_none]
  constructor
  · intro h i hi z
    exact h i (List.mem_range.mpr (by omega)) (List.isPrefixOf_iff_prefix.mpr z)
  · intro h i hi z
    exact h i (by have := List.mem_range.mp hi; omega) (List.isPrefixOf_iff_prefix.mp z)
theorem at_W {l f : List Bool} {i : Nat} : StrLaws.At (W l) (W f) (W l).length i ↔ (i ≤ l.length ∧ f <+: l.drop i) := by
  unfold StrLaws.At
  rw [StrLaws.subAt_eq, W_len, W_len, W_tl, W_tl, ← List.map_drop, ← List.map_take, beq_iff_eq]
  constructor
  · rintro ⟨h1, h2⟩
    refine ⟨by omega, List.prefix_iff_eq_take.mpr (map_bt_inj h2).symm⟩
  · rintro ⟨h1, h2⟩
    have hl := h2.length_le
    rw [List.length_drop] at hl
    exact ⟨by omega, by rw [← List.prefix_iff_eq_take.mp h2]⟩
theorem occ_none {l f : List Bool} (h : posM l f = none) : Builtin.Str.occurrences (W l) (W f) 0 (W l).length 1 = [] := by
  rcases StrLaws.occ_head (W l) (W f) 1 (Nat.le_refl _) with ⟨h1, _⟩ | ⟨i, r, _, h2, _⟩
  · exact h1
  · obtain ⟨h3, h4⟩ := at_W.mp h2
    exact absurd h4 (posM_none.mp h i h3)
theorem occ_some {l f : List Bool} {i : Nat} (h : posM l f = some i) : ∃ r, Builtin.Str.occurrences (W l) (W f) 0 (W l).length 1 = i :: r := by
  obtain ⟨p1, p2, p3⟩ := posM_some.mp h
  rcases StrLaws.occ_head (W l) (W f) 1 (Nat.le_refl _) with ⟨_, h2⟩ | ⟨j, r, h1, h2, h3⟩
  · exact absurd (at_W.mpr ⟨p1, p2⟩) (h2 i)
  · obtain ⟨q1, q2⟩ := at_W.mp h2
    have e : j = i := by
      rcases Nat.lt_trichotomy i j with c | c | c
      · exact absurd (at_W.mpr ⟨p1, p2⟩) (h3 i c)
      · exact c.symm
      · exact absurd q2 (p3 j c)
    subst e
    exact ⟨r, h1⟩
theorem find_W {l f : List Bool} {i : Nat} (h : posM l f = some i) : Txt.find (W l) (W f) = (i : Int) := by
  obtain ⟨r, e⟩ := occ_some h
  unfold Txt.find
  rw [e]
theorem posM_end (l f : List Bool) : ∃ i, posM (l ++ f) f = some i ∧ i ≤ l.length := by
  cases e : posM (l ++ f) f with
  | none =>
    refine absurd ?_ (posM_none.mp e l.length (by rw [List.length_append]; omega))
    rw [List.drop_left]
    exact List.prefix_refl _
  | some i =>
    refine ⟨i, rfl, ?_⟩
    obtain ⟨_, _, h3⟩ := posM_some.mp e
    rcases Nat.lt_or_ge l.length i with c | c
    · refine absurd ?_ (h3 _ c)
      rw [List.drop_left]
      exact List.prefix_refl _
    · exact c
end U

set_option maxRecDepth 100000
namespace U
theorem nodup1 {α : Type} (a : α) : [a].Nodup := by simp
theorem tl_nil (w : Nat) : tl w [] = [] := by unfold tl; simp
/-! flags in lines -/
/-- a flag ahead of the one at the end -/
def SpL (f l : List Bool) : Prop := ∃ i, i < l.length ∧ f <+: (l ++ f).drop i
theorem posM_sp {f l : List Bool} : posM (l ++ f) f = some l.length ↔ ¬ SpL f l := by
  constructor
  · intro h ⟨i, hi, hp⟩
    exact (posM_some.mp h).2.2 i hi hp
  · intro h
    refine posM_some.mpr ⟨by rw [List.length_append]; omega, by rw [List.drop_left]; exact List.prefix_refl _, fun k hk hp => h ⟨k, hk, hp⟩⟩
theorem pre_cut {f a r : List Bool} {i : Nat} (h : f <+: (a ++ r).drop i) (hi : i + f.length ≤ a.length) : f <+: a.drop i := by
  rw [List.prefix_iff_eq_take] at h ⊢
  rw [List.drop_append_of_le_length (by omega), List.take_append_of_le_length (by rw [List.length_drop]; omega)] at h
  exact h
theorem pre_ext {f a r : List Bool} {i : Nat} (h : f <+: a.drop i) (hi : i ≤ a.length) : f <+: (a ++ r).drop i := by
  rw [List.drop_append_of_le_length hi]
  exact h.trans (List.prefix_append _ _)
theorem drop_add' (u v : List Bool) (j : Nat) : (u ++ v).drop (u.length + j) = v.drop j := by
  rw [← List.drop_drop, List.drop_left]
/-- f stands in l -/
def infx (f l : List Bool) : Bool := (posM l f).isSome
theorem infx_iff {f l : List Bool} : infx f l = true ↔ ∃ i, i ≤ l.length ∧ f <+: l.drop i := by
  unfold infx
  cases e : posM l f with
  | none =>
    constructor
    · intro h; cases h
    · rintro ⟨i, hi, hp⟩
      exact absurd hp (posM_none.mp e i hi)
  | some i =>
    obtain ⟨h1, h2, _⟩ := posM_some.mp e
    exact ⟨fun _ => ⟨i, h1, h2⟩, fun _ => rfl⟩
theorem infx_false {f l : List Bool} : infx f l = false ↔ ∀ i, i ≤ l.length → ¬ f <+: l.drop i := by
  rw [← Bool.not_eq_true, infx_iff]
  constructor
  · intro h i hi hp; exact h ⟨i, hi, hp⟩
  · rintro h ⟨i, hi, hp⟩; exact h i hi hp
def bordM (f l : List Bool) : Bool := decide (posM (l ++ f) f = some l.length)
theorem bordM_iff {f l : List Bool} : bordM f l = true ↔ ¬ SpL f l := by
  unfold bordM
  rw [decide_eq_true_iff]
  exact posM_sp
theorem tl_split (n : Nat) (l : List Bool) : l = l.take (l.length - n) ++ tl n l := by unfold tl; rw [List.take_append_drop]
theorem SpL.infx {f l : List Bool} (hf : f ≠ []) (h : U.infx f l = true) : SpL f l := by
  obtain ⟨i, hi, hp⟩ := infx_iff.mp h
  have := hp.length_le
  rw [List.length_drop] at this
  have h0 : 0 < f.length := List.length_pos_iff.mpr hf
  exact ⟨i, by omega, pre_ext hp hi⟩
theorem sp_front {f u v : List Bool} (h : SpL f v) : SpL f (u ++ v) := by
  obtain ⟨i, hi, hp⟩ := h
  refine ⟨u.length + i, by rw [List.length_append]; omega, ?_⟩
  rw [List.append_assoc, drop_add']
  exact hp
/-- the test of one step -/
theorem sp_step {f l st y : List Bool} {w : Nat} (hf : f ≠ []) (hw : f.length ≤ w + 1) (hst : st = tl w l) (hl : ¬ SpL f l) : SpL f (l ++ y) ↔ (infx f (st ++ y) = true ∨ SpL f (tl w (st ++ y))) := by
  have h0 : 0 < f.length := List.length_pos_iff.mpr hf
  have el := tl_split w l
  rw [← hst] at el
  generalize hu : l.take (l.length - w) = u at el
  have lu : u.length = l.length - w := by rw [← hu, List.length_take]; omega
  have ly : l ++ y = u ++ (st ++ y) := by rw [← List.append_assoc, ← el]
  have lst : st.length = min w l.length := by rw [hst, tl_len]
  constructor
  · rintro ⟨i, hi, hp⟩
    by_cases c : i + f.length ≤ (l ++ y).length
    · left
      have h1 := pre_cut hp c
      by_cases c2 : i + f.length ≤ l.length
      · exfalso
        have h2 := pre_cut h1 c2
        exact hl ⟨i, by omega, pre_ext h2 (by omega)⟩
      · have hiu : u.length ≤ i := by omega
        refine infx_iff.mpr ⟨i - u.length, by rw [List.length_append] at hi ⊢; omega, ?_⟩
        rw [ly, show i = u.length + (i - u.length) by omega, drop_add'] at h1
        exact h1
    · right
      -- the line's last bits
      have e2 := tl_split w (st ++ y)
      generalize hv : (st ++ y).take ((st ++ y).length - w) = v at e2
      have lv : v.length = (st ++ y).length - w := by rw [← hv, List.length_take]; omega
      have e3 : l ++ y = (u ++ v) ++ tl w (st ++ y) := by rw [List.append_assoc, ← e2]; exact ly
      have l3 : (l ++ y).length = u.length + v.length + (tl w (st ++ y)).length := by rw [e3, List.length_append, List.length_append]
      have l4 : (tl w (st ++ y)).length = min w (st ++ y).length := tl_len _ _
      have l5 : (st ++ y).length = st.length + y.length := List.length_append
      have l6 : (l ++ y).length = l.length + y.length := List.length_append
      refine ⟨i - (u ++ v).length, ?_, ?_⟩
      · rw [List.length_append]; omega
      · have hge : (u ++ v).length ≤ i := by rw [List.length_append]; omega
        rw [e3, List.append_assoc, show i = (u ++ v).length + (i - (u ++ v).length) by omega, drop_add'] at hp
        exact hp
  · rintro (h | h)
    · rw [ly]
      exact sp_front (SpL.infx hf h)
    · have e2 := tl_split w (st ++ y)
      rw [ly, e2, ← List.append_assoc]
      exact sp_front h
/-! the walk over standings -/
def wid (ss : List Stf) (f : List Bool) : Nat := max (ss.foldr (fun s m => max s.1.length m) 0) f.length - 1
def edge (ss : List Stf) (f : List Bool) (w : Nat) (st : List Bool) (b : Bool) : Option (List Bool) :=
  if infx f (itP ss 40 (st ++ [b])) || !bordM f (tl w (itP ss 40 (st ++ [b]))) then none else some (tl w (itP ss 40 (st ++ [b])))
theorem bodyF_snoc (ss : List Stf) (m : List Bool) (b : Bool) : bodyF ss (m ++ [b]) = itP ss 40 (bodyF ss m ++ [b]) := by unfold bodyF; rw [List.foldl_append]; rfl
theorem ins40 {ss : List Stf} (o : OkN 39 ss) (m : List Bool) (b : Bool) : ∃ x, Ins ss (bodyF ss m ++ [b]) x ∧ x.length ≤ 39 ∧ bodyF ss (m ++ [b]) = bodyF ss m ++ [b] ++ x := by
  obtain ⟨x, hx, hl⟩ := o _ (body_ex o m).reach b
  refine ⟨x, hx, hl, ?_⟩
  rw [bodyF_snoc, hx.itP, List.take_of_length_le (by omega)]
/-- the standing of a message -/
def stand (ss : List Stf) (w : Nat) (m : List Bool) : List Bool := tl w (bodyF ss m)
theorem edge_at {ss : List Stf} {f : List Bool} {w : Nat} (o : OkN 39 ss) (hf : f ≠ []) (hw : f.length ≤ w + 1) (hL : ∀ s ∈ ss, s.1.length ≤ w + 1) {m : List Bool} (hm : ¬ SpL f (bodyF ss m)) (b : Bool) :
    (∃ x, Ins ss (stand ss w m ++ [b]) x ∧ x.length ≤ 39 ∧ itP ss 40 (stand ss w m ++ [b]) = stand ss w m ++ [b] ++ x) ∧
    (SpL f (bodyF ss (m ++ [b])) → edge ss f w (stand ss w m) b = none) ∧ (¬ SpL f (bodyF ss (m ++ [b])) → edge ss f w (stand ss w m) b = some (stand ss w (m ++ [b]))) := by
  obtain ⟨x, hx, hl, eb⟩ := ins40 o m b
  have et : tl (w + 1) (bodyF ss m ++ [b]) = tl (w + 1) (stand ss w m ++ [b]) := by
    rw [tl_snoc0, tl_snoc0]
    unfold stand
    rw [tl_tl (Nat.le_refl w)]
  have hx2 : Ins ss (stand ss w m ++ [b]) x := hx.tl hL et
  have e40 : itP ss 40 (stand ss w m ++ [b]) = stand ss w m ++ [b] ++ x := by rw [hx2.itP, List.take_of_length_le (by omega)]
  have key := sp_step (y := [b] ++ x) hf hw (show stand ss w m = tl w (bodyF ss m) from rfl) hm
  rw [← List.append_assoc, ← List.append_assoc] at key
  have etl : tl w (stand ss w m ++ [b] ++ x) = stand ss w (m ++ [b]) := by
    unfold stand
    rw [eb, List.append_assoc, List.append_assoc]
    exact tl_app (tl_tl (Nat.le_refl w) _) _
  refine ⟨⟨x, hx2, hl, e40⟩, fun h => ?_, fun h => ?_⟩
  · rw [eb] at h
    unfold edge
    rw [e40]
    rcases key.mp h with h1 | h1
    · rw [h1]; rfl
    · have : bordM f (tl w (stand ss w m ++ [b] ++ x)) = false := by
        rw [← Bool.not_eq_true, bordM_iff]
        exact fun z => z h1
      rw [this, Bool.not_false, Bool.or_true]
      rfl
  · rw [eb] at h
    unfold edge
    rw [e40]
    have h1 : infx f (stand ss w m ++ [b] ++ x) = false := by
      rw [← Bool.not_eq_true]
      exact fun z => h (key.mpr (.inl z))
    have h2 : bordM f (tl w (stand ss w m ++ [b] ++ x)) = true := bordM_iff.mpr fun z => h (key.mpr (.inr z))
    rw [h1, h2, etl]
    rfl
/-- a word as a number -/
def num (m : List Bool) : Nat := m.foldl (fun n b => 2 * n + (if b then 1 else 0)) 0
theorem num_snoc (m : List Bool) (b : Bool) : num (m ++ [b]) = 2 * num m + (if b then 1 else 0) := by unfold num; rw [List.foldl_append]; rfl
/-- how things stand ahead of a layer -/
structure WkL (ss : List Stf) (f : List Bool) (w n : Nat) (kn : List (List Bool)) (ly : List (List Bool × List Bool)) : Prop where
  a : ∀ m, m.length ≤ n → ¬ SpL f (bodyF ss m)
  nd : kn.Nodup
  sh : ∀ t ∈ kn, t.length ≤ w
  g : ∀ t ∈ kn, ∃ m, m.length ≤ n ∧ t = stand ss w m
  nil : [] ∈ kn
  l1 : ∀ p ∈ ly, p.1.length = n ∧ p.2 = stand ss w p.1 ∧ p.2 ∈ kn
  srt : ly.Pairwise fun p q => num p.1 < num q.1
  d : ∀ t ∈ kn, (∃ p ∈ ly, p.2 = t) ∨ ∀ b, ∃ u ∈ kn, edge ss f w t b = some u
  e : ∀ m, m.length = n → (∀ b, ∃ u ∈ kn, edge ss f w (stand ss w m) b = some u) ∨ ∃ p ∈ ly, p.2 = stand ss w m ∧ num p.1 ≤ num m
def Dn (ly : List (List Bool × List Bool)) (i : Nat) (c : Bool) (p : List Bool × List Bool) (b : Bool) : Prop := p ∈ ly.take i ∨ (c = true ∧ ly[i]? = some p ∧ b = false)
/-- within a layer: the edges of the first i are done, and the first one of the next if c -/
structure WkE (ss : List Stf) (f : List Bool) (w n : Nat) (k0 : List (List Bool)) (ly : List (List Bool × List Bool)) (i : Nat) (c : Bool) (kn : List (List Bool)) (lt : List (List Bool × List Bool)) : Prop where
  nd : kn.Nodup
  sh : ∀ t ∈ kn, t.length ≤ w
  g : ∀ t ∈ kn, ∃ m, m.length ≤ n + 1 ∧ t = stand ss w m
  sub : ∀ t ∈ k0, t ∈ kn
  app : kn.length = k0.length + lt.length
  l1 : ∀ p ∈ lt, p.1.length = n + 1 ∧ p.2 = stand ss w p.1 ∧ p.2 ∈ kn
  srt : lt.Pairwise fun p q => num p.1 < num q.1
  ltd : ∀ p ∈ lt, ∃ q b, Dn ly i c q b ∧ p.1 = q.1 ++ [b]
  new : ∀ t ∈ kn, t ∈ k0 ∨ ∃ p ∈ lt, p.2 = t
  ed : ∀ q b, Dn ly i c q b → ∃ u ∈ kn, edge ss f w q.2 b = some u ∧ (u ∈ k0 ∨ ∃ p ∈ lt, p.2 = u ∧ num p.1 ≤ num (q.1 ++ [b]))
theorem WkE.start {ss : List Stf} {f : List Bool} {w n : Nat} {kn : List (List Bool)} {ly : List (List Bool × List Bool)} (h : WkL ss f w n kn ly) : WkE ss f w n kn ly 0 false kn [] :=
  ⟨h.nd, h.sh, fun t ht => by obtain ⟨m, h1, h2⟩ := h.g t ht; exact ⟨m, by omega, h2⟩, fun _ h => h, rfl, (fun _ h => nomatch h), .nil, (fun _ h => nomatch h), fun t ht => .inl ht, fun q b hd => by
    rcases hd with h | ⟨h, _⟩
    · rw [List.take_zero] at h; cases h
    · cases h⟩
theorem Dn.lt {ss : List Stf} {f : List Bool} {w n : Nat} {k0 : List (List Bool)} {ly : List (List Bool × List Bool)} (h : WkL ss f w n k0 ly) {i : Nat} {c : Bool} {p : List Bool × List Bool} (hp : ly[i]? = some p) {q : List Bool × List Bool} {b : Bool} (hd : Dn ly i c q b) : num (q.1 ++ [b]) < num (p.1 ++ [c]) := by
  rw [num_snoc, num_snoc]
  rcases hd with h1 | ⟨rfl, h1, rfl⟩
  · have hi := (List.getElem?_eq_some_iff.mp hp).1
    have hs : ly = ly.take i ++ ly.drop i := (List.take_append_drop i ly).symm
    have hpd : p ∈ ly.drop i := by
      rw [List.drop_eq_getElem_cons hi]
      rw [List.getElem?_eq_getElem hi] at hp
      rw [Option.some.inj hp]
      exact List.mem_cons_self
    have := h.srt
    rw [hs] at this
    have := (List.pairwise_append.mp this).2.2 q h1 p hpd
    split <;> split <;> omega
  · rw [hp] at h1
    rw [Option.some.inj h1]
    simp
/-- the edges that are done grow by one -/
theorem Dn.step {ly : List (List Bool × List Bool)} {i : Nat} {c : Bool} {p : List Bool × List Bool} (hp : ly[i]? = some p) {q : List Bool × List Bool} {b : Bool} : Dn ly (if c then i + 1 else i) (!c) q b → Dn ly i c q b ∨ (q = p ∧ b = c) := by
  cases c with
  | false =>
    rintro (h | ⟨_, h1, h2⟩)
    · exact .inl (.inl h)
    · rw [show (if false = true then i + 1 else i) = i from rfl, hp] at h1
      exact .inr ⟨(Option.some.inj h1).symm, h2⟩
  | true =>
    rintro (h | ⟨h, _⟩)
    · rw [show (if true = true then i + 1 else i) = i + 1 from rfl, List.take_add_one, hp] at h
      rcases List.mem_append.mp h with h | h
      · exact .inl (.inl h)
      · have e : q = p := by simpa using h
        cases b with
        | false => exact .inl (.inr ⟨rfl, by rw [e]; exact hp, rfl⟩)
        | true => exact .inr ⟨e, rfl⟩
    · cases h
theorem WkE.next {ss : List Stf} {f : List Bool} {w n : Nat} (o : OkN 39 ss) (hf : f ≠ []) (hw : f.length ≤ w + 1) (hL : ∀ s ∈ ss, s.1.length ≤ w + 1) {k0 kn : List (List Bool)} {ly lt : List (List Bool × List Bool)} (h : WkL ss f w n k0 ly) {i : Nat} {c : Bool} (E : WkE ss f w n k0 ly i c kn lt) {p : List Bool × List Bool} (hp : ly[i]? = some p)
    {u : List Bool} (hu : edge ss f w p.2 c = some u) :
    (u ∈ kn → WkE ss f w n k0 ly (if c then i + 1 else i) (!c) kn lt) ∧ (u ∉ kn → WkE ss f w n k0 ly (if c then i + 1 else i) (!c) (kn ++ [u]) (lt ++ [(p.1 ++ [c], u)])) := by
  have hpm := List.mem_of_getElem? hp
  obtain ⟨p1, p2, p3⟩ := h.l1 p hpm
  have hm : ¬ SpL f (bodyF ss p.1) := h.a p.1 (by omega)
  obtain ⟨_, e1, e2⟩ := edge_at o hf hw hL hm c
  rw [← p2] at e1 e2
  have us : u = stand ss w (p.1 ++ [c]) := by
    by_cases z : SpL f (bodyF ss (p.1 ++ [c]))
    · rw [e1 z] at hu; cases hu
    · rw [e2 z] at hu; exact (Option.some.inj hu).symm
  have hdn : ∀ {q b}, Dn ly i c q b → Dn ly (if c then i + 1 else i) (!c) q b := by
    intro q b hd
    cases c with
    | false =>
      rcases hd with h | ⟨h, _⟩
      · exact .inl h
      · cases h
    | true =>
      refine .inl ?_
      rw [show (if true = true then i + 1 else i) = i + 1 from rfl, List.take_add_one, hp]
      rcases hd with h | ⟨_, h1, _⟩
      · exact List.mem_append_left _ h
      · rw [hp] at h1
        exact List.mem_append_right _ (by simp [Option.some.inj h1])
  have hpn : Dn ly (if c then i + 1 else i) (!c) p c := by
    cases c with
    | false => exact .inr ⟨rfl, hp, rfl⟩
    | true =>
      refine .inl ?_
      rw [show (if true = true then i + 1 else i) = i + 1 from rfl, List.take_add_one, hp]
      exact List.mem_append_right _ (by simp)
  constructor
  · intro hk
    refine ⟨E.nd, E.sh, E.g, E.sub, E.app, E.l1, E.srt, fun q hq => ?_, E.new, fun q b hd => ?_⟩
    · obtain ⟨q2, b, h1, h2⟩ := E.ltd q hq
      exact ⟨q2, b, hdn h1, h2⟩
    · rcases Dn.step hp hd with h1 | ⟨rfl, rfl⟩
      · exact E.ed q b h1
      · refine ⟨u, hk, hu, ?_⟩
        rcases E.new u hk with h1 | ⟨r, h1, h2⟩
        · exact .inl h1
        · refine .inr ⟨r, h1, h2, ?_⟩
          obtain ⟨q2, b2, h3, h4⟩ := E.ltd r h1
          rw [h4]
          exact Nat.le_of_lt (Dn.lt h hp h3)
  · intro hk
    refine ⟨?_, ?_, ?_, fun t ht => List.mem_append_left _ (E.sub t ht), by rw [List.length_append, List.length_append, E.app]; show _ + 1 = _ + (_ + 1); omega, ?_, ?_, ?_, ?_, ?_⟩
    · rw [List.nodup_append]
      exact ⟨E.nd, nodup1 _, fun x hx y hy z => hk (by rw [← List.mem_singleton.mp hy, ← z]; exact hx)⟩
    · intro t ht
      rcases List.mem_append.mp ht with h1 | h1
      · exact E.sh t h1
      · rw [List.mem_singleton.mp h1, us]
        exact tl_le _ _
    · intro t ht
      rcases List.mem_append.mp ht with h1 | h1
      · exact E.g t h1
      · exact ⟨p.1 ++ [c], by rw [List.length_append, p1]; exact Nat.le_refl _, by rw [List.mem_singleton.mp h1]; exact us⟩
    · intro q hq
      rcases List.mem_append.mp hq with h1 | h1
      · obtain ⟨a1, a2, a3⟩ := E.l1 q h1
        exact ⟨a1, a2, List.mem_append_left _ a3⟩
      · rw [List.mem_singleton.mp h1]
        exact ⟨by rw [List.length_append, p1]; rfl, us, List.mem_append_right _ (List.mem_singleton.mpr rfl)⟩
    · rw [List.pairwise_append]
      refine ⟨E.srt, List.pairwise_singleton _ _, fun q hq r hr => ?_⟩
      rw [List.mem_singleton.mp hr]
      obtain ⟨q2, b2, h3, h4⟩ := E.ltd q hq
      rw [h4]
      exact Dn.lt h hp h3
    · intro q hq
      rcases List.mem_append.mp hq with h1 | h1
      · obtain ⟨q2, b, h1, h2⟩ := E.ltd q h1
        exact ⟨q2, b, hdn h1, h2⟩
      · rw [List.mem_singleton.mp h1]
        exact ⟨p, c, hpn, rfl⟩
    · intro t ht
      rcases List.mem_append.mp ht with h1 | h1
      · rcases E.new t h1 with h2 | ⟨r, h2, h3⟩
        · exact .inl h2
        · exact .inr ⟨r, List.mem_append_left _ h2, h3⟩
      · exact .inr ⟨_, List.mem_append_right _ (List.mem_singleton.mpr rfl), (List.mem_singleton.mp h1).symm⟩
    · intro q b hd
      rcases Dn.step hp hd with h1 | ⟨rfl, rfl⟩
      · obtain ⟨v, h2, h3, h4⟩ := E.ed q b h1
        refine ⟨v, List.mem_append_left _ h2, h3, ?_⟩
        rcases h4 with h4 | ⟨r, h5, h6⟩
        · exact .inl h4
        · exact .inr ⟨r, List.mem_append_left _ h5, h6⟩
      · exact ⟨u, List.mem_append_right _ (List.mem_singleton.mpr rfl), hu, .inr ⟨_, List.mem_append_right _ (List.mem_singleton.mpr rfl), rfl, Nat.le_refl _⟩⟩
/-- the end of a layer -/
theorem WkE.done {ss : List Stf} {f : List Bool} {w n : Nat} (o : OkN 39 ss) (hf : f ≠ []) (hw : f.length ≤ w + 1) (hL : ∀ s ∈ ss, s.1.length ≤ w + 1) {k0 kn : List (List Bool)} {ly lt : List (List Bool × List Bool)} (h : WkL ss f w n k0 ly) (E : WkE ss f w n k0 ly ly.length false kn lt) : WkL ss f w (n + 1) kn lt := by
  have dn : ∀ {q b}, q ∈ ly → Dn ly ly.length false q b := fun hq => .inl (by rw [List.take_length]; exact hq)
  -- each message that is one bit longer
  have step : ∀ m b, m.length = n → ∃ u ∈ kn, edge ss f w (stand ss w m) b = some u ∧ (u ∈ k0 ∨ ∃ p ∈ lt, p.2 = u ∧ num p.1 ≤ num (m ++ [b])) := by
    intro m b hm
    rcases h.e m hm with h1 | ⟨p, h1, h2, h3⟩
    · obtain ⟨u, h4, h5⟩ := h1 b
      exact ⟨u, E.sub u h4, h5, .inl h4⟩
    · obtain ⟨u, h4, h5, h6⟩ := E.ed p b (dn h1)
      rw [h2] at h5
      refine ⟨u, h4, h5, ?_⟩
      rcases h6 with h6 | ⟨r, h7, h8, h9⟩
      · exact .inl h6
      · refine .inr ⟨r, h7, h8, Nat.le_trans h9 ?_⟩
        rw [num_snoc, num_snoc]
        omega
  have old : ∀ t ∈ k0, ∀ b, ∃ u ∈ kn, edge ss f w t b = some u := by
    intro t ht b
    rcases h.d t ht with ⟨p, h1, rfl⟩ | h1
    · obtain ⟨u, h4, h5, _⟩ := E.ed p b (dn h1)
      exact ⟨u, h4, h5⟩
    · obtain ⟨u, h4, h5⟩ := h1 b
      exact ⟨u, E.sub u h4, h5⟩
  have cut : ∀ m : List Bool, m.length = n + 1 → ∃ m' b, m = m' ++ [b] ∧ m'.length = n := by
    intro m hm
    rcases List.eq_nil_or_concat m with z | ⟨m', b, z⟩
    · rw [z] at hm; cases hm
    · rw [List.concat_eq_append] at z
      exact ⟨m', b, z, by rw [z, List.length_append] at hm; simpa using hm⟩
  have unsp : ∀ m b, m.length = n → ¬ SpL f (bodyF ss (m ++ [b])) ∧ edge ss f w (stand ss w m) b = some (stand ss w (m ++ [b])) := by
    intro m b hm
    obtain ⟨u, _, h2, _⟩ := step m b hm
    obtain ⟨_, e1, e2⟩ := edge_at o hf hw hL (h.a m (by omega)) b
    have hn : ¬ SpL f (bodyF ss (m ++ [b])) := fun z => by rw [e1 z] at h2; cases h2
    exact ⟨hn, e2 hn⟩
  refine ⟨fun m hm => ?_, E.nd, E.sh, E.g, E.sub _ h.nil, E.l1, E.srt, fun t ht => ?_, fun m hm => ?_⟩
  · rcases Nat.lt_or_ge m.length (n + 1) with c | c
    · exact h.a m (by omega)
    · obtain ⟨m', b, rfl, h1⟩ := cut m (by omega)
      exact (unsp m' b h1).1
  · rcases E.new t ht with h1 | h1
    · exact .inr (old t h1)
    · exact .inl h1
  · obtain ⟨m', b, rfl, h1⟩ := cut m hm
    obtain ⟨u, h2, h3, h4⟩ := step m' b h1
    rw [(unsp m' b h1).2] at h3
    have eu := Option.some.inj h3
    rw [eu]
    rcases h4 with h4 | h4
    · exact .inl (old u h4)
    · exact .inr h4
/-- m is the first spoiled message -/
def FirstSp (ss : List Stf) (f m : List Bool) : Prop := SpL f (bodyF ss m) ∧ ∀ m', (m'.length < m.length ∨ (m'.length = m.length ∧ num m' < num m)) → ¬ SpL f (bodyF ss m')
theorem WkE.bad {ss : List Stf} {f : List Bool} {w n : Nat} (o : OkN 39 ss) (hf : f ≠ []) (hw : f.length ≤ w + 1) (hL : ∀ s ∈ ss, s.1.length ≤ w + 1) {k0 kn : List (List Bool)} {ly lt : List (List Bool × List Bool)} (h : WkL ss f w n k0 ly) {i : Nat} {c : Bool} (E : WkE ss f w n k0 ly i c kn lt) {p : List Bool × List Bool} (hp : ly[i]? = some p)
    (hu : edge ss f w p.2 c = none) : FirstSp ss f (p.1 ++ [c]) := by
  have hpm := List.mem_of_getElem? hp
  obtain ⟨p1, p2, p3⟩ := h.l1 p hpm
  obtain ⟨_, e1, e2⟩ := edge_at o hf hw hL (h.a p.1 (by omega)) c
  rw [← p2] at e2
  refine ⟨?_, fun m' hm' => ?_⟩
  · by_cases z : SpL f (bodyF ss (p.1 ++ [c]))
    · exact z
    · rw [e2 z] at hu; cases hu
  · rw [List.length_append, p1] at hm'
    simp only [List.length_cons, List.length_nil] at hm'
    rcases hm' with h1 | ⟨h1, h2⟩
    · exact h.a m' (by omega)
    · have : ∃ v b, m' = v ++ [b] ∧ v.length = n := by
        rcases List.eq_nil_or_concat m' with z | ⟨v, b, z⟩
        · rw [z] at h1; simp at h1
        · rw [List.concat_eq_append] at z
          exact ⟨v, b, z, by rw [z, List.length_append] at h1; simpa using h1⟩
      obtain ⟨v, b, rfl, hv⟩ := this
      obtain ⟨_, f1, f2⟩ := edge_at o hf hw hL (h.a v (by omega)) b
      intro z
      have hz := f1 z
      rcases h.e v hv with h3 | ⟨q, h3, h4, h5⟩
      · obtain ⟨u, _, h6⟩ := h3 b
        rw [hz] at h6; cases h6
      · have hd : Dn ly i c q b := by
          obtain ⟨j, hj⟩ := List.getElem?_of_mem h3
          rcases Nat.lt_trichotomy j i with c1 | c1 | c1
          · exact .inl (List.mem_of_getElem? (i := j) (by rw [List.getElem?_take, if_pos c1]; exact hj))
          · subst c1
            rw [hp] at hj
            have eq := Option.some.inj hj
            subst eq
            rw [num_snoc, num_snoc] at h2
            cases c with
            | false =>
              exfalso
              simp only [Bool.false_eq_true, if_false] at h2
              split at h2 <;> omega
            | true =>
              cases b with
              | false => exact .inr ⟨rfl, hp, rfl⟩
              | true =>
                exfalso
                simp only [if_true] at h2
                omega
          · exfalso
            have hjl := (List.getElem?_eq_some_iff.mp hj).1
            have := List.pairwise_iff_getElem.mp h.srt i j (by omega) hjl c1
            rw [List.getElem?_eq_getElem (by omega)] at hp
            rw [List.getElem?_eq_getElem hjl] at hj
            rw [Option.some.inj hp, Option.some.inj hj] at this
            rw [num_snoc, num_snoc] at h2
            split at h2 <;> split at h2 <;> omega
        obtain ⟨u, _, h6, _⟩ := E.ed q b hd
        rw [h4, hz] at h6
        cases h6
/-- the standings of a clean rule -/
structure Paper (ss : List Stf) (f : List Bool) (w : Nat) (kn : List (List Bool)) : Prop where
  nd : kn.Nodup
  sh : ∀ t ∈ kn, t.length ≤ w
  nil : [] ∈ kn
  cl : ∀ t ∈ kn, ∀ b, ∃ u ∈ kn, edge ss f w t b = some u
  g : ∀ t ∈ kn, ∃ m, t = stand ss w m
theorem WkL.clean {ss : List Stf} {f : List Bool} {w n : Nat} (o : OkN 39 ss) (hf : f ≠ []) (hw : f.length ≤ w + 1) (hL : ∀ s ∈ ss, s.1.length ≤ w + 1) {kn : List (List Bool)} (h : WkL ss f w n kn []) : Paper ss f w kn ∧ ∀ m, ¬ SpL f (bodyF ss m) := by
  have cl : ∀ t ∈ kn, ∀ b, ∃ u ∈ kn, edge ss f w t b = some u := fun t ht => by
    rcases h.d t ht with ⟨p, h1, _⟩ | h1
    · cases h1
    · exact h1
  refine ⟨⟨h.nd, h.sh, h.nil, cl, fun t ht => by obtain ⟨m, _, e⟩ := h.g t ht; exact ⟨m, e⟩⟩, ?_⟩
  have all : ∀ k m, m.length = k → ¬ SpL f (bodyF ss m) ∧ stand ss w m ∈ kn := by
    intro k
    induction k with
    | zero =>
      intro m hm
      have : m = [] := List.length_eq_zero_iff.mp hm
      subst this
      exact ⟨h.a [] (Nat.zero_le _), by show tl w [] ∈ kn; rw [tl_nil]; exact h.nil⟩
    | succ k ih =>
      intro m hm
      rcases List.eq_nil_or_concat m with z | ⟨v, b, z⟩
      · rw [z] at hm; cases hm
      · rw [List.concat_eq_append] at z
        subst z
        obtain ⟨h1, h2⟩ := ih v (by rw [List.length_append] at hm; simpa using hm)
        obtain ⟨u, h3, h4⟩ := cl _ h2 b
        obtain ⟨_, e1, e2⟩ := edge_at o hf hw hL h1 b
        have hn : ¬ SpL f (bodyF ss (v ++ [b])) := fun z => by rw [e1 z] at h4; cases h4
        rw [e2 hn] at h4
        exact ⟨hn, by rw [Option.some.inj h4]; exact h3⟩
  exact fun m => (all m.length m rfl).1
theorem WkL.begin {ss : List Stf} {f : List Bool} {w : Nat} : WkL ss f w 0 [[]] [([], [])] := by
  have st0 : stand ss w [] = [] := tl_nil w
  have z0 : ∀ m : List Bool, m.length ≤ 0 → m = [] := fun m h => List.length_eq_zero_iff.mp (by omega)
  refine ⟨fun m hm => ?_, nodup1 _, fun t ht => by rw [List.mem_singleton.mp ht]; exact Nat.zero_le _, fun t ht => ⟨[], Nat.le_refl _, by rw [List.mem_singleton.mp ht, st0]⟩, List.mem_singleton.mpr rfl, fun p hp => by rw [List.mem_singleton.mp hp]; exact ⟨rfl, st0.symm, List.mem_singleton.mpr rfl⟩, List.pairwise_singleton _ _, fun t ht => .inl ⟨_, List.mem_singleton.mpr rfl, (List.mem_singleton.mp ht).symm⟩, fun m hm => .inr ⟨_, List.mem_singleton.mpr rfl, ?_, ?_⟩⟩
  · rw [z0 m hm]
    rintro ⟨i, hi, _⟩
    exact absurd hi (Nat.not_lt_zero _)
  · rw [z0 m (by omega)]; exact st0.symm
  · rw [z0 m (by omega)]; exact Nat.le_refl _
end U

set_option maxRecDepth 100000
set_option maxHeartbeats 4000000
namespace U
open PySem PySem.Spec PyProof.Rows
open L2 hiding Fun CX0 E0 pass0 Fun.binds
open C8 Lx SX StX
theorem Body.det {ss : List Stf} : ∀ {m l l' : List Bool}, Body ss m l → Body ss m l' → l = l' := by
  intro m l l' h
  induction h generalizing l' with
  | nil =>
    intro h'
    generalize e : ([] : List Bool) = m at h'
    cases h' with
    | nil => rfl
    | snoc _ _ => have := congrArg List.length e; simp at this
  | @snoc m l x b hb hi ih =>
    intro h'
    generalize e : m ++ [b] = m' at h'
    cases h' with
    | nil => have := congrArg List.length e; simp at this
    | @snoc m2 l2 x2 b2 hb2 hi2 =>
      obtain ⟨rfl, e2⟩ := List.append_inj' e rfl
      cases (List.cons.inj e2).1
      have el := ih hb2
      subst el
      rw [hi.det hi2]
def spPutB (C : Addr) : Sp := fun vs H Q _ => ∃ (a : Addr) (f : List Bool) (ss : List Stf) (l x : List Bool), vs = [.ref a, .str (W l)] ∧ RuAt C H a f ss ∧ l.length ≤ 50000 ∧ x.length ≤ 1000 ∧ Ins ss l x ∧ ∀ H', Same H H' → Q (.str (W x)) H'
def spBody (C : Addr) : Sp := fun vs H Q _ => ∃ (a : Addr) (f : List Bool) (ss : List Stf) (m : List Bool), vs = [.ref a, .str (W m)] ∧ RuAt C H a f ss ∧ m.length ≤ 1000 ∧ OkN 39 ss ∧ ∀ l H', Body ss m l → l.length ≤ 40 * m.length → Same H H' → Q (.str (W l)) H'
section
variable {P : Program} {w : World} {K : PySem.W.Frag} {mg : Str → Option Value} {base : Heap}
theorem sc_put_behind : FnScope ["rule", "line", "found", "bit"] ["rule", "line"] (fnScope s_put_behind) := fnScope_by (by decide +kernel)
theorem cal_put_behind {f C : Addr} {fd : FuncData} (F : Def K mg "put_behind" s_put_behind f fd) (b : Binds K fd ["rule", "line"] []) (T : Tx mg) (c_put : Met P w K mg base 1 C "put" (spPut C) []) : Cal P w K mg base 3 "put_behind" (spPutB C) [] := by
  refine cal0 F b .nil sc_put_behind (fun vs H Q E h => ?_) (fun cdv A outer s H vs Q E hr h => ?_)
  · obtain ⟨_, _, _, _, _, rfl, _⟩ := h; rfl
  · obtain ⟨a, fl, ss, l, x, rfl, hR, hl, hx, hI, k⟩ := h
    refine ⟨_, (pss_cons (ps_par (i := 2) (j := 3) (by rfl) sc_put_behind.nd rfl rfl (by decide) rfl rfl (pa_cons pe_str (pa_cons (pe_mt (pl := _) c_put hr (by decide) (pv 0) (pa_cons (pv 1) pa_nil)) pa_nil)) (by rfl))
    (pss_cons (ps_while PassesOwn.never (pt_cmpR op_notN (pv 3) pe_non (nomark _))
    (pss_cons (ps_set (i := 2) sc_put_behind.nd rfl (.inl rfl) (pe_op op_add_str (pv 2) (pv 3)))
    (pss_one (ps_set (i := 3) sc_put_behind.nd rfl (.inl rfl) (pe_mt (pl := _) c_put hr (by decide) (pv 0) (pa_cons (pe_op op_add_str (pv 1) (pv 2)) pa_nil))))))
    (pss_one (ps_ret (pv 2))))), ?_⟩
    have hat : ∀ {H2 : Hp}, Same H H2 → ∃ dx t, H2 a = some (.ins C dx (ruF fl t)) := fun s2 => by
      obtain ⟨dx, t, _, _, ha, _⟩ := hR.same s2
      exact ⟨dx, t, ha⟩
    obtain ⟨dx, t, ha⟩ := hat (Same.refl H)
    refine ⟨_, rfl, a, dx, _, rfl, ha, ruF_no _ _ (by decide +kernel) (by decide +kernel), _, rfl, a, fl, ss, l, rfl, hR, fun H2 s2 => ⟨_, _, rfl, ?_⟩⟩
    have e1 : (W l).length = l.length := W_len l
    refine ⟨fun m σ H3 => ∃ (j : Nat), j + m = x.length ∧ σ = [some (.ref a), some (.str (W l)), some (.str (W (x.take j))), some (oB (putM ss (l ++ x.take j)))] ∧ Same H H3,
      ⟨x.length, 0, by omega, by rw [List.take_zero, List.append_nil, ← W_nil]; rfl, s2⟩, ?_⟩
    rintro m σ H3 ⟨j, hj, rfl, s3⟩
    refine ⟨_, rfl, rfl, _, rfl, ?_⟩
    rw [oB_non]
    by_cases hlt : j < x.length
    · have hb : x[j]? = some x[j] := List.getElem?_eq_getElem hlt
      have hput := hI.at hb
      rw [hput]
      have lx : (x.take j).length ≤ 1000 := by rw [List.length_take]; omega
      have e2 : (W (x.take j)).length = (x.take j).length := W_len _
      have e3 : (W [x[j]]).length = 1 := W_len _
      refine ⟨fun σ' H' => ∃ m', m' < m ∧ ∃ (j : Nat), j + m' = x.length ∧ σ' = [some (.ref a), some (.str (W l)), some (.str (W (x.take j))), some (oB (putM ss (l ++ x.take j)))] ∧ Same H H', fun _ _ h => h, ?_⟩
      have et : x.take (j + 1) = x.take j ++ [x[j]] := by rw [List.take_add_one, hb]; rfl
      refine ⟨_, rfl, _, rfl, _, _, rfl, rfl, by rw [e2, e3]; exact sl_len (by omega), ?_⟩
      rw [W_cat, ← et]
      have e4 : (W (x.take (j + 1))).length = (x.take (j + 1)).length := W_len _
      obtain ⟨dx5, t5, ha5⟩ := hat s3
      refine ⟨_, rfl, a, dx5, _, rfl, ha5, ruF_no _ _ (by decide +kernel) (by decide +kernel), _, rfl, _, rfl, _, _, rfl, rfl, by rw [e1, e4, et, List.length_append]; exact sl_len (by simp only [List.length_cons, List.length_nil]; omega), ?_⟩
      refine ⟨a, fl, ss, l ++ x.take (j + 1), by rw [← W_cat]; rfl, hR.same s3, fun H6 s6 => ?_⟩
      exact ⟨m - 1, by omega, j + 1, by omega, rfl, s3.trans s6⟩
    · have hj' : j = x.length := by omega
      subst hj'
      rw [List.take_length, hI.end]
      exact ⟨_, rfl, k H3 s3⟩
theorem sc_body : FnScope ["rule", "message", "line", "bit"] ["rule", "message"] (fnScope s_body) := fnScope_by (by decide +kernel)
theorem cal_body {f C : Addr} {fd : FuncData} (F : Def K mg "body" s_body f fd) (b : Binds K fd ["rule", "message"] []) (T : Tx mg) (c_put_behind : Cal P w K mg base 3 "put_behind" (spPutB C) []) : Cal P w K mg base 4 "body" (spBody C) [] := by
  refine cal0 F b .nil sc_body (fun vs H Q E h => ?_) (fun cdv A outer s H vs Q E hr h => ?_)
  · obtain ⟨_, _, _, _, rfl, _⟩ := h; rfl
  · obtain ⟨a, fl, ss, m, rfl, hR, hm, hO, k⟩ := h
    refine ⟨_, (pss_cons (ps_set (i := 2) sc_body.nd rfl (.inl rfl) pe_str)
    (pss_cons (ps_for PassesOwn.never rfl (pi_str (pv 1)) (pg_name (i := 3) sc_body.nd rfl (.inl rfl))
    (pss_cons (ps_set (i := 2) sc_body.nd rfl (.inl rfl) (pe_op op_add_str (pv 2) (pv 3)))
    (pss_one (ps_set (i := 2) sc_body.nd rfl (.inl rfl) (pe_op op_add_str (pv 2) (pe_c c_put_behind hr (by decide) rfl (pa_cons (pv 0) (pa_cons (pv 2) pa_nil))))))))
    (pss_one (ps_ret (pv 2))))), ?_⟩
    obtain ⟨g, g0, g1, g2⟩ := body_steps hO m
    refine ⟨_, rfl, W m, rfl, for_it walk_str (fun i σ H2 => ∃ v3 : Option V, σ = [some (.ref a), some (.str (W m)), some (.str (W (g i))), v3] ∧ Same H H2) ⟨none, by rw [g0, ← W_nil]; rfl, Same.refl _⟩ (fun _ _ _ _ _ => trivial) ?_ ?_⟩
    · rintro i x σ H2 H3 hi ⟨v3, rfl, s2⟩ ⟨rfl, c, hc, rfl⟩
      obtain ⟨bb, hbb, rfl⟩ := W_get hc
      have hi' := (List.getElem?_eq_some_iff.mp hbb).1
      obtain ⟨x, hx, hx19, eg⟩ := g1 i bb hbb
      have hl := (g2 i (Nat.le_of_lt hi')).2
      have e1 : (W (g i)).length = (g i).length := W_len _
      have e2 : (⟨#[bt bb]⟩ : Str).length = 1 := W_len [bb]
      have ew : W (g i) ++ (⟨#[bt bb]⟩ : Str) = W (g i ++ [bb]) := W_cat (g i) [bb]
      refine ⟨_, rfl, _, rfl, _, _, rfl, rfl, by rw [e1, e2]; exact sl_len (by omega), ?_⟩
      rw [ew]
      have e3 : (W (g i ++ [bb])).length = (g i ++ [bb]).length := W_len _
      have l3 : (g i ++ [bb]).length = (g i).length + 1 := by rw [List.length_append]; rfl
      refine ⟨_, rfl, _, rfl, _, rfl, a, fl, ss, g i ++ [bb], x, rfl, hR.same s2, by omega, by omega, hx, fun H4 s4 => ⟨_, _, rfl, rfl, by rw [e3, W_len]; exact sl_len (by omega), ?_⟩⟩
      rw [W_cat, ← eg]
      exact ⟨_, rfl, s2.trans s4⟩
    · rintro σ H2 ⟨v3, rfl, s2⟩
      have g3 := g2 m.length (Nat.le_refl _)
      rw [List.take_length] at g3
      refine ⟨_, rfl, ?_⟩
      rw [W_size]
      exact k _ H2 g3.1 g3.2 s2
end
end U

set_option maxRecDepth 100000
namespace U
/-! the message whose body a line is -/
def takL (ss : List Stf) : List Bool → List Bool → List Bool → Option (List Bool)
  | p, [], m => if putM ss p = none then some m else none
  | p, b :: r, m => match putM ss p with
    | none => takL ss (p ++ [b]) r (m ++ [b])
    | some c => if c = b then takL ss (p ++ [b]) r m else none
def takM (ss : List Stf) (l : List Bool) : Option (List Bool) := takL ss [] l []
/-- m is read so far behind l -/
inductive Part (ss : List Stf) : List Bool → List Bool → Prop
  | nil : Part ss [] []
  | own {m l : List Bool} {b : Bool} : Part ss m l → putM ss l = none → Part ss (m ++ [b]) (l ++ [b])
  | put {m l : List Bool} {b : Bool} : Part ss m l → putM ss l = some b → Part ss m (l ++ [b])
theorem Part.ins {ss : List Stf} {l x : List Bool} (h : Ins ss l x) : ∀ {m : List Bool}, Part ss m l → Part ss m (l ++ x) := by
  induction h with
  | stop _ => intro m p; rw [List.append_nil]; exact p
  | @more l x b hb _ ih =>
    intro m p
    have := ih (p.put hb)
    rw [List.append_assoc] at this
    exact this
theorem Body.end {ss : List Stf} (h0 : putM ss [] = none) {m l : List Bool} (h : Body ss m l) : putM ss l = none := by
  cases h with
  | nil => exact h0
  | snoc _ i => exact i.end
theorem Body.part {ss : List Stf} (h0 : putM ss [] = none) {m l : List Bool} (h : Body ss m l) : Part ss m l := by
  induction h with
  | nil => exact .nil
  | snoc hb i ih => exact Part.ins i (ih.own (hb.end h0))
theorem Part.pre {ss : List Stf} {m l : List Bool} (h : Part ss m l) : (m = [] ∧ l = []) ∨ (putM ss [] ≠ none) ∨ ∃ m' b l' y, m = m' ++ [b] ∧ l = l' ++ [b] ++ y ∧ Body ss m' l' ∧ ∀ x, Ins ss l x → Ins ss (l' ++ [b]) (y ++ x) := by
  induction h with
  | nil => exact .inl ⟨rfl, rfl⟩
  | @own m l b hp hn ih =>
    refine .inr (.inr ?_)
    rcases ih with ⟨rfl, rfl⟩ | h | ⟨m', b', l', y, rfl, rfl, hb, hx⟩
    · exact ⟨[], b, [], [], rfl, rfl, .nil, fun x hx => hx⟩
    · exact absurd hn (by
        intro z
        exact h (by
          cases hm : putM ss [] with
          | none => rfl
          | some c =>
            exfalso
            have : putM ss l = some c ∨ True := .inr trivial
            -- a pattern that is empty ends each line
            unfold putM at hm z
            rw [Option.map_eq_some_iff] at hm
            obtain ⟨s, hs, _⟩ := hm
            rw [Option.map_eq_none_iff, List.find?_eq_none] at z
            have h1 := List.find?_some hs
            have h2 := z s (List.mem_of_find?_eq_some hs)
            rw [List.isSuffixOf_iff_suffix] at h1
            have e : s.1 = [] := List.suffix_nil.mp h1
            rw [e] at h2
            exact h2 (List.isSuffixOf_iff_suffix.mpr List.nil_suffix)))
    · have hend := hx [] (.stop hn)
      rw [List.append_nil] at hend
      exact ⟨m' ++ [b'], b, l' ++ [b'] ++ y, [], rfl, by simp, .snoc hb hend, fun x hx => hx⟩
  | @put m l b hp hs ih =>
    rcases ih with ⟨rfl, rfl⟩ | h | ⟨m', b', l', y, rfl, rfl, hb, hx⟩
    · exact .inr (.inl (by rw [hs]; exact nofun))
    · exact .inr (.inl h)
    · refine .inr (.inr ⟨m', b', l', y ++ [b], rfl, by simp, hb, fun x hi => ?_⟩)
      have := hx (b :: x) (.more hs hi)
      rw [List.append_assoc]
      exact this
theorem Part.body {ss : List Stf} (h0 : putM ss [] = none) {m l : List Bool} (h : Part ss m l) (he : putM ss l = none) : Body ss m l := by
  rcases h.pre with ⟨rfl, rfl⟩ | h | ⟨m', b', l', y, rfl, rfl, hb, hx⟩
  · exact .nil
  · exact absurd h0 h
  · have := hx [] (.stop he)
    rw [List.append_nil] at this
    exact .snoc hb this
theorem takL_some {ss : List Stf} : ∀ {r p m x : List Bool}, Part ss m p → takL ss p r m = some x → Part ss x (p ++ r) ∧ putM ss (p ++ r) = none
  | [], p, m, x, hp, h => by
    unfold takL at h
    split at h
    · rename_i e
      cases h
      rw [List.append_nil]
      exact ⟨hp, e⟩
    · cases h
  | b :: r, p, m, x, hp, h => by
    unfold takL at h
    split at h
    · rename_i e
      have := takL_some (hp.own e) h
      rw [List.append_assoc] at this
      exact this
    · rename_i c e
      split at h
      · rename_i ec
        subst ec
        have := takL_some (hp.put e) h
        rw [List.append_assoc] at this
        exact this
      · cases h
theorem Part.det {ss : List Stf} {m l : List Bool} (h : Part ss m l) : ∀ {m'}, Part ss m' l → m = m' := by
  induction h with
  | nil =>
    intro m' h'
    generalize e : ([] : List Bool) = l at h'
    cases h' with
    | nil => rfl
    | own _ _ => have := congrArg List.length e; simp at this
    | put _ _ => have := congrArg List.length e; simp at this
  | @own m l b hp hn ih =>
    intro m' h'
    generalize e : l ++ [b] = l2 at h'
    cases h' with
    | nil => have := congrArg List.length e; simp at this
    | own h1 h2 =>
      obtain ⟨rfl, e2⟩ := List.append_inj' e rfl
      cases (List.cons.inj e2).1
      rw [ih h1]
    | put h1 h2 =>
      obtain ⟨rfl, e2⟩ := List.append_inj' e rfl
      rw [hn] at h2; cases h2
  | @put m l b hp hn ih =>
    intro m' h'
    generalize e : l ++ [b] = l2 at h'
    cases h' with
    | nil => have := congrArg List.length e; simp at this
    | own h1 h2 =>
      obtain ⟨rfl, e2⟩ := List.append_inj' e rfl
      rw [hn] at h2; cases h2
    | put h1 h2 =>
      obtain ⟨rfl, e2⟩ := List.append_inj' e rfl
      exact ih h1
theorem Part.front {ss : List Stf} {x l : List Bool} (h : Part ss x l) : ∀ {q r : List Bool}, l = q ++ r → ∃ y, Part ss y q := by
  induction h with
  | nil =>
    intro q r e
    have : q = [] := (List.append_eq_nil_iff.mp e.symm).1
    rw [this]
    exact ⟨[], .nil⟩
  | @own m l b hp hn ih =>
    intro q r e
    rcases List.eq_nil_or_concat r with z | ⟨r', c, z⟩
    · rw [z, List.append_nil] at e
      rw [← e]
      exact ⟨_, hp.own hn⟩
    · rw [z, List.concat_eq_append, ← List.append_assoc] at e
      exact ih (List.append_inj' e rfl).1
  | @put m l b hp hn ih =>
    intro q r e
    rcases List.eq_nil_or_concat r with z | ⟨r', c, z⟩
    · rw [z, List.append_nil] at e
      rw [← e]
      exact ⟨_, hp.put hn⟩
    · rw [z, List.concat_eq_append, ← List.append_assoc] at e
      exact ih (List.append_inj' e rfl).1
theorem takL_of {ss : List Stf} : ∀ {r p m x : List Bool}, Part ss m p → Part ss x (p ++ r) → putM ss (p ++ r) = none → takL ss p r m = some x
  | [], p, m, x, hp, hx, he => by
    rw [List.append_nil] at hx he
    unfold takL
    rw [if_pos he, hp.det hx]
  | b :: r, p, m, x, hp, hx, he => by
    have e1 : p ++ b :: r = p ++ [b] ++ r := by simp
    rw [e1] at hx he
    unfold takL
    cases e : putM ss p with
    | none => exact takL_of (hp.own e) hx he
    | some c =>
      dsimp only
      have hb : c = b := by
        obtain ⟨y, hy⟩ := hx.front rfl
        generalize eq : p ++ [b] = l2 at hy
        cases hy with
        | nil => have := congrArg List.length eq; simp at this
        | own h1 h2 =>
          obtain ⟨rfl, e2⟩ := List.append_inj' eq rfl
          rw [e] at h2; cases h2
        | put h1 h2 =>
          obtain ⟨rfl, e2⟩ := List.append_inj' eq rfl
          cases (List.cons.inj e2).1
          rw [e] at h2
          exact Option.some.inj h2
      subst hb
      rw [if_pos rfl]
      exact takL_of (hp.put e) hx he
theorem takM_iff {ss : List Stf} (h0 : putM ss [] = none) {l m : List Bool} : takM ss l = some m ↔ Body ss m l := by
  constructor
  · intro h
    have := takL_some .nil h
    rw [List.nil_append] at this
    exact this.1.body h0 this.2
  · intro h
    exact takL_of .nil (by rw [List.nil_append]; exact h.part h0) (by rw [List.nil_append]; exact h.end h0)
theorem put_nil {ss : List Stf} (h : ∀ s ∈ ss, s.1 ≠ []) : putM ss [] = none := by
  unfold putM
  rw [Option.map_eq_none_iff, List.find?_eq_none]
  intro s hs z
  exact h s hs (List.suffix_nil.mp (List.isSuffixOf_iff_suffix.mp z))
theorem takM_congr {ss ts : List Stf} (h : ∀ l, putM ss l = putM ts l) (l : List Bool) : takM ss l = takM ts l := by
  unfold takM
  generalize ([] : List Bool) = p
  suffices ∀ (l p m : List Bool), takL ss p l m = takL ts p l m from this l p _
  intro l
  induction l with
  | nil => intro p m; unfold takL; rw [h]
  | cons b r ih => intro p m; unfold takL; rw [h]; simp only [ih]
/-- a message's body begins with the body of each of its beginnings -/
theorem Body.cut {ss : List Stf} {m l : List Bool} (h : Body ss m l) : ∀ i, i ≤ m.length → ∃ l', Body ss (m.take i) l' ∧ l' <+: l ∧ (i < m.length → ∃ r, l = l' ++ [m.getD i false] ++ r) := by
  induction h with
  | nil => intro i hi; exact ⟨[], by rw [List.take_nil]; exact .nil, List.nil_prefix, fun z => absurd z (by simp)⟩
  | @snoc m l x b hb hi ih =>
    intro i hil
    rw [List.length_append] at hil
    simp only [List.length_cons, List.length_nil] at hil
    rcases Nat.lt_or_ge i (m.length + 1) with c | c
    · have c' : i ≤ m.length := by omega
      obtain ⟨l', h1, h2, h3⟩ := ih i c'
      refine ⟨l', by rw [List.take_append_of_le_length c']; exact h1, h2.trans ⟨[b] ++ x, by simp⟩, fun _ => ?_⟩
      rcases Nat.lt_or_ge i m.length with d | d
      · obtain ⟨r, hr⟩ := h3 d
        refine ⟨r ++ [b] ++ x, ?_⟩
        have e : (m ++ [b]).getD i false = m.getD i false := by simp [List.getD, List.getElem?_append_left d]
        rw [e, hr]
        simp
      · have ei : i = m.length := by omega
        subst ei
        rw [List.take_length] at h1
        have e : (m ++ [b]).getD m.length false = b := by simp [List.getD]
        rw [e]
        have el : l' = l := by
          have : ∀ {m l l' : List Bool}, Body ss m l → Body ss m l' → l = l' := by
            intro m l l' h
            induction h generalizing l' with
            | nil =>
              intro h'
              generalize e : ([] : List Bool) = m at h'
              cases h' with
              | nil => rfl
              | snoc _ _ => have := congrArg List.length e; simp at this
            | @snoc m l x b hb hi ih =>
              intro h'
              generalize e : m ++ [b] = m' at h'
              cases h' with
              | nil => have := congrArg List.length e; simp at this
              | @snoc m2 l2 x2 b2 hb2 hi2 =>
                obtain ⟨rfl, e2⟩ := List.append_inj' e rfl
                cases (List.cons.inj e2).1
                have el := ih hb2
                subst el
                rw [hi.det hi2]
          exact this h1 hb
        exact ⟨x, by rw [el]⟩
    · have ei : i = m.length + 1 := by omega
      subst ei
      refine ⟨l ++ [b] ++ x, ?_, List.prefix_refl _, fun z => absurd z (by simp)⟩
      rw [List.take_of_length_le (by simp)]
      exact .snoc hb hi
theorem Body.le {ss : List Stf} {m l : List Bool} (h : Body ss m l) : m.length ≤ l.length := by
  induction h with
  | nil => exact Nat.le_refl _
  | snoc _ _ ih =>
    simp only [List.length_append, List.length_cons, List.length_nil]
    omega
end U

set_option maxRecDepth 100000
set_option maxHeartbeats 4000000
namespace U
open PySem PySem.Spec PyProof.Rows
open L2 hiding Fun CX0 E0 pass0 Fun.binds
open C8 Lx SX StX
def spTaken (C : Addr) : Sp := fun vs H Q _ => ∃ (a : Addr) (f : List Bool) (ss : List Stf) (l : List Bool), vs = [.ref a, .str (W l)] ∧ RuAt C H a f ss ∧ l.length ≤ 50000 ∧ ∀ H', Same H H' → Q (oW (takM ss l)) H'
theorem takL_nil (ss : List Stf) (p m : List Bool) : takL ss p [] m = if putM ss p = none then some m else none := rfl
theorem takL_cons (ss : List Stf) (p r m : List Bool) (b : Bool) : takL ss p (b :: r) m = match putM ss p with
    | none => takL ss (p ++ [b]) r (m ++ [b])
    | some c => if c = b then takL ss (p ++ [b]) r m else none := rfl
theorem scal_oW (a b : Option (List Bool)) : scal (oW a) (oW b) = true := by cases a <;> cases b <;> rfl
theorem scal_oBs (a : Option Bool) (z : Str) : scal (oB a) (.str z) = true := by cases a <;> rfl
theorem same_mut {H H1 : Hp} {p : Addr} {o : HO} (s : Same H H1) (n : H p = none) : Same H (upd H1 p o) := fun c u e => by
  rw [upd_ne (ne_of_none e n)]
  exact s _ _ e
theorem oW_non (o : Option (List Bool)) : decide (oW o = .non) = o.isNone := by
  cases o with
  | none => rfl
  | some x => exact decide_eq_false nofun
/-- repr of a word or None -/
def reprW : Option (List Bool) → Str
  | none => "None"
  | some x => reprText (W x)
theorem reprW_len {x : List Bool} (h : x.length ≤ 100000) : (reprText (W x)).length ≤ sizeLine := by
  have := StrLaws.reprText_len (W x) (fun c hc => by
    rw [W_tl] at hc
    obtain ⟨b, _, rfl⟩ := List.mem_map.mp hc
    cases b <;> decide)
  rw [W_len] at this
  exact Nat.le_trans this (Nat.le_trans (Nat.add_le_add_right (Nat.mul_le_mul_left 10 h) 2) (by decide))
theorem call_repr_oW {X : Cx} : CallR X (.builtin "repr") (fun xs H Q => ∃ o, xs = [oW o] ∧ (∀ x, o = some x → x.length ≤ 100000) ∧ Q (.str (reprW o)) H) := by
  intro pins s σ H xs us Q I r h
  obtain ⟨o, rfl, hl, q⟩ := h
  obtain ⟨u, rfl, ru⟩ := vals1 r
  cases o with
  | none =>
    obtain rfl : u = Value.none := ru
    exact PySem.P.repr_of_none ⟨.str _, H, I.tok _, ⟨_, rfl⟩, q⟩
  | some b =>
    obtain ⟨t, rfl⟩ := ru
    exact PySem.P.repr_of_str ⟨.str _, H, I.tok _, ⟨_, rfl⟩, q⟩ (reprW_len (hl _ rfl))
section
variable {P : Program} {w : World} {K : PySem.W.Frag} {mg : Str → Option Value} {base : Heap}
theorem sc_taken_out : FnScope ["rule", "line", "message", "at", "bit", "due"] ["rule", "line"] (fnScope s_taken_out) := fnScope_by (by decide +kernel)
theorem cal_taken_out {f C : Addr} {fd : FuncData} (F : Def K mg "taken_out" s_taken_out f fd) (b : Binds K fd ["rule", "line"] []) (T : Tx mg) (c_put : Met P w K mg base 1 C "put" (spPut C) []) : Cal P w K mg base 3 "taken_out" (spTaken C) [] := by
  refine cal0 F b .nil sc_taken_out (fun vs H Q E h => ?_) (fun cdv A outer s H vs Q E hr h => ?_)
  · obtain ⟨_, _, _, _, rfl, _⟩ := h; rfl
  · obtain ⟨a, fl, ss, l, rfl, hR, hl, k⟩ := h
    refine ⟨_, (pss_cons (ps_set (i := 2) sc_taken_out.nd rfl (.inl rfl) (pe_lst pa_nil))
    (pss_cons (ps_for PassesOwn.never rfl (pi_enumS (by rfl) T.b_enumerate (pa_cons (pv 1) pa_nil)) (pg_tup rfl (pgs_cons (pg_name (i := 3) sc_taken_out.nd rfl (.inl rfl)) (pgs_cons (pg_name (i := 4) sc_taken_out.nd rfl (.inl rfl)) pgs_nil)))
    (pss_cons (ps_set (i := 5) sc_taken_out.nd rfl (.inl rfl) (pe_mt (pl := _) c_put hr (by decide) (pv 0) (pa_cons (pe_slice sl_txt (pv 1) po_none (po_some (pv 3))) pa_nil)))
    (pss_one (ps_if (pt_cmpR op_isN (pv 5) pe_non (nomark _)) (pss_one (ps_expr (pe_bm PySem.F.plainAttrs_list PySem.F.slot_list_append PySem.F.type_list_append mt_append (pv 2) (pa_cons (pv 4) pa_nil)))) (pss_one (ps_if (pt_cmpR op_ne (pv 5) (pv 4) (nomark _)) (pss_one (ps_ret pe_non)) pss_nil))))))
    (pss_one (ps_ret (pe_ifExp (pt_cmpR op_isN (pe_mt (pl := _) c_put hr (by decide) (pv 0) (pa_cons (pv 1) pa_nil)) pe_non (nomark _)) (pe_join pe_str (pv 2)) pe_non))))), ?_⟩
    have hat : ∀ {H2 : Hp}, Same H H2 → ∃ dx t, H2 a = some (.ins C dx (ruF fl t)) := fun s2 => by
      obtain ⟨dx, t, _, _, ha, _⟩ := hR.same s2
      exact ⟨dx, t, ha⟩
    have lw : (W l).length ≤ sizeLine := by rw [W_len]; exact sl_len (by omega)
    refine ⟨Nat.zero_le _, fun D nD => ?_⟩
    refine ⟨_, rfl, W l, rfl, for_it walk_enumS (fun i σ H2 => ∃ (v3 v4 v5 : Option V) (m : List Bool), σ = [some (.ref a), some (.str (W l)), some (.ref D), v3, v4, v5] ∧ Same H H2 ∧ H2 D = some (.lst (bitsV m)) ∧ m.length ≤ i ∧ takM ss l = takL ss (l.take i) (l.drop i) m)
      ⟨_, _, _, [], rfl, same_upd nD, upd_same, Nat.le_refl _, rfl⟩ (fun _ _ _ _ _ => trivial) ?_ ?_⟩
    · rintro i x σ H2 H3 hi ⟨v3, v4, v5, m, rfl, s2, hD, hm, ht⟩ ⟨T', c, rfl, nT, rfl, hc⟩
      obtain ⟨bb, hbb, rfl⟩ := W_get hc
      have hi' := (List.getElem?_eq_some_iff.mp hbb).1
      have sT := same_upd (o := .tup [.int (i : Nat), .str ⟨#[bt bb]⟩]) nT
      refine ⟨T', _, rfl, SqT.of upd_same, rfl, _, _, rfl, _, _, rfl, rfl, ?_⟩
      have s3 := s2.trans sT
      have hD3 := sT _ _ hD
      generalize upd H2 T' (.tup [.int (i : Nat), .str ⟨#[bt bb]⟩]) = H3 at s3 hD3
      obtain ⟨dx, t, ha⟩ := hat s3
      refine ⟨_, rfl, a, dx, _, rfl, ha, ruF_no _ _ (by decide +kernel) (by decide +kernel), _, rfl, _, rfl, _, rfl, _, rfl, lw, ?_⟩
      rw [W_take (Int.natCast_nonneg _), Int.toNat_natCast]
      refine ⟨a, fl, ss, l.take i, rfl, hR.same s3, fun H4 s4 => ?_⟩
      have s4' := s3.trans s4
      have hD4 := s4 _ _ hD3
      have ed : l.drop i = bb :: l.drop (i + 1) := by
        rw [List.drop_eq_getElem_cons hi']
        rw [List.getElem?_eq_getElem hi'] at hbb
        rw [Option.some.inj hbb]
      have et : l.take (i + 1) = l.take i ++ [bb] := by rw [List.take_add_one, hbb]; rfl
      rw [ed, takL_cons] at ht
      refine ⟨_, rfl, rfl, _, rfl, ?_⟩
      rw [oB_non]
      cases e : putM ss (l.take i) with
      | none =>
        rw [e] at ht
        refine ⟨_, rfl, .inl ⟨rfl, _, SqL.of hD4⟩, _, rfl, D, _, _, rfl, rfl, hD4, by rw [bitsV_len]; exact sl_lt (by omega), ?_⟩
        refine ⟨_, _, _, m ++ [bb], rfl, same_mut s4' nD, ?_, by rw [List.length_append]; show _ + 1 ≤ _; omega, ?_⟩
        · rw [upd_same]
          exact congrArg (fun z => some (HO.lst z)) (bitsV_snoc m bb)
        · rw [et]; exact ht
      | some c =>
        rw [e] at ht
        dsimp only at ht
        refine ⟨_, rfl, _, rfl, rfl, _, rfl, ?_⟩
        by_cases ec : c = bb
        · subst ec
          rw [if_pos rfl] at ht
          refine iteNS rfl ?_
          refine ⟨_, _, _, m, rfl, s4', hD4, by omega, ?_⟩
          rw [et]; exact ht
        · rw [if_neg ec] at ht
          refine iteNT (fun z => ec ?_) ?_
          · have := W_inj (V.str.inj (show V.str (W [c]) = V.str (W [bb]) from z))
            exact (List.cons.inj this).1
          · have := k H4 s4'
            rw [ht] at this
            exact this
    · rintro σ H2 ⟨v3, v4, v5, m, rfl, s2, hD, hm, ht⟩
      rw [W_size] at hm ht
      rw [List.take_length, List.drop_length, takL_nil] at ht
      obtain ⟨dx, t, ha⟩ := hat s2
      refine ⟨_, rfl, a, dx, _, rfl, ha, ruF_no _ _ (by decide +kernel) (by decide +kernel), _, rfl, a, fl, ss, l, rfl, hR.same s2, fun H3 s3 => ⟨rfl, _, rfl, ?_⟩⟩
      rw [oB_non]
      have kk := k H3 (s2.trans s3)
      cases e : putM ss l with
      | none =>
        rw [e, if_pos rfl] at ht
        rw [ht] at kk
        refine iteT ⟨⟨_, rfl⟩, _, rfl, _, D, _, rfl, rfl, .inl (SqL.of (s3 _ _ hD)), ?_, ?_⟩
        · rw [lens_bits, empty_len]; omega
        · show Q (.str (Txt.join "" (m.map fun b => W [b]))) H3
          rw [join_bits]
          exact kk
      | some c =>
        rw [e, if_neg nofun] at ht
        rw [ht] at kk
        exact kk
end
end U

namespace U
/-! hits: the mathematics -/
inductive Kd | turn | lose | dbl
deriving DecidableEq
def kS : Kd → PySem.Str
  | .turn => "turn"
  | .lose => "lose"
  | .dbl => "double"
def arr (b : Bool) : Kd → List Bool
  | .turn => [!b]
  | .lose => []
  | .dbl => [b, b]
/-- what stands from last on, with the hits hs -/
def hitM (l : List Bool) : Nat → List (Nat × Kd) → List Bool
  | last, [] => l.drop last
  | last, (p, k) :: r => (l.drop last).take (p - last) ++ arr (l.getD p false) k ++ hitM l (p + 1) r
def Asc : Nat → Nat → List (Nat × Kd) → Prop
  | _, _, [] => True
  | lo, n, (p, _) :: r => lo ≤ p ∧ p < n ∧ Asc (p + 1) n r
def look (hs : List (Nat × Kd)) (i : Nat) : Option Kd := (hs.find? fun h => decide (h.1 = i)).map (·.2)
def sgn (o : Option Kd) (b : Bool) : List Bool := match o with | none => [b] | some k => arr b k
def go (f : Nat → Option Kd) : Nat → List Bool → List Bool
  | _, [] => []
  | i, b :: r => sgn (f i) b ++ go f (i + 1) r
theorem go_app (f : Nat → Option Kd) : ∀ (i : Nat) (a b : List Bool), go f i (a ++ b) = go f i a ++ go f (i + a.length) b
  | _, [], b => by simp [go]
  | i, x :: a, b => by
    show sgn (f i) x ++ go f (i + 1) (a ++ b) = (sgn (f i) x ++ go f (i + 1) a) ++ go f (i + (x :: a).length) b
    rw [go_app f (i + 1) a b, List.append_assoc, List.length_cons, show i + 1 + a.length = i + (a.length + 1) by omega]
theorem go_congr {f g : Nat → Option Kd} : ∀ (i : Nat) (a : List Bool), (∀ j, i ≤ j → j < i + a.length → f j = g j) → go f i a = go g i a
  | _, [], _ => rfl
  | i, x :: a, h => by
    show sgn (f i) x ++ go f (i + 1) a = sgn (g i) x ++ go g (i + 1) a
    rw [h i (Nat.le_refl _) (by simp), go_congr (i + 1) a fun j h1 h2 => h j (by omega) (by simp only [List.length_cons]; omega)]
theorem go_none : ∀ (i : Nat) (a : List Bool), go (fun _ => none) i a = a
  | _, [] => rfl
  | i, x :: a => by show [x] ++ go _ (i + 1) a = x :: a; rw [go_none (i + 1) a]; rfl
theorem look_lt : ∀ {hs : List (Nat × Kd)} {lo n i : Nat}, Asc lo n hs → i < lo → look hs i = none
  | [], _, _, _, _, _ => rfl
  | (p, k) :: r, lo, n, i, h, hi => by
    obtain ⟨h1, h2, h3⟩ := h
    have ih := look_lt h3 (i := i) (by omega)
    unfold look at ih ⊢
    rw [List.find?_cons_of_neg (by simp; omega)]
    exact ih
theorem look_cons {p : Nat} {k : Kd} {r : List (Nat × Kd)} {i : Nat} (h : i ≠ p) : look ((p, k) :: r) i = look r i := by
  unfold look
  rw [List.find?_cons_of_neg (by simp; omega)]
theorem look_head {p : Nat} {k : Kd} {r : List (Nat × Kd)} : look ((p, k) :: r) p = some k := by
  unfold look
  rw [List.find?_cons_of_pos (by simp)]
  rfl
theorem hitM_go (l : List Bool) : ∀ (hs : List (Nat × Kd)) (last : Nat), Asc last l.length hs → hitM l last hs = go (look hs) last (l.drop last)
  | [], last, _ => by
    show l.drop last = go (fun _ => none) last (l.drop last)
    rw [go_none]
  | (p, k) :: r, last, h => by
    obtain ⟨h1, h2, h3⟩ := h
    have ih := hitM_go l r (p + 1) h3
    show (l.drop last).take (p - last) ++ arr (l.getD p false) k ++ hitM l (p + 1) r = _
    have e : l.drop last = (l.drop last).take (p - last) ++ (l.getD p false :: l.drop (p + 1)) := by
      have e1 : (l.drop last).drop (p - last) = l.getD p false :: l.drop (p + 1) := by
        rw [List.drop_drop, show last + (p - last) = p by omega, List.drop_eq_getElem_cons h2]
        simp [h2]
      rw [← e1, List.take_append_drop]
    have el : ((l.drop last).take (p - last)).length = p - last := by rw [List.length_take, List.length_drop]; omega
    generalize hA : (l.drop last).take (p - last) = A at e el ⊢
    rw [e, go_app, el, show last + (p - last) = p by omega]
    show _ = go _ last A ++ (sgn (look ((p, k) :: r) p) (l.getD p false) ++ go (look ((p, k) :: r)) (p + 1) (l.drop (p + 1)))
    rw [look_head]
    have z1 : go (look ((p, k) :: r)) last A = A := by
      rw [go_congr (g := fun _ => none) last A fun j _ h5 => ?_, go_none]
      rw [look_cons (by omega)]
      exact look_lt h3 (by omega)
    have z2 : go (look ((p, k) :: r)) (p + 1) (l.drop (p + 1)) = go (look r) (p + 1) (l.drop (p + 1)) :=
      go_congr _ _ fun j h4 _ => look_cons (by omega)
    rw [z1, z2, ← ih, List.append_assoc]
    rfl
theorem hitM_all (l : List Bool) {hs : List (Nat × Kd)} (h : Asc 0 l.length hs) : hitM l 0 hs = go (look hs) 0 l := by
  rw [hitM_go l hs 0 h, List.drop_zero]
/-- all bits in one way -/
def every (k : Kd) (n : Nat) : List (Nat × Kd) := (List.range n).map fun i => (i, k)
theorem asc_from (k : Kd) : ∀ (m lo n : Nat), lo + m ≤ n → Asc lo n ((List.range' lo m).map fun i => (i, k))
  | 0, _, _, _ => trivial
  | m + 1, lo, n, h => by
    rw [List.range'_succ, List.map_cons]
    exact ⟨Nat.le_refl _, by omega, asc_from k m (lo + 1) n (by omega)⟩
theorem asc_every (k : Kd) (n : Nat) : Asc 0 n (every k n) := by
  unfold every
  rw [List.range_eq_range']
  exact asc_from k n 0 n (by omega)
theorem look_from (k : Kd) : ∀ (m lo i : Nat), lo ≤ i → i < lo + m → look ((List.range' lo m).map fun i => (i, k)) i = some k
  | 0, _, _, _, _ => by omega
  | m + 1, lo, i, h1, h2 => by
    rw [List.range'_succ, List.map_cons]
    by_cases e : i = lo
    · rw [e]; exact look_head
    · rw [look_cons e]
      exact look_from k m (lo + 1) i (by omega) (by omega)
theorem look_every (k : Kd) {n i : Nat} (h : i < n) : look (every k n) i = some k := by
  unfold every
  rw [List.range_eq_range']
  exact look_from k n 0 i (by omega) (by omega)
theorem go_const (k : Kd) : ∀ (i : Nat) (a : List Bool), go (fun _ => some k) i a = (a.map fun b => arr b k).flatten
  | _, [] => rfl
  | i, b :: r => by
    show arr b k ++ go _ (i + 1) r = _
    rw [go_const k (i + 1) r]
    rfl
theorem hit_every (k : Kd) (l : List Bool) : hitM l 0 (every k l.length) = (l.map fun b => arr b k).flatten := by
  rw [hitM_all l (asc_every k _), go_congr (g := fun _ => some k) 0 l (fun j _ h => look_every k (by omega)), go_const]
theorem hit_turn (l : List Bool) : hitM l 0 (every .turn l.length) = l.map not := by
  rw [hit_every]
  induction l with
  | nil => rfl
  | cons b r ih =>
    show arr b .turn ++ (r.map fun b => arr b .turn).flatten = _
    rw [ih]
    rfl
theorem hit_lose (l : List Bool) : hitM l 0 (every .lose l.length) = [] := by
  rw [hit_every]
  induction l with
  | nil => rfl
  | cons b r ih => simp [arr]
theorem hit_turn2 (l : List Bool) : hitM (l.map not) 0 (every .turn l.length) = l := by
  have e : l.length = (l.map not).length := by simp
  rw [e, hit_turn, List.map_map]
  have z : (not ∘ not) = id := by funext b; cases b <;> rfl
  rw [z, List.map_id]
end U

set_option maxRecDepth 100000
set_option maxHeartbeats 4000000
namespace U
open PySem PySem.Spec PyProof.Rows
open L2 hiding Fun CX0 E0 pass0 Fun.binds
open C8 Lx SX
local macro_rules | `(tactic| walk_at "g") => `(tactic| repeat (first | (refine ⟨_, rfl, ?_⟩) | (refine ⟨_, _, rfl, rfl, ?_⟩) | (refine ⟨rfl, ?_⟩) | (refine .inl ⟨_, rfl, ?_⟩)))
def spOther : Sp := fun vs H Q _ => ∃ b : Bool, vs = [.str (W [b])] ∧ Q (.str (W [!b])) H
section
variable {P : Program} {w : World} {K : PySem.W.Frag} {mg : Str → Option Value} {base : Heap}
theorem sc_other : FnScope ["bit"] ["bit"] (fnScope s_other) := fnScope_by (by decide +kernel)
theorem cal_other {f : Addr} {fd : FuncData} (F : Def K mg "other" s_other f fd) (b : Binds K fd ["bit"] []) (T : Tx mg) : Cal P w K mg base 1 "other" spOther [] := by
  refine cal0 F b .nil sc_other (fun vs H Q E h => ?_) (fun cdv A outer s H vs Q E hr h => ?_)
  · obtain ⟨_, rfl, _⟩ := h; rfl
  · obtain ⟨b, rfl, k⟩ := h
    refine ⟨_, (pss_one (ps_ret (pe_ifExp (pt_cmpR op_eq (pv 0) pe_str (nomark _)) pe_str pe_str))), ?_⟩
    refine ⟨_, rfl, rfl, _, rfl, ?_⟩
    cases b with
    | false =>
      refine iteDT (show V.str (W [false]) = V.str "0" by decide +kernel) ?_
      show Q (.str "1") H
      rw [W_1]; exact k
    | true =>
      refine iteDF (show ¬ (V.str (W [true]) = V.str "0") by decide +kernel) ?_
      show Q (.str "0") H
      rw [W_0]; exact k
end
end U

set_option maxRecDepth 100000
set_option maxHeartbeats 4000000
set_option pp.maxSteps 400
namespace U
open PySem PySem.Spec PyProof.Rows
open L2 hiding Fun CX0 E0 pass0 Fun.binds
open C8 Lx SX StX
/-! lines cut at the flag -/
theorem sub_W (l : List Bool) (i j : Nat) : Builtin.Str.strSub (W l) i j = W ((l.drop i).take (j - i)) := by
  refine TL.ext_tl ?_
  show (Builtin.Str.strSub (W l) i j).cps.toList = _
  rw [StrLaws.strSub_toList, W_tl]
  show _ = ((l.drop i).take (j - i)).map bt
  rw [List.map_take, List.map_drop]
theorem part_W (l f : List Bool) : Txt.partition (W l) (W f) = match posM l f with
    | none => (W l, ("" : Str), ("" : Str))
    | some i => (W (l.take i), W f, W (l.drop (i + f.length))) := by
  have e0 : Str.empty = ("" : Str) := by decide +kernel
  rcases partition_whole (W l) (W f) with ⟨e, h⟩ | ⟨i, e, h1, h2⟩
  · have hp : posM l f = none := posM_none.mpr fun i hi z => h i (at_W.mpr ⟨hi, z⟩)
    rw [hp, e, e0]
  · obtain ⟨h3, h4⟩ := at_W.mp h1
    have hp : posM l f = some i := posM_some.mpr ⟨h3, h4, fun k hk z => h2 k hk (at_W.mpr ⟨by omega, z⟩)⟩
    have e2 : (l.drop (i + f.length)).take (l.length - (i + f.length)) = l.drop (i + f.length) := List.take_of_length_le (by rw [List.length_drop]; omega)
    rw [hp, e, sub_W, sub_W, W_len, W_len, e2, List.drop_zero, Nat.sub_zero]
/-- what is read of a part: the reason and the data -/
def rdM (ss : List Stf) (p s : List Bool) (part : List Bool) : Str × Option (List Bool) := match takM ss part with
  | none => ("put", none)
  | some m => if goodM p s m then ("good", some (m.take (m.length - s.length))) else ("check", none)
def rcM (f : List Bool) (ss : List Stf) (p s : List Bool) (raw : List Bool) : Str × Option (List Bool) := match posM raw f with
  | none => ("open", none)
  | some i => rdM ss p s (raw.take i)
theorem takL_le {ss : List Stf} : ∀ {r p m x : List Bool}, takL ss p r m = some x → x.length ≤ m.length + r.length
  | [], p, m, x, h => by
    unfold takL at h
    split at h
    · rw [← Option.some.inj h]; exact Nat.le_refl _
    · cases h
  | b :: r, p, m, x, h => by
    unfold takL at h
    split at h
    · have := takL_le h
      rw [List.length_append] at this
      simp only [List.length_cons, List.length_nil] at this ⊢
      omega
    · split at h
      · have := takL_le h
        rw [List.length_cons]
        omega
      · cases h
theorem takM_le {ss : List Stf} {l m : List Bool} (h : takM ss l = some m) : m.length ≤ l.length := by
  have := takL_le h
  simpa using this
/-- what is sent by a clean rule is received -/
theorem rc_send {f p s d l : List Bool} {ss : List Stf} (h0 : ∀ s ∈ ss, s.1 ≠ []) (hl : s.length + 1 = p.length) (hB : Body ss (d ++ bitsM p s d) l) (hc : ¬ SpL f l) : rcM f ss p s (l ++ f) = (("good" : Str), some d) := by
  have hp := posM_sp.mpr hc
  have ht := (takM_iff (put_nil h0)).mpr hB
  unfold rcM
  rw [hp]
  show rdM ss p s ((l ++ f).take l.length) = _
  rw [List.take_left]
  unfold rdM
  rw [ht]
  show (if goodM p s (d ++ bitsM p s d) = true then _ else _) = _
  rw [if_pos (goodM_bits hl d), List.length_append, bitsM_len hl, Nat.add_sub_cancel, List.take_left]
/-- the flag is no beginning of a body: some pattern stands in it with the other bit behind -/
theorem needs {f : List Bool} {ss : List Stf} (o : OkN 39 ss) (h0 : putM ss [] = none) (hs : SufFree ss) (hf : f ≠ []) (hc : ∀ m, ¬ SpL f (bodyF ss m)) : ∃ s ∈ ss, infx (s.1 ++ [!s.2]) f = true := by
  refine Classical.byContradiction fun hn => ?_
  have key : ∀ k, k ≤ f.length → ∃ m x, Ins ss (f.take k) x ∧ bodyF ss m = f.take k ++ x := by
    intro k
    induction k with
    | zero => exact fun _ => ⟨[], [], by rw [List.take_zero]; exact .stop h0, rfl⟩
    | succ k ih =>
      intro hk
      obtain ⟨m, x, hx, hb⟩ := ih (by omega)
      have hkl : k < f.length := by omega
      have et : f.take (k + 1) = f.take k ++ [f[k]] := by rw [List.take_add_one, List.getElem?_eq_getElem hkl]; rfl
      cases hx with
      | stop hp =>
        rw [List.append_nil] at hb
        obtain ⟨y, hy, ly, eb⟩ := ins40 o m f[k]
        rw [hb, ← et] at hy eb
        exact ⟨m ++ [f[k]], y, hy, eb⟩
      | @more _ x b hp hx =>
        obtain ⟨q, hq, hqs⟩ := (put_iff hs).mp hp
        have e : f[k] = b := by
          cases e : (f[k] == b) with
          | true => exact eq_of_beq e
          | false =>
            refine absurd ⟨(q, b), hq, ?_⟩ hn
            have ne : f[k] = !b := by
              have : f[k] ≠ b := fun z => by rw [z] at e; simp at e
              revert this
              cases f[k] <;> cases b <;> simp
            obtain ⟨r, hr⟩ := hqs
            refine infx_iff.mpr ⟨r.length, ?_, ?_⟩
            · have := congrArg List.length hr
              rw [List.length_append, List.length_take] at this
              omega
            · have ef : f = r ++ (q ++ [!b] ++ f.drop (k + 1)) := by
                rw [← ne]
                conv => lhs; rw [← List.take_append_drop (k + 1) f, et, ← hr]
                simp
              rw [ef, List.drop_left]
              exact List.prefix_append _ _
        refine ⟨m, x, ?_, ?_⟩
        · rw [et, e]; exact hx
        · rw [hb, et, e, List.append_assoc]; rfl
  obtain ⟨m, x, hx, hb⟩ := key f.length (Nat.le_refl _)
  rw [List.take_length] at hb
  refine hc m ⟨0, ?_, ?_⟩
  · rw [hb, List.length_append]
    have := List.length_pos_iff.mpr hf
    omega
  · rw [hb, List.drop_zero, List.append_assoc]
    exact List.prefix_append _ _
/-- the parts that end with a flag, and the rest -/
def cutF (f : List Bool) : Nat → List Bool → List (List Bool) × List Bool
  | 0, r => ([], r)
  | n + 1, r => match posM r f with
    | none => ([], r)
    | some i => (r.take i :: (cutF f n (r.drop (i + f.length))).1, (cutF f n (r.drop (i + f.length))).2)
def frM (f : List Bool) (ss : List Stf) (p s raw : List Bool) : List (Str × Option (List Bool)) := ((cutF f raw.length raw).1.filter (· ≠ [])).map (rdM ss p s)
theorem posM_lt {r f : List Bool} {i : Nat} (hf : f ≠ []) (h : posM r f = some i) : i + f.length ≤ r.length ∧ 0 < f.length := by
  obtain ⟨h1, h2, _⟩ := posM_some.mp h
  have := h2.length_le
  rw [List.length_drop] at this
  have h0 : 0 < f.length := List.length_pos_iff.mpr hf
  exact ⟨by omega, h0⟩
end U

set_option maxRecDepth 100000
set_option maxHeartbeats 4000000
set_option pp.maxSteps 400
namespace U
open PySem PySem.Spec PyProof.Rows
open L2 hiding Fun CX0 E0 pass0 Fun.binds
open C8 Lx SX StX
theorem empty_W (l : List Bool) : decide (V.str (W l) = V.str "") = decide (l = []) := by
  rw [decide_eq_decide]
  exact ⟨fun z => by rw [W_nil] at z; exact W_inj (V.str.inj z), fun z => by rw [z, W_nil]⟩
def spSend (C CK : Addr) : Sp := fun vs H Q _ => ∃ (a c : Addr) (f : List Bool) (ss : List Stf) (p s d : List Bool), vs = [.ref a, .ref c, .str (W d)] ∧ RuAt C H a f ss ∧ CkAt CK H c p s ∧ p.length ≤ 100 ∧ s.length + 1 = p.length ∧ d.length ≤ 800 ∧ f.length ≤ 1000 ∧ OkN 39 ss ∧
  ∀ l H', Body ss (d ++ bitsM p s d) l → l.length ≤ 40 * (d.length + s.length) → Same H H' → Q (.str (W (l ++ f))) H'
def spReadP (C CK : Addr) : Sp := fun vs H Q _ => ∃ (a c : Addr) (f : List Bool) (ss : List Stf) (p s l : List Bool), vs = [.ref a, .ref c, .str (W l)] ∧ RuAt C H a f ss ∧ CkAt CK H c p s ∧ p.length ≤ 1000 ∧ s.length + 1 = p.length ∧ l.length ≤ 10000 ∧
  ∀ t H', H t = none → Same H H' → H' t = some (.tup [.str (rdM ss p s l).1, oW (rdM ss p s l).2]) → Q (.ref t) H'
def spReceive (C CK : Addr) : Sp := fun vs H Q _ => ∃ (a c : Addr) (f : List Bool) (ss : List Stf) (p s l : List Bool), vs = [.ref a, .ref c, .str (W l)] ∧ RuAt C H a f ss ∧ CkAt CK H c p s ∧ p.length ≤ 1000 ∧ s.length + 1 = p.length ∧ l.length ≤ 50000 ∧ f ≠ [] ∧ (∀ i, posM l f = some i → i ≤ 10000) ∧
  ∀ t H', H t = none → Same H H' → H' t = some (.tup [.str (rcM f ss p s l).1, oW (rcM f ss p s l).2]) → Q (.ref t) H'
section
variable {P : Program} {w : World} {K : PySem.W.Frag} {mg : Str → Option Value} {base : Heap}
theorem sc_read_part : FnScope ["rule", "check", "part", "message"] ["rule", "check", "part"] (fnScope s_read_part) := fnScope_by (by decide +kernel)
theorem cal_read_part {f C CK : Addr} {fd : FuncData} (F : Def K mg "read_part" s_read_part f fd) (b : Binds K fd ["rule", "check", "part"] []) (T : Tx mg) (c_taken_out : Cal P w K mg base 3 "taken_out" (spTaken C) []) (c_is_good : Met P w K mg base 3 CK "is_good" (spIsGood CK) []) (p_degree : Prp P w K mg base 1 CK "degree" (spDegree CK)) : Cal P w K mg base 4 "read_part" (spReadP C CK) [] := by
  refine cal0 F b .nil sc_read_part (fun vs H Q E h => ?_) (fun cdv A outer s H vs Q E hr h => ?_)
  · obtain ⟨_, _, _, _, _, _, _, rfl, _⟩ := h; rfl
  · obtain ⟨a, c, fl, ss, p, st, l, rfl, hR, hC, lp, ls, ll, k⟩ := h
    refine ⟨_, (pss_cons (ps_set (i := 3) sc_read_part.nd rfl (.inl rfl) (pe_c c_taken_out hr (by decide) rfl (pa_cons (pv 0) (pa_cons (pv 2) pa_nil))))
    (pss_cons (ps_if (pt_cmpR op_isN (pv 3) pe_non (nomark _)) (pss_one (ps_ret (pe_tup (pa_cons pe_str (pa_cons pe_non pa_nil))))) pss_nil)
    (pss_cons (ps_if (pt_not (pt_val (pe_mt (pl := _) c_is_good hr (by decide) (pv 1) (pa_cons (pv 3) pa_nil)))) (pss_one (ps_ret (pe_tup (pa_cons pe_str (pa_cons pe_non pa_nil))))) pss_nil)
    (pss_one (ps_ret (pe_tup (pa_cons pe_str (pa_cons (pe_slice sl_txt (pv 3) po_none (po_some (pe_op op_sub (pe_callB call_len_str (by rfl) T.b_len (by decide +kernel) (pa_cons (pv 3) pa_nil)) (pe_pr p_degree hr (by decide) (pv 1))))) pa_nil)))))))), ?_⟩
    refine ⟨_, rfl, _, rfl, a, fl, ss, l, rfl, hR, by omega, fun H1 s1 => ?_⟩
    refine ⟨_, rfl, rfl, _, rfl, ?_⟩
    rw [oW_non]
    unfold rdM at k
    cases e : takM ss l with
    | none =>
      rw [e] at k
      exact iteT ⟨by show 2 ≤ sizeLine; decide, fun t nt => k t _ (s1.free nt) (s1.trans (same_upd nt)) upd_same⟩
    | some m =>
      rw [e] at k
      have lm := takM_le e
      have hC1 := hC.same s1
      obtain ⟨dx, hc⟩ := id hC1
      refine iteF ?_
      refine ⟨_, rfl, c, dx, _, rfl, hc, ckF_no _ _ (by decide +kernel) (by decide +kernel), _, rfl, c, p, st, m, rfl, hC1, lp, by omega, ls, fun H2 s2 => ⟨_, rfl, ?_⟩⟩
      have s12 := s1.trans s2
      dsimp only at k
      cases eg : goodM p st m with
      | false =>
        rw [eg] at k
        exact iteT ⟨by show 2 ≤ sizeLine; decide, fun t nt => k t _ (s12.free nt) (s12.trans (same_upd nt)) upd_same⟩
      | true =>
        rw [eg] at k
        have hC2 := hC.same s12
        obtain ⟨dx, hc⟩ := id hC2
        have g := ((goodM_iff ls).mp eg).1
        have lw : (W m).length ≤ sizeLine := by rw [W_len]; exact sl_len (by omega)
        refine iteF ?_
        refine ⟨_, rfl, _, rfl, _, rfl, lw, _, rfl, c, dx, _, rfl, hc, c, p, st, rfl, hC2, lp, ls, _, _, rfl, rfl, _, rfl, _, rfl, lw, ?_⟩
        rw [W_take (by rw [W_len]; omega), W_len, show (((m.length : Nat) : Int) - ((st.length : Nat) : Int)).toNat = m.length - st.length by omega]
        refine ⟨by show 2 ≤ sizeLine; decide, fun t nt => k t _ (s12.free nt) (s12.trans (same_upd nt)) upd_same⟩
theorem sc_receive : FnScope ["rule", "check", "raw", "part", "flag", "rest"] ["rule", "check", "raw"] (fnScope s_receive) := fnScope_by (by decide +kernel)
theorem cal_receive {f C CK : Addr} {fd : FuncData} (F : Def K mg "receive" s_receive f fd) (b : Binds K fd ["rule", "check", "raw"] []) (T : Tx mg) (RT : RuT K C) (c_read_part : Cal P w K mg base 4 "read_part" (spReadP C CK) []) : Cal P w K mg base 5 "receive" (spReceive C CK) [] := by
  refine cal0 F b .nil sc_receive (fun vs H Q E h => ?_) (fun cdv A outer s H vs Q E hr h => ?_)
  · obtain ⟨_, _, _, _, _, _, _, rfl, _⟩ := h; rfl
  · obtain ⟨a, c, fl, ss, p, st, l, rfl, hR, hC, lp, ls, ll, hf, hi, k⟩ := h
    refine ⟨_, (pss_cons (ps_asg (pe_partition (pv 2) (pe_fld (pv 0) rfl)) (pg_tup rfl (pgs_cons (pg_name (i := 3) sc_receive.nd rfl (.inl rfl)) (pgs_cons (pg_name (i := 4) sc_receive.nd rfl (.inl rfl)) (pgs_cons (pg_name (i := 5) sc_receive.nd rfl (.inl rfl)) pgs_nil)))))
    (pss_one (ps_ret (pe_ifExp (pt_cmpR op_eq (pv 4) pe_str (nomark _)) (pe_tup (pa_cons pe_str (pa_cons pe_non pa_nil))) (pe_c c_read_part hr (by decide) rfl (pa_cons (pv 0) (pa_cons (pv 1) (pa_cons (pv 3) pa_nil)))))))), ?_⟩
    obtain ⟨da, ta, _, _, ha, _⟩ := id hR
    have nz : ((W fl).length == 0) = false := by
      rw [W_len]
      have := List.length_pos_iff.mpr hf
      exact beq_false_of_ne (by omega)
    refine ⟨_, rfl, ⟨_, rfl⟩, _, rfl, a, C, da, _, _, rfl, ha, RT.cl, RT.nF, ruF_flag _ _, _, _, rfl, rfl, nz, by rw [W_len]; exact sl_len (by omega), fun t nt => ?_⟩
    have s1 : Same H _ := same_upd (o := .tup [.str (Txt.partition (W l) (W fl)).1, .str (Txt.partition (W l) (W fl)).2.1, .str (Txt.partition (W l) (W fl)).2.2]) nt
    refine ⟨t, _, rfl, SqT.of upd_same, rfl, _, _, rfl, _, _, rfl, _, _, rfl, rfl, ?_⟩
    generalize upd H t _ = H1 at s1
    rw [part_W]
    unfold rcM at k
    cases e : posM l fl with
    | none =>
      rw [e] at k
      refine ⟨_, rfl, rfl, _, rfl, iteDT rfl ⟨by show 2 ≤ sizeLine; decide, fun t nt => k t _ (s1.free nt) (s1.trans (same_upd nt)) upd_same⟩⟩
    | some i =>
      rw [e] at k
      dsimp only at k ⊢
      refine ⟨_, rfl, rfl, _, rfl, ?_⟩
      rw [empty_W]
      refine iteDF hf ?_
      have li := hi i e
      refine ⟨_, rfl, _, rfl, _, rfl, a, c, fl, ss, p, st, l.take i, rfl, hR.same s1, hC.same s1, lp, ls, by rw [List.length_take]; omega, fun t2 H2 nt2 s2 h2 => ?_⟩
      exact k t2 H2 (s1.free nt2) (s1.trans s2) h2
end
end U

set_option maxRecDepth 100000
set_option maxHeartbeats 4000000
set_option pp.maxSteps 400
namespace U
open PySem PySem.Spec PyProof.Rows
open L2 hiding Fun CX0 E0 pass0 Fun.binds
open C8 Lx SX StX
abbrev Rd2 := Str × Option (List Bool)
/-- pairs of a reason and data -/
def FrT (H : Hp) (kb : Addr → Rd2) (ps : List Addr) : Prop := ∀ t ∈ ps, H t = some (.tup [.str (kb t).1, oW (kb t).2])
theorem FrT.same {H H' : Hp} {kb : Addr → Rd2} {ps : List Addr} (h : FrT H kb ps) (e : Same H H') : FrT H' kb ps := fun t ht => e _ _ (h t ht)
def FrL (H : Hp) (q : Addr) (rs : List Rd2) : Prop := ∃ (ps : List Addr) (kb : Addr → Rd2), H q = some (.lst (ps.map V.ref)) ∧ FrT H kb ps ∧ rs = ps.map kb
def FrU (H : Hp) (q : Addr) (rs : List Rd2) : Prop := ∃ (ps : List Addr) (kb : Addr → Rd2), H q = some (.tup (ps.map V.ref)) ∧ FrT H kb ps ∧ rs = ps.map kb
theorem FrL.same {H H' : Hp} {q : Addr} {rs : List Rd2} (h : FrL H q rs) (s : Same H H') : FrL H' q rs := by
  obtain ⟨ps, kb, h1, h2, h3⟩ := h
  exact ⟨ps, kb, s _ _ h1, h2.same s, h3⟩
theorem FrU.same {H H' : Hp} {q : Addr} {rs : List Rd2} (h : FrU H q rs) (s : Same H H') : FrU H' q rs := by
  obtain ⟨ps, kb, h1, h2, h3⟩ := h
  exact ⟨ps, kb, s _ _ h1, h2.same s, h3⟩
theorem fr_push {H : Hp} {q z : Addr} {p : Rd2} {ps : List Addr} {kb : Addr → Rd2} (hq : H q = some (.lst (ps.map V.ref))) (hT : FrT H kb ps) (hz : H z = some (.tup [.str p.1, oW p.2])) (hn : z ∉ ps) :
    FrL (upd H q (.lst (ps.map V.ref ++ [.ref z]))) q (ps.map kb ++ [p]) := by
  refine ⟨ps ++ [z], fun y => if y = z then p else kb y, by rw [upd_same, List.map_append]; rfl, fun y hy => ?_, ?_⟩
  · dsimp only
    rcases List.mem_append.mp hy with h1 | h1
    · have ne : y ≠ z := fun e => hn (by rw [← e]; exact h1)
      rw [if_neg ne, upd_ne (ne_of (hT y h1) hq (by intro z; cases z))]
      exact hT y h1
    · rw [List.mem_singleton.mp h1, if_pos rfl, upd_ne (ne_of hz hq (by intro z; cases z))]
      exact hz
  · rw [List.map_append]
    congr 1
    · exact List.map_congr_left fun y hy => (if_neg fun e => hn (by rw [← e]; exact hy)).symm
    · show [p] = [if z = z then p else kb z]
      rw [if_pos rfl]
def spCutUp (C CK : Addr) : Sp := fun vs H Q _ => ∃ (a c : Addr) (f : List Bool) (ss : List Stf) (p s l : List Bool), vs = [.ref a, .ref c, .str (W l)] ∧ RuAt C H a f ss ∧ CkAt CK H c p s ∧ p.length ≤ 1000 ∧ s.length + 1 = p.length ∧ l.length ≤ 10000 ∧ f ≠ [] ∧
  ∀ t q H', H t = none → Same H H' → H' t = some (.tup [.ref q, .str (W (cutF f l.length l).2)]) → FrU H' q (frM f ss p s l) → Q (.ref t) H'
def spFrames (C CK : Addr) : Sp := fun vs H Q _ => ∃ (a c : Addr) (f : List Bool) (ss : List Stf) (p s l : List Bool), vs = [.ref a, .ref c, .str (W l)] ∧ RuAt C H a f ss ∧ CkAt CK H c p s ∧ p.length ≤ 1000 ∧ s.length + 1 = p.length ∧ l.length ≤ 10000 ∧ f ≠ [] ∧
  ∀ q H', Same H H' → FrU H' q (frM f ss p s l) → Q (.ref q) H'
theorem cutF_none {f r : List Bool} (h : posM r f = none) : ∀ n, cutF f n r = ([], r)
  | 0 => rfl
  | n + 1 => by unfold cutF; rw [h]
theorem cutF_some {f r : List Bool} {i : Nat} (h : posM r f = some i) (n : Nat) : cutF f (n + 1) r = (r.take i :: (cutF f n (r.drop (i + f.length))).1, (cutF f n (r.drop (i + f.length))).2) := by
  conv => lhs; unfold cutF
  rw [h]
section
variable {P : Program} {w : World} {K : PySem.W.Frag} {mg : Str → Option Value} {base : Heap}
end
end U

set_option maxRecDepth 100000
set_option maxHeartbeats 4000000
namespace U
/-! the net of sender and receiver: what it is, in plain Lean -/
structure Sd where
  t : List Bool
  r : List Bool
  n : Nat
deriving DecidableEq
inductive Cm | non | snd (b : Bool) (n : Nat) | rcv (b : Bool) (n : Nat) | unl
deriving DecidableEq
/-- what the receiver stands like -/
structure Rs where
  b : Sd
  read : Nat
  cl : Option Nat
  sh : Int
  cm : Cm
deriving DecidableEq
structure Ns where
  a : Sd
  sent : Option Nat
  x : Rs
  h : Nat
deriving DecidableEq
inductive How | cut | same | shift
deriving DecidableEq
structure Np where
  f : List Bool
  ss : List Stf
  L : Nat
  p : List Bool
  s : List Bool
  ks : List Kd
  mh : Nat
  how : How
/-- one move: whether a bit of the message, this bit, the hit, where to -/
structure Mv where
  w : Bool
  bit : Option Bool
  kd : Option Kd
  to : Ns
/-- the longest end of q with which the flag begins, of at most so many bits -/
def brdN (f q : List Bool) : Nat → Nat
  | 0 => 0
  | m + 1 => if tl (m + 1) q = f.take (m + 1) then m + 1 else brdN f q m
def brd (f q : List Bool) : Nat := brdN f q (min q.length f.length)
namespace Np
variable (N : Np)
def put (S : Sd) : Option Bool := putM N.ss S.t
def good (S : Sd) : Bool := (decide (S.n = N.s.length) && !decide (true ∈ S.r)) && (N.put S).isNone
def mv (S : Sd) (b m : Bool) : Sd := if m then ⟨tl N.L (S.t ++ [b]), stepM N.p S.r b, min N.s.length (S.n + 1)⟩ else ⟨tl N.L (S.t ++ [b]), S.r, S.n⟩
def cntS (sh : Int) (cm : Cm) (b may : Bool) : List (Int × Cm) :=
  if N.how = .shift then [(sh - 1, .non)] else
  match cm with
  | .non => (sh - 1, .non) :: (if may && decide (0 ≤ -sh) then [(sh - 1, .rcv b ((-sh).toNat + 1))] else [])
  | .snd c n => if 1 < n then [(sh - 1, .snd c (n - 1))] else if c ≠ b then [(sh - 1, .unl)] else []
  | .rcv c n => [(sh - 1, .rcv c n)]
  | .unl => [(sh - 1, .unl)]
def cntR (sh : Int) (cm : Cm) (b may : Bool) : List (Int × Cm) :=
  if N.how = .shift then [(sh + 1, .non)] else
  match cm with
  | .non => (sh + 1, .non) :: (if may && decide (0 ≤ sh) then [(sh + 1, .snd b (sh.toNat + 1))] else [])
  | .rcv c n => if 1 < n then [(sh + 1, .rcv c (n - 1))] else if c ≠ b then [(sh + 1, .unl)] else []
  | .snd c n => [(sh + 1, .snd c n)]
  | .unl => [(sh + 1, .unl)]
def closed (sh : Int) (cm : Cm) : Rs := if sh < 0 ∨ cm = .unl then ⟨⟨[], [], 0⟩, 0, some (N.f.length + 1), 0, .unl⟩ else ⟨⟨[], [], 0⟩, 0, some (N.f.length + 1), sh, cm⟩
def rdB (R : Rs) (rd : Nat) (b may : Bool) : List Rs := match N.put R.b with
  | some c => if b = c then [⟨N.mv R.b b false, rd, none, R.sh, R.cm⟩] else []
  | none => (N.cntR R.sh R.cm b may).map fun x => ⟨N.mv R.b b true, rd, none, x.1, x.2⟩
def hear (R : Rs) (b last may : Bool) : List Rs :=
  if R.cl = some (N.f.length + 1) then [R] else
  let rd := brd N.f (N.f.take R.read ++ [b])
  match R.cl with
  | none => (if rd = N.f.length then [] else N.rdB R rd b may) ++ (if rd ≠ N.f.length ∧ some b = N.f[0]? ∧ N.good R.b = true then [⟨R.b, rd, some 1, R.sh, R.cm⟩] else [])
  | some c => if N.f[c]? ≠ some b then [] else if c + 1 < N.f.length then (if rd = N.f.length then [] else [⟨R.b, rd, some (c + 1), R.sh, R.cm⟩])
      else if last then (if N.how = .cut then [] else [⟨R.b, rd, some (c + 1), R.sh, R.cm⟩]) else (if N.how = .cut then [N.closed R.sh R.cm] else [])
def hearAll (R : Rs) (bits : List Bool) (last may : Bool) : List Rs := bits.foldl (fun rs b => rs.flatMap fun R => N.hear R b last may) [R]
def flagMoves (st : Ns) : List Mv := match st.sent with
  | none => []
  | some j => if j = N.f.length ∨ st.x.cl = some (N.f.length + 1) then [] else
    (N.hearAll st.x [N.f.getD j false] (decide (j + 1 = N.f.length)) (decide (0 < st.h))).map fun R => ⟨false, none, none, ⟨st.a, some (j + 1), R, st.h⟩⟩
def noises (b : Bool) (h : Nat) : List (Option Kd × List Bool) := (none, [b]) :: (if h < N.mh then N.ks.map fun k => (some k, arr b k) else [])
def bitMove (st : Ns) (b m : Bool) (k : Option Kd) (bits : List Bool) : List Mv :=
  let isC := decide (st.x.cl = some (N.f.length + 1))
  let now := st.h + (if k.isSome then 1 else 0)
  let may := decide (0 < now) && !isC
  (if m then N.cntS st.x.sh st.x.cm b may else [(st.x.sh, st.x.cm)]).flatMap fun x =>
    (N.hearAll (if isC then N.closed x.1 x.2 else ⟨st.x.b, st.x.read, st.x.cl, x.1, x.2⟩) bits false (decide (0 < now))).map fun R =>
      ⟨m, if m then some b else none, k, ⟨N.mv st.a b m, st.sent, R, now⟩⟩
def bitMoves (st : Ns) (b m : Bool) : List Mv :=
  (if st.x.cl = some (N.f.length + 1) then [(none, [])] else N.noises b st.h).flatMap fun x => N.bitMove st b m x.1 x.2
def moves (st : Ns) : List Mv := match st.sent with
  | some _ => N.flagMoves st
  | none => match N.put st.a with
    | some c => N.bitMoves st c false
    | none => N.bitMoves st false true ++ N.bitMoves st true true ++ (if N.good st.a then [⟨false, none, none, ⟨st.a, some 0, st.x, st.h⟩⟩] else [])
def unseen (st : Ns) : Bool :=
  let unl := decide (st.x.cm = .unl)
  if N.how = .cut then decide (st.sent ≠ none) && decide (st.x.cl = some (N.f.length + 1)) && (unl || decide (st.x.sh ≠ 0))
  else if st.sent ≠ some N.f.length ∨ st.x.cl ≠ some N.f.length then false
  else if N.how = .shift then decide (st.x.sh ≠ 0) else unl && decide (st.x.sh = 0)
def begun : Sd := ⟨[], N.s, 0⟩
def first : Ns := ⟨N.begun, none, ⟨N.begun, 0, none, 0, .non⟩, 0⟩
end Np
abbrev Lab := Option Bool × Option Kd
/-- a walk from the first standing: the standing, the bits of the message, what was done at each bit of the line -/
inductive Wlk (N : Np) : Ns → Nat → List Lab → Prop
  | nil : Wlk N N.first 0 []
  | step {st : Ns} {n : Nat} {l : List Lab} {m : Mv} : Wlk N st n l → m ∈ N.moves st → Wlk N m.to (n + if m.w then 1 else 0) (if st.sent = none ∧ m.to.sent = none then l ++ [(m.bit, m.kd)] else l)
/-! the flag's beginnings -/
theorem brdN_le (f q : List Bool) : ∀ n, brdN f q n ≤ n
  | 0 => Nat.le_refl _
  | m + 1 => by
    unfold brdN
    split
    · exact Nat.le_refl _
    · exact Nat.le_succ_of_le (brdN_le f q m)
theorem brdN_is (f q : List Bool) : ∀ n, tl (brdN f q n) q = f.take (brdN f q n)
  | 0 => by rw [show brdN f q 0 = 0 from rfl, tl_zero]; rfl
  | m + 1 => by
    unfold brdN
    split
    · assumption
    · exact brdN_is f q m
theorem brdN_max {f q : List Bool} : ∀ {n k : Nat}, k ≤ n → tl k q = f.take k → k ≤ brdN f q n
  | 0, k, hk, _ => by omega
  | m + 1, k, hk, e => by
    unfold brdN
    by_cases c : k = m + 1
    · subst c; rw [if_pos e]; exact Nat.le_refl _
    · split
      · exact hk
      · exact brdN_max (by omega) e
theorem brd_is (f q : List Bool) : tl (brd f q) q = f.take (brd f q) := brdN_is f q _
theorem brd_le (f q : List Bool) : brd f q ≤ q.length ∧ brd f q ≤ f.length := by
  have := brdN_le f q (min q.length f.length)
  unfold brd
  omega
theorem brd_max {f q : List Bool} {k : Nat} (h1 : k ≤ q.length) (h2 : k ≤ f.length) (e : tl k q = f.take k) : k ≤ brd f q := brdN_max (by omega) e
theorem brd_uniq {f q : List Bool} {k : Nat} (h1 : k ≤ q.length) (h2 : k ≤ f.length) (e : tl k q = f.take k) (hm : ∀ j, j ≤ q.length → j ≤ f.length → tl j q = f.take j → j ≤ k) : brd f q = k :=
  Nat.le_antisymm (hm _ (brd_le f q).1 (brd_le f q).2 (brd_is f q)) (brd_max h1 h2 e)
theorem takeSn {f : List Bool} {k : Nat} (h : k < f.length) : f.take (k + 1) = f.take k ++ [f[k]] := List.take_succ_eq_append_getElem h
theorem brd_step (f q : List Bool) (b : Bool) : brd f (f.take (brd f q) ++ [b]) = brd f (q ++ [b]) := by
  have h1 := brd_le f q
  have h2 := brd_is f q
  have hl : (f.take (brd f q)).length = brd f q := by rw [List.length_take]; omega
  have key : ∀ j, j < f.length → j ≤ brd f q → tl (j + 1) (f.take (brd f q) ++ [b]) = tl (j + 1) (q ++ [b]) := fun j hj hk => by
    rw [tl_snoc0, tl_snoc0, ← h2, tl_tl hk]
  symm
  have e1 := brd_is f (f.take (brd f q) ++ [b])
  have l1 := brd_le f (f.take (brd f q) ++ [b])
  rw [List.length_append, hl] at l1
  refine brd_uniq (by rw [List.length_append]; have := l1.1; simp only [List.length_cons, List.length_nil] at *; omega) l1.2 ?_ ?_
  · cases hc : brd f (f.take (brd f q) ++ [b]) with
    | zero => rw [tl_zero]; rfl
    | succ j =>
      rw [hc] at e1 l1
      rw [← key j (by omega) (by have := l1.1; simp only [List.length_cons, List.length_nil] at this; omega)]
      exact e1
  · intro j hj1 hj2 e
    cases j with
    | zero => exact Nat.zero_le _
    | succ j =>
      rw [List.length_append] at hj1
      simp only [List.length_cons, List.length_nil] at hj1
      have hjb : j ≤ brd f q := by
        refine brd_max (by omega) (by omega) ?_
        rw [tl_snoc0, takeSn (by omega)] at e
        exact (List.append_inj' e rfl).1
      refine brd_max (by rw [List.length_append, hl]; show _ ≤ _ + 1; omega) hj2 ?_
      rw [key j (by omega) hjb]
      exact e
theorem suf_of_tl {f q : List Bool} (h : tl f.length q = f) : f <:+ q := by
  rw [← h]
  unfold tl
  exact List.drop_suffix _ _
theorem tl_of_suf {f q : List Bool} (h : f <:+ q) : tl f.length q = f := by
  obtain ⟨r, rfl⟩ := h
  unfold tl
  rw [List.length_append, Nat.add_sub_cancel, List.drop_left]
theorem brd_full {f q : List Bool} : brd f q = f.length ↔ f <:+ q := by
  constructor
  · intro h
    have e := brd_is f q
    rw [h, List.take_length] at e
    exact suf_of_tl e
  · intro h
    have e := tl_of_suf h
    have h1 := brd_le f q
    have h2 := brd_max (List.IsSuffix.length_le h) (Nat.le_refl _) (e.trans (List.take_length).symm)
    omega
theorem brd_nil (f : List Bool) : brd f [] = 0 := by
  have := (brd_le f []).1
  simpa using this
/-- no flag in it -/
def NoF (f q : List Bool) : Prop := ∀ i, ¬ f <+: q.drop i
theorem nof_snoc {f q : List Bool} {b : Bool} (hf : f ≠ []) : NoF f (q ++ [b]) ↔ NoF f q ∧ ¬ f <:+ q ++ [b] := by
  constructor
  · intro h
    refine ⟨fun i hp => ?_, fun hs => ?_⟩
    · by_cases hi : i ≤ q.length
      · refine h i ?_
        rw [List.drop_append_of_le_length hi]
        obtain ⟨r, e⟩ := hp
        exact ⟨r ++ [b], by rw [← List.append_assoc, e]⟩
      · rw [List.drop_eq_nil_of_le (by omega)] at hp
        exact hf (List.prefix_nil.mp hp)
    · obtain ⟨r, e⟩ := hs
      refine h r.length ?_
      rw [← e, List.drop_left]
      exact List.prefix_refl _
  · rintro ⟨h1, h2⟩ i hp
    by_cases hi : i ≤ q.length
    · rw [List.drop_append_of_le_length hi] at hp
      by_cases hl : f.length ≤ (q.drop i).length
      · exact h1 i (List.prefix_of_prefix_length_le hp (List.prefix_append _ _) hl)
      · have e : f = q.drop i ++ [b] := by
          refine hp.eq_of_length ?_
          have := hp.length_le
          rw [List.length_append] at this ⊢
          simp only [List.length_cons, List.length_nil] at this ⊢
          omega
        refine h2 ⟨q.take i, ?_⟩
        rw [e, ← List.append_assoc, List.take_append_drop]
    · rw [List.drop_eq_nil_of_le (by rw [List.length_append]; show _ + 1 ≤ _; omega)] at hp
      exact hf (List.prefix_nil.mp hp)
theorem nof_nil {f : List Bool} (hf : f ≠ []) : NoF f [] := fun i h => by
  rw [List.drop_nil] at h
  exact hf (List.prefix_nil.mp h)
theorem nof_pre {f q r : List Bool} (h : NoF f (q ++ r)) : NoF f q := fun i hp => by
  by_cases hi : i ≤ q.length
  · refine h i ?_
    rw [List.drop_append_of_le_length hi]
    exact hp.trans (List.prefix_append _ _)
  · rw [List.drop_eq_nil_of_le (by omega)] at hp
    refine h 0 ?_
    rw [List.prefix_nil.mp hp]
    exact List.nil_prefix
end U

set_option maxRecDepth 100000
set_option maxHeartbeats 4000000
namespace U
/-! what a walk of the net tells -/
/-- the bits that arrive for a line, hit so -/
def arv : List (Option Kd) → List Bool → List Bool
  | k :: ks, b :: l => sgn k b ++ arv ks l
  | _, _ => []
theorem arv_nil (l : List Bool) : arv [] l = [] := by cases l <;> rfl
theorem arv_app : ∀ {ks : List (Option Kd)} {l : List Bool}, ks.length = l.length → ∀ (ks' : List (Option Kd)) (l' : List Bool), arv (ks ++ ks') (l ++ l') = arv ks l ++ arv ks' l'
  | [], [], _, _, _ => rfl
  | [], _ :: _, h, _, _ => by cases h
  | _ :: _, [], h, _, _ => by cases h
  | k :: ks, b :: l, h, ks', l' => by
    show sgn k b ++ arv (ks ++ ks') (l ++ l') = sgn k b ++ arv ks l ++ arv ks' l'
    rw [arv_app (by simpa using h), List.append_assoc]
theorem arv_snoc {ks : List (Option Kd)} {l : List Bool} (h : ks.length = l.length) (k : Option Kd) (b : Bool) : arv (ks ++ [k]) (l ++ [b]) = arv ks l ++ sgn k b := by
  rw [arv_app h]
  show _ ++ (sgn k b ++ arv [] []) = _
  rw [arv_nil, List.append_nil]
namespace Np
variable (N : Np)
def side (M l : List Bool) : Sd := ⟨tl N.L l, restM N.p N.s M, min N.s.length M.length⟩
structure Ok : Prop where
  L : ∀ s ∈ N.ss, s.1.length ≤ N.L
  ck : N.s.length + 1 = N.p.length
  f2 : 2 ≤ N.f.length
variable {N}
theorem Ok.ne (ok : N.Ok) : N.f ≠ [] := by
  intro z
  have := ok.f2
  rw [z] at this
  exact absurd this (by decide)
theorem put_side (ok : N.Ok) (M l : List Bool) : N.put (N.side M l) = putM N.ss l := put_tl (tl_tl (Nat.le_refl _) l) ok.L
theorem mv_own (M l : List Bool) (b : Bool) : N.mv (N.side M l) b true = N.side (M ++ [b]) (l ++ [b]) := by
  unfold mv side
  rw [if_pos rfl]
  congr 1
  · exact tl_snoc (tl_tl (Nat.le_refl _) l)
  · show _ = List.foldl _ _ _
    rw [List.foldl_append]
    rfl
  · rw [List.length_append]
    show min _ (min _ _ + 1) = min _ (_ + 1)
    omega
theorem mv_put (M l : List Bool) (b : Bool) : N.mv (N.side M l) b false = N.side M (l ++ [b]) := by
  unfold mv side
  rw [if_neg (by decide)]
  congr 1
  exact tl_snoc (tl_tl (Nat.le_refl _) l)
theorem good_side (ok : N.Ok) (M l : List Bool) : N.good (N.side M l) = true ↔ goodM N.p N.s M = true ∧ putM N.ss l = none := by
  unfold good
  rw [put_side ok]
  unfold goodM side
  rw [Bool.and_eq_true, Bool.and_eq_true, Bool.and_eq_true, decide_eq_true_iff, decide_eq_true_iff, Option.isNone_iff_eq_none]
  constructor
  · rintro ⟨⟨h1, h2⟩, h3⟩
    exact ⟨⟨by dsimp only at h1; omega, h2⟩, h3⟩
  · rintro ⟨⟨h1, h2⟩, h3⟩
    exact ⟨⟨by dsimp only; omega, h2⟩, h3⟩
theorem begun_side : N.begun = N.side [] [] := by
  unfold begun side
  rw [tl_nil]
  congr 1
  show 0 = min _ 0
  omega
end Np
/-- the two messages differ at some bit -/
def Dif (M X : List Bool) : Prop := ∃ (k : Nat) (b : Bool), M[k]? = some b ∧ X[k]? = some (!b)
theorem Dif.app {M X : List Bool} (h : Dif M X) (a b : List Bool) : Dif (M ++ a) (X ++ b) := by
  obtain ⟨k, c, h1, h2⟩ := h
  refine ⟨k, c, ?_, ?_⟩
  · rw [List.getElem?_append_left (List.getElem?_eq_some_iff.mp h1).1]; exact h1
  · rw [List.getElem?_append_left (List.getElem?_eq_some_iff.mp h2).1]; exact h2
theorem Dif.ne {M X : List Bool} (h : Dif M X) : M ≠ X := by
  rintro rfl
  obtain ⟨k, c, h1, h2⟩ := h
  rw [h1] at h2
  cases c <;> cases h2
/-- what a claim says of the two messages so far -/
def CR (M X : List Bool) : Cm → Prop
  | .non => True
  | .snd b n => 1 ≤ n ∧ X[M.length + n - 1]? = some b
  | .rcv b n => 1 ≤ n ∧ M[X.length + n - 1]? = some b
  | .unl => Dif M X
theorem get_app {l : List Bool} {i : Nat} {b : Bool} (h : l[i]? = some b) (r : List Bool) : (l ++ r)[i]? = some b := by
  rw [List.getElem?_append_left (List.getElem?_eq_some_iff.mp h).1]; exact h
theorem get_snoc (l : List Bool) (b : Bool) : (l ++ [b])[l.length]? = some b := by simp
theorem ne_not {a b : Bool} (h : a ≠ b) : a = !b := by cases a <;> cases b <;> simp_all
theorem ne_not' {a b : Bool} (h : a ≠ b) : b = !a := by cases a <;> cases b <;> simp_all
namespace Np
variable {N : Np}
theorem cntS_ok {sh : Int} {cm : Cm} {M X : List Bool} {b may : Bool} (hs : sh = (X.length : Int) - M.length) (hc : CR M X cm) {x : Int × Cm} (hx : x ∈ N.cntS sh cm b may) :
    x.1 = (X.length : Int) - (M ++ [b]).length ∧ CR (M ++ [b]) X x.2 ∧ (N.how = .shift → x.2 = .non) := by
  have e1 : sh - 1 = (X.length : Int) - (M ++ [b]).length := by rw [List.length_append, hs]; show _ = _ - ((_ + 1 : Nat) : Int); omega
  unfold cntS at hx
  split at hx
  · rw [List.mem_singleton] at hx
    subst hx
    exact ⟨e1, trivial, fun _ => rfl⟩
  · rename_i hns
    have nv : ∀ {c : Cm}, N.how = .shift → c = .non := fun h => absurd h hns
    cases cm with
    | non =>
      rcases List.mem_cons.mp hx with rfl | hx
      · exact ⟨e1, trivial, nv⟩
      · split at hx
        · rename_i hm
          rw [Bool.and_eq_true, decide_eq_true_iff] at hm
          rw [List.mem_singleton] at hx
          subst hx
          refine ⟨e1, ⟨by omega, ?_⟩, nv⟩
          rw [show X.length + ((-sh).toNat + 1) - 1 = M.length by omega]
          exact get_snoc M b
        · cases hx
    | snd c n =>
      obtain ⟨h1, h2⟩ := hc
      dsimp only at hx
      split at hx
      · rw [List.mem_singleton] at hx
        subst hx
        refine ⟨e1, ⟨by omega, ?_⟩, nv⟩
        rw [List.length_append, show M.length + [b].length + (n - 1) - 1 = M.length + n - 1 by simp only [List.length_cons, List.length_nil]; omega]
        exact h2
      · split at hx
        · rename_i hcb
          rw [List.mem_singleton] at hx
          subst hx
          refine ⟨e1, ⟨M.length, b, get_snoc M b, ?_⟩, nv⟩
          rw [show M.length + n - 1 = M.length by omega] at h2
          rw [h2, ne_not hcb]
        · cases hx
    | rcv c n =>
      obtain ⟨h1, h2⟩ := hc
      dsimp only at hx
      rw [List.mem_singleton] at hx
      subst hx
      exact ⟨e1, ⟨h1, get_app h2 _⟩, nv⟩
    | unl =>
      dsimp only at hx
      rw [List.mem_singleton] at hx
      subst hx
      have := Dif.app hc [b] []
      rw [List.append_nil] at this
      exact ⟨e1, this, nv⟩
theorem cntR_ok {sh : Int} {cm : Cm} {M X : List Bool} {b may : Bool} (hs : sh = (X.length : Int) - M.length) (hc : CR M X cm) {x : Int × Cm} (hx : x ∈ N.cntR sh cm b may) :
    x.1 = ((X ++ [b]).length : Int) - M.length ∧ CR M (X ++ [b]) x.2 ∧ (N.how = .shift → x.2 = .non) := by
  have e1 : sh + 1 = ((X ++ [b]).length : Int) - M.length := by rw [List.length_append, hs]; show _ = ((_ + 1 : Nat) : Int) - _; omega
  unfold cntR at hx
  split at hx
  · rw [List.mem_singleton] at hx
    subst hx
    exact ⟨e1, trivial, fun _ => rfl⟩
  · rename_i hns
    have nv : ∀ {c : Cm}, N.how = .shift → c = .non := fun h => absurd h hns
    cases cm with
    | non =>
      rcases List.mem_cons.mp hx with rfl | hx
      · exact ⟨e1, trivial, nv⟩
      · split at hx
        · rename_i hm
          rw [Bool.and_eq_true, decide_eq_true_iff] at hm
          rw [List.mem_singleton] at hx
          subst hx
          refine ⟨e1, ⟨by omega, ?_⟩, nv⟩
          rw [show M.length + (sh.toNat + 1) - 1 = X.length by omega]
          exact get_snoc X b
        · cases hx
    | rcv c n =>
      obtain ⟨h1, h2⟩ := hc
      dsimp only at hx
      split at hx
      · rw [List.mem_singleton] at hx
        subst hx
        refine ⟨e1, ⟨by omega, ?_⟩, nv⟩
        rw [List.length_append, show X.length + [b].length + (n - 1) - 1 = X.length + n - 1 by simp only [List.length_cons, List.length_nil]; omega]
        exact h2
      · split at hx
        · rename_i hcb
          rw [List.mem_singleton] at hx
          subst hx
          refine ⟨e1, ⟨X.length, c, ?_, ?_⟩, nv⟩
          · rw [show X.length + n - 1 = X.length by omega] at h2
            exact h2
          · rw [get_snoc, ne_not' hcb]
        · cases hx
    | snd c n =>
      obtain ⟨h1, h2⟩ := hc
      dsimp only at hx
      rw [List.mem_singleton] at hx
      subst hx
      exact ⟨e1, ⟨h1, get_app h2 _⟩, nv⟩
    | unl =>
      dsimp only at hx
      rw [List.mem_singleton] at hx
      subst hx
      have := Dif.app hc [] [b]
      rw [List.append_nil] at this
      exact ⟨e1, this, nv⟩
end Np
/-- what the receiver stands like behind q, while M was sent -/
inductive RI (N : Np) (M q : List Bool) : Rs → Prop
  | rd {X : List Bool} {sh : Int} {cm : Cm} : Part N.ss X q → NoF N.f q → sh = (X.length : Int) - M.length → CR M X cm → (N.how = .shift → cm = .non) → RI N M q ⟨N.side X q, brd N.f q, none, sh, cm⟩
  | cl {i c : Nat} {X : List Bool} {sh : Int} {cm : Cm} : 0 < c → c ≤ N.f.length → q.length = i + c → q.drop i = N.f.take c → (c < N.f.length → NoF N.f q) → (c = N.f.length → posM q N.f = some i ∧ N.how ≠ .cut) →
      Part N.ss X (q.take i) → putM N.ss (q.take i) = none → goodM N.p N.s X = true → sh = (X.length : Int) - M.length → CR M X cm → (N.how = .shift → cm = .non) → RI N M q ⟨N.side X (q.take i), brd N.f q, some c, sh, cm⟩
  | ct {i : Nat} {X : List Bool} {sh : Int} {cm : Cm} : N.how = .cut → posM q N.f = some i → Part N.ss X (q.take i) → putM N.ss (q.take i) = none → goodM N.p N.s X = true →
      (cm = .unl ∧ sh = 0 ∧ (X.length < M.length ∨ Dif M X)) ∨ (cm ≠ .unl ∧ 0 ≤ sh ∧ sh = (X.length : Int) - M.length ∧ CR M X cm) → RI N M q ⟨⟨[], [], 0⟩, 0, some (N.f.length + 1), sh, cm⟩
theorem posM_app {q f r : List Bool} {i : Nat} (hf : f ≠ []) (h : posM q f = some i) : posM (q ++ r) f = some i ∧ (q ++ r).take i = q.take i := by
  obtain ⟨h1, h2, h3⟩ := posM_some.mp h
  have hl := h2.length_le
  rw [List.length_drop] at hl
  have hf0 := List.length_pos_iff.mpr hf
  refine ⟨posM_some.mpr ⟨by rw [List.length_append]; omega, pre_ext h2 h1, fun k hk hp => ?_⟩, List.take_append_of_le_length h1⟩
  have := hp.length_le
  exact h3 k hk (pre_cut hp (by omega))
theorem posM_last {q f : List Bool} {b : Bool} {i : Nat} (hf : f ≠ []) (hn : NoF f q) (hl : (q ++ [b]).length = i + f.length) (hd : (q ++ [b]).drop i = f) : posM (q ++ [b]) f = some i := by
  refine posM_some.mpr ⟨by omega, by rw [hd]; exact List.prefix_refl _, fun k hk hp => ?_⟩
  have hl' : (q ++ [b]).length = q.length + 1 := by rw [List.length_append]; rfl
  exact hn k (pre_cut hp (by omega))
namespace Np
variable {N : Np}
theorem closed_ok {M q X : List Bool} {i : Nat} {sh : Int} {cm : Cm} (hw : N.how = .cut) (hp : posM q N.f = some i) (hX : Part N.ss X (q.take i)) (hn : putM N.ss (q.take i) = none) (hg : goodM N.p N.s X = true) (hs : sh = (X.length : Int) - M.length) (hc : CR M X cm) : RI N M q (N.closed sh cm) := by
  unfold closed
  by_cases c : sh < 0 ∨ cm = .unl
  · rw [if_pos c]
    refine .ct hw hp hX hn hg (.inl ⟨rfl, rfl, ?_⟩)
    rcases c with c | c
    · exact .inl (by omega)
    · subst c; exact .inr hc
  · rw [if_neg c]
    exact .ct hw hp hX hn hg (.inr ⟨fun z => c (.inr z), by have : ¬ sh < 0 := fun z => c (.inl z); omega, hs, hc⟩)
theorem hear_ok (ok : N.Ok) {M q : List Bool} {R R' : Rs} {b last may : Bool} (h : RI N M q R) (hr : R' ∈ N.hear R b last may) (hc : R.cl ≠ some N.f.length) : RI N M (q ++ [b]) R' := by
  have hne := ok.ne
  have f2 := ok.f2
  unfold hear at hr
  cases h with
  | @rd X sh cm hX hq hs hcr hsn =>
    rw [if_neg (by intro z; cases z)] at hr
    dsimp only at hr
    rw [brd_step] at hr
    rcases List.mem_append.mp hr with hr | hr
    · split at hr
      · cases hr
      · rename_i hnf
        have hq' : NoF N.f (q ++ [b]) := (nof_snoc hne).mpr ⟨hq, fun z => hnf (brd_full.mpr z)⟩
        unfold rdB at hr
        dsimp only at hr
        rw [put_side ok] at hr
        cases hp : putM N.ss q with
        | some c =>
          rw [hp] at hr
          dsimp only at hr
          split at hr
          · rename_i hbc
            rw [List.mem_singleton] at hr
            subst hr
            subst hbc
            rw [mv_put]
            exact .rd (hX.put hp) hq' hs hcr hsn
          · cases hr
        | none =>
          rw [hp] at hr
          obtain ⟨x, hx, rfl⟩ := List.mem_map.mp hr
          obtain ⟨e1, e2, e3⟩ := cntR_ok hs hcr hx
          rw [mv_own]
          exact .rd (hX.own hp) hq' e1 e2 e3
    · split at hr
      · rename_i hcond
        obtain ⟨hnf, hb, hg⟩ := hcond
        rw [List.mem_singleton] at hr
        subst hr
        obtain ⟨g1, g2⟩ := (good_side ok X q).mp hg
        have hq' : NoF N.f (q ++ [b]) := (nof_snoc hne).mpr ⟨hq, fun z => hnf (brd_full.mpr z)⟩
        have et : (q ++ [b]).take q.length = q := List.take_left
        have r := RI.cl (N := N) (M := M) (q := q ++ [b]) (i := q.length) (c := 1) (X := X) (sh := sh) (cm := cm) (by decide) (by omega) (by rw [List.length_append]; rfl) ?_ (fun _ => hq') (fun z => by omega) (by rw [et]; exact hX) (by rw [et]; exact g2) g1 hs hcr hsn
        · rw [et] at r
          exact r
        · rw [List.drop_left]
          cases hf : N.f with
          | nil => exact absurd hf hne
          | cons x r =>
            rw [hf] at hb
            cases hb
            rfl
      · cases hr
  | @cl i c X sh cm h0 hcf hl hd hn hfull hX hp hg hs hcr hsn =>
    have hc : c < N.f.length := by
      have : c ≠ N.f.length := fun z => hc (by rw [z])
      omega
    rw [if_neg (by intro z; have := Option.some.inj z; omega)] at hr
    dsimp only at hr
    rw [brd_step] at hr
    have hil : i ≤ q.length := by omega
    have et : (q ++ [b]).take i = q.take i := List.take_append_of_le_length hil
    split at hr
    · cases hr
    · rename_i hfc
      have hfc : N.f[c]? = some b := Classical.not_not.mp hfc
      have hd' : (q ++ [b]).drop i = N.f.take (c + 1) := by
        rw [List.drop_append_of_le_length hil, hd, takeSn hc]
        rw [List.getElem?_eq_getElem hc] at hfc
        rw [Option.some.inj hfc]
      have hl' : (q ++ [b]).length = i + (c + 1) := by rw [List.length_append, hl]; rfl
      split at hr
      · rename_i hlt
        split at hr
        · cases hr
        · rename_i hnf
          rw [List.mem_singleton] at hr
          subst hr
          have hq' : NoF N.f (q ++ [b]) := (nof_snoc hne).mpr ⟨hn hc, fun z => hnf (brd_full.mpr z)⟩
          have r := RI.cl (N := N) (M := M) (q := q ++ [b]) (i := i) (c := c + 1) (X := X) (sh := sh) (cm := cm) (by omega) (by omega) hl' hd' (fun _ => hq') (fun z => by omega) (by rw [et]; exact hX) (by rw [et]; exact hp) hg hs hcr hsn
          rw [et] at r
          exact r
      · rename_i hge
        have hce : c + 1 = N.f.length := by omega
        have hpos : posM (q ++ [b]) N.f = some i := posM_last hne (hn hc) (by rw [hl', hce]) (by rw [hd', hce, List.take_length])
        split at hr
        · split at hr
          · cases hr
          · rename_i hnc
            rw [List.mem_singleton] at hr
            subst hr
            have r := RI.cl (N := N) (M := M) (q := q ++ [b]) (i := i) (c := c + 1) (X := X) (sh := sh) (cm := cm) (by omega) (by omega) hl' hd' (fun z => by omega) (fun _ => ⟨hpos, hnc⟩) (by rw [et]; exact hX) (by rw [et]; exact hp) hg hs hcr hsn
            rw [et] at r
            exact r
        · split at hr
          · rename_i hcut
            rw [List.mem_singleton] at hr
            subst hr
            exact closed_ok hcut hpos (by rw [et]; exact hX) (by rw [et]; exact hp) hg hs hcr
          · cases hr
  | @ct i X sh cm hw hpos hX hp hg hrest =>
    rw [if_pos rfl, List.mem_singleton] at hr
    subst hr
    obtain ⟨p1, p2⟩ := posM_app (r := [b]) hne hpos
    exact .ct hw p1 (by rw [p2]; exact hX) (by rw [p2]; exact hp) hg hrest
end Np
end U

set_option maxRecDepth 100000
set_option maxHeartbeats 4000000
namespace U
/-! what a walk of the net tells: the whole walk -/
def msg (l : List Lab) : List Bool := l.filterMap (·.1)
def hitN (l : List Lab) : Nat := l.countP (·.2.isSome)
def hitF : Nat → List Lab → List (Nat × Kd)
  | _, [] => []
  | i, (_, none) :: r => hitF (i + 1) r
  | i, (_, some k) :: r => (i, k) :: hitF (i + 1) r
theorem msg_snoc (l : List Lab) (x : Lab) : msg (l ++ [x]) = msg l ++ (match x.1 with | none => [] | some b => [b]) := by
  unfold msg
  rw [List.filterMap_append]
  obtain ⟨a, k⟩ := x
  cases a <;> rfl
theorem hitN_snoc (l : List Lab) (x : Lab) : hitN (l ++ [x]) = hitN l + (if x.2.isSome then 1 else 0) := by
  unfold hitN
  rw [List.countP_append, List.countP_singleton]
theorem asc_mono : ∀ {hs : List (Nat × Kd)} {a b n : Nat}, a ≤ b → Asc b n hs → Asc a n hs
  | [], _, _, _, _, _ => trivial
  | (p, k) :: r, a, b, n, h, ⟨h1, h2, h3⟩ => ⟨Nat.le_trans h h1, h2, h3⟩
theorem hitF_asc : ∀ (l : List Lab) (i : Nat), Asc i (i + l.length) (hitF i l)
  | [], _ => trivial
  | (_, none) :: r, i => by
    have := hitF_asc r (i + 1)
    rw [show i + 1 + r.length = i + (r.length + 1) by omega] at this
    exact asc_mono (Nat.le_succ _) this
  | (_, some k) :: r, i => by
    have := hitF_asc r (i + 1)
    rw [show i + 1 + r.length = i + (r.length + 1) by omega] at this
    exact ⟨Nat.le_refl _, by simp, this⟩
theorem hitF_len : ∀ (l : List Lab) (i : Nat), (hitF i l).length = hitN l
  | [], _ => rfl
  | (_, none) :: r, i => by
    show (hitF (i + 1) r).length = _
    rw [hitF_len r]
    unfold hitN
    rw [List.countP_cons]
    rfl
  | (_, some k) :: r, i => by
    show (hitF (i + 1) r).length + 1 = _
    rw [hitF_len r]
    unfold hitN
    rw [List.countP_cons]
    rfl
theorem hitF_mem : ∀ {l : List Lab} {i : Nat} {x : Nat × Kd}, x ∈ hitF i l → ∃ y ∈ l, y.2 = some x.2
  | (_, none) :: r, i, x, h => by
    obtain ⟨y, h1, h2⟩ := hitF_mem (l := r) h
    exact ⟨y, List.mem_cons_of_mem _ h1, h2⟩
  | (a, some k) :: r, i, x, h => by
    rcases List.mem_cons.mp h with rfl | h
    · exact ⟨_, List.mem_cons_self, rfl⟩
    · obtain ⟨y, h1, h2⟩ := hitF_mem (l := r) h
      exact ⟨y, List.mem_cons_of_mem _ h1, h2⟩
theorem look_hitF : ∀ (l : List Lab) (i j : Nat), look (hitF i l) (i + j) = (l[j]?).bind (·.2)
  | [], _, _ => rfl
  | (a, none) :: r, i, 0 => by
    show look (hitF (i + 1) r) i = none
    exact look_lt (hitF_asc r (i + 1)) (by omega)
  | (a, none) :: r, i, j + 1 => by
    show look (hitF (i + 1) r) (i + (j + 1)) = (r[j]?).bind (·.2)
    rw [← look_hitF r (i + 1) j, show i + 1 + j = i + (j + 1) by omega]
  | (a, some k) :: r, i, 0 => look_head
  | (a, some k) :: r, i, j + 1 => by
    show look ((i, k) :: hitF (i + 1) r) (i + (j + 1)) = (r[j]?).bind (·.2)
    rw [look_cons (by omega), ← look_hitF r (i + 1) j, show i + 1 + j = i + (j + 1) by omega]
theorem go_arv {f : Nat → Option Kd} : ∀ {ks : List (Option Kd)} {ln : List Bool} {i : Nat}, ks.length = ln.length → (∀ j, j < ks.length → f (i + j) = (ks[j]?).join) → go f i ln = arv ks ln
  | [], [], _, _, _ => rfl
  | [], _ :: _, _, h, _ => by cases h
  | _ :: _, [], _, h, _ => by cases h
  | k :: ks, b :: ln, i, h, hf => by
    show sgn (f i) b ++ go f (i + 1) ln = sgn k b ++ arv ks ln
    have e0 := hf 0 (by simp)
    rw [Nat.add_zero] at e0
    rw [e0, go_arv (ks := ks) (by simpa using h) fun j hj => ?_]
    · rfl
    · have := hf (j + 1) (by simpa using hj)
      rw [show i + 1 + j = i + (j + 1) by omega, this]
      rfl
theorem hit_lab {l : List Lab} {ln : List Bool} (h : ln.length = l.length) : hitM ln 0 (hitF 0 l) = arv (l.map (·.2)) ln := by
  have ha := hitF_asc l 0
  rw [Nat.zero_add, ← h] at ha
  rw [hitM_all ln ha]
  refine go_arv (by rw [List.length_map, h]) fun j hj => ?_
  rw [look_hitF, List.getElem?_map]
  cases l[j]? <;> rfl
def tlF (f : List Bool) : Option Nat → List Bool
  | none => []
  | some j => f.take j
structure WI (N : Np) (st : Ns) (l : List Lab) (ln : List Bool) : Prop where
  len : ln.length = l.length
  part : Part N.ss (msg l) ln
  a : st.a = N.side (msg l) ln
  ks : ∀ x ∈ l, ∀ k, x.2 = some k → k ∈ N.ks
  h : st.h = hitN l
  hm : hitN l ≤ N.mh
  x : RI N (msg l) (arv (l.map (·.2)) ln ++ tlF N.f st.sent) st.x
  snt : ∀ j, st.sent = some j → j ≤ N.f.length ∧ putM N.ss ln = none ∧ goodM N.p N.s (msg l) = true
  fin : st.x.cl = some N.f.length → st.sent = some N.f.length
  ctj : ∀ j, st.x.cl = some (N.f.length + 1) → st.sent = some j → j < N.f.length
theorem RI.ext {N : Np} (ok : N.Ok) {M q : List Bool} {R : Rs} (h : RI N M q R) (hc : R.cl = some (N.f.length + 1)) (r : List Bool) : RI N M (q ++ r) R := by
  cases h with
  | rd => cases hc
  | cl _ hcf => have := Option.some.inj hc; omega
  | ct hw hpos hX hp hg hrest =>
    obtain ⟨p1, p2⟩ := posM_app (r := r) ok.ne hpos
    exact .ct hw p1 (by rw [p2]; exact hX) (by rw [p2]; exact hp) hg hrest
theorem RI.sender {N : Np} {M q : List Bool} {R : Rs} (h : RI N M q R) (hc : R.cl ≠ some (N.f.length + 1)) {b may : Bool} {x : Int × Cm} (hx : x ∈ N.cntS R.sh R.cm b may) : RI N (M ++ [b]) q ⟨R.b, R.read, R.cl, x.1, x.2⟩ := by
  cases h with
  | rd h1 h2 h3 h4 h5 =>
    obtain ⟨e1, e2, e3⟩ := Np.cntS_ok h3 h4 hx
    exact .rd h1 h2 e1 e2 e3
  | cl a1 a2 a3 a4 a5 a6 a7 a8 a9 h3 h4 h5 =>
    obtain ⟨e1, e2, e3⟩ := Np.cntS_ok h3 h4 hx
    exact .cl a1 a2 a3 a4 a5 a6 a7 a8 a9 e1 e2 e3
  | ct => exact absurd rfl hc
theorem RI.closedS {N : Np} {M q : List Bool} {R : Rs} (h : RI N M q R) (hc : R.cl = some (N.f.length + 1)) {b may : Bool} {x : Int × Cm} (hx : x ∈ N.cntS R.sh R.cm b may) : RI N (M ++ [b]) q (N.closed x.1 x.2) := by
  cases h with
  | rd => cases hc
  | cl _ hcf => have := Option.some.inj hc; omega
  | @ct i X sh cm hw hpos hX hp hg hrest =>
    rcases hrest with ⟨r1, r2, r3⟩ | ⟨r1, r2, r3, r4⟩
    · subst r1
      have hns : N.how ≠ .shift := by rw [hw]; intro z; cases z
      unfold Np.cntS at hx
      rw [if_neg hns] at hx
      dsimp only at hx
      rw [List.mem_singleton] at hx
      subst hx
      unfold Np.closed
      rw [if_pos (.inr rfl)]
      refine .ct hw hpos hX hp hg (.inl ⟨rfl, rfl, ?_⟩)
      rcases r3 with r3 | r3
      · left; rw [List.length_append]; omega
      · right
        have := r3.app [b] []
        rw [List.append_nil] at this
        exact this
    · obtain ⟨e1, e2, e3⟩ := Np.cntS_ok r3 r4 hx
      exact Np.closed_ok hw hpos hX hp hg e1 e2
theorem RI.closedP {N : Np} {M q : List Bool} {R : Rs} (h : RI N M q R) (hc : R.cl = some (N.f.length + 1)) : N.closed R.sh R.cm = R := by
  cases h with
  | rd => cases hc
  | cl _ hcf => have := Option.some.inj hc; omega
  | @ct i X sh cm hw hpos hX hp hg hrest =>
    unfold Np.closed
    rcases hrest with ⟨r1, r2, r3⟩ | ⟨r1, r2, r3, r4⟩
    · subst r1; subst r2
      rw [if_pos (.inr rfl)]
    · rw [if_neg (by intro z; rcases z with z | z; exact absurd z (by dsimp only; omega); exact r1 z)]
namespace Np
variable {N : Np}
theorem hear_nl (ok : N.Ok) {R R' : Rs} {b may : Bool} (hr : R' ∈ N.hear R b false may) (hc : R.cl ≠ some N.f.length) : R'.cl ≠ some N.f.length := by
  have f2 := ok.f2
  unfold hear at hr
  split at hr
  · rw [List.mem_singleton] at hr; subst hr; exact hc
  · dsimp only at hr
    split at hr
    · rcases List.mem_append.mp hr with hr | hr
      · split at hr
        · cases hr
        · unfold rdB at hr
          split at hr
          · split at hr
            · rw [List.mem_singleton] at hr; subst hr; intro z; cases z
            · cases hr
          · obtain ⟨x, _, rfl⟩ := List.mem_map.mp hr
            intro z; cases z
      · split at hr
        · rw [List.mem_singleton] at hr; subst hr
          intro z; have := Option.some.inj z; omega
        · cases hr
    · split at hr
      · cases hr
      · split at hr
        · split at hr
          · cases hr
          · rw [List.mem_singleton] at hr; subst hr
            intro z; have := Option.some.inj z; omega
        · rw [if_neg (by decide)] at hr
          split at hr
          · rw [List.mem_singleton] at hr; subst hr
            unfold closed
            split
            · intro z; have := Option.some.inj z; omega
            · intro z; have := Option.some.inj z; omega
          · cases hr
theorem hearAll_ok (ok : N.Ok) {M : List Bool} {may : Bool} : ∀ (bits : List Bool) {q : List Bool} {rs : List Rs}, (∀ R ∈ rs, RI N M q R ∧ R.cl ≠ some N.f.length) →
    ∀ R' ∈ bits.foldl (fun rs b => rs.flatMap fun R => N.hear R b false may) rs, RI N M (q ++ bits) R' ∧ R'.cl ≠ some N.f.length
  | [], q, rs, h, R', hr => by rw [List.append_nil]; exact h R' hr
  | b :: bits, q, rs, h, R', hr => by
    refine (fun this => ?_) (hearAll_ok (M := M) (may := may) ok bits (q := q ++ [b]) (rs := rs.flatMap fun R => N.hear R b false may) (fun R hR => ?_) R' hr)
    · rw [List.append_assoc] at this
      exact this
    · obtain ⟨R0, h0, h1⟩ := List.mem_flatMap.mp hR
      obtain ⟨a1, a2⟩ := h R0 h0
      exact ⟨hear_ok ok a1 h1 a2, hear_nl ok h1 a2⟩
end Np
theorem RI.clNil {N : Np} {M q : List Bool} {R : Rs} (h : RI N M q R) {c : Nat} (hc : R.cl = some c) : c ≤ N.f.length + 1 := by
  cases h with
  | rd => cases hc
  | cl _ hcf => have := Option.some.inj hc; omega
  | ct => have := Option.some.inj hc; omega
theorem WI.first (N : Np) (ok : N.Ok) : WI N N.first [] [] := by
  refine ⟨rfl, .nil, Np.begun_side, fun x hx => absurd hx (by simp), rfl, Nat.zero_le _, ?_, fun j hj => ?_, ?_, ?_⟩
  · show RI N [] [] ⟨N.begun, 0, none, 0, .non⟩
    have r := RI.rd (N := N) (M := []) (q := []) (X := []) (sh := 0) (cm := .non) .nil (nof_nil ok.ne) rfl trivial (fun _ => rfl)
    rw [brd_nil, ← Np.begun_side] at r
    exact r
  · cases hj
  · intro z; cases z
  · intro j _ z; cases z
/-- a bit of the line -/
theorem WI.bit {N : Np} (ok : N.Ok) {st : Ns} {l : List Lab} {ln : List Bool} (wi : WI N st l ln) (hs : st.sent = none) {b m : Bool} (hp : putM N.ss ln = if m then none else some b) {mv : Mv} (hm : mv ∈ N.bitMoves st b m) :
    mv.w = m ∧ mv.bit = (if m then some b else none) ∧ mv.to.sent = none ∧ WI N mv.to (l ++ [(mv.bit, mv.kd)]) (ln ++ [b]) := by
  have hx := wi.x
  rw [hs] at hx
  have hx : RI N (msg l) (arv (l.map (·.2)) ln) st.x := by
    have e : tlF N.f none = [] := rfl
    rw [e, List.append_nil] at hx
    exact hx
  have hnf : st.x.cl ≠ some N.f.length := fun z => by have := wi.fin z; rw [hs] at this; cases this
  obtain ⟨⟨k, bits⟩, hk, hm⟩ := List.mem_flatMap.mp hm
  unfold Np.bitMove at hm
  obtain ⟨x, hxm, hm⟩ := List.mem_flatMap.mp hm
  obtain ⟨R, hR, rfl⟩ := List.mem_map.mp hm
  refine ⟨rfl, rfl, hs, ?_⟩
  have emsg : msg (l ++ [((if m then some b else none), k)]) = if m then msg l ++ [b] else msg l := by
    rw [msg_snoc]
    cases m
    · exact List.append_nil _
    · rfl
  -- what is heard
  have main : RI N (if m then msg l ++ [b] else msg l) (arv (l.map (·.2)) ln ++ sgn k b) R ∧ R.cl ≠ some N.f.length ∧ (∀ c, k = some c → c ∈ N.ks) ∧ st.h + (if k.isSome then 1 else 0) ≤ N.mh := by
    by_cases hc : st.x.cl = some (N.f.length + 1)
    · rw [if_pos hc] at hk
      rw [List.mem_singleton] at hk
      cases hk
      rw [decide_eq_true hc, if_pos rfl] at hR
      have hR : R = N.closed x.1 x.2 := by
        have hR : R ∈ [N.closed x.1 x.2] := hR
        exact List.mem_singleton.mp hR
      have base : RI N (if m then msg l ++ [b] else msg l) (arv (l.map (·.2)) ln) R := by
        rw [hR]
        cases m with
        | true => exact hx.closedS hc hxm
        | false =>
          rw [if_neg (by decide), List.mem_singleton] at hxm
          subst hxm
          rw [hx.closedP hc]
          exact hx
      have hRc : R.cl = some (N.f.length + 1) := by
        rw [hR]
        unfold Np.closed
        split <;> rfl
      refine ⟨base.ext ok hRc _, by rw [hRc]; intro z; have := Option.some.inj z; omega, fun c z => (by cases z), ?_⟩
      show st.h + 0 ≤ _
      rw [wi.h]
      exact wi.hm
    · rw [if_neg hc] at hk
      rw [decide_eq_false hc, if_neg (by decide)] at hR
      have base : RI N (if m then msg l ++ [b] else msg l) (arv (l.map (·.2)) ln) ⟨st.x.b, st.x.read, st.x.cl, x.1, x.2⟩ := by
        cases m with
        | true => exact hx.sender hc hxm
        | false =>
          rw [if_neg (by decide), List.mem_singleton] at hxm
          subst hxm
          exact hx
      have hh := Np.hearAll_ok ok bits (q := arv (l.map (·.2)) ln) (rs := [⟨st.x.b, st.x.read, st.x.cl, x.1, x.2⟩]) (fun R0 h0 => by
        rw [List.mem_singleton] at h0
        subst h0
        exact ⟨base, hnf⟩) R hR
      unfold Np.noises at hk
      have ek : bits = sgn k b ∧ (∀ c, k = some c → c ∈ N.ks) ∧ st.h + (if k.isSome then 1 else 0) ≤ N.mh := by
        rcases List.mem_cons.mp hk with hk | hk
        · cases hk
          refine ⟨rfl, fun c z => (by cases z), ?_⟩
          show st.h + 0 ≤ _
          rw [wi.h]
          exact wi.hm
        · split at hk
          · rename_i hlt
            obtain ⟨c, hc1, hc2⟩ := List.mem_map.mp hk
            cases hc2
            exact ⟨rfl, fun d z => by cases z; exact hc1, hlt⟩
          · cases hk
      rw [← ek.1]
      exact ⟨hh.1, hh.2, ek.2⟩
  obtain ⟨m1, m2, m3, m4⟩ := main
  have ea : arv ((l ++ [((if m then some b else none), k)]).map (·.2)) (ln ++ [b]) = arv (l.map (·.2)) ln ++ sgn k b := by
    rw [List.map_append]
    exact arv_snoc (by rw [List.length_map, wi.len]) k b
  refine ⟨by rw [List.length_append, List.length_append, wi.len]; rfl, ?_, ?_, ?_, ?_, ?_, ?_, ?_, fun z => absurd z m2, ?_⟩
  · dsimp only
    rw [emsg]
    cases m with
    | true => exact wi.part.own hp
    | false => exact wi.part.put hp
  · show N.mv st.a b m = _
    dsimp only
    rw [wi.a, emsg]
    cases m with
    | true => exact Np.mv_own _ _ _
    | false => exact Np.mv_put _ _ _
  · intro y hy c hc
    rcases List.mem_append.mp hy with hy | hy
    · exact wi.ks y hy c hc
    · rw [List.mem_singleton] at hy
      subst hy
      exact m3 c hc
  · show st.h + _ = _
    rw [hitN_snoc, wi.h]
  · rw [hitN_snoc, ← wi.h]
    exact m4
  · show RI N _ (arv _ _ ++ tlF N.f st.sent) R
    dsimp only
    rw [emsg, ea, hs]
    show RI N _ (_ ++ []) R
    rw [List.append_nil]
    exact m1
  · intro j hj
    rw [show (Ns.sent ⟨N.mv st.a b m, st.sent, R, _⟩) = st.sent from rfl, hs] at hj
    cases hj
  · intro j _ hj
    rw [show (Ns.sent ⟨N.mv st.a b m, st.sent, R, _⟩) = st.sent from rfl, hs] at hj
    cases hj
theorem take_snocD {f : List Bool} {j : Nat} (h : j < f.length) : f.take (j + 1) = f.take j ++ [f.getD j false] := by
  rw [takeSn h]
  simp [h]
/-- a bit of the flag -/
theorem WI.flag {N : Np} (ok : N.Ok) {st : Ns} {l : List Lab} {ln : List Bool} (wi : WI N st l ln) {mv : Mv} (hm : mv ∈ N.flagMoves st) : mv.w = false ∧ mv.to.sent ≠ none ∧ WI N mv.to l ln := by
  unfold Np.flagMoves at hm
  cases hs : st.sent with
  | none => rw [hs] at hm; cases hm
  | some j =>
    rw [hs] at hm
    dsimp only at hm
    split at hm
    · cases hm
    · rename_i hc
      obtain ⟨R, hR, rfl⟩ := List.mem_map.mp hm
      obtain ⟨s1, s2, s3⟩ := wi.snt j hs
      have hj : j < N.f.length := by
        have : j ≠ N.f.length := fun z => hc (.inl z)
        omega
      have hx := wi.x
      rw [hs] at hx
      have hx : RI N (msg l) (arv (l.map (·.2)) ln ++ N.f.take j) st.x := hx
      have hnf : st.x.cl ≠ some N.f.length := fun z => by have := wi.fin z; rw [hs] at this; have := Option.some.inj this; omega
      have hR : R ∈ ([st.x].flatMap fun R => N.hear R (N.f.getD j false) (decide (j + 1 = N.f.length)) (decide (0 < st.h))) := hR
      rw [List.flatMap_cons, List.flatMap_nil, List.append_nil] at hR
      have hh := Np.hear_ok ok hx hR hnf
      rw [List.append_assoc, ← take_snocD hj] at hh
      refine ⟨rfl, nofun, wi.len, wi.part, wi.a, wi.ks, wi.h, wi.hm, hh, fun j' hj' => ?_, fun z => ?_, fun j' hc' hj' => ?_⟩
      · have : j + 1 = j' := Option.some.inj hj'
        exact ⟨by omega, s2, s3⟩
      · show some (j + 1) = some N.f.length
        by_cases hl : j + 1 = N.f.length
        · rw [hl]
        · rw [decide_eq_false hl] at hR
          exact absurd z (Np.hear_nl ok hR hnf)
      · have e : j + 1 = j' := Option.some.inj hj'
        by_cases hl : j + 1 = N.f.length
        · -- the last bit cuts nothing
          rw [decide_eq_true hl] at hR
          exfalso
          unfold Np.hear at hR
          rw [if_neg (fun z => hc (.inr z))] at hR
          dsimp only at hR hc'
          split at hR
          · rcases List.mem_append.mp hR with hR | hR
            · split at hR
              · cases hR
              · unfold Np.rdB at hR
                split at hR
                · split at hR
                  · rw [List.mem_singleton] at hR; subst hR; cases hc'
                  · cases hR
                · obtain ⟨x, _, rfl⟩ := List.mem_map.mp hR
                  cases hc'
            · split at hR
              · rw [List.mem_singleton] at hR; subst hR
                have := Option.some.inj hc'; have := ok.f2; omega
              · cases hR
          · rename_i c hcl
            split at hR
            · cases hR
            · split at hR
              · split at hR
                · cases hR
                · rw [List.mem_singleton] at hR; subst hR
                  have := Option.some.inj hc'; omega
              · rw [if_pos rfl] at hR
                split at hR
                · cases hR
                · rw [List.mem_singleton] at hR; subst hR
                  have e1 : c + 1 = N.f.length + 1 := Option.some.inj hc'
                  exact hnf (by rw [hcl]; congr 1; omega)
        · omega
theorem WI.moves {N : Np} (ok : N.Ok) {st : Ns} {l : List Lab} {ln : List Bool} (wi : WI N st l ln) {mv : Mv} (hm : mv ∈ N.moves st) :
    (msg (if st.sent = none ∧ mv.to.sent = none then l ++ [(mv.bit, mv.kd)] else l)).length = (msg l).length + (if mv.w then 1 else 0) ∧ ∃ ln', WI N mv.to (if st.sent = none ∧ mv.to.sent = none then l ++ [(mv.bit, mv.kd)] else l) ln' := by
  unfold Np.moves at hm
  cases hs : st.sent with
  | some j =>
    rw [hs] at hm
    obtain ⟨h1, h2, h3⟩ := wi.flag ok hm
    rw [if_neg (fun z => by cases z.1), h1]
    exact ⟨rfl, ln, h3⟩
  | none =>
    rw [hs] at hm
    dsimp only at hm
    have key : ∀ {b m : Bool}, putM N.ss ln = (if m then none else some b) → mv ∈ N.bitMoves st b m → (msg (if (none : Option Nat) = none ∧ mv.to.sent = none then l ++ [(mv.bit, mv.kd)] else l)).length = (msg l).length + (if mv.w then 1 else 0) ∧ ∃ ln', WI N mv.to (if (none : Option Nat) = none ∧ mv.to.sent = none then l ++ [(mv.bit, mv.kd)] else l) ln' := fun hp hmv => by
      obtain ⟨h1, h2, h3, h4⟩ := wi.bit ok hs hp hmv
      rw [if_pos ⟨rfl, h3⟩]
      refine ⟨?_, _, h4⟩
      rw [msg_snoc, h1, h2]
      rename_i b m
      cases m
      · show (msg l ++ []).length = _
        rw [List.append_nil]; rfl
      · rw [List.length_append]; rfl
    have ep : N.put st.a = putM N.ss ln := by rw [wi.a, Np.put_side ok]
    rw [ep] at hm
    cases hp : putM N.ss ln with
    | some c =>
      rw [hp] at hm
      exact key (m := false) hp hm
    | none =>
      rw [hp] at hm
      dsimp only at hm
      rcases List.mem_append.mp hm with hm | hm
      · rcases List.mem_append.mp hm with hm | hm
        · exact key (m := true) hp hm
        · exact key (m := true) hp hm
      · split at hm
        · rename_i hg
          rw [List.mem_singleton] at hm
          subst hm
          rw [if_neg (fun z => by cases z.2)]
          have g := hg
          rw [wi.a, Np.good_side ok] at g
          have hx := wi.x
          rw [hs] at hx
          refine ⟨rfl, ln, wi.len, wi.part, wi.a, wi.ks, wi.h, wi.hm, hx, fun j hj => ?_, fun z => ?_, fun j _ hj => ?_⟩
          · have : 0 = j := Option.some.inj hj
            exact ⟨by omega, hp, g.1⟩
          · have := wi.fin z
            rw [hs] at this
            cases this
          · have : 0 = j := Option.some.inj hj
            have := ok.f2
            omega
        · cases hm
theorem wlk_wi {N : Np} (ok : N.Ok) {st : Ns} {n : Nat} {l : List Lab} (h : Wlk N st n l) : (msg l).length = n ∧ ∃ ln, WI N st l ln := by
  induction h with
  | nil => exact ⟨rfl, [], WI.first N ok⟩
  | step _ hm ih =>
    obtain ⟨e, ln, wi⟩ := ih
    obtain ⟨h1, h2⟩ := wi.moves ok hm
    exact ⟨by rw [h1, e], h2⟩
/-- what is unseen: the message, the line that arrives with its flag -/
def UnsL (N : Np) (M raw : List Bool) : Prop := ∃ (i : Nat) (X : List Bool), posM raw N.f = some i ∧ Part N.ss X (raw.take i) ∧ putM N.ss (raw.take i) = none ∧ goodM N.p N.s X = true ∧ X ≠ M ∧
  (match N.how with | .cut => i + N.f.length < raw.length | .same => i + N.f.length = raw.length ∧ X.length = M.length | .shift => i + N.f.length = raw.length ∧ X.length ≠ M.length)
def Uns (N : Np) (M : List Bool) (hs : List (Nat × Kd)) : Prop := goodM N.p N.s M = true ∧ hs.length ≤ N.mh ∧ (∀ x ∈ hs, x.2 ∈ N.ks) ∧ ∃ ln, Part N.ss M ln ∧ putM N.ss ln = none ∧ Asc 0 ln.length hs ∧ UnsL N M (hitM ln 0 hs ++ N.f)
theorem wlk_sound {N : Np} (ok : N.Ok) {st : Ns} {n : Nat} {l : List Lab} (h : Wlk N st n l) (hu : N.unseen st = true) : (msg l).length = n ∧ Uns N (msg l) (hitF 0 l) := by
  obtain ⟨e, ln, wi⟩ := wlk_wi ok h
  have f2 := ok.f2
  have ha := hitF_asc l 0
  rw [Nat.zero_add, ← wi.len] at ha
  have hx := wi.x
  unfold Np.unseen at hu
  dsimp only at hu
  split at hu
  · rename_i hcut
    rw [Bool.and_eq_true, Bool.and_eq_true, decide_eq_true_iff, decide_eq_true_iff] at hu
    obtain ⟨⟨u1, u2⟩, u3⟩ := hu
    cases hs : st.sent with
    | none => exact absurd hs u1
    | some j =>
      obtain ⟨s1, s2, s3⟩ := wi.snt j hs
      have hj := wi.ctj j u2 hs
      refine ⟨e, s3, by rw [hitF_len]; exact wi.hm, fun x hx => ?_, ln, wi.part, s2, ha, ?_⟩
      · obtain ⟨y, h1, h2⟩ := hitF_mem hx
        exact wi.ks y h1 _ h2
      · rw [hs] at hx
        have hx : RI N (msg l) (arv (l.map (·.2)) ln ++ N.f.take j) st.x := hx
        rw [hit_lab wi.len]
        have eq : arv (l.map (·.2)) ln ++ N.f = (arv (l.map (·.2)) ln ++ N.f.take j) ++ N.f.drop j := by rw [List.append_assoc, List.take_append_drop]
        generalize hq : arv (l.map (·.2)) ln ++ N.f.take j = q at hx eq
        generalize hR : st.x = R at hx u2 u3
        cases hx with
        | rd => cases u2
        | cl _ hcf => have := Option.some.inj u2; omega
        | @ct i X sh cm hw hpos hX hp hg hrest =>
          obtain ⟨p1, p2⟩ := posM_app (r := N.f.drop j) ok.ne hpos
          rw [eq]
          refine ⟨i, X, p1, by rw [p2]; exact hX, by rw [p2]; exact hp, hg, ?_, ?_⟩
          · rcases hrest with ⟨r1, r2, r3⟩ | ⟨r1, r2, r3, r4⟩
            · rcases r3 with r3 | r3
              · intro z; rw [z] at r3; omega
              · exact fun z => r3.ne z.symm
            · rw [Bool.or_eq_true, decide_eq_true_iff, decide_eq_true_iff] at u3
              rcases u3 with u3 | u3
              · exact absurd u3 r1
              · intro z
                refine u3 ?_
                dsimp only
                rw [r3, z]
                omega
          · rw [hcut]
            dsimp only
            have hpl := (posM_some.mp hpos).2.1.length_le
            rw [List.length_drop] at hpl
            have := (posM_some.mp hpos).1
            rw [List.length_append, List.length_drop]
            omega
  · rename_i hncut
    split at hu
    · cases hu
    · rename_i hends
      have u1 : st.sent = some N.f.length := Classical.not_not.mp fun z => hends (.inl z)
      have u2 : st.x.cl = some N.f.length := Classical.not_not.mp fun z => hends (.inr z)
      obtain ⟨s1, s2, s3⟩ := wi.snt _ u1
      refine ⟨e, s3, by rw [hitF_len]; exact wi.hm, fun x hx => ?_, ln, wi.part, s2, ha, ?_⟩
      · obtain ⟨y, h1, h2⟩ := hitF_mem hx
        exact wi.ks y h1 _ h2
      · rw [u1] at hx
        have hx : RI N (msg l) (arv (l.map (·.2)) ln ++ N.f.take N.f.length) st.x := hx
        rw [List.take_length] at hx
        rw [hit_lab wi.len]
        generalize hq : arv (l.map (·.2)) ln ++ N.f = q at hx
        generalize hR : st.x = R at hx u2 hu
        cases hx with
        | rd => cases u2
        | ct => have := Option.some.inj u2; omega
        | @cl i c X sh cm h0 hcf hl hd hn hfull hX hp hg hss hcr hsn =>
          have ec : c = N.f.length := Option.some.inj u2
          subst ec
          obtain ⟨p1, p2⟩ := hfull rfl
          refine ⟨i, X, p1, hX, hp, hg, ?_, ?_⟩
          · split at hu
            · rw [decide_eq_true_iff] at hu
              intro z
              refine hu ?_
              dsimp only
              rw [hss, z]
              omega
            · rw [Bool.and_eq_true, decide_eq_true_iff, decide_eq_true_iff] at hu
              obtain ⟨v1, v2⟩ := hu
              dsimp only at v1
              subst v1
              exact fun z => Dif.ne hcr z.symm
          · cases hw : N.how with
            | cut => exact absurd hw hncut
            | same =>
              rw [hw, if_neg (by decide)] at hu
              rw [Bool.and_eq_true, decide_eq_true_iff, decide_eq_true_iff] at hu
              have := hu.2
              dsimp only at this ⊢
              exact ⟨by omega, by omega⟩
            | shift =>
              rw [hw, if_pos rfl, decide_eq_true_iff] at hu
              dsimp only at hu ⊢
              exact ⟨by omega, by omega⟩
end U

set_option maxRecDepth 100000
set_option maxHeartbeats 4000000
set_option pp.maxSteps 700
namespace U
open PySem PySem.Spec PyProof.Rows
open L2 hiding Fun CX0 E0 pass0 Fun.binds
open C8 Lx SX StX
/-! what the counting laws need of the nets' words, without the nets -/
def howS : How → Str
  | .cut => "cut"
  | .same => "same"
  | .shift => "shift"
theorem howS_inj {a b : How} (h : howS a = howS b) : a = b := by
  cases a <;> cases b <;> first | rfl | (exact absurd h (by decide +kernel))
def HtAt (H : Hp) (t : Addr) (x : Nat × Kd) : Prop := H t = some (.tup [.int (x.1 : Nat), .str (kS x.2)])
def mkN (f : List Bool) (ss : List Stf) (p s : List Bool) (ks : List Kd) (mh : Nat) (how : How) : Np := ⟨f, ss, longM ss, p, s, ks, mh, how⟩
def KvAt (H : Hp) (v : V) (ks : List Kd) : Prop := ∃ q, v = .ref q ∧ (H q = some (.lst (ks.map fun k => .str (kS k))) ∨ H q = some (.tup (ks.map fun k => .str (kS k))))
theorem KvAt.same {H H' : Hp} {v : V} {ks : List Kd} (h : KvAt H v ks) (s : Same H H') : KvAt H' v ks := by
  obtain ⟨q, e, h⟩ := h
  exact ⟨q, e, h.imp (fun z => s _ _ z) fun z => s _ _ z⟩
def howsL : Option How → List How
  | none => [.cut, .same, .shift]
  | some h => [h]
def hAS : Option How → Str
  | none => "any"
  | some h => howS h
abbrev Fnd3 := Option (Nat × List Bool × List (Nat × Kd))
def LstU (N : How → Np) (hows : List How) : Fnd3 → Prop
  | none => ∀ how ∈ hows, ∀ M hs, ¬ Uns (N how) M hs
  | some (n, M, hs) => (∃ how ∈ hows, Uns (N how) M hs) ∧ M.length = n ∧ ∀ how ∈ hows, ∀ M' hs', Uns (N how) M' hs' → n ≤ M'.length
def spWaysOf (K : PySem.W.Frag) : Sp := fun vs H Q _ => ∃ x : Option How, vs = [.str (hAS x)] ∧ ∀ t H', Same H H' → (∀ H2, Same H' H2 → SqT K H2 t ((howsL x).map fun h => .str (howS h))) → Q (.ref t) H'
theorem eWn (l : List Bool) : Str.empty ++ W l = W l := by
  refine TL.ext_tl ?_
  rw [TL.tl_append]
  rfl
theorem posM_max {q f : List Bool} {i : Nat} (h : posM q f = some i) : i + f.length ≤ q.length := by
  obtain ⟨h1, h2, _⟩ := posM_some.mp h
  have := h2.length_le
  rw [List.length_drop] at this
  omega
theorem uns_len {N : Np} {M : List Bool} {hs : List (Nat × Kd)} (u : Uns N M hs) : N.s.length ≤ M.length := by
  have h := u.1
  unfold goodM at h
  rw [Bool.and_eq_true] at h
  exact of_decide_eq_true h.1
section
variable {P : Program} {w : World} {K : PySem.W.Frag} {mg : Str → Option Value} {base : Heap}
theorem sc_ways_of : FnScope ["how"] ["how"] (fnScope s_ways_of) := fnScope_by (by decide +kernel)
theorem cal_ways_of {f aWAYS : Addr} {fd : FuncData} (F : Def K mg "ways_of" s_ways_of f fd) (b : Binds K fd ["how"] []) (T : Tx mg) (g_WAYS : mg "WAYS" = some (.ref aWAYS)) (hWY : ∀ H, SqT K H aWAYS [.str "cut", .str "same", .str "shift"]) : Cal P w K mg base 1 "ways_of" (spWaysOf K) [] := by
  refine cal0 F b .nil sc_ways_of (fun vs H Q E h => ?_) (fun cdv A outer s H vs Q E hr h => ?_)
  · obtain ⟨_, rfl, _⟩ := h; rfl
  · obtain ⟨x, rfl, k⟩ := h
    refine ⟨_, (pss_one (ps_ret (pe_ifExp (pt_cmpR op_eq (pv 0) pe_str (nomark _)) (pe_glob (v := .ref aWAYS) (by rfl) g_WAYS rfl) (pe_tup (pa_cons (pv 0) pa_nil))))), ?_⟩
    refine ⟨_, rfl, rfl, _, rfl, ?_⟩
    cases x with
    | none => exact iteBT (decide_eq_true rfl) (k aWAYS H (Same.refl H) fun H2 _ => hWY H2)
    | some h =>
      refine iteBF (decide_eq_false fun z => ?_) ⟨_, rfl, by show 1 ≤ sizeLine; decide, fun t nt => k t _ (same_upd nt) fun H2 s2 => SqT.of (s2 _ _ upd_same)⟩
      have := V.str.inj z
      cases h <;> exact absurd this (by decide +kernel)
end
end U

set_option maxRecDepth 100000
set_option maxHeartbeats 4000000
namespace U
open PySem PySem.Spec PyProof.Rows
open L2 hiding Fun CX0 E0 pass0 Fun.binds
open C8 Lx SX
/-- _law_word(box, few, many) -/
def spWordF : Sp := fun vs H Q _ => ∃ (b : Addr) (few many : Nat), vs = [.ref b, .int few, .int many] ∧ Box H b ∧ few ≤ many ∧ many < 1000 ∧
  ∀ (l : List Bool) H', few ≤ l.length → l.length ≤ many → Up b H H' → Q (.str (W l)) H'
section
variable {P : Program} {w : World} {K : PySem.W.Frag} {mg : Str → Option Value} {base : Heap}
theorem sc_l_word : FnScope ["_law_box", "_law_few", "_law_many", "_law_turn"] ["_law_box", "_law_few", "_law_many"] (fnScope s_l_word) := fnScope_by (by decide +kernel)
theorem cal_l_word {f : Addr} {fd : FuncData} (F : Def K mg "_law_word" s_l_word f fd) (b : Binds K fd ["_law_box", "_law_few", "_law_many"] []) (T : Tx mg)
    (c_l_choose : Cal P w K mg base 1 "_law_choose" spChoose []) (c_l_one_of : Cal P w K mg base 2 "_law_one_of" spOneOf []) : Cal P w K mg base 3 "_law_word" spWordF [] := by
  refine cal0 F b .nil sc_l_word (fun vs H Q E h => ?_) (fun cdv A outer s H vs Q E hr h => ?_)
  · obtain ⟨_, _, _, rfl, _⟩ := h; rfl
  · obtain ⟨bx, few, many, rfl, hb, h1, h2, k⟩ := h
    refine ⟨_, (pss_one (ps_ret (pe_join pe_str (pe_lc (own := [("_law_turn", 3)]) (g := gName 3) (by rfl) sc_l_word.nd (pi_range1 (by rfl) T.b_range (pa_cons (pe_op op_add (pv 1) (pe_c c_l_choose hr (by decide) rfl (pa_cons (pv 0) (pa_cons (pe_op op_add (pe_op op_sub (pv 2) (pv 1)) pe_int) pa_nil)))) pa_nil)) (blkOk_by (own := [("_law_turn", 3)]) (N := ["_law_box", "_law_few", "_law_many", "_law_turn"]) (sc := fnScope s_l_word) (by decide +kernel)) (fun _ _ _ _ _ => (pg_name (i := 3) sc_l_word.nd rfl (.inl rfl))) (fun _ _ _ _ _ => pts_nil) (fun _ _ _ _ _ => (pe_c c_l_one_of hr (by decide) rfl (pa_cons (pv 0) (pa_cons (pe_lst (pa_cons pe_str (pa_cons pe_str pa_nil))) pa_nil)))))))), ?_⟩
    refine ⟨⟨_, rfl⟩, ?_⟩
    refine ⟨_, rfl, _, rfl, _, rfl, _, rfl, _, _, rfl, rfl, _, _, rfl, rfl, bx, _, rfl, hb, (by omega), (by omega), fun d H1 d0 d1 u1 => ?_⟩
    refine ⟨_, _, rfl, rfl, _, rfl, by omega, by omega, fun D nD => ?_⟩
    have nb : D ≠ bx := u1.2.ne nD
    refine lc_it (walk_range (lo := 0) (n := ((few : Int) + d).toNat)) (fun i H2 => ∃ l : List Bool, l.length = i ∧ Up bx H H2 ∧ H2 D = some (.lst (bitsV l)))
      ⟨[], rfl, u1.mut (u1.free nD) nb, upd_same⟩ (fun _ _ _ _ => trivial) ?_ ?_
    · rintro i x H2 H3 hi ⟨l, rfl, u2, hD⟩ ⟨rfl, rfl⟩
      refine ⟨rfl, ?_⟩
      refine ⟨_, rfl, by show 2 ≤ sizeLine; decide, fun p hp => ?_⟩
      have np : p ≠ bx := u2.2.ne hp
      refine ⟨bx, p, _, rfl, u2.2.same (same_upd hp), upd_same, np, by decide, by decide, fun v H4 hv u4 => ?_⟩
      obtain ⟨b, rfl⟩ := mem2 hv
      have hD4 : H4 D = some (.lst (bitsV l)) := u4.1 _ _ (same_upd hp _ _ hD) nb
      refine ⟨_, hD4, ?_, l ++ [b], by simp, ?_, ?_⟩
      · unfold bitsV; rw [List.length_map, List.length_map]; exact sl_lt (by omega)
      · exact ((u2.same (same_upd hp)).trans u4).mut (u1.free nD) nb
      · rw [upd_same]; unfold bitsV; simp
    · rintro H2 ⟨l, hl, u2, hD⟩
      refine ⟨_, D, l.map fun b => W [b], rfl, rfl, .inl (SqL.of hD), ?_, ?_⟩
      · rw [lens_bits]
        have e0 : ("" : Str).length = 0 := by decide +kernel
        rw [e0]; omega
      · show Q (.str (Txt.join "" (l.map fun b => W [b]))) H2
        rw [join_bits]
        exact k l H2 (by omega) (by omega) u2
end
end U


set_option maxRecDepth 100000
set_option maxHeartbeats 4000000
namespace U
open PySem PySem.Spec PyProof.Rows
open L2 hiding Fun CX0 E0 pass0 Fun.binds
open C8 Lx SX StX
/-- a rule as the law tells it -/
def Told (H : Hp) (t : Addr) (f : List Bool) (ss : List Stf) : Prop := ∃ l ps kb, H t = some (.tup [.str (W f), .ref l]) ∧ H l = some (.lst (ps.map V.ref)) ∧ StV H kb ps ∧ ss = ps.map kb
theorem Told.same {H H' : Hp} {t : Addr} {f : List Bool} {ss : List Stf} (h : Told H t f ss) (e : Same H H') : Told H' t f ss := by
  obtain ⟨l, ps, kb, h1, h2, h3, h4⟩ := h
  exact ⟨l, ps, kb, e _ _ h1, e _ _ h2, h3.same e, h4⟩
theorem refs_ne {ps : List Addr} {i j : Int} : ps.map V.ref ≠ [.int i, .int j] := fun z => by
  cases ps with
  | nil => cases z
  | cons p r => cases (List.cons.inj z).1
theorem Box.neL {H : Hp} {b l : Addr} {ps : List Addr} (hb : Box H b) (h : H l = some (.lst (ps.map V.ref))) : l ≠ b := fun z => by
  obtain ⟨i, j, hb⟩ := hb
  rw [z, hb] at h
  exact refs_ne (HO.lst.inj (Option.some.inj h)).symm
theorem Told.up {b : Addr} {H H' : Hp} {t : Addr} {f : List Bool} {ss : List Stf} (hb : Box H b) (h : Told H t f ss) (e : Up b H H') : Told H' t f ss := by
  obtain ⟨l, ps, kb, h1, h2, h3, h4⟩ := h
  exact ⟨l, ps, kb, e.1 _ _ h1 (hb.neT h1), e.1 _ _ h2 (hb.neL h2), fun t ht => e.1 _ _ (h3 t ht) (hb.neT (h3 t ht)), h4⟩
theorem RuAt.up {C b : Addr} {H H' : Hp} {a : Addr} {f : List Bool} {ss : List Stf} (hb : Box H b) (h : RuAt C H a f ss) (e : Up b H H') : RuAt C H' a f ss := h.nl (e.nl hb)
def putL (ss : List Stf) (l : List Bool) : List Bool := match putM ss l with
  | none => []
  | some b => [b]
theorem putL_len (ss : List Stf) (l : List Bool) : (putL ss l).length ≤ 1 := by unfold putL; cases putM ss l <;> simp
theorem stP_eq (ss : List Stf) (l : List Bool) : stP ss l = l ++ putL ss l := by
  unfold stP putL
  cases putM ss l with
  | none => rw [List.append_nil]
  | some b => rfl
theorem putL_head {ss : List Stf} {l : List Bool} : putM ss l = ((ss.filter fun s => s.1.isSuffixOf l).map (·.2)).head? := by
  unfold putM
  rw [List.head?_map, List.head?_filter]
def dS (x : List Bool) : PyData := .str (W x)
theorem dp_strs {K : PySem.W.Frag} {H : Hp} : ∀ xs : List (List Bool), DpAll K H (xs.map fun x => V.str (W x)) (xs.map dS)
  | [] => .nil
  | x :: r => .cons (.str _) (dp_strs r)
theorem strOk_W (x : List Bool) : PyData.strOk (W x) = true := by
  unfold PyData.strOk
  simp only [W, S, List.all_toArray, List.all_map, List.all_eq_true]
  intro b _
  cases b <;> decide +kernel
/-- data that can be compared -/
def DOk (n : Nat) (d : PyData) : Prop := PyData.canLay0 d = true ∧ PyData.depth d ≤ n
theorem dok_str (x : List Bool) : DOk 0 (.str (W x)) := ⟨strOk_W x, Nat.le_refl _⟩
theorem dok_all {n : Nat} : ∀ {ds : List PyData}, (∀ d ∈ ds, DOk n d) → PyData.canLayAll0 ds = true ∧ PyData.depthAll ds ≤ n
  | [], _ => ⟨rfl, Nat.zero_le _⟩
  | d :: r, h => by
    have h1 := h d List.mem_cons_self
    have h2 := dok_all (ds := r) fun d hd => h d (List.mem_cons_of_mem _ hd)
    refine ⟨?_, ?_⟩
    · show (PyData.canLay0 d && PyData.canLayAll0 r) = true
      rw [h1.1, h2.1]; rfl
    · show max (PyData.depth d) (PyData.depthAll r) ≤ n
      have := h1.2; have := h2.2; omega
theorem dok_list {n : Nat} {ds : List PyData} (h : ∀ d ∈ ds, DOk n d) : DOk (n + 1) (.list ds) := ⟨(dok_all h).1, Nat.succ_le_succ (dok_all h).2⟩
theorem dok_tup {n : Nat} {ds : List PyData} (h : ∀ d ∈ ds, DOk n d) : DOk (n + 1) (.tuple ds) := ⟨(dok_all h).1, Nat.succ_le_succ (dok_all h).2⟩
theorem DOk.shaped {n : Nat} {d : PyData} (h : DOk n d) (hn : n ≤ 64) : SeqAt.shaped d = true := by
  unfold SeqAt.shaped
  rw [h.1, decide_eq_true (Nat.le_trans h.2 hn)]
  rfl
theorem shaped_strs (xs : List (List Bool)) : SeqAt.shaped (.list (xs.map dS)) = true := (dok_list (n := 0) fun d hd => by
  obtain ⟨x, _, rfl⟩ := List.mem_map.mp hd
  exact dok_str x).shaped (by decide)
theorem shaped_nil : SeqAt.shaped (.list []) = true := by decide +kernel
theorem eqv_nil (ds : List PyData) : PyData.eqv (.list ds) (.list []) = ds.isEmpty := by cases ds <;> rfl
end U

set_option maxRecDepth 100000
set_option maxHeartbeats 4000000
namespace U
open PySem PySem.Spec PyProof.Rows
open L2 hiding Fun CX0 E0 pass0 Fun.binds
open C8 Lx SX StX
def spLPut : Sp := fun vs H Q _ => ∃ (t : Addr) (f l : List Bool) (ss : List Stf), vs = [.ref t, .str (W l)] ∧ Told H t f ss ∧ l.length ≤ 50000 ∧ ss.length ≤ 1000 ∧ (∀ s ∈ ss, s.1.length ≤ 1000) ∧ ∀ H', Same H H' → Q (.str (W (putL ss l))) H'
def spIsRule : Sp := fun vs H Q _ => ∃ (t : Addr) (f : List Bool) (ss : List Stf), vs = [.ref t] ∧ Told H t f ss ∧ ss.length ≤ 1000 ∧ (∀ s ∈ ss, s.1.length ≤ 5) ∧ ∀ r H', Same H H' → (r = true → SufFree ss ∧ OkS ss) → Q (.bl r) H'
/-- closed so far -/
def Cls1 (ss : List Stf) (kn : List (List Bool)) (w : List Bool) (b : Bool) : Prop := (itP ss 24 (w ++ [b])).length ≤ w.length + 20 ∧ tl 5 (itP ss 24 (w ++ [b])) ∈ kn
theorem Cls1.more {ss : List Stf} {kn : List (List Bool)} {w u : List Bool} {b : Bool} (h : Cls1 ss kn w b) : Cls1 ss (kn ++ [u]) w b := ⟨h.1, List.mem_append_left _ h.2⟩
structure Dfs (ss : List Stf) (H H2 : Hp) (q d : Addr) (kn wt : List (List Bool)) : Prop where
  same : Same H H2
  wait : H2 q = some (.lst (wt.map fun w => V.str (W w)))
  known : H2 d = some (.dK (kst kn))
  nodup : kn.Nodup
  short : ∀ w ∈ kn, w.length ≤ 5
  sub : ∀ w ∈ wt, w ∈ kn
  nil : [] ∈ kn
  le : wt.length ≤ kn.length
theorem Dfs.on {ss : List Stf} {H H2 H3 : Hp} {q d : Addr} {kn wt : List (List Bool)} (b : Dfs ss H H2 q d kn wt) (s : Same H2 H3) : Dfs ss H H3 q d kn wt :=
  ⟨b.same.trans s, s _ _ b.wait, s _ _ b.known, b.nodup, b.short, b.sub, b.nil, b.le⟩
theorem Dfs.few {ss : List Stf} {H H2 : Hp} {q d : Addr} {kn wt : List (List Bool)} (b : Dfs ss H H2 q d kn wt) : kn.length ≤ 63 := by
  have := words_le b.nodup b.short
  have e : (2 : Nat) ^ (5 + 1) = 64 := by decide
  omega
theorem sufFree_of {ss : List Stf} (h : ∀ (i j : Nat) (a b : Stf), i ≠ j → ss[i]? = some a → ss[j]? = some b → b.1.isSuffixOf a.1 = false) : SufFree ss := by
  unfold SufFree
  rw [List.pairwise_iff_getElem]
  intro i j hi hj hij
  have e1 := h i j _ _ (by omega) (List.getElem?_eq_getElem hi) (List.getElem?_eq_getElem hj)
  have e2 := h j i _ _ (by omega) (List.getElem?_eq_getElem hj) (List.getElem?_eq_getElem hi)
  refine ⟨fun z => ?_, fun z => ?_⟩
  · rw [List.isSuffixOf_iff_suffix.mpr z] at e2; cases e2
  · rw [List.isSuffixOf_iff_suffix.mpr z] at e1; cases e1
section
variable {P : Program} {w : World} {K : PySem.W.Frag} {mg : Str → Option Value} {base : Heap}
theorem sc_l_put : FnScope ["_law_rule_here", "_law_line", "_law_some", "_law_pattern", "_law_bit"] ["_law_rule_here", "_law_line"] (fnScope s_l_put) := fnScope_by (by decide +kernel)
theorem cal_l_put {f : Addr} {fd : FuncData} (F : Def K mg "_law_put" s_l_put f fd) (b : Binds K fd ["_law_rule_here", "_law_line"] []) (T : Tx mg) : Cal P w K mg base 1 "_law_put" spLPut [] := by
  refine cal0 F b .nil sc_l_put (fun vs H Q E h => ?_) (fun cdv A outer s H vs Q E hr h => ?_)
  · obtain ⟨_, _, _, _, rfl, _⟩ := h; rfl
  · obtain ⟨t, fl, l, ss, rfl, ⟨r, ps, kb, ht, hl, hs, rfl⟩, h1, h2, h3, k⟩ := h
    refine ⟨_, (pss_cons (ps_setLc (i := 2) (own := [("_law_pattern", 3), ("_law_bit", 4)]) (g := gTup K 2 (gCons (gName 3) (gCons (gName 4) gNil))) (by rfl) sc_l_put.nd rfl rfl (sw_true rfl rfl rfl (by decide +kernel)) (pi_list (pe_ix ix_tup (pv 0) pe_int (fun _ _ => rfl))) (blkOk_by (own := [("_law_pattern", 3), ("_law_bit", 4)]) (N := ["_law_rule_here", "_law_line", "_law_some", "_law_pattern", "_law_bit"]) (sc := fnScope s_l_put) (by decide +kernel)) (fun _ _ _ _ _ => (pg_tup rfl (pgs_cons (pg_name (i := 3) sc_l_put.nd rfl (.inl rfl)) (pgs_cons (pg_name (i := 4) sc_l_put.nd rfl (.inl rfl)) pgs_nil)))) (fun _ _ _ _ _ => (pts_one (pt_cmpR op_eq (pe_slice sl_txt (pv 1) (po_some (pe_callB (call_max2 rfl) (by rfl) T.b_max (by decide +kernel) (pa_cons pe_int (pa_cons (pe_op op_sub (pe_callB call_len_str (by rfl) T.b_len (by decide +kernel) (pa_cons (pv 1) pa_nil)) (pe_callB call_len_str (by rfl) T.b_len (by decide +kernel) (pa_cons (pv 3) pa_nil))) pa_nil)))) po_none) (pv 3) (nomark _)))) (fun _ _ _ _ _ => (pv 4)))
    (pss_one (ps_ret (pe_ifExp (pt_cmpR (op_neD hr.units) (pv 2) (pe_lst pa_nil) (nomark _)) (pe_ix ix_list (pv 2) pe_int (fun _ _ => rfl)) pe_str)))), ?_⟩
    have lw : (W l).length ≤ sizeLine := by rw [W_len]; exact sl_len (by omega)
    refine ⟨_, rfl, t, _, 1, _, rfl, rfl, SqT.of ht, rfl, r, rfl, ⟨_, SqL.of hl⟩, fun D nD => ?_⟩
    refine lc_it (walk_list (xs := ps.map V.ref)) (fun i H2 => Same H H2 ∧ H2 D = some (.lst (((((ps.take i).map kb).filter fun s => s.1.isSuffixOf l).map fun s => [s.2]).map fun x => V.str (W x)))) ⟨same_upd nD, upd_same⟩ (fun i H2 _ h2 => h2.1.seq (SqL.of hl)) ?_ ?_
    · rintro i x H2 H3 hi ⟨s2, hD⟩ ⟨rfl, hx⟩
      rw [List.getElem?_map] at hx
      obtain ⟨q, hq, rfl⟩ := Option.map_eq_some_iff.mp hx
      have hqm : q ∈ ps := List.mem_of_getElem? hq
      have lq : (W (kb q).1).length ≤ sizeLine := by rw [W_len]; exact sl_len (Nat.le_trans (h3 _ (List.mem_map_of_mem hqm)) (by decide))
      refine ⟨q, _, rfl, SqT.of (s2 _ _ (hs q hqm)), rfl, _, _, rfl, _, _, rfl, rfl, rfl, ?_⟩
      refine ⟨_, rfl, _, rfl, _, rfl, lw, _, rfl, _, rfl, lq, _, _, rfl, rfl, _, _, rfl, _, rfl, _, rfl, lw, _, rfl, rfl, _, rfl, ?_⟩
      rw [W_tail, W_len (kb q).1]
      have et : (ps.take (i + 1)).map kb = (ps.take i).map kb ++ [kb q] := by rw [List.take_add_one, hq, List.map_append]; rfl
      by_cases c : (kb q).1.isSuffixOf l = true
      · refine iteDT (by rw [← suf_iff.mp c]) ?_
        refine ⟨_, rfl, _, hD, ?_, ?_, ?_⟩
        · rw [List.length_map, List.length_map]
          refine sl_lt (Nat.lt_of_le_of_lt (List.length_filter_le _ _) ?_)
          rw [List.length_map, List.length_take]
          rw [List.length_map] at h2
          omega
        · intro c' o e
          rw [upd_ne (ne_of_none e nD)]
          exact s2 _ _ e
        · rw [upd_same, et, List.filter_append, List.map_append, List.map_append, List.filter_cons_of_pos (p := fun s : Stf => s.1.isSuffixOf l) c]
          rfl
      · refine iteDF (fun z => c (suf_iff.mpr (W_inj (V.str.inj z)).symm)) ?_
        refine ⟨s2, ?_⟩
        rw [hD, et, List.filter_append, List.filter_cons_of_neg (p := fun s : Stf => s.1.isSuffixOf l) c, List.filter_nil, List.append_nil]
    · rintro H2 ⟨s2, hD⟩
      rw [List.length_map, List.take_length] at hD
      refine ⟨_, rfl, Nat.zero_le _, fun p hp => ?_⟩
      have hp2 := putL_head (ss := ps.map kb) (l := l)
      have hD2 : upd H2 p (.lst []) D = some (.lst ((((ps.map kb).filter fun s => s.1.isSuffixOf l).map fun s => [s.2]).map fun x => V.str (W x))) := same_upd hp _ _ hD
      have s3 := s2.trans (same_upd (o := .lst []) hp)
      refine ⟨.list ((((ps.map kb).filter fun s => s.1.isSuffixOf l).map fun s => [s.2]).map dS), .list [], .lst (SqL.of hD2) (dp_strs _), .lst (SqL.of upd_same) .nil, shaped_strs _, shaped_nil, _, rfl, ?_⟩
      rw [eqv_nil]
      have k3 := k _ s3
      unfold putL at k3
      rw [hp2] at k3
      generalize (ps.map kb).filter (fun s => s.1.isSuffixOf l) = fs at hD2 k3
      cases fs with
      | nil =>
        show Q (.str "") _
        rw [W_nil]
        exact k3
      | cons x r =>
        exact ⟨_, rfl, D, _, 0, .str (W [x.2]), rfl, rfl, SqL.of hD2, atI_nat (j := 0) rfl, k3⟩
end
end U

set_option maxRecDepth 100000
set_option maxHeartbeats 4000000
namespace U
open PySem PySem.Spec PyProof.Rows
open L2 hiding Fun CX0 E0 pass0 Fun.binds
open C8 Lx SX StX
theorem W_tail5 (l : List Bool) : Txt.slice (W l) (some (if (((W l).length : Nat) : Int) - 5 > 0 then (((W l).length : Nat) : Int) - 5 else 0)) none = W (tl 5 l) := W_tail l 5
theorem pop_end {wt : List (List Bool)} {w : List Bool} : ((wt ++ [w]).map fun w => V.str (W w))[((wt ++ [w]).map fun w => V.str (W w)).length - 1]? = some (.str (W w)) := by
  rw [List.length_map, List.length_append, List.getElem?_map, List.length_cons, List.length_nil, List.getElem?_append_right (by omega), show wt.length + (0 + 1) - 1 - wt.length = 0 by omega]
  rfl
theorem pop_rest {wt : List (List Bool)} {w : List Bool} : ((wt ++ [w]).map fun w => V.str (W w)).dropLast = wt.map fun w => V.str (W w) := by
  rw [List.map_append]
  exact List.dropLast_concat
section
variable {P : Program} {w : World} {K : PySem.W.Frag} {mg : Str → Option Value} {base : Heap}
theorem sc_l_is_rule : FnScope ["_law_rule_here", "_law_names", "_law_pattern", "_law_bit", "_law_at", "_law_one", "_law_spot", "_law_other_one", "_law_known", "_law_waiting", "_law_behind", "_law_line", "_law_turn", "_law_due", "_law_there"] ["_law_rule_here"] (fnScope s_l_is_rule) := fnScope_by (by decide +kernel)
theorem cal_l_is_rule {f : Addr} {fd : FuncData} (F : Def K mg "_law_is_rule" s_l_is_rule f fd) (b : Binds K fd ["_law_rule_here"] []) (T : Tx mg) (c_l_put : Cal P w K mg base 1 "_law_put" spLPut []) : Cal P w K mg base 2 "_law_is_rule" spIsRule [] := by
  refine cal0 F b .nil sc_l_is_rule (fun vs H Q E h => ?_) (fun cdv A outer s H vs Q E hr h => ?_)
  · obtain ⟨_, _, _, rfl, _⟩ := h; rfl
  · obtain ⟨t, fl, ss, rfl, htold, h2, h3, k⟩ := h
    refine ⟨_, (pss_cons (ps_setLc (i := 1) (own := [("_law_pattern", 2), ("_law_bit", 3)]) (g := gTup K 2 (gCons (gName 2) (gCons (gName 3) gNil))) (by rfl) sc_l_is_rule.nd rfl rfl (sw_true rfl rfl rfl (by decide +kernel)) (pi_list (pe_ix ix_tup (pv 0) pe_int (fun _ _ => rfl))) (blkOk_by (own := [("_law_pattern", 2), ("_law_bit", 3)]) (N := ["_law_rule_here", "_law_names", "_law_pattern", "_law_bit", "_law_at", "_law_one", "_law_spot", "_law_other_one", "_law_known", "_law_waiting", "_law_behind", "_law_line", "_law_turn", "_law_due", "_law_there"]) (sc := fnScope s_l_is_rule) (by decide +kernel)) (fun _ _ _ _ _ => (pg_tup rfl (pgs_cons (pg_name (i := 2) sc_l_is_rule.nd rfl (.inl rfl)) (pgs_cons (pg_name (i := 3) sc_l_is_rule.nd rfl (.inl rfl)) pgs_nil)))) (fun _ _ _ _ _ => pts_nil) (fun _ _ _ _ _ => (pv 2)))
    (pss_cons (ps_for PassesOwn.never rfl (pi_enum (by rfl) T.b_enumerate (pa_cons (pv 1) pa_nil)) (pg_tup rfl (pgs_cons (pg_name (i := 4) sc_l_is_rule.nd rfl (.inl rfl)) (pgs_cons (pg_name (i := 5) sc_l_is_rule.nd rfl (.inl rfl)) pgs_nil)))
    (pss_one (ps_for PassesOwn.never rfl (pi_enum (by rfl) T.b_enumerate (pa_cons (pv 1) pa_nil)) (pg_tup rfl (pgs_cons (pg_name (i := 6) sc_l_is_rule.nd rfl (.inl rfl)) (pgs_cons (pg_name (i := 7) sc_l_is_rule.nd rfl (.inl rfl)) pgs_nil)))
    (pss_one (ps_if (PW.pt (pw_and (pt_cmpR op_ne (pv 4) (pv 6) (nomark _)) (pw_and1 (pt_val (pe_m1 PySem.F.slot_str_endswith PySem.F.type_str_endswith mt_endswith (pv 5) (pv 7)))))) (pss_one (ps_ret pe_bl)) pss_nil)))))
    (pss_cons (ps_par (i := 8) (j := 9) (by rfl) sc_l_is_rule.nd rfl rfl (by decide) rfl rfl (pa_cons (pe_disp (pps_cons pe_str pe_bl pps_nil) (by rfl) (by rfl) (fun z => by cases z) (by decide)) (pa_cons (pe_lst (pa_cons pe_str pa_nil)) pa_nil)) (by rfl))
    (pss_cons (ps_while PassesOwn.never (pt_cmpR (op_neD hr.units) (pv 9) (pe_lst pa_nil) (nomark _))
    (pss_cons (ps_set (i := 10) sc_l_is_rule.nd rfl (.inl rfl) (pe_bm0 PySem.F.plainAttrs_list PySem.F.slot_list_pop PySem.F.type_list_pop mt_pop (pv 9)))
    (pss_one (ps_for PassesOwn.never rfl (pi_str pe_str) (pg_name (i := 3) sc_l_is_rule.nd rfl (.inl rfl))
    (pss_cons (ps_set (i := 11) sc_l_is_rule.nd rfl (.inl rfl) (pe_op op_add_str (pv 10) (pv 3)))
    (pss_cut (ps_for PassesOwn.never rfl (pi_range1 (by rfl) T.b_range (pa_cons pe_int pa_nil)) (pg_name (i := 12) sc_l_is_rule.nd rfl (.inl rfl))
    (pss_cons (ps_set (i := 13) sc_l_is_rule.nd rfl (.inl rfl) (pe_c c_l_put hr (by decide) rfl (pa_cons (pv 0) (pa_cons (pv 11) pa_nil))))
    (pss_cons (ps_if (pt_cmpR op_eq (pv 13) pe_str (nomark _)) (pss_one ps_break) pss_nil)
    (pss_one (ps_set (i := 11) sc_l_is_rule.nd rfl (.inl rfl) (pe_op op_add_str (pv 11) (pv 13)))))))
    (pss_cons (ps_if (pt_cmpR op_gt (pe_callB call_len_str (by rfl) T.b_len (by decide +kernel) (pa_cons (pv 11) pa_nil)) (pe_op op_add (pe_callB call_len_str (by rfl) T.b_len (by decide +kernel) (pa_cons (pv 10) pa_nil)) pe_int) (nomark _)) (pss_one (ps_ret pe_bl)) pss_nil)
    (pss_cons (ps_set (i := 14) sc_l_is_rule.nd rfl (.inl rfl) (pe_slice sl_txt (pv 11) (po_some (pe_callB (call_max2 rfl) (by rfl) T.b_max (by decide +kernel) (pa_cons pe_int (pa_cons (pe_op op_sub (pe_callB call_len_str (by rfl) T.b_len (by decide +kernel) (pa_cons (pv 11) pa_nil)) pe_int) pa_nil)))) po_none))
    (pss_one (ps_if (pt_cmp (pc_dnotin (hu_of hr) (pv 14) (pv 8))) (pss_cons (ps_dput (hu_of hr) (pv 8) (pv 14) pe_bl rfl)
    (pss_one (ps_expr (pe_bm PySem.F.plainAttrs_list PySem.F.slot_list_append PySem.F.type_list_append mt_append (pv 9) (pa_cons (pv 14) pa_nil))))) pss_nil))))))))))
    (pss_one (ps_ret pe_bl)))))), ?_⟩
    obtain ⟨r, ps, kb, ht, hl, hs, hss⟩ := id htold
    have lss : ss.length = ps.length := by rw [hss, List.length_map]
    refine ⟨_, rfl, t, _, 1, _, rfl, rfl, SqT.of ht, rfl, r, rfl, ⟨_, SqL.of hl⟩, fun D nD => ?_⟩
    refine lc_it (walk_list (xs := ps.map V.ref)) (fun i H2 => Same H H2 ∧ H2 D = some (.lst ((ss.take i).map fun s => V.str (W s.1)))) ⟨same_upd nD, upd_same⟩ (fun i H2 _ h2 => h2.1.seq (SqL.of hl)) ?_ ?_
    · rintro i x H2 H3 hi ⟨s2, hD⟩ ⟨rfl, hx⟩
      rw [List.getElem?_map] at hx
      obtain ⟨q, hq, rfl⟩ := Option.map_eq_some_iff.mp hx
      have hqm : q ∈ ps := List.mem_of_getElem? hq
      have hsi : ss[i]? = some (kb q) := by rw [hss, List.getElem?_map, hq]; rfl
      rw [List.length_map] at hi
      refine ⟨q, _, rfl, SqT.of (s2 _ _ (hs q hqm)), rfl, _, _, rfl, _, _, rfl, rfl, rfl, ?_⟩
      refine ⟨_, rfl, _, hD, ?_, ?_, ?_⟩
      · rw [List.length_map, List.length_take]; exact sl_lt (by omega)
      · intro c' o e
        rw [upd_ne (ne_of_none e nD)]
        exact s2 _ _ e
      · rw [upd_same, List.take_add_one, hsi, List.map_append]; rfl
    · rintro H2 ⟨s2, hD⟩
      rw [List.length_map, ← lss, List.take_length] at hD
      have at' : ∀ {i : Nat} {y : V}, (ss.map fun s => V.str (W s.1))[i]? = some y → ∃ a, ss[i]? = some a ∧ y = .str (W a.1) := fun {i y} h => by
        rw [List.getElem?_map] at h
        obtain ⟨a, ha, e⟩ := Option.map_eq_some_iff.mp h
        exact ⟨a, ha, e.symm⟩
      refine ⟨_, rfl, D, _, rfl, SqL.of hD, ?_⟩
      refine for_it walk_enum (fun i σ H3 => ∃ v2 v3 v4 v5 v6 v7 v8 v9 v10 v11 v12 v13 v14 : Option V, σ = [some (.ref t), some (.ref D), v2, v3, v4, v5, v6, v7, v8, v9, v10, v11, v12, v13, v14] ∧ Same H H3 ∧ H3 D = some (.lst (ss.map fun s => V.str (W s.1))) ∧ ∀ (i' j : Nat) (a b : Stf), i' < i → i' ≠ j → ss[i']? = some a → ss[j]? = some b → b.1.isSuffixOf a.1 = false)
        ⟨none, none, none, none, none, none, none, none, none, none, none, none, none, rfl, s2, hD, fun i' j a b h => absurd h (Nat.not_lt_zero _)⟩ (fun i σ H3 _ h3 => by obtain ⟨_, _, _, _, _, _, _, _, _, _, _, _, _, _, _, h, _⟩ := h3; exact SqL.of h) ?_ ?_
      · rintro i x σ H3 H3' hi ⟨v2, v3, v4, v5, v6, v7, v8, v9, v10, v11, v12, v13, v14, rfl, s3, hD3, hno⟩ ⟨T', y1, y2, rfl, nT, rfl, e1, e2⟩
        cases e1
        obtain ⟨a, ha, rfl⟩ := at' e2
        refine ⟨T', _, rfl, SqT.of upd_same, rfl, _, _, rfl, _, _, rfl, rfl, ?_⟩
        have s4 : Same H (upd H3 T' (.tup [.int (i : Nat), .str (W a.1)])) := s3.trans (same_upd nT)
        have hD4 : upd H3 T' (.tup [.int (i : Nat), .str (W a.1)]) D = some (.lst (ss.map fun s => V.str (W s.1))) := same_upd nT _ _ hD3
        generalize upd H3 T' (.tup [.int (i : Nat), .str (W a.1)]) = H4 at s4 hD4
        refine ⟨_, rfl, D, _, rfl, SqL.of hD4, ?_⟩
        refine for_it walk_enum (fun j σ H5 => ∃ v2 v3 v6 v7 v8 v9 v10 v11 v12 v13 v14 : Option V, σ = [some (.ref t), some (.ref D), v2, v3, some (.int (i : Nat)), some (.str (W a.1)), v6, v7, v8, v9, v10, v11, v12, v13, v14] ∧ Same H H5 ∧ H5 D = some (.lst (ss.map fun s => V.str (W s.1))) ∧ ∀ (j' : Nat) (b : Stf), j' < j → i ≠ j' → ss[j']? = some b → b.1.isSuffixOf a.1 = false)
          ⟨_, _, _, _, _, _, _, _, _, _, _, rfl, s4, hD4, fun j' b h => absurd h (Nat.not_lt_zero _)⟩ (fun i σ H3 _ h3 => by obtain ⟨_, _, _, _, _, _, _, _, _, _, _, _, _, h, _⟩ := h3; exact SqL.of h) ?_ ?_
        · rintro j x σ H5 H5' hj ⟨v2, v3, v6, v7, v8, v9, v10, v11, v12, v13, v14, rfl, s5, hD5, hno5⟩ ⟨T2, y1, y2, rfl, nT2, rfl, e1, e2⟩
          cases e1
          obtain ⟨b', hb', rfl⟩ := at' e2
          refine ⟨T2, _, rfl, SqT.of upd_same, rfl, _, _, rfl, _, _, rfl, rfl, ?_⟩
          have s6 : Same H (upd H5 T2 (.tup [.int (j : Nat), .str (W b'.1)])) := s5.trans (same_upd nT2)
          have hD6 : upd H5 T2 (.tup [.int (j : Nat), .str (W b'.1)]) D = some (.lst (ss.map fun s => V.str (W s.1))) := same_upd nT2 _ _ hD5
          generalize upd H5 T2 (.tup [.int (j : Nat), .str (W b'.1)]) = H6 at s6 hD6
          refine ⟨_, rfl, _, rfl, rfl, _, rfl, ?_⟩
          by_cases ij : i = j
          · refine iteNS (by rw [ij]) ?_
            refine ⟨_, _, _, _, _, _, _, _, _, _, _, rfl, s6, hD6, fun j' b hj' nij hb => ?_⟩
            exact hno5 j' b (by omega) nij hb
          · refine iteNT (fun z => ij (by have := V.int.inj z; omega)) ?_
            refine ⟨_, rfl, ⟨_, rfl⟩, _, rfl, _, _, rfl, rfl, _, rfl, ?_⟩
            rw [W_ends]
            cases ce : b'.1.isSuffixOf a.1 with
            | true => exact k false _ s6 (fun z => by cases z)
            | false =>
              refine ⟨_, _, _, _, _, _, _, _, _, _, _, rfl, s6, hD6, fun j' b hj' nij hb => ?_⟩
              by_cases ej : j' = j
              · subst ej
                rw [hb'] at hb
                cases hb
                exact ce
              · exact hno5 j' b (by omega) nij hb
        · rintro σ H5 ⟨v2, v3, v6, v7, v8, v9, v10, v11, v12, v13, v14, rfl, s5, hD5, hno5⟩
          refine ⟨_, _, _, _, _, _, _, _, _, _, _, _, _, rfl, s5, hD5, fun i' j a' b' hi' nij ha' hb' => ?_⟩
          by_cases ei : i' = i
          · subst ei
            rw [ha] at ha'
            cases ha'
            exact hno5 j b' (by rw [List.length_map]; exact (List.getElem?_eq_some_iff.mp hb').1) nij hb'
          · exact hno i' j a' b' (by omega) nij ha' hb'
      · rintro σ H3 ⟨v2, v3, v4, v5, v6, v7, v8, v9, v10, v11, v12, v13, v14, rfl, s3, hD3, hno⟩
        have hfree : SufFree ss := sufFree_of fun i j a b nij ha hb => hno i j a b (by rw [List.length_map]; exact (List.getElem?_eq_some_iff.mp ha).1) nij ha hb
        clear hno hD3 hD s2
        refine fun d nd => ⟨upd_same, [(.inr "", .bl true)], rfl, by decide, by show 1 ≤ sizeLine; decide, fun q nq => ⟨_, _, rfl, ?_⟩⟩
        have nqd : q ≠ d := fun z => by rw [z, upd_same] at nq; cases nq
        have nd0 : H d = none := s3.free nd
        have nq0 : H q = none := by
          cases e : H q with
          | none => rfl
          | some o => rw [upd_ne nqd, upd_ne nqd, s3 _ _ e] at nq; cases nq
        have b0 : Dfs ss H (upd (upd (upd H3 d (.dK [])) d (.dK (mergeK [] [(.inr "", .bl true)]))) q (.lst [.str ""])) q d [[]] [[]] := by
          refine ⟨fun c o e => ?_, ?_, ?_, by simp, ?_, fun w hw => hw, List.mem_cons_self, Nat.le_refl _⟩
          · have n1 := ne_of_none e nd0
            have n2 := ne_of_none e nq0
            rw [upd_ne n2, upd_ne n1, upd_ne n1]
            exact s3 _ _ e
          · rw [upd_same, W_nil]; rfl
          · rw [upd_ne (Ne.symm nqd), upd_same, W_nil]; rfl
          · intro w hw; rw [List.mem_singleton.mp hw]; exact Nat.zero_le _
        generalize upd (upd (upd H3 d (.dK [])) d (.dK (mergeK [] [(.inr "", .bl true)]))) q (.lst [.str ""]) = H4 at b0
        refine ⟨fun m σ H5 => ∃ (kn wt : List (List Bool)) (v2 v3 v4 v5 v6 v7 v10 v11 v12 v13 v14 : Option V), σ = [some (.ref t), some (.ref D), v2, v3, v4, v5, v6, v7, some (.ref d), some (.ref q), v10, v11, v12, v13, v14] ∧ Dfs ss H H5 q d kn wt ∧ (∀ w ∈ kn, w ∈ wt ∨ ∀ b, Cls1 ss kn w b) ∧ m = wt.length + 2 * (64 - kn.length),
          ⟨_, [[]], [[]], _, _, _, _, _, _, _, _, _, _, _, rfl, b0, fun w hw => .inl hw, rfl⟩, ?_⟩
        rintro m σ H5 ⟨kn, wt, v2, v3, v4, v5, v6, v7, v10, v11, v12, v13, v14, rfl, B5, hcl, rfl⟩
        refine ⟨_, rfl, Nat.zero_le _, fun p hp => ?_⟩
        have B6 := B5.on (same_upd (o := .lst []) hp)
        refine ⟨.list (wt.map dS), .list [], .lst (SqL.of B6.wait) (dp_strs _), .lst (SqL.of upd_same) .nil, shaped_strs _, shaped_nil, _, rfl, ?_⟩
        generalize upd H5 p (.lst []) = H6 at B6
        rw [eqv_nil]
        rcases List.eq_nil_or_concat wt with rfl | ⟨wt', w0, rfl⟩
        · refine k true H6 B6.same fun _ => ⟨hfree, okS_of kn h3 B6.nil fun w hw b => ?_⟩
          rcases hcl w hw with z | z
          · cases z
          · exact z b
        · rw [List.concat_eq_append] at *
          refine iteBT (by simp) ?_
          refine ⟨fun σ' H' => ∃ m', m' < (wt' ++ [w0]).length + 2 * (64 - kn.length) ∧ ∃ (kn wt : List (List Bool)) (v2 v3 v4 v5 v6 v7 v10 v11 v12 v13 v14 : Option V), σ' = [some (.ref t), some (.ref D), v2, v3, v4, v5, v6, v7, some (.ref d), some (.ref q), v10, v11, v12, v13, v14] ∧ Dfs ss H H' q d kn wt ∧ (∀ w ∈ kn, w ∈ wt ∨ ∀ b, Cls1 ss kn w b) ∧ m' = wt.length + 2 * (64 - kn.length), fun _ _ h => h, ?_⟩
          refine ⟨_, rfl, .inl ⟨rfl, _, SqL.of B6.wait⟩, q, _, .str (W w0), rfl, rfl, B6.wait, pop_end, ?_⟩
          rw [pop_rest]
          have w0k : w0 ∈ kn := B6.sub _ (List.mem_append_right _ List.mem_cons_self)
          have l0 : w0.length ≤ 5 := B6.short _ w0k
          have B7 : Dfs ss H (upd H6 q (.lst (wt'.map fun w => V.str (W w)))) q d kn wt' := by
            refine ⟨fun c o e => ?_, upd_same, ?_, B6.nodup, B6.short, fun w hw => B6.sub w (List.mem_append_left _ hw), B6.nil, by have := B6.le; rw [List.length_append] at this; omega⟩
            · rw [upd_ne (ne_of_none e nq0)]; exact B6.same _ _ e
            · rw [upd_ne (Ne.symm nqd)]; exact B6.known
          generalize upd H6 q (.lst (wt'.map fun w => V.str (W w))) = H7 at B7
          have hm0 : wt'.length + 2 * (64 - kn.length) < (wt' ++ [w0]).length + 2 * (64 - kn.length) := by rw [List.length_append, List.length_cons, List.length_nil]; omega
          have hcl7 : ∀ u ∈ kn, u ∈ wt' ∨ u = w0 ∨ ∀ b, Cls1 ss kn u b := fun u hu => by
            rcases hcl u hu with z | z
            · rcases List.mem_append.mp z with z | z
              · exact .inl z
              · exact .inr (.inl (List.mem_singleton.mp z))
            · exact .inr (.inr z)
          generalize (wt' ++ [w0]).length + 2 * (64 - kn.length) = m at hm0 ⊢
          refine ⟨_, rfl, for_it walk_str (fun i σ H8 => ∃ (kn wt : List (List Bool)) (v2 v3 v4 v5 v6 v7 v11 v12 v13 v14 : Option V), σ = [some (.ref t), some (.ref D), v2, v3, v4, v5, v6, v7, some (.ref d), some (.ref q), some (.str (W w0)), v11, v12, v13, v14] ∧ Dfs ss H H8 q d kn wt ∧ w0 ∈ kn ∧ (∀ u ∈ kn, u ∈ wt ∨ u = w0 ∨ ∀ b, Cls1 ss kn u b) ∧ (∀ (j : Nat) (b : Bool), j < i → [false, true][j]? = some b → Cls1 ss kn w0 b) ∧ wt.length + 2 * (64 - kn.length) < m)
            ⟨kn, wt', _, _, _, _, _, _, _, _, _, _, rfl, B7, w0k, hcl7, fun j b h => absurd h (Nat.not_lt_zero _), hm0⟩ (fun _ _ _ _ _ => trivial) ?_ ?_⟩
          · clear hcl7 B7 B6 B5 hm0 w0k hcl
            rintro i x σ H8 H8' hi ⟨kn, wt, v2, v3, v4, v5, v6, v7, v11, v12, v13, v14, rfl, B8, w0k, hcl8, hbits, hm8⟩ ⟨rfl, c, hc, rfl⟩
            have e01 : ("01" : Str) = W [false, true] := by decide +kernel
            rw [e01] at hc
            obtain ⟨bb, hbb, rfl⟩ := W_get hc
            have ew : W w0 ++ (⟨#[bt bb]⟩ : Str) = W (w0 ++ [bb]) := W_cat w0 [bb]
            have el : (W w0).length + (⟨#[bt bb]⟩ : Str).length ≤ sizeLine := by
              have e1 : (W w0).length = w0.length := W_len _
              have e2 : (⟨#[bt bb]⟩ : Str).length = 1 := W_len [bb]
              rw [e1, e2]; exact sl_len (by omega)
            refine ⟨_, rfl, _, rfl, _, _, rfl, rfl, el, ?_⟩
            rw [ew]
            have hll : (w0 ++ [bb]).length ≤ 6 := by rw [List.length_append, List.length_cons, List.length_nil]; omega
            refine ⟨fun σ' H9 => ∃ (v12 v13 v14 : Option V), σ' = [some (.ref t), some (.ref D), v2, some (.str ⟨#[bt bb]⟩), v4, v5, v6, v7, some (.ref d), some (.ref q), some (.str (W w0)), some (.str (W (itP ss 24 (w0 ++ [bb])))), v12, v13, v14] ∧ Same H8' H9, ?_, ?_⟩
            · refine ⟨_, rfl, by decide, by decide, for_it walk_range (fun i σ H9 => ∃ (v12 v13 v14 : Option V), σ = [some (.ref t), some (.ref D), v2, some (.str ⟨#[bt bb]⟩), v4, v5, v6, v7, some (.ref d), some (.ref q), some (.str (W w0)), some (.str (W (itP ss i (w0 ++ [bb])))), v12, v13, v14] ∧ Same H8' H9) ⟨_, _, _, rfl, Same.refl _⟩ (fun _ _ _ _ _ => trivial) ?_ ?_⟩
              · rintro i9 x σ H9 H9' hi9 ⟨v12, v13, v14, rfl, s9⟩ ⟨rfl, rfl⟩
                have hi24 : i9 < 24 := hi9
                have hle := itP_le ss i9 (w0 ++ [bb])
                have e1 : (W (itP ss i9 (w0 ++ [bb]))).length = (itP ss i9 (w0 ++ [bb])).length := W_len _
                refine ⟨_, rfl, _, rfl, t, fl, _, ss, rfl, (htold.same B8.same).same s9, by omega, h2, fun s hs => Nat.le_trans (h3 s hs) (by decide), fun H10 s10 => ?_⟩
                refine ⟨_, rfl, rfl, _, rfl, ?_⟩
                have es := itP_succ ss i9 (w0 ++ [bb])
                rw [stP_eq] at es
                cases ep : putM ss (itP ss i9 (w0 ++ [bb])) with
                | none =>
                  have e0 : putL ss (itP ss i9 (w0 ++ [bb])) = [] := by unfold putL; rw [ep]
                  rw [e0]
                  refine iteDT (by rw [W_nil]) ?_
                  have e24 : itP ss 24 (w0 ++ [bb]) = itP ss i9 (w0 ++ [bb]) := itP_rest ep (by omega)
                  rw [← e24]
                  exact ⟨_, _, _, rfl, s9.trans s10⟩
                | some b =>
                  have e0 : putL ss (itP ss i9 (w0 ++ [bb])) = [b] := by unfold putL; rw [ep]
                  rw [e0] at es ⊢
                  refine iteDF (fun z => ?_) ?_
                  · have z' := V.str.inj z
                    rw [W_nil] at z'
                    cases (W_inj z')
                  · refine ⟨_, rfl, _, rfl, _, _, rfl, rfl, by rw [e1, W_len]; exact sl_len (by simp only [List.length_cons, List.length_nil]; omega), ?_⟩
                    rw [W_cat, ← es]
                    exact ⟨_, _, _, rfl, s9.trans s10⟩
              · rintro σ H9 ⟨v12, v13, v14, rfl, s9⟩
                exact ⟨_, _, _, rfl, s9⟩
            · rintro σ H9 ⟨v12, v13, v14, rfl, s9⟩
              have hle := itP_le ss 24 (w0 ++ [bb])
              have e24 : (24 : Int).toNat = 24 := rfl
              have B9 := B8.on s9
              have e1 : (W (itP ss 24 (w0 ++ [bb]))).length = (itP ss 24 (w0 ++ [bb])).length := W_len _
              have e2 : (W w0).length = w0.length := W_len _
              have l1 : (W (itP ss 24 (w0 ++ [bb]))).length ≤ sizeLine := by rw [e1]; exact sl_len (by omega)
              refine ⟨_, rfl, _, rfl, l1, _, rfl, _, rfl, by rw [e2]; exact sl_len (by omega), _, _, rfl, rfl, _, _, rfl, rfl, _, rfl, ?_⟩
              by_cases cl : w0.length + 20 < (itP ss 24 (w0 ++ [bb])).length
              · refine iteDT (by rw [e2]; show _ < (((W (itP ss 24 (w0 ++ [bb]))).length : Nat) : Int); rw [e1]; omega) ?_
                exact k false _ B9.same (fun z => by cases z)
              · refine iteDF (by rw [e2]; show ¬ _ < (((W (itP ss 24 (w0 ++ [bb]))).length : Nat) : Int); rw [e1]; omega) ?_
                refine ⟨_, rfl, _, rfl, _, rfl, l1, _, _, rfl, rfl, _, _, rfl, _, rfl, _, rfl, l1, ?_⟩
                show gName 14 (.str (Txt.slice (W (itP ss 24 (w0 ++ [bb]))) (some (if (((W (itP ss 24 (w0 ++ [bb]))).length : Nat) : Int) - 5 > 0 then (((W (itP ss 24 (w0 ++ [bb]))).length : Nat) : Int) - 5 else 0)) none)) _ _ _
                rw [W_tail5]
                refine ⟨_, rfl, _, rfl, d, _, rfl, DGet.k (k := .inr (W (tl 5 (itP ss 24 (w0 ++ [bb]))))) B9.known, _, rfl, ?_⟩
                have few9 := B9.few
                by_cases hin : tl 5 (itP ss 24 (w0 ++ [bb])) ∈ kn
                · refine iteBF (by rw [val_in hin]; rfl) ?_
                  refine ⟨kn, wt, _, _, _, _, _, _, _, _, _, _, rfl, B9, w0k, hcl8, fun j b hj hb => ?_, hm8⟩
                  by_cases ej : j = i
                  · subst ej
                    rw [hbb] at hb
                    cases hb
                    exact ⟨by omega, hin⟩
                  · exact hbits j b (by omega) hb
                · refine iteBT (by rw [val_out hin]; rfl) ?_
                  refine ⟨_, rfl, _, rfl, d, _, rfl, DPut.k (k := .inr (W (tl 5 (itP ss 24 (w0 ++ [bb]))))) B9.known (by unfold kst; rw [List.length_map]; exact sl_lt (by omega)), ?_⟩
                  rw [put_out hin]
                  have hW : upd H9 d (.dK (kst (kn ++ [tl 5 (itP ss 24 (w0 ++ [bb]))]))) q = some (.lst (wt.map fun w => V.str (W w))) := by rw [upd_ne nqd]; exact B9.wait
                  have wtl : wt.length < 1000 := by have := B9.le; omega
                  refine ⟨_, rfl, .inl ⟨rfl, _, SqL.of hW⟩, _, rfl, q, _, _, rfl, rfl, hW, by rw [List.length_map]; exact sl_lt (by omega), ?_⟩
                  refine ⟨kn ++ [tl 5 (itP ss 24 (w0 ++ [bb]))], wt ++ [tl 5 (itP ss 24 (w0 ++ [bb]))], _, _, _, _, _, _, _, _, _, _, rfl, ⟨fun c o e => ?_, ?_, ?_, ?_, ?_, ?_, List.mem_append_left _ B9.nil, by have := B9.le; rw [List.length_append, List.length_append]; exact Nat.add_le_add_right this _⟩, List.mem_append_left _ w0k, fun u hu => ?_, fun j b hj hb => ?_, ?_⟩
                  · rw [upd_ne (ne_of_none e nq0), upd_ne (ne_of_none e nd0)]
                    exact B9.same _ _ e
                  · rw [upd_same, List.map_append]; rfl
                  · rw [upd_ne (Ne.symm nqd), upd_same]
                  · rw [List.nodup_append]
                    refine ⟨B9.nodup, by simp, fun u hu v hv e => ?_⟩
                    rw [List.mem_singleton.mp hv] at e
                    exact hin (e ▸ hu)
                  · intro u hu
                    rcases List.mem_append.mp hu with z | z
                    · exact B9.short _ z
                    · rw [List.mem_singleton.mp z]; exact tl_le _ _
                  · intro u hu
                    rcases List.mem_append.mp hu with z | z
                    · exact List.mem_append_left _ (B9.sub _ z)
                    · exact List.mem_append_right _ z
                  · rcases List.mem_append.mp hu with z | z
                    · rcases hcl8 u z with z | z | z
                      · exact .inl (List.mem_append_left _ z)
                      · exact .inr (.inl z)
                      · exact .inr (.inr fun b => (z b).more)
                    · exact .inl (List.mem_append_right _ z)
                  · by_cases ej : j = i
                    · subst ej
                      rw [hbb] at hb
                      cases hb
                      exact ⟨by omega, List.mem_append_right _ List.mem_cons_self⟩
                    · exact (hbits j b (by omega) hb).more
                  · rw [List.length_append, List.length_append, List.length_cons, List.length_nil]; omega
          · rintro σ H8 ⟨kn, wt, v2, v3, v4, v5, v6, v7, v11, v12, v13, v14, rfl, B8, w0k, hcl8, hbits, hm8⟩
            refine ⟨_, hm8, kn, wt, _, _, _, _, _, _, _, _, _, _, _, rfl, B8, fun u hu => ?_, rfl⟩
            rcases hcl8 u hu with z | z | z
            · exact .inl z
            · rw [z]
              refine .inr fun b => ?_
              have e2 : ("01" : Str).cps.size = 2 := by decide +kernel
              cases b with
              | false => exact hbits 0 false (by rw [e2]; decide) rfl
              | true => exact hbits 1 true (by rw [e2]; decide) rfl
            · exact .inr z
end
end U

set_option maxRecDepth 100000
set_option maxHeartbeats 4000000
namespace U
open PySem PySem.Spec PyProof.Rows
open L2 hiding Fun CX0 E0 pass0 Fun.binds
open C8 Lx SX StX
def spRule : Sp := fun vs H Q _ => ∃ (b : Addr) (wd lo : Nat), vs = [.ref b, .int wd, .int lo] ∧ Box H b ∧ 2 ≤ wd ∧ wd ≤ 100 ∧ 1 ≤ lo ∧ lo ≤ 5 ∧
  ∀ (t : Addr) (f : List Bool) (ss : List Stf) H', Up b H H' → Told H' t f ss → 2 ≤ f.length → f.length ≤ max wd 3 → ss.length ≤ 2 → StOk ss → OkS ss → (∀ s ∈ ss, s.1.length ≤ lo) → Q (.ref t) H'
theorem told_const {H : Hp} {p1 p2 p3 : Addr} {z0 z1 z2 : Str} {f p : List Bool} {b : Bool} (e0 : z0 = W f) (e1 : z1 = W p) (e2 : z2 = W [b]) (n1 : H p1 = none) (n2 : upd H p1 (.tup [.str z1, .str z2]) p2 = none) (n3 : upd (upd H p1 (.tup [.str z1, .str z2])) p2 (.lst [.ref p1]) p3 = none) :
    Same H (upd (upd (upd H p1 (.tup [.str z1, .str z2])) p2 (.lst [.ref p1])) p3 (.tup [.str z0, .ref p2])) ∧ Told (upd (upd (upd H p1 (.tup [.str z1, .str z2])) p2 (.lst [.ref p1])) p3 (.tup [.str z0, .ref p2])) p3 f [(p, b)] := by
  refine ⟨((same_upd n1).trans (same_upd n2)).trans (same_upd n3), p2, [p1], fun _ => (p, b), ?_, ?_, ?_, rfl⟩
  · rw [upd_same, e0]
  · exact same_upd n3 _ _ upd_same
  · intro t ht
    rw [List.mem_singleton.mp ht, ← e1, ← e2]
    exact same_upd n3 _ _ (same_upd n2 _ _ upd_same)
/-- one of the rules that the law knows -/
def Good1 (m n : Nat) (H : Hp) (x : Addr) : Prop := ∃ f p b, Told H x f [(p, b)] ∧ 2 ≤ f.length ∧ f.length ≤ m ∧ p ≠ [] ∧ p.length ≤ n ∧ OkS [(p, b)]
theorem Good1.same {m n : Nat} {H H' : Hp} {x : Addr} (h : Good1 m n H x) (e : Same H H') : Good1 m n H' x := by
  obtain ⟨f, p, b, h1, h2⟩ := h
  exact ⟨f, p, b, h1.same e, h2⟩
theorem Good1.up {m n : Nat} {b : Addr} {H H' : Hp} {x : Addr} (hb : Box H b) (h : Good1 m n H x) (e : Up b H H') : Good1 m n H' x := by
  obtain ⟨f, p, b, h1, h2⟩ := h
  exact ⟨f, p, b, h1.up hb e, h2⟩
theorem told1 {H : Hp} {x : Addr} {f p : List Bool} {b : Bool} (h : Told H x f [(p, b)]) : ∃ l q, H x = some (.tup [.str (W f), .ref l]) ∧ H l = some (.lst [.ref q]) ∧ H q = some (.tup [.str (W p), .str (W [b])]) := by
  obtain ⟨l, ps, kb, h1, h2, h3, h4⟩ := h
  cases ps with
  | nil => cases h4
  | cons q r =>
    cases r with
    | cons _ _ => have := congrArg List.length h4; simp at this
    | nil =>
      have e : kb q = (p, b) := (List.cons.inj h4).1.symm
      have := h3 q List.mem_cons_self
      rw [e] at this
      exact ⟨l, q, h1, h2, this⟩
theorem told_dp {K : PySem.W.Frag} {m n : Nat} {H : Hp} {x : Addr} (h : Good1 m n H x) : ∃ d, Dp K H (.ref x) d ∧ DOk 3 d := by
  obtain ⟨f, p, b, h1, _⟩ := h
  obtain ⟨l, q, hx, hl, hq⟩ := told1 h1
  refine ⟨.tuple [.str (W f), .list [.tuple [.str (W p), .str (W [b])]]], .tup (SqT.of hx) (.cons (.str _) (.cons (.lst (SqL.of hl) (.cons (.tup (SqT.of hq) (.cons (.str _) (.cons (.str _) .nil))) .nil)) .nil)), ?_⟩
  have w0 : ∀ {n : Nat} (x : List Bool), DOk n (.str (W x)) := fun x => ⟨strOk_W x, Nat.zero_le _⟩
  refine dok_tup fun d hd => ?_
  rcases List.mem_cons.mp hd with rfl | hd
  · exact w0 _
  · rw [List.mem_singleton.mp hd]
    refine dok_list fun d hd => ?_
    rw [List.mem_singleton.mp hd]
    refine dok_tup fun d hd => ?_
    rcases List.mem_cons.mp hd with rfl | hd
    · exact w0 _
    · rw [List.mem_singleton.mp hd]; exact w0 _
theorem tolds_dp {K : PySem.W.Frag} {m n : Nat} {H : Hp} : ∀ {ts : List Addr}, (∀ x ∈ ts, Good1 m n H x) → ∃ ds, DpAll K H (ts.map V.ref) ds ∧ (∀ d ∈ ds, DOk 3 d) ∧ ds.isEmpty = ts.isEmpty
  | [], _ => ⟨[], .nil, (fun _ h => nomatch h), rfl⟩
  | x :: r, h => by
    obtain ⟨d, h1, h2⟩ := told_dp (K := K) (h x List.mem_cons_self)
    obtain ⟨ds, h3, h4, _⟩ := tolds_dp (K := K) (ts := r) fun y hy => h y (List.mem_cons_of_mem _ hy)
    refine ⟨d :: ds, .cons h1 h3, fun e he => ?_, rfl⟩
    rcases List.mem_cons.mp he with rfl | he
    · exact h2
    · exact h4 e he
theorem stOk1 {p : List Bool} {b : Bool} (h0 : p ≠ []) (h : p.length ≤ 5) : StOk [(p, b)] := by
  refine ⟨by show 1 ≤ 1000; decide, fun s hs => ?_, ?_, List.pairwise_singleton _ _⟩
  · rw [List.mem_singleton.mp hs]; exact h0
  · refine longM_max fun s hs => ?_
    rw [List.mem_singleton.mp hs]
    show p.length ≤ 9
    omega
theorem mem5 {v : V} (h : v ∈ ([.int 0, .int 1, .int 1, .int 1, .int 2] : List V)) : ∃ n : Nat, v = .int n ∧ n ≤ 2 := by
  rcases List.mem_cons.mp h with rfl | h
  · exact ⟨0, rfl, by decide⟩
  · rcases List.mem_cons.mp h with rfl | h
    · exact ⟨1, rfl, by decide⟩
    · rcases List.mem_cons.mp h with rfl | h
      · exact ⟨1, rfl, by decide⟩
      · rcases List.mem_cons.mp h with rfl | h
        · exact ⟨1, rfl, by decide⟩
        · exact ⟨2, List.mem_singleton.mp h, by decide⟩
section
variable {P : Program} {w : World} {K : PySem.W.Frag} {mg : Str → Option Value} {base : Heap}
theorem sc_l_rule : FnScope ["_law_box", "_law_widest", "_law_longest_one", "_law_some", "_law_one", "_law_turn", "_law_stuffs", "_law_more", "_law_told"] ["_law_box", "_law_widest", "_law_longest_one"] (fnScope s_l_rule) := fnScope_by (by decide +kernel)
theorem cal_l_rule {f : Addr} {fd : FuncData} (F : Def K mg "_law_rule" s_l_rule f fd) (b : Binds K fd ["_law_box", "_law_widest", "_law_longest_one"] []) (T : Tx mg) (c_l_choose : Cal P w K mg base 1 "_law_choose" spChoose []) (c_l_one_of : Cal P w K mg base 2 "_law_one_of" spOneOf []) (c_l_word : Cal P w K mg base 3 "_law_word" spWordF [])
    (c_l_is_rule : Cal P w K mg base 2 "_law_is_rule" spIsRule []) : Cal P w K mg base 4 "_law_rule" spRule [] := by
  refine cal0 F b .nil sc_l_rule (fun vs H Q E h => ?_) (fun cdv A outer s H vs Q E hr h => ?_)
  · obtain ⟨_, _, _, rfl, _⟩ := h; rfl
  · obtain ⟨bx, wd, lo, rfl, hb, w2, w100, l1, l5, k⟩ := h
    refine ⟨_, (pss_cons (ps_set (i := 3) sc_l_rule.nd rfl (.inl rfl) (pe_lst (pa_cons (pe_tup (pa_cons pe_str (pa_cons (pe_lst (pa_cons (pe_tup (pa_cons pe_str (pa_cons pe_str pa_nil))) pa_nil)) pa_nil))) (pa_cons (pe_tup (pa_cons pe_str (pa_cons (pe_lst (pa_cons (pe_tup (pa_cons pe_str (pa_cons pe_str pa_nil))) pa_nil)) pa_nil))) (pa_cons (pe_tup (pa_cons pe_str (pa_cons (pe_lst (pa_cons (pe_tup (pa_cons pe_str (pa_cons pe_str pa_nil))) pa_nil)) pa_nil))) (pa_cons (pe_tup (pa_cons pe_str (pa_cons (pe_lst (pa_cons (pe_tup (pa_cons pe_str (pa_cons pe_str pa_nil))) pa_nil)) pa_nil))) pa_nil))))))
    (pss_cons (ps_setLc (i := 3) (own := [("_law_one", 4)]) (g := gName 4) (by rfl) sc_l_rule.nd rfl rfl (sw_true rfl rfl rfl (by decide +kernel)) (pi_list (pv 3)) (blkOk_by (own := [("_law_one", 4)]) (N := ["_law_box", "_law_widest", "_law_longest_one", "_law_some", "_law_one", "_law_turn", "_law_stuffs", "_law_more", "_law_told"]) (sc := fnScope s_l_rule) (by decide +kernel)) (fun _ _ _ _ _ => (pg_name (i := 4) sc_l_rule.nd rfl (.inl rfl))) (fun _ _ _ _ _ => (pts_one (PW.pt (pw_and (pt_cmpR op_le (pe_callB call_len_str (by rfl) T.b_len (by decide +kernel) (pa_cons (pe_ix (show IxR _ (rIxT K) from ix_tup) (pv 4) pe_int (fun _ _ => rfl)) pa_nil)) (pv 1) (nomark _)) (pw_and1 (pt_cmpR op_le (pe_callB call_len_str (by rfl) T.b_len (by decide +kernel) (pa_cons (pe_ix (show IxR _ (rIxT K) from ix_tup) (pe_ix (show IxR _ (rIxL K) from ix_list) (pe_ix (show IxR _ (rIxT K) from ix_tup) (pv 4) pe_int (fun _ _ => rfl)) pe_int (fun _ _ => rfl)) pe_int (fun _ _ => rfl)) pa_nil)) (pv 2) (nomark _))))))) (fun _ _ _ _ _ => (pv 4)))
    (pss_cut (ps_if (PW.pt (pw_and (pt_cmpR (op_neD hr.units) (pv 3) (pe_lst pa_nil) (nomark _)) (pw_and1 (pt_cmpR op_eq (pe_c c_l_choose hr (by decide) rfl (pa_cons (pv 0) (pa_cons pe_int pa_nil))) pe_int (nomark _))))) (pss_one (ps_ret (pe_c c_l_one_of hr (by decide) rfl (pa_cons (pv 0) (pa_cons (pv 3) pa_nil))))) pss_nil)
    (pss_cons (ps_for PassesOwn.never rfl (pi_range1 (by rfl) T.b_range (pa_cons pe_int pa_nil)) (pg_name (i := 5) sc_l_rule.nd rfl (.inl rfl))
    (pss_cons (ps_set (i := 6) sc_l_rule.nd rfl (.inl rfl) (pe_lst pa_nil))
    (pss_cons (ps_for PassesOwn.never rfl (pi_range1 (by rfl) T.b_range (pa_cons (pe_c c_l_one_of hr (by decide) rfl (pa_cons (pv 0) (pa_cons (pe_lst (pa_cons pe_int (pa_cons pe_int (pa_cons pe_int (pa_cons pe_int (pa_cons pe_int pa_nil)))))) pa_nil))) pa_nil)) (pg_name (i := 7) sc_l_rule.nd rfl (.inl rfl))
    (pss_one (ps_expr (pe_bm PySem.F.plainAttrs_list PySem.F.slot_list_append PySem.F.type_list_append mt_append (pv 6) (pa_cons (pe_tup (pa_cons (pe_c c_l_word hr (by decide) rfl (pa_cons (pv 0) (pa_cons pe_int (pa_cons (pv 2) pa_nil)))) (pa_cons (pe_c c_l_one_of hr (by decide) rfl (pa_cons (pv 0) (pa_cons (pe_lst (pa_cons pe_str (pa_cons pe_str pa_nil))) pa_nil))) pa_nil))) pa_nil)))))
    (pss_cons (ps_set (i := 8) sc_l_rule.nd rfl (.inl rfl) (pe_tup (pa_cons (pe_c c_l_word hr (by decide) rfl (pa_cons (pv 0) (pa_cons pe_int (pa_cons (pv 1) pa_nil)))) (pa_cons (pv 6) pa_nil))))
    (pss_one (ps_if (pt_val (pe_c c_l_is_rule hr (by decide) rfl (pa_cons (pv 8) pa_nil))) (pss_one (ps_ret (pv 8))) pss_nil))))))
    (pss_one (ps_ret (pe_tup (pa_cons pe_str (pa_cons (pe_lst pa_nil) pa_nil))))))))), ?_⟩
    have i1 : 1 ≤ sizeLine := by decide
    have i2 : 2 ≤ sizeLine := by decide
    refine ⟨i2, fun a1 na1 => ⟨i1, fun a2 na2 => ⟨i2, fun a3 na3 => ?_⟩⟩⟩
    obtain ⟨sa, ta⟩ := told_const (z0 := "01110") (z1 := "11") (z2 := "0") (f := [false, true, true, true, false]) (p := [true, true]) (b := false) (by decide +kernel) (by decide +kernel) (by decide +kernel) na1 na2 na3
    generalize upd (upd (upd H a1 (.tup [.str "11", .str "0"])) a2 (.lst [.ref a1])) a3 (.tup [.str "01110", .ref a2]) = Ha at sa ta
    refine ⟨i2, fun b1 nb1 => ⟨i1, fun b2 nb2 => ⟨i2, fun b3 nb3 => ?_⟩⟩⟩
    obtain ⟨sb, tb⟩ := told_const (z0 := "0010") (z1 := "001") (z2 := "1") (f := [false, false, true, false]) (p := [false, false, true]) (b := true) (by decide +kernel) (by decide +kernel) (by decide +kernel) nb1 nb2 nb3
    generalize upd (upd (upd Ha b1 (.tup [.str "001", .str "1"])) b2 (.lst [.ref b1])) b3 (.tup [.str "0010", .ref b2]) = Hb at sb tb
    refine ⟨i2, fun c1 nc1 => ⟨i1, fun c2 nc2 => ⟨i2, fun c3 nc3 => ?_⟩⟩⟩
    obtain ⟨sc, tc⟩ := told_const (z0 := "11") (z1 := "1") (z2 := "0") (f := [true, true]) (p := [true]) (b := false) (by decide +kernel) (by decide +kernel) (by decide +kernel) nc1 nc2 nc3
    generalize upd (upd (upd Hb c1 (.tup [.str "1", .str "0"])) c2 (.lst [.ref c1])) c3 (.tup [.str "11", .ref c2]) = Hc at sc tc
    refine ⟨i2, fun d1 nd1 => ⟨i1, fun d2 nd2 => ⟨i2, fun d3 nd3 => ?_⟩⟩⟩
    obtain ⟨sd, td⟩ := told_const (z0 := "10001") (z1 := "00") (z2 := "1") (f := [true, false, false, false, true]) (p := [false, false]) (b := true) (by decide +kernel) (by decide +kernel) (by decide +kernel) nd1 nd2 nd3
    generalize upd (upd (upd Hc d1 (.tup [.str "00", .str "1"])) d2 (.lst [.ref d1])) d3 (.tup [.str "10001", .ref d2]) = Hd at sd td
    refine ⟨by show 4 ≤ sizeLine; decide, fun L nL => ?_⟩
    have sL : Same H (upd Hd L (.lst [.ref a3, .ref b3, .ref c3, .ref d3])) := ((((sa.trans sb).trans sc).trans sd)).trans (same_upd nL)
    have hL : upd Hd L (.lst [.ref a3, .ref b3, .ref c3, .ref d3]) L = some (.lst ([a3, b3, c3, d3].map V.ref)) := upd_same
    have hG : ∀ x ∈ [a3, b3, c3, d3], Good1 5 3 (upd Hd L (.lst [.ref a3, .ref b3, .ref c3, .ref d3])) x := fun x hx => by
      have g : Good1 5 3 Hd x := by
        rcases List.mem_cons.mp hx with rfl | hx
        · exact ⟨_, _, _, ((ta.same sb).same sc).same sd, by decide, by decide, by decide, by decide, okS_11⟩
        · rcases List.mem_cons.mp hx with rfl | hx
          · exact ⟨_, _, _, (tb.same sc).same sd, by decide, by decide, by decide, by decide, okS_001⟩
          · rcases List.mem_cons.mp hx with rfl | hx
            · exact ⟨_, _, _, tc.same sd, by decide, by decide, by decide, by decide, okS_1⟩
            · rw [List.mem_singleton.mp hx]
              exact ⟨_, _, _, td, by decide, by decide, by decide, by decide, okS_00⟩
      exact g.same (same_upd nL)
    generalize upd Hd L (.lst [.ref a3, .ref b3, .ref c3, .ref d3]) = H5 at sL hL hG
    clear td tc tb ta sd sc sb sa
    have las : [a3, b3, c3, d3].length ≤ 900 := by show 4 ≤ 900; decide
    generalize [a3, b3, c3, d3] = as at hL hG las
    refine ⟨_, rfl, L, rfl, ⟨_, SqL.of hL⟩, fun D nD => ?_⟩
    refine lc_it (walk_list (xs := as.map V.ref)) (fun i H2 => Same H5 H2 ∧ ∃ ts : List Addr, H2 D = some (.lst (ts.map V.ref)) ∧ ts.length ≤ i ∧ ∀ x ∈ ts, Good1 wd lo H5 x) ⟨same_upd nD, [], upd_same, Nat.zero_le _, fun _ h => nomatch h⟩ (fun i H2 _ h2 => h2.1.seq (SqL.of hL)) ?_ ?_
    · rintro i x H2 H3 hi ⟨s2, ts, hD, hts, hall⟩ ⟨rfl, hx⟩
      rw [List.getElem?_map] at hx
      obtain ⟨x, hq, rfl⟩ := Option.map_eq_some_iff.mp hx
      have g := hG x (List.mem_of_getElem? hq)
      obtain ⟨f0, p0, b0, tx, f2, f5, p1, p3, okr⟩ := id g
      obtain ⟨l, q, hx5, hl5, hq5⟩ := told1 tx
      rw [List.length_map] at hi
      have ef : (W f0).length = f0.length := W_len _
      have ep : (W p0).length = p0.length := W_len _
      refine ⟨rfl, ?_⟩
      refine ⟨_, rfl, x, _, 0, _, rfl, rfl, SqT.of (s2 _ _ hx5), rfl, _, rfl, by rw [ef]; exact sl_len (by omega), _, rfl, _, _, rfl, rfl, _, rfl, ?_⟩
      by_cases cf : f0.length ≤ wd
      · refine iteDT (by rw [ef]; omega) ?_
        refine ⟨_, rfl, x, _, 1, _, rfl, rfl, SqT.of (s2 _ _ hx5), rfl, l, _, 0, _, rfl, rfl, SqL.of (s2 _ _ hl5), rfl, q, _, 0, _, rfl, rfl, SqT.of (s2 _ _ hq5), rfl, _, rfl, by rw [ep]; exact sl_len (by omega), _, rfl, _, _, rfl, rfl, _, rfl, ?_⟩
        by_cases cp : p0.length ≤ lo
        · refine iteDT (by rw [ep]; omega) ?_
          refine ⟨_, rfl, _, hD, by rw [List.length_map]; exact sl_lt (by omega), ?_, ts ++ [x], ?_, by rw [List.length_append, List.length_cons, List.length_nil]; omega, fun y hy => ?_⟩
          · intro c' o e
            rw [upd_ne (ne_of_none e nD)]
            exact s2 _ _ e
          · rw [upd_same, List.map_append]; rfl
          · rcases List.mem_append.mp hy with m | m
            · exact hall y m
            · rw [List.mem_singleton.mp m]
              exact ⟨f0, p0, b0, tx, f2, cf, p1, cp, okr⟩
        · refine iteDF (by rw [ep]; omega) ?_
          exact ⟨s2, ts, hD, by omega, hall⟩
      · refine iteDF (by rw [ef]; omega) ?_
        exact ⟨s2, ts, hD, by omega, hall⟩
    · rintro H2 ⟨s2, ts, hD, hts, hall⟩
      rw [List.length_map] at hts
      have s02 : Same H H2 := sL.trans s2
      have hall2 : ∀ x ∈ ts, Good1 wd lo H2 x := fun x hx => (hall x hx).same s2
      clear hall hG hL
      have nDb : D ≠ bx := Box.ne (hb.same sL) nD
      have hD0 : H D = none := sL.free nD
      refine ⟨fun σ' H' => σ' = [some (.ref bx), some (.int wd), some (.int lo), some (.ref D), none, none, none, none, none] ∧ Up bx H H', ?_, ?_⟩
      · refine ⟨_, rfl, Nat.zero_le _, fun p hp => ?_⟩
        have s3 : Same H2 (upd H2 p (.lst [])) := same_upd hp
        obtain ⟨ds, hds, hok, hem⟩ := tolds_dp (K := K) fun x hx => (hall2 x hx).same s3
        refine ⟨.list ds, .list [], .lst (SqL.of (s3 _ _ hD)) hds, .lst (SqL.of upd_same) .nil, (dok_list hok).shaped (by decide), shaped_nil, _, rfl, ?_⟩
        rw [eqv_nil, hem]
        have s03 := s02.trans s3
        have hall3 : ∀ x ∈ ts, Good1 wd lo (upd H2 p (.lst [])) x := fun x hx => (hall2 x hx).same s3
        have hD3 := s3 _ _ hD
        generalize upd H2 p (.lst []) = H3 at s03 hall3 hD3
        cases hte : ts.isEmpty with
        | true => exact ⟨rfl, Up.of_same hb s03⟩
        | false =>
          have u3 := Up.of_same hb s03
          refine ⟨_, rfl, bx, 2, rfl, u3.2, by decide, by decide, fun d H4 d0 d1 u4 => ⟨rfl, _, rfl, ?_⟩⟩
          have u34 := u3.trans u4
          have hD4 := u4.1 _ _ hD3 nDb
          refine ite2 (fun _ => ?_) (fun _ => ⟨rfl, u34⟩)
          have hne : ts ≠ [] := fun z => by rw [z] at hte; cases hte
          refine ⟨_, rfl, _, rfl, bx, D, _, rfl, u34.2, hD4, nDb, ?_, ?_, fun v H5' hv u5 => ?_⟩
          · rw [List.length_map]; exact List.length_pos_iff.mpr hne
          · rw [List.length_map]; omega
          · obtain ⟨x, hx, rfl⟩ := List.mem_map.mp hv
            obtain ⟨f0, p0, b0, tx, h2, h5, hp0, hlo, okr⟩ := ((hall3 x hx).up u3.2 u4).up u34.2 u5
            refine k x f0 [(p0, b0)] H5' (u34.trans u5) tx h2 (by omega) (by show 1 ≤ 2; decide) (stOk1 hp0 (by omega)) okr fun s hs => ?_
            rw [List.mem_singleton.mp hs]
            exact hlo
      · clear hall2 hD hts s02 s2 hD0 nDb
        rintro σ' H3 ⟨rfl, u3⟩
        refine ⟨_, rfl, by decide, by decide, for_it walk_range (fun i σ H4 => ∃ v5 v6 v7 v8 : Option V, σ = [some (.ref bx), some (.int wd), some (.int lo), some (.ref D), none, v5, v6, v7, v8] ∧ Up bx H H4) ⟨_, _, _, _, rfl, u3⟩ (fun _ _ _ _ _ => trivial) ?_ ?_⟩
        · rintro i x σ H4 H4' hi ⟨v5, v6, v7, v8, rfl, u4⟩ ⟨rfl, rfl⟩
          refine ⟨Nat.zero_le _, fun S nS => ?_⟩
          have nSb : S ≠ bx := u4.2.ne nS
          have nS0 : H S = none := u4.free nS
          have u5 : Up bx H (upd H4' S (.lst [])) := u4.same (same_upd nS)
          have hS5 : upd H4' S (.lst []) S = some (.lst []) := upd_same
          generalize upd H4' S (.lst []) = H5' at u5 hS5
          refine ⟨_, rfl, by show 5 ≤ sizeLine; decide, fun l0 nl0 => ?_⟩
          have u6 := u5.same (same_upd (o := .lst [.int 0, .int 1, .int 1, .int 1, .int 2]) nl0)
          refine ⟨bx, l0, _, rfl, u6.2, upd_same, u5.2.ne nl0, by decide, by decide, fun v H7 hv u7 => ?_⟩
          obtain ⟨n, rfl, hn⟩ := mem5 hv
          have hS7 := u7.1 _ _ (same_upd nl0 _ _ hS5) nSb
          have u67 := u6.trans u7
          refine ⟨_, rfl, by omega, by omega, for_it walk_range (fun j σ H8 => ∃ (v7 : Option V) (ps : List Addr) (kb : Addr → Stf), σ = [some (.ref bx), some (.int wd), some (.int lo), some (.ref D), none, some (.int (0 + (i : Int))), some (.ref S), v7, v8] ∧ Up bx H H8 ∧ H8 S = some (.lst (ps.map V.ref)) ∧ StV H8 kb ps ∧ ps.length = j ∧ ∀ s ∈ ps.map kb, s.1 ≠ [] ∧ s.1.length ≤ lo) ⟨_, [], fun _ => ([], false), rfl, u67, hS7, (fun _ h => nomatch h), rfl, (fun _ h => nomatch h)⟩ (fun _ _ _ _ _ => trivial) ?_ ?_⟩
          · rintro j x σ H8 H8' hj ⟨v7, ps, kb, rfl, u8, hS8, hst, hps, hpat⟩ ⟨rfl, rfl⟩
            have hj2 : j < 2 := by
              have : j < ((n : Int)).toNat := hj
              omega
            refine ⟨_, rfl, .inl ⟨rfl, _, SqL.of hS8⟩, _, rfl, _, rfl, bx, 1, lo, rfl, u8.2, l1, by omega, fun pw H9 pw1 pwl u9 => ?_⟩
            have u89 := u8.trans u9
            refine ⟨_, rfl, i2, fun l1' nl1 => ?_⟩
            have u10 := u89.same (same_upd (o := .lst [.str "0", .str "1"]) nl1)
            refine ⟨bx, l1', _, rfl, u10.2, upd_same, u89.2.ne nl1, by decide, by decide, fun v H11 hv u11 => ?_⟩
            obtain ⟨bb, rfl⟩ := mem2 hv
            have u1011 := u10.trans u11
            refine ⟨i2, fun q nq => ?_⟩
            have hS11 : H11 S = some (.lst (ps.map V.ref)) := u11.1 _ _ (same_upd nl1 _ _ (u9.1 _ _ hS8 nSb)) nSb
            have hst11 : StV H11 kb ps := fun t ht => u11.1 _ _ (same_upd nl1 _ _ (u9.1 _ _ (hst t ht) (u8.2.neT (hst t ht)))) (u8.2.neT (hst t ht))
            have u12 := u1011.same (same_upd (o := .tup [.str (W pw), .str (W [bb])]) nq)
            have hS12 := same_upd (o := .tup [.str (W pw), .str (W [bb])]) nq _ _ hS11
            have hst12 : StV (upd H11 q (.tup [.str (W pw), .str (W [bb])])) (fun a => if a = q then (pw, bb) else kb a) (ps ++ [q]) := fun t ht => by
              rcases List.mem_append.mp ht with m | m
              · have nt : t ≠ q := ne_of_none (hst11 t m) nq
                rw [upd_ne nt]
                simp only [if_neg nt]
                exact hst11 t m
              · rw [List.mem_singleton.mp m, upd_same]
                simp only [if_pos]
            have hmk : (ps ++ [q]).map (fun a => if a = q then (pw, bb) else kb a) = ps.map kb ++ [(pw, bb)] := by
              rw [List.map_append]
              congr 1
              · refine List.map_congr_left fun t ht => if_neg (ne_of_none (hst11 t ht) nq)
              · show [if q = q then (pw, bb) else kb q] = _
                rw [if_pos rfl]
            generalize upd H11 q (.tup [.str (W pw), .str (W [bb])]) = H12 at u12 hS12 hst12
            refine ⟨S, _, _, rfl, rfl, hS12, by rw [List.length_map]; exact sl_lt (by omega), ?_⟩
            have uS : Up bx H (upd H12 S (.lst (ps.map V.ref ++ [.ref q]))) := u12.mut nS0 nSb
            refine ⟨_, ps ++ [q], fun a => if a = q then (pw, bb) else kb a, rfl, uS, by rw [upd_same, List.map_append]; rfl, fun t ht => ?_, by rw [List.length_append, List.length_cons, List.length_nil]; omega, ?_⟩
            · rw [upd_ne (ne_of (hst12 t ht) hS12 (by intro z; cases z))]
              exact hst12 t ht
            · rw [hmk]
              intro s hs
              rcases List.mem_append.mp hs with m | m
              · exact hpat s m
              · rw [List.mem_singleton.mp m]
                exact ⟨fun z => by rw [show pw = [] from z] at pw1; exact absurd pw1 (by decide), pwl⟩
          · rintro σ H8 ⟨v7, ps, kb, rfl, u8, hS8, hst, hps, hpat⟩
            refine ⟨_, rfl, _, rfl, bx, 2, wd, rfl, u8.2, w2, by omega, fun fw H9 fw2 fwl u9 => ⟨_, rfl, i2, fun t nt => ?_⟩⟩
            have u89 := u8.trans u9
            have hS9 := u9.1 _ _ hS8 nSb
            have hst9 : StV H9 kb ps := fun t ht => u9.1 _ _ (hst t ht) (u8.2.neT (hst t ht))
            have told : Told (upd H9 t (.tup [.str (W fw), .ref S])) t fw (ps.map kb) := ⟨S, ps, kb, upd_same, same_upd nt _ _ hS9, hst9.same (same_upd nt), rfl⟩
            have u10 := u89.same (same_upd (o := .tup [.str (W fw), .ref S]) nt)
            generalize upd H9 t (.tup [.str (W fw), .ref S]) = H10 at told u10
            have hn2 : ps.length ≤ 2 := by
              have : ps.length = ((n : Int)).toNat := hps
              omega
            refine ⟨_, rfl, t, fw, ps.map kb, rfl, told, by rw [List.length_map]; omega, fun s hs => Nat.le_trans (hpat s hs).2 l5, fun r H11 s11 hr11 => ⟨_, rfl, ?_⟩⟩
            cases r with
            | true =>
              obtain ⟨hfree, hokr⟩ := hr11 rfl
              refine ⟨_, rfl, ?_⟩
              refine k t fw (ps.map kb) H11 (u10.same s11) (told.same s11) fw2 (by omega) (by rw [List.length_map]; exact hn2) ⟨by rw [List.length_map]; omega, fun s hs => (hpat s hs).1, longM_max fun s hs => Nat.le_trans (hpat s hs).2 (by omega), hfree⟩ hokr fun s hs => (hpat s hs).2
            | false => exact ⟨_, _, _, _, rfl, u10.same s11⟩
        · rintro σ H4 ⟨v5, v6, v7, v8, rfl, u4⟩
          refine ⟨Nat.zero_le _, fun l nl => ⟨i2, fun t nt => ?_⟩⟩
          have st : Same H4 (upd (upd H4 l (.lst [])) t (.tup [.str "110", .ref l])) := (same_upd nl).trans (same_upd nt)
          refine k t [true, true, false] [] _ (u4.same st) ⟨l, [], fun _ => ([], false), ?_, same_upd nt _ _ upd_same, (fun _ h => nomatch h), rfl⟩ (by decide) (by show 3 ≤ max wd 3; omega) (Nat.zero_le _) ⟨Nat.zero_le _, (fun _ h => nomatch h), Nat.zero_le _, .nil⟩ okS_nil (fun _ h => nomatch h)
          rw [upd_same]
          have e : ("110" : Str) = W [true, true, false] := by decide +kernel
          rw [e]
end
end U

set_option maxRecDepth 100000
set_option maxHeartbeats 4000000
namespace U
open PySem PySem.Spec PyProof.Rows
open L2 hiding Fun CX0 E0 pass0 Fun.binds
open C8 Lx SX StX
def spMade (C : Addr) : Sp := fun vs H Q _ => ∃ (t : Addr) (f : List Bool) (ss : List Stf), vs = [.ref t] ∧ Told H t f ss ∧ StOk ss ∧ OkR ss ∧ 2 ≤ f.length ∧ f.length ≤ 1000 ∧
  ∀ a ss' H', Same H H' → ss'.Perm ss → SortedS ss' → RuAt C H' a f ss' → Q (.ref a) H'
theorem scal_oB (a b : Option Bool) : scal (oB a) (oB b) = true := by cases a <;> cases b <;> rfl
theorem scal_oB2 (a : Option Bool) (b : Bool) : scal (oB a) (.str (W [b])) = true := by cases a <;> rfl
def spLaw (K : PySem.W.Frag) : Sp := fun vs H Q _ => ∃ (a : Addr) (ns : List Int), vs = [.ref a] ∧ SqL K H a (ns.map V.int) ∧ ns.length ≤ 63 ∧ ∀ H', Q (.bl true) H'
/-- at most one pattern ends a line -/
theorem one_ends {ss : List Stf} (h : SufFree ss) (l : List Bool) : (ss.filter fun s => s.1.isSuffixOf l).length ≤ 1 := by
  have hp : (ss.filter fun s => s.1.isSuffixOf l).Pairwise fun a b => ¬ a.1 <:+ b.1 ∧ ¬ b.1 <:+ a.1 := List.Pairwise.filter _ h
  have hm : ∀ s ∈ ss.filter fun s => s.1.isSuffixOf l, s.1 <:+ l := fun s hs => List.isSuffixOf_iff_suffix.mp (List.mem_filter.mp hs).2
  generalize ss.filter (fun s => s.1.isSuffixOf l) = fs at hp hm
  match fs, hp, hm with
  | [], _, _ => exact Nat.zero_le _
  | [_], _, _ => exact Nat.le_refl _
  | a :: b :: r, hp, hm =>
    have h1 := (List.pairwise_cons.mp hp).1 b List.mem_cons_self
    rcases List.suffix_or_suffix_of_suffix (hm a List.mem_cons_self) (hm b (List.mem_cons_of_mem _ List.mem_cons_self)) with z | z
    · exact absurd z h1.1
    · exact absurd z h1.2
theorem put_app {ss : List Stf} (h : SufFree ss) {p : List Bool} {b : Bool} (hm : (p, b) ∈ ss) (x : List Bool) : putM ss (x ++ p) = some b := (put_iff h).mpr ⟨p, hm, List.suffix_append _ _⟩
theorem put_tail {ss : List Stf} (h : SufFree ss) {p : List Bool} {b : Bool} (hm : (p, b) ∈ ss) (hp : p ≠ []) : putM ss p.tail = none := by
  cases e : putM ss p.tail with
  | none => rfl
  | some c =>
    obtain ⟨q, hq, hs⟩ := (put_iff h).mp e
    have hl := hs.length_le
    have hpl : 0 < p.length := List.length_pos_iff.mpr hp
    rw [List.length_tail] at hl
    have ne : (q, c) ≠ (p, b) := fun z => by
      have : q = p := congrArg Prod.fst z
      rw [this] at hl
      omega
    exact absurd (hs.trans (List.tail_suffix p)) (h.ne hq hm ne)
def reprO : Option Bool → Str
  | none => "None"
  | some b => reprText (W [b])
theorem reprO_len (b : Bool) : (reprText (W [b])).length ≤ sizeLine := by
  have e : (reprText (W [b])).length ≤ 10 := by cases b <;> decide +kernel
  exact Nat.le_trans e (by decide)
theorem call_repr_oB {X : Cx} : CallR X (.builtin "repr") (fun xs H Q => ∃ o, xs = [oB o] ∧ Q (.str (reprO o)) H) := by
  intro pins s σ H xs us Q I r h
  obtain ⟨o, rfl, q⟩ := h
  obtain ⟨u, rfl, ru⟩ := vals1 r
  cases o with
  | none =>
    obtain rfl : u = Value.none := ru
    exact PySem.P.repr_of_none ⟨.str _, H, I.tok _, ⟨_, rfl⟩, q⟩
  | some b =>
    obtain ⟨t, rfl⟩ := ru
    exact PySem.P.repr_of_str ⟨.str _, H, I.tok _, ⟨_, rfl⟩, q⟩ (reprO_len b)
section
variable {P : Program} {w : World} {K : PySem.W.Frag} {mg : Str → Option Value} {base : Heap}
theorem sc_l_made : FnScope ["_law_rule_here"] ["_law_rule_here"] (fnScope s_l_made) := fnScope_by (by decide +kernel)
theorem cal_l_made {f C : Addr} {fd : FuncData} (F : Def K mg "_law_made" s_l_made f fd) (b : Binds K fd ["_law_rule_here"] []) (T : Tx mg) (m_Rule2 : Mak P w K mg base 5 "Rule" C (spRuInit K C) []) : Cal P w K mg base 7 "_law_made" (spMade C) [] := by
  refine cal0 F b .nil sc_l_made (fun vs H Q E h => ?_) (fun cdv A outer s H vs Q E hr h => ?_)
  · obtain ⟨_, _, _, rfl, _⟩ := h; rfl
  · obtain ⟨t, fl, ss, rfl, ⟨l, ps, kb, ht, hl, hs, rfl⟩, ok, hO, h2, hlen, k⟩ := h
    refine ⟨_, (pss_one (ps_ret (pe_mk m_Rule2 hr (by decide) rfl (pa_cons (pe_ix ix_tup (pv 0) pe_int (fun _ _ => rfl)) (pa_cons (pe_ix ix_tup (pv 0) pe_int (fun _ _ => rfl)) pa_nil))))), ?_⟩
    refine ⟨_, rfl, t, _, 0, _, rfl, rfl, SqT.of ht, rfl, _, rfl, t, _, 1, _, rfl, rfl, SqT.of ht, rfl, fun x dx nx ndx nex => ?_⟩
    have sm : Same H (upd (upd H dx (.own x)) x (.ins C dx [])) := fun c o e => by
      rw [upd_ne (ne_of_none e nx), upd_ne (ne_of_none e ndx)]; exact e
    refine ⟨x, dx, l, fl, ps, kb, rfl, upd_same, .inl (SqL.of (sm _ _ hl)), hs.same sm, ok, hO, h2, hlen, fun H' ss' keep pm srt hR => ⟨rfl, ?_⟩⟩
    exact k x ss' H' (Same.made nx ndx keep) pm srt hR
end
end U

set_option maxRecDepth 100000
set_option maxHeartbeats 4000000
namespace U
open PySem PySem.Spec PyProof.Rows
open L2 hiding Fun CX0 E0 pass0 Fun.binds
open C8 Lx SX StX
def spLBody : Sp := fun vs H Q _ => ∃ (t : Addr) (f m : List Bool) (ss : List Stf), vs = [.ref t, .str (W m)] ∧ Told H t f ss ∧ m.length ≤ 1000 ∧ ss.length ≤ 1000 ∧ (∀ s ∈ ss, s.1.length ≤ 1000) ∧ OkS ss ∧ ∀ l H', Body ss m l → l.length ≤ 20 * m.length → Same H H' → Q (.str (W l)) H'
theorem putL_at {ss : List Stf} {l x : List Bool} (h : Ins ss l x) {j : Nat} (hj : j < x.length) : putL ss (l ++ x.take j) = [x[j]] := by
  unfold putL
  rw [h.at (List.getElem?_eq_getElem hj)]
theorem putL_stop {ss : List Stf} {l x : List Bool} (h : Ins ss l x) {j : Nat} (hj : x.length ≤ j) : putL ss (l ++ x.take j) = [] := by
  unfold putL
  rw [List.take_of_length_le hj, h.end]
section
variable {P : Program} {w : World} {K : PySem.W.Frag} {mg : Str → Option Value} {base : Heap}
theorem sc_l_body : FnScope ["_law_rule_here", "_law_message", "_law_line", "_law_bit", "_law_turn", "_law_due"] ["_law_rule_here", "_law_message"] (fnScope s_l_body) := fnScope_by (by decide +kernel)
theorem cal_l_body {f : Addr} {fd : FuncData} (F : Def K mg "_law_body" s_l_body f fd) (b : Binds K fd ["_law_rule_here", "_law_message"] []) (T : Tx mg) (c_l_put : Cal P w K mg base 1 "_law_put" spLPut []) : Cal P w K mg base 2 "_law_body" spLBody [] := by
  refine cal0 F b .nil sc_l_body (fun vs H Q E h => ?_) (fun cdv A outer s H vs Q E hr h => ?_)
  · obtain ⟨_, _, _, _, rfl, _⟩ := h; rfl
  · obtain ⟨t, fl, m, ss, rfl, told, hm, hn, hs, hO, k⟩ := h
    refine ⟨_, (pss_cons (ps_set (i := 2) sc_l_body.nd rfl (.inl rfl) pe_str)
    (pss_cons (ps_for PassesOwn.never rfl (pi_str (pv 1)) (pg_name (i := 3) sc_l_body.nd rfl (.inl rfl))
    (pss_cons (ps_set (i := 2) sc_l_body.nd rfl (.inl rfl) (pe_op op_add_str (pv 2) (pv 3)))
    (pss_one (ps_for PassesOwn.never rfl (pi_range1 (by rfl) T.b_range (pa_cons pe_int pa_nil)) (pg_name (i := 4) sc_l_body.nd rfl (.inl rfl))
    (pss_cons (ps_set (i := 5) sc_l_body.nd rfl (.inl rfl) (pe_c c_l_put hr (by decide) rfl (pa_cons (pv 0) (pa_cons (pv 2) pa_nil))))
    (pss_cons (ps_if (pt_cmpR op_eq (pv 5) pe_str (nomark _)) (pss_one ps_break) pss_nil)
    (pss_one (ps_set (i := 2) sc_l_body.nd rfl (.inl rfl) (pe_op op_add_str (pv 2) (pv 5))))))))))
    (pss_one (ps_ret (pv 2))))), ?_⟩
    obtain ⟨g, g0, g1, g2⟩ := body_steps hO m
    refine ⟨_, rfl, W m, rfl, for_it walk_str (fun i σ H2 => ∃ v3 v4 v5 : Option V, σ = [some (.ref t), some (.str (W m)), some (.str (W (g i))), v3, v4, v5] ∧ Same H H2) ⟨none, none, none, by rw [g0, ← W_nil]; rfl, Same.refl _⟩ (fun _ _ _ _ _ => trivial) ?_ ?_⟩
    · rintro i x σ H2 H3 hi ⟨v3, v4, v5, rfl, s2⟩ ⟨rfl, c, hc, rfl⟩
      obtain ⟨bb, hbb, rfl⟩ := W_get hc
      have hi' := (List.getElem?_eq_some_iff.mp hbb).1
      obtain ⟨x, hx, hx19, eg⟩ := g1 i bb hbb
      have hl := (g2 i (Nat.le_of_lt hi')).2
      have e1 : (W (g i)).length = (g i).length := W_len _
      have e2 : (⟨#[bt bb]⟩ : Str).length = 1 := W_len [bb]
      have ew : W (g i) ++ (⟨#[bt bb]⟩ : Str) = W (g i ++ [bb]) := W_cat (g i) [bb]
      refine ⟨_, rfl, _, rfl, _, _, rfl, rfl, by rw [e1, e2]; exact sl_len (by omega), ?_⟩
      rw [ew]
      have l3 : (g i ++ [bb]).length = (g i).length + 1 := by rw [List.length_append]; rfl
      have fin : ∀ (j : Nat) (v4 v5 : Option V) (H4 : Hp), x.length ≤ j → Same H3 H4 → ∃ v3 v4' v5' : Option V, [some (V.ref t), some (V.str (W m)), some (V.str (W (g i ++ [bb] ++ x.take j))), some (V.str ⟨#[bt bb]⟩), v4, v5] = [some (.ref t), some (.str (W m)), some (.str (W (g (i + 1)))), v3, v4', v5'] ∧ Same H H4 := fun j v4 v5 H4 hj s4 => by
        rw [List.take_of_length_le hj, ← eg]
        exact ⟨_, _, _, rfl, s2.trans s4⟩
      refine ⟨_, rfl, by decide, by decide, for_it walk_range (fun j σ H4 => ∃ v4 v5 : Option V, σ = [some (.ref t), some (.str (W m)), some (.str (W (g i ++ [bb] ++ x.take j))), some (.str ⟨#[bt bb]⟩), v4, v5] ∧ Same H3 H4) ⟨v4, v5, by rw [List.take_zero, List.append_nil]; rfl, Same.refl _⟩ (fun _ _ _ _ _ => trivial) ?_ ?_⟩
      · rintro j y σ H4 H4' hj ⟨v4, v5, rfl, s4⟩ ⟨rfl, rfl⟩
        have e3 : (W (g i ++ [bb] ++ x.take j)).length = (g i ++ [bb] ++ x.take j).length := W_len _
        have l4 : (g i ++ [bb] ++ x.take j).length ≤ (g i).length + 20 := by rw [List.length_append, l3, List.length_take]; omega
        refine ⟨_, rfl, _, rfl, t, fl, _, ss, rfl, told.same (s2.trans s4), by omega, hn, hs, fun H5 s5 => ?_⟩
        refine ⟨_, rfl, rfl, _, rfl, ?_⟩
        by_cases hlt : j < x.length
        · rw [putL_at hx hlt]
          refine iteDF (fun z => ?_) ?_
          · have z' := V.str.inj z
            rw [W_nil] at z'
            cases (W_inj z')
          · refine ⟨_, rfl, _, rfl, _, _, rfl, rfl, by rw [e3, W_len]; exact sl_len (by simp only [List.length_cons, List.length_nil]; omega), ?_⟩
            rw [W_cat]
            have et : g i ++ [bb] ++ x.take j ++ [x[j]] = g i ++ [bb] ++ x.take (j + 1) := by rw [List.take_add_one, List.getElem?_eq_getElem hlt, List.append_assoc]; rfl
            rw [et]
            exact ⟨_, _, rfl, s4.trans s5⟩
        · rw [putL_stop hx (by omega)]
          refine iteDT (by rw [W_nil]) ?_
          exact fin j _ _ H5 (by omega) (s4.trans s5)
      · rintro σ H4 ⟨v4, v5, rfl, s4⟩
        exact fin _ _ _ H4 (by show x.length ≤ 24; omega) s4
    · rintro σ H2 ⟨v3, v4, v5, rfl, s2⟩
      have g3 := g2 m.length (Nat.le_refl _)
      rw [List.take_length] at g3
      refine ⟨_, rfl, ?_⟩
      rw [W_size]
      exact k _ H2 g3.1 g3.2 s2
end
end U

set_option maxRecDepth 100000
set_option maxHeartbeats 4000000
namespace U
open PySem PySem.Spec PyProof.Rows
open L2 hiding Fun CX0 E0 pass0 Fun.binds
open C8 Lx SX StX
/-! all words of a size, ascending -/
def wdsP : Nat → List (List Bool)
  | 0 => [[]]
  | n + 1 => (wdsP n).map (false :: ·) ++ (wdsP n).map (true :: ·)
theorem wdsP_len : ∀ n, (wdsP n).length = 2 ^ n
  | 0 => rfl
  | n + 1 => by
    show ((wdsP n).map (false :: ·) ++ (wdsP n).map (true :: ·)).length = _
    rw [List.length_append, List.length_map, List.length_map, wdsP_len n, Nat.pow_succ]
    omega
theorem wdsP_size : ∀ {n : Nat} {w : List Bool}, w ∈ wdsP n → w.length = n
  | 0, w, h => by rw [List.mem_singleton.mp h]; rfl
  | n + 1, w, h => by
    rcases List.mem_append.mp h with h1 | h1
    · obtain ⟨v, hv, rfl⟩ := List.mem_map.mp h1
      rw [List.length_cons, wdsP_size hv]
    · obtain ⟨v, hv, rfl⟩ := List.mem_map.mp h1
      rw [List.length_cons, wdsP_size hv]
theorem num_acc : ∀ (w : List Bool) (a : Nat), w.foldl (fun n b => 2 * n + (if b then 1 else 0)) a = a * 2 ^ w.length + num w
  | [], a => by show a = a * 1 + 0; omega
  | b :: r, a => by
    have h1 := num_acc r (2 * a + (if b then 1 else 0))
    have h2 := num_acc r (2 * 0 + (if b then 1 else 0))
    show r.foldl _ (2 * a + (if b then 1 else 0)) = a * 2 ^ (r.length + 1) + r.foldl _ (2 * 0 + (if b then 1 else 0))
    rw [h1, h2, Nat.pow_succ, Nat.add_mul, Nat.add_mul]
    have : 2 * a * 2 ^ r.length = a * (2 ^ r.length * 2) := by rw [Nat.mul_comm 2 a, Nat.mul_assoc, Nat.mul_comm 2]
    omega
theorem num_cons (b : Bool) (w : List Bool) : num (b :: w) = (if b then 2 ^ w.length else 0) + num w := by
  have := num_acc w (2 * 0 + (if b then 1 else 0))
  show w.foldl _ (2 * 0 + (if b then 1 else 0)) = _
  rw [this]
  cases b <;> simp
theorem num_lt : ∀ w : List Bool, num w < 2 ^ w.length
  | [] => by show 0 < 1; decide
  | b :: r => by
    have := num_lt r
    rw [num_cons, List.length_cons, Nat.pow_succ]
    split <;> omega
theorem wdsP_at : ∀ (m : List Bool), (wdsP m.length)[num m]? = some m
  | [] => rfl
  | b :: r => by
    have ih := wdsP_at r
    have hl := num_lt r
    have e : (wdsP r.length).length = 2 ^ r.length := wdsP_len _
    rw [num_cons]
    show ((wdsP r.length).map (false :: ·) ++ (wdsP r.length).map (true :: ·))[_]? = _
    cases b with
    | false =>
      rw [if_neg (by decide), Nat.zero_add, List.getElem?_append_left (by rw [List.length_map]; omega), List.getElem?_map, ih]
      rfl
    | true =>
      rw [if_pos rfl, List.getElem?_append_right (by rw [List.length_map]; omega), List.length_map, e, List.getElem?_map, show 2 ^ r.length + num r - 2 ^ r.length = num r by omega, ih]
      rfl
theorem num_inj : ∀ {a b : List Bool}, a.length = b.length → num a = num b → a = b := by
  intro a b hl hn
  have h1 := wdsP_at a
  have h2 := wdsP_at b
  rw [hl, hn, h2] at h1
  exact (Option.some.inj h1).symm
theorem wdsP_num {n i : Nat} {w : List Bool} (h : (wdsP n)[i]? = some w) : num w = i := by
  have hs := wdsP_size (List.mem_of_getElem? h)
  have hi := (List.getElem?_eq_some_iff.mp h).1
  rw [wdsP_len] at hi
  -- the words are told one by one
  have : ∀ n i w, (wdsP n)[i]? = some w → num w = i := by
    intro n
    induction n with
    | zero =>
      intro i w h
      have := (List.getElem?_eq_some_iff.mp h).1
      have hi : i = 0 := by simpa [wdsP] using this
      subst hi
      have : w = [] := by simpa [wdsP] using h.symm
      rw [this]; rfl
    | succ n ih =>
      intro i w h
      have e : (wdsP n).length = 2 ^ n := wdsP_len _
      have h' : ((wdsP n).map (false :: ·) ++ (wdsP n).map (true :: ·))[i]? = some w := h
      by_cases c : i < 2 ^ n
      · rw [List.getElem?_append_left (by rw [List.length_map]; omega), List.getElem?_map] at h'
        obtain ⟨v, hv, rfl⟩ := Option.map_eq_some_iff.mp h'
        rw [num_cons, if_neg (by decide), ih i v hv, Nat.zero_add]
      · rw [List.getElem?_append_right (by rw [List.length_map]; omega), List.length_map, e, List.getElem?_map] at h'
        obtain ⟨v, hv, rfl⟩ := Option.map_eq_some_iff.mp h'
        rw [num_cons, if_pos rfl, ih _ v hv, wdsP_size (List.mem_of_getElem? hv)]
        omega
  exact this n i w h
theorem first_of {n : Nat} {p : List Bool → Bool} {m : List Bool} {r : List (List Bool)} (h : (wdsP n).filter p = m :: r) : m.length = n ∧ p m = true ∧ ∀ m', m'.length = n → num m' < num m → p m' = false := by
  have h1 : (wdsP n).find? p = some m := by rw [← List.head?_filter, h]; rfl
  have hm := List.mem_of_find?_eq_some h1
  refine ⟨wdsP_size hm, List.find?_some h1, fun m' hl hn => ?_⟩
  obtain ⟨_, i, hi, e1, e2⟩ := List.find?_eq_some_iff_getElem.mp h1
  have ei : num m = i := wdsP_num (n := n) (by rw [List.getElem?_eq_getElem hi, e1])
  have h3 := wdsP_at m'
  rw [hl] at h3
  obtain ⟨h4, h5⟩ := List.getElem?_eq_some_iff.mp h3
  have := e2 (num m') (by omega)
  rw [h5] at this
  simpa using this
theorem none_of {n : Nat} {p : List Bool → Bool} (h : (wdsP n).filter p = []) : ∀ m', m'.length = n → p m' = false := fun m' hl => by
  have h3 := wdsP_at m'
  rw [hl] at h3
  have := List.filter_eq_nil_iff.mp h m' (List.mem_of_getElem? h3)
  simpa using this
/-! words in a list -/
def wdsV (ws : List (List Bool)) : List V := ws.map fun w => V.str (W w)
def wdsD (ws : List (List Bool)) : List PyData := ws.map fun w => PyData.str (W w)
theorem wdsV_len (ws : List (List Bool)) : (wdsV ws).length = ws.length := List.length_map _
theorem wdsV_app (a b : List (List Bool)) : wdsV (a ++ b) = wdsV a ++ wdsV b := List.map_append
theorem wdsV_get {ws : List (List Bool)} {i : Nat} {x : V} (h : (wdsV ws)[i]? = some x) : ∃ w, ws[i]? = some w ∧ x = .str (W w) := by
  unfold wdsV at h
  rw [List.getElem?_map] at h
  obtain ⟨w, hw, rfl⟩ := Option.map_eq_some_iff.mp h
  exact ⟨w, hw, rfl⟩
theorem dp_wds {K : PySem.W.Frag} {H : Hp} : ∀ ws : List (List Bool), DpAll K H (wdsV ws) (wdsD ws)
  | [] => .nil
  | w :: r => .cons (.str _) (dp_wds r)
theorem ok_W (l : List Bool) : PyData.strOk (W l) = true := by
  unfold PyData.strOk
  show ((l.map bt).toArray.all _) = true
  rw [List.all_toArray, List.all_map, List.all_eq_true]
  intro b _
  cases b <;> rfl
theorem lay_wds : ∀ ws : List (List Bool), PyData.canLayAll0 (wdsD ws) = true ∧ PyData.depthAll (wdsD ws) = 0
  | [] => by simp [wdsD, PyData.canLayAll0, PyData.depthAll]
  | w :: r => by
    obtain ⟨h1, h2⟩ := lay_wds r
    show PyData.canLayAll0 (PyData.str (W w) :: wdsD r) = true ∧ PyData.depthAll (PyData.str (W w) :: wdsD r) = 0
    rw [PyData.canLayAll0, PyData.depthAll, h1, h2, PyData.canLay0, PyData.depth, ok_W]
    exact ⟨rfl, rfl⟩
theorem shaped_wds (ws : List (List Bool)) : SeqAt.shaped (.list (wdsD ws)) = true := by
  unfold SeqAt.shaped
  rw [PyData.canLay0, (lay_wds ws).1, PyData.depth, (lay_wds ws).2]
  rfl
theorem eqv_wnil (ws : List (List Bool)) : PyData.eqv (.list (wdsD ws)) (.list []) = ws.isEmpty := by
  cases ws with
  | nil => simp [wdsD, PyData.eqv, PyData.eqvAll]
  | cons w r => simp [wdsD, PyData.eqv, PyData.eqvAll]
def spWordsP : Sp := fun vs H Q _ => ∃ n : Nat, vs = [.int n] ∧ n ≤ 12 ∧ ∀ l H', H l = none → Same H H' → H' l = some (.lst (wdsV (wdsP n))) → Q (.ref l) H'
section
variable {P : Program} {w : World} {K : PySem.W.Frag} {mg : Str → Option Value} {base : Heap}
theorem sc_l_words : FnScope ["_law_size", "_law_found", "_law_turn", "_law_word_here"] ["_law_size"] (fnScope s_l_words) := fnScope_by (by decide +kernel)
theorem cal_l_words {f : Addr} {fd : FuncData} (F : Def K mg "_law_words" s_l_words f fd) (b : Binds K fd ["_law_size"] []) (T : Tx mg) : Cal P w K mg base 1 "_law_words" spWordsP [] := by
  refine cal0 F b .nil sc_l_words (fun vs H Q E h => ?_) (fun cdv A outer s H vs Q E hr h => ?_)
  · obtain ⟨_, rfl, _⟩ := h; rfl
  · obtain ⟨n, rfl, hn, k⟩ := h
    refine ⟨_, (pss_cons (ps_set (i := 1) sc_l_words.nd rfl (.inl rfl) (pe_lst (pa_cons pe_str pa_nil)))
    (pss_cons (ps_for PassesOwn.never rfl (pi_range1 (by rfl) T.b_range (pa_cons (pv 0) pa_nil)) (pg_name (i := 2) sc_l_words.nd rfl (.inl rfl))
    (pss_one (ps_set (i := 1) sc_l_words.nd rfl (.inl rfl) (pe_op op_cat (pe_lc (own := [("_law_word_here", 3)]) (g := gName 3) (by rfl) sc_l_words.nd (pi_list (pv 1)) (blkOk_by (own := [("_law_word_here", 3)]) (N := ["_law_size", "_law_found", "_law_turn", "_law_word_here"]) (sc := fnScope s_l_words) (by decide +kernel)) (fun _ _ _ _ _ => (pg_name (i := 3) sc_l_words.nd rfl (.inl rfl))) (fun _ _ _ _ _ => pts_nil) (fun _ _ _ _ _ => (pe_op op_add_str pe_str (pv 3)))) (pe_lc (own := [("_law_word_here", 3)]) (g := gName 3) (by rfl) sc_l_words.nd (pi_list (pv 1)) (blkOk_by (own := [("_law_word_here", 3)]) (N := ["_law_size", "_law_found", "_law_turn", "_law_word_here"]) (sc := fnScope s_l_words) (by decide +kernel)) (fun _ _ _ _ _ => (pg_name (i := 3) sc_l_words.nd rfl (.inl rfl))) (fun _ _ _ _ _ => pts_nil) (fun _ _ _ _ _ => (pe_op op_add_str pe_str (pv 3))))))))
    (pss_one (ps_ret (pv 1))))), ?_⟩
    refine ⟨by show 1 ≤ sizeLine; decide, fun q nq => ?_⟩
    have hq : upd H q (.lst [.str ""]) q = some (.lst (wdsV (wdsP 0))) := by rw [upd_same, W_nil]; rfl
    have sq := same_upd (o := .lst [.str ""]) nq
    have nqH : H q = none := nq
    generalize upd H q (.lst [.str ""]) = H1 at hq sq
    refine ⟨_, rfl, _, rfl, by omega, by omega, ?_⟩
    refine for_it (walk_range (lo := 0) (n := (n : Int).toNat)) (fun i σ H2 => ∃ (v2 v3 : Option V) (q : Addr), σ = [some (.int n), some (.ref q), v2, v3] ∧ H q = none ∧ Same H H2 ∧ H2 q = some (.lst (wdsV (wdsP i)))) ⟨_, _, q, rfl, nqH, sq, hq⟩ (fun _ _ _ _ _ => trivial) ?_ ?_
    · rintro i x σ H2' H2 hi ⟨v2, v3, q, rfl, nq, s2, hq⟩ ⟨rfl, rfl⟩
      have hi' : i < n := by omega
      have l4 : (wdsP i).length ≤ 4096 := by rw [wdsP_len]; exact Nat.le_trans (Nat.pow_le_pow_right (by decide) (show i ≤ 12 by omega)) (by decide)
      refine ⟨_, rfl, q, rfl, ⟨_, SqL.of hq⟩, fun D nD => ?_⟩
      refine lc_it (walk_list (xs := wdsV (wdsP i))) (fun j H3 => Same H2 H3 ∧ H3 D = some (.lst (wdsV (((wdsP i).take j).map (false :: ·))))) ⟨same_upd nD, upd_same⟩ (fun j H3 _ h3 => SqL.of (h3.1 _ _ hq)) ?_ ?_
      · rintro j x H3 H3' hj ⟨s3, hD⟩ ⟨rfl, hx⟩
        obtain ⟨v, hv, rfl⟩ := wdsV_get hx
        have lv := wdsP_size (List.mem_of_getElem? hv)
        refine ⟨rfl, _, rfl, _, _, rfl, rfl, by rw [W_len, show ("0" : Str).length = 1 by decide +kernel]; exact sl_len (by omega), _, hD, by rw [wdsV_len, List.length_map, List.length_take]; exact sl_lt (by omega), same_mut' s3 nD, ?_⟩
        rw [upd_same, List.take_add_one, hv, List.map_append, wdsV_app]
        show some (HO.lst (_ ++ [V.str (("0" : Str) ++ W v)])) = some (HO.lst (_ ++ [V.str (W (false :: v))]))
        rw [W_0, W_cat]; rfl
      · rintro H3 ⟨s3, hD⟩
        rw [wdsV_len, List.take_length] at hD
        have hq3 := s3 _ _ hq
        refine ⟨_, rfl, q, rfl, ⟨_, SqL.of hq3⟩, fun D2 nD2 => ?_⟩
        refine lc_it (walk_list (xs := wdsV (wdsP i))) (fun j H4 => Same H3 H4 ∧ H4 D2 = some (.lst (wdsV (((wdsP i).take j).map (true :: ·))))) ⟨same_upd nD2, upd_same⟩ (fun j H4 _ h4 => SqL.of (h4.1 _ _ hq3)) ?_ ?_
        · rintro j x H4 H4' hj ⟨s4, hD2⟩ ⟨rfl, hx⟩
          obtain ⟨v, hv, rfl⟩ := wdsV_get hx
          have lv := wdsP_size (List.mem_of_getElem? hv)
          refine ⟨rfl, _, rfl, _, _, rfl, rfl, by rw [W_len, show ("1" : Str).length = 1 by decide +kernel]; exact sl_len (by omega), _, hD2, by rw [wdsV_len, List.length_map, List.length_take]; exact sl_lt (by omega), same_mut' s4 nD2, ?_⟩
          rw [upd_same, List.take_add_one, hv, List.map_append, wdsV_app]
          show some (HO.lst (_ ++ [V.str (("1" : Str) ++ W v)])) = some (HO.lst (_ ++ [V.str (W (true :: v))]))
          rw [W_1, W_cat]; rfl
        · rintro H4 ⟨s4, hD2⟩
          rw [wdsV_len, List.take_length] at hD2
          refine ⟨D, D2, _, _, rfl, rfl, s4 _ _ hD, hD2, by rw [wdsV_len, wdsV_len, List.length_map, List.length_map]; exact sl_len (by omega), fun p np => ?_⟩
          have s24 := (s2.trans s3).trans s4
          refine ⟨_, _, p, rfl, s24.free np, s24.trans (same_upd np), ?_⟩
          rw [upd_same, ← wdsV_app]
          rfl
    · rintro σ H2 ⟨v2, v3, q, rfl, nq, s2, hq⟩
      rw [Int.toNat_natCast] at hq
      exact ⟨_, rfl, k q H2 nq s2 hq⟩
end
end U

set_option maxRecDepth 100000
set_option maxHeartbeats 4000000
set_option pp.maxSteps 400
namespace U
open PySem PySem.Spec PyProof.Rows
open L2 hiding Fun CX0 E0 pass0 Fun.binds
open C8 Lx SX StX
def spCheck : Sp := fun vs H Q _ => ∃ (b : Addr) (m : Nat), vs = [.ref b, .int m] ∧ Box H b ∧ m ≤ 100 ∧
  ∀ (t : Addr) (p s : List Bool) H', H t = none → Up b H H' → H' t = some (.tup [.str (W p), .str (W s)]) → CkOk p s → s.length ≤ m → Q (.ref t) H'
def spSum : Sp := fun vs H Q _ => ∃ a b : List Bool, vs = [.str (W a), .str (W b)] ∧ a.length = b.length ∧ a.length ≤ 1000 ∧ ∀ H', Same H H' → Q (.str (W (xr a b))) H'
theorem W_at {l : List Bool} {i : Nat} (h : i < l.length) : atI (W l).cps.toList ((i : Nat) : Int) = some (bt (l.getD i false)) := by
  rw [W_tl]
  refine atI_nat ?_
  rw [List.getElem?_map, List.getElem?_eq_getElem h]
  simp [h]
section
variable {P : Program} {w : World} {K : PySem.W.Frag} {mg : Str → Option Value} {base : Heap}
theorem sc_l_check : FnScope ["_law_box", "_law_most", "_law_size", "_law_poly"] ["_law_box", "_law_most"] (fnScope s_l_check) := fnScope_by (by decide +kernel)
theorem cal_l_check {f : Addr} {fd : FuncData} (F : Def K mg "_law_check" s_l_check f fd) (b : Binds K fd ["_law_box", "_law_most"] []) (T : Tx mg)
    (c_l_choose : Cal P w K mg base 1 "_law_choose" spChoose []) (c_l_word : Cal P w K mg base 3 "_law_word" spWordF []) : Cal P w K mg base 4 "_law_check" spCheck [] := by
  refine cal0 F b .nil sc_l_check (fun vs H Q E h => ?_) (fun cdv A outer s H vs Q E hr h => ?_)
  · obtain ⟨_, _, rfl, _⟩ := h; rfl
  · obtain ⟨bx, m, rfl, hb, h1, k⟩ := h
    refine ⟨_, (pss_cons (ps_set (i := 2) sc_l_check.nd rfl (.inl rfl) (pe_c c_l_choose hr (by decide) rfl (pa_cons (pv 0) (pa_cons (pe_op op_add (pv 1) pe_int) pa_nil))))
    (pss_cut (ps_set (i := 3) sc_l_check.nd rfl (.inl rfl) (pe_ifExp (pt_cmpR op_eq (pv 2) pe_int (nomark _)) pe_str (pe_op op_add_str (pe_op op_add_str pe_str (pe_c c_l_word hr (by decide) rfl (pa_cons (pv 0) (pa_cons (pe_op op_sub (pv 2) pe_int) (pa_cons (pe_op op_sub (pv 2) pe_int) pa_nil))))) pe_str)))
    (pss_one (ps_ret (pe_tup (pa_cons (pv 3) (pa_cons (pe_ifExp (pt_cmpR op_eq (pe_c c_l_choose hr (by decide) rfl (pa_cons (pv 0) (pa_cons pe_int pa_nil))) pe_int (nomark _)) (pe_c c_l_word hr (by decide) rfl (pa_cons (pv 0) (pa_cons (pv 2) (pa_cons (pv 2) pa_nil)))) (pe_op op_rep_str pe_str (pv 2))) pa_nil))))))), ?_⟩
    refine ⟨_, rfl, _, rfl, _, _, rfl, rfl, bx, _, rfl, hb, by omega, by omega, fun d H1 d0 d1 u1 => ?_⟩
    obtain ⟨n, rfl⟩ := Int.eq_ofNat_of_zero_le d0
    have hn : n ≤ m := by omega
    have l1 : ("1" : Str).length = 1 := by decide +kernel
    have l0 : ("0" : Str).length = 1 := by decide +kernel
    refine ⟨fun σ' H2 => ∃ p : List Bool, σ' = [some (.ref bx), some (.int m), some (.int n), some (.str (W p))] ∧ p.head? = some true ∧ p.getLast? = some true ∧ p.length = n + 1 ∧ Up bx H H2, ?_, ?_⟩
    · refine ⟨_, rfl, rfl, _, rfl, ?_⟩
      by_cases c : n = 0
      · subst c
        refine iteDT rfl ?_
        exact ⟨[true], by rw [← W_1]; rfl, rfl, rfl, rfl, u1⟩
      · refine iteDF (fun z => c (by have := V.int.inj z; omega)) ?_
        refine ⟨_, rfl, _, rfl, _, _, rfl, rfl, _, rfl, _, _, rfl, rfl, bx, n - 1, n - 1, (by show [V.ref bx, V.int ((n : Int) - 1), V.int ((n : Int) - 1)] = _; rw [show (n : Int) - 1 = ((n - 1 : Nat) : Int) by omega]), u1.2, Nat.le_refl _, by omega, fun l H2 la lb u2 => ?_⟩
        have ll : l.length = n - 1 := by omega
        refine ⟨_, _, rfl, rfl, by rw [l1, W_len]; exact sl_len (by omega), ?_⟩
        rw [W_1, W_cat]
        refine ⟨_, _, rfl, rfl, by rw [W_len, W_len, List.length_append]; exact sl_len (by show 1 + l.length + 1 ≤ 100000; omega), ?_⟩
        rw [W_cat]
        exact ⟨[true] ++ l ++ [true], rfl, rfl, by rw [List.getLast?_append]; rfl, by simp only [List.length_append, List.length_cons, List.length_nil]; omega, u1.trans u2⟩
    · rintro σ' H2 ⟨p, rfl, ph, pl, pn, u2⟩
      refine ⟨_, rfl, _, rfl, bx, _, rfl, u2.2, by decide, by decide, fun d2 H3 e0 e1 u3 => ⟨rfl, _, rfl, ?_⟩⟩
      have u3' := u2.trans u3
      refine ite2 (fun h4 => ?_) (fun h4 => ?_)
      · refine ⟨_, rfl, _, rfl, _, rfl, bx, n, n, rfl, u3'.2, Nat.le_refl _, by omega, fun l H4 la lb u4 => ⟨by show 2 ≤ sizeLine; decide, fun q nq => ?_⟩⟩
        have u5 := u3'.trans u4
        exact k q p l _ (u5.free nq) (u5.same (same_upd nq)) upd_same ⟨ph, pl, by omega⟩ (by omega)
      · refine ⟨_, rfl, _, _, rfl, rfl, by omega, by omega, by rw [l0]; omega, by show 2 ≤ sizeLine; decide, fun q nq => ?_⟩
        exact k q p (zs n) _ (u3'.free nq) (u3'.same (same_upd nq)) (by rw [upd_same, mul_0]; rfl) ⟨ph, pl, by rw [zs_len]; omega⟩ (by rw [zs_len]; exact hn)
end
end U

set_option maxRecDepth 100000
set_option maxHeartbeats 4000000
namespace U
open PySem PySem.Spec PyProof.Rows
open L2 hiding Fun CX0 E0 pass0 Fun.binds
open C8 Lx SX
local macro_rules | `(tactic| walk_at "g") => `(tactic| repeat (first | (refine ⟨_, rfl, ?_⟩) | (refine ⟨_, _, rfl, rfl, ?_⟩) | (refine ⟨rfl, ?_⟩) | (refine .inl ⟨_, rfl, ?_⟩)))
/-- a tuple of a number and a kind stands at p -/
def HitAt (H : Hp) (p : Addr) (h : Nat × Kd) : Prop := H p = some (.tup [.int (h.1 : Nat), .str (kS h.2)])
theorem HitAt.same {H H' : Hp} {p : Addr} {h : Nat × Kd} (x : HitAt H p h) (e : Same H H') : HitAt H' p h := e _ _ x
theorem hits_same {H H' : Hp} {ps : List Addr} {hs : List (Nat × Kd)} (x : Paired (HitAt H) ps hs) (e : Same H H') : Paired (HitAt H') ps hs := L2.Paired.mapP x fun _ _ h => h.same e
theorem paired_get {α β : Type} {F : α → β → Prop} : ∀ {l : List α} {m : List β} {i : Nat} {a : α}, Paired F l m → l[i]? = some a → ∃ b, m[i]? = some b ∧ F a b
  | _, _, 0, a, .cons h _, e => by
    cases e
    exact ⟨_, rfl, h⟩
  | _, _, i + 1, a, .cons _ t, e => paired_get (i := i) t e
theorem paired_len {α β : Type} {F : α → β → Prop} : ∀ {l : List α} {m : List β}, Paired F l m → l.length = m.length
  | _, _, .nil => rfl
  | _, _, .cons _ t => by rw [List.length_cons, List.length_cons, paired_len t]
def spTrue1 (C : V → Hp → Prop) : Sp := fun vs H Q _ => ∃ x, vs = [x] ∧ C x H ∧ ∀ H', Same H H' → Q (.bl true) H'
def spWord : Sp := fun vs H Q _ => ∃ (b : Addr) (few many : Nat), vs = [.ref b, .int few, .int many] ∧ Box H b ∧ few ≤ many ∧ many < 1000 ∧
  ∀ (l : List Bool) H', l.length ≤ many → Up b H H' → Q (.str (W l)) H'
def spArriving : Sp := fun vs H Q _ => ∃ (b : Bool) (k : Kd), vs = [.str (W [b]), .str (kS k)] ∧ Q (.str (W (arr b k))) H
def spIsHit : Sp := fun vs H Q _ => ∃ (p : Addr) (h : Nat × Kd) (lo n : Nat), vs = [.ref p, .int lo, .int n] ∧ HitAt H p h ∧ lo ≤ h.1 ∧ h.1 < n ∧ ∀ H', Same H H' → Q (.bl true) H'
/-- a list or a tuple of hits -/
def Seq (K : PySem.W.Frag) (H : Hp) (a : Addr) (xs : List V) : Prop := H a = some (.lst xs) ∨ H a = some (.tup xs)
theorem Seq.same {K : PySem.W.Frag} {H H' : Hp} {a : Addr} {xs : List V} (x : Seq K H a xs) (e : Same H H') : Seq K H' a xs := x.elim (fun h => .inl (e _ _ h)) (fun h => .inr (e _ _ h))
def spHit (K : PySem.W.Frag) : Sp := fun vs H Q _ => ∃ (l : List Bool) (a : Addr) (ps : List Addr) (hs : List (Nat × Kd)), vs = [.str (W l), .ref a] ∧ Seq K H a (ps.map V.ref) ∧ Paired (HitAt H) ps hs ∧ Asc 0 l.length hs ∧ l.length ≤ 1000 ∧
  ∀ H', Same H H' → Q (.str (W (hitM l 0 hs))) H'
theorem arr_len (b : Bool) (k : Kd) : (arr b k).length ≤ 2 := by cases k <;> cases b <;> decide
theorem asc_drop : ∀ {hs : List (Nat × Kd)} {lo n i : Nat} {h : Nat × Kd} {r : List (Nat × Kd)}, Asc lo n hs → hs.drop i = h :: r → lo ≤ h.1 ∧ h.1 < n ∧ Asc (h.1 + 1) n r
  | [], _, _, i, _, _, _, e => by simp at e
  | (p, k) :: r, lo, n, 0, h, r', a, e => by
    obtain ⟨rfl, rfl⟩ := List.cons.inj e
    exact a
  | (p, k) :: r, lo, n, i + 1, h, r', a, e => by
    obtain ⟨a1, a2, a3⟩ := a
    obtain ⟨b1, b2, b3⟩ := asc_drop a3 e
    exact ⟨by omega, b2, b3⟩
section
variable {P : Program} {w : World} {K : PySem.W.Frag} {mg : Str → Option Value} {base : Heap}
theorem sc_is_integer : FnScope ["value"] ["value"] (fnScope s_is_integer) := fnScope_by (by decide +kernel)
theorem cal_is_integer {f : Addr} {fd : FuncData} (F : Def K mg "is_integer" s_is_integer f fd) (b : Binds K fd ["value"] []) (T : Tx mg) : Cal P w K mg base 1 "is_integer" (spTrue1 fun x _ => ∃ i, x = .int i) [] := by
  refine cal0 F b .nil sc_is_integer (fun vs H Q E h => ?_) (fun cdv A outer s H vs Q E hr h => ?_)
  · obtain ⟨_, rfl, _⟩ := h; rfl
  · obtain ⟨_, rfl, ⟨i, rfl⟩, k⟩ := h
    refine ⟨_, (pss_one (ps_ret (pe_and (pe_callB call_isi (by rfl) T.b_isinstance (by decide +kernel) (pa_cons (pv 0) (pa_cons (pe_bltn (v := .ty "int") (u := .type "int") (by rfl) T.b_int (by decide +kernel) rfl) pa_nil))) (pe_one (pe_not (pe_callB call_isi (by rfl) T.b_isinstance (by decide +kernel) (pa_cons (pv 0) (pa_cons (pe_bltn (v := .ty "bool") (u := .type "bool") (by rfl) T.b_bool (by decide +kernel) rfl) pa_nil)))))))), ?_⟩
    refine ⟨_, rfl, _, _, _, _, true, rfl, .ty _, .base (.int i), kit_ty (by decide +kernel), _, rfl, ?_⟩
    refine ⟨_, rfl, _, _, _, _, false, rfl, .ty _, .base (.int i), kit_ty (by decide +kernel), _, rfl, ?_⟩
    exact k H (Same.refl H)
theorem sc_is_number : FnScope ["value"] ["value"] (fnScope s_is_number) := fnScope_by (by decide +kernel)
theorem cal_is_number {f : Addr} {fd : FuncData} (F : Def K mg "is_number" s_is_number f fd) (b : Binds K fd ["value"] []) (T : Tx mg) (c_is_integer : Cal P w K mg base 1 "is_integer" (spTrue1 fun x _ => ∃ i, x = .int i) []) :
    Cal P w K mg base 2 "is_number" (spTrue1 fun x _ => ∃ i : Nat, x = .int i) [] := by
  refine cal0 F b .nil sc_is_number (fun vs H Q E h => ?_) (fun cdv A outer s H vs Q E hr h => ?_)
  · obtain ⟨_, rfl, _⟩ := h; rfl
  · obtain ⟨_, rfl, ⟨i, rfl⟩, k⟩ := h
    refine ⟨_, (pss_one (ps_ret (pe_and (pe_c c_is_integer hr (by decide) rfl (pa_cons (pv 0) pa_nil)) (pe_one (pe_cmpR op_ge (pv 0) pe_int (nomark _)))))), ?_⟩
    refine ⟨_, rfl, _, rfl, ⟨_, rfl⟩, fun H1 s1 => ⟨_, rfl, ?_⟩⟩
    exact ⟨_, rfl, _, _, rfl, rfl, q_dec (show (0 : Int) ≤ i by omega) (k H1 s1)⟩
theorem sc_arriving : FnScope ["bit", "kind"] ["bit", "kind"] (fnScope s_arriving) := fnScope_by (by decide +kernel)
theorem cal_arriving {f : Addr} {fd : FuncData} (F : Def K mg "arriving" s_arriving f fd) (b : Binds K fd ["bit", "kind"] []) (T : Tx mg) (c_other : Cal P w K mg base 1 "other" spOther []) : Cal P w K mg base 2 "arriving" spArriving [] := by
  refine cal0 F b .nil sc_arriving (fun vs H Q E h => ?_) (fun cdv A outer s H vs Q E hr h => ?_)
  · obtain ⟨_, _, rfl, _⟩ := h; rfl
  · obtain ⟨b, kd, rfl, k⟩ := h
    refine ⟨_, (pss_cons (ps_if (pt_cmpR op_eq (pv 1) pe_str (nomark _)) (pss_one (ps_ret (pe_joined (.cons (pe_fmt (pv 0)) (.cons (pe_fmt (pv 0)) .nil))))) pss_nil)
    (pss_one (ps_ret (pe_ifExp (pt_cmpR op_eq (pv 1) pe_str (nomark _)) pe_str (pe_c c_other hr (by decide) rfl (pa_cons (pv 0) pa_nil)))))), ?_⟩
    have hb : (W [b]).length ≤ sizeLine := by rw [W_len]; exact sl_len (by show 1 ≤ 100000; decide)
    have hb2 : (Str.empty ++ W [b]).length ≤ sizeLine := by
      rw [show Str.empty = W [] from rfl, W_cat, W_len]; exact sl_len (by show 1 ≤ 100000; decide)
    have hb3 : (Str.empty ++ W [b] ++ W [b]).length ≤ sizeLine := by
      rw [show Str.empty = W [] from rfl, W_cat, W_cat, W_len]; exact sl_len (by show 2 ≤ 100000; decide)
    refine ⟨_, rfl, rfl, _, rfl, ?_⟩
    cases kd with
    | dbl =>
      refine iteDT (show V.str (kS .dbl) = V.str "double" by decide +kernel) ?_
      refine ⟨_, rfl, .inl ⟨_, rfl, hb, _, rfl, hb2, _, rfl, .inl ⟨_, rfl, hb, _, rfl, hb3, ?_⟩⟩⟩
      show Q (.str (Str.empty ++ W [b] ++ W [b])) H
      rw [show Str.empty = W [] from rfl, W_cat, W_cat]
      exact k
    | lose =>
      refine iteDF (show ¬ (V.str (kS .lose) = V.str "double") by decide +kernel) ?_
      refine ⟨_, rfl, rfl, _, rfl, ?_⟩
      refine iteDT (show V.str (kS .lose) = V.str "lose" by decide +kernel) ?_
      show Q (.str "") H
      rw [W_nil]; exact k
    | turn =>
      refine iteDF (show ¬ (V.str (kS .turn) = V.str "double") by decide +kernel) ?_
      refine ⟨_, rfl, rfl, _, rfl, ?_⟩
      refine iteDF (show ¬ (V.str (kS .turn) = V.str "lose") by decide +kernel) ?_
      exact ⟨_, rfl, b, rfl, k⟩
theorem sc_is_hit : FnScope ["value", "least", "many"] ["value", "least", "many"] (fnScope s_is_hit) := fnScope_by (by decide +kernel)
theorem cal_is_hit {f aK : Addr} {fd : FuncData} (F : Def K mg "is_hit" s_is_hit f fd) (b : Binds K fd ["value", "least", "many"] []) (T : Tx mg) (g_KINDS : mg "KINDS" = some (.ref aK)) (hK : ∀ H, SqT K H aK [.str "double", .str "lose", .str "turn"])
    (c_is_number : Cal P w K mg base 2 "is_number" (spTrue1 fun x _ => ∃ i : Nat, x = .int i) []) : Cal P w K mg base 3 "is_hit" spIsHit [] := by
  refine cal0 F b .nil sc_is_hit (fun vs H Q E h => ?_) (fun cdv A outer s H vs Q E hr h => ?_)
  · obtain ⟨_, _, _, _, rfl, _⟩ := h; rfl
  · obtain ⟨p, h, lo, n, rfl, hp, h1, h2, k1⟩ := h
    refine ⟨_, (pss_cons (ps_if (PW.pt (pw_or (pt_not (pt_val (pe_callB call_isi (by rfl) T.b_isinstance (by decide +kernel) (pa_cons (pv 0) (pa_cons (pe_bltn (v := .ty "tuple") (u := .type "tuple") (by rfl) T.b_tuple (by decide +kernel) rfl) pa_nil))))) (pw_or (pt_cmpR op_ne (pe_callB call_len_seq (by rfl) T.b_len (by decide +kernel) (pa_cons (pv 0) pa_nil)) pe_int (nomark _)) (pw_or (pt_not (pt_val (pe_c c_is_number hr (by decide) rfl (pa_cons (pe_ix ix_tup (pv 0) pe_int (fun _ _ => rfl)) pa_nil)))) (pw_or1 (pt_not (pt_val (pe_callB call_isi (by rfl) T.b_isinstance (by decide +kernel) (pa_cons (pe_ix ix_tup (pv 0) pe_int (fun _ _ => rfl)) (pa_cons (pe_bltn (v := .ty "str") (u := .type "str") (by rfl) T.b_str (by decide +kernel) rfl) pa_nil)))))))))) (pss_one (ps_ret pe_bl)) pss_nil)
    (pss_one (ps_ret (pe_and (pe_chain op_le op_lt (pv 1) (pe_ix ix_tup (pv 0) pe_int (fun _ _ => rfl)) (pv 2)) (pe_one (pe_cmpR op_in_seq (pe_ix ix_tup (pv 0) pe_int (fun _ _ => rfl)) (pe_glob (v := .ref aK) (by rfl) g_KINDS rfl) (by with_unfolding_all rfl))))))), ?_⟩
    refine ⟨_, rfl, _, _, _, _, true, rfl, .ty _, .base (.tup hp), kit_ty (by decide +kernel), _, rfl, iteF ?_⟩
    refine ⟨_, rfl, p, _, rfl, .inr (SqT.of hp), rfl, _, rfl, iteF ?_⟩
    refine ⟨_, rfl, p, _, _, _, rfl, rfl, SqT.of hp, atI_nat (j := 0) rfl, _, rfl, ⟨_, rfl⟩, fun H1 s1 => ⟨_, rfl, iteF ?_⟩⟩
    have hp1 : HitAt H1 p h := hp.same s1
    refine ⟨_, rfl, p, _, _, _, rfl, rfl, SqT.of hp1, atI_nat (j := 1) rfl, _, _, _, _, true, rfl, .ty _, .base (.str _), kit_ty (by decide +kernel), _, rfl, iteF ?_⟩
    refine ⟨_, rfl, _, rfl, p, _, _, _, rfl, rfl, SqT.of hp1, atI_nat (j := 0) rfl, _, _, rfl, rfl, _, rfl, ?_⟩
    refine iteDT (show (lo : Int) ≤ (h.1 : Nat) by omega) ⟨_, rfl, _, _, rfl, rfl, _, rfl, ?_⟩
    refine iteDT (show ((h.1 : Nat) : Int) < n by omega) ⟨_, rfl, p, _, _, _, rfl, rfl, SqT.of hp1, atI_nat (j := 1) rfl, aK, _, rfl, .inr (hK H1), rfl, rfl, ?_⟩
    have e : inV (.str (kS h.2)) [.str "double", .str "lose", .str "turn"] = true := by
      generalize h.2 = kd
      cases kd <;> decide +kernel
    show Q (.bl (inV (.str (kS h.2)) [.str "double", .str "lose", .str "turn"])) H1
    rw [e]
    exact k1 H1 s1
end
end U

set_option maxRecDepth 100000
set_option maxHeartbeats 4000000
namespace U
open PySem PySem.Spec PyProof.Rows
open L2 hiding Fun CX0 E0 pass0 Fun.binds
open C8 Lx SX
theorem txt_mid {l : List Bool} {i j : Nat} (h : i ≤ j) (hj : j ≤ l.length) : Txt.slice (W l) (some (i : Int)) (some (j : Int)) = W ((l.drop i).take (j - i)) := by
  have e := beq_iff_eq.mp (PyProof.Rows.slice_closesL (x := W l) (i := i) (j := j) (by omega) (by omega) (by rw [W_len]; omega))
  refine e.trans ?_
  show S (((l.map bt).drop i).take ((j : Int) - i).toNat) = S (((l.drop i).take (j - i)).map bt)
  rw [List.map_take, List.map_drop, show ((j : Int) - i).toNat = j - i by omega]
theorem hitM_len : ∀ (l : List Bool) (hs : List (Nat × Kd)) (last : Nat), (hitM l last hs).length ≤ (l.length + 2) * (hs.length + 1)
  | l, [], last => by
    show (l.drop last).length ≤ _
    rw [List.length_drop, List.length_nil]
    omega
  | l, (p, k) :: r, last => by
    show ((l.drop last).take (p - last) ++ arr (l.getD p false) k ++ hitM l (p + 1) r).length ≤ _
    have ih := hitM_len l r (p + 1)
    have a := arr_len (l.getD p false) k
    rw [List.length_append, List.length_append, List.length_take, List.length_drop, List.length_cons, Nat.mul_succ]
    have : min (p - last) (l.length - last) ≤ l.length := by omega
    omega
theorem asc_len : ∀ {hs : List (Nat × Kd)} {lo n : Nat}, Asc lo n hs → hs.length + lo ≤ n ∨ hs = []
  | [], _, _, _ => .inr rfl
  | (p, k) :: r, lo, n, ⟨h1, h2, h3⟩ => by
    rcases asc_len h3 with h | h
    · left; rw [List.length_cons]; omega
    · left; rw [h]; simp only [List.length_cons, List.length_nil]; omega
section
variable {P : Program} {w : World} {K : PySem.W.Frag} {mg : Str → Option Value} {base : Heap}
theorem sc_hit : FnScope ["line", "hits", "found", "last", "at", "one"] ["line", "hits"] (fnScope s_hit) := fnScope_by (by decide +kernel)
theorem cal_hit {f : Addr} {fd : FuncData} (F : Def K mg "hit" s_hit f fd) (b : Binds K fd ["line", "hits"] []) (T : Tx mg)
    (c_is_sequence : Cal P w K mg base 1 "is_sequence" (spIsSeq K) []) (c_is_hit : Cal P w K mg base 3 "is_hit" spIsHit []) (c_arriving : Cal P w K mg base 2 "arriving" spArriving []) :
    Cal P w K mg base 4 "hit" (spHit K) [] := by
  refine cal0 F b .nil sc_hit (fun vs H Q E h => ?_) (fun cdv A outer s H vs Q E hr h => ?_)
  · obtain ⟨_, _, _, _, rfl, _⟩ := h; rfl
  · obtain ⟨l, a, ps, hs, rfl, hS, hP, hA, hl, k⟩ := h
    refine ⟨_, (pss_cons (ps_if (pt_not (pt_val (pe_c c_is_sequence hr (by decide) rfl (pa_cons (pv 1) pa_nil)))) (pss_one ps_never) pss_nil)
    (pss_cons (ps_asg (pe_tup (pa_cons pe_str (pa_cons pe_int pa_nil))) (pg_tup rfl (pgs_cons (pg_name (i := 2) sc_hit.nd rfl (.inl rfl)) (pgs_cons (pg_name (i := 3) sc_hit.nd rfl (.inl rfl)) pgs_nil))))
    (pss_cons (ps_for PassesOwn.never rfl (pi_enumQ (by rfl) T.b_enumerate (pa_cons (pv 1) pa_nil)) (pg_tup rfl (pgs_cons (pg_name (i := 4) sc_hit.nd rfl (.inl rfl)) (pgs_cons (pg_name (i := 5) sc_hit.nd rfl (.inl rfl)) pgs_nil)))
    (pss_cons (ps_if (pt_not (pt_val (pe_c c_is_hit hr (by decide) rfl (pa_cons (pv 5) (pa_cons (pv 3) (pa_cons (pe_callB call_len_str (by rfl) T.b_len (by decide +kernel) (pa_cons (pv 0) pa_nil)) pa_nil)))))) (pss_one ps_never) pss_nil)
    (pss_cons (ps_set (i := 2) sc_hit.nd rfl (.inl rfl) (pe_joined (.cons (pe_fmt (pv 2)) (.cons (pe_fmt (pe_slice sl_txt (pv 0) (po_some (pv 3)) (po_some (pe_ix ix_tup (pv 5) pe_int (fun _ _ => rfl))))) (.cons (pe_fmt (pe_c c_arriving hr (by decide) rfl (pa_cons (pe_ix ix_str (pv 0) (pe_ix ix_tup (pv 5) pe_int (fun _ _ => rfl)) (fun _ _ => rfl)) (pa_cons (pe_ix ix_tup (pv 5) pe_int (fun _ _ => rfl)) pa_nil)))) .nil)))))
    (pss_one (ps_set (i := 3) sc_hit.nd rfl (.inl rfl) (pe_op op_add (pe_ix ix_tup (pv 5) pe_int (fun _ _ => rfl)) pe_int))))))
    (pss_one (ps_ret (pe_joined (.cons (pe_fmt (pv 2)) (.cons (pe_fmt (pe_slice sl_txt (pv 0) (po_some (pv 3)) po_none)) .nil)))))))), ?_⟩
    refine ⟨_, rfl, a, _, rfl, hS.elim (fun h => .inl (SqL.of h)) (fun h => .inr (SqT.of h)), fun H1 s1 => ⟨_, rfl, iteF ?_⟩⟩
    refine ⟨by show 2 ≤ sizeLine; decide, fun p hp => ⟨p, _, rfl, SqT.of upd_same, rfl, _, _, rfl, _, _, rfl, rfl, ?_⟩⟩
    have s2 := s1.trans (same_upd (o := .tup [.str "", .int 0]) hp)
    generalize upd H1 p (.tup [.str "", .int 0]) = H2 at s2
    have lw : (W l).length ≤ sizeLine := by rw [W_len]; exact sl_len (by omega)
    let Pv : Nat → L2.St → Hp → Prop := fun i σ H' => ∃ (fnd : List Bool) (last : Nat) (v4 v5 : Option V), σ = [some (.str (W l)), some (.ref a), some (.str (W fnd)), some (.int (last : Nat)), v4, v5] ∧ Same H H' ∧ Asc last l.length (hs.drop i) ∧ last ≤ l.length ∧ fnd.length ≤ 2 * last ∧ hitM l 0 hs = fnd ++ hitM l last (hs.drop i)
    have h0 : Pv 0 [some (.str (W l)), some (.ref a), some (.str ""), some (.int 0), none, none] H2 :=
      ⟨[], 0, none, none, by rw [W_nil]; rfl, s2, hA, Nat.zero_le _, Nat.zero_le _, by rw [List.drop_zero, List.nil_append]⟩
    have fin : ∀ σ H3, Pv (ps.map V.ref).length σ H3 → (tRet (fun σ H Q => tJs [tFmt (tVar 2), tFmt (tSl rSlX (tVar 0) (tPart (tVar 3)) tNoPart)] Str.empty σ H fun out H1 => Q (.str out) H1)) { nx := fun _ H' => Q .non H', rt := Q } σ H3 := by
      rintro σ H3 ⟨fnd, last, v4, v5, rfl, s3, a3, l3, f3, e3⟩
      have hn : hs.drop (ps.map V.ref).length = [] := List.drop_eq_nil_of_le (by rw [List.length_map, paired_len hP]; exact Nat.le_refl _)
      rw [hn] at e3
      have eh : hitM l 0 hs = fnd ++ l.drop last := e3
      have ef : Str.empty ++ W fnd = W fnd := by rw [show Str.empty = W [] from rfl, W_cat, List.nil_append]
      have ed : Txt.slice (W l) (some (last : Int)) none = W (l.drop last) := by rw [W_drop (by omega), Int.toNat_natCast]
      refine ⟨_, rfl, .inl ⟨_, rfl, (by rw [W_len]; exact sl_len (by omega)), _, rfl, (by rw [ef, W_len]; exact sl_len (by omega)), _, rfl, _, rfl, _, rfl, _, rfl, lw, .inl ⟨_, rfl, ?_, _, rfl, ?_, ?_⟩⟩⟩
      · rw [ed, W_len, List.length_drop]; exact sl_len (by omega)
      · rw [ef, ed, W_cat, W_len, List.length_append, List.length_drop]; exact sl_len (by omega)
      · show Q (.str (Str.empty ++ W fnd ++ Txt.slice (W l) (some (last : Int)) none)) H3
        rw [ef, ed, W_cat, ← eh]
        exact k H3 s3
    rcases hS with hS | hS
    · refine .inl ⟨_, rfl, a, _, rfl, SqL.of (s2 _ _ hS), for_it (walk_enum (K := K) (a := a) (xs := ps.map V.ref)) Pv h0 (fun i σ H' _ ⟨_, _, _, _, _, q, _⟩ => SqL.of (q _ _ hS)) ?_ fin⟩
      rintro i x σ H3 H4 hi ⟨fnd, last, v4, v5, rfl, s3, a3, l3, f3, e3⟩ ⟨T, x1, x2, rfl, nT, rfl, g1, g2⟩
      have g3 : (ps.map V.ref)[i]? = some x2 := g2
      rw [List.getElem?_map] at g3
      obtain ⟨q, hq, rfl⟩ := Option.map_eq_some_iff.mp g3
      obtain ⟨h, hh, hat⟩ := paired_get hP hq
      cases g1
      have s4 := s3.trans (same_upd (o := .tup [.int (i : Nat), .ref q]) nT)
      generalize hH4 : upd H3 T (.tup [.int (i : Nat), .ref q]) = H4 at s4
      have hT4 : H4 T = some (.tup [.int (i : Nat), .ref q]) := by rw [← hH4]; exact upd_same
      have ed : hs.drop i = h :: hs.drop (i + 1) := by
        obtain ⟨hi', e⟩ := List.getElem?_eq_some_iff.mp hh
        rw [List.drop_eq_getElem_cons hi', e]
      rw [ed] at a3 e3
      obtain ⟨p1, p2, p3⟩ := a3
      have hat4 : HitAt H4 q h := hat.same s4
      refine ⟨T, _, rfl, SqT.of hT4, rfl, _, _, rfl, _, _, rfl, rfl, ?_⟩
      refine ⟨_, rfl, _, rfl, _, rfl, _, rfl, lw, q, h, last, (W l).length, rfl, hat4, p1, by rw [W_len]; exact p2, fun H5 s5 => ⟨_, rfl, iteF ?_⟩⟩
      have hat5 : HitAt H5 q h := hat4.same s5
      have ef : Str.empty ++ W fnd = W fnd := by rw [show Str.empty = W [] from rfl, W_cat, List.nil_append]
      have em := txt_mid (l := l) p1 (Nat.le_of_lt p2)
      have lt : ((l.drop last).take (h.1 - last)).length = h.1 - last := by rw [List.length_take, List.length_drop]; omega
      have la := arr_len (l.getD h.1 false) h.2
      refine ⟨_, rfl, .inl ⟨_, rfl, (by rw [W_len]; exact sl_len (by omega)), _, rfl, (by rw [ef, W_len]; exact sl_len (by omega)), _, rfl, _, rfl, _, rfl, _, rfl, q, _, _, _, rfl, rfl, SqT.of hat5, atI_nat (j := 0) rfl, _, rfl, _, rfl, lw, .inl ⟨_, rfl, ?_, _, rfl, ?_, ?_⟩⟩⟩
      · rw [em, W_len, lt]; exact sl_len (by omega)
      · rw [ef, em, W_cat, W_len, List.length_append, lt]; exact sl_len (by omega)
      · rw [ef, em, W_cat]
        refine ⟨_, rfl, _, rfl, q, _, _, _, rfl, rfl, SqT.of hat5, atI_nat (j := 0) rfl, _, _, _, rfl, rfl, lw, W_at p2, _, rfl, q, _, _, _, rfl, rfl, SqT.of hat5, atI_nat (j := 1) rfl, l.getD h.1 false, h.2, rfl, .inl ⟨_, rfl, (by rw [W_len]; exact sl_len (by omega)), _, rfl, ?_, ?_⟩⟩
        · rw [W_cat, W_len, List.length_append, List.length_append, lt]; exact sl_len (by omega)
        · rw [W_cat]
          refine ⟨_, rfl, q, _, _, _, rfl, rfl, SqT.of hat5, atI_nat (j := 0) rfl, _, _, rfl, rfl, ?_⟩
          refine ⟨fnd ++ (l.drop last).take (h.1 - last) ++ arr (l.getD h.1 false) h.2, h.1 + 1, _, _, rfl, s4.trans s5, p3, p2, ?_, ?_⟩
          · rw [List.length_append, List.length_append, lt]; omega
          · rw [e3]
            show fnd ++ ((l.drop last).take (h.1 - last) ++ arr (l.getD h.1 false) h.2 ++ hitM l (h.1 + 1) (hs.drop (i + 1))) = _
            simp only [List.append_assoc]
    · refine .inr ⟨_, rfl, a, _, rfl, SqT.of (s2 _ _ hS), for_it (walk_enumT (K := K) (a := a) (xs := ps.map V.ref)) Pv h0 (fun i σ H' _ ⟨_, _, _, _, _, q, _⟩ => SqT.of (q _ _ hS)) ?_ fin⟩
      rintro i x σ H3 H4 hi ⟨fnd, last, v4, v5, rfl, s3, a3, l3, f3, e3⟩ ⟨T, x1, x2, rfl, nT, rfl, g1, g2⟩
      have g3 : (ps.map V.ref)[i]? = some x2 := g2
      rw [List.getElem?_map] at g3
      obtain ⟨q, hq, rfl⟩ := Option.map_eq_some_iff.mp g3
      obtain ⟨h, hh, hat⟩ := paired_get hP hq
      cases g1
      have s4 := s3.trans (same_upd (o := .tup [.int (i : Nat), .ref q]) nT)
      generalize hH4 : upd H3 T (.tup [.int (i : Nat), .ref q]) = H4 at s4
      have hT4 : H4 T = some (.tup [.int (i : Nat), .ref q]) := by rw [← hH4]; exact upd_same
      have ed : hs.drop i = h :: hs.drop (i + 1) := by
        obtain ⟨hi', e⟩ := List.getElem?_eq_some_iff.mp hh
        rw [List.drop_eq_getElem_cons hi', e]
      rw [ed] at a3 e3
      obtain ⟨p1, p2, p3⟩ := a3
      have hat4 : HitAt H4 q h := hat.same s4
      refine ⟨T, _, rfl, SqT.of hT4, rfl, _, _, rfl, _, _, rfl, rfl, ?_⟩
      refine ⟨_, rfl, _, rfl, _, rfl, _, rfl, lw, q, h, last, (W l).length, rfl, hat4, p1, by rw [W_len]; exact p2, fun H5 s5 => ⟨_, rfl, iteF ?_⟩⟩
      have hat5 : HitAt H5 q h := hat4.same s5
      have ef : Str.empty ++ W fnd = W fnd := by rw [show Str.empty = W [] from rfl, W_cat, List.nil_append]
      have em := txt_mid (l := l) p1 (Nat.le_of_lt p2)
      have lt : ((l.drop last).take (h.1 - last)).length = h.1 - last := by rw [List.length_take, List.length_drop]; omega
      have la := arr_len (l.getD h.1 false) h.2
      refine ⟨_, rfl, .inl ⟨_, rfl, (by rw [W_len]; exact sl_len (by omega)), _, rfl, (by rw [ef, W_len]; exact sl_len (by omega)), _, rfl, _, rfl, _, rfl, _, rfl, q, _, _, _, rfl, rfl, SqT.of hat5, atI_nat (j := 0) rfl, _, rfl, _, rfl, lw, .inl ⟨_, rfl, ?_, _, rfl, ?_, ?_⟩⟩⟩
      · rw [em, W_len, lt]; exact sl_len (by omega)
      · rw [ef, em, W_cat, W_len, List.length_append, lt]; exact sl_len (by omega)
      · rw [ef, em, W_cat]
        refine ⟨_, rfl, _, rfl, q, _, _, _, rfl, rfl, SqT.of hat5, atI_nat (j := 0) rfl, _, _, _, rfl, rfl, lw, W_at p2, _, rfl, q, _, _, _, rfl, rfl, SqT.of hat5, atI_nat (j := 1) rfl, l.getD h.1 false, h.2, rfl, .inl ⟨_, rfl, (by rw [W_len]; exact sl_len (by omega)), _, rfl, ?_, ?_⟩⟩
        · rw [W_cat, W_len, List.length_append, List.length_append, lt]; exact sl_len (by omega)
        · rw [W_cat]
          refine ⟨_, rfl, q, _, _, _, rfl, rfl, SqT.of hat5, atI_nat (j := 0) rfl, _, _, rfl, rfl, ?_⟩
          refine ⟨fnd ++ (l.drop last).take (h.1 - last) ++ arr (l.getD h.1 false) h.2, h.1 + 1, _, _, rfl, s4.trans s5, p3, p2, ?_, ?_⟩
          · rw [List.length_append, List.length_append, lt]; omega
          · rw [e3]
            show fnd ++ ((l.drop last).take (h.1 - last) ++ arr (l.getD h.1 false) h.2 ++ hitM l (h.1 + 1) (hs.drop (i + 1))) = _
            simp only [List.append_assoc]
end
end U

set_option maxRecDepth 100000
set_option maxHeartbeats 4000000
set_option pp.maxSteps 400
/-! a list of any things compared with an empty one -/
namespace Lx
open PySem PySem.Spec PyProof.Rows L2
/-- a list != [] -/
def rNeL (K : PySem.W.Frag) : R2 := fun x y H Q => ∃ a b xs, x = .ref a ∧ y = .ref b ∧ SqL K H a xs ∧ SqL K H b [] ∧ Q (.bl (!decide (xs = []))) H
theorem op_neL {X : Cx} {j : Nat} (hr : Room j X.A) : OpR X (compareOp .NotEq) (rNeL X.K) := by
  intro pins s σ H x y v u Q I rx ry hq
  obtain ⟨a, b, xs, rfl, rfl, ha, hb, q⟩ := hq
  cases rx
  cases ry
  obtain ⟨its, r, e, z⟩ := I.list ha
  obtain ⟨its2, r2, e2, z2⟩ := I.list hb
  have h0 : its2 = [] := by
    have := r2.length
    exact List.eq_nil_of_length_eq_zero this.symm
  subst h0
  show wpAny (model X.prog X.w) X.A (richCompare .NotEq (.ref a) (.ref b)) (EP X pins σ Q) X.xe s
  by_cases c : xs = []
  · subst c
    have h1 : its = [] := List.eq_nil_of_length_eq_zero r.length.symm
    subst h1
    refine SeqAt.RcNeAt.lists (e := fun _ => true) e.isList e2.isList rfl hr.units0 (fun j h1 _ => absurd h1 (Nat.not_lt_zero _)) _ _ _ _ ?_
    exact ⟨.bl _, H, I, rfl, q⟩
  · have hz : (its.toArray.size != ([] : List Value).toArray.size) = true := by
      rw [List.size_toArray, ← r.length]
      cases xs with
      | nil => exact absurd rfl c
      | cons _ _ => rfl
    refine SeqAt.RcNeAt.lists_lengths e.isList e2.isList hz hr.units0 _ _ _ _ ?_
    rw [decide_eq_false c] at q
    exact ⟨.bl _, H, I, rfl, q⟩
end Lx

set_option maxRecDepth 100000
set_option maxHeartbeats 4000000
namespace U
open PySem PySem.Spec PyProof.Rows
open L2 hiding Fun CX0 E0 pass0 Fun.binds
open C8 Lx SX StX
/-! tuples whose object is known: dict(t) of them -/
def TpX (H : Hp) (a : Addr) (xs : List V) : Prop := ∃ o : Obj, H a = some (.frz o (.tup xs)) ∧ o.dict = none
theorem TpX.same {H H' : Hp} {a : Addr} {xs : List V} (h : TpX H a xs) (s : Same H H') : TpX H' a xs := by
  obtain ⟨o, h1, h2⟩ := h
  exact ⟨o, s _ _ h1, h2⟩
theorem TpX.sq {K : PySem.W.Frag} {H : Hp} {a : Addr} {xs : List V} (h : TpX H a xs) : SqT K H a xs := by
  obtain ⟨o, h1, _⟩ := h
  exact .inl (.inr ⟨o, h1⟩)
theorem TpX.new {H : Hp} {a : Addr} {xs : List V} {o : Obj} (h : o.dict = none) : TpX (upd H a (.frz o (.tup xs))) a xs := ⟨o, upd_same, h⟩
section
variable {X : Cx} {es : List Expr} {t : TA} {pos : Pos}
def tTupF (t : TA) : TE := fun σ H Q => t σ H fun xs H1 => xs.length ≤ sizeLine ∧ ∀ (p : Addr) (o : Obj), H1 p = none → o.dict = none → Q (.ref p) (upd H1 p (.frz o (.tup xs)))
theorem pe_tupF {x1} (h : PA X es t) : PE X (.Tuple es x1 pos) (tTupF t) := by
  refine ⟨fun pins s σ H Q I hq => ?_⟩
  refine wpAny_Tuple_spliced (thn (h.run pos pins s σ H _ I hq) fun us s1 ⟨xs, H1, I1, r, z, q⟩ => ⟨by rw [← r.length]; exact z, ?_⟩)
  have hf : H1 s1.heap.objs.size = none := I1.hok.fresh (Nat.le_refl _)
  have hg : (s1.heap.push { cls := .type "tuple", data := .seq us.toArray }).get? s1.heap.objs.size = some { cls := .type "tuple", data := .seq us.toArray } := Heap.get?_push_size _ rfl
  refine ⟨.ref s1.heap.objs.size, upd H1 s1.heap.objs.size (.frz { cls := .type "tuple", data := .seq us.toArray } (.tup xs)), I1.laid (t' := s1.toks) (fun b u e => Heap.get?_push_of_some _ e) (Nat.le_refl _) ?_, rfl, q _ _ hf rfl⟩
  exact ⟨hg, z, us, r, ⟨_, hg, rfl, _, rfl⟩⟩
/-- t + u, a new one with its object known; () + u is u itself -/
def rCatF (K : PySem.W.Frag) : R2 := fun x y H Q => ∃ a b xs ys, x = .ref a ∧ y = .ref b ∧ SqT K H a xs ∧ SqT K H b ys ∧ ys ≠ [] ∧ xs.length + ys.length ≤ sizeLine ∧
  (xs = [] → Q (.ref b) H) ∧ (xs ≠ [] → ∀ (p : Addr) (o : Obj), H p = none → o.dict = none → Q (.ref p) (upd H p (.frz o (.tup (xs ++ ys)))))
theorem op_catF : OpR X (binaryOp .Add) (rCatF X.K) := by
  intro pins s σ H x y v u Q I rx ry h
  obtain ⟨a, b, xs, ys, rfl, rfl, ha, hb, hy, hz, q0, q2⟩ := h
  cases rx
  cases ry
  obtain ⟨its, r1, p1, _⟩ := I.tuple ha
  obtain ⟨its2, r2, p2, _⟩ := I.tuple hb
  by_cases hx : xs = []
  · subst hx
    cases r1
    exact cat_tup0 p1 p2 ⟨.ref b, H, I, rfl, q0 rfl⟩
  · refine HT.cat_tup p1 p2 (fun z => hx (r1.nil_iff.mp z)) (fun z => absurd (r2.nil_iff.mp z) hy) (fun z => ?_) (by rw [← r1.length, ← r2.length]; exact hz)
    have hg : (s.heap.push { cls := .type "tuple", data := .seq (its ++ its2).toArray }).get? s.heap.objs.size = some { cls := .type "tuple", data := .seq (its ++ its2).toArray } := Heap.get?_push_size _ rfl
    refine ⟨.ref s.heap.objs.size, _, I.laid (t' := s.toks) (o := .frz { cls := .type "tuple", data := .seq (its ++ its2).toArray } (.tup (xs ++ ys))) (fun b ob q => Heap.get?_push_of_some _ q) (Nat.le_refl _) ?_, rfl, q2 hx _ _ (I.hok.fresh (Nat.le_refl _)) rfl⟩
    exact ⟨hg, by rw [List.length_append]; exact hz, _, r1.append r2, ⟨_, hg, rfl, _, rfl⟩⟩
/-- tuple(list), its object known -/
theorem call_tupleF : CallR X (.type "tuple") (fun xs H Q => ∃ p ys, xs = [.ref p] ∧ SqL X.K H p ys ∧ ∀ (l : Addr) (o : Obj), H l = none → o.dict = none → Q (.ref l) (upd H l (.frz o (.tup ys)))) := by
  intro pins s σ H xs us Q I r h
  obtain ⟨p, ys, rfl, hq, q⟩ := h
  obtain ⟨u, rfl, rx⟩ := vals1 r
  cases rx
  obtain ⟨its, r', pl, hz⟩ := I.list hq
  have hlen := r'.length
  refine call_tuple_list pl.isList (fun h' kp => ?_) (by simp only [List.size_toArray] <;> omega)
  have I1 : Inv X pins σ H { s with heap := h' } := I.kept (t' := s.toks) kp
  have hg : (h'.push { cls := .type "tuple", data := .seq its.toArray }).get? h'.objs.size = some { cls := .type "tuple", data := .seq its.toArray } := Heap.get?_push_size _ rfl
  have I2 : Inv X pins σ (upd H h'.objs.size (.frz { cls := .type "tuple", data := .seq its.toArray } (.tup ys))) { s with heap := h'.push { cls := .type "tuple", data := .seq its.toArray } } :=
    I1.laid (t' := s.toks) (fun b o e => Heap.get?_push_of_some _ e) (Nat.le_refl _) (show ObjOk X.prog X.w _ _ _ (.frz _ (.tup ys)) from ⟨hg, hz, its, r', ⟨_, hg, rfl, _, rfl⟩⟩)
  exact ⟨.ref h'.objs.size, _, I2, rfl, q _ _ (I1.hok.fresh (Nat.le_refl _)) rfl⟩
theorem pairs_ofF {pins : List (Addr × Obj)} {σ : L2.St} {H : Hp} {s : Shared} (I : Inv X pins σ H s) : ∀ {ps : List Addr} {kvs : List (Key × V)}, Paired (fun p kv => SqT X.K H p [kV kv.1, kv.2]) ps kvs →
    ∃ (prs : List (Key × Value)) (pvs : List (Value × Value)), KV kvs prs ∧ prs.length = ps.length ∧ pvs.length = ps.length ∧ ∀ (j : Nat) (k v : Value), pvs[j]? = some (k, v) → ∃ (b : Addr) (key : Key), ps[j]? = some b ∧ IsTup s.heap b #[k, v] ∧ prs[j]? = some (key, v) ∧ keyIs key k = true
  | _, _, .nil => ⟨[], [], .nil, rfl, rfl, fun j k v e => by simp at e⟩
  | _, _, .cons (a := p) (b := kv) h t => by
    obtain ⟨prs, pvs, r, hl, hl2, hp⟩ := pairs_ofF I t
    obtain ⟨its, rv, ht, _⟩ := I.tuple h
    obtain ⟨u, y, ei, ru, ry⟩ := vals2 rv
    subst ei
    refine ⟨(kv.1, y) :: prs, (u, y) :: pvs, .cons ⟨rfl, ry⟩ r, by rw [List.length_cons, List.length_cons, hl], by rw [List.length_cons, List.length_cons, hl2], fun j k v e => ?_⟩
    cases j with
    | zero =>
      have e' : (u, y) = (k, v) := Option.some.inj e
      cases e'
      exact ⟨p, kv.1, rfl, ht, rfl, kV_is (P := X.prog) (w := X.w) ru⟩
    | succ j =>
      obtain ⟨b, key, e1, e2, e3, e4⟩ := hp j k v (by simpa using e)
      exact ⟨b, key, by simpa using e1, e2, by simpa using e3, e4⟩
/-- dict(t) of such a tuple of pairs -/
def rDictF (K : PySem.W.Frag) : List V → Hp → VK → Prop := fun xs H Q => ∃ (a : Addr) (ps : List Addr) (kvs : List (Key × V)), xs = [.ref a] ∧ TpX H a (ps.map V.ref) ∧ Paired (fun p kv => SqT K H p [kV kv.1, kv.2]) ps kvs ∧
    ∀ p, H p = none → Q (.ref p) (upd H p (.dK (mergeK [] kvs)))
theorem call_dictF (hcalm : X.calm = true) : CallR X (.type "dict") (rDictF X.K) := by
  intro pins s σ H xs us Q I r q
  obtain ⟨a, ps, kvs, ex, ⟨o, hq, hd0⟩, hp, q⟩ := q
  subst ex
  obtain ⟨u, eu, rx⟩ := vals1 r
  subst eu
  cases rx
  obtain ⟨hg, hz, its, rv, o2, hg2, hc, n, hd⟩ := I.hok _ _ hq
  rw [hg] at hg2
  cases hg2
  have ei := refs_at rv
  subst ei
  rw [List.length_map] at hz
  obtain ⟨prs, pvs, rel, hl, hl2, hpr⟩ := pairs_ofF I hp
  have hit : PairItems s.heap (ps.map Value.ref).toArray (fun j => ps.getD j 0) pvs := ⟨by simp [hl2], fun j k v e => by
    obtain ⟨b, key, e1, e2, e3, e4⟩ := hpr j k v e
    have eb : ps.getD j 0 = b := by rw [List.getD_eq_getElem?_getD, e1]; rfl
    refine ⟨by simp [e1, eb], .inl ?_⟩
    show s.heap.IsTuple (ps.getD j 0) #[k, v]
    rw [eb]
    exact e2⟩
  refine PySem.call_dict_pairs (knd := mixKind X.prog X.w) (kvs := prs) (PairArg.tuple a (ps.map Value.ref).toArray (fun j => ps.getD j 0) pvs) (I.ok.hd hcalm) ⟨⟨o, n, hg, hc, hd0, hd⟩, hit⟩ ⟨by rw [hl, hl2], fun i key v e => ?_⟩ (by rw [hl2]; exact hz) fun h' tk hd' k => ?_
  · obtain ⟨b, kk, e1, e2, e3, e4⟩ := hpr i key v e
    exact ⟨kk, e3, e4⟩
  · have hm : (s.heap.objs.size == sysModules) = false := beq_eq_false_iff_ne.mpr (Nat.ne_of_gt I.big)
    have hlen : (mergeK [] kvs).length ≤ sizeLine := by
      refine Nat.le_trans (length_mergeK kvs []) ?_
      rw [List.length_nil, Nat.zero_add, rel.length, hl]
      exact hz
    exact ⟨.ref s.heap.objs.size, upd H s.heap.objs.size (.dK (mergeK [] kvs)), I.laid (t' := tk) (fun b o e => k b o (fun z => nomatch z) e) (Nat.le_refl _) (show ObjOk X.prog X.w _ _ _ (.dK (mergeK [] kvs)) from ⟨hlen, hm, merged [] prs, KV.merge rel .nil, hd'⟩), rfl, q _ (I.hok.fresh (Nat.le_refl _))⟩
end
end U

set_option maxRecDepth 100000
set_option maxHeartbeats 4000000
namespace U
open PySem PySem.Spec PyProof.Rows
open L2 hiding Fun CX0 E0 pass0 Fun.binds
open C8 Lx SX
def b2 (b : Bool) : Int := if b then 1 else 0
/-- a row of n numbers, by a function -/
def rowV (n : Nat) (f : Nat → Bool) : List V := (List.range n).map fun j => V.int (b2 (f j))
theorem rowV_len (n : Nat) (f : Nat → Bool) : (rowV n f).length = n := by unfold rowV; simp
theorem rowV_get {n : Nat} {f : Nat → Bool} {j : Nat} (h : j < n) : (rowV n f)[j]? = some (V.int (b2 (f j))) := by
  unfold rowV
  rw [List.getElem?_map, List.getElem?_range h]
  rfl
theorem rowV_set {n : Nat} {f : Nat → Bool} {j : Nat} {v : Bool} : (rowV n f).set j (V.int (b2 v)) = rowV n fun k => if k = j then v else f k := by
  refine List.ext_getElem? fun i => ?_
  rw [List.getElem?_set]
  by_cases hi : i < n
  · rw [rowV_get hi, rowV_get hi, rowV_len]
    by_cases e : j = i
    · subst e
      rw [if_pos rfl, if_pos hi, if_pos rfl]
    · rw [if_neg e, if_neg (fun z => e z.symm)]
  · have h1 : ∀ g, (rowV n g)[i]? = none := fun g => List.getElem?_eq_none (by rw [rowV_len]; omega)
    rw [h1, h1, rowV_len]
    by_cases e : j = i
    · rw [if_pos e, if_neg (by omega)]
    · rw [if_neg e]
theorem rowV_of (l : List Bool) : rowV l.length (fun j => l.getD j false) = l.map fun b => V.int (b2 b) := by
  refine List.ext_getElem? fun i => ?_
  by_cases hi : i < l.length
  · rw [rowV_get hi, List.getElem?_map, List.getElem?_eq_getElem hi]
    simp [hi]
  · rw [List.getElem?_eq_none (by rw [rowV_len]; omega), List.getElem?_eq_none (by simp; omega)]
/-- k bits of p put on the row from i on -/
def xorF (p : List Bool) (i k : Nat) (f : Nat → Bool) : Nat → Bool := fun j => if i ≤ j ∧ j < i + k then xor (f j) (p.getD (j - i) false) else f j
theorem xorF_succ (p : List Bool) (i k : Nat) (f : Nat → Bool) : (fun j => if j = i + k then xor (xorF p i k f (i + k)) (p.getD k false) else xorF p i k f j) = xorF p i (k + 1) f := by
  funext j
  unfold xorF
  by_cases e : j = i + k
  · subst e
    rw [if_pos rfl, if_neg (by omega), if_pos (by omega), show i + k - i = k by omega]
  · rw [if_neg e]
    by_cases h : i ≤ j ∧ j < i + k
    · rw [if_pos h, if_pos (by omega)]
    · rw [if_neg h, if_neg (by omega)]
/-- where the row stands behind i bits -/
def RowAt (p s bits : List Bool) (i : Nat) (f : Nat → Bool) : Prop := ∀ t, t < s.length + (bits.length - i) → f (i + t) = (restM p s (bits.take i) ++ bits.drop i).getD t false
theorem getD_app {a b : List Bool} {t : Nat} : (a ++ b).getD t false = if t < a.length then a.getD t false else b.getD (t - a.length) false := by
  simp only [List.getD_eq_getElem?_getD]
  by_cases h : t < a.length
  · rw [if_pos h, List.getElem?_append_left h]
  · rw [if_neg h, List.getElem?_append_right (by omega)]
theorem rowAt_step {p s bits : List Bool} {i : Nat} {f : Nat → Bool} (hs : s.length + 1 = p.length) (hi : i < bits.length) (h : RowAt p s bits i f) :
    RowAt p s bits (i + 1) (if f i then xorF p i p.length f else f) := by
  obtain ⟨b, hb⟩ : ∃ b, bits[i]? = some b := ⟨bits[i], by simp [hi]⟩
  have hd : bits.drop i = b :: bits.drop (i + 1) := by
    obtain ⟨hi', e⟩ := List.getElem?_eq_some_iff.mp hb
    rw [List.drop_eq_getElem_cons hi', e]
  have er : restM p s (bits.take (i + 1)) = stepM p (restM p s (bits.take i)) b := by
    unfold restM
    rw [List.take_add_one, hb, List.foldl_append]
    rfl
  have lr : (restM p s (bits.take i)).length = s.length := restM_len _ _ hs
  have key : ∀ t, t < s.length + (bits.length - i) → f (i + t) = ((restM p s (bits.take i) ++ [b]) ++ bits.drop (i + 1)).getD t false := by
    intro t ht
    rw [h t ht, hd]
    congr 1
    simp
  cases e : restM p s (bits.take i) ++ [b] with
  | nil => exact absurd e (by simp)
  | cons x l =>
    rw [e] at key
    have ll : l.length = s.length := by
      have := congrArg List.length e
      rw [List.length_append, lr] at this
      simp only [List.length_cons, List.length_nil] at this
      omega
    have f0 : f i = x := by
      have := key 0 (by omega)
      rw [Nat.add_zero] at this
      rw [this]
      rfl
    have es : stepM p (restM p s (bits.take i)) b = if x then List.zipWith xor l p.tail else l := by unfold stepM; rw [e]
    have ft : ∀ t, t < s.length + (bits.length - (i + 1)) → f (i + 1 + t) = (l ++ bits.drop (i + 1)).getD t false := by
      intro t ht
      have := key (t + 1) (by omega)
      rw [show i + (t + 1) = i + 1 + t by omega] at this
      rw [this]
      rfl
    intro t ht
    rw [er, es, f0]
    cases x with
    | false => exact ft t ht
    | true =>
      show xorF p i p.length f (i + 1 + t) = (List.zipWith xor l p.tail ++ bits.drop (i + 1)).getD t false
      have lz : (List.zipWith xor l p.tail).length = s.length := by rw [List.length_zipWith, List.length_tail, ll]; omega
      unfold xorF
      rw [ft t ht, getD_app, getD_app, lz, ll]
      by_cases c : t < s.length
      · rw [if_pos (by omega), if_pos c, if_pos c]
        have e1 : (List.zipWith xor l p.tail).getD t false = xor (l.getD t false) (p.tail.getD t false) := by
          simp only [List.getD_eq_getElem?_getD, List.getElem?_zipWith]
          have h1 : t < l.length := by omega
          have h2 : t < p.tail.length := by rw [List.length_tail]; omega
          rw [List.getElem?_eq_getElem h1, List.getElem?_eq_getElem h2]
          rfl
        rw [e1, show i + 1 + t - i = t + 1 by omega]
        congr 1
        simp only [List.getD_eq_getElem?_getD, List.getElem?_tail]
      · rw [if_neg (by omega), if_neg c, if_neg c]
theorem rowAt_0 (p s bits : List Bool) : RowAt p s bits 0 (fun j => (s ++ bits).getD j false) := fun t _ => by
  rw [Nat.zero_add]
  rfl
theorem cut_fromC {xs : List V} {n : Nat} (h : n ≤ xs.length) : cutV xs (some (n : Int)) none = xs.drop n := by
  unfold cutV
  rw [HT.sIx_nat, HT.sIx_none, Nat.min_eq_left h]
  exact List.take_of_length_le (by rw [List.length_drop]; exact Nat.le_refl _)
theorem rowV_drop {p s bits : List Bool} {f : Nat → Bool} (hs : s.length + 1 = p.length) (h : RowAt p s bits bits.length f) : (rowV (s.length + bits.length) f).drop bits.length = (restM p s bits).map fun b => V.int (b2 b) := by
  have lr : (restM p s bits).length = s.length := restM_len _ _ hs
  refine List.ext_getElem? fun i => ?_
  rw [List.getElem?_drop]
  by_cases hi : i < s.length
  · rw [rowV_get (by omega), h i (by omega), List.take_length, List.drop_length, List.append_nil, List.getElem?_map]
    simp only [List.getD_eq_getElem?_getD]
    rw [List.getElem?_eq_getElem (by omega)]
    rfl
  · rw [List.getElem?_eq_none (by rw [rowV_len]; omega), List.getElem?_eq_none (by rw [List.length_map]; omega)]
theorem mod_xor (a b : Bool) : (b2 a + b2 b) % 2 = b2 (xor a b) := by cases a <;> cases b <;> decide
theorem str_b2 (b : Bool) : (Str.ofString (toString (b2 b))) = W [b] := by cases b <;> decide +kernel
theorem int_W (b : Bool) : PySem.intText? (W [b]) = some (b2 b) := by cases b <;> decide +kernel
end U

set_option maxRecDepth 100000
set_option maxHeartbeats 4000000
namespace U
/-! unseen hits by trying, in plain Lean -/
def fstR (r : List (Nat × Kd)) : Nat := match r.getLast? with | none => 0 | some x => x.1 + 1
def rowsM (many : Nat) (ks : List Kd) : Nat → List (List (Nat × Kd))
  | 0 => [[]]
  | n + 1 => (rowsM many ks n).flatMap fun r => ks.flatMap fun k => (List.range' (fstR r) (many - fstR r)).map fun i => r ++ [(i, k)]
theorem fstR_snoc (r : List (Nat × Kd)) (x : Nat × Kd) : fstR (r ++ [x]) = x.1 + 1 := by
  unfold fstR
  rw [List.getLast?_concat]
theorem asc_fst : ∀ {r : List (Nat × Kd)} {lo n : Nat}, Asc lo n r → r ≠ [] → lo < fstR r ∧ fstR r ≤ n
  | [], _, _, _, h => absurd rfl h
  | [(p, k)], lo, n, ⟨h1, h2, _⟩, _ => ⟨by show lo < p + 1; omega, by show p + 1 ≤ n; omega⟩
  | (p, k) :: y :: r, lo, n, ⟨h1, h2, h3⟩, _ => by
    have := asc_fst h3 (List.cons_ne_nil _ _)
    have e : fstR ((p, k) :: y :: r) = fstR (y :: r) := by unfold fstR; rw [List.getLast?_cons_cons]
    rw [e]
    omega
theorem asc_app1 : ∀ {r : List (Nat × Kd)} {lo n i : Nat} {k : Kd}, Asc lo n (r ++ [(i, k)]) ↔ Asc lo n r ∧ lo ≤ i ∧ fstR r ≤ i ∧ i < n
  | [], lo, n, i, k => ⟨fun ⟨h1, h2, _⟩ => ⟨trivial, h1, Nat.zero_le _, h2⟩, fun ⟨_, h1, _, h2⟩ => ⟨h1, h2, trivial⟩⟩
  | [(p, q)], lo, n, i, k => by
    constructor
    · rintro ⟨h1, h2, h3, h4, _⟩
      exact ⟨⟨h1, h2, trivial⟩, by omega, h3, h4⟩
    · rintro ⟨⟨h1, h2, _⟩, h3, h4, h5⟩
      exact ⟨h1, h2, h4, h5, trivial⟩
  | (p, q) :: y :: r, lo, n, i, k => by
    have e : fstR ((p, q) :: y :: r) = fstR (y :: r) := by unfold fstR; rw [List.getLast?_cons_cons]
    rw [e]
    have ih := asc_app1 (r := y :: r) (lo := p + 1) (n := n) (i := i) (k := k)
    constructor
    · rintro ⟨h1, h2, h3⟩
      obtain ⟨g1, g2, g3, g4⟩ := ih.mp h3
      exact ⟨⟨h1, h2, g1⟩, by omega, g3, g4⟩
    · rintro ⟨⟨h1, h2, h3⟩, h4, h5, h6⟩
      have := asc_fst h3 (List.cons_ne_nil _ _)
      exact ⟨h1, h2, ih.mpr ⟨h3, by omega, h5, h6⟩⟩
theorem rowsM_mem {many : Nat} {ks : List Kd} : ∀ {n : Nat} {hs : List (Nat × Kd)}, hs ∈ rowsM many ks n ↔ hs.length = n ∧ Asc 0 many hs ∧ ∀ x ∈ hs, x.2 ∈ ks
  | 0, hs => by
    constructor
    · intro h
      rw [List.mem_singleton.mp h]
      exact ⟨rfl, trivial, fun _ h => by cases h⟩
    · rintro ⟨h, _⟩
      rw [List.length_eq_zero_iff.mp h]
      exact List.mem_singleton.mpr rfl
  | n + 1, hs => by
    constructor
    · intro h
      obtain ⟨r, hr, h⟩ := List.mem_flatMap.mp h
      obtain ⟨k, hk, h⟩ := List.mem_flatMap.mp h
      obtain ⟨i, hi, rfl⟩ := List.mem_map.mp h
      obtain ⟨g1, g2, g3⟩ := rowsM_mem.mp hr
      obtain ⟨z1, z2⟩ := List.mem_range'_1.mp hi
      refine ⟨by rw [List.length_append, g1]; rfl, asc_app1.mpr ⟨g2, Nat.zero_le _, z1, by omega⟩, fun x hx => ?_⟩
      rcases List.mem_append.mp hx with hx | hx
      · exact g3 x hx
      · rw [List.mem_singleton.mp hx]; exact hk
    · rintro ⟨h1, h2, h3⟩
      rcases List.eq_nil_or_concat hs with rfl | ⟨r, ⟨i, k⟩, rfl⟩
      · cases h1
      rw [List.concat_eq_append] at h1 h2 h3 ⊢
      obtain ⟨g1, _, g3, g4⟩ := asc_app1.mp h2
      refine List.mem_flatMap.mpr ⟨r, rowsM_mem.mpr ⟨by rw [List.length_append] at h1; exact Nat.succ.inj h1, g1, fun x hx => h3 x (List.mem_append_left _ hx)⟩, ?_⟩
      refine List.mem_flatMap.mpr ⟨k, h3 _ (List.mem_append_right _ (List.mem_singleton.mpr rfl)), List.mem_map.mpr ⟨i, List.mem_range'_1.mpr ⟨g3, by omega⟩, rfl⟩⟩
theorem flatLe2 {α β : Type} {f : α → List β} {c : Nat} : ∀ {l : List α}, (∀ x ∈ l, (f x).length ≤ c) → (l.flatMap f).length ≤ l.length * c
  | [], _ => Nat.zero_le _
  | x :: r, h => by
    rw [List.flatMap_cons, List.length_append, List.length_cons, Nat.succ_mul]
    have := h x List.mem_cons_self
    have := flatLe2 (l := r) fun y hy => h y (List.mem_cons_of_mem _ hy)
    omega
theorem rowsM_len (many : Nat) (ks : List Kd) : ∀ n, (rowsM many ks n).length ≤ (ks.length * many) ^ n
  | 0 => Nat.le_refl _
  | n + 1 => by
    rw [Nat.pow_succ]
    refine Nat.le_trans (flatLe2 (c := ks.length * many) fun r _ => flatLe2 fun k _ => ?_) (Nat.mul_le_mul_right _ (rowsM_len many ks n))
    rw [List.length_map, List.length_range']
    omega
/-- in which way it is unseen -/
def wayO (f : List Bool) (ss : List Stf) (p s data raw : List Bool) : Option How := match posM raw f with
  | none => none
  | some i => match takM ss (raw.take i) with
    | none => none
    | some X => if goodM p s X = true then (if X.take (X.length - s.length) = data then none else if i + f.length < raw.length then some .cut else if (X.take (X.length - s.length)).length = data.length then some .same else some .shift) else none
theorem goodM_split {p s X : List Bool} (hl : s.length + 1 = p.length) (g : goodM p s X = true) : s.length ≤ X.length ∧ X = X.take (X.length - s.length) ++ bitsM p s (X.take (X.length - s.length)) := by
  obtain ⟨h1, _⟩ := (goodM_iff hl).mp g
  have e : X = X.take (X.length - s.length) ++ X.drop (X.length - s.length) := (List.take_append_drop _ _).symm
  have ld : (X.drop (X.length - s.length)).length = s.length := by rw [List.length_drop]; omega
  rw [e, goodM_tail hl ld] at g
  refine ⟨h1, ?_⟩
  have := of_decide_eq_true g
  rw [← this, List.take_append_drop]
theorem body_part {ss : List Stf} (h0 : putM ss [] = none) {X l : List Bool} : takM ss l = some X ↔ Part ss X l ∧ putM ss l = none :=
  (takM_iff h0).trans (Iff.intro (fun h => And.intro (Body.part h0 h) (Body.end h0 h)) (fun h => h.1.body h0 h.2))
theorem wayO_iff {f : List Bool} {ss : List Stf} {p s data raw : List Bool} {ks : List Kd} {mh : Nat} {how : How} (h0 : putM ss [] = none) (hl : s.length + 1 = p.length) :
    wayO f ss p s data raw = some how ↔ UnsL (mkN f ss p s ks mh how) (data ++ bitsM p s data) raw := by
  unfold wayO UnsL
  show _ ↔ ∃ (i : Nat) (X : List Bool), posM raw f = some i ∧ Part ss X (raw.take i) ∧ putM ss (raw.take i) = none ∧ goodM p s X = true ∧ X ≠ data ++ bitsM p s data ∧
    (match how with | .cut => i + f.length < raw.length | .same => i + f.length = raw.length ∧ X.length = (data ++ bitsM p s data).length | .shift => i + f.length = raw.length ∧ X.length ≠ (data ++ bitsM p s data).length)
  have lb : (data ++ bitsM p s data).length = data.length + s.length := by rw [List.length_append, bitsM_len hl]
  rw [lb]
  cases e : posM raw f with
  | none => exact ⟨fun h => (nomatch h), fun ⟨_, _, h, _⟩ => by cases h⟩
  | some i =>
    have hle : i + f.length ≤ raw.length := posM_max e
    dsimp only
    cases e2 : takM ss (raw.take i) with
    | none =>
      refine ⟨fun h => (nomatch h), ?_⟩
      rintro ⟨j, X, h1, h2, h3, _⟩
      cases h1
      rw [(body_part h0).mpr ⟨h2, h3⟩] at e2
      cases e2
    | some X =>
      dsimp only
      obtain ⟨hp, hn⟩ := (body_part h0).mp e2
      have uniq : ∀ {j : Nat} {Y : List Bool}, some i = some j → Part ss Y (raw.take j) → i = j ∧ X = Y := fun h1 h2 => by
        cases h1
        exact ⟨rfl, hp.det h2⟩
      by_cases g : goodM p s X = true
      · rw [if_pos g]
        obtain ⟨l1, eX⟩ := goodM_split hl g
        have lo : (X.take (X.length - s.length)).length + s.length = X.length := by rw [List.length_take]; omega
        generalize X.take (X.length - s.length) = o at eX lo
        by_cases c : o = data
        · subst c
          rw [if_pos rfl]
          refine ⟨fun h => (nomatch h), ?_⟩
          rintro ⟨j, Y, h1, h2, _, _, h5, _⟩
          obtain ⟨rfl, rfl⟩ := uniq h1 h2
          exact absurd eX h5
        · rw [if_neg c]
          have ne : X ≠ data ++ bitsM p s data := fun z => c (List.append_inj_left (eX.symm.trans z) (by have := congrArg List.length z; rw [lb] at this; omega))
          by_cases c2 : i + f.length < raw.length
          · rw [if_pos c2]
            constructor
            · intro h
              cases h
              exact ⟨i, X, rfl, hp, hn, g, ne, c2⟩
            · rintro ⟨j, Y, h1, h2, _, _, h5, h6⟩
              obtain ⟨rfl, rfl⟩ := uniq h1 h2
              cases how with
              | cut => rfl
              | same => exact absurd h6.1 (by omega)
              | shift => exact absurd h6.1 (by omega)
          · rw [if_neg c2]
            by_cases c3 : o.length = data.length
            · rw [if_pos c3]
              constructor
              · intro h
                cases h
                exact ⟨i, X, rfl, hp, hn, g, ne, by omega, by omega⟩
              · rintro ⟨j, Y, h1, h2, _, _, h5, h6⟩
                obtain ⟨rfl, rfl⟩ := uniq h1 h2
                cases how with
                | cut => exact absurd h6 c2
                | same => rfl
                | shift => exact absurd h6.2 (by omega)
            · rw [if_neg c3]
              constructor
              · intro h
                cases h
                exact ⟨i, X, rfl, hp, hn, g, ne, by omega, by omega⟩
              · rintro ⟨j, Y, h1, h2, _, _, h5, h6⟩
                obtain ⟨rfl, rfl⟩ := uniq h1 h2
                cases how with
                | cut => exact absurd h6 c2
                | same => exact absurd h6.2 (by omega)
                | shift => rfl
      · rw [if_neg g]
        refine ⟨fun h => (nomatch h), ?_⟩
        rintro ⟨j, Y, h1, h2, _, h4, _⟩
        obtain ⟨rfl, rfl⟩ := uniq h1 h2
        exact absurd h4 g
/-- the line of data -/
def lnM (ss : List Stf) (p s data : List Bool) : List Bool := bodyF ss (data ++ bitsM p s data)
/-- some data of n bits with hits unseen in this way -/
def Trd (f : List Bool) (ss : List Stf) (p s : List Bool) (ks : List Kd) (mh : Nat) (how : How) (n : Nat) : Prop :=
  ∃ (data : List Bool) (hs : List (Nat × Kd)), data.length = n ∧ hs.length ≤ mh ∧ (∀ x ∈ hs, x.2 ∈ ks) ∧ Asc 0 (lnM ss p s data).length hs ∧ wayO f ss p s data (hitM (lnM ss p s data) 0 hs ++ f) = some how
theorem uns_try {f : List Bool} {ss : List Stf} {p s : List Bool} {ks : List Kd} {mh : Nat} {how : How} {M : List Bool} {hs : List (Nat × Kd)} (o : OkN 39 ss) (h0 : putM ss [] = none) (hl : s.length + 1 = p.length) :
    Uns (mkN f ss p s ks mh how) M hs ↔ ∃ data, M = data ++ bitsM p s data ∧ hs.length ≤ mh ∧ (∀ x ∈ hs, x.2 ∈ ks) ∧ Asc 0 (lnM ss p s data).length hs ∧ wayO f ss p s data (hitM (lnM ss p s data) 0 hs ++ f) = some how := by
  constructor
  · rintro ⟨u1, u2, u3, ln, u4, u5, u6, u7⟩
    obtain ⟨l1, eM⟩ := goodM_split hl u1
    have el : ln = bodyF ss M := (u4.body h0 u5).isF o
    refine ⟨M.take (M.length - s.length), eM, u2, u3, ?_, ?_⟩
    · unfold lnM
      rw [← eM, ← el]
      exact u6
    · refine (wayO_iff (ks := ks) (mh := mh) h0 hl).mpr ?_
      unfold lnM
      rw [← eM, ← el]
      exact u7
  · rintro ⟨data, rfl, u2, u3, u6, u7⟩
    have hb := body_ex o (data ++ bitsM p s data)
    exact ⟨goodM_bits hl data, u2, u3, _, hb.part h0, hb.end h0, u6, (wayO_iff h0 hl).mp u7⟩
theorem trd_iff {f : List Bool} {ss : List Stf} {p s : List Bool} {ks : List Kd} {mh n : Nat} {how : How} (o : OkN 39 ss) (h0 : putM ss [] = none) (hl : s.length + 1 = p.length) :
    Trd f ss p s ks mh how n ↔ ∃ M hs, M.length = n + s.length ∧ Uns (mkN f ss p s ks mh how) M hs := by
  constructor
  · rintro ⟨data, hs, h1, h2, h3, h4, h5⟩
    exact ⟨_, hs, by rw [List.length_append, bitsM_len hl, h1], (uns_try o h0 hl).mpr ⟨data, rfl, h2, h3, h4, h5⟩⟩
  · rintro ⟨M, hs, h1, h2⟩
    obtain ⟨data, rfl, h3⟩ := (uns_try o h0 hl).mp h2
    rw [List.length_append, bitsM_len hl] at h1
    exact ⟨data, hs, by omega, h3⟩
/-- the least size told, and the tries -/
def LstT (f : List Bool) (ss : List Stf) (p s : List Bool) (ks : List Kd) (mh : Nat) (how : How) : Fnd3 → Prop
  | none => ∀ n, ¬ Trd f ss p s ks mh how n
  | some x => s.length ≤ x.1 ∧ Trd f ss p s ks mh how (x.1 - s.length) ∧ ∀ n, n < x.1 - s.length → ¬ Trd f ss p s ks mh how n
theorem lst_try {f : List Bool} {ss : List Stf} {p s : List Bool} {ks : List Kd} {mh : Nat} {how : How} {r : Fnd3} (o : OkN 39 ss) (h0 : putM ss [] = none) (hl : s.length + 1 = p.length) (h : LstU (mkN f ss p s ks mh) [how] r) :
    LstT f ss p s ks mh how r := by
  cases r with
  | none =>
    intro n ht
    obtain ⟨M, hs, _, hu⟩ := (trd_iff o h0 hl).mp ht
    exact h how (List.mem_singleton.mpr rfl) _ _ hu
  | some x =>
    obtain ⟨n, M, hs⟩ := x
    obtain ⟨⟨hw, hm, hu⟩, e, hmin⟩ := h
    have := List.mem_singleton.mp hm
    subst this
    have l1 : s.length ≤ M.length := uns_len hu
    refine ⟨by show s.length ≤ n; omega, (trd_iff o h0 hl).mpr ⟨M, hs, by show M.length = n - s.length + s.length; omega, hu⟩, fun m hm ht => ?_⟩
    obtain ⟨M', hs', e', hu'⟩ := (trd_iff o h0 hl).mp ht
    have := hmin hw (List.mem_singleton.mpr rfl) _ _ hu'
    have hm : m < n - s.length := hm
    omega
end U

set_option maxRecDepth 100000
set_option maxHeartbeats 4000000
namespace U
open PySem PySem.Spec PyProof.Rows
open L2 hiding Fun CX0 E0 pass0 Fun.binds
open C8 Lx SX
theorem arrL2 (b : Bool) (k : Kd) : (arr b k).length ≤ 2 := by cases k <;> cases b <;> decide
theorem prLen {α β : Type} {F : α → β → Prop} : ∀ {l : List α} {m : List β}, Paired F l m → l.length = m.length
  | _, _, .nil => rfl
  | _, _, .cons _ t => by rw [List.length_cons, List.length_cons, prLen t]
theorem prGet {α β : Type} {F : α → β → Prop} : ∀ {l : List α} {m : List β} {i : Nat} {a : α}, Paired F l m → l[i]? = some a → ∃ b, m[i]? = some b ∧ F a b
  | _, _, 0, a, .cons h _, e => by
    cases e
    exact ⟨_, rfl, h⟩
  | _, _, i + 1, a, .cons _ t, e => prGet (i := i) t e
def KdKey (hs : List (Nat × Kd)) : List (Key × V) := hs.map fun h => (Sum.inl (h.1 : Int), V.str (kS h.2))
theorem ascTop : ∀ {hs : List (Nat × Kd)} {lo n m : Nat}, Asc lo n hs → n ≤ m → Asc lo m hs
  | [], _, _, _, _, _ => trivial
  | (p, k) :: r, lo, n, m, ⟨h1, h2, h3⟩, h => ⟨h1, by omega, ascTop h3 h⟩
theorem ascSnoc : ∀ {hs : List (Nat × Kd)} {lo i : Nat} {k : Kd}, Asc lo i hs → lo ≤ i → Asc lo (i + 1) (hs ++ [(i, k)])
  | [], lo, i, k, _, h => ⟨h, Nat.lt_succ_self _, trivial⟩
  | (p, _) :: r, lo, i, k, ⟨h1, h2, h3⟩, h => ⟨h1, by omega, ascSnoc h3 (by omega)⟩
theorem memK3 {v : V} (h : v ∈ ([.str "turn", .str "lose", .str "double"] : List V)) : ∃ k : Kd, v = .str (kS k) := by
  rcases List.mem_cons.mp h with rfl | h
  · exact ⟨.turn, rfl⟩
  · rcases List.mem_cons.mp h with rfl | h
    · exact ⟨.lose, rfl⟩
    · rcases List.mem_cons.mp h with rfl | h
      · exact ⟨.dbl, rfl⟩
      · cases h
theorem prSnoc {α β : Type} {F : α → β → Prop} : ∀ {l : List α} {m : List β} {a : α} {b : β}, Paired F l m → F a b → Paired F (l ++ [a]) (m ++ [b])
  | _, _, _, _, .nil, h => .cons h .nil
  | _, _, _, _, .cons x t, h => .cons x (prSnoc t h)
theorem htsUp {b : Addr} {H H' : Hp} {ps : List Addr} {hs : List (Nat × Kd)} (hb : Box H b) (x : Paired (HtAt H) ps hs) (e : Up b H H') : Paired (HtAt H') ps hs :=
  L2.Paired.mapP x fun p _ h => e.1 _ _ h (hb.neT h)
theorem htsUpd {H : Hp} {D : Addr} {xs : List V} {o : HO} {ps : List Addr} {hs : List (Nat × Kd)} (hD : H D = some (.lst xs)) (x : Paired (HtAt H) ps hs) : Paired (HtAt (upd H D o)) ps hs :=
  L2.Paired.mapP x fun p _ h => by
    have n : p ≠ D := ne_of h hD (by intro z; cases z)
    show upd H D o p = _
    rw [upd_ne n]; exact h
theorem valHts : ∀ (hs : List (Nat × Kd)) (acc : List (Key × V)) (lo n i : Nat), Asc lo n hs → valV (mergeK acc (KdKey hs)) (Sum.inl (i : Int)) = ((look hs i).map fun k => V.str (kS k)).or (valV acc (Sum.inl (i : Int)))
  | [], acc, lo, n, i, _ => rfl
  | (p, k) :: r, acc, lo, n, i, ⟨h1, h2, h3⟩ => by
    show valV (mergeK (putK acc (Sum.inl (p : Int)) (V.str (kS k))) (KdKey r)) (Sum.inl (i : Int)) = _
    rw [valHts r _ (p + 1) n i h3, valV_put]
    by_cases e : i = p
    · subst e
      rw [look_lt h3 (Nat.lt_succ_self _), look_head, if_pos rfl]
      rfl
    · rw [look_cons e, if_neg (fun z => e (by have := Sum.inl.inj z; omega))]
theorem prKeys {K : PySem.W.Frag} {H : Hp} {ps : List Addr} : ∀ {qs : List Addr} {hs : List (Nat × Kd)}, Paired (HtAt H) qs hs → Paired (fun p kv => SqT K H p [kV kv.1, kv.2]) qs (KdKey hs)
  | _, _, .nil => .nil
  | _, _, .cons h t => .cons (SqT.of h) (prKeys (ps := ps) t)
theorem keys_len (hs : List (Nat × Kd)) : (KdKey hs).length = hs.length := by unfold KdKey; rw [List.length_map]
/-- what comes for a bit: the dict of the law -/
def comes (b : Bool) : List (Key × V) := mergeK [] [(Sum.inr "", .str (W [b])), (Sum.inr "turn", .str (W [!b])), (Sum.inr "lose", .str (W [])), (Sum.inr "double", .str (W [b, b]))]
def kOf : Option Kd → Str
  | none => ""
  | some k => kS k
theorem comes_at : ∀ (b : Bool) (o : Option Kd), valV (comes b) (Sum.inr (kOf o)) = some (.str (W (sgn o b)))
  | true, none => by decide +kernel
  | true, some .turn => by decide +kernel
  | true, some .lose => by decide +kernel
  | true, some .dbl => by decide +kernel
  | false, none => by decide +kernel
  | false, some .turn => by decide +kernel
  | false, some .lose => by decide +kernel
  | false, some .dbl => by decide +kernel
theorem go_snoc (f : Nat → Option Kd) (l : List Bool) {i : Nat} {b : Bool} (h : l[i]? = some b) : go f 0 (l.take (i + 1)) = go f 0 (l.take i) ++ sgn (f i) b := by
  have hi := (List.getElem?_eq_some_iff.mp h).1
  rw [List.take_add_one, h, go_app]
  show go f 0 (l.take i) ++ (sgn (f (0 + (l.take i).length)) b ++ []) = _
  rw [List.append_nil, List.length_take, Nat.min_eq_left (Nat.le_of_lt hi), Nat.zero_add]
theorem sgnL2 (o : Option Kd) (b : Bool) : (sgn o b).length ≤ 2 := by
  cases o with
  | none => show 1 ≤ 2; decide
  | some k => exact arrL2 b k
theorem go_len (f : Nat → Option Kd) : ∀ (i : Nat) (l : List Bool), (go f i l).length ≤ 2 * l.length
  | _, [] => Nat.le_refl _
  | i, b :: r => by
    show (sgn (f i) b ++ go f (i + 1) r).length ≤ _
    have := go_len f (i + 1) r
    have := sgnL2 (f i) b
    rw [List.length_append, List.length_cons]
    omega
end U

set_option maxRecDepth 100000
set_option maxHeartbeats 4000000
set_option pp.maxSteps 700
namespace U
open PySem PySem.Spec PyProof.Rows
open L2 hiding Fun CX0 E0 pass0 Fun.binds
open C8 Lx SX StX
/-! the law's own reading, rests, check bits, receiving -/
structure StL (ss : List Stf) : Prop where
  sn : ss.length ≤ 1000
  sl : ∀ s ∈ ss, s.1.length ≤ 1000
def spLRead : Sp := fun vs H Q _ => ∃ (t : Addr) (f l : List Bool) (ss : List Stf), vs = [.ref t, .str (W l)] ∧ Told H t f ss ∧ l.length ≤ 9000 ∧ StL ss ∧ ∀ H', Same H H' → Q (oW (takM ss l)) H'
def spTRest : Sp := fun vs H Q _ => ∃ (t : Addr) (p s bits : List Bool), vs = [.ref t, .str (W bits)] ∧ H t = some (.tup [.str (W p), .str (W s)]) ∧ CkOk p s ∧ s.length ≤ 100 ∧ bits.length ≤ 9000 ∧
  ∀ H', Same H H' → Q (.str (W (restM p s bits))) H'
def spTGood : Sp := fun vs H Q _ => ∃ (t : Addr) (p s m : List Bool), vs = [.ref t, .str (W m)] ∧ H t = some (.tup [.str (W p), .str (W s)]) ∧ CkOk p s ∧ s.length ≤ 100 ∧ m.length ≤ 9000 ∧
  ∀ H', Same H H' → Q (.bl (goodM p s m)) H'
def spTBits : Sp := fun vs H Q _ => ∃ (t : Addr) (p s m : List Bool), vs = [.ref t, .str (W m)] ∧ H t = some (.tup [.str (W p), .str (W s)]) ∧ CkOk p s ∧ s.length ≤ 10 ∧ m.length ≤ 900 ∧
  ∀ H', Same H H' → Q (.str (W (bitsM p s m))) H'
def spTRecv : Sp := fun vs H Q _ => ∃ (t c : Addr) (f : List Bool) (ss : List Stf) (p s raw : List Bool) (i : Nat), vs = [.ref t, .ref c, .str (W raw)] ∧ Told H t f ss ∧ H c = some (.tup [.str (W p), .str (W s)]) ∧ CkOk p s ∧ s.length ≤ 100 ∧ StL ss ∧ raw.length ≤ 9000 ∧ posM raw f = some i ∧
  ∀ q H', Same H H' → H' q = some (.tup [.str (rdM ss p s (raw.take i)).1, oW (rdM ss p s (raw.take i)).2]) → Q (.ref q) H'
theorem wdsP_filter : ∀ {n : Nat} {c : List Bool}, c.length = n → (wdsP n).filter (fun w => decide (w = c)) = [c]
  | 0, c, h => by
    have : c = [] := List.length_eq_zero_iff.mp h
    subst this
    rfl
  | n + 1, [], h => by cases h
  | n + 1, b :: d, h => by
    have hd : d.length = n := Nat.succ.inj h
    have ih := wdsP_filter hd
    have key : ∀ (x : Bool) (l : List (List Bool)), (l.map (x :: ·)).filter (fun w => decide (w = b :: d)) = if x = b then (l.filter (fun w => decide (w = d))).map (b :: ·) else [] := by
      intro x l
      induction l with
      | nil => split <;> rfl
      | cons y r ih =>
        rw [List.map_cons, List.filter_cons, ih]
        by_cases e : x = b
        · subst e
          rw [if_pos rfl, if_pos rfl, List.filter_cons]
          by_cases e2 : y = d
          · subst e2
            rw [if_pos (decide_eq_true rfl), if_pos (decide_eq_true rfl)]; rfl
          · rw [if_neg (by simp [e2]), if_neg (by simp [e2])]
        · rw [if_neg e, if_neg (by simp [e]), if_neg e]
    show ((wdsP n).map (false :: ·) ++ (wdsP n).map (true :: ·)).filter _ = _
    rw [List.filter_append, key, key, ih]
    cases b <;> rfl
section
variable {P : Program} {w : World} {K : PySem.W.Frag} {mg : Str → Option Value} {base : Heap}
theorem sc_l_read : FnScope ["_law_rule_here", "_law_line", "_law_found", "_law_at", "_law_bit", "_law_due"] ["_law_rule_here", "_law_line"] (fnScope s_l_read) := fnScope_by (by decide +kernel)
theorem cal_l_read {f : Addr} {fd : FuncData} (F : Def K mg "_law_read" s_l_read f fd) (b : Binds K fd ["_law_rule_here", "_law_line"] []) (T : Tx mg) (c_l_put : Cal P w K mg base 1 "_law_put" spLPut []) : Cal P w K mg base 2 "_law_read" spLRead [] := by
  refine cal0 F b .nil sc_l_read (fun vs H Q E h => ?_) (fun cdv A outer s H vs Q E hr h => ?_)
  · obtain ⟨_, _, _, _, rfl, _⟩ := h; rfl
  · obtain ⟨t, fl, l, ss, rfl, told, hl, ok, k⟩ := h
    refine ⟨_, (pss_cons (ps_set (i := 2) sc_l_read.nd rfl (.inl rfl) pe_str)
    (pss_cons (ps_for PassesOwn.never rfl (pi_enumS (by rfl) T.b_enumerate (pa_cons (pv 1) pa_nil)) (pg_tup rfl (pgs_cons (pg_name (i := 3) sc_l_read.nd rfl (.inl rfl)) (pgs_cons (pg_name (i := 4) sc_l_read.nd rfl (.inl rfl)) pgs_nil)))
    (pss_cons (ps_set (i := 5) sc_l_read.nd rfl (.inl rfl) (pe_c c_l_put hr (by decide) rfl (pa_cons (pv 0) (pa_cons (pe_slice sl_txt (pv 1) po_none (po_some (pv 3))) pa_nil))))
    (pss_cons (ps_if (pt_cmpR op_notIn_seq (pv 5) (pe_tup (pa_cons pe_str (pa_cons (pv 4) pa_nil))) (by with_unfolding_all rfl)) (pss_one (ps_ret pe_non)) pss_nil)
    (pss_one (ps_set (i := 2) sc_l_read.nd rfl (.inl rfl) (pe_op op_add_str (pv 2) (pe_ifExp (pt_cmpR op_eq (pv 5) pe_str (nomark _)) (pv 4) pe_str)))))))
    (pss_one (ps_ret (pe_ifExp (pt_cmpR op_eq (pe_c c_l_put hr (by decide) rfl (pa_cons (pv 0) (pa_cons (pv 1) pa_nil))) pe_str (nomark _)) (pv 2) pe_non))))), ?_⟩
    have lw : (W l).length ≤ sizeLine := by rw [W_len]; exact sl_len (by omega)
    refine ⟨_, rfl, W l, rfl, for_it walk_enumS (fun i σ H2 => ∃ (m : List Bool) (v3 v4 v5 : Option V), σ = [some (.ref t), some (.str (W l)), some (.str (W m)), v3, v4, v5] ∧ Same H H2 ∧ m.length ≤ i ∧ takM ss l = takL ss (l.take i) (l.drop i) m) ⟨[], _, _, _, by rw [← W_nil]; rfl, Same.refl _, Nat.le_refl _, rfl⟩ (fun _ _ _ _ _ => trivial) ?_ ?_⟩
    · rintro i x σ H2 H3 hi ⟨m, v3, v4, v5, rfl, s2, hm, ht⟩ ⟨T', c, rfl, nT, rfl, hc⟩
      obtain ⟨bb, hbb, rfl⟩ := W_get hc
      have hi' := (List.getElem?_eq_some_iff.mp hbb).1
      have sT := same_upd (o := .tup [.int (i : Nat), .str ⟨#[bt bb]⟩]) nT
      refine ⟨T', _, rfl, SqT.of upd_same, rfl, _, _, rfl, _, _, rfl, rfl, ?_⟩
      have s3 := s2.trans sT
      generalize upd H2 T' (.tup [.int (i : Nat), .str ⟨#[bt bb]⟩]) = H3 at s3
      refine ⟨_, rfl, _, rfl, _, rfl, _, rfl, _, rfl, lw, ?_⟩
      rw [W_take (Int.natCast_nonneg _), Int.toNat_natCast]
      refine ⟨t, fl, l.take i, ss, rfl, told.same s3, by rw [List.length_take]; omega, ok.sn, ok.sl, fun H4 s4 => ?_⟩
      have s4' := s3.trans s4
      have ed : l.drop i = bb :: l.drop (i + 1) := by
        rw [List.drop_eq_getElem_cons hi']
        rw [List.getElem?_eq_getElem hi'] at hbb
        rw [Option.some.inj hbb]
      have et : l.take (i + 1) = l.take i ++ [bb] := by rw [List.take_add_one, hbb]; rfl
      rw [ed, takL_cons] at ht
      refine ⟨_, rfl, _, rfl, by show 2 ≤ sizeLine; decide, fun u nu => ?_⟩
      have s5 := s4'.trans (same_upd (o := .tup [.str "", .str ⟨#[bt bb]⟩]) nu)
      refine ⟨u, _, rfl, .inr (SqT.of upd_same), rfl, rfl, ?_⟩
      generalize upd H4 u (.tup [.str "", .str ⟨#[bt bb]⟩]) = H5 at s5
      refine ⟨_, rfl, ?_⟩
      rw [if_pos rfl]
      have e2 : ∀ z : Str, inV (.str z) [.str "", .str ⟨#[bt bb]⟩] = (decide ("" = z) || decide (W [bb] = z)) := fun z => by
        unfold inV
        simp only [List.any_cons, List.any_nil, Bool.or_false]
        rfl
      rw [e2]
      unfold putL
      have lb1 : (W m).length + (⟨#[bt bb]⟩ : Str).length ≤ sizeLine := by rw [W_len, show (⟨#[bt bb]⟩ : Str).length = 1 from W_len [bb]]; exact sl_len (by omega)
      have ew : W m ++ (⟨#[bt bb]⟩ : Str) = W (m ++ [bb]) := W_cat m [bb]
      have nil1 : ∀ b : Bool, ("" : Str) ≠ W [b] := fun b z => by
        rw [W_nil] at z
        cases W_inj z
      cases e : putM ss (l.take i) with
      | none =>
        rw [e] at ht
        dsimp only at ht
        rw [show decide (("" : Str) = W []) = true from decide_eq_true W_nil]
        refine iteBF rfl ?_
        refine ⟨_, rfl, _, rfl, rfl, _, rfl, iteDT (by rw [W_nil]) ⟨_, rfl, _, _, rfl, rfl, lb1, ?_⟩⟩
        rw [ew]
        exact ⟨m ++ [bb], _, _, _, rfl, s5, by rw [List.length_append]; show _ + 1 ≤ _; omega, by rw [et]; exact ht⟩
      | some c =>
        rw [e] at ht
        dsimp only at ht
        rw [show decide (("" : Str) = W [c]) = false from decide_eq_false (nil1 c), Bool.false_or]
        by_cases ec : c = bb
        · subst ec
          rw [if_pos rfl] at ht
          rw [show decide (W [c] = W [c]) = true from decide_eq_true rfl]
          refine iteBF rfl ?_
          refine ⟨_, rfl, _, rfl, rfl, _, rfl, iteDF (fun z => nil1 c (V.str.inj z).symm) ?_⟩
          refine ⟨_, _, rfl, rfl, by rw [W_len, empty_len]; exact sl_len (by omega), ?_⟩
          have en : W m ++ ("" : Str) = W m := by rw [W_nil, W_cat, List.append_nil]
          rw [en]
          exact ⟨m, _, _, _, rfl, s5, by omega, by rw [et]; exact ht⟩
        · rw [if_neg ec] at ht
          rw [show decide (W [bb] = W [c]) = false from decide_eq_false fun z => ec (List.cons.inj (W_inj z)).1.symm]
          refine iteBT rfl ?_
          have := k H5 s5
          rw [ht] at this
          exact this
    · rintro σ H2 ⟨m, v3, v4, v5, rfl, s2, hm, ht⟩
      rw [W_size] at hm ht
      rw [List.take_length, List.drop_length] at ht
      refine ⟨_, rfl, _, rfl, t, fl, l, ss, rfl, told.same s2, by omega, ok.sn, ok.sl, fun H4 s4 => ?_⟩
      have s5 := s2.trans s4
      rw [takL_nil] at ht
      unfold putL
      refine ⟨rfl, _, rfl, ?_⟩
      cases e : putM ss l with
      | none =>
        rw [e, if_pos rfl] at ht
        refine iteDT (by rw [W_nil]) ⟨_, rfl, ?_⟩
        have := k H4 s5
        rw [ht] at this
        exact this
      | some c =>
        rw [e, if_neg nofun] at ht
        refine iteDF (fun z => ?_) ?_
        · have z' := V.str.inj z
          rw [W_nil] at z'
          cases W_inj z'
        · have := k H4 s5
          rw [ht] at this
          exact this
theorem sc_l_rest : FnScope ["_law_check_here", "_law_bits", "_law_size", "_law_row", "_law_bit", "_law_at", "_law_spot"] ["_law_check_here", "_law_bits"] (fnScope s_l_rest) := fnScope_by (by decide +kernel)
theorem cal_l_rest {f : Addr} {fd : FuncData} (F : Def K mg "_law_rest" s_l_rest f fd) (b : Binds K fd ["_law_check_here", "_law_bits"] []) (T : Tx mg) : Cal P w K mg base 1 "_law_rest" spTRest [] := by
  refine cal0 F b .nil sc_l_rest (fun vs H Q E h => ?_) (fun cdv A outer s H vs Q E hr h => ?_)
  · obtain ⟨_, _, _, _, rfl, _⟩ := h; rfl
  · obtain ⟨t, p, st, bits, rfl, ht, ok, hs, hl, k⟩ := h
    refine ⟨_, (pss_cons (ps_par (i := 2) (j := 3) (by rfl) sc_l_rest.nd rfl rfl (by decide) rfl rfl (pa_cons (pe_op op_sub (pe_callB call_len_str (by rfl) T.b_len (by decide +kernel) (pa_cons (pe_ix ix_tup (pv 0) pe_int (fun _ _ => rfl)) pa_nil)) pe_int) (pa_cons (pe_lc (own := [("_law_bit", 4)]) (g := gName 4) (by rfl) sc_l_rest.nd (pi_str (pe_op op_add_str (pe_ix ix_tup (pv 0) pe_int (fun _ _ => rfl)) (pv 1))) (blkOk_by (own := [("_law_bit", 4)]) (N := ["_law_check_here", "_law_bits", "_law_size", "_law_row", "_law_bit", "_law_at", "_law_spot"]) (sc := fnScope s_l_rest) (by decide +kernel)) (fun _ _ _ _ _ => (pg_name (i := 4) sc_l_rest.nd rfl (.inl rfl))) (fun _ _ _ _ _ => pts_nil) (fun _ _ _ _ _ => (pe_callTy call_int_str (by rfl) T.b_int (by decide +kernel) (pa_cons (pv 4) pa_nil)))) pa_nil)) (by rfl))
    (pss_cons (ps_for PassesOwn.never rfl (pi_range1 (by rfl) T.b_range (pa_cons (pe_op op_sub (pe_callB call_len_seq (by rfl) T.b_len (by decide +kernel) (pa_cons (pv 3) pa_nil)) (pv 2)) pa_nil)) (pg_name (i := 5) sc_l_rest.nd rfl (.inl rfl))
    (pss_one (ps_if (pt_cmpR op_eq (pe_ix ix_list (pv 3) (pv 5) (fun _ _ => rfl)) pe_int (nomark _)) (pss_one (ps_for PassesOwn.never rfl (pi_enumS (by rfl) T.b_enumerate (pa_cons (pe_ix ix_tup (pv 0) pe_int (fun _ _ => rfl)) pa_nil)) (pg_tup rfl (pgs_cons (pg_name (i := 6) sc_l_rest.nd rfl (.inl rfl)) (pgs_cons (pg_name (i := 4) sc_l_rest.nd rfl (.inl rfl)) pgs_nil)))
    (pss_one (ps_asg (pe_op op_mod (pe_callTy call_int1 (by rfl) T.b_int (by decide +kernel) (pa_cons (pe_op op_add (pe_ix ix_list (pv 3) (pe_op op_add (pv 5) (pv 6)) (fun _ _ => rfl)) (pe_callTy call_int_str (by rfl) T.b_int (by decide +kernel) (pa_cons (pv 4) pa_nil))) pa_nil)) pe_int) (pg_sub (pv 3) (pe_op op_add (pv 5) (pv 6)) set_list))))) pss_nil)))
    (pss_one (ps_ret (pe_ifExp (pt_cmpR op_gt (pv 2) pe_int (nomark _)) (pe_join pe_str (pe_lc (own := [("_law_bit", 4)]) (g := gName 4) (by rfl) sc_l_rest.nd (pi_list (pe_slice sl_list (pv 3) (po_some (pe_op op_sub (pe_callB call_len_seq (by rfl) T.b_len (by decide +kernel) (pa_cons (pv 3) pa_nil)) (pv 2))) po_none)) (blkOk_by (own := [("_law_bit", 4)]) (N := ["_law_check_here", "_law_bits", "_law_size", "_law_row", "_law_bit", "_law_at", "_law_spot"]) (sc := fnScope s_l_rest) (by decide +kernel)) (fun _ _ _ _ _ => (pg_name (i := 4) sc_l_rest.nd rfl (.inl rfl))) (fun _ _ _ _ _ => pts_nil) (fun _ _ _ _ _ => (pe_callTy call_str_int (by rfl) T.b_str (by decide +kernel) (pa_cons (pv 4) pa_nil))))) pe_str))))), ?_⟩
    have lb : (W bits).length ≤ sizeLine := by rw [W_len]; exact sl_len (by omega)
    have hlen := ok.len
    refine ⟨_, rfl, t, _, _, _, rfl, rfl, SqT.of ht, atI_nat (j := 0) rfl, _, rfl, by rw [W_len]; exact sl_len (by omega), _, _, rfl, rfl, _, rfl, t, _, _, _, rfl, rfl, SqT.of ht, atI_nat (j := 1) rfl, _, rfl, _, _, rfl, rfl, by rw [W_len, W_len]; exact sl_len (by omega), ?_⟩
    rw [W_cat]
    refine ⟨_, rfl, fun D nD => ?_⟩
    refine lc_it walk_str (fun i H2 => Same H H2 ∧ H2 D = some (.lst (((st ++ bits).take i).map fun b => V.int (b2 b)))) ⟨same_upd nD, upd_same⟩ (fun _ _ _ _ => trivial) ?_ ?_
    · rintro i x H2 H3 hi ⟨s2, hD⟩ ⟨rfl, c, hc, rfl⟩
      obtain ⟨b1, hb1, rfl⟩ := W_get hc
      refine ⟨rfl, ?_⟩
      refine ⟨_, rfl, W [b1], b2 b1, rfl, int_W b1, by rw [W_len]; show 1 ≤ 640; decide, _, hD, ?_, ?_, ?_⟩
      · rw [List.length_map, List.length_take, List.length_append]; exact sl_lt (by omega)
      · intro c' o e'
        rw [upd_ne (ne_of_none e' nD)]
        exact s2 _ _ e'
      · rw [upd_same, List.take_add_one, hb1]; simp
    · rintro H2 ⟨s2, hD⟩
      rw [W_size, List.take_length, ← rowV_of, List.length_append] at hD
      -- for at in range(len(bits))
      refine ⟨_, _, rfl, _, rfl, D, _, rfl, .inl (SqL.of hD), _, rfl, _, _, rfl, rfl, ?_⟩
      have el : (((rowV (st.length + bits.length) fun j => (st ++ bits).getD j false).length : Nat) : Int) - (((W p).length : Nat) - 1) = (bits.length : Nat) := by rw [rowV_len, W_len]; omega
      refine ⟨((bits.length : Nat) : Int), congrArg (fun z => [V.int z]) el, by omega, by omega, ?_⟩
      rw [show ((bits.length : Nat) : Int).toNat = bits.length from Int.toNat_natCast _]
      have ez : ((W p).length : Int) - 1 = (st.length : Nat) := by rw [W_len]; omega
      refine for_it walk_range (fun i σ H3 => ∃ (g : Nat → Bool) (v4 v5 v6 : Option V), σ = [some (.ref t), some (.str (W bits)), some (.int (st.length : Nat)), some (.ref D), v4, v5, v6] ∧ Same H H3 ∧ H3 D = some (.lst (rowV (st.length + bits.length) g)) ∧ RowAt p st bits i g)
        ⟨_, none, none, none, by rw [← ez]; rfl, s2, hD, rowAt_0 p st bits⟩ (fun _ _ _ _ _ => trivial) ?_ ?_
      · rintro i x σ H3' H3 hi ⟨g, v4, v5, v6, rfl, s3, hD3, ra⟩ ⟨rfl, rfl⟩
        have e0 : (0 : Int) + (i : Int) = (i : Nat) := by omega
        have at0 : atI (rowV (st.length + bits.length) g) ((0 : Int) + (i : Int)) = some (V.int (b2 (g i))) := by
          rw [e0]
          exact atI_nat (rowV_get (by omega))
        refine ⟨_, rfl, _, rfl, D, _, _, _, rfl, rfl, SqL.of hD3, at0, ?_⟩
        · refine ⟨rfl, _, rfl, ?_⟩
          refine ite2 (fun h1 => ?_) (fun h1 => ?_)
          · have gt : g i = true := by
              have := of_decide_eq_true h1
              cases hg : g i with
              | true => rfl
              | false => rw [hg] at this; exact absurd this (by decide)
            refine ⟨_, rfl, t, _, _, _, rfl, rfl, SqT.of (s3 _ _ ht), atI_nat (j := 0) rfl, W p, rfl, ?_⟩
            refine for_it walk_enumS (fun k σ H4 => ∃ v4 v6 : Option V, σ = [some (.ref t), some (.str (W bits)), some (.int (st.length : Nat)), some (.ref D), v4, some (.int (0 + (i : Int))), v6] ∧ Same H H4 ∧ H4 D = some (.lst (rowV (st.length + bits.length) (xorF p i k g))))
              ⟨_, _, rfl, s3, by rw [hD3]; congr 2; congr 1; funext j; unfold xorF; rw [if_neg (by omega)]⟩ (fun _ _ _ _ _ => trivial) ?_ ?_
            · rintro k y σ H4 H5 hk ⟨w3, w5, rfl, s4, hD4⟩ ⟨T', c, rfl, nT, rfl, hc⟩
              obtain ⟨b1, hb1, rfl⟩ := W_get hc
              have hkp : k < p.length := by rw [W_size] at hk; exact hk
              have s5 := s4.trans (same_upd (o := .tup [.int (k : Nat), .str ⟨#[bt b1]⟩]) nT)
              have hD5 : upd H4 T' (.tup [.int (k : Nat), .str ⟨#[bt b1]⟩]) D = some (.lst (rowV (st.length + bits.length) (xorF p i k g))) := by rw [upd_ne (ne_of_none hD4 nT)]; exact hD4
              have hT5 : upd H4 T' (.tup [.int (k : Nat), .str ⟨#[bt b1]⟩]) T' = some (.tup [.int (k : Nat), .str ⟨#[bt b1]⟩]) := upd_same
              generalize upd H4 T' (.tup [.int (k : Nat), .str ⟨#[bt b1]⟩]) = H5 at s5 hD5 hT5
              have ik : (0 : Int) + (i : Int) + (k : Int) = ((i + k : Nat) : Int) := by omega
              have at1 : atI (rowV (st.length + bits.length) (xorF p i k g)) ((0 : Int) + (i : Int) + (k : Int)) = some (V.int (b2 (xorF p i k g (i + k)))) := by
                rw [ik]
                exact atI_nat (rowV_get (by omega))
              have ix1 : ixN (rowV (st.length + bits.length) (xorF p i k g)).length ((0 : Int) + (i : Int) + (k : Int)) = some (i + k) := by
                rw [ik]
                unfold ixN
                rw [rowV_len, if_pos (by omega), if_pos (by omega)]
                rfl
              refine ⟨T', _, rfl, SqT.of hT5, rfl, _, _, rfl, _, _, rfl, rfl, ?_⟩
              refine ⟨_, rfl, _, rfl, _, rfl, _, _, rfl, rfl, D, _, _, _, rfl, rfl, SqL.of hD5, at1, _, rfl, W [b1], b2 b1, rfl, int_W b1, (by rw [W_len]; show 1 ≤ 640; decide), _, _, rfl, rfl, .inl ⟨_, rfl, _, _, rfl, rfl, (by show (0 : Int) < 2; decide), ?_⟩⟩
              refine ⟨_, rfl, _, rfl, _, rfl, _, _, rfl, rfl, D, _, _, i + k, rfl, rfl, hD5, ix1, ?_⟩
              refine ⟨_, _, rfl, fun c' o e' => ?_, ?_⟩
              · rw [upd_ne (ne_of_none e' nD)]
                exact s5 _ _ e'
              · rw [upd_same]
                show some (HO.lst ((rowV _ (xorF p i k g)).set (i + k) (V.int ((b2 (xorF p i k g (i + k)) + b2 b1) % 2)))) = _
                rw [mod_xor, rowV_set, ← xorF_succ]
                have : p.getD k false = b1 := by simp only [List.getD_eq_getElem?_getD]; rw [hb1]; rfl
                rw [this]
            · rintro σ H4 ⟨w3, w5, rfl, s4, hD4⟩
              rw [W_size] at hD4
              refine ⟨_, _, _, _, rfl, s4, hD4, ?_⟩
              have := rowAt_step hlen hi ra
              rw [gt] at this
              exact this
          · have gf : g i = false := by
              cases hg : g i with
              | false => rfl
              | true => rw [hg] at h1; exact absurd rfl h1
            refine ⟨_, _, _, _, rfl, s3, hD3, ?_⟩
            have := rowAt_step hlen hi ra
            rw [gf] at this
            exact this
      · rintro σ H3 ⟨g, v4, v5, v6, rfl, s3, hD3, ra⟩
        -- the join
        refine ⟨_, rfl, _, _, rfl, rfl, _, rfl, ?_⟩
        have lr : (restM p st bits).length = st.length := restM_len _ _ hlen
        by_cases c0 : 0 < st.length
        · refine iteDT (by omega) ?_
          have ei : (((rowV (st.length + bits.length) g).length : Nat) : Int) - ((st.length : Nat) : Int) = (bits.length : Nat) := by rw [rowV_len]; omega
          refine ⟨⟨_, rfl⟩, _, rfl, _, rfl, D, _, rfl, .inl (SqL.of hD3), _, rfl, _, _, rfl, rfl, ((bits.length : Nat) : Int), congrArg V.int ei, D, _, rfl, SqL.of hD3, fun q nq => ?_⟩
          rw [cut_fromC (by rw [rowV_len]; omega), rowV_drop hlen ra]
          refine ⟨q, rfl, ⟨_, SqL.of upd_same⟩, fun D2 nD2 => ?_⟩
          have hq : upd H3 q (.lst ((restM p st bits).map fun b => V.int (b2 b))) q = some (.lst ((restM p st bits).map fun b => V.int (b2 b))) := upd_same
          have s4 := s3.trans (same_upd (o := .lst ((restM p st bits).map fun b => V.int (b2 b))) nq)
          generalize upd H3 q (.lst ((restM p st bits).map fun b => V.int (b2 b))) = H4 at hq s4 nD2
          refine lc_it (walk_list (K := K) (a := q) (xs := (restM p st bits).map fun b => V.int (b2 b))) (fun i H5 => Same H4 H5 ∧ H5 D2 = some (.lst (bitsV ((restM p st bits).take i)))) ⟨same_upd nD2, upd_same⟩ (fun i H5 _ h => SqL.of (h.1 _ _ hq)) ?_ ?_
          · rintro i x H5' H5 hi ⟨s5, hD5⟩ ⟨rfl, hx⟩
            rw [List.getElem?_map] at hx
            obtain ⟨b1, hb1, rfl⟩ := Option.map_eq_some_iff.mp hx
            refine ⟨rfl, ?_⟩
            refine ⟨_, rfl, _, rfl, ?_, _, hD5, ?_, ?_, ?_⟩
            · cases b1 <;> decide
            · rw [bitsV_len, List.length_take]; exact sl_lt (by omega)
            · intro c' o e'
              rw [upd_ne (ne_of_none e' nD2)]
              exact s5 _ _ e'
            · rw [upd_same, List.take_add_one, hb1]
              show some (HO.lst (bitsV _ ++ [V.str (Str.ofString (toString (b2 b1)))])) = _
              rw [str_b2, bitsV_snoc]
              rfl
          · rintro H5 ⟨s5, hD5⟩
            rw [List.length_map, List.take_length] at hD5
            refine ⟨_, D2, _, rfl, rfl, .inl (SqL.of hD5), ?_, ?_⟩
            · rw [lens_bits, empty_len]; omega
            · show Q (.str (Txt.join "" ((restM p st bits).map fun b => W [b]))) H5
              rw [join_bits]
              exact k H5 (s4.trans s5)
        · refine iteDF (by omega) ?_
          have e0 : restM p st bits = [] := List.eq_nil_of_length_eq_zero (by omega)
          have := k H3 s3
          rw [e0, ← W_nil] at this
          exact this
theorem sc_l_is_good : FnScope ["_law_check_here", "_law_message"] ["_law_check_here", "_law_message"] (fnScope s_l_is_good) := fnScope_by (by decide +kernel)
theorem cal_l_is_good {f : Addr} {fd : FuncData} (F : Def K mg "_law_is_good" s_l_is_good f fd) (b : Binds K fd ["_law_check_here", "_law_message"] []) (T : Tx mg) (c_l_rest : Cal P w K mg base 1 "_law_rest" spTRest []) : Cal P w K mg base 2 "_law_is_good" spTGood [] := by
  refine cal0 F b .nil sc_l_is_good (fun vs H Q E h => ?_) (fun cdv A outer s H vs Q E hr h => ?_)
  · obtain ⟨_, _, _, _, rfl, _⟩ := h; rfl
  · obtain ⟨t, p, st, m, rfl, ht, ok, hs, hm, k⟩ := h
    refine ⟨_, (pss_one (ps_ret (pe_and (pe_cmpR op_ge (pe_callB call_len_str (by rfl) T.b_len (by decide +kernel) (pa_cons (pv 1) pa_nil)) (pe_op op_sub (pe_callB call_len_str (by rfl) T.b_len (by decide +kernel) (pa_cons (pe_ix ix_tup (pv 0) pe_int (fun _ _ => rfl)) pa_nil)) pe_int) (nomark _)) (pe_one (pe_cmpR op_notIn_sign pe_str (pe_c c_l_rest hr (by decide) rfl (pa_cons (pv 0) (pa_cons (pv 1) pa_nil))) (by with_unfolding_all rfl)))))), ?_⟩
    have hlen := ok.len
    refine ⟨_, rfl, _, rfl, by rw [W_len]; exact sl_len (by omega), _, rfl, t, _, _, _, rfl, rfl, SqT.of ht, atI_nat (j := 0) rfl, _, rfl, by rw [W_len]; exact sl_len (by omega), _, _, rfl, rfl, _, _, rfl, rfl, _, rfl, ?_⟩
    rw [W_len, W_len]
    refine ite2 (fun h1 => ?_) (fun h1 => ?_)
    · have h2 : ((p.length : Nat) : Int) - 1 ≤ ((m.length : Nat) : Int) := of_decide_eq_true h1
      refine ⟨_, rfl, _, rfl, t, p, st, m, rfl, ht, ok, hs, hm, fun H1 s1 => ⟨49, _, V_1, rfl, ?_⟩⟩
      rw [one_in]
      have := k H1 s1
      unfold goodM at this
      rw [decide_eq_true (by omega : st.length ≤ m.length), Bool.true_and] at this
      exact this
    · have h2 : ¬ ((p.length : Nat) : Int) - 1 ≤ ((m.length : Nat) : Int) := of_decide_eq_false (by simpa using h1)
      have := k H (Same.refl H)
      unfold goodM at this
      rw [decide_eq_false (by omega : ¬ st.length ≤ m.length), Bool.false_and] at this
      exact this
theorem sc_l_bits_for : FnScope ["_law_check_here", "_law_data", "_law_word_here"] ["_law_check_here", "_law_data"] (fnScope s_l_bits_for) := fnScope_by (by decide +kernel)
theorem cal_l_bits_for {f : Addr} {fd : FuncData} (F : Def K mg "_law_bits_for" s_l_bits_for f fd) (b : Binds K fd ["_law_check_here", "_law_data"] []) (T : Tx mg) (c_l_words : Cal P w K mg base 1 "_law_words" spWordsP []) (c_l_rest : Cal P w K mg base 1 "_law_rest" spTRest []) :
    Cal P w K mg base 2 "_law_bits_for" spTBits [] := by
  refine cal0 F b .nil sc_l_bits_for (fun vs H Q E h => ?_) (fun cdv A outer s H vs Q E hr h => ?_)
  · obtain ⟨_, _, _, _, rfl, _⟩ := h; rfl
  · obtain ⟨t, p, st, m, rfl, ht, ok, hs, hm, k⟩ := h
    refine ⟨_, (pss_one (ps_ret (pe_ix ix_list (pe_lc (own := [("_law_word_here", 2)]) (g := gName 2) (by rfl) sc_l_bits_for.nd (pi_list (pe_c c_l_words hr (by decide) rfl (pa_cons (pe_op op_sub (pe_callB call_len_str (by rfl) T.b_len (by decide +kernel) (pa_cons (pe_ix ix_tup (pv 0) pe_int (fun _ _ => rfl)) pa_nil)) pe_int) pa_nil))) (blkOk_by (own := [("_law_word_here", 2)]) (N := ["_law_check_here", "_law_data", "_law_word_here"]) (sc := fnScope s_l_bits_for) (by decide +kernel)) (fun _ _ _ _ _ => (pg_name (i := 2) sc_l_bits_for.nd rfl (.inl rfl))) (fun _ _ _ _ _ => (pts_one (pt_cmpR op_notIn_sign pe_str (pe_c c_l_rest hr (by decide) rfl (pa_cons (pv 0) (pa_cons (pe_op op_add_str (pv 1) (pv 2)) pa_nil))) (by with_unfolding_all rfl)))) (fun _ _ _ _ _ => (pv 2))) pe_int (fun _ _ => rfl)))), ?_⟩
    have hlen := ok.len
    refine ⟨_, rfl, t, _, _, _, rfl, rfl, SqT.of ht, atI_nat (j := 0) rfl, _, rfl, by rw [W_len]; exact sl_len (by omega), _, _, rfl, rfl, st.length, ?_, by omega, fun l H1 nl s1 hl => ?_⟩
    · show [V.int (((W p).length : Nat) - 1)] = _
      rw [W_len, show ((p.length : Nat) : Int) - 1 = (st.length : Nat) by omega]
    refine ⟨_, rfl, ⟨_, SqL.of hl⟩, fun D nD => ?_⟩
    have wb : 2 ^ st.length ≤ 2 ^ 10 := Nat.pow_le_pow_right (by decide) hs
    have wl := wdsP_len st.length
    refine lc_it (walk_list (K := K) (a := l) (xs := wdsV (wdsP st.length))) (fun i H2 => Same H1 H2 ∧ H2 D = some (.lst (wdsV (((wdsP st.length).take i).filter fun w => decide (w = bitsM p st m))))) ⟨same_upd nD, upd_same⟩ (fun i H2 _ h => SqL.of (h.1 _ _ hl)) ?_ ?_
    · rintro i x H2' H2 hi ⟨s2, hD⟩ ⟨rfl, hx⟩
      obtain ⟨u, hu, rfl⟩ := wdsV_get hx
      have ul : u.length = st.length := wdsP_size (List.mem_of_getElem? hu)
      refine ⟨rfl, ?_⟩
      refine ⟨_, rfl, _, rfl, _, rfl, _, _, rfl, rfl, by rw [W_len, W_len]; exact sl_len (by omega), ?_⟩
      rw [W_cat]
      refine ⟨t, p, st, m ++ u, rfl, s2 _ _ (s1 _ _ ht), ok, by omega, by rw [List.length_append]; omega, fun H3 s3 => ⟨49, _, V_1, rfl, _, rfl, ?_⟩⟩
      rw [one_in]
      have s3' := s2.trans s3
      have eg : (!decide (true ∈ restM p st (m ++ u))) = decide (u = bitsM p st m) := by
        rw [← goodM_tail hlen ul]
        unfold goodM
        rw [decide_eq_true (by rw [List.length_append]; omega : st.length ≤ (m ++ u).length), Bool.true_and]
      rw [eg]
      have eN : ((wdsP st.length).take (i + 1)).filter (fun w => decide (w = bitsM p st m)) = ((wdsP st.length).take i).filter (fun w => decide (w = bitsM p st m)) ++ (if decide (u = bitsM p st m) then [u] else []) := by
        rw [List.take_add_one, hu, List.filter_append]
        congr 1
        show [u].filter _ = _
        rw [List.filter_cons]
        rfl
      refine ite2 (fun h1 => ?_) (fun h1 => ?_)
      · refine ⟨_, rfl, _, s3 _ _ hD, ?_, same_mut' s3' nD, ?_⟩
        · rw [wdsV_len]
          have := List.length_filter_le (fun w => decide (w = bitsM p st m)) ((wdsP st.length).take i)
          rw [List.length_take] at this
          exact sl_lt (by omega)
        · rw [upd_same, eN, if_pos h1, wdsV_app]
          rfl
      · refine ⟨s3', ?_⟩
        rw [eN, if_neg h1, List.append_nil]
        exact s3 _ _ hD
    · rintro H2 ⟨s2, hD⟩
      rw [wdsV_len, List.take_length, wdsP_filter (bitsM_len hlen m)] at hD
      exact ⟨D, _, _, _, rfl, rfl, SqL.of hD, atI_nat (j := 0) rfl, k H2 (s1.trans s2)⟩
theorem sc_l_receive : FnScope ["_law_rule_here", "_law_check_here", "_law_raw", "_law_at", "_law_message"] ["_law_rule_here", "_law_check_here", "_law_raw"] (fnScope s_l_receive) := fnScope_by (by decide +kernel)
theorem cal_l_receive {f : Addr} {fd : FuncData} (F : Def K mg "_law_receive" s_l_receive f fd) (b : Binds K fd ["_law_rule_here", "_law_check_here", "_law_raw"] []) (T : Tx mg) (c_l_read : Cal P w K mg base 2 "_law_read" spLRead []) (c_l_is_good : Cal P w K mg base 2 "_law_is_good" spTGood []) :
    Cal P w K mg base 3 "_law_receive" spTRecv [] := by
  refine cal0 F b .nil sc_l_receive (fun vs H Q E h => ?_) (fun cdv A outer s H vs Q E hr h => ?_)
  · obtain ⟨_, _, _, _, _, _, _, _, rfl, _⟩ := h; rfl
  · obtain ⟨t, c, fl, ss, p, st, raw, i, rfl, told, hc, ok, hs, stl, lr, hpos, k⟩ := h
    refine ⟨_, (pss_cons (ps_set (i := 3) sc_l_receive.nd rfl (.inl rfl) (pe_m1 PySem.F.slot_str_find PySem.F.type_str_find mt_find (pv 2) (pe_ix ix_tup (pv 0) pe_int (fun _ _ => rfl))))
    (pss_cons (ps_if (pt_cmpR op_lt (pv 3) pe_int (nomark _)) (pss_one (ps_ret (pe_tup (pa_cons pe_str (pa_cons pe_non pa_nil))))) pss_nil)
    (pss_cons (ps_set (i := 4) sc_l_receive.nd rfl (.inl rfl) (pe_c c_l_read hr (by decide) rfl (pa_cons (pv 0) (pa_cons (pe_slice sl_txt (pv 2) po_none (po_some (pv 3))) pa_nil))))
    (pss_cons (ps_if (pt_cmpR op_isN (pv 4) pe_non (nomark _)) (pss_one (ps_ret (pe_tup (pa_cons pe_str (pa_cons pe_non pa_nil))))) pss_nil)
    (pss_cons (ps_if (pt_not (pt_val (pe_c c_l_is_good hr (by decide) rfl (pa_cons (pv 1) (pa_cons (pv 4) pa_nil))))) (pss_one (ps_ret (pe_tup (pa_cons pe_str (pa_cons pe_non pa_nil))))) pss_nil)
    (pss_one (ps_ret (pe_tup (pa_cons pe_str (pa_cons (pe_slice sl_txt (pv 4) po_none (po_some (pe_op op_add (pe_op op_sub (pe_callB call_len_str (by rfl) T.b_len (by decide +kernel) (pa_cons (pv 4) pa_nil)) (pe_callB call_len_str (by rfl) T.b_len (by decide +kernel) (pa_cons (pe_ix ix_tup (pv 1) pe_int (fun _ _ => rfl)) pa_nil))) pe_int))) pa_nil)))))))))), ?_⟩
    have hlen := ok.len
    obtain ⟨lk, ps, kb, h1, _⟩ := id told
    refine ⟨_, rfl, ⟨_, rfl⟩, _, rfl, t, _, _, _, rfl, rfl, SqT.of h1, atI_nat (j := 0) rfl, _, _, rfl, rfl, ?_⟩
    rw [find_W hpos]
    refine ⟨_, rfl, _, _, rfl, rfl, _, rfl, iteDF (by omega) ?_⟩
    have lw : (W raw).length ≤ sizeLine := by rw [W_len]; exact sl_len (by omega)
    refine ⟨_, rfl, _, rfl, _, rfl, _, rfl, _, rfl, lw, ?_⟩
    rw [W_take (Int.natCast_nonneg _), Int.toNat_natCast]
    refine ⟨t, fl, raw.take i, ss, rfl, told, by rw [List.length_take]; omega, stl, fun H1 s1 => ?_⟩
    refine ⟨_, rfl, rfl, _, rfl, ?_⟩
    rw [oW_non]
    unfold rdM at k
    cases e : takM ss (raw.take i) with
    | none =>
      rw [e] at k
      refine iteBT rfl ?_
      exact ⟨by show 2 ≤ sizeLine; decide, fun q nq => k q _ (s1.trans (same_upd nq)) upd_same⟩
    | some m =>
      rw [e] at k
      dsimp only at k
      have lm : m.length ≤ raw.length := by
        have := takM_le e
        rw [List.length_take] at this
        omega
      refine iteBF rfl ?_
      refine ⟨_, rfl, _, rfl, c, p, st, m, rfl, s1 _ _ hc, ok, hs, by omega, fun H2 s2 => ⟨_, rfl, ?_⟩⟩
      have s12 := s1.trans s2
      have wm : (W m).length = m.length := W_len m
      have wp : (W p).length = p.length := W_len p
      cases g : goodM p st m with
      | true =>
        rw [g] at k
        have hlm : st.length ≤ m.length := ((goodM_iff hlen).mp g).1
        refine iteBF rfl ?_
        have es : Txt.slice (W m) none (some ((((W m).length : Nat) : Int) - ((W p).length : Nat) + 1)) = W (m.take (m.length - st.length)) := by
          rw [wm, wp, W_take (by omega)]
          congr 2
          omega
        refine ⟨_, rfl, _, rfl, _, rfl, by rw [wm]; exact sl_len (by omega), _, rfl, c, _, _, _, rfl, rfl, SqT.of (s12 _ _ hc), atI_nat (j := 0) rfl, _, rfl, by rw [wp]; exact sl_len (by omega), _, _, rfl, rfl, _, _, rfl, rfl, _, rfl, _, rfl, by rw [wm]; exact sl_len (by omega), ?_⟩
        rw [es]
        exact ⟨by show 2 ≤ sizeLine; decide, fun q nq => k q _ (s12.trans (same_upd nq)) upd_same⟩
      | false =>
        rw [g] at k
        refine iteBT rfl ?_
        exact ⟨by show 2 ≤ sizeLine; decide, fun q nq => k q _ (s12.trans (same_upd nq)) upd_same⟩
end
end U

set_option maxRecDepth 100000
set_option maxHeartbeats 4000000
set_option pp.maxSteps 700
namespace U
open PySem PySem.Spec PyProof.Rows
open L2 hiding Fun CX0 E0 pass0 Fun.binds
open C8 Lx SX StX
/-! the law's own hits, rows of hits, ways -/
/-- a row of hits, its object known -/
def RowX (H : Hp) (p : Addr) (hs : List (Nat × Kd)) : Prop := ∃ qs : List Addr, TpX H p (qs.map V.ref) ∧ Paired (HtAt H) qs hs
theorem HtAt.sm {H H' : Hp} {t : Addr} {x : Nat × Kd} (h : HtAt H t x) (s : Same H H') : HtAt H' t x := s _ _ h
theorem RowX.same {H H' : Hp} {p : Addr} {hs : List (Nat × Kd)} (h : RowX H p hs) (s : Same H H') : RowX H' p hs := by
  obtain ⟨qs, h1, h2⟩ := h
  exact ⟨qs, h1.same s, Paired.mapP h2 fun _ _ z => z.sm s⟩
theorem rows_same {H H' : Hp} {ps : List Addr} {rs : List (List (Nat × Kd))} (h : Paired (RowX H) ps rs) (s : Same H H') : Paired (RowX H') ps rs := Paired.mapP h fun _ _ z => z.same s
def spTArr (K : PySem.W.Frag) : Sp := fun vs H Q _ => ∃ (l : List Bool) (a : Addr) (hs : List (Nat × Kd)), vs = [.str (W l), .ref a] ∧ RowX H a hs ∧ Asc 0 l.length hs ∧ l.length ≤ 4000 ∧
  ∀ H', Same H H' → Q (.str (W (hitM l 0 hs))) H'
def spTRows : Sp := fun vs H Q _ => ∃ (q : Addr) (many n : Nat) (ks : List Kd), vs = [.int (many : Nat), .ref q, .int (n : Nat)] ∧ H q = some (.lst (ks.map fun k => .str (kS k))) ∧ many ≤ 400 ∧ ks.length ≤ 3 ∧ n ≤ 2 ∧
  ∀ a ps H', H a = none → Same H H' → H' a = some (.lst (ps.map V.ref)) → Paired (RowX H') ps (rowsM many ks n) → Q (.ref a) H'
def grR (many : Nat) (ks : List Kd) (r : List (Nat × Kd)) : List (List (Nat × Kd)) := ks.flatMap fun k => (List.range' (fstR r) (many - fstR r)).map fun i => r ++ [(i, k)]
theorem rowsM_succ (many : Nat) (ks : List Kd) (n : Nat) : rowsM many ks (n + 1) = (rowsM many ks n).flatMap (grR many ks) := rfl
theorem RowX.upd {H : Hp} {p D : Addr} {hs : List (Nat × Kd)} {xs : List V} {o : HO} (h : RowX H p hs) (hD : H D = some (.lst xs)) : RowX (L2.upd H D o) p hs := by
  obtain ⟨qs, ⟨o', h1, h3⟩, h2⟩ := h
  refine ⟨qs, ⟨o', ?_, h3⟩, htsUpd hD h2⟩
  rw [upd_ne (ne_of h1 hD (by intro z; cases z))]
  exact h1
theorem rows_upd {H : Hp} {D : Addr} {ps : List Addr} {rs : List (List (Nat × Kd))} {xs : List V} {o : HO} (h : Paired (RowX H) ps rs) (hD : H D = some (.lst xs)) : Paired (RowX (L2.upd H D o)) ps rs := Paired.mapP h fun _ _ z => z.upd hD
theorem prApp {α β : Type} {F : α → β → Prop} : ∀ {l l2 : List α} {m m2 : List β}, Paired F l m → Paired F l2 m2 → Paired F (l ++ l2) (m ++ m2)
  | _, _, _, _, .nil, h => h
  | _, _, _, _, .cons x t, h => .cons x (prApp t h)
theorem pr_last {F : Addr → (Nat × Kd) → Prop} {qr : List Addr} {r : List (Nat × Kd)} {x : Nat × Kd} (h : Paired F qr (r ++ [x])) : ∃ t, atI (qr.map V.ref) (-1) = some (.ref t) ∧ F t x := by
  have l := prLen h
  rw [List.length_append] at l
  have l : qr.length = r.length + 1 := l
  obtain ⟨t, ht⟩ : ∃ t, qr[r.length]? = some t := ⟨_, List.getElem?_eq_getElem (by omega)⟩
  obtain ⟨y, hy, hf⟩ := prGet h ht
  rw [List.getElem?_append_right (Nat.le_refl _), Nat.sub_self] at hy
  cases hy
  refine ⟨t, ?_, hf⟩
  unfold atI ixN
  rw [List.length_map, l, if_neg (by decide), if_pos (by omega)]
  show (qr.map V.ref)[((-1 : Int) + ((r.length + 1 : Nat) : Int)).toNat]? = _
  rw [show ((-1 : Int) + ((r.length + 1 : Nat) : Int)).toNat = r.length by omega, List.getElem?_map, ht]
  rfl
def rowD (r : List (Nat × Kd)) : List PyData := r.map fun x => PyData.tuple [.int (x.1 : Nat), .str (kS x.2)]
theorem dp_row {K : PySem.W.Frag} {H : Hp} : ∀ {qs : List Addr} {r : List (Nat × Kd)}, Paired (HtAt H) qs r → DpAll K H (qs.map V.ref) (rowD r)
  | _, _, .nil => .nil
  | _, _, .cons h t => .cons (.tup (SqT.of h) (.cons (.int _) (.cons (.str _) .nil))) (dp_row t)
theorem row_ok (r : List (Nat × Kd)) : SeqAt.shaped (.tuple (rowD r)) = true := by
  refine (dok_tup (n := 1) fun d hd => ?_).shaped (by decide)
  obtain ⟨x, _, rfl⟩ := List.mem_map.mp hd
  refine dok_tup (n := 0) fun e he => ?_
  rcases List.mem_cons.mp he with rfl | he
  · exact ⟨rfl, Nat.le_refl _⟩
  · rw [List.mem_singleton.mp he]
    exact ⟨by cases x.2 <;> decide +kernel, Nat.le_refl _⟩
theorem row_nil (r : List (Nat × Kd)) : PyData.eqv (.tuple (rowD r)) (.tuple []) = r.isEmpty := by cases r <;> rfl
def wS : Option How → Str
  | none => ""
  | some h => howS h
def spTWay : Sp := fun vs H Q _ => ∃ (t c a : Addr) (f : List Bool) (ss : List Stf) (p s data : List Bool) (hs : List (Nat × Kd)), vs = [.ref t, .ref c, .str (W data), .ref a] ∧ Told H t f ss ∧ H c = some (.tup [.str (W p), .str (W s)]) ∧ CkOk p s ∧ s.length ≤ 10 ∧ data.length ≤ 90 ∧ StL ss ∧ OkS ss ∧ f.length ≤ 100 ∧
  RowX H a hs ∧ Asc 0 (lnM ss p s data).length hs ∧ ∀ H', Same H H' → Q (.str (wS (wayO f ss p s data (hitM (lnM ss p s data) 0 hs ++ f)))) H'
section
variable {P : Program} {w : World} {K : PySem.W.Frag} {mg : Str → Option Value} {base : Heap}
theorem sc_l_arrived : FnScope ["_law_line", "_law_told", "_law_kinds_here", "_law_found", "_law_at", "_law_bit", "_law_kind", "_law_comes"] ["_law_line", "_law_told"] (fnScope s_l_arrived) := fnScope_by (by decide +kernel)
theorem cal_l_arrived {f : Addr} {fd : FuncData} (F : Def K mg "_law_arrived" s_l_arrived f fd) (b : Binds K fd ["_law_line", "_law_told"] []) (T : Tx mg) : Cal P w K mg base 1 "_law_arrived" (spTArr K) [] := by
  refine cal0 F b .nil sc_l_arrived (fun vs H Q E h => ?_) (fun cdv A outer s H vs Q E hr h => ?_)
  · obtain ⟨_, _, _, rfl, _⟩ := h; rfl
  · obtain ⟨l, a, hs, rfl, ⟨ps, hS, hP⟩, hA, hl, k⟩ := h
    refine ⟨_, (pss_cons (ps_par (i := 2) (j := 3) (by rfl) sc_l_arrived.nd rfl rfl (by decide) rfl rfl (pa_cons (pe_callTy (call_dictF rfl) (by rfl) T.b_dict (by decide +kernel) (pa_cons (pv 1) pa_nil)) (pa_cons pe_str pa_nil)) (by rfl))
    (pss_cons (ps_for PassesOwn.never rfl (pi_enumS (by rfl) T.b_enumerate (pa_cons (pv 0) pa_nil)) (pg_tup rfl (pgs_cons (pg_name (i := 4) sc_l_arrived.nd rfl (.inl rfl)) (pgs_cons (pg_name (i := 5) sc_l_arrived.nd rfl (.inl rfl)) pgs_nil)))
    (pss_cons (ps_set (i := 6) sc_l_arrived.nd rfl (.inl rfl) (pe_dget2 (hu_of hr) (pv 2) (pv 4) pe_str ⟨rfl, rfl, rfl, rfl⟩))
    (pss_cons (ps_set (i := 7) sc_l_arrived.nd rfl (.inl rfl) (pe_disp (pps_cons pe_str (pv 5) (pps_cons pe_str (pe_ifExp (pt_cmpR op_eq (pv 5) pe_str (nomark _)) pe_str pe_str) (pps_cons pe_str pe_str (pps_cons pe_str (pe_op op_add_str (pv 5) (pv 5)) pps_nil)))) (by rfl) (by rfl) (fun z => by cases z) (by decide)))
    (pss_one (ps_set (i := 3) sc_l_arrived.nd rfl (.inl rfl) (pe_op op_add_str (pv 3) (pe_dget (hu_of hr) (pv 7) (pv 6) (fun _ _ => rfl))))))))
    (pss_one (ps_ret (pv 3))))), ?_⟩
    rw [hitM_all l hA] at k
    refine ⟨_, rfl, a, ps, KdKey hs, rfl, hS, prKeys (ps := ps) hP, fun q hq => ⟨_, _, rfl, ?_⟩⟩
    have s1 := same_upd (o := .dK (mergeK [] (KdKey hs))) hq
    have hq1 : upd H q (.dK (mergeK [] (KdKey hs))) q = some (.dK (mergeK [] (KdKey hs))) := upd_same
    generalize upd H q (.dK (mergeK [] (KdKey hs))) = H1 at s1 hq1
    refine ⟨_, rfl, W l, rfl, for_it walk_enumS (fun i σ H2 => ∃ v4 v5 v6 v7 : Option V, σ = [some (.str (W l)), some (.ref a), some (.ref q), some (.str (W (go (look hs) 0 (l.take i)))), v4, v5, v6, v7] ∧ Same H1 H2)
      ⟨none, none, none, none, by rw [W_nil]; rfl, Same.refl _⟩ (fun _ _ _ _ _ => trivial) ?_ ?_⟩
    · rintro i x σ H2 H3 hi ⟨v4, v5, v6, v7, rfl, s2⟩ ⟨T, c, rfl, nT, rfl, hc⟩
      obtain ⟨b, hbi, rfl⟩ := W_get hc
      have hT : upd H2 T (.tup [.int (i : Nat), .str ⟨#[bt b]⟩]) T = some (.tup [.int (i : Nat), .str (W [b])]) := upd_same
      have s3 := s2.trans (same_upd (o := .tup [.int (i : Nat), .str ⟨#[bt b]⟩]) nT)
      generalize upd H2 T (.tup [.int (i : Nat), .str ⟨#[bt b]⟩]) = H3 at s3 hT
      refine ⟨T, _, rfl, SqT.of hT, rfl, _, _, rfl, _, _, rfl, rfl, ?_⟩
      have ev : valV (mergeK [] (KdKey hs)) (Sum.inl (i : Int)) = (look hs i).map fun k => V.str (kS k) := by
        rw [valHts hs [] 0 l.length i hA, valV_nil]; cases look hs i <;> rfl
      have eg : (valV (mergeK [] (KdKey hs)) (Sum.inl (i : Int))).getD (.str "") = .str (kOf (look hs i)) := by
        rw [ev]; cases look hs i <;> rfl
      refine ⟨_, rfl, q, rfl, .inl ⟨_, .inl (s3 _ _ hq1)⟩, _, rfl, _, DGet.k (k := Sum.inl (i : Int)) (s3 _ _ hq1), ?_⟩
      rw [eg]
      have lb : (W [b]).length + (W [b]).length ≤ sizeLine := by rw [W_len]; exact sl_len (by show 2 ≤ 100000; decide)
      have lf : (W (go (look hs) 0 (l.take i))).length ≤ 2 * l.length := by
        rw [W_len]
        have := go_len (look hs) 0 (l.take i)
        rw [List.length_take] at this
        omega
      have rest : ∀ (H4 : Hp) (t : Addr), Same H1 H4 → H4 t = none → ∀ x3 x5, (tSeq (fun D σ H => D.nx σ H) (tAsg (tOp (fun x y H Q => ∃ i j, x = V.str i ∧ y = V.str j ∧ i.length + j.length ≤ sizeLine ∧ Q (V.str (i ++ j)) H) (tVar 3) (tDGet (tVar 7) (tVar 6))) (gName 3)))
          { nx := fun σ H2 => ∃ v4 v5 v6 v7 : Option V, σ = [some (.str (W l)), some (.ref a), some (.ref q), some (.str (W (go (look hs) 0 (l.take (i + 1))))), v4, v5, v6, v7] ∧ Same H1 H2, rt := Q } [some (.str (W l)), some (.ref a), some (.ref q), some (.str (W (go (look hs) 0 (l.take i)))), x3, x5, some (.str (kOf (look hs i))), some (.ref t)] (upd H4 t (.dK (comes b))) := by
        intro H4 t s4 ht x3 x5
        refine ⟨_, rfl, _, rfl, _, rfl, t, .str (W (sgn (look hs i) b)), rfl, ?_, _, _, rfl, rfl, ?_, ?_⟩
        · have := DGet.k (H := upd H4 t (.dK (comes b))) (a := t) (kvs := comes b) (k := Sum.inr (kOf (look hs i))) upd_same
          rw [comes_at] at this
          exact this
        · rw [W_len (sgn _ _)]
          have := sgnL2 (look hs i) b
          exact sl_len (by omega)
        · rw [W_cat, ← go_snoc (look hs) l hbi]
          exact ⟨_, _, _, _, rfl, s4.trans (same_upd ht)⟩
      intro t ht
      cases b with
      | true =>
        refine ⟨_, rfl, _, rfl, rfl, _, rfl, iteDT (show V.str (W [true]) = V.str "1" by decide +kernel) ⟨_, rfl, _, rfl, _, _, rfl, rfl, lb, upd_same, [(Sum.inr "", .str (W [true])), (Sum.inr "turn", .str "0"), (Sum.inr "lose", .str ""), (Sum.inr "double", .str (W [true] ++ W [true]))], rfl, by decide, ?_⟩⟩
        have ec : mergeK [] [(Sum.inr "", .str (W [true])), (Sum.inr "turn", .str "0"), (Sum.inr "lose", .str ""), (Sum.inr "double", .str (W [true] ++ W [true]))] = comes true := by
          rw [W_cat, W_nil, W_0]; rfl
        rw [ec, upd_upd]
        exact rest H3 t s3 ht _ _
      | false =>
        refine ⟨_, rfl, _, rfl, rfl, _, rfl, iteDF (show ¬ V.str (W [false]) = V.str "1" by decide +kernel) ⟨_, rfl, _, rfl, _, _, rfl, rfl, lb, upd_same, [(Sum.inr "", .str (W [false])), (Sum.inr "turn", .str "1"), (Sum.inr "lose", .str ""), (Sum.inr "double", .str (W [false] ++ W [false]))], rfl, by decide, ?_⟩⟩
        have ec : mergeK [] [(Sum.inr "", .str (W [false])), (Sum.inr "turn", .str "1"), (Sum.inr "lose", .str ""), (Sum.inr "double", .str (W [false] ++ W [false]))] = comes false := by
          rw [W_cat, W_nil, W_1]; rfl
        rw [ec, upd_upd]
        exact rest H3 t s3 ht _ _
    · rintro σ H2 ⟨v4, v5, v6, v7, rfl, s2⟩
      refine ⟨_, rfl, ?_⟩
      rw [W_size, List.take_length]
      exact k H2 (s1.trans s2)
theorem sc_l_hit_rows : FnScope ["_law_many", "_law_kinds_here", "_law_size", "_law_found", "_law_turn", "_law_longer", "_law_row", "_law_first", "_law_kind", "_law_at"] ["_law_many", "_law_kinds_here", "_law_size"] (fnScope s_l_hit_rows) := fnScope_by (by decide +kernel)
theorem cal_l_hit_rows {f : Addr} {fd : FuncData} (F : Def K mg "_law_hit_rows" s_l_hit_rows f fd) (b : Binds K fd ["_law_many", "_law_kinds_here", "_law_size"] []) (T : Tx mg) : Cal P w K mg base 1 "_law_hit_rows" spTRows [] := by
  refine cal0 F b .nil sc_l_hit_rows (fun vs H Q E h => ?_) (fun cdv A outer s H vs Q E hr h => ?_)
  · obtain ⟨_, _, _, _, rfl, _⟩ := h; rfl
  · obtain ⟨q, many, n, ks, rfl, hq, hm, hk, hn, k⟩ := h
    refine ⟨_, (pss_cons (ps_set (i := 3) sc_l_hit_rows.nd rfl (.inl rfl) (pe_lst (pa_cons (pe_tupF pa_nil) pa_nil)))
    (pss_cons (ps_for PassesOwn.never rfl (pi_range1 (by rfl) T.b_range (pa_cons (pv 2) pa_nil)) (pg_name (i := 4) sc_l_hit_rows.nd rfl (.inl rfl))
    (pss_cons (ps_set (i := 5) sc_l_hit_rows.nd rfl (.inl rfl) (pe_lst pa_nil))
    (pss_cons (ps_for PassesOwn.never rfl (pi_list (pv 3)) (pg_name (i := 6) sc_l_hit_rows.nd rfl (.inr rfl))
    (pss_cut (ps_set (i := 7) sc_l_hit_rows.nd rfl (.inl rfl) (pe_ifExp (pt_cmpR (op_neD hr.units) (pv 6) (pe_tupF pa_nil) (nomark _)) (pe_op op_add (pe_ix ix_tup (pe_ix ix_tup (pv 6) (pe_un un_neg pe_int) (fun _ _ => rfl)) pe_int (fun _ _ => rfl)) pe_int) pe_int))
    (pss_one (ps_for PassesOwn.never rfl (pi_list (pv 1)) (pg_name (i := 8) sc_l_hit_rows.nd rfl (.inr rfl))
    (pss_one (ps_expr (pe_bm PySem.F.plainAttrs_list PySem.F.slot_list_extend PySem.F.type_list_extend mt_extend (pv 5) (pa_cons (pe_lc (own := [("_law_at", 9)]) (g := gName 9) (by rfl) sc_l_hit_rows.nd (pi_range2 (by rfl) T.b_range (pa_cons (pv 7) (pa_cons (pv 0) pa_nil))) (blkOk_by (own := [("_law_at", 9)]) (N := ["_law_many", "_law_kinds_here", "_law_size", "_law_found", "_law_turn", "_law_longer", "_law_row", "_law_first", "_law_kind", "_law_at"]) (sc := fnScope s_l_hit_rows) (by decide +kernel)) (fun _ _ _ _ _ => (pg_name (i := 9) sc_l_hit_rows.nd rfl (.inl rfl))) (fun _ _ _ _ _ => pts_nil) (fun _ _ _ _ _ => (pe_op (show OpR _ (binaryOp .Add) (rCatF K) from op_catF) (pv 6) (pe_tupF (pa_cons (pe_tup (pa_cons (pv 9) (pa_cons (pv 8) pa_nil))) pa_nil))))) pa_nil))))))))
    (pss_one (ps_set (i := 3) sc_l_hit_rows.nd rfl (.inl rfl) (pv 5))))))
    (pss_one (ps_ret (pv 3))))), ?_⟩
    refine ⟨Nat.zero_le _, fun r0 o0 nr0 od0 => ⟨by show 1 ≤ sizeLine; decide, fun D nD => ?_⟩⟩
    have s0 := same_upd (o := .frz o0 (.tup [])) nr0
    have s1 := s0.trans (same_upd (o := .lst [.ref r0]) nD)
    have nDH : H D = none := by
      have := s0.free nD
      exact this
    have hD0 : upd (upd H r0 (.frz o0 (.tup []))) D (.lst [.ref r0]) D = some (.lst ([r0].map V.ref)) := upd_same
    have hr0 : Paired (RowX (upd (upd H r0 (.frz o0 (.tup []))) D (.lst [.ref r0]))) [r0] (rowsM many ks 0) := .cons ⟨[], (TpX.new (xs := []) od0).same (same_upd nD), .nil⟩ .nil
    generalize upd (upd H r0 (.frz o0 (.tup []))) D (.lst [.ref r0]) = H1 at s1 hD0 hr0
    refine ⟨_, rfl, _, rfl, by omega, by omega, ?_⟩
    refine for_it (walk_range (lo := 0) (n := (n : Int).toNat)) (fun i σ H2 => ∃ (D : Addr) (ps : List Addr) (v4 v5 v6 v7 v8 v9 : Option V), σ = [some (.int (many : Nat)), some (.ref q), some (.int (n : Nat)), some (.ref D), v4, v5, v6, v7, v8, v9] ∧ H D = none ∧ Same H H2 ∧ H2 D = some (.lst (ps.map V.ref)) ∧ Paired (RowX H2) ps (rowsM many ks i))
      ⟨D, _, _, _, _, _, _, _, rfl, nDH, s1, hD0, hr0⟩ (fun _ _ _ _ _ => trivial) ?_ ?_
    · rintro i x σ H2' H2 hi ⟨D, ps, v4, v5, v6, v7, v8, v9, rfl, nD, s2, hD, hps⟩ ⟨rfl, rfl⟩
      have hi' : i < n := by omega
      refine ⟨Nat.zero_le _, fun D2 nD2 => ?_⟩
      have nD2H : H D2 = none := s2.free nD2
      have sD2 := same_upd (o := .lst []) nD2
      have s3 := s2.trans sD2
      have hD3 := sD2 _ _ hD
      have hps3 := rows_same hps sD2
      have hq3 := s3 _ _ hq
      have hD2 : upd H2 D2 (.lst []) D2 = some (.lst (([] : List Addr).map V.ref)) := upd_same
      generalize upd H2 D2 (.lst []) = H3 at s3 hD3 hps3 hq3 hD2
      have lps := prLen hps3
      refine ⟨_, rfl, D, rfl, ⟨_, SqL.of hD3⟩, for_it (walk_list (K := K) (a := D) (xs := ps.map V.ref)) (fun j σ H4 => ∃ (qs : List Addr) (v6 v7 v8 v9 : Option V), σ = [some (.int (many : Nat)), some (.ref q), some (.int (n : Nat)), some (.ref D), some (.int (0 + (i : Int))), some (.ref D2), v6, v7, v8, v9] ∧ Same H H4 ∧ H4 D = some (.lst (ps.map V.ref)) ∧ Paired (RowX H4) ps (rowsM many ks i) ∧ H4 q = some (.lst (ks.map fun k => .str (kS k))) ∧ H4 D2 = some (.lst (qs.map V.ref)) ∧ Paired (RowX H4) qs (((rowsM many ks i).take j).flatMap (grR many ks)))
        ⟨[], _, _, _, _, rfl, s3, hD3, hps3, hq3, hD2, .nil⟩ (fun j σ H4 _ ⟨_, _, _, _, _, _, _, h, _⟩ => SqL.of h) ?_ ?_⟩
      · rintro j y σ H4' H4 hj ⟨qs, v6, v7, v8, v9, rfl, s4, hD4, hps4, hq4, hD24, hqs4⟩ ⟨rfl, hy⟩
        rw [List.getElem?_map] at hy
        obtain ⟨rp, hrp, rfl⟩ := Option.map_eq_some_iff.mp hy
        obtain ⟨r, hr, hrow⟩ := prGet hps4 hrp
        refine ⟨fun σ' H5 => ∃ v8 v9 : Option V, σ' = [some (.int (many : Nat)), some (.ref q), some (.int (n : Nat)), some (.ref D), some (.int (0 + (i : Int))), some (.ref D2), some (.ref rp), some (.int (fstR r : Nat)), v8, v9] ∧ Same H4 H5, ?_, ?_⟩
        · refine ⟨_, rfl, Nat.zero_le _, fun e0 oe ne oed => ?_⟩
          have se := same_upd (o := .frz oe (.tup [])) ne
          obtain ⟨qr, hqr, hht⟩ := hrow.same se
          refine ⟨.tuple (rowD r), .tuple [], .tup hqr.sq (dp_row hht), .tup (TpX.sq (TpX.new (xs := []) oed)) .nil, row_ok r, by decide +kernel, _, rfl, ?_⟩
          rw [row_nil]
          generalize L2.upd H4 e0 (.frz oe (.tup [])) = H5 at se hqr hht
          rcases List.eq_nil_or_concat r with rfl | ⟨r', x, rfl⟩
          · refine iteBF rfl ?_
            exact ⟨_, _, rfl, se⟩
          · rw [List.concat_eq_append] at hht ⊢
            refine iteBT (by cases r' <;> rfl) ?_
            obtain ⟨t, hat, hht2⟩ := pr_last hht
            refine ⟨_, rfl, _, rfl, rp, _, _, _, rfl, rfl, hqr.sq, hat, t, _, _, _, rfl, rfl, SqT.of hht2, atI_nat (j := 0) rfl, _, _, rfl, rfl, ?_⟩
            exact ⟨_, _, by rw [fstR_snoc]; rfl, se⟩
        rintro σ' H5 ⟨v8, v9, rfl, s5⟩
        have s45 := s4.trans s5
        refine ⟨_, rfl, q, rfl, ⟨_, SqL.of (s5 _ _ hq4)⟩, for_it (walk_list (K := K) (a := q) (xs := ks.map fun k => V.str (kS k))) (fun l σ H6 => ∃ (qs2 : List Addr) (v8 v9 : Option V), σ = [some (.int (many : Nat)), some (.ref q), some (.int (n : Nat)), some (.ref D), some (.int (0 + (i : Int))), some (.ref D2), some (.ref rp), some (.int (fstR r : Nat)), v8, v9] ∧ Same H H6 ∧ H6 D = some (.lst (ps.map V.ref)) ∧ Paired (RowX H6) ps (rowsM many ks i) ∧ H6 q = some (.lst (ks.map fun k => .str (kS k))) ∧ RowX H6 rp r ∧ H6 D2 = some (.lst (qs2.map V.ref)) ∧
            Paired (RowX H6) qs2 (((rowsM many ks i).take j).flatMap (grR many ks) ++ (ks.take l).flatMap fun k => (List.range' (fstR r) (many - fstR r)).map fun i => r ++ [(i, k)]))
          ⟨qs, _, _, rfl, s45, s5 _ _ hD4, rows_same hps4 s5, s5 _ _ hq4, hrow.same s5, s5 _ _ hD24, by rw [List.take_zero, List.flatMap_nil, List.append_nil]; exact rows_same hqs4 s5⟩ (fun l σ H6 _ ⟨_, _, _, _, _, _, _, h, _⟩ => SqL.of h) ?_ ?_⟩
        · rintro l y σ H6' H6 hl ⟨qs2, v8, v9, rfl, s6, hD6, hps6, hq6, hrow6, hD26, hqs6⟩ ⟨rfl, hy⟩
          rw [List.getElem?_map] at hy
          obtain ⟨kd, hkd, rfl⟩ := Option.map_eq_some_iff.mp hy
          have hrm : r ∈ rowsM many ks i := List.mem_of_getElem? hr
          have hfr : fstR r ≤ many ∧ r.length = i := by
            obtain ⟨h1, h2, _⟩ := rowsM_mem.mp hrm
            refine ⟨?_, h1⟩
            by_cases c : r = []
            · rw [c]; exact Nat.zero_le _
            · exact (asc_fst h2 c).2
          have hmul : ks.length * many ≤ 1200 := Nat.le_trans (Nat.mul_le_mul hk hm) (by decide)
          have hlen2 : qs2.length ≤ 1441200 := by
            rw [prLen hqs6, List.length_append]
            have h1 : (rowsM many ks i).length ≤ 1200 := by
              refine Nat.le_trans (rowsM_len many ks i) ?_
              rcases (by omega : i = 0 ∨ i = 1) with rfl | rfl
              · exact (by decide : 1 ≤ 1200)
              · rw [Nat.pow_one]; exact hmul
            have h2 : (((rowsM many ks i).take j).flatMap (grR many ks)).length ≤ ((rowsM many ks i).take j).length * 1200 := flatLe2 fun y _ => Nat.le_trans (flatLe2 (c := many) fun k _ => by rw [List.length_map, List.length_range']; omega) hmul
            have h3 : ((ks.take l).flatMap fun k => (List.range' (fstR r) (many - fstR r)).map fun i => r ++ [(i, k)]).length ≤ (ks.take l).length * 400 := flatLe2 fun k _ => by rw [List.length_map, List.length_range']; omega
            rw [List.length_take] at h2 h3
            have h4 : min j (rowsM many ks i).length * 1200 ≤ 1200 * 1200 := Nat.mul_le_mul_right _ (by omega)
            have h5 : min l ks.length * 400 ≤ 3 * 400 := Nat.mul_le_mul_right _ (by omega)
            omega
          refine ⟨_, rfl, .inl ⟨rfl, _, SqL.of hD26⟩, _, rfl, _, rfl, _, _, rfl, ⟨by omega, by omega, by omega, by omega⟩, fun D3 nD3 => ?_⟩
          have nD3H : H D3 = none := s6.free nD3
          have etn : (((many : Nat) : Int) - ((fstR r : Nat) : Int)).toNat = many - fstR r := by omega
          rw [etn]
          refine lc_it (walk_range (lo := ((fstR r : Nat) : Int)) (n := many - fstR r)) (fun m H7 => ∃ q3 : List Addr, Same H6 H7 ∧ H7 D3 = some (.lst (q3.map V.ref)) ∧ Paired (RowX H7) q3 ((List.range' (fstR r) m).map fun i => r ++ [(i, kd)])) ⟨[], same_upd nD3, upd_same, .nil⟩ (fun _ _ _ _ => trivial) ?_ ?_
          · rintro m x H7' H7 hmm ⟨q3, s7, hD7, hq3⟩ ⟨rfl, rfl⟩
            refine ⟨rfl, ?_⟩
            have ei : ((fstR r : Nat) : Int) + (m : Int) = ((fstR r + m : Nat) : Int) := by omega
            have hrow7 := hrow6.same s7
            have fin : ∀ (z : Addr) (H8 : Hp), Same H7 H8 → RowX H8 z (r ++ [(fstR r + m, kd)]) → ∃ acc, H8 D3 = some (.lst acc) ∧ acc.length < sizeLine ∧ ∃ q3 : List Addr, Same H6 (L2.upd H8 D3 (.lst (acc ++ [.ref z]))) ∧ L2.upd H8 D3 (.lst (acc ++ [.ref z])) D3 = some (.lst (q3.map V.ref)) ∧ Paired (RowX (L2.upd H8 D3 (.lst (acc ++ [.ref z])))) q3 ((List.range' (fstR r) (m + 1)).map fun i => r ++ [(i, kd)]) := fun z H8 s8 hz => by
              have hD8 := s8 _ _ hD7
              have l3 : q3.length = m := by rw [prLen hq3, List.length_map, List.length_range']
              refine ⟨_, hD8, by rw [List.length_map, l3]; exact sl_lt (by omega), q3 ++ [z], same_mut' (s7.trans s8) nD3, by rw [upd_same, List.map_append]; rfl, ?_⟩
              rw [List.range'_1_concat, List.map_append]
              exact prSnoc (rows_upd (rows_same hq3 s8) hD8) (hz.upd hD8)
            refine ⟨_, rfl, _, rfl, _, rfl, by show 2 ≤ sizeLine; decide, fun t nt => ⟨by show 1 ≤ sizeLine; decide, fun u ou nu oud => ?_⟩⟩
            have st := same_upd (o := .tup [.int (((fstR r : Nat) : Int) + (m : Int)), .str (kS kd)]) nt
            have su := same_upd (o := .frz ou (.tup [.ref t])) nu
            have stu := st.trans su
            have ht : HtAt (L2.upd (L2.upd H7 t (.tup [.int (((fstR r : Nat) : Int) + (m : Int)), .str (kS kd)])) u (.frz ou (.tup [.ref t]))) t (fstR r + m, kd) := by
              show _ = some (HO.tup [V.int ((fstR r + m : Nat) : Int), V.str (kS kd)])
              rw [← ei]
              exact su _ _ upd_same
            have hu : TpX (L2.upd (L2.upd H7 t (.tup [.int (((fstR r : Nat) : Int) + (m : Int)), .str (kS kd)])) u (.frz ou (.tup [.ref t]))) u [.ref t] := TpX.new oud
            obtain ⟨qr, hqr, hht⟩ := hrow7.same stu
            generalize L2.upd (L2.upd H7 t (.tup [.int (((fstR r : Nat) : Int) + (m : Int)), .str (kS kd)])) u (.frz ou (.tup [.ref t])) = H8 at stu ht hu hqr hht
            have lqr := prLen hht
            refine ⟨rp, u, _, _, rfl, rfl, hqr.sq, hu.sq, List.cons_ne_nil _ _, by rw [List.length_map, lqr]; exact sl_len (by show _ + 1 ≤ _; omega), fun hx => ?_, fun hx z oz nz ozd => ?_⟩
            · have e0 : r = [] := List.eq_nil_of_length_eq_zero (by rw [← lqr]; simpa using congrArg List.length hx)
              subst e0
              exact fin u H8 stu ⟨[t], hu, .cons ht .nil⟩
            · have sz := same_upd (o := .frz oz (.tup (qr.map V.ref ++ [.ref t]))) nz
              refine fin z _ (stu.trans sz) ⟨qr ++ [t], ?_, prSnoc (Paired.mapP hht fun _ _ y => y.sm sz) (ht.sm sz)⟩
              rw [List.map_append]
              exact TpX.new ozd
          · rintro H7 ⟨q3, s7, hD7, hq3⟩
            have hD27 := s7 _ _ hD26
            have l3 : q3.length = many - fstR r := by rw [prLen hq3, List.length_map, List.length_range']
            refine ⟨D2, D3, _, _, rfl, rfl, hD27, hD7, by rw [List.length_map, List.length_map]; show _ ≤ 16777216; omega, ?_⟩
            have sx : Same H (L2.upd H7 D2 (.lst (qs2.map V.ref ++ q3.map V.ref))) := same_mut' (s6.trans s7) nD2H
            refine ⟨qs2 ++ q3, _, _, rfl, sx, ?_, rows_upd (rows_same hps6 s7) hD27, ?_, (hrow6.same s7).upd hD27, by rw [upd_same, List.map_append], ?_⟩
            · rw [upd_ne (ne_of_none hD nD2)]
              exact s7 _ _ hD6
            · exact sx _ _ hq
            · rw [List.take_add_one, hkd, List.flatMap_append, ← List.append_assoc]
              refine prApp (rows_upd (rows_same hqs6 s7) hD27) ?_
              show Paired _ _ (_ ++ [])
              rw [List.append_nil]
              exact rows_upd hq3 hD27
        · rintro σ H6 ⟨qs2, v8, v9, rfl, s6, hD6, hps6, hq6, hrow6, hD26, hqs6⟩
          rw [List.length_map, List.take_length] at hqs6
          refine ⟨qs2, _, _, _, _, rfl, s6, hD6, hps6, hq6, hD26, ?_⟩
          rw [List.take_add_one, hr, List.flatMap_append]
          show Paired _ _ (_ ++ ((grR many ks r) ++ []))
          rw [List.append_nil]
          exact hqs6
      · rintro σ H4 ⟨qs, v6, v7, v8, v9, rfl, s4, hD4, hps4, hq4, hD24, hqs4⟩
        rw [List.length_map, lps, List.take_length] at hqs4
        exact ⟨_, rfl, D2, qs, _, _, _, _, _, _, rfl, nD2H, s4, hD24, hqs4⟩
    · rintro σ H2 ⟨D, ps, v4, v5, v6, v7, v8, v9, rfl, nD, s2, hD, hps⟩
      rw [Int.toNat_natCast] at hps
      exact ⟨_, rfl, k D ps H2 nD s2 hD hps⟩
theorem sc_l_way : FnScope ["_law_rule_here", "_law_check_here", "_law_data", "_law_told", "_law_raw", "_law_reason", "_law_other_data"] ["_law_rule_here", "_law_check_here", "_law_data", "_law_told"] (fnScope s_l_way) := fnScope_by (by decide +kernel)
theorem cal_l_way {f : Addr} {fd : FuncData} (F : Def K mg "_law_way" s_l_way f fd) (b : Binds K fd ["_law_rule_here", "_law_check_here", "_law_data", "_law_told"] []) (T : Tx mg) (c_l_arrived : Cal P w K mg base 1 "_law_arrived" (spTArr K) []) (c_l_body : Cal P w K mg base 2 "_law_body" spLBody []) (c_l_bits_for : Cal P w K mg base 2 "_law_bits_for" spTBits []) (c_l_receive : Cal P w K mg base 3 "_law_receive" spTRecv []) : Cal P w K mg base 4 "_law_way" spTWay [] := by
  refine cal0 F b .nil sc_l_way (fun vs H Q E h => ?_) (fun cdv A outer s H vs Q E hr h => ?_)
  · obtain ⟨_, _, _, _, _, _, _, _, _, rfl, _⟩ := h; rfl
  · obtain ⟨t, c, a, fl, ss, p, st, data, hs, rfl, told, hc, ok, l10, ld, stl, oS, lf, hrow, hasc, k⟩ := h
    refine ⟨_, (pss_cons (ps_set (i := 4) sc_l_way.nd rfl (.inl rfl) (pe_op op_add_str (pe_c c_l_arrived hr (by decide) rfl (pa_cons (pe_c c_l_body hr (by decide) rfl (pa_cons (pv 0) (pa_cons (pe_op op_add_str (pv 2) (pe_c c_l_bits_for hr (by decide) rfl (pa_cons (pv 1) (pa_cons (pv 2) pa_nil)))) pa_nil))) (pa_cons (pv 3) pa_nil))) (pe_ix ix_tup (pv 0) pe_int (fun _ _ => rfl))))
    (pss_cons (ps_asg (pe_c c_l_receive hr (by decide) rfl (pa_cons (pv 0) (pa_cons (pv 1) (pa_cons (pv 4) pa_nil)))) (pg_tup rfl (pgs_cons (pg_name (i := 5) sc_l_way.nd rfl (.inl rfl)) (pgs_cons (pg_name (i := 6) sc_l_way.nd rfl (.inl rfl)) pgs_nil))))
    (pss_cons (ps_if (PW.pt (pw_or (pt_cmpR op_ne (pv 5) pe_str (nomark _)) (pw_or1 (pt_cmpR op_eq (pv 6) (pv 2) (nomark _))))) (pss_one (ps_ret pe_str)) pss_nil)
    (pss_cons (ps_if (pt_cmpR op_lt (pe_op op_add (pe_m1 PySem.F.slot_str_find PySem.F.type_str_find mt_find (pv 4) (pe_ix ix_tup (pv 0) pe_int (fun _ _ => rfl))) (pe_callB call_len_str (by rfl) T.b_len (by decide +kernel) (pa_cons (pe_ix ix_tup (pv 0) pe_int (fun _ _ => rfl)) pa_nil))) (pe_callB call_len_str (by rfl) T.b_len (by decide +kernel) (pa_cons (pv 4) pa_nil)) (nomark _)) (pss_one (ps_ret pe_str)) pss_nil)
    (pss_one (ps_ret (pe_ifExp (pt_cmpR op_eq (pe_callB call_len_str (by rfl) T.b_len (by decide +kernel) (pa_cons (pv 6) pa_nil)) (pe_callB call_len_str (by rfl) T.b_len (by decide +kernel) (pa_cons (pv 2) pa_nil)) (nomark _)) pe_str pe_str))))))), ?_⟩
    have hlen := ok.len
    have lb : (bitsM p st data).length = st.length := bitsM_len hlen data
    have wd : (W data).length = data.length := W_len data
    have wb : (W (bitsM p st data)).length = st.length := by rw [W_len, lb]
    refine ⟨_, rfl, _, rfl, _, rfl, _, rfl, c, p, st, data, rfl, hc, ok, l10, by omega, fun H1 s1 => ?_⟩
    refine ⟨_, _, rfl, rfl, by rw [wd, wb]; exact sl_len (by omega), ?_⟩
    rw [W_cat]
    refine ⟨t, fl, data ++ bitsM p st data, ss, rfl, told.same s1, by rw [List.length_append, lb]; omega, stl.sn, stl.sl, oS, fun ln H2 hB ll s2 => ?_⟩
    have eln : ln = lnM ss p st data := hB.isF (oS.mono (by decide))
    subst eln
    have llen : (lnM ss p st data).length ≤ 2000 := by rw [List.length_append, lb] at ll; omega
    have s12 := s1.trans s2
    refine ⟨_, rfl, _, a, hs, rfl, hrow.same s12, hasc, by omega, fun H3 s3 => ?_⟩
    have s13 := s12.trans s3
    obtain ⟨lk, ps, kb, h1, _⟩ := id (told.same s13)
    have lraw : (hitM (lnM ss p st data) 0 hs).length ≤ 4000 := by
      rw [hitM_all _ hasc]
      have := go_len (look hs) 0 (lnM ss p st data)
      omega
    refine ⟨_, rfl, t, _, _, _, rfl, rfl, SqT.of h1, atI_nat (j := 0) rfl, _, _, rfl, rfl, by rw [W_len, W_len]; exact sl_len (by omega), ?_⟩
    rw [W_cat]
    have lfl : (hitM (lnM ss p st data) 0 hs ++ fl).length ≤ 4100 := by rw [List.length_append]; omega
    obtain ⟨i, hpos⟩ : ∃ i, posM (hitM (lnM ss p st data) 0 hs ++ fl) fl = some i := by
      cases e : posM (hitM (lnM ss p st data) 0 hs ++ fl) fl with
      | some i => exact ⟨i, rfl⟩
      | none => exact absurd (by rw [List.drop_left]; exact List.prefix_refl _) (posM_none.mp e (hitM (lnM ss p st data) 0 hs).length (by rw [List.length_append]; omega))
    generalize hitM (lnM ss p st data) 0 hs ++ fl = raw at lfl hpos k
    refine ⟨_, rfl, _, rfl, _, rfl, t, c, fl, ss, p, st, raw, i, rfl, told.same s13, s13 _ _ hc, ok, by omega, stl, by omega, hpos, fun z H4 s4 hz => ?_⟩
    have s14 := s13.trans s4
    refine ⟨z, _, rfl, SqT.of hz, rfl, _, _, rfl, _, _, rfl, rfl, ?_⟩
    unfold wayO at k
    rw [hpos] at k
    dsimp only at k
    cases e : takM ss (raw.take i) with
    | none =>
      rw [e] at k
      have er : rdM ss p st (raw.take i) = (("put" : Str), none) := by unfold rdM; rw [e]
      rw [er]
      refine ⟨_, rfl, rfl, _, rfl, ?_⟩
      refine iteBT (by decide +kernel) (iteBT rfl ?_)
      have := k H4 s14
      exact this
    | some X =>
      rw [e] at k
      dsimp only at k
      cases g : goodM p st X with
      | false =>
        rw [g] at k
        have er : rdM ss p st (raw.take i) = (("check" : Str), none) := by unfold rdM; rw [e]; dsimp only; rw [g]; rfl
        rw [er]
        refine ⟨_, rfl, rfl, _, rfl, ?_⟩
        refine iteBT (by decide +kernel) (iteBT rfl ?_)
        have := k H4 s14
        exact this
      | true =>
        rw [g, if_pos rfl] at k
        have er : rdM ss p st (raw.take i) = (("good" : Str), some (X.take (X.length - st.length))) := by unfold rdM; rw [e]; dsimp only; rw [g]; rfl
        rw [er]
        have lo : (W (X.take (X.length - st.length))).length ≤ sizeLine := by
          rw [W_len, List.length_take]
          have := takM_le e
          rw [List.length_take] at this
          exact sl_len (by omega)
        have lX : (X.take (X.length - st.length)).length = X.length - st.length := by rw [List.length_take]; omega
        refine ⟨_, rfl, rfl, _, rfl, ?_⟩
        refine iteNS rfl ⟨_, rfl, _, rfl, rfl, _, rfl, ?_⟩
        obtain ⟨lk, ps, kb, h1, _⟩ := id (told.same s14)
        by_cases c1 : X.take (X.length - st.length) = data
        · rw [if_pos c1] at k
          refine iteDT (by rw [c1]; rfl) ?_
          exact k H4 s14
        · rw [if_neg c1] at k
          refine iteDF (fun z => c1 (W_inj (V.str.inj z))) ?_
          refine ⟨_, rfl, ⟨_, rfl⟩, _, rfl, t, _, _, _, rfl, rfl, SqT.of h1, atI_nat (j := 0) rfl, _, _, rfl, rfl, ?_⟩
          rw [find_W hpos]
          refine ⟨_, rfl, t, _, _, _, rfl, rfl, SqT.of h1, atI_nat (j := 0) rfl, _, rfl, by rw [W_len]; exact sl_len (by omega), _, _, rfl, rfl, _, rfl, _, rfl, by rw [W_len]; exact sl_len (by omega), _, _, rfl, rfl, _, rfl, ?_⟩
          rw [W_len, W_len]
          by_cases c2 : i + fl.length < raw.length
          · rw [if_pos c2] at k
            refine iteDT (by omega) ?_
            exact k H4 s14
          · rw [if_neg c2] at k
            refine iteDF (by omega) ?_
            refine ⟨_, rfl, _, rfl, lo, _, rfl, _, rfl, by rw [W_len]; exact sl_len (by omega), rfl, _, rfl, ?_⟩
            rw [W_len data]
            by_cases c3 : (X.take (X.length - st.length)).length = data.length
            · rw [if_pos c3] at k
              refine iteDT (by rw [W_len, c3]) ?_
              exact k H4 s14
            · rw [if_neg c3] at k
              refine iteDF (fun z => c3 ?_) ?_
              · have := V.int.inj z
                rw [W_len] at this
                omega
              · exact k H4 s14
end
end U

set_option maxRecDepth 100000
set_option maxHeartbeats 400000
/-! rules with one pattern, in plain Lean -/
namespace U
/-- a rule with one pattern has an end just if its pattern holds another bit than the one put in -/
def okB (s : Stf) : Bool := s.1.any fun c => c != s.2
theorem put1 (s : Stf) (l : List Bool) : putM [s] l = if s.1.isSuffixOf l then some s.2 else none := by
  unfold putM
  rw [List.find?_cons]
  cases s.1.isSuffixOf l <;> rfl
theorem all_tail {p l : List Bool} {b : Bool} (h1 : p <:+ l) (h2 : p <:+ l ++ [b]) : ∀ c ∈ p, c = b := by
  obtain ⟨u, rfl⟩ := h1
  obtain ⟨v, hv⟩ := h2
  -- v ++ p = u ++ p ++ [b]
  have key : ∀ (n : Nat) (p v u : List Bool), p.length = n → v ++ p = u ++ p ++ [b] → ∀ c ∈ p, c = b := by
    intro n
    induction n with
    | zero => intro p v u hn _ c hc; rw [List.length_eq_zero_iff.mp hn] at hc; cases hc
    | succ n ih =>
      intro p v u hn e
      rcases List.eq_nil_or_concat p with rfl | ⟨q, x, rfl⟩
      · intro c hc; cases hc
      · rw [List.concat_eq_append] at e hn ⊢
        rw [← List.append_assoc] at e
        have e' := List.append_inj' e rfl
        obtain ⟨e1, e2⟩ := e'
        have hx : x = b := (List.cons.inj e2).1
        subst hx
        rw [← List.append_assoc] at e1
        have := ih q v u (by rw [List.length_append, List.length_cons, List.length_nil] at hn; omega) e1
        intro c hc
        rcases List.mem_append.mp hc with h | h
        · exact this c h
        · exact List.mem_singleton.mp h
  exact key _ p v u rfl hv
theorem okN1 {s : Stf} (h : okB s = true) (l : List Bool) : ∃ x, Ins [s] l x ∧ x.length ≤ 1 := by
  cases e : s.1.isSuffixOf l with
  | false => exact ⟨[], .stop (by rw [put1, e]; rfl), Nat.zero_le _⟩
  | true =>
    refine ⟨[s.2], .more (by rw [put1, e]; rfl) (.stop ?_), Nat.le_refl _⟩
    rw [put1]
    cases e2 : s.1.isSuffixOf (l ++ [s.2]) with
    | false => rfl
    | true =>
      obtain ⟨c, hc, hn⟩ := List.any_eq_true.mp h
      have := all_tail (List.isSuffixOf_iff_suffix.mp e) (List.isSuffixOf_iff_suffix.mp e2) c hc
      rw [this] at hn
      simp at hn
theorem okN_one {s : Stf} (h : okB s = true) : OkN 1 [s] := fun l _ b => okN1 h (l ++ [b])
theorem rep_of {p : List Bool} {b : Bool} (h : ∀ c ∈ p, c = b) : p = List.replicate p.length b := by
  exact List.eq_replicate_iff.mpr ⟨rfl, h⟩
theorem rep_suf {n m : Nat} {b : Bool} : (List.replicate n b).isSuffixOf (List.replicate m b) = decide (n ≤ m) := by
  rw [Bool.eq_iff_iff, List.isSuffixOf_iff_suffix, decide_eq_true_eq]
  constructor
  · intro h; have := h.length_le; rw [List.length_replicate, List.length_replicate] at this; exact this
  · intro h; exact ⟨List.replicate (m - n) b, by rw [List.replicate_append_replicate]; congr 1; omega⟩
theorem not_ok {s : Stf} (hp : s.1 ≠ []) (h : okB s = false) : ¬ OkR [s] := by
  obtain ⟨p, b⟩ := s
  have hall : ∀ c ∈ p, c = b := fun c hc => by
    have : ¬ (p.any fun c => c != b) = true := by rw [show (p.any fun c => c != b) = okB (p, b) from rfl, h]; decide
    rw [List.any_eq_true] at this
    have h2 : ¬ (c != b) = true := fun z => this ⟨c, hc, z⟩
    simpa using h2
  have hr := rep_of hall
  generalize p.length = n at hr
  subst hr
  have hn : 0 < n := by
    cases n with
    | zero => exact absurd rfl hp
    | succ n => exact Nat.succ_pos _
  have reach : ∀ k, k < n → Reach [(List.replicate n b, b)] (List.replicate k b) := by
    intro k
    induction k with
    | zero => exact fun _ => .nil
    | succ k ih =>
      intro hk
      have := Reach.next (b := b) (x := []) (ih (by omega)) (.stop (by
        rw [put1]
        show (if (List.replicate n b).isSuffixOf (List.replicate k b ++ [b]) = true then some b else none) = none
        rw [← List.replicate_succ', rep_suf, decide_eq_false (by omega)]; rfl))
      rw [List.append_nil, ← List.replicate_succ'] at this
      exact this
  intro o
  obtain ⟨x, hx⟩ := o _ (reach (n - 1) (by omega)) b
  rw [← List.replicate_succ', show n - 1 + 1 = n by omega] at hx
  have bad : ∀ (m : Nat) (x : List Bool), n ≤ m → ¬ Ins [(List.replicate n b, b)] (List.replicate m b) x := by
    intro m x
    induction x generalizing m with
    | nil =>
      intro hm hi
      cases hi with
      | stop h =>
        rw [put1] at h
        change (if (List.replicate n b).isSuffixOf (List.replicate m b) = true then some b else none) = none at h
        rw [rep_suf, decide_eq_true hm] at h
        cases h
    | cons c x ih =>
      intro hm hi
      cases hi with
      | more h1 h2 =>
        rw [put1] at h1
        change (if (List.replicate n b).isSuffixOf (List.replicate m b) = true then some b else none) = some c at h1
        rw [rep_suf, decide_eq_true hm] at h1
        cases h1
        rw [← List.replicate_succ'] at h2
        exact ih (m + 1) (by omega) h2
  exact bad n x (Nat.le_refl _) hx
theorem okB_iff {s : Stf} (hp : s.1 ≠ []) : okB s = true ↔ OkR [s] :=
  ⟨fun h => (okN_one h).ok, fun h => by
    cases e : okB s with
    | true => rfl
    | false => exact absurd h (not_ok hp e)⟩
/-! all words, and all patterns with a bit -/
def wdsA : Nat → List (List Bool)
  | 0 => [[]]
  | n + 1 => (wdsA n).flatMap fun w => [w ++ [false], w ++ [true]]
theorem wdsA_len : ∀ n, (wdsA n).length = 2 ^ n
  | 0 => rfl
  | n + 1 => by
    show ((wdsA n).flatMap fun w => [w ++ [false], w ++ [true]]).length = _
    have : ∀ l : List (List Bool), (l.flatMap fun w => [w ++ [false], w ++ [true]]).length = 2 * l.length := fun l => by
      induction l with
      | nil => rfl
      | cons w r ih => rw [List.flatMap_cons, List.length_append, ih]; show 2 + 2 * r.length = 2 * (r.length + 1); omega
    rw [this, wdsA_len n, Nat.pow_succ]
    omega
theorem wdsA_size : ∀ {n : Nat} {w : List Bool}, w ∈ wdsA n → w.length = n
  | 0, w, h => by rw [List.mem_singleton.mp h]; rfl
  | n + 1, w, h => by
    obtain ⟨v, hv, hw⟩ := List.mem_flatMap.mp h
    have := wdsA_size hv
    rcases List.mem_cons.mp hw with rfl | hw
    · rw [List.length_append, this]; rfl
    · rw [List.mem_singleton.mp hw, List.length_append, this]; rfl
/-- a pattern with both bits -/
def both (w : List Bool) : List Stf := [(w, false), (w, true)]
def sglN (k : Nat) : List Stf := (wdsA k).flatMap both
def sgls (n : Nat) : List Stf := (List.range n).flatMap fun i => sglN (i + 1)
theorem sglN_size {k : Nat} {s : Stf} (h : s ∈ sglN k) : s.1.length = k := by
  obtain ⟨w, hw, hs⟩ := List.mem_flatMap.mp h
  rw [← wdsA_size hw]
  rcases List.mem_cons.mp hs with rfl | hs
  · rfl
  · rw [List.mem_singleton.mp hs]
theorem sgls_size {n : Nat} {s : Stf} (h : s ∈ sgls n) : 1 ≤ s.1.length ∧ s.1.length ≤ n := by
  obtain ⟨i, hi, hs⟩ := List.mem_flatMap.mp h
  have := List.mem_range.mp hi
  have := sglN_size hs
  omega
theorem sgls_succ (n : Nat) : sgls (n + 1) = sgls n ++ sglN (n + 1) := by
  unfold sgls
  rw [List.range_succ, List.flatMap_append]
  simp
theorem both_len (ws : List (List Bool)) : (ws.flatMap both).length = 2 * ws.length := by
  induction ws with
  | nil => rfl
  | cons w r ih => rw [List.flatMap_cons, List.length_append, ih, show (both w).length = 2 from rfl, List.length_cons]; omega
theorem sgls_len : ∀ n, (sgls n).length + 4 = 2 ^ (n + 2)
  | 0 => rfl
  | n + 1 => by
    have := sgls_len n
    rw [sgls_succ, List.length_append]
    unfold sglN
    rw [both_len, wdsA_len, Nat.pow_succ 2 (n + 2)]
    have : 2 ^ (n + 2) = 2 * 2 ^ (n + 1) := by rw [Nat.pow_succ 2 (n + 1)]; omega
    omega
theorem sgls_len9 {n : Nat} (h : n ≤ 9) : (sgls n).length ≤ 2048 := by
  have h1 := sgls_len n
  have h2 : 2 ^ (n + 2) ≤ 2 ^ 11 := Nat.pow_le_pow_right (by decide) (by omega)
  have h3 : (2 : Nat) ^ 11 = 2048 := by decide
  omega
end U

set_option maxRecDepth 100000
set_option maxHeartbeats 4000000
set_option pp.maxSteps 400
namespace U
open PySem PySem.Spec PyProof.Rows
open L2 hiding Fun CX0 E0 pass0 Fun.binds
open C8 Lx SX StX
section
variable {J : It} {n : Nat} {G : Hp → Prop} {Y : Nat → Hp → V → Hp → Prop}
/-- the inner for of a comprehension with two -/
theorem lc_in (w : Walk J n G Y) {g : TG} {tt : TT} {te : TE} {vs : List Nat} {σ : L2.St} {H1 : Hp} {D : Addr} {Qd : Hp → Prop} (Pv : Nat → Hp → Prop) (h0 : Pv 0 H1) (hG : ∀ i H, i ≤ n → Pv i H → G H)
    (hs : ∀ i x H H', i < n → Pv i H → Y i H x H' → g x (wipe σ vs) H' fun σ2 H2 => wipe σ2 vs = wipe σ vs ∧ tt σ2 H2 fun b H3 =>
      if b = true then te σ2 H3 fun y H4 => ∃ acc, H4 D = some (.lst acc) ∧ acc.length < sizeLine ∧ Pv (i + 1) (upd H4 D (.lst (acc ++ [y]))) else Pv (i + 1) H3) (hd : ∀ H, Pv n H → Qd H) :
    ∃ W : Nat → Nat → Hp → Prop, (∃ m, W 0 m H1) ∧ ∀ i m H, W i m H →
      (J.stop i H ∧ Qd H) ∨ (J.go i H ∧ ∃ Nx : Hp → Prop, (∀ H', Nx H' → ∃ m', m' < m ∧ W (i + 1) m' H') ∧ ∀ x H', J.yld i H x H' → g x (wipe σ vs) H' fun σ2 H2 => wipe σ2 vs = wipe σ vs ∧ tt σ2 H2 fun b H3 =>
        if b = true then te σ2 H3 fun y H4 => ∃ acc, H4 D = some (.lst acc) ∧ acc.length < sizeLine ∧ Nx (upd H4 D (.lst (acc ++ [y]))) else Nx H3) := by
  refine ⟨fun i m H => m = n - i ∧ i ≤ n ∧ Pv i H, ⟨n, by simp, Nat.zero_le _, h0⟩, ?_⟩
  rintro i m H ⟨rfl, hi, p⟩
  have q := hG i H hi p
  by_cases hlt : i < n
  · refine .inr ⟨w.goes i H hlt q, Pv (i + 1), fun H' p' => ⟨n - (i + 1), by omega, rfl, hlt, p'⟩, fun x H' y => hs i x H H' hlt p (w.yields i H x H' hlt q y)⟩
  · have e : i = n := by omega
    subst e
    exact .inl ⟨w.stops H q, hd H p⟩
/-- the outer one: R tells what the inner one asks, by what is to hold behind it -/
theorem lc_out (w : Walk J n G Y) {g : TG} {tt : TT} {R : (Hp → Prop) → L2.St → Hp → Prop} {vs : List Nat} {σ : L2.St} {H1 : Hp} {Qd : Hp → Prop} (Pv : Nat → Hp → Prop) (h0 : Pv 0 H1) (hG : ∀ i H, i ≤ n → Pv i H → G H)
    (hs : ∀ i x H H', i < n → Pv i H → Y i H x H' → g x (wipe σ vs) H' fun σ2 H2 => wipe σ2 vs = wipe σ vs ∧ tt σ2 H2 fun b H3 => if b = true then R (Pv (i + 1)) σ2 H3 else Pv (i + 1) H3) (hd : ∀ H, Pv n H → Qd H) :
    ∃ W : Nat → Nat → Hp → Prop, (∃ m, W 0 m H1) ∧ ∀ i m H, W i m H →
      (J.stop i H ∧ Qd H) ∨ (J.go i H ∧ ∃ Nx : Hp → Prop, (∀ H', Nx H' → ∃ m', m' < m ∧ W (i + 1) m' H') ∧ ∀ x H', J.yld i H x H' → g x (wipe σ vs) H' fun σ2 H2 => wipe σ2 vs = wipe σ vs ∧ tt σ2 H2 fun b H3 => if b = true then R Nx σ2 H3 else Nx H3) := by
  refine ⟨fun i m H => m = n - i ∧ i ≤ n ∧ Pv i H, ⟨n, by simp, Nat.zero_le _, h0⟩, ?_⟩
  rintro i m H ⟨rfl, hi, p⟩
  have q := hG i H hi p
  by_cases hlt : i < n
  · refine .inr ⟨w.goes i H hlt q, Pv (i + 1), fun H' p' => ⟨n - (i + 1), by omega, rfl, hlt, p'⟩, fun x H' y => hs i x H H' hlt p (w.yields i H x H' hlt q y)⟩
  · have e : i = n := by omega
    subst e
    exact .inl ⟨w.stops H q, hd H p⟩
end
theorem e01 : ("01" : Str) = W [false, true] := by decide +kernel
def wdW (ws : List (List Bool)) : List V := ws.map fun w => V.str (W w)
theorem wdW_get {ws : List (List Bool)} {i : Nat} {x : V} (h : (wdW ws)[i]? = some x) : ∃ w, ws[i]? = some w ∧ x = .str (W w) := by
  unfold wdW at h
  rw [List.getElem?_map] at h
  obtain ⟨w, hw, rfl⟩ := Option.map_eq_some_iff.mp h
  exact ⟨w, hw, rfl⟩
def spAllWords : Sp := fun vs H Q _ => ∃ n : Nat, vs = [.int n] ∧ n ≤ 9 ∧ ∀ D H', Same H H' → H D = none → H' D = some (.lst (wdW (wdsA n))) → Q (.ref D) H'
section
variable {P : Program} {w : World} {K : PySem.W.Frag} {mg : Str → Option Value} {base : Heap}
theorem sc_all_words : FnScope ["size", "found", "turn", "word", "bit"] ["size"] (fnScope s_all_words) := fnScope_by (by decide +kernel)
theorem cal_all_words {f : Addr} {fd : FuncData} {tB : Tok} (F : Def K mg "all_words" s_all_words f fd) (b : Binds K fd ["size"] []) (T : Tx mg) (g_BITS : mg "BITS" = some (.str "01" tB)) : Cal P w K mg base 1 "all_words" spAllWords [] := by
  refine cal0 F b .nil sc_all_words (fun vs H Q E h => ?_) (fun cdv A outer s H vs Q E hr h => ?_)
  · obtain ⟨_, rfl, _⟩ := h; rfl
  · obtain ⟨n, rfl, hn, k⟩ := h
    refine ⟨_, (pss_cons (ps_set (i := 1) sc_all_words.nd rfl (.inl rfl) (pe_lst (pa_cons pe_str pa_nil)))
    (pss_cons (ps_for PassesOwn.never rfl (pi_range1 (by rfl) T.b_range (pa_cons (pv 0) pa_nil)) (pg_name (i := 2) sc_all_words.nd rfl (.inl rfl))
    (pss_one (ps_setLc2 (i := 1) (own := [("word", 3), ("bit", 4)]) (vs1 := [4]) (g := gName 3) (g1 := gName 4) (by rfl) sc_all_words.nd rfl rfl (sw_true rfl rfl rfl (by decide +kernel)) (pi_list (pv 1)) (blkOk_by (own := [("word", 3), ("bit", 4)]) (N := ["size", "found", "turn", "word", "bit"]) (sc := fnScope s_all_words) (by decide +kernel)) (by decide) (fun _ _ _ _ _ => (pg_name (i := 3) sc_all_words.nd rfl (.inl rfl))) (fun _ _ _ _ _ => pts_nil) (fun _ _ _ _ _ => (pi_str (pe_glob (v := .str "01") (by rfl) g_BITS ⟨_, rfl⟩))) (fun _ _ _ _ _ => (pg_name (i := 4) sc_all_words.nd rfl (.inl rfl))) (fun _ _ _ _ _ => pts_nil) (fun _ _ _ _ _ => (pe_op op_add_str (pv 3) (pv 4))))))
    (pss_one (ps_ret (pv 1))))), ?_⟩
    refine ⟨by show 1 ≤ sizeLine; decide, fun q nq => ?_⟩
    have hq : upd H q (.lst [.str ""]) q = some (.lst (wdW (wdsA 0))) := by rw [upd_same, W_nil]; rfl
    have sq := same_upd (o := .lst [.str ""]) nq
    have nqH : H q = none := nq
    generalize upd H q (.lst [.str ""]) = H1 at hq sq
    refine ⟨_, rfl, _, rfl, by omega, by omega, ?_⟩
    refine for_it (walk_range (lo := 0) (n := (n : Int).toNat)) (fun i σ H2 => ∃ (v2 v3 v4 : Option V) (q : Addr), σ = [some (.int n), some (.ref q), v2, v3, v4] ∧ H q = none ∧ Same H H2 ∧ H2 q = some (.lst (wdW (wdsA i)))) ⟨_, _, _, q, rfl, nqH, sq, hq⟩ (fun _ _ _ _ _ => trivial) ?_ ?_
    · rintro i x σ H2' H2 hi ⟨v2, v3, v4, q, rfl, nq, s2, hq⟩ ⟨rfl, rfl⟩
      have hi' : i < n := by omega
      have l4 : (wdsA i).length ≤ 512 := by rw [wdsA_len]; exact Nat.le_trans (Nat.pow_le_pow_right (by decide) (show i ≤ 9 by omega)) (by decide)
      refine ⟨_, rfl, q, rfl, ⟨_, SqL.of hq⟩, fun D nD => ?_⟩
      refine lc_out (walk_list (xs := wdW (wdsA i))) (fun j H3 => Same H2 H3 ∧ H3 D = some (.lst (wdW (((wdsA i).take j).flatMap fun w => [w ++ [false], w ++ [true]])))) ⟨same_upd nD, upd_same⟩ (fun j H3 _ h3 => SqL.of (h3.1 _ _ hq)) ?_ ?_
      · rintro j x H3 H3' hj ⟨s3, hD⟩ ⟨rfl, hx⟩
        obtain ⟨v, hv, rfl⟩ := wdW_get hx
        have lv := wdsA_size (List.mem_of_getElem? hv)
        refine ⟨rfl, ?_⟩
        refine ⟨_, rfl, ?_⟩
        refine lc_in walk_str (fun i2 H4 => Same H2 H4 ∧ H4 D = some (.lst (wdW ((((wdsA i).take j).flatMap fun w => [w ++ [false], w ++ [true]]) ++ ([false, true].take i2).map fun b => v ++ [b])))) ⟨s3, by rw [show ([false, true].take 0).map (fun b => v ++ [b]) = [] from rfl, List.append_nil]; exact hD⟩ (fun _ _ _ _ => trivial) ?_ ?_
        · rintro i2 x H4 H4' hi2 ⟨s4, hD4⟩ ⟨rfl, c, hc, rfl⟩
          rw [e01] at hc
          obtain ⟨bb, hbb, rfl⟩ := W_get hc
          have e1 : (W v).length = i := by rw [W_len, lv]
          have e2 : (⟨#[bt bb]⟩ : Str).length = 1 := W_len [bb]
          refine ⟨rfl, _, rfl, _, rfl, _, _, rfl, rfl, by rw [e1, e2]; exact sl_len (by omega), _, hD4, ?_, same_mut' s4 nD, ?_⟩
          · have hj2 : (((wdsA i).take j).flatMap fun w => [w ++ [false], w ++ [true]]).length ≤ 1024 := by
              have : ∀ l : List (List Bool), (l.flatMap fun w => [w ++ [false], w ++ [true]]).length = 2 * l.length := fun l => by
                induction l with
                | nil => rfl
                | cons w r ih => rw [List.flatMap_cons, List.length_append, ih]; show 2 + 2 * r.length = 2 * (r.length + 1); omega
              rw [this, List.length_take]
              omega
            unfold wdW
            rw [List.length_map, List.length_append, List.length_map, List.length_take]
            exact sl_lt (by show _ + min i2 2 < _; omega)
          · rw [upd_same, List.take_add_one, hbb, List.map_append, ← List.append_assoc]
            unfold wdW
            rw [List.map_append (l₁ := _ ++ _)]
            have ew : W v ++ (⟨#[bt bb]⟩ : Str) = W (v ++ [bb]) := W_cat v [bb]
            rw [ew]
            rfl
        · rintro H4 ⟨s4, hD4⟩
          refine ⟨s4, ?_⟩
          rw [hD4, List.take_add_one, hv, List.flatMap_append]
          rfl
      · rintro H3 ⟨s3, hD⟩
        refine ⟨_, _, _, D, rfl, ?_, s2.trans s3, ?_⟩
        · cases e : H D with
          | none => rfl
          | some o => rw [s2 _ _ e] at nD; cases nD
        · rw [hD, List.take_of_length_le (by unfold wdW; rw [List.length_map]; exact Nat.le_refl _)]
          rfl
    · rintro σ H2 ⟨v2, v3, v4, q, rfl, nq, s2, hq⟩
      refine ⟨_, rfl, k q H2 s2 nq ?_⟩
      rw [hq]
      congr 4
end
end U

set_option maxRecDepth 100000
set_option maxHeartbeats 4000000
set_option pp.maxSteps 700
namespace U
open PySem PySem.Spec PyProof.Rows
open L2 hiding Fun CX0 E0 pass0 Fun.binds
open C8 Lx SX StX
/-! all tuples of hits on a line -/
def fstA (r : List (Nat × Kd)) : Nat := match r.getLast? with | none => 0 | some x => x.1 + 1
def grA (many : Nat) (ks : List Kd) (r : List (Nat × Kd)) : List (List (Nat × Kd)) := (List.range' (fstA r) (many - fstA r)).flatMap fun i => ks.map fun k => r ++ [(i, k)]
def rowsA (many : Nat) (ks : List Kd) : Nat → List (List (Nat × Kd))
  | 0 => [[]]
  | n + 1 => (rowsA many ks n).flatMap (grA many ks)
def RowT (H : Hp) (p : Addr) (hs : List (Nat × Kd)) : Prop := ∃ qs : List Addr, H p = some (.tup (qs.map V.ref)) ∧ Paired (HtAt H) qs hs
theorem HtAt.smA {H H' : Hp} {t : Addr} {x : Nat × Kd} (h : HtAt H t x) (s : Same H H') : HtAt H' t x := s _ _ h
theorem RowT.same {H H' : Hp} {p : Addr} {hs : List (Nat × Kd)} (h : RowT H p hs) (s : Same H H') : RowT H' p hs := by
  obtain ⟨qs, h1, h2⟩ := h
  exact ⟨qs, s _ _ h1, Paired.mapP h2 fun _ _ z => z.smA s⟩
theorem rowsT_same {H H' : Hp} {ps : List Addr} {rs : List (List (Nat × Kd))} (h : Paired (RowT H) ps rs) (s : Same H H') : Paired (RowT H') ps rs := Paired.mapP h fun _ _ z => z.same s
theorem RowT.upd {H : Hp} {p D : Addr} {hs : List (Nat × Kd)} {xs : List V} {o : HO} (h : RowT H p hs) (hD : H D = some (.lst xs)) : RowT (L2.upd H D o) p hs := by
  obtain ⟨qs, h1, h2⟩ := h
  refine ⟨qs, ?_, Paired.mapP h2 fun t _ z => ?_⟩
  · rw [upd_ne (ne_of h1 hD (by intro z; cases z))]
    exact h1
  · show L2.upd H D o t = _
    rw [upd_ne (ne_of z hD (by intro z; cases z))]
    exact z
theorem rowsT_upd {H : Hp} {D : Addr} {ps : List Addr} {rs : List (List (Nat × Kd))} {xs : List V} {o : HO} (h : Paired (RowT H) ps rs) (hD : H D = some (.lst xs)) : Paired (RowT (L2.upd H D o)) ps rs := Paired.mapP h fun _ _ z => z.upd hD
theorem pdLen {α β : Type} {F : α → β → Prop} : ∀ {l : List α} {m : List β}, Paired F l m → l.length = m.length
  | _, _, .nil => rfl
  | _, _, .cons _ t => by rw [List.length_cons, List.length_cons, pdLen t]
theorem pdGet {α β : Type} {F : α → β → Prop} : ∀ {l : List α} {m : List β} {i : Nat} {a : α}, Paired F l m → l[i]? = some a → ∃ b, m[i]? = some b ∧ F a b
  | _, _, 0, a, .cons h _, e => by
    cases e
    exact ⟨_, rfl, h⟩
  | _, _, i + 1, a, .cons _ t, e => pdGet (i := i) t e
theorem pdSnoc {α β : Type} {F : α → β → Prop} : ∀ {l : List α} {m : List β} {a : α} {b : β}, Paired F l m → F a b → Paired F (l ++ [a]) (m ++ [b])
  | _, _, _, _, .nil, h => .cons h .nil
  | _, _, _, _, .cons x t, h => .cons x (pdSnoc t h)
theorem pdApp {α β : Type} {F : α → β → Prop} : ∀ {l l2 : List α} {m m2 : List β}, Paired F l m → Paired F l2 m2 → Paired F (l ++ l2) (m ++ m2)
  | _, _, _, _, .nil, h => h
  | _, _, _, _, .cons x t, h => .cons x (pdApp t h)
theorem pdLast {F : Addr → (Nat × Kd) → Prop} {qr : List Addr} {r : List (Nat × Kd)} {x : Nat × Kd} (h : Paired F qr (r ++ [x])) : ∃ t, atI (qr.map V.ref) (-1) = some (.ref t) ∧ F t x := by
  have l := pdLen h
  rw [List.length_append] at l
  have l : qr.length = r.length + 1 := l
  obtain ⟨t, ht⟩ : ∃ t, qr[r.length]? = some t := ⟨_, List.getElem?_eq_getElem (by omega)⟩
  obtain ⟨y, hy, hf⟩ := pdGet h ht
  rw [List.getElem?_append_right (Nat.le_refl _), Nat.sub_self] at hy
  cases hy
  refine ⟨t, ?_, hf⟩
  unfold atI ixN
  rw [List.length_map, l, if_neg (by decide), if_pos (by omega)]
  show (qr.map V.ref)[((-1 : Int) + ((r.length + 1 : Nat) : Int)).toNat]? = _
  rw [show ((-1 : Int) + ((r.length + 1 : Nat) : Int)).toNat = r.length by omega, List.getElem?_map, ht]
  rfl
theorem fstA_snoc (r : List (Nat × Kd)) (x : Nat × Kd) : fstA (r ++ [x]) = x.1 + 1 := by
  unfold fstA
  rw [List.getLast?_concat]
theorem flA_le {α β : Type} {f : α → List β} {c : Nat} : ∀ {l : List α}, (∀ x ∈ l, (f x).length ≤ c) → (l.flatMap f).length ≤ l.length * c
  | [], _ => Nat.zero_le _
  | x :: r, h => by
    rw [List.flatMap_cons, List.length_append, List.length_cons, Nat.succ_mul]
    have := h x List.mem_cons_self
    have := flA_le (l := r) fun y hy => h y (List.mem_cons_of_mem _ hy)
    omega
theorem grA_len (many : Nat) (ks : List Kd) (r : List (Nat × Kd)) : (grA many ks r).length ≤ many * ks.length := by
  refine Nat.le_trans (flA_le (c := ks.length) fun i _ => by rw [List.length_map]; exact Nat.le_refl _) (Nat.mul_le_mul_right _ ?_)
  rw [List.length_range']
  omega
theorem rowsA_len (many : Nat) (ks : List Kd) : ∀ n, (rowsA many ks n).length ≤ (many * ks.length) ^ n
  | 0 => Nat.le_refl _
  | n + 1 => by
    rw [Nat.pow_succ]
    exact Nat.le_trans (flA_le fun r _ => grA_len many ks r) (Nat.mul_le_mul_right _ (rowsA_len many ks n))
theorem rowsA_fst {many : Nat} {ks : List Kd} : ∀ {n : Nat} {r : List (Nat × Kd)}, r ∈ rowsA many ks n → r.length = n ∧ fstA r ≤ many
  | 0, r, h => by
    rw [List.mem_singleton.mp h]
    exact ⟨rfl, Nat.zero_le _⟩
  | n + 1, r, h => by
    obtain ⟨r', hr, h⟩ := List.mem_flatMap.mp h
    obtain ⟨i, hi, h⟩ := List.mem_flatMap.mp h
    obtain ⟨k, _, rfl⟩ := List.mem_map.mp h
    obtain ⟨z1, z2⟩ := List.mem_range'_1.mp hi
    rw [fstA_snoc, List.length_append, (rowsA_fst hr).1]
    exact ⟨rfl, by show i + 1 ≤ many; omega⟩
theorem sqt_same {K : PySem.W.Frag} {H H' : Hp} {a : Addr} {xs : List V} (h : SqT K H a xs) (s : Same H H') : SqT K H' a xs := by
  rcases h with (h | ⟨o, h⟩) | h
  · exact .inl (.inl (s _ _ h))
  · exact .inl (.inr ⟨o, s _ _ h⟩)
  · exact .inr h
def spAllHits (K : PySem.W.Frag) : Sp := fun vs H Q _ => ∃ (q : Addr) (many n : Nat) (ks : List Kd), vs = [.int (many : Nat), .ref q, .int (n : Nat)] ∧ SqT K H q (ks.map fun k => .str (kS k)) ∧ many ≤ 1000 ∧ ks.length ≤ 3 ∧ n ≤ 2 ∧ (n = 2 → many ≤ 700) ∧
  ∀ a ps H', H a = none → Same H H' → H' a = some (.lst (ps.map V.ref)) → Paired (RowT H') ps (rowsA many ks n) → Q (.ref a) H'
section
variable {P : Program} {w : World} {K : PySem.W.Frag} {mg : Str → Option Value} {base : Heap}
theorem sc_all_hits : FnScope ["many", "kinds", "hits", "found", "turn", "longer", "some", "first", "at", "kind"] ["many", "kinds", "hits"] (fnScope s_all_hits) := fnScope_by (by decide +kernel)
theorem cal_all_hits {f : Addr} {fd : FuncData} (F : Def K mg "all_hits" s_all_hits f fd) (b : Binds K fd ["many", "kinds", "hits"] []) (T : Tx mg) : Cal P w K mg base 1 "all_hits" (spAllHits K) [] := by
  refine cal0 F b .nil sc_all_hits (fun vs H Q E h => ?_) (fun cdv A outer s H vs Q E hr h => ?_)
  · obtain ⟨_, _, _, _, rfl, _⟩ := h; rfl
  · obtain ⟨q, many, n, ks, rfl, hq, hm, hk, hn, hn2, k⟩ := h
    refine ⟨_, (pss_cons (ps_set (i := 3) sc_all_hits.nd rfl (.inl rfl) (pe_lst (pa_cons (pe_tup pa_nil) pa_nil)))
    (pss_cons (ps_for PassesOwn.never rfl (pi_range1 (by rfl) T.b_range (pa_cons (pv 2) pa_nil)) (pg_name (i := 4) sc_all_hits.nd rfl (.inl rfl))
    (pss_cons (ps_set (i := 5) sc_all_hits.nd rfl (.inl rfl) (pe_lst pa_nil))
    (pss_cons (ps_for PassesOwn.never rfl (pi_list (pv 3)) (pg_name (i := 6) sc_all_hits.nd rfl (.inr rfl))
    (pss_cut (ps_set (i := 7) sc_all_hits.nd rfl (.inl rfl) (pe_ifExp (pt_cmpR op_gt (pe_callB call_len_seq (by rfl) T.b_len (by decide +kernel) (pa_cons (pv 6) pa_nil)) pe_int (nomark _)) (pe_op op_add (pe_ix ix_tup (pe_ix ix_tup (pv 6) (pe_un un_neg pe_int) (fun _ _ => rfl)) pe_int (fun _ _ => rfl)) pe_int) pe_int))
    (pss_one (ps_expr (pe_bm PySem.F.plainAttrs_list PySem.F.slot_list_extend PySem.F.type_list_extend mt_extend (pv 5) (pa_cons (pe_lc2 (own := [("at", 8), ("kind", 9)]) (vs1 := [9]) (g := gName 8) (g1 := gName 9) (by rfl) sc_all_hits.nd (pi_range2 (by rfl) T.b_range (pa_cons (pv 7) (pa_cons (pv 0) pa_nil))) (blkOk_by (own := [("at", 8), ("kind", 9)]) (N := ["many", "kinds", "hits", "found", "turn", "longer", "some", "first", "at", "kind"]) (sc := fnScope s_all_hits) (by decide +kernel)) (by decide) (fun _ _ _ _ _ => (pg_name (i := 8) sc_all_hits.nd rfl (.inl rfl))) (fun _ _ _ _ _ => pts_nil) (fun _ _ _ _ _ => (show PI _ _ _ (iTup K _) from pi_tup (pv 1))) (fun _ _ _ _ _ => (pg_name (i := 9) sc_all_hits.nd rfl (.inl rfl))) (fun _ _ _ _ _ => pts_nil) (fun _ _ _ _ _ => (pe_tup (show PA _ _ (tStar K _ _) from pa_star (pv 6) (pa_cons (pe_tup (pa_cons (pv 8) (pa_cons (pv 9) pa_nil))) pa_nil))))) pa_nil))))))
    (pss_one (ps_set (i := 3) sc_all_hits.nd rfl (.inl rfl) (pv 5))))))
    (pss_one (ps_ret (pv 3))))), ?_⟩
    refine ⟨Nat.zero_le _, fun r0 nr0 => ⟨by show 1 ≤ sizeLine; decide, fun D nD => ?_⟩⟩
    have s0 := same_upd (o := .tup []) nr0
    have s1 := s0.trans (same_upd (o := .lst [.ref r0]) nD)
    have nDH : H D = none := s0.free nD
    have hD0 : upd (upd H r0 (.tup [])) D (.lst [.ref r0]) D = some (.lst ([r0].map V.ref)) := upd_same
    have hr0 : Paired (RowT (upd (upd H r0 (.tup [])) D (.lst [.ref r0]))) [r0] (rowsA many ks 0) := .cons ⟨[], same_upd nD _ _ upd_same, .nil⟩ .nil
    generalize upd (upd H r0 (.tup [])) D (.lst [.ref r0]) = H1 at s1 hD0 hr0
    refine ⟨_, rfl, _, rfl, by omega, by omega, ?_⟩
    refine for_it (walk_range (lo := 0) (n := (n : Int).toNat)) (fun i σ H2 => ∃ (D : Addr) (ps : List Addr) (v4 v5 v6 v7 v8 v9 : Option V), σ = [some (.int (many : Nat)), some (.ref q), some (.int (n : Nat)), some (.ref D), v4, v5, v6, v7, v8, v9] ∧ H D = none ∧ Same H H2 ∧ H2 D = some (.lst (ps.map V.ref)) ∧ Paired (RowT H2) ps (rowsA many ks i))
      ⟨D, _, _, _, _, _, _, _, rfl, nDH, s1, hD0, hr0⟩ (fun _ _ _ _ _ => trivial) ?_ ?_
    · rintro i x σ H2' H2 hi ⟨D, ps, v4, v5, v6, v7, v8, v9, rfl, nD, s2, hD, hps⟩ ⟨rfl, rfl⟩
      have hi' : i < n := by omega
      refine ⟨Nat.zero_le _, fun D2 nD2 => ?_⟩
      have nD2H : H D2 = none := s2.free nD2
      have sD2 := same_upd (o := .lst []) nD2
      have s3 := s2.trans sD2
      have hD3 := sD2 _ _ hD
      have hps3 := rowsT_same hps sD2
      have hD2 : upd H2 D2 (.lst []) D2 = some (.lst (([] : List Addr).map V.ref)) := upd_same
      generalize upd H2 D2 (.lst []) = H3 at s3 hD3 hps3 hD2
      have lps := pdLen hps3
      refine ⟨_, rfl, D, rfl, ⟨_, SqL.of hD3⟩, for_it (walk_list (K := K) (a := D) (xs := ps.map V.ref)) (fun j σ H4 => ∃ (qs : List Addr) (v6 v7 v8 v9 : Option V), σ = [some (.int (many : Nat)), some (.ref q), some (.int (n : Nat)), some (.ref D), some (.int (0 + (i : Int))), some (.ref D2), v6, v7, v8, v9] ∧ Same H H4 ∧ H4 D = some (.lst (ps.map V.ref)) ∧ Paired (RowT H4) ps (rowsA many ks i) ∧ H4 D2 = some (.lst (qs.map V.ref)) ∧ Paired (RowT H4) qs (((rowsA many ks i).take j).flatMap (grA many ks)))
        ⟨[], _, _, _, _, rfl, s3, hD3, hps3, hD2, .nil⟩ (fun j σ H4 _ ⟨_, _, _, _, _, _, _, h, _⟩ => SqL.of h) ?_ ?_⟩
      · rintro j y σ H4' H4 hj ⟨qs, v6, v7, v8, v9, rfl, s4, hD4, hps4, hD24, hqs4⟩ ⟨rfl, hy⟩
        rw [List.getElem?_map] at hy
        obtain ⟨rp, hrp, rfl⟩ := Option.map_eq_some_iff.mp hy
        obtain ⟨r, hr, hrow⟩ := pdGet hps4 hrp
        have hrm : r ∈ rowsA many ks i := List.mem_of_getElem? hr
        obtain ⟨hrl, hfr⟩ := rowsA_fst hrm
        refine ⟨fun σ' H5 => ∃ v8 v9 : Option V, σ' = [some (.int (many : Nat)), some (.ref q), some (.int (n : Nat)), some (.ref D), some (.int (0 + (i : Int))), some (.ref D2), some (.ref rp), some (.int (fstA r : Nat)), v8, v9] ∧ H5 = H4, ?_, ?_⟩
        · obtain ⟨qr, hqr, hht⟩ := hrow
          refine ⟨_, rfl, rp, _, rfl, .inr (SqT.of hqr), _, _, rfl, rfl, _, rfl, ?_⟩
          rw [List.length_map, pdLen hht]
          rcases List.eq_nil_or_concat r with rfl | ⟨r', x, rfl⟩
          · refine iteDF (by decide) ?_
            exact ⟨_, _, rfl, rfl⟩
          · rw [List.concat_eq_append] at hht ⊢
            refine iteDT (by rw [List.length_append]; show (0 : Int) < ((r'.length + 1 : Nat) : Int); omega) ?_
            obtain ⟨t, hat, hht2⟩ := pdLast hht
            refine ⟨_, rfl, _, rfl, rp, _, _, _, rfl, rfl, SqT.of hqr, hat, t, _, _, _, rfl, rfl, SqT.of hht2, atI_nat (j := 0) rfl, _, _, rfl, rfl, ?_⟩
            exact ⟨_, _, by rw [fstA_snoc]; rfl, rfl⟩
        rintro σ' H5 ⟨v8, v9, rfl, rfl⟩
        have hmul : many * ks.length ≤ 3000 := Nat.le_trans (Nat.mul_le_mul hm hk) (by decide)
        have hlen2 : qs.length + many * ks.length ≤ 12000000 := by
          rw [pdLen hqs4]
          have h2 : (((rowsA many ks i).take j).flatMap (grA many ks)).length ≤ ((rowsA many ks i).take j).length * (many * ks.length) := flA_le fun y _ => grA_len many ks y
          rw [List.length_take] at h2
          have h1 : (rowsA many ks i).length ≤ (many * ks.length) ^ i := rowsA_len many ks i
          rcases (by omega : i = 0 ∨ (i = 1 ∧ n = 2)) with e | ⟨e, e2⟩
          · subst e
            have h1 : (rowsA many ks 0).length = 1 := rfl
            have h4 : min j (rowsA many ks 0).length * (many * ks.length) ≤ 1 * 3000 := Nat.mul_le_mul (by omega) hmul
            omega
          · subst e
            rw [Nat.pow_one] at h1
            have h5 : many * ks.length ≤ 700 * 3 := Nat.mul_le_mul (hn2 e2) hk
            have h4 : min j (rowsA many ks 1).length * (many * ks.length) ≤ 2100 * 2100 := Nat.mul_le_mul (by omega) h5
            omega
        refine ⟨_, rfl, .inl ⟨rfl, _, SqL.of hD24⟩, _, rfl, _, rfl, _, _, rfl, ⟨by omega, by omega, by omega, by omega⟩, fun D3 nD3 => ?_⟩
        have nD3H : H D3 = none := s4.free nD3
        have etn : (((many : Nat) : Int) - ((fstA r : Nat) : Int)).toNat = many - fstA r := by omega
        rw [etn]
        have hrow4 := hrow
        refine lc_out (walk_range (lo := ((fstA r : Nat) : Int)) (n := many - fstA r)) (fun m H7 => ∃ q3 : List Addr, Same H5 H7 ∧ H7 D3 = some (.lst (q3.map V.ref)) ∧ Paired (RowT H7) q3 ((List.range' (fstA r) m).flatMap fun i => ks.map fun k => r ++ [(i, k)])) ⟨[], same_upd nD3, upd_same, .nil⟩ (fun _ _ _ _ => trivial) ?_ ?_
        · rintro m x H7' H7 hmm ⟨q3, s7, hD7, hq3⟩ ⟨rfl, rfl⟩
          refine ⟨rfl, ?_⟩
          have hq7 := sqt_same hq (s4.trans s7)
          refine ⟨_, rfl, q, rfl, ⟨_, hq7⟩, ?_⟩
          have ei : ((fstA r : Nat) : Int) + (m : Int) = ((fstA r + m : Nat) : Int) := by omega
          refine lc_in (walk_tup (K := K) (a := q) (xs := ks.map fun k => V.str (kS k))) (fun l H8 => ∃ q4 : List Addr, Same H5 H8 ∧ H8 D3 = some (.lst (q4.map V.ref)) ∧ Paired (RowT H8) q4 (((List.range' (fstA r) m).flatMap fun i => ks.map fun k => r ++ [(i, k)]) ++ (ks.take l).map fun k => r ++ [(fstA r + m, k)])) ⟨q3, s7, hD7, by rw [List.take_zero, List.map_nil, List.append_nil]; exact hq3⟩ (fun l H8 _ ⟨_, h, _⟩ => sqt_same hq (s4.trans h)) ?_ ?_
          · rintro l x H8' H8 hll ⟨q4, s8, hD8, hq4⟩ ⟨rfl, hy⟩
            rw [List.getElem?_map] at hy
            obtain ⟨kd, hkd, rfl⟩ := Option.map_eq_some_iff.mp hy
            refine ⟨rfl, ?_⟩
            obtain ⟨qr, hqr, hht⟩ := hrow4.same s8
            have lqr := pdLen hht
            refine ⟨_, rfl, rp, _, rfl, .inl (SqT.of hqr), _, rfl, _, rfl, by show 2 ≤ sizeLine; decide, fun t nt => ⟨?_, fun u nu => ?_⟩⟩
            · rw [List.length_append, List.length_map, lqr]
              exact sl_len (by show _ + 1 ≤ _; omega)
            have st := same_upd (o := .tup [.int (((fstA r : Nat) : Int) + (m : Int)), .str (kS kd)]) nt
            have su := same_upd (o := .tup (qr.map V.ref ++ [.ref t])) nu
            have stu := st.trans su
            have ht : HtAt (L2.upd (L2.upd H8 t (.tup [.int (((fstA r : Nat) : Int) + (m : Int)), .str (kS kd)])) u (.tup (qr.map V.ref ++ [.ref t]))) t (fstA r + m, kd) := by
              show _ = some (HO.tup [V.int ((fstA r + m : Nat) : Int), V.str (kS kd)])
              rw [← ei]
              exact su _ _ upd_same
            have hu : L2.upd (L2.upd H8 t (.tup [.int (((fstA r : Nat) : Int) + (m : Int)), .str (kS kd)])) u (.tup (qr.map V.ref ++ [.ref t])) u = some (.tup ((qr ++ [t]).map V.ref)) := by rw [upd_same, List.map_append]; rfl
            have hD9 := stu _ _ hD8
            have hq9 := rowsT_same hq4 stu
            have hht9 := Paired.mapP hht fun _ _ y => HtAt.smA y stu
            have s9 := s8.trans stu
            refine ⟨_, hD9, ?_, q4 ++ [u], same_mut' s9 nD3, by rw [upd_same, List.map_append]; rfl, ?_⟩
            · rw [List.length_map, pdLen hq4, List.length_append, List.length_map, List.length_take]
              have h2 : ((List.range' (fstA r) m).flatMap fun i => ks.map fun k => r ++ [(i, k)]).length ≤ (List.range' (fstA r) m).length * ks.length := flA_le fun i _ => by rw [List.length_map]; exact Nat.le_refl _
              rw [List.length_range'] at h2
              have h3 : m * ks.length ≤ many * ks.length := Nat.mul_le_mul_right _ (by omega)
              exact sl_lt (by omega)
            · rw [List.take_add_one, hkd, List.map_append, ← List.append_assoc]
              exact pdSnoc (rowsT_upd hq9 hD9) (RowT.upd (⟨_, hu, pdSnoc hht9 ht⟩) hD9)
          · rintro H8 ⟨q4, s8, hD8, hq4⟩
            rw [List.length_map, List.take_length] at hq4
            refine ⟨q4, s8, hD8, ?_⟩
            rw [List.range'_1_concat, List.flatMap_append]
            show Paired _ _ (_ ++ (_ ++ []))
            rw [List.append_nil]
            exact hq4
        · rintro H7 ⟨q3, s7, hD7, hq3⟩
          have hD27 := s7 _ _ hD24
          have l3 : q3.length ≤ many * ks.length := by
            rw [pdLen hq3]
            exact grA_len many ks r
          refine ⟨D2, D3, _, _, rfl, rfl, hD27, hD7, by rw [List.length_map, List.length_map]; show _ ≤ 16777216; omega, ?_⟩
          have sx : Same H (L2.upd H7 D2 (.lst (qs.map V.ref ++ q3.map V.ref))) := same_mut' (s4.trans s7) nD2H
          refine ⟨qs ++ q3, _, _, _, _, rfl, sx, ?_, rowsT_upd (rowsT_same hps4 s7) hD27, by rw [upd_same, List.map_append], ?_⟩
          · rw [upd_ne (ne_of_none hD nD2)]
            exact s7 _ _ hD4
          · rw [List.take_add_one, hr, List.flatMap_append]
            refine pdApp (rowsT_upd (rowsT_same hqs4 s7) hD27) ?_
            show Paired _ _ (_ ++ [])
            rw [List.append_nil]
            exact rowsT_upd hq3 hD27
      · rintro σ H4 ⟨qs, v6, v7, v8, v9, rfl, s4, hD4, hps4, hD24, hqs4⟩
        rw [List.length_map, lps, List.take_length] at hqs4
        exact ⟨_, rfl, D2, qs, _, _, _, _, _, _, rfl, nD2H, s4, hD24, hqs4⟩
    · rintro σ H2 ⟨D, ps, v4, v5, v6, v7, v8, v9, rfl, nD, s2, hD, hps⟩
      rw [Int.toNat_natCast] at hps
      exact ⟨_, rfl, k D ps H2 nD s2 hD hps⟩
end
end U

set_option maxRecDepth 100000
set_option maxHeartbeats 4000000
set_option pp.maxSteps 700
namespace U
open PySem PySem.Spec PyProof.Rows
open L2 hiding Fun CX0 E0 pass0 Fun.binds
open C8 Lx SX StX
/-! in which way hits are unseen -/
def wV : Option How → V
  | none => .non
  | some h => .str (howS h)
structure WyOk (f : List Bool) (ss : List Stf) (p s : List Bool) : Prop where
  f2 : f ≠ []
  f9 : f.length ≤ 100
  p9 : p.length ≤ 100
  ck : CkOk p s
  st : StOk ss
  oN : OkN 39 ss
def spWayOf (C CK : Addr) : Sp := fun vs H Q _ => ∃ (a c h : Addr) (f : List Bool) (ss : List Stf) (p s data line : List Bool) (hs : List (Nat × Kd)), vs = [.ref a, .ref c, .str (W data), .str (W line), .ref h] ∧ RuAt C H a f ss ∧ CkAt CK H c p s ∧ WyOk f ss p s ∧ data.length ≤ 1000 ∧ line.length ≤ 1000 ∧ RowT H h hs ∧ Asc 0 line.length hs ∧
  ∀ H', Same H H' → Q (wV (wayO f ss p s data (hitM line 0 hs ++ f))) H'
theorem hit_le2 (line : List Bool) {hs : List (Nat × Kd)} (h : Asc 0 line.length hs) : (hitM line 0 hs).length ≤ 2 * line.length := by
  rw [hitM_all line h]
  have sg : ∀ (o : Option Kd) (b : Bool), (sgn o b).length ≤ 2 := fun o b => by
    cases o with
    | none => show 1 ≤ 2; decide
    | some k => show (arr b k).length ≤ 2; cases k <;> cases b <;> decide
  have key : ∀ (l : List Bool) (f : Nat → Option Kd) (i : Nat), (go f i l).length ≤ 2 * l.length := by
    intro l
    induction l with
    | nil => intro f i; exact Nat.le_refl _
    | cons b r ih =>
      intro f i
      show (sgn (f i) b ++ go f (i + 1) r).length ≤ _
      have := ih f (i + 1)
      have := sg (f i) b
      rw [List.length_append, List.length_cons]
      omega
  exact key _ _ _
section
variable {P : Program} {w : World} {K : PySem.W.Frag} {mg : Str → Option Value} {base : Heap}
theorem sc_way_of : FnScope ["rule", "check", "data", "line", "hits", "raw", "reason", "told"] ["rule", "check", "data", "line", "hits"] (fnScope s_way_of) := fnScope_by (by decide +kernel)
theorem cal_way_of {f C CK : Addr} {fd : FuncData} (F : Def K mg "way_of" s_way_of f fd) (b : Binds K fd ["rule", "check", "data", "line", "hits"] []) (T : Tx mg) (RT : RuT K C) (c_hit : Cal P w K mg base 4 "hit" (spHit K) []) (c_receive : Cal P w K mg base 5 "receive" (spReceive C CK) []) : Cal P w K mg base 6 "way_of" (spWayOf C CK) [] := by
  refine cal0 F b .nil sc_way_of (fun vs H Q E h => ?_) (fun cdv A outer s H vs Q E hr h => ?_)
  · obtain ⟨_, _, _, _, _, _, _, _, _, _, rfl, _⟩ := h; rfl
  · obtain ⟨a, c, hp, fl, ss, p, st, data, line, hs, rfl, hR, hC, wok, ld, ll, ⟨qs, hrow, hht⟩, hasc, k⟩ := h
    refine ⟨_, (pss_cons (ps_set (i := 5) sc_way_of.nd rfl (.inl rfl) (pe_joined (.cons (pe_fmt (pe_c c_hit hr (by decide) rfl (pa_cons (pv 3) (pa_cons (pv 4) pa_nil)))) (.cons (pe_fmt (pe_fld (pv 0) rfl)) .nil))))
    (pss_cons (ps_asg (pe_c c_receive hr (by decide) rfl (pa_cons (pv 0) (pa_cons (pv 1) (pa_cons (pv 5) pa_nil)))) (pg_tup rfl (pgs_cons (pg_name (i := 6) sc_way_of.nd rfl (.inl rfl)) (pgs_cons (pg_name (i := 7) sc_way_of.nd rfl (.inl rfl)) pgs_nil))))
    (pss_cons (ps_if (PW.pt (pw_or (pt_cmpR op_ne (pv 6) pe_str (nomark _)) (pw_or1 (pt_cmpR op_eq (pv 7) (pv 2) (nomark _))))) (pss_one (ps_ret pe_non)) pss_nil)
    (pss_cons (ps_if (pt_cmpR op_lt (pe_op op_add (pe_m1 PySem.F.slot_str_index PySem.F.type_str_index mt_sindex (pv 5) (pe_fld (pv 0) rfl)) (pe_callB call_len_str (by rfl) T.b_len (by decide +kernel) (pa_cons (pe_fld (pv 0) rfl) pa_nil))) (pe_callB call_len_str (by rfl) T.b_len (by decide +kernel) (pa_cons (pv 5) pa_nil)) (nomark _)) (pss_one (ps_ret pe_str)) pss_nil)
    (pss_one (ps_ret (pe_ifExp (pt_cmpR op_eq (pe_callB call_len_str (by rfl) T.b_len (by decide +kernel) (pa_cons (pv 7) pa_nil)) (pe_callB call_len_str (by rfl) T.b_len (by decide +kernel) (pa_cons (pv 2) pa_nil)) (nomark _)) pe_str pe_str))))))), ?_⟩
    have h0 : putM ss [] = none := put_nil fun s hs => wok.st.pos s hs
    refine ⟨_, rfl, _, rfl, line, hp, qs, hs, rfl, .inr hrow, hht, hasc, ll, fun H1 s1 => ?_⟩
    have lh := hit_le2 line hasc
    have efl : Str.empty ++ W (hitM line 0 hs) = W (hitM line 0 hs) := eWn _
    have lfl := wok.f9
    obtain ⟨da, ta, _, _, ha, _⟩ := id (hR.same s1)
    refine .inl ⟨_, rfl, by rw [W_len]; exact sl_len (by omega), _, rfl, by rw [efl, W_len]; exact sl_len (by omega), _, rfl, a, C, da, _, _, rfl, ha, RT.cl, RT.nF, ruF_flag _ _, .inl ⟨_, rfl, by rw [W_len]; exact sl_len (by omega), _, rfl, by rw [efl, W_cat, W_len, List.length_append]; exact sl_len (by omega), ?_⟩⟩
    rw [efl, W_cat]
    obtain ⟨i, hpos, hi⟩ := posM_end (hitM line 0 hs) fl
    have lraw : (hitM line 0 hs ++ fl).length ≤ 2100 := by rw [List.length_append]; omega
    generalize hitM line 0 hs ++ fl = raw at lraw hpos k
    refine ⟨_, rfl, _, rfl, _, rfl, a, c, fl, ss, p, st, raw, rfl, hR.same s1, hC.same s1, by have := wok.p9; omega, wok.ck.len, by omega, wok.f2, fun j hj => by rw [hpos] at hj; cases hj; omega, fun z H2 nz s2 hz => ?_⟩
    have s12 := s1.trans s2
    refine ⟨z, _, rfl, SqT.of hz, rfl, _, _, rfl, _, _, rfl, rfl, ?_⟩
    unfold wayO at k
    have erc : rcM fl ss p st raw = rdM ss p st (raw.take i) := by unfold rcM; rw [hpos]
    rw [erc]
    rw [hpos] at k
    dsimp only at k
    cases e : takM ss (raw.take i) with
    | none =>
      rw [e] at k
      have er : rdM ss p st (raw.take i) = (("put" : Str), none) := by unfold rdM; rw [e]
      rw [er]
      refine ⟨_, rfl, rfl, _, rfl, ?_⟩
      refine iteBT (by decide +kernel) (iteBT rfl ?_)
      exact k H2 s12
    | some X =>
      rw [e] at k
      dsimp only at k
      cases g : goodM p st X with
      | false =>
        rw [g] at k
        have er : rdM ss p st (raw.take i) = (("check" : Str), none) := by unfold rdM; rw [e]; dsimp only; rw [g]; rfl
        rw [er]
        refine ⟨_, rfl, rfl, _, rfl, ?_⟩
        refine iteBT (by decide +kernel) (iteBT rfl ?_)
        exact k H2 s12
      | true =>
        rw [g, if_pos rfl] at k
        have er : rdM ss p st (raw.take i) = (("good" : Str), some (X.take (X.length - st.length))) := by unfold rdM; rw [e]; dsimp only; rw [g]; rfl
        rw [er]
        have lo : (W (X.take (X.length - st.length))).length ≤ sizeLine := by
          rw [W_len, List.length_take]
          have := takM_le e
          rw [List.length_take] at this
          exact sl_len (by omega)
        refine ⟨_, rfl, rfl, _, rfl, ?_⟩
        refine iteNS rfl ⟨_, rfl, _, rfl, rfl, _, rfl, ?_⟩
        obtain ⟨da, ta, _, _, ha, _⟩ := id (hR.same s12)
        by_cases c1 : X.take (X.length - st.length) = data
        · rw [if_pos c1] at k
          refine iteDT (by rw [c1]; rfl) ?_
          exact k H2 s12
        · rw [if_neg c1] at k
          refine iteDF (fun z => c1 (W_inj (V.str.inj z))) ?_
          obtain ⟨rest, hocc⟩ := occ_some hpos
          refine ⟨_, rfl, ⟨_, rfl⟩, _, rfl, a, C, da, _, _, rfl, ha, RT.cl, RT.nF, ruF_flag _ _, _, _, _, _, rfl, rfl, hocc, ?_⟩
          refine ⟨_, rfl, a, C, da, _, _, rfl, ha, RT.cl, RT.nF, ruF_flag _ _, _, rfl, by rw [W_len]; exact sl_len (by omega), _, _, rfl, rfl, _, rfl, _, rfl, by rw [W_len]; exact sl_len (by omega), _, _, rfl, rfl, _, rfl, ?_⟩
          rw [W_len, W_len]
          by_cases c2 : i + fl.length < raw.length
          · rw [if_pos c2] at k
            refine iteDT (by omega) ?_
            exact k H2 s12
          · rw [if_neg c2] at k
            refine iteDF (by omega) ?_
            refine ⟨_, rfl, _, rfl, lo, _, rfl, _, rfl, by rw [W_len]; exact sl_len (by omega), rfl, _, rfl, ?_⟩
            rw [W_len data]
            by_cases c3 : (X.take (X.length - st.length)).length = data.length
            · rw [if_pos c3] at k
              refine iteDT (by rw [W_len, c3]) ?_
              exact k H2 s12
            · rw [if_neg c3] at k
              refine iteDF (fun z => c3 ?_) ?_
              · have := V.int.inj z
                rw [W_len] at this
                omega
              · exact k H2 s12
end
end U

set_option maxRecDepth 100000
set_option maxHeartbeats 4000000
set_option pp.maxSteps 700
namespace U
open PySem PySem.Spec PyProof.Rows
open L2 hiding Fun CX0 E0 pass0 Fun.binds
open C8 Lx SX StX
/-! how many hits are unseen -/
def inW (hows : List How) : Option How → Bool
  | none => false
  | some h => decide (h ∈ hows)
theorem inW_eq (x : Option How) (o : Option How) : inV (wV o) ((howsL x).map fun h => V.str (howS h)) = inW (howsL x) o := by
  rcases o with _ | o <;> rcases x with _ | x
  · rfl
  · cases x <;> rfl
  · cases o <;> decide +kernel
  · cases x <;> cases o <;> decide +kernel
def prsA (ss : List Stf) (p s : List Bool) (ks : List Kd) (mh : Nat) (d : List Bool) : List (List Bool × List (Nat × Kd)) := (rowsA (lnM ss p s d).length ks mh).map fun r => (d, r)
def isU (f : List Bool) (ss : List Stf) (p s : List Bool) (hows : List How) (y : List Bool × List (Nat × Kd)) : Bool := inW hows (wayO f ss p s y.1 (hitM (lnM ss p s y.1) 0 y.2 ++ f))
def cntN (f : List Bool) (ss : List Stf) (p s : List Bool) (ks : List Kd) (mh : Nat) (hows : List How) (size : Nat) : Nat := ((wdsA size).flatMap (prsA ss p s ks mh)).countP (isU f ss p s hows)
theorem tup_of {K : PySem.W.Frag} {H : Hp} {q : Addr} {xs : List V} {Q : VK} (h : H q = some (.lst xs) ∨ H q = some (.tup xs)) (k : ∀ q' H', Same H H' → SqT K H' q' xs → Q (.ref q') H') :
    ∃ p ys, [V.ref q] = [V.ref p] ∧ ((SqL K H p ys ∧ ∀ l, H l = none → Q (.ref l) (upd H l (.tup ys))) ∨ (SqT K H p ys ∧ Q (.ref p) H)) := by
  rcases h with h | h
  · exact ⟨q, xs, rfl, .inl ⟨SqL.of h, fun l nl => k l _ (same_upd nl) (SqT.of upd_same)⟩⟩
  · exact ⟨q, xs, rfl, .inr ⟨SqT.of h, k q H (Same.refl H) (SqT.of h)⟩⟩
theorem call_tuple_k {X : Cx} : CallR X (.type "tuple") (fun xs H Q => ∃ p ys, xs = [.ref p] ∧ (H p = some (.lst ys) ∨ H p = some (.tup ys)) ∧ ∀ q' H', Same H H' → SqT X.K H' q' ys → Q (.ref q') H') := by
  intro pins s σ H xs us Q I r h
  obtain ⟨p, ys, rfl, h, k⟩ := h
  exact call_tuple_of pins s σ H _ us Q I r (tup_of h k)
theorem rowsA_mem {many : Nat} {ks : List Kd} : ∀ {n : Nat} {hs : List (Nat × Kd)}, hs ∈ rowsA many ks n ↔ hs.length = n ∧ Asc 0 many hs ∧ ∀ x ∈ hs, x.2 ∈ ks
  | 0, hs => by
    constructor
    · intro h
      rw [List.mem_singleton.mp h]
      exact ⟨rfl, trivial, fun _ h => by cases h⟩
    · rintro ⟨h, _⟩
      rw [List.length_eq_zero_iff.mp h]
      exact List.mem_singleton.mpr rfl
  | n + 1, hs => by
    constructor
    · intro h
      obtain ⟨r, hr, h⟩ := List.mem_flatMap.mp h
      obtain ⟨i, hi, h⟩ := List.mem_flatMap.mp h
      obtain ⟨k, hk, rfl⟩ := List.mem_map.mp h
      obtain ⟨g1, g2, g3⟩ := rowsA_mem.mp hr
      obtain ⟨z1, z2⟩ := List.mem_range'_1.mp hi
      have z1 : fstR r ≤ i := z1
      have z2 : i < fstR r + (many - fstR r) := z2
      refine ⟨by rw [List.length_append, g1]; rfl, asc_app1.mpr ⟨g2, Nat.zero_le _, z1, by omega⟩, fun x hx => ?_⟩
      rcases List.mem_append.mp hx with hx | hx
      · exact g3 x hx
      · rw [List.mem_singleton.mp hx]; exact hk
    · rintro ⟨h1, h2, h3⟩
      rcases List.eq_nil_or_concat hs with rfl | ⟨r, ⟨i, k⟩, rfl⟩
      · cases h1
      rw [List.concat_eq_append] at h1 h2 h3 ⊢
      obtain ⟨g1, _, g3, g4⟩ := asc_app1.mp h2
      have g3 : fstA r ≤ i := g3
      refine List.mem_flatMap.mpr ⟨r, rowsA_mem.mpr ⟨by rw [List.length_append] at h1; exact Nat.succ.inj h1, g1, fun x hx => h3 x (List.mem_append_left _ hx)⟩, ?_⟩
      exact List.mem_flatMap.mpr ⟨i, List.mem_range'_1.mpr ⟨g3, by omega⟩, List.mem_map.mpr ⟨k, h3 _ (List.mem_append_right _ (List.mem_singleton.mpr rfl)), rfl⟩⟩
theorem lnM_len {ss : List Stf} {p s : List Bool} (o : OkN 39 ss) (hl : s.length + 1 = p.length) (d : List Bool) : (lnM ss p s d).length ≤ 40 * (d.length + s.length) := by
  obtain ⟨g, g0, g1, g2⟩ := body_steps o (d ++ bitsM p s d)
  obtain ⟨h1, h2⟩ := g2 _ (Nat.le_refl _)
  rw [List.take_length] at h1
  have e := h1.isF o
  unfold lnM
  rw [← e]
  rw [List.length_append, bitsM_len hl] at h2 ⊢
  exact h2
def spCountU (CR CK : Addr) : Sp := fun vs H Q _ => ∃ (r c : Addr) (kv : V) (f : List Bool) (ss : List Stf) (p s : List Bool) (ks : List Kd) (size mh : Nat) (x : Option How), vs = [.ref r, .ref c, kv, .int (size : Nat), .int (mh : Nat), .str (hAS x)] ∧ RuAt CR H r f ss ∧ CkAt CK H c p s ∧ KvAt H kv ks ∧ WyOk f ss p s ∧ ks.length ≤ 3 ∧ mh ≤ 2 ∧ size + s.length ≤ 12 ∧ size ≤ 9 ∧
  ∀ H', Same H H' → Q (.int (cntN f ss p s ks mh (howsL x) size : Nat)) H'
section
variable {P : Program} {w : World} {K : PySem.W.Frag} {mg : Str → Option Value} {base : Heap}
theorem sc_count_unseen : FnScope ["rule", "check", "kinds", "size", "hits", "how", "found", "data", "line", "some"] ["rule", "check", "kinds", "size", "hits", "how"] (fnScope s_count_unseen) := fnScope_by (by decide +kernel)
theorem cal_count_unseen {f CR CK : Addr} {fd : FuncData} (F : Def K mg "count_unseen" s_count_unseen f fd) (b : Binds K fd ["rule", "check", "kinds", "size", "hits", "how"] []) (T : Tx mg) (c_all_words : Cal P w K mg base 1 "all_words" spAllWords []) (c_all_hits : Cal P w K mg base 1 "all_hits" (spAllHits K) []) (c_body : Cal P w K mg base 4 "body" (spBody CR) []) (c_bits_for : Met P w K mg base 3 CK "bits_for" (spBitsFor CK) []) (c_way_of : Cal P w K mg base 6 "way_of" (spWayOf CR CK) []) (c_ways_of : Cal P w K mg base 1 "ways_of" (spWaysOf K) []) :
    Cal P w K mg base 7 "count_unseen" (spCountU CR CK) [] := by
  refine cal0 F b .nil sc_count_unseen (fun vs H Q E h => ?_) (fun cdv A outer s H vs Q E hr h => ?_)
  · obtain ⟨_, _, _, _, _, _, _, _, _, _, _, rfl, _⟩ := h; rfl
  · obtain ⟨r, c, kv, fl, ss, p, st, ks, size, mh, x, rfl, hR, hC, hK, wok, k3, m2, l12, s9, k⟩ := h
    refine ⟨_, (pss_cons (ps_set (i := 6) sc_count_unseen.nd rfl (.inl rfl) pe_int)
    (pss_cons (ps_for PassesOwn.never rfl (pi_list (pe_c c_all_words hr (by decide) rfl (pa_cons (pv 3) pa_nil))) (pg_name (i := 7) sc_count_unseen.nd rfl (.inl rfl))
    (pss_cons (ps_set (i := 8) sc_count_unseen.nd rfl (.inl rfl) (pe_c c_body hr (by decide) rfl (pa_cons (pv 0) (pa_cons (pe_joined (.cons (pe_fmt (pv 7)) (.cons (pe_fmt (pe_mt (pl := _) c_bits_for hr (by decide) (pv 1) (pa_cons (pv 7) pa_nil))) .nil))) pa_nil))))
    (pss_one (ps_for PassesOwn.never rfl (pi_list (pe_c c_all_hits hr (by decide) rfl (pa_cons (pe_callB call_len_str (by rfl) T.b_len (by decide +kernel) (pa_cons (pv 8) pa_nil)) (pa_cons (pe_callTy call_tuple_k (by rfl) T.b_tuple (by decide +kernel) (pa_cons (pv 2) pa_nil)) (pa_cons (pv 4) pa_nil))))) (pg_name (i := 9) sc_count_unseen.nd rfl (.inl rfl))
    (pss_one (ps_aug (i := 6) sc_count_unseen.nd rfl (.inl rfl) (pe_callTy call_int1 (by rfl) T.b_int (by decide +kernel) (pa_cons (pe_cmpR op_in_seq (pe_c c_way_of hr (by decide) rfl (pa_cons (pv 0) (pa_cons (pv 1) (pa_cons (pv 7) (pa_cons (pv 8) (pa_cons (pv 9) pa_nil)))))) (pe_c c_ways_of hr (by decide) rfl (pa_cons (pv 5) pa_nil)) (by with_unfolding_all rfl)) pa_nil)) ip_add))))))
    (pss_one (ps_ret (pv 6))))), ?_⟩
    have h0 : putM ss [] = none := put_nil fun s hs => wok.st.pos s hs
    have hlen := wok.ck.len
    refine ⟨_, rfl, size, rfl, s9, fun l H1 s1 nl hl => ⟨_, rfl, ⟨_, SqL.of hl⟩, for_it (walk_list (K := K) (a := l) (xs := wdW (wdsA size))) (fun i σ H2 => ∃ (n : Nat) (v7 v8 v9 : Option V), σ = [some (.ref r), some (.ref c), some kv, some (.int (size : Nat)), some (.int (mh : Nat)), some (.str (hAS x)), some (.int (n : Nat)), v7, v8, v9] ∧ Same H1 H2 ∧ n = (((wdsA size).take i).flatMap (prsA ss p st ks mh)).countP (isU fl ss p st (howsL x)))
      ⟨0, _, _, _, rfl, Same.refl _, rfl⟩ (fun i σ H2 _ ⟨_, _, _, _, _, h, _⟩ => SqL.of (h _ _ hl)) ?_ ?_⟩⟩
    · rintro i y σ H2' H2 hi ⟨n, v7, v8, v9, rfl, s2, hn⟩ ⟨rfl, hy⟩
      obtain ⟨d, hd, rfl⟩ := wdW_get hy
      have ld : d.length = size := wdsA_size (List.mem_of_getElem? hd)
      have s12 := s1.trans s2
      have lb : (bitsM p st d).length = st.length := bitsM_len hlen d
      have lp := wok.p9
      obtain ⟨dc, hc⟩ := id (hC.same s12)
      have ed : Str.empty ++ W d = W d := eWn _
      refine ⟨_, rfl, _, rfl, .inl ⟨_, rfl, by rw [W_len]; exact sl_len (by omega), _, rfl, by rw [ed, W_len]; exact sl_len (by omega), _, rfl, c, dc, _, rfl, hc, ckF_no _ _ (by decide +kernel) (by decide +kernel), _, rfl, c, p, st, d, rfl, hC.same s12, by omega, by omega, hlen, fun H3 s3 => .inl ⟨_, rfl, by rw [W_len]; exact sl_len (by omega), _, rfl, by rw [ed, W_cat, W_len, List.length_append]; exact sl_len (by omega), ?_⟩⟩⟩
      rw [ed, W_cat]
      have s13 := s12.trans s3
      refine ⟨r, fl, ss, d ++ bitsM p st d, rfl, hR.same s13, by rw [List.length_append, lb]; omega, wok.oN, fun ln H4 hB ll s4 => ?_⟩
      have eln : ln = lnM ss p st d := hB.isF wok.oN
      subst eln
      have lln : (lnM ss p st d).length ≤ 480 := by rw [List.length_append, lb] at ll; omega
      have s14 := s13.trans s4
      have s24 := (s2.trans s3).trans s4
      obtain ⟨q, rfl, hq⟩ := hK.same s14
      refine ⟨_, rfl, _, rfl, by rw [W_len]; exact sl_len (by omega), _, rfl, q, _, rfl, hq, fun q' H5 s5 hq5 => ?_⟩
      refine ⟨_, rfl, q', (lnM ss p st d).length, mh, ks, by rw [W_len]; rfl, hq5, by omega, k3, m2, fun _ => by omega, fun a ps H6 na s6 ha hps => ?_⟩
      have s16 := (s14.trans s5).trans s6
      have s26 := (s24.trans s5).trans s6
      refine ⟨_, rfl, ⟨_, SqL.of ha⟩, for_it (walk_list (K := K) (a := a) (xs := ps.map V.ref)) (fun j σ H7 => ∃ (n : Nat) (v9 : Option V), σ = [some (.ref r), some (.ref c), some (.ref q), some (.int (size : Nat)), some (.int (mh : Nat)), some (.str (hAS x)), some (.int (n : Nat)), some (.str (W d)), some (.str (W (lnM ss p st d))), v9] ∧ Same H6 H7 ∧ n = (((wdsA size).take i).flatMap (prsA ss p st ks mh) ++ (prsA ss p st ks mh d).take j).countP (isU fl ss p st (howsL x)))
        ⟨n, _, rfl, Same.refl _, by rw [List.take_zero, List.append_nil]; exact hn⟩ (fun j σ H7 _ ⟨_, _, _, h, _⟩ => SqL.of (h _ _ ha)) ?_ ?_⟩
      · rintro j y σ H7' H7 hj ⟨n, v9, rfl, s7, hn7⟩ ⟨rfl, hy⟩
        rw [List.getElem?_map] at hy
        obtain ⟨rp, hrp, rfl⟩ := Option.map_eq_some_iff.mp hy
        obtain ⟨row, hr, hrow⟩ := pdGet (rowsT_same hps s7) hrp
        obtain ⟨g1, g2, g3⟩ := rowsA_mem.mp (List.mem_of_getElem? hr)
        have s17 := s16.trans s7
        refine ⟨_, rfl, _, rfl, _, rfl, _, rfl, _, rfl, _, rfl, r, c, rp, fl, ss, p, st, d, lnM ss p st d, row, rfl, hR.same s17, hC.same s17, wok, by omega, by omega, hrow, g2, fun H8 s8 => ?_⟩
        refine ⟨_, rfl, x, rfl, fun tw H9 s9 hw => ⟨tw, _, rfl, .inr (hw H9 (Same.refl _)), by cases wayO fl ss p st d (hitM (lnM ss p st d) 0 row ++ fl) <;> rfl, by rw [List.all_map, List.all_eq_true]; intro _ _; rfl, ?_⟩⟩
        have ev := inW_eq x (wayO fl ss p st d (hitM (lnM ss p st d) 0 row ++ fl))
        refine .inr ⟨_, rfl, _, _, rfl, rfl, ?_⟩
        have er : (prsA ss p st ks mh d).take (j + 1) = (prsA ss p st ks mh d).take j ++ [(d, row)] := by
          rw [List.take_add_one]
          unfold prsA
          rw [List.getElem?_map, hr]
          rfl
        have eb : isU fl ss p st (howsL x) (d, row) = inW (howsL x) (wayO fl ss p st d (hitM (lnM ss p st d) 0 row ++ fl)) := rfl
        rw [if_neg Bool.false_ne_true, ev, ← eb, er, ← List.append_assoc, List.countP_append, ← hn7, List.countP_singleton]
        refine ⟨_, some (.ref rp), ?_, (s7.trans s8).trans s9, rfl⟩
        cases isU fl ss p st (howsL x) (d, row) <;> rfl
      · rintro σ H7 ⟨n, v9, rfl, s7, hn7⟩
        refine ⟨n, _, _, _, rfl, s26.trans s7, ?_⟩
        rw [hn7, List.take_add_one, hd, List.flatMap_append]
        rw [List.take_of_length_le (l := prsA ss p st ks mh d) (by unfold prsA; rw [List.length_map, List.length_map, pdLen hps]; exact Nat.le_refl _)]
        congr 1
        show _ = _ ++ (_ ++ [])
        rw [List.append_nil]
    · rintro σ H2 ⟨n, v7, v8, v9, rfl, s2, hn⟩
      unfold wdW at hn
      rw [List.length_map, List.take_length] at hn
      subst hn
      exact ⟨_, rfl, k H2 (s1.trans s2)⟩
end
end U

set_option maxRecDepth 100000
set_option maxHeartbeats 4000000
set_option pp.maxSteps 500
namespace U
open PySem PySem.Spec PyProof.Rows
open L2 hiding Fun CX0 E0 pass0 Fun.binds
open C8 Lx SX StX
/-! unseen hits counted by the law -/
section
variable (f : List Bool) (ss : List Stf) (p s : List Bool) (ks : List Kd) (mh : Nat)
def wyC (x : List Bool × List (Nat × Kd)) : Option How := wayO f ss p s x.1 (hitM (lnM ss p s x.1) 0 x.2 ++ f)
def prsC (d : List Bool) : List (List Bool × List (Nat × Kd)) := (rowsM (lnM ss p s d).length ks mh).map fun r => (d, r)
/-- how many of these pairs are unseen so -/
def cntO (ps : List (List Bool × List (Nat × Kd))) (o : Option How) : Nat := ps.countP fun x => decide (wyC f ss p s x = o)
end
def kdC (g : Option How → Nat) : List (Key × V) := [(.inr "same", .int (g (some .same))), (.inr "shift", .int (g (some .shift))), (.inr "cut", .int (g (some .cut))), (.inr "", .int (g none))]
def bump (g : Option How → Nat) (o : Option How) : Option How → Nat := fun x => if x = o then g x + 1 else g x
theorem kdC_get (g : Option How → Nat) (o : Option How) : valV (kdC g) (.inr (wS o)) = some (.int (g o)) := by
  rcases o with _ | o
  · rfl
  · cases o <;> rfl
theorem kdC_put (g : Option How → Nat) (o : Option How) : putK (kdC g) (.inr (wS o)) (.int ((g o : Nat) + 1)) = kdC (bump g o) := by
  rcases o with _ | o
  · rfl
  · cases o <;> rfl
theorem cnt_bump (f : List Bool) (ss : List Stf) (p s : List Bool) (ps : List (List Bool × List (Nat × Kd))) (x : List Bool × List (Nat × Kd)) : cntO f ss p s (ps ++ [x]) = bump (cntO f ss p s ps) (wyC f ss p s x) := by
  funext o
  unfold cntO bump
  rw [List.countP_append, List.countP_cons, List.countP_nil]
  by_cases h : wyC f ss p s x = o
  · subst h
    rw [if_pos rfl, if_pos (decide_eq_true rfl)]
  · rw [if_neg (fun z => h (of_decide_eq_true z)), if_neg (fun (z : o = wyC f ss p s x) => h z.symm)]
    rfl
theorem RowX.updC {H : Hp} {p D : Addr} {hs : List (Nat × Kd)} {kvs : List (Key × V)} {o : HO} (h : RowX H p hs) (hD : H D = some (.dK kvs)) : RowX (L2.upd H D o) p hs := by
  obtain ⟨qs, ⟨o', h1, h3⟩, h2⟩ := h
  refine ⟨qs, ⟨o', ?_, h3⟩, Paired.mapP h2 fun t x z => ?_⟩
  · rw [upd_ne (ne_of h1 hD (by intro z; cases z))]
    exact h1
  · have z : H t = _ := z
    show L2.upd H D o t = _
    rw [upd_ne (ne_of z hD (by intro z; cases z))]
    exact z
def spTCounts : Sp := fun vs H Q _ => ∃ (t c q : Addr) (f : List Bool) (ss : List Stf) (p s : List Bool) (n mh : Nat) (ks : List Kd), vs = [.ref t, .ref c, .ref q, .int (n : Nat), .int (mh : Nat)] ∧ Told H t f ss ∧ H c = some (.tup [.str (W p), .str (W s)]) ∧ CkOk p s ∧ s.length ≤ 4 ∧ n ≤ 6 ∧ mh ≤ 2 ∧ ks.length ≤ 3 ∧ StL ss ∧ OkS ss ∧ f.length ≤ 100 ∧
  H q = some (.lst (ks.map fun k => .str (kS k))) ∧ ∀ (a : Addr) H', H a = none → Same H H' → H' a = some (.dK (kdC (cntO f ss p s ((wdsP n).flatMap (prsC ss p s ks mh))))) → Q (.ref a) H'
section
variable {P : Program} {w : World} {K : PySem.W.Frag} {mg : Str → Option Value} {base : Heap}
theorem sc_l_counts : FnScope ["_law_rule_here", "_law_check_here", "_law_kinds_here", "_law_size", "_law_many", "_law_found", "_law_data", "_law_long", "_law_row", "_law_way_here"] ["_law_rule_here", "_law_check_here", "_law_kinds_here", "_law_size", "_law_many"] (fnScope s_l_counts) := fnScope_by (by decide +kernel)
theorem cal_l_counts {f : Addr} {fd : FuncData} (F : Def K mg "_law_counts" s_l_counts f fd) (b : Binds K fd ["_law_rule_here", "_law_check_here", "_law_kinds_here", "_law_size", "_law_many"] []) (T : Tx mg) (c_l_words : Cal P w K mg base 1 "_law_words" spWordsP []) (c_l_body : Cal P w K mg base 2 "_law_body" spLBody []) (c_l_bits_for : Cal P w K mg base 2 "_law_bits_for" spTBits []) (c_l_hit_rows : Cal P w K mg base 1 "_law_hit_rows" spTRows []) (c_l_way : Cal P w K mg base 4 "_law_way" spTWay []) : Cal P w K mg base 5 "_law_counts" spTCounts [] := by
  refine cal0 F b .nil sc_l_counts (fun vs H Q E h => ?_) (fun cdv A outer s H vs Q E hr h => ?_)
  · obtain ⟨_, _, _, _, _, _, _, _, _, _, rfl, _⟩ := h; rfl
  · obtain ⟨t, tc, q, fl, ss, p, st, n, mh, ks, rfl, told, hc, ok, l4, hn, hmh, hks, stl, oS, lf, hq, k⟩ := h
    refine ⟨_, (pss_cons (ps_set (i := 5) sc_l_counts.nd rfl (.inl rfl) (pe_disp (pps_cons pe_str pe_int (pps_cons pe_str pe_int (pps_cons pe_str pe_int (pps_cons pe_str pe_int pps_nil)))) (by rfl) (by rfl) (fun z => by cases z) (by decide)))
    (pss_cons (ps_for PassesOwn.never rfl (pi_list (pe_c c_l_words hr (by decide) rfl (pa_cons (pv 3) pa_nil))) (pg_name (i := 6) sc_l_counts.nd rfl (.inl rfl))
    (pss_cons (ps_set (i := 7) sc_l_counts.nd rfl (.inl rfl) (pe_callB call_len_str (by rfl) T.b_len (by decide +kernel) (pa_cons (pe_c c_l_body hr (by decide) rfl (pa_cons (pv 0) (pa_cons (pe_op op_add_str (pv 6) (pe_c c_l_bits_for hr (by decide) rfl (pa_cons (pv 1) (pa_cons (pv 6) pa_nil)))) pa_nil))) pa_nil)))
    (pss_one (ps_for PassesOwn.never rfl (pi_list (pe_c c_l_hit_rows hr (by decide) rfl (pa_cons (pv 7) (pa_cons (pv 2) (pa_cons (pv 4) pa_nil))))) (pg_name (i := 8) sc_l_counts.nd rfl (.inl rfl))
    (pss_cons (ps_set (i := 9) sc_l_counts.nd rfl (.inl rfl) (pe_c c_l_way hr (by decide) rfl (pa_cons (pv 0) (pa_cons (pv 1) (pa_cons (pv 6) (pa_cons (pv 8) pa_nil))))))
    (pss_one (ps_dput (hu_of hr) (pv 5) (pv 9) (pe_op op_add (pe_dget (hu_of hr) (pv 5) (pv 9) (fun _ _ => rfl)) pe_int) rfl)))))))
    (pss_one (ps_ret (pv 5))))), ?_⟩
    have hlen := ok.len
    intro D nD
    refine ⟨upd_same, kdC fun _ => 0, rfl, by decide, ?_⟩
    have hD0 : upd (upd H D (.dK [])) D (.dK (mergeK [] (kdC fun _ => 0))) D = some (.dK (kdC (cntO fl ss p st []))) := upd_same
    have s0 : Same H (upd (upd H D (.dK [])) D (.dK (mergeK [] (kdC fun _ => 0)))) := same_mut' (same_upd nD) nD
    generalize upd (upd H D (.dK [])) D (.dK (mergeK [] (kdC fun _ => 0))) = H0 at s0 hD0
    refine ⟨_, rfl, n, rfl, by omega, fun l H1 nl s1 hl => ?_⟩
    refine ⟨_, rfl, ⟨_, SqL.of hl⟩, for_it (walk_list (K := K) (a := l) (xs := wdsV (wdsP n))) (fun i σ H2 => ∃ (v6 v7 v8 v9 : Option V), σ = [some (.ref t), some (.ref tc), some (.ref q), some (.int (n : Nat)), some (.int (mh : Nat)), some (.ref D), v6, v7, v8, v9] ∧ Same H H2 ∧ H2 l = some (.lst (wdsV (wdsP n))) ∧ H2 D = some (.dK (kdC (cntO fl ss p st (((wdsP n).take i).flatMap (prsC ss p st ks mh))))))
      ⟨_, _, _, _, rfl, s0.trans s1, hl, s1 _ _ hD0⟩ (fun i σ H2 _ ⟨_, _, _, _, _, _, h, _⟩ => SqL.of h) ?_ ?_⟩
    · rintro i y σ H2' H2 hi ⟨v6, v7, v8, v9, rfl, s2, hl2, hD2⟩ ⟨rfl, hy⟩
      obtain ⟨d, hd, rfl⟩ := wdsV_get hy
      have ld : d.length = n := wdsP_size (List.mem_of_getElem? hd)
      have lb : (bitsM p st d).length = st.length := bitsM_len hlen d
      refine ⟨_, rfl, _, rfl, _, rfl, _, rfl, tc, p, st, d, rfl, s2 _ _ hc, ok, by omega, by omega, fun H3 s3 => ?_⟩
      refine ⟨_, _, rfl, rfl, by rw [W_len, W_len, lb]; exact sl_len (by omega), ?_⟩
      rw [W_cat]
      refine ⟨t, fl, d ++ bitsM p st d, ss, rfl, told.same (s2.trans s3), by rw [List.length_append, lb]; omega, stl.sn, stl.sl, oS, fun ln H4 hB ll s4 => ?_⟩
      have eln : ln = lnM ss p st d := hB.isF (oS.mono (by decide))
      subst eln
      have llen : (lnM ss p st d).length ≤ 200 := by rw [List.length_append, lb] at ll; omega
      have s24 := s3.trans s4
      have s04 := s2.trans s24
      refine ⟨_, rfl, by rw [W_len]; exact sl_len (by omega), ?_⟩
      rw [W_len]
      have hl4 : H4 l = some (.lst (wdsV (wdsP n))) := s24 _ _ hl2
      have hD4 := s24 _ _ hD2
      have hc4 := s04 _ _ hc
      refine ⟨_, rfl, _, rfl, _, rfl, q, (lnM ss p st d).length, mh, ks, rfl, s04 _ _ hq, by omega, hks, by omega, fun a ps H6 na s6 ha hps => ?_⟩
      have s56 := s04.trans s6
      refine ⟨_, rfl, ⟨_, SqL.of ha⟩, for_it (walk_list (K := K) (a := a) (xs := ps.map V.ref)) (fun j σ H7 => ∃ (v8 v9 : Option V), σ = [some (.ref t), some (.ref tc), some (.ref q), some (.int (n : Nat)), some (.int (mh : Nat)), some (.ref D), some (.str (W d)), some (.int ((lnM ss p st d).length : Nat)), v8, v9] ∧ Same H H7 ∧ H7 l = some (.lst (wdsV (wdsP n))) ∧ H7 a = some (.lst (ps.map V.ref)) ∧ Paired (RowX H7) ps (rowsM (lnM ss p st d).length ks mh) ∧ H7 D = some (.dK (kdC (cntO fl ss p st (((wdsP n).take i).flatMap (prsC ss p st ks mh) ++ (prsC ss p st ks mh d).take j)))))
        ⟨_, _, rfl, s56, s6 _ _ hl4, ha, hps, by rw [List.take_zero, List.append_nil]; exact s6 _ _ hD4⟩ (fun j σ H7 _ ⟨_, _, _, _, _, h, _⟩ => SqL.of h) ?_ ?_⟩
      · rintro j y σ H7' H7 hj ⟨v8, v9, rfl, s7, hl7, ha7, hps7, hD7⟩ ⟨rfl, hy⟩
        rw [List.getElem?_map] at hy
        obtain ⟨rp, hrp, rfl⟩ := Option.map_eq_some_iff.mp hy
        obtain ⟨r, hr, hrow⟩ := prGet hps7 hrp
        obtain ⟨g1, g2, g3⟩ := rowsM_mem.mp (List.mem_of_getElem? hr)
        refine ⟨_, rfl, _, rfl, _, rfl, _, rfl, t, tc, rp, fl, ss, p, st, d, r, rfl, told.same s7, s7 _ _ hc, ok, by omega, by omega, stl, oS, lf, hrow, g2, fun H8 s8 => ?_⟩
        have hD8 := s8 _ _ hD7
        generalize eg : cntO fl ss p st (((wdsP n).take i).flatMap (prsC ss p st ks mh) ++ (prsC ss p st ks mh d).take j) = g at hD7 hD8
        have hv : DGet H8 D (.str (wS (wyC fl ss p st (d, r)))) (some (.int (g (wyC fl ss p st (d, r)) : Nat))) := by
          have := DGet.k (H := H8) (a := D) (kvs := kdC g) (k := Sum.inr (wS (wyC fl ss p st (d, r)))) hD8
          rw [kdC_get] at this
          exact this
        refine ⟨_, rfl, _, rfl, D, _, rfl, hv, _, _, rfl, rfl, ?_⟩
        refine ⟨_, rfl, _, rfl, D, _, rfl, DPut.k (k := .inr (wS (wyC fl ss p st (d, r)))) hD8 (by show 4 < sizeLine; decide), ?_⟩
        rw [kdC_put]
        have er : (prsC ss p st ks mh d).take (j + 1) = (prsC ss p st ks mh d).take j ++ [(d, r)] := by
          rw [List.take_add_one]
          unfold prsC
          rw [List.getElem?_map, hr]
          rfl
        refine ⟨_, _, rfl, same_mut' (s7.trans s8) nD, ?_, ?_, ?_, ?_⟩
        · rw [upd_ne (ne_of (s8 _ _ hl7) hD8 (by intro z; cases z))]; exact s8 _ _ hl7
        · rw [upd_ne (ne_of (s8 _ _ ha7) hD8 (by intro z; cases z))]; exact s8 _ _ ha7
        · exact Paired.mapP (rows_same hps7 s8) fun _ _ z => z.updC hD8
        · rw [er, ← List.append_assoc, cnt_bump, eg]
          exact upd_same
      · rintro σ H7 ⟨v8, v9, rfl, s7, hl7, ha7, hps7, hD7⟩
        refine ⟨_, _, _, _, rfl, s7, hl7, ?_⟩
        rw [List.take_of_length_le (l := prsC ss p st ks mh d) (by unfold prsC; rw [List.length_map, List.length_map, prLen hps7]; exact Nat.le_refl _)] at hD7
        rw [List.take_add_one, hd, List.flatMap_append]
        show H7 D = some (HO.dK (kdC (cntO fl ss p st (_ ++ ((prsC ss p st ks mh d) ++ [])))))
        rw [List.append_nil]
        exact hD7
    · rintro σ H2 ⟨v6, v7, v8, v9, rfl, s2, hl2, hD2⟩
      rw [wdsV_len, List.take_length] at hD2
      exact ⟨_, rfl, k D H2 nD s2 hD2⟩
end
end U

set_option maxRecDepth 100000
set_option maxHeartbeats 4000000
namespace U
/-! both orders of counting give one number -/
theorem wdsA_succ : ∀ n, wdsA (n + 1) = (wdsA n).map (false :: ·) ++ (wdsA n).map (true :: ·)
  | 0 => rfl
  | n + 1 => by
    have ih := wdsA_succ n
    show (wdsA (n + 1)).flatMap (fun w => [w ++ [false], w ++ [true]]) = _
    rw [ih, List.flatMap_append, List.flatMap_map, List.flatMap_map]
    have e : ∀ b : Bool, ((wdsA n).flatMap fun w => [b :: w ++ [false], b :: w ++ [true]]) = (wdsA (n + 1)).map (b :: ·) := fun b => by
      show _ = ((wdsA n).flatMap fun w => [w ++ [false], w ++ [true]]).map (b :: ·)
      rw [List.map_flatMap]
      rfl
    rw [← ih]
    exact congr (congrArg _ (e false)) (e true)
theorem wdsA_P : ∀ n, wdsA n = wdsP n
  | 0 => rfl
  | n + 1 => by
    rw [wdsA_succ, wdsA_P n]
    rfl
theorem flat_cons {α β : Type} (g : α → β) (h : α → List β) : ∀ l : List α, (l.flatMap fun a => g a :: h a).Perm (l.map g ++ l.flatMap h)
  | [] => .nil
  | a :: l => by
    show (g a :: (h a ++ l.flatMap fun a => g a :: h a)).Perm (g a :: (l.map g ++ (h a ++ l.flatMap h)))
    refine List.Perm.cons _ ?_
    have := (List.Perm.append_left (h a) (flat_cons g h l))
    refine this.trans ?_
    rw [← List.append_assoc, ← List.append_assoc]
    exact List.Perm.append_right _ List.perm_append_comm
theorem flat_swap {α β γ : Type} (g : α → γ → β) (l : List α) : ∀ ks : List γ, (l.flatMap fun a => ks.map (g a)).Perm (ks.flatMap fun k => l.map fun a => g a k)
  | [] => by
    show (l.flatMap fun a => []).Perm []
    rw [List.flatMap_eq_nil_iff.mpr fun _ _ => rfl]
  | k :: ks => (flat_cons (fun a => g a k) (fun a => ks.map (g a)) l).trans (List.Perm.append_left _ (flat_swap g l ks))
theorem flat_perm {α β : Type} {g h : α → List β} : ∀ {l : List α}, (∀ a, (g a).Perm (h a)) → (l.flatMap g).Perm (l.flatMap h)
  | [], _ => .nil
  | a :: l, k => (k a).append (flat_perm k)
theorem flat_permL {α β : Type} {g : α → List β} {l m : List α} (h : l.Perm m) : (l.flatMap g).Perm (m.flatMap g) := by
  induction h with
  | nil => exact .nil
  | cons a _ ih => exact List.Perm.append_left (g a) ih
  | swap a b l =>
    show (g b ++ (g a ++ l.flatMap g)).Perm (g a ++ (g b ++ l.flatMap g))
    rw [← List.append_assoc, ← List.append_assoc]
    exact List.Perm.append_right _ List.perm_append_comm
  | trans _ _ h1 h2 => exact h1.trans h2
theorem rowsA_perm (many : Nat) (ks : List Kd) : ∀ n, (rowsA many ks n).Perm (rowsM many ks n)
  | 0 => .refl _
  | n + 1 => (flat_permL (rowsA_perm many ks n)).trans (flat_perm fun r => flat_swap (fun i k => r ++ [(i, k)]) _ ks)
theorem cnt_all (f : List Bool) (ss : List Stf) (p s : List Bool) (ks : List Kd) (mh size : Nat) (hows : List How) : cntN f ss p s ks mh hows size = ((wdsP size).flatMap (prsC ss p s ks mh)).countP (isU f ss p s hows) := by
  unfold cntN
  rw [wdsA_P]
  exact List.Perm.countP_eq _ (flat_perm fun d => (rowsA_perm _ _ _).map _)
theorem cnt_one (f : List Bool) (ss : List Stf) (p s : List Bool) (ks : List Kd) (mh size : Nat) (how : How) : cntN f ss p s ks mh (howsL (some how)) size = cntO f ss p s ((wdsP size).flatMap (prsC ss p s ks mh)) (some how) := by
  rw [cnt_all]
  unfold cntO
  refine List.countP_congr fun x _ => ?_
  unfold isU wyC inW
  cases wayO f ss p s x.1 (hitM (lnM ss p s x.1) 0 x.2 ++ f) with
  | none => exact ⟨fun h => (by cases h), fun h => (by have := of_decide_eq_true h; cases this)⟩
  | some h =>
    show decide (h ∈ [how]) = true ↔ decide (some h = some how) = true
    rw [decide_eq_true_iff, decide_eq_true_iff, List.mem_singleton]
    exact ⟨fun e => by rw [e], fun e => Option.some.inj e⟩
theorem cnt_any (f : List Bool) (ss : List Stf) (p s : List Bool) (ks : List Kd) (mh size : Nat) : cntN f ss p s ks mh (howsL none) size = cntO f ss p s ((wdsP size).flatMap (prsC ss p s ks mh)) (some .same) + cntO f ss p s ((wdsP size).flatMap (prsC ss p s ks mh)) (some .shift) + cntO f ss p s ((wdsP size).flatMap (prsC ss p s ks mh)) (some .cut) := by
  rw [cnt_all]
  generalize (wdsP size).flatMap (prsC ss p s ks mh) = ps
  unfold cntO
  induction ps with
  | nil => rfl
  | cons x r ih =>
    rw [List.countP_cons, List.countP_cons, List.countP_cons, List.countP_cons, ih]
    have e : isU f ss p s (howsL none) x = inW (howsL none) (wyC f ss p s x) := rfl
    rw [e]
    rcases wyC f ss p s x with _ | h
    · rfl
    · cases h
      · show _ + 1 = _ + 0 + (_ + 0) + (_ + 1); omega
      · show _ + 1 = _ + 1 + (_ + 0) + (_ + 0); omega
      · show _ + 1 = _ + 0 + (_ + 1) + (_ + 0); omega
end U

set_option maxRecDepth 100000
set_option maxHeartbeats 4000000
set_option pp.maxSteps 500
namespace U
open PySem PySem.Spec PyProof.Rows
open L2 hiding Fun CX0 E0 pass0 Fun.binds
open C8 Lx SX StX
/-! kinds chosen by the law -/
theorem str3_how {v : V} (h : v ∈ [V.str "same", V.str "shift", V.str "cut"]) : ∃ how, v = .str (howS how) := by
  rcases List.mem_cons.mp h with rfl | h
  · exact ⟨.same, rfl⟩
  · rcases List.mem_cons.mp h with rfl | h
    · exact ⟨.shift, rfl⟩
    · exact ⟨.cut, by rw [List.mem_singleton.mp h]; rfl⟩
theorem mk_dfl {K : PySem.W.Frag} {C dE : Addr} {H : Hp} {z : Str} {f : List Bool} {R : Addr → Hp → Prop} {E : XK} (hz : z = W f) (hE : ∀ H, SqT K H dE []) (h2 : 2 ≤ f.length) (h3 : f.length ≤ 1000)
    (k : ∀ x H', Same H H' → RuAt C H' x f [] → R x H') :
    ∀ x dx, H x = none → H dx = none → dx ≠ x → spRuInit K C [.ref x, .str z, .ref dE] (upd (upd H dx (.own x)) x (.ins C dx [])) (fun v H2 => v = .non ∧ R x H2) E := by
  subst hz
  intro x dx nx ndx nex
  refine ⟨x, dx, dE, f, [], fun _ => ([], false), rfl, upd_same, .inr (hE _), (fun _ h => nomatch h), ⟨Nat.zero_le _, (fun _ h => nomatch h), Nat.zero_le _, .nil⟩, okR_nil, h2, h3, fun H' ss' keep pm srt hR => ⟨rfl, ?_⟩⟩
  have es : ss' = [] := List.Perm.eq_nil pm
  subst es
  exact k x H' (Same.made nx ndx keep) hR
def spTKinds : Sp := fun vs H Q _ => ∃ b : Addr, vs = [.ref b] ∧ Box H b ∧ ∀ (q : Addr) (ks : List Kd) H', Up b H H' → q ≠ b → H' q = some (.lst (ks.map fun k => .str (kS k))) → ks ≠ [] → ks.length ≤ 3 → Q (.ref q) H'
section
variable {P : Program} {w : World} {K : PySem.W.Frag} {mg : Str → Option Value} {base : Heap}
theorem sc_l_kinds : FnScope ["_law_box"] ["_law_box"] (fnScope s_l_kinds) := fnScope_by (by decide +kernel)
theorem cal_l_kinds {f : Addr} {fd : FuncData} (F : Def K mg "_law_kinds" s_l_kinds f fd) (b : Binds K fd ["_law_box"] []) (T : Tx mg) (c_l_one_of : Cal P w K mg base 2 "_law_one_of" spOneOf []) : Cal P w K mg base 3 "_law_kinds" spTKinds [] := by
  refine cal0 F b .nil sc_l_kinds (fun vs H Q E h => ?_) (fun cdv A outer s H vs Q E hr h => ?_)
  · obtain ⟨_, rfl, _⟩ := h; rfl
  · obtain ⟨bx, rfl, hb, k⟩ := h
    refine ⟨_, (pss_one (ps_ret (pe_c c_l_one_of hr (by decide) rfl (pa_cons (pv 0) (pa_cons (pe_lst (pa_cons (pe_lst (pa_cons pe_str pa_nil)) (pa_cons (pe_lst (pa_cons pe_str pa_nil)) (pa_cons (pe_lst (pa_cons pe_str pa_nil)) (pa_cons (pe_lst (pa_cons pe_str pa_nil)) (pa_cons (pe_lst (pa_cons pe_str (pa_cons pe_str pa_nil))) (pa_cons (pe_lst (pa_cons pe_str (pa_cons pe_str (pa_cons pe_str pa_nil)))) pa_nil))))))) pa_nil))))), ?_⟩
    refine ⟨_, rfl, by show 1 ≤ sizeLine; decide, fun l1 n1 => ⟨by show 1 ≤ sizeLine; decide, fun l2 n2 => ⟨by show 1 ≤ sizeLine; decide, fun l3 n3 => ⟨by show 1 ≤ sizeLine; decide, fun l4 n4 => ⟨by show 2 ≤ sizeLine; decide, fun l5 n5 => ⟨by show 3 ≤ sizeLine; decide, fun l6 n6 => ⟨by show 6 ≤ sizeLine; decide, fun l nl => ?_⟩⟩⟩⟩⟩⟩⟩
    have g1 := same_upd (o := .lst [.str "turn"]) n1
    have g2 := same_upd (o := .lst [.str "turn"]) n2
    have g3 := same_upd (o := .lst [.str "lose"]) n3
    have g4 := same_upd (o := .lst [.str "double"]) n4
    have g5 := same_upd (o := .lst [.str "lose", .str "double"]) n5
    have g6 := same_upd (o := .lst [.str "turn", .str "lose", .str "double"]) n6
    have g7 := same_upd (o := .lst [.ref l1, .ref l2, .ref l3, .ref l4, .ref l5, .ref l6]) nl
    have gg := (((((g1.trans g2).trans g3).trans g4).trans g5).trans g6).trans g7
    have k6 := g7 _ _ (upd_same (a := l6) (o := .lst [.str "turn", .str "lose", .str "double"]) (H := _))
    have k5 := (g6.trans g7) _ _ (upd_same (a := l5) (o := .lst [.str "lose", .str "double"]) (H := _))
    have k4 := ((g5.trans g6).trans g7) _ _ (upd_same (a := l4) (o := .lst [.str "double"]) (H := _))
    have k3 := (((g4.trans g5).trans g6).trans g7) _ _ (upd_same (a := l3) (o := .lst [.str "lose"]) (H := _))
    have k2 := ((((g3.trans g4).trans g5).trans g6).trans g7) _ _ (upd_same (a := l2) (o := .lst [.str "turn"]) (H := _))
    have k1 := (((((g2.trans g3).trans g4).trans g5).trans g6).trans g7) _ _ (upd_same (a := l1) (o := .lst [.str "turn"]) (H := _))
    have hl := upd_same (a := l) (o := .lst [.ref l1, .ref l2, .ref l3, .ref l4, .ref l5, .ref l6]) (H := upd (upd (upd (upd (upd (upd H l1 (HO.lst [.str "turn"])) l2 (HO.lst [.str "turn"])) l3 (HO.lst [.str "lose"])) l4 (HO.lst [.str "double"])) l5 (HO.lst [.str "lose", .str "double"])) l6 (HO.lst [.str "turn", .str "lose", .str "double"]))
    generalize upd (upd (upd (upd (upd (upd (upd H l1 (HO.lst [.str "turn"])) l2 (HO.lst [.str "turn"])) l3 (HO.lst [.str "lose"])) l4 (HO.lst [.str "double"])) l5 (HO.lst [.str "lose", .str "double"])) l6 (HO.lst [.str "turn", .str "lose", .str "double"])) l (HO.lst [.ref l1, .ref l2, .ref l3, .ref l4, .ref l5, .ref l6]) = G at gg k1 k2 k3 k4 k5 k6 hl
    have hbG := hb.same gg
    obtain ⟨y1, y2, hy⟩ := id hbG
    have nl : l ≠ bx := ne_of hl hy (by intro z; cases z)
    refine ⟨bx, l, _, rfl, hbG, hl, nl, by show 0 < 6; decide, by show 6 < 1000; decide, fun v H2 hv u2 => ?_⟩
    have fin : ∀ (q : Addr) (ks : List Kd), G q = some (.lst (ks.map fun k => .str (kS k))) → ks ≠ [] → ks.length ≤ 3 → Q (.ref q) H2 := fun q ks hq hn h3 => by
      have nq : q ≠ bx := ne_of hq hy (by
        intro z
        injection z with z
        cases ks with
        | nil => exact hn rfl
        | cons a r => cases z)
      exact k q ks H2 ((Up.of_same hb gg).trans u2) nq (u2.1 _ _ hq nq) hn h3
    rcases List.mem_cons.mp hv with rfl | hv
    · exact fin l1 [.turn] k1 (List.cons_ne_nil _ _) (by decide)
    rcases List.mem_cons.mp hv with rfl | hv
    · exact fin l2 [.turn] k2 (List.cons_ne_nil _ _) (by decide)
    rcases List.mem_cons.mp hv with rfl | hv
    · exact fin l3 [.lose] k3 (List.cons_ne_nil _ _) (by decide)
    rcases List.mem_cons.mp hv with rfl | hv
    · exact fin l4 [.dbl] k4 (List.cons_ne_nil _ _) (by decide)
    rcases List.mem_cons.mp hv with rfl | hv
    · exact fin l5 [.lose, .dbl] k5 (List.cons_ne_nil _ _) (by decide)
    rw [List.mem_singleton.mp hv]
    exact fin l6 [.turn, .lose, .dbl] k6 (List.cons_ne_nil _ _) (by decide)
end
end U

set_option maxRecDepth 100000
set_option maxHeartbeats 4000000
set_option pp.maxSteps 500
namespace U
open PySem PySem.Spec PyProof.Rows
open L2 hiding Fun CX0 E0 pass0 Fun.binds
open C8 Lx SX StX
theorem body_congr5 {ss ts : List Stf} (h : ∀ l, putM ss l = putM ts l) (o1 : OkN 39 ss) (m : List Bool) : bodyF ss m = bodyF ts m := ((body_ex o1 m).congr h).isF (o1.congr h)
theorem cnt_congr {f : List Bool} {ss ts : List Stf} {p s : List Bool} {ks : List Kd} {mh n : Nat} {hows : List How} (h : ∀ l, putM ss l = putM ts l) (o1 : OkN 39 ss) : cntN f ss p s ks mh hows n = cntN f ts p s ks mh hows n := by
  have e1 : ∀ d, lnM ss p s d = lnM ts p s d := fun d => body_congr5 h o1 _
  have e2 : ∀ d raw, wayO f ss p s d raw = wayO f ts p s d raw := fun d raw => by
    unfold wayO
    simp only [takM_congr h]
  unfold cntN prsA isU
  simp only [e1, e2]
theorem flat_len {α β : Type} {g : α → List β} {B : Nat} : ∀ {l : List α}, (∀ a ∈ l, (g a).length ≤ B) → (l.flatMap g).length ≤ l.length * B
  | [], _ => Nat.zero_le _
  | a :: l, h => by
    show (g a ++ l.flatMap g).length ≤ (l.length + 1) * B
    have h1 := h a List.mem_cons_self
    have h2 := flat_len (l := l) fun x hx => h x (List.mem_cons_of_mem _ hx)
    rw [List.length_append, Nat.succ_mul]
    omega
theorem lnM_len5 {ss : List Stf} (o : OkN 39 ss) (p s d : List Bool) : (lnM ss p s d).length ≤ 40 * (d.length + (bitsM p s d).length) := by
  obtain ⟨f, h0, _, h2⟩ := body_steps o (d ++ bitsM p s d)
  obtain ⟨h3, h4⟩ := h2 _ (Nat.le_refl _)
  rw [List.take_length] at h3
  unfold lnM
  rw [← h3.isF o]
  exact Nat.le_trans h4 (by rw [List.length_append]; exact Nat.le_refl _)
theorem many_in {v : V} (h : v ∈ [V.int 0, V.int 1, V.int 1, V.int 2]) : ∃ m : Nat, m ≤ 2 ∧ v = .int (m : Nat) := by
  rcases List.mem_cons.mp h with rfl | h
  · exact ⟨0, by decide, rfl⟩
  rcases List.mem_cons.mp h with rfl | h
  · exact ⟨1, by decide, rfl⟩
  rcases List.mem_cons.mp h with rfl | h
  · exact ⟨1, by decide, rfl⟩
  rw [List.mem_singleton.mp h]
  exact ⟨2, by decide, rfl⟩
theorem cntO_len (f : List Bool) (ss : List Stf) (p s : List Bool) (ps : List (List Bool × List (Nat × Kd))) (o : Option How) : cntO f ss p s ps o ≤ ps.length := List.countP_le_length
section
variable {P : Program} {w : World} {K : PySem.W.Frag} {mg : Str → Option Value} {base : Heap}
theorem sc_law : FnScope ["_law_script", "_law_k", "_law_box", "_law_turn", "_law_rule_here", "_law_check_here", "_law_kinds_here", "_law_many", "_law_size", "_law_made_here", "_law_sum_made", "_law_due", "_law_how", "_law_every"] ["_law_script"] (fnScope s_law) := fnScope_by (by decide +kernel)
theorem ok_law {f CR CK dE : Addr} {fd : FuncData} (F : Def K mg "law" s_law f fd) (T : Tx mg) (hE : ∀ H, SqT K H dE [])
    (c_l_seed : Cal P w K mg base 1 "_law_seed" (spSeed K) []) (c_l_choose : Cal P w K mg base 1 "_law_choose" spChoose []) (c_l_one_of : Cal P w K mg base 2 "_law_one_of" spOneOf []) (c_l_rule : Cal P w K mg base 4 "_law_rule" spRule []) (c_l_made : Cal P w K mg base 7 "_law_made" (spMade CR) []) (c_l_check : Cal P w K mg base 4 "_law_check" spCheck []) (c_l_kinds : Cal P w K mg base 3 "_law_kinds" spTKinds []) (c_l_counts : Cal P w K mg base 5 "_law_counts" spTCounts [])
    (c_count_unseen : Cal P w K mg base 7 "count_unseen" (spCountU CR CK) []) (m_Check2 : Mak P w K mg base 2 "Check" CK (spCkInit CK) []) (m_Check0 : Mak P w K mg base 2 "Check" CK (spCkInit CK) [.str "1", .non]) (m_Rule1 : Mak P w K mg base 5 "Rule" CR (spRuInit K CR) [.ref dE]) :
    FnOk P w K mg base CX0 8 f fd ["_law_script"] (spLaw K) := by
  refine fn0 F.fn sc_law (fun vs H Q E h => ?_) (fun cdv A outer s H vs Q E hr h => ?_)
  · obtain ⟨_, _, rfl, _⟩ := h; rfl
  · obtain ⟨a, ns, rfl, hS, hlen, k⟩ := h
    refine ⟨_, (pss_cons (ps_for PassesOwn.never rfl (pi_range1 (by rfl) T.b_range (pa_cons (pe_callB (call_max2 rfl) (by rfl) T.b_max (by decide +kernel) (pa_cons pe_int (pa_cons (pe_callB (call_min2 rfl) (by rfl) T.b_min (by decide +kernel) (pa_cons pe_int (pa_cons (pe_callB call_len_seq (by rfl) T.b_len (by decide +kernel) (pa_cons (pv 0) pa_nil)) pa_nil))) pa_nil))) pa_nil)) (pg_name (i := 1) sc_law.nd rfl (.inl rfl))
    (pss_cons (ps_set (i := 2) sc_law.nd rfl (.inl rfl) (pe_c c_l_seed hr (by decide) rfl (pa_cons (pv 0) (pa_cons (pv 1) pa_nil))))
    (pss_one (ps_for PassesOwn.never rfl (pi_range1 (by rfl) T.b_range (pa_cons pe_int pa_nil)) (pg_name (i := 3) sc_law.nd rfl (.inl rfl))
    (pss_cons (ps_par3 (i := 4) (j := 5) (l := 6) (by rfl) sc_law.nd rfl rfl rfl (by decide) (by decide) (by decide) rfl rfl rfl (pa_cons (pe_c c_l_rule hr (by decide) rfl (pa_cons (pv 2) (pa_cons pe_int (pa_cons pe_int pa_nil)))) (pa_cons (pe_c c_l_check hr (by decide) rfl (pa_cons (pv 2) (pa_cons pe_int pa_nil))) (pa_cons (pe_c c_l_kinds hr (by decide) rfl (pa_cons (pv 2) pa_nil)) pa_nil))) (by rfl))
    (pss_cons (ps_set (i := 7) sc_law.nd rfl (.inl rfl) (pe_c c_l_one_of hr (by decide) rfl (pa_cons (pv 2) (pa_cons (pe_lst (pa_cons pe_int (pa_cons pe_int (pa_cons pe_int (pa_cons pe_int pa_nil))))) pa_nil))))
    (pss_cut (ps_set (i := 8) sc_law.nd rfl (.inl rfl) (pe_c c_l_choose hr (by decide) rfl (pa_cons (pv 2) (pa_cons (pe_ifExp (pt_cmpR op_lt (pv 7) pe_int (nomark _)) pe_int pe_int) pa_nil))))
    (pss_cons (ps_par (i := 9) (j := 10) (by rfl) sc_law.nd rfl rfl (by decide) rfl rfl (pa_cons (pe_c c_l_made hr (by decide) rfl (pa_cons (pv 4) pa_nil)) (pa_cons (pe_mk m_Check2 hr (by decide) rfl (pa_cons (pe_ix ix_tup (pv 5) pe_int (fun _ _ => rfl)) (pa_cons (pe_ix ix_tup (pv 5) pe_int (fun _ _ => rfl)) pa_nil))) pa_nil)) (by rfl))
    (pss_cons (ps_set (i := 11) sc_law.nd rfl (.inl rfl) (pe_c c_l_counts hr (by decide) rfl (pa_cons (pv 4) (pa_cons (pv 5) (pa_cons (pv 6) (pa_cons (pv 8) (pa_cons (pv 7) pa_nil)))))))
    (pss_cons (ps_for PassesOwn.never rfl (pi_tup (pe_tup (pa_cons pe_str (pa_cons pe_str (pa_cons pe_str pa_nil))))) (pg_name (i := 12) sc_law.nd rfl (.inl rfl))
    (pss_one (ps_if (pt_cmpR op_ne (pe_callB SkE.call_repr_int (by rfl) T.b_repr (by decide +kernel) (pa_cons (pe_c c_count_unseen hr (by decide) rfl (pa_cons (pv 9) (pa_cons (pv 10) (pa_cons (pv 6) (pa_cons (pv 8) (pa_cons (pv 7) (pa_cons (pv 12) pa_nil))))))) pa_nil)) (pe_callB SkE.call_repr_int (by rfl) T.b_repr (by decide +kernel) (pa_cons (pe_dget (hu_of hr) (pv 11) (pv 12) (fun _ _ => rfl)) pa_nil)) (nomark _)) (pss_one (ps_ret pe_bl)) pss_nil)))
    (pss_cons (ps_set (i := 13) sc_law.nd rfl (.inl rfl) (pe_op op_add (pe_op op_add (pe_dget (hu_of hr) (pv 11) pe_str (fun _ _ => rfl)) (pe_dget (hu_of hr) (pv 11) pe_str (fun _ _ => rfl))) (pe_dget (hu_of hr) (pv 11) pe_str (fun _ _ => rfl))))
    (pss_one (ps_if (pt_cmpR op_ne (pe_c c_count_unseen hr (by decide) rfl (pa_cons (pv 9) (pa_cons (pv 10) (pa_cons (pe_callTy call_tuple_of (by rfl) T.b_tuple (by decide +kernel) (pa_cons (pv 6) pa_nil)) (pa_cons (pv 8) (pa_cons (pv 7) (pa_cons pe_str pa_nil))))))) (pv 13) (nomark _)) (pss_one (ps_ret pe_bl)) pss_nil)))))))))))))
    (pss_one (ps_ret (pe_cmpR op_eq (pe_c c_count_unseen hr (by decide) rfl (pa_cons (pe_mk m_Rule1 hr (by decide) rfl (pa_cons pe_str pa_nil)) (pa_cons (pe_mk0 m_Check0 hr (by decide) rfl) (pa_cons (pe_lst (pa_cons pe_str pa_nil)) (pa_cons pe_int (pa_cons pe_int (pa_cons pe_str pa_nil))))))) pe_int (nomark _))))), ?_⟩
    refine ⟨_, rfl, a, _, rfl, .inl hS, _, _, rfl, _, _, rfl, _, rfl, by split <;> split <;> omega, by rw [List.length_map]; split <;> split <;> omega, ?_⟩
    refine for_it walk_range (fun i σ H2 => ∃ v1 v2 v3 v4 v5 v6 v7 v8 v9 v10 v11 v12 v13 : Option V, σ = [some (.ref a), v1, v2, v3, v4, v5, v6, v7, v8, v9, v10, v11, v12, v13] ∧ Same H H2) ⟨_, _, _, _, _, _, _, _, _, _, _, _, _, rfl, Same.refl _⟩ (fun _ _ _ _ _ => trivial) ?_ ?_
    · rintro i x σ H2' H2 hi ⟨v1, v2, v3, v4, v5, v6, v7, v8, v9, v10, v11, v12, v13, rfl, s2⟩ ⟨rfl, rfl⟩
      refine ⟨_, rfl, _, rfl, a, ns, i, (by show [V.ref a, V.int (0 + (i : Int))] = _; rw [Int.zero_add]), s2.seq hS, fun bx H1 nb s1 hb => ?_⟩
      have u0 : Up bx H1 H1 := Up.refl hb
      refine ⟨_, rfl, by decide, by decide, for_it walk_range (fun i σ H3 => ∃ v1 v3 v4 v5 v6 v7 v8 v9 v10 v11 v12 v13 : Option V, σ = [some (.ref a), v1, some (.ref bx), v3, v4, v5, v6, v7, v8, v9, v10, v11, v12, v13] ∧ Up bx H1 H3) ⟨_, _, _, _, _, _, _, _, _, _, _, _, rfl, u0⟩ (fun _ _ _ _ _ => trivial) ?_ ?_⟩
      · rintro i3 x3 σ H3' H3 hi3 ⟨v1, v3, v4, v5, v6, v7, v8, v9, v10, v11, v12, v13, rfl, u3⟩ ⟨rfl, rfl⟩
        refine ⟨_, rfl, bx, 5, 3, rfl, u3.2, by decide, by decide, by decide, by decide, fun t fl ss0 H4 u4 told4 f2 f4 ss2 ok0 hO0 hlo => ?_⟩
        refine ⟨_, rfl, bx, 2, rfl, u4.2, by decide, fun tc p st H5 ntc u5 htc ck hst => ?_⟩
        have stl0 : StL ss0 := ⟨by omega, fun x hx => by have := hlo x hx; omega⟩
        refine ⟨_, rfl, bx, rfl, u5.2, fun kq ks H6 u6 nkq hkq kne k3 => ⟨_, _, _, rfl, ?_⟩⟩
        have told6 := (told4.up u4.2 u5).up u5.2 u6
        have htc6 := u6.1 _ _ htc (u5.2.neT htc)
        have u36 := ((u3.trans u4).trans u5).trans u6
        clear told4 htc u4 u5 u3
        refine ⟨_, rfl, by show 4 ≤ sizeLine; decide, fun lm nlm => ?_⟩
        have sm := same_upd (o := .lst [.int 0, .int 1, .int 1, .int 2]) nlm
        have klm := upd_same (a := lm) (o := .lst [.int 0, .int 1, .int 1, .int 2]) (H := H6)
        have told7 := told6.same sm
        have htc7 := sm _ _ htc6
        have hkq7 := sm _ _ hkq
        have u37 := u36.same sm
        clear told6 htc6 hkq
        generalize upd H6 lm (.lst [.int 0, .int 1, .int 1, .int 2]) = H7 at klm told7 htc7 hkq7 u37
        obtain ⟨y3, y4, hy7⟩ := id u37.2
        refine ⟨bx, lm, _, rfl, u37.2, klm, ne_of klm hy7 (by intro z; cases z), by show 0 < 4; decide, by show 4 < 1000; decide, fun v H8 hv u8 => ?_⟩
        obtain ⟨mh, hmh, rfl⟩ := many_in hv
        have u38 := u37.trans u8
        refine ⟨fun σ H9 => ∃ (n : Nat) (v1 v3 v9 v10 v11 v12 v13 : Option V), σ = [some (.ref a), v1, some (.ref bx), v3, some (.ref t), some (.ref tc), some (.ref kq), some (.int (mh : Nat)), some (.int (n : Nat)), v9, v10, v11, v12, v13] ∧ n ≤ 2 ∧ Up bx H8 H9, ?_, ?_⟩
        · refine ⟨_, rfl, _, rfl, _, _, rfl, rfl, _, rfl, ?_⟩
          by_cases c : ((mh : Nat) : Int) < 2
          · refine iteDT c ⟨bx, 3, rfl, u8.2, by decide, by decide, fun d Hn d0 d3 u9 => ?_⟩
            obtain ⟨n, rfl⟩ := Int.eq_ofNat_of_zero_le d0
            exact ⟨n, _, _, _, _, _, _, _, rfl, by omega, u9⟩
          · refine iteDF c ⟨bx, 2, rfl, u8.2, by decide, by decide, fun d Hn d0 d3 u9 => ?_⟩
            obtain ⟨n, rfl⟩ := Int.eq_ofNat_of_zero_le d0
            exact ⟨n, _, _, _, _, _, _, _, rfl, by omega, u9⟩
        rintro σ H9 ⟨n, v1, v3, v9, v10, v11, v12, v13, rfl, hn, u9⟩
        have u39 := u38.trans u9
        have u79 := u8.trans u9
        have told9 := told7.up u37.2 u79
        have htc9 := u79.1 _ _ htc7 (u37.2.neT htc7)
        have hkq9 := u79.1 _ _ hkq7 nkq
        clear told7 htc7 hkq7
        refine ⟨_, rfl, t, fl, ss0, rfl, told9, ok0, hO0.ok, f2, by omega, fun m ss Ha sa pm srt hR => ?_⟩
        have htca := sa _ _ htc9
        refine ⟨_, rfl, tc, _, _, _, rfl, rfl, SqT.of htca, atI_nat (j := 0) rfl, _, rfl, tc, _, _, _, rfl, rfl, SqT.of htca, atI_nat (j := 1) rfl, mk_ck2 ck (by have := ck.len; omega) fun x Hb sb hx => ⟨_, _, rfl, ?_⟩⟩
        have sab := sa.trans sb
        have ok := ok0.perm pm.symm
        have cg : ∀ l, putM ss l = putM ss0 l := fun l => put_perm ok.free pm l
        have o390 : OkN 39 ss0 := OkN.mono hO0 (by decide)
        have o39 : OkN 39 ss := o390.congr fun l => (cg l).symm
        have hlp := ck.len
        have wok : WyOk fl ss p st := ⟨(fun z => by rw [z] at f2; exact absurd f2 (by decide)), by omega, by omega, ck, ok, o39⟩
        refine ⟨_, rfl, _, rfl, _, rfl, _, rfl, _, rfl, t, tc, kq, fl, ss0, p, st, n, mh, ks, rfl, told9.same sab, sab _ _ htc9, ck, by omega, by omega, hmh, k3, stl0, hO0, by omega, sab _ _ hkq9, fun D Hc nD sc hD => ?_⟩
        have hRc := (hR.same sb).same sc
        have hxc := hx.same sc
        have hkqc := sc _ _ (sab _ _ hkq9)
        have u3c := (u39.same sab).same sc
        have hlen2 : ((wdsP n).flatMap (prsC ss0 p st ks mh)).length ≤ 2000000000 := by
          have hB : ∀ d ∈ wdsP n, (prsC ss0 p st ks mh d).length ≤ 230400 := fun d hd => by
            unfold prsC
            rw [List.length_map]
            refine Nat.le_trans (rowsM_len _ _ _) ?_
            have l1 : (lnM ss0 p st d).length ≤ 160 := by
              have := lnM_len5 o390 p st d
              rw [wdsP_size hd, bitsM_len hlp] at this
              omega
            have l2 : ks.length * (lnM ss0 p st d).length ≤ 3 * 160 := Nat.mul_le_mul k3 l1
            exact Nat.le_trans (Nat.pow_le_pow_left l2 mh) (Nat.le_trans (Nat.pow_le_pow_right (by decide) hmh) (by decide))
          refine Nat.le_trans (flat_len hB) ?_
          rw [wdsP_len]
          have : 2 ^ n ≤ 2 ^ 2 := Nat.pow_le_pow_right (by decide) hn
          have e4 : 2 ^ 2 = 4 := rfl
          omega
        have c1 : ∀ how, cntN fl ss p st ks mh (howsL (some how)) n = cntO fl ss0 p st ((wdsP n).flatMap (prsC ss0 p st ks mh)) (some how) := fun how => by rw [cnt_congr cg o39, cnt_one]
        have c2 : cntN fl ss p st ks mh (howsL none) n = cntO fl ss0 p st ((wdsP n).flatMap (prsC ss0 p st ks mh)) (some .same) + cntO fl ss0 p st ((wdsP n).flatMap (prsC ss0 p st ks mh)) (some .shift) + cntO fl ss0 p st ((wdsP n).flatMap (prsC ss0 p st ks mh)) (some .cut) := by rw [cnt_congr cg o39, cnt_any]
        have hg : ∀ o, cntO fl ss0 p st ((wdsP n).flatMap (prsC ss0 p st ks mh)) o ≤ 2000000000 := fun o => Nat.le_trans (cntO_len _ _ _ _ _ _) hlen2
        generalize cntO fl ss0 p st ((wdsP n).flatMap (prsC ss0 p st ks mh)) = g at hD c1 c2 hg
        have hv : ∀ {H : Hp} (how : How), H D = some (.dK (kdC g)) → DGet H D (.str (howS how)) (some (.int (g (some how) : Nat))) := fun {H} how h => by
          have := DGet.k (H := H) (a := D) (kvs := kdC g) (k := Sum.inr (wS (some how))) h
          rw [kdC_get] at this
          exact this
        have lg : ∀ o, ((g o : Nat) : Int).natAbs.log2 < 1920 := fun o => by
          have h1 := hg o
          show (g o).log2 < 1920
          by_cases h0 : g o = 0
          · rw [h0]
            decide
          · exact Nat.lt_trans ((Nat.log2_lt h0).mpr (Nat.lt_of_le_of_lt h1 (by decide : 2000000000 < 2 ^ 31))) (by decide)
        refine ⟨by show 3 ≤ sizeLine; decide, fun tq ntq => ⟨tq, rfl, ⟨_, SqT.of upd_same⟩, ?_⟩⟩
        have stq := same_upd (o := .tup [.str "same", .str "shift", .str "cut"]) ntq
        have ktq := upd_same (a := tq) (o := .tup [.str "same", .str "shift", .str "cut"]) (H := Hc)
        have hRd := hRc.same stq
        have hxd := hxc.same stq
        have hkqd := stq _ _ hkqc
        have u3d := u3c.same stq
        have hDd := stq _ _ hD
        generalize upd Hc tq (.tup [.str "same", .str "shift", .str "cut"]) = Hd at ktq hRd hxd hkqd u3d hDd
        refine for_it (walk_tup (xs := [.str "same", .str "shift", .str "cut"])) (fun j σ He => ∃ (v1 v3 v12 v13 : Option V), σ = [some (.ref a), v1, some (.ref bx), v3, some (.ref t), some (.ref tc), some (.ref kq), some (.int (mh : Nat)), some (.int (n : Nat)), some (.ref m), some (.ref x), some (.ref D), v12, v13] ∧ Same Hd He) ⟨_, _, _, _, rfl, Same.refl _⟩ (fun j σ He _ ⟨_, _, _, _, _, h⟩ => SqT.of (h _ _ ktq)) ?_ ?_
        · rintro j y σ He' He hj ⟨v1, v3, v12, v13, rfl, se⟩ ⟨rfl, hy⟩
          obtain ⟨how, rfl⟩ := str3_how (List.mem_of_getElem? hy)
          refine ⟨_, rfl, _, rfl, _, rfl, _, rfl, _, rfl, _, rfl, m, x, .ref kq, fl, ss, p, st, ks, n, mh, some how, rfl, hRd.same se, hxd.same se, ⟨kq, rfl, .inl (se _ _ hkqd)⟩, wok, k3, hmh, by omega, by omega, fun Hf sf => ?_⟩
          rw [c1 how]
          exact ⟨_, rfl, lg _, _, rfl, _, rfl, D, _, rfl, hv how ((se.trans sf) _ _ hDd), _, rfl, lg _, rfl, _, rfl, iteNS rfl ⟨_, _, _, _, rfl, se.trans sf⟩⟩
        · rintro σ He ⟨v1, v3, v12, v13, rfl, se⟩
          have hDe := se _ _ hDd
          refine ⟨_, rfl, D, _, rfl, hv .same hDe, _, rfl, D, _, rfl, hv .shift hDe, _, _, rfl, rfl, _, rfl, D, _, rfl, hv .cut hDe, _, _, rfl, rfl, ?_⟩
          refine ⟨_, rfl, _, rfl, _, rfl, kq, _, rfl, .inl ⟨SqL.of (se _ _ hkqd), fun kt nkt => ⟨_, rfl, _, rfl, m, x, .ref kt, fl, ss, p, st, ks, n, mh, none, rfl, (hRd.same se).same (same_upd nkt), (hxd.same se).same (same_upd nkt), ⟨kt, rfl, .inr upd_same⟩, wok, k3, hmh, by omega, by omega, fun Hf sf => ?_⟩⟩⟩
          rw [c2]
          refine ⟨_, rfl, rfl, _, rfl, iteBF ?_ ⟨_, _, _, _, _, _, _, _, _, _, _, _, rfl, u3d.same ((se.trans (same_upd nkt)).trans sf)⟩⟩
          rw [decide_eq_true (by congr 1)]
          rfl
      · rintro σ H2 ⟨v1, v3, v4, v5, v6, v7, v8, v9, v10, v11, v12, v13, rfl, u9⟩
        exact ⟨_, _, _, _, _, _, _, _, _, _, _, _, _, rfl, fun c o e => u9.1 _ _ (s1 _ _ (s2 _ _ e)) (ne_of_none (s2 _ _ e) nb)⟩
    · rintro σ H2 ⟨v1, v2, v3, v4, v5, v6, v7, v8, v9, v10, v11, v12, v13, rfl, s2⟩
      refine mk_dfl (f := [false, true]) (by decide +kernel) hE (by decide) (by decide) fun m H3 s3 hR3 => ?_
      refine mk_ck0 fun xc Hc sc hxc => ⟨by show 1 ≤ sizeLine; decide, fun le nle => ?_⟩
      have sle := same_upd (o := .lst [.str "turn"]) nle
      refine ⟨m, xc, .ref le, [false, true], [], [true], [], [.turn], 0, 1, none, rfl, (hR3.same sc).same sle, hxc.same sle, ⟨le, rfl, .inl upd_same⟩, ⟨by decide, by decide, by decide, ⟨rfl, rfl, rfl⟩, ⟨Nat.zero_le _, (fun _ h => nomatch h), Nat.zero_le _, .nil⟩, OkN.mono okS_nil (by decide)⟩, by decide, by decide, by decide, by decide, fun Hd sd => ?_⟩
      have e0 : cntN [false, true] [] [true] [] [.turn] 1 (howsL none) 0 = 0 := by decide +kernel
      rw [e0]
      exact ⟨rfl, k Hd⟩
end
end U

set_option maxRecDepth 100000
set_option maxHeartbeats 4000000
namespace U
open PySem PySem.Spec PyProof.Rows
open L2 hiding Fun CX0 E0 pass0 Fun.binds
open C8 Lx
theorem all_mk {l : PySem.W.OpenLaw} {w : World} {K : PySem.W.Frag} {h : Heap} {mg : Str → Option Value} {fa : Addr} (X : K.In h) (G : h.Ns mainGlobals mg) (hfa : mg "law" = some (.ref fa))
    {f_is_integer : Addr} {od_is_integer an_is_integer : Option Addr} {sl_is_integer : Array (Option Value)} {oc_is_integer kV_is_integer dc_is_integer pm_is_integer cd_is_integer ct_is_integer : Value}
    {f_is_number : Addr} {od_is_number an_is_number : Option Addr} {sl_is_number : Array (Option Value)} {oc_is_number kV_is_number dc_is_number pm_is_number cd_is_number ct_is_number : Value}
    {f_is_sequence : Addr} {od_is_sequence an_is_sequence : Option Addr} {sl_is_sequence : Array (Option Value)} {oc_is_sequence kV_is_sequence dc_is_sequence pm_is_sequence cd_is_sequence ct_is_sequence : Value}
    {f_is_word : Addr} {od_is_word an_is_word : Option Addr} {sl_is_word : Array (Option Value)} {oc_is_word kV_is_word dc_is_word pm_is_word cd_is_word ct_is_word : Value}
    {f_is_bit : Addr} {od_is_bit an_is_bit : Option Addr} {sl_is_bit : Array (Option Value)} {oc_is_bit kV_is_bit dc_is_bit pm_is_bit cd_is_bit ct_is_bit : Value}
    {f_other : Addr} {od_other an_other : Option Addr} {sl_other : Array (Option Value)} {oc_other kV_other dc_other pm_other cd_other ct_other : Value}
    {f_all_words : Addr} {od_all_words an_all_words : Option Addr} {sl_all_words : Array (Option Value)} {oc_all_words kV_all_words dc_all_words pm_all_words cd_all_words ct_all_words : Value}
    {f_tail : Addr} {od_tail an_tail : Option Addr} {sl_tail : Array (Option Value)} {oc_tail kV_tail dc_tail pm_tail cd_tail ct_tail : Value}
    {f_arriving : Addr} {od_arriving an_arriving : Option Addr} {sl_arriving : Array (Option Value)} {oc_arriving kV_arriving dc_arriving pm_arriving cd_arriving ct_arriving : Value}
    {f_is_hit : Addr} {od_is_hit an_is_hit : Option Addr} {sl_is_hit : Array (Option Value)} {oc_is_hit kV_is_hit dc_is_hit pm_is_hit cd_is_hit ct_is_hit : Value}
    {f_hit : Addr} {od_hit an_hit : Option Addr} {sl_hit : Array (Option Value)} {oc_hit kV_hit dc_hit pm_hit cd_hit ct_hit : Value}
    {f_put_behind : Addr} {od_put_behind an_put_behind : Option Addr} {sl_put_behind : Array (Option Value)} {oc_put_behind kV_put_behind dc_put_behind pm_put_behind cd_put_behind ct_put_behind : Value}
    {f_body : Addr} {od_body an_body : Option Addr} {sl_body : Array (Option Value)} {oc_body kV_body dc_body pm_body cd_body ct_body : Value}
    {f_taken_out : Addr} {od_taken_out an_taken_out : Option Addr} {sl_taken_out : Array (Option Value)} {oc_taken_out kV_taken_out dc_taken_out pm_taken_out cd_taken_out ct_taken_out : Value}
    {f_read_part : Addr} {od_read_part an_read_part : Option Addr} {sl_read_part : Array (Option Value)} {oc_read_part kV_read_part dc_read_part pm_read_part cd_read_part ct_read_part : Value}
    {f_receive : Addr} {od_receive an_receive : Option Addr} {sl_receive : Array (Option Value)} {oc_receive kV_receive dc_receive pm_receive cd_receive ct_receive : Value}
    {f_ways_of : Addr} {od_ways_of an_ways_of : Option Addr} {sl_ways_of : Array (Option Value)} {oc_ways_of kV_ways_of dc_ways_of pm_ways_of cd_ways_of ct_ways_of : Value}
    {f_all_hits : Addr} {od_all_hits an_all_hits : Option Addr} {sl_all_hits : Array (Option Value)} {oc_all_hits kV_all_hits dc_all_hits pm_all_hits cd_all_hits ct_all_hits : Value}
    {f_way_of : Addr} {od_way_of an_way_of : Option Addr} {sl_way_of : Array (Option Value)} {oc_way_of kV_way_of dc_way_of pm_way_of cd_way_of ct_way_of : Value}
    {f_count_unseen : Addr} {od_count_unseen an_count_unseen : Option Addr} {sl_count_unseen : Array (Option Value)} {oc_count_unseen kV_count_unseen dc_count_unseen pm_count_unseen cd_count_unseen ct_count_unseen : Value}
    {f_is_stuff : Addr} {od_is_stuff an_is_stuff : Option Addr} {sl_is_stuff : Array (Option Value)} {oc_is_stuff kV_is_stuff dc_is_stuff pm_is_stuff cd_is_stuff ct_is_stuff : Value}
    {f_are_stuffs : Addr} {od_are_stuffs an_are_stuffs : Option Addr} {sl_are_stuffs : Array (Option Value)} {oc_are_stuffs kV_are_stuffs dc_are_stuffs pm_are_stuffs cd_are_stuffs ct_are_stuffs : Value}
    {f_l_seed : Addr} {od_l_seed an_l_seed : Option Addr} {sl_l_seed : Array (Option Value)} {oc_l_seed kV_l_seed dc_l_seed pm_l_seed cd_l_seed ct_l_seed : Value}
    {f_l_choose : Addr} {od_l_choose an_l_choose : Option Addr} {sl_l_choose : Array (Option Value)} {oc_l_choose kV_l_choose dc_l_choose pm_l_choose cd_l_choose ct_l_choose : Value}
    {f_l_one_of : Addr} {od_l_one_of an_l_one_of : Option Addr} {sl_l_one_of : Array (Option Value)} {oc_l_one_of kV_l_one_of dc_l_one_of pm_l_one_of cd_l_one_of ct_l_one_of : Value}
    {f_l_word : Addr} {od_l_word an_l_word : Option Addr} {sl_l_word : Array (Option Value)} {oc_l_word kV_l_word dc_l_word pm_l_word cd_l_word ct_l_word : Value}
    {f_l_words : Addr} {od_l_words an_l_words : Option Addr} {sl_l_words : Array (Option Value)} {oc_l_words kV_l_words dc_l_words pm_l_words cd_l_words ct_l_words : Value}
    {f_l_put : Addr} {od_l_put an_l_put : Option Addr} {sl_l_put : Array (Option Value)} {oc_l_put kV_l_put dc_l_put pm_l_put cd_l_put ct_l_put : Value}
    {f_l_is_rule : Addr} {od_l_is_rule an_l_is_rule : Option Addr} {sl_l_is_rule : Array (Option Value)} {oc_l_is_rule kV_l_is_rule dc_l_is_rule pm_l_is_rule cd_l_is_rule ct_l_is_rule : Value}
    {f_l_rule : Addr} {od_l_rule an_l_rule : Option Addr} {sl_l_rule : Array (Option Value)} {oc_l_rule kV_l_rule dc_l_rule pm_l_rule cd_l_rule ct_l_rule : Value}
    {f_l_made : Addr} {od_l_made an_l_made : Option Addr} {sl_l_made : Array (Option Value)} {oc_l_made kV_l_made dc_l_made pm_l_made cd_l_made ct_l_made : Value}
    {f_l_body : Addr} {od_l_body an_l_body : Option Addr} {sl_l_body : Array (Option Value)} {oc_l_body kV_l_body dc_l_body pm_l_body cd_l_body ct_l_body : Value}
    {f_l_read : Addr} {od_l_read an_l_read : Option Addr} {sl_l_read : Array (Option Value)} {oc_l_read kV_l_read dc_l_read pm_l_read cd_l_read ct_l_read : Value}
    {f_l_check : Addr} {od_l_check an_l_check : Option Addr} {sl_l_check : Array (Option Value)} {oc_l_check kV_l_check dc_l_check pm_l_check cd_l_check ct_l_check : Value}
    {f_l_rest : Addr} {od_l_rest an_l_rest : Option Addr} {sl_l_rest : Array (Option Value)} {oc_l_rest kV_l_rest dc_l_rest pm_l_rest cd_l_rest ct_l_rest : Value}
    {f_l_is_good : Addr} {od_l_is_good an_l_is_good : Option Addr} {sl_l_is_good : Array (Option Value)} {oc_l_is_good kV_l_is_good dc_l_is_good pm_l_is_good cd_l_is_good ct_l_is_good : Value}
    {f_l_bits_for : Addr} {od_l_bits_for an_l_bits_for : Option Addr} {sl_l_bits_for : Array (Option Value)} {oc_l_bits_for kV_l_bits_for dc_l_bits_for pm_l_bits_for cd_l_bits_for ct_l_bits_for : Value}
    {f_l_receive : Addr} {od_l_receive an_l_receive : Option Addr} {sl_l_receive : Array (Option Value)} {oc_l_receive kV_l_receive dc_l_receive pm_l_receive cd_l_receive ct_l_receive : Value}
    {f_l_arrived : Addr} {od_l_arrived an_l_arrived : Option Addr} {sl_l_arrived : Array (Option Value)} {oc_l_arrived kV_l_arrived dc_l_arrived pm_l_arrived cd_l_arrived ct_l_arrived : Value}
    {f_l_hit_rows : Addr} {od_l_hit_rows an_l_hit_rows : Option Addr} {sl_l_hit_rows : Array (Option Value)} {oc_l_hit_rows kV_l_hit_rows dc_l_hit_rows pm_l_hit_rows cd_l_hit_rows ct_l_hit_rows : Value}
    {f_l_way : Addr} {od_l_way an_l_way : Option Addr} {sl_l_way : Array (Option Value)} {oc_l_way kV_l_way dc_l_way pm_l_way cd_l_way ct_l_way : Value}
    {f_l_kinds : Addr} {od_l_kinds an_l_kinds : Option Addr} {sl_l_kinds : Array (Option Value)} {oc_l_kinds kV_l_kinds dc_l_kinds pm_l_kinds cd_l_kinds ct_l_kinds : Value}
    {f_l_counts : Addr} {od_l_counts an_l_counts : Option Addr} {sl_l_counts : Array (Option Value)} {oc_l_counts kV_l_counts dc_l_counts pm_l_counts cd_l_counts ct_l_counts : Value}
    {f_law : Addr} {od_law an_law : Option Addr} {sl_law : Array (Option Value)} {oc_law kV_law dc_law pm_law cd_law ct_law : Value}
    {C_Rule : Addr}
    {f_Rule_init : Addr} {od_Rule_init an_Rule_init : Option Addr} {sl_Rule_init : Array (Option Value)} {oc_Rule_init kV_Rule_init dc_Rule_init pm_Rule_init cd_Rule_init ct_Rule_init : Value}
    {dT_Rule_init : Addr} {dd_Rule_init : Option Addr} {dn_Rule_init : Nat} {ds_Rule_init : Array (Option Value)} {dE_R : Addr} {dde_R : Option Addr} {dne_R : Nat} {dse_R : Array (Option Value)}
    {f_Rule_put : Addr} {od_Rule_put an_Rule_put : Option Addr} {sl_Rule_put : Array (Option Value)} {oc_Rule_put kV_Rule_put dc_Rule_put pm_Rule_put cd_Rule_put ct_Rule_put : Value}
    {f_Rule_longest : Addr} {od_Rule_longest an_Rule_longest : Option Addr} {sl_Rule_longest : Array (Option Value)} {oc_Rule_longest kV_Rule_longest dc_Rule_longest pm_Rule_longest cd_Rule_longest ct_Rule_longest : Value}
    {p_Rule_longest : Addr} {pr_Rule_longest : List Value}
    {f_Rule_put_in : Addr} {od_Rule_put_in an_Rule_put_in : Option Addr} {sl_Rule_put_in : Array (Option Value)} {oc_Rule_put_in kV_Rule_put_in dc_Rule_put_in pm_Rule_put_in cd_Rule_put_in ct_Rule_put_in : Value}
    {f_Rule_is_endless : Addr} {od_Rule_is_endless an_Rule_is_endless : Option Addr} {sl_Rule_is_endless : Array (Option Value)} {oc_Rule_is_endless kV_Rule_is_endless dc_Rule_is_endless pm_Rule_is_endless cd_Rule_is_endless ct_Rule_is_endless : Value}
    {C_Check : Addr}
    {f_Check_step : Addr} {od_Check_step an_Check_step : Option Addr} {sl_Check_step : Array (Option Value)} {oc_Check_step kV_Check_step dc_Check_step pm_Check_step cd_Check_step ct_Check_step : Value}
    {f_Check_rest : Addr} {od_Check_rest an_Check_rest : Option Addr} {sl_Check_rest : Array (Option Value)} {oc_Check_rest kV_Check_rest dc_Check_rest pm_Check_rest cd_Check_rest ct_Check_rest : Value}
    {f_Check_degree : Addr} {od_Check_degree an_Check_degree : Option Addr} {sl_Check_degree : Array (Option Value)} {oc_Check_degree kV_Check_degree dc_Check_degree pm_Check_degree cd_Check_degree ct_Check_degree : Value}
    {p_Check_degree : Addr} {pr_Check_degree : List Value}
    {f_Check_bits_for : Addr} {od_Check_bits_for an_Check_bits_for : Option Addr} {sl_Check_bits_for : Array (Option Value)} {oc_Check_bits_for kV_Check_bits_for dc_Check_bits_for pm_Check_bits_for cd_Check_bits_for ct_Check_bits_for : Value}
    {f_Check_is_good : Addr} {od_Check_is_good an_Check_is_good : Option Addr} {sl_Check_is_good : Array (Option Value)} {oc_Check_is_good kV_Check_is_good dc_Check_is_good pm_Check_is_good cd_Check_is_good ct_Check_is_good : Value}
    {f_Check_init : Addr} {od_Check_init an_Check_init : Option Addr} {sl_Check_init : Array (Option Value)} {oc_Check_init kV_Check_init dc_Check_init pm_Check_init cd_Check_init ct_Check_init : Value}
    {dT_Check_init : Addr} {dd_Check_init : Option Addr} {dn_Check_init : Nat} {ds_Check_init : Array (Option Value)} {tD : Tok}
    {tB : Tok}
    {aK : Addr} {ddK : Option Addr} {nK : Nat} {slK : Array (Option Value)} {t1K t2K t3K : Tok}
    {aWY : Addr} {ddWY : Option Addr} {nWY : Nat} {slWY : Array (Option Value)} {t1WY t2WY t3WY : Tok}
    (a_is_integer : PySem.W.nsIn K mainGlobals "is_integer" = some (some (.ref f_is_integer)))
    (l_is_integer : K.lookup f_is_integer = some ⟨oc_is_integer, od_is_integer, .func (PySem.W.fnOf "is_integer" "is_integer" (fnArgs s_is_integer) (fnBody s_is_integer) (fnScope s_is_integer) .none kV_is_integer dc_is_integer pm_is_integer an_is_integer cd_is_integer ct_is_integer), sl_is_integer⟩)
    (c_is_integer : PySem.W.codeIn K cd_is_integer "is_integer" = true)
    (k_is_integer : PySem.W.keepIn K (.ref f_is_integer) = true)
    (a_is_number : PySem.W.nsIn K mainGlobals "is_number" = some (some (.ref f_is_number)))
    (l_is_number : K.lookup f_is_number = some ⟨oc_is_number, od_is_number, .func (PySem.W.fnOf "is_number" "is_number" (fnArgs s_is_number) (fnBody s_is_number) (fnScope s_is_number) .none kV_is_number dc_is_number pm_is_number an_is_number cd_is_number ct_is_number), sl_is_number⟩)
    (c_is_number : PySem.W.codeIn K cd_is_number "is_number" = true)
    (k_is_number : PySem.W.keepIn K (.ref f_is_number) = true)
    (a_is_sequence : PySem.W.nsIn K mainGlobals "is_sequence" = some (some (.ref f_is_sequence)))
    (l_is_sequence : K.lookup f_is_sequence = some ⟨oc_is_sequence, od_is_sequence, .func (PySem.W.fnOf "is_sequence" "is_sequence" (fnArgs s_is_sequence) (fnBody s_is_sequence) (fnScope s_is_sequence) .none kV_is_sequence dc_is_sequence pm_is_sequence an_is_sequence cd_is_sequence ct_is_sequence), sl_is_sequence⟩)
    (c_is_sequence : PySem.W.codeIn K cd_is_sequence "is_sequence" = true)
    (k_is_sequence : PySem.W.keepIn K (.ref f_is_sequence) = true)
    (a_is_word : PySem.W.nsIn K mainGlobals "is_word" = some (some (.ref f_is_word)))
    (l_is_word : K.lookup f_is_word = some ⟨oc_is_word, od_is_word, .func (PySem.W.fnOf "is_word" "is_word" (fnArgs s_is_word) (fnBody s_is_word) (fnScope s_is_word) .none kV_is_word dc_is_word pm_is_word an_is_word cd_is_word ct_is_word), sl_is_word⟩)
    (c_is_word : PySem.W.codeIn K cd_is_word "is_word" = true)
    (k_is_word : PySem.W.keepIn K (.ref f_is_word) = true)
    (a_is_bit : PySem.W.nsIn K mainGlobals "is_bit" = some (some (.ref f_is_bit)))
    (l_is_bit : K.lookup f_is_bit = some ⟨oc_is_bit, od_is_bit, .func (PySem.W.fnOf "is_bit" "is_bit" (fnArgs s_is_bit) (fnBody s_is_bit) (fnScope s_is_bit) .none kV_is_bit dc_is_bit pm_is_bit an_is_bit cd_is_bit ct_is_bit), sl_is_bit⟩)
    (c_is_bit : PySem.W.codeIn K cd_is_bit "is_bit" = true)
    (k_is_bit : PySem.W.keepIn K (.ref f_is_bit) = true)
    (a_other : PySem.W.nsIn K mainGlobals "other" = some (some (.ref f_other)))
    (l_other : K.lookup f_other = some ⟨oc_other, od_other, .func (PySem.W.fnOf "other" "other" (fnArgs s_other) (fnBody s_other) (fnScope s_other) .none kV_other dc_other pm_other an_other cd_other ct_other), sl_other⟩)
    (c_other : PySem.W.codeIn K cd_other "other" = true)
    (k_other : PySem.W.keepIn K (.ref f_other) = true)
    (a_all_words : PySem.W.nsIn K mainGlobals "all_words" = some (some (.ref f_all_words)))
    (l_all_words : K.lookup f_all_words = some ⟨oc_all_words, od_all_words, .func (PySem.W.fnOf "all_words" "all_words" (fnArgs s_all_words) (fnBody s_all_words) (fnScope s_all_words) .none kV_all_words dc_all_words pm_all_words an_all_words cd_all_words ct_all_words), sl_all_words⟩)
    (c_all_words : PySem.W.codeIn K cd_all_words "all_words" = true)
    (k_all_words : PySem.W.keepIn K (.ref f_all_words) = true)
    (a_tail : PySem.W.nsIn K mainGlobals "tail" = some (some (.ref f_tail)))
    (l_tail : K.lookup f_tail = some ⟨oc_tail, od_tail, .func (PySem.W.fnOf "tail" "tail" (fnArgs s_tail) (fnBody s_tail) (fnScope s_tail) .none kV_tail dc_tail pm_tail an_tail cd_tail ct_tail), sl_tail⟩)
    (c_tail : PySem.W.codeIn K cd_tail "tail" = true)
    (k_tail : PySem.W.keepIn K (.ref f_tail) = true)
    (a_arriving : PySem.W.nsIn K mainGlobals "arriving" = some (some (.ref f_arriving)))
    (l_arriving : K.lookup f_arriving = some ⟨oc_arriving, od_arriving, .func (PySem.W.fnOf "arriving" "arriving" (fnArgs s_arriving) (fnBody s_arriving) (fnScope s_arriving) .none kV_arriving dc_arriving pm_arriving an_arriving cd_arriving ct_arriving), sl_arriving⟩)
    (c_arriving : PySem.W.codeIn K cd_arriving "arriving" = true)
    (k_arriving : PySem.W.keepIn K (.ref f_arriving) = true)
    (a_is_hit : PySem.W.nsIn K mainGlobals "is_hit" = some (some (.ref f_is_hit)))
    (l_is_hit : K.lookup f_is_hit = some ⟨oc_is_hit, od_is_hit, .func (PySem.W.fnOf "is_hit" "is_hit" (fnArgs s_is_hit) (fnBody s_is_hit) (fnScope s_is_hit) .none kV_is_hit dc_is_hit pm_is_hit an_is_hit cd_is_hit ct_is_hit), sl_is_hit⟩)
    (c_is_hit : PySem.W.codeIn K cd_is_hit "is_hit" = true)
    (k_is_hit : PySem.W.keepIn K (.ref f_is_hit) = true)
    (a_hit : PySem.W.nsIn K mainGlobals "hit" = some (some (.ref f_hit)))
    (l_hit : K.lookup f_hit = some ⟨oc_hit, od_hit, .func (PySem.W.fnOf "hit" "hit" (fnArgs s_hit) (fnBody s_hit) (fnScope s_hit) .none kV_hit dc_hit pm_hit an_hit cd_hit ct_hit), sl_hit⟩)
    (c_hit : PySem.W.codeIn K cd_hit "hit" = true)
    (k_hit : PySem.W.keepIn K (.ref f_hit) = true)
    (a_put_behind : PySem.W.nsIn K mainGlobals "put_behind" = some (some (.ref f_put_behind)))
    (l_put_behind : K.lookup f_put_behind = some ⟨oc_put_behind, od_put_behind, .func (PySem.W.fnOf "put_behind" "put_behind" (fnArgs s_put_behind) (fnBody s_put_behind) (fnScope s_put_behind) .none kV_put_behind dc_put_behind pm_put_behind an_put_behind cd_put_behind ct_put_behind), sl_put_behind⟩)
    (c_put_behind : PySem.W.codeIn K cd_put_behind "put_behind" = true)
    (k_put_behind : PySem.W.keepIn K (.ref f_put_behind) = true)
    (a_body : PySem.W.nsIn K mainGlobals "body" = some (some (.ref f_body)))
    (l_body : K.lookup f_body = some ⟨oc_body, od_body, .func (PySem.W.fnOf "body" "body" (fnArgs s_body) (fnBody s_body) (fnScope s_body) .none kV_body dc_body pm_body an_body cd_body ct_body), sl_body⟩)
    (c_body : PySem.W.codeIn K cd_body "body" = true)
    (k_body : PySem.W.keepIn K (.ref f_body) = true)
    (a_taken_out : PySem.W.nsIn K mainGlobals "taken_out" = some (some (.ref f_taken_out)))
    (l_taken_out : K.lookup f_taken_out = some ⟨oc_taken_out, od_taken_out, .func (PySem.W.fnOf "taken_out" "taken_out" (fnArgs s_taken_out) (fnBody s_taken_out) (fnScope s_taken_out) .none kV_taken_out dc_taken_out pm_taken_out an_taken_out cd_taken_out ct_taken_out), sl_taken_out⟩)
    (c_taken_out : PySem.W.codeIn K cd_taken_out "taken_out" = true)
    (k_taken_out : PySem.W.keepIn K (.ref f_taken_out) = true)
    (a_read_part : PySem.W.nsIn K mainGlobals "read_part" = some (some (.ref f_read_part)))
    (l_read_part : K.lookup f_read_part = some ⟨oc_read_part, od_read_part, .func (PySem.W.fnOf "read_part" "read_part" (fnArgs s_read_part) (fnBody s_read_part) (fnScope s_read_part) .none kV_read_part dc_read_part pm_read_part an_read_part cd_read_part ct_read_part), sl_read_part⟩)
    (c_read_part : PySem.W.codeIn K cd_read_part "read_part" = true)
    (k_read_part : PySem.W.keepIn K (.ref f_read_part) = true)
    (a_receive : PySem.W.nsIn K mainGlobals "receive" = some (some (.ref f_receive)))
    (l_receive : K.lookup f_receive = some ⟨oc_receive, od_receive, .func (PySem.W.fnOf "receive" "receive" (fnArgs s_receive) (fnBody s_receive) (fnScope s_receive) .none kV_receive dc_receive pm_receive an_receive cd_receive ct_receive), sl_receive⟩)
    (c_receive : PySem.W.codeIn K cd_receive "receive" = true)
    (k_receive : PySem.W.keepIn K (.ref f_receive) = true)
    (a_ways_of : PySem.W.nsIn K mainGlobals "ways_of" = some (some (.ref f_ways_of)))
    (l_ways_of : K.lookup f_ways_of = some ⟨oc_ways_of, od_ways_of, .func (PySem.W.fnOf "ways_of" "ways_of" (fnArgs s_ways_of) (fnBody s_ways_of) (fnScope s_ways_of) .none kV_ways_of dc_ways_of pm_ways_of an_ways_of cd_ways_of ct_ways_of), sl_ways_of⟩)
    (c_ways_of : PySem.W.codeIn K cd_ways_of "ways_of" = true)
    (k_ways_of : PySem.W.keepIn K (.ref f_ways_of) = true)
    (a_all_hits : PySem.W.nsIn K mainGlobals "all_hits" = some (some (.ref f_all_hits)))
    (l_all_hits : K.lookup f_all_hits = some ⟨oc_all_hits, od_all_hits, .func (PySem.W.fnOf "all_hits" "all_hits" (fnArgs s_all_hits) (fnBody s_all_hits) (fnScope s_all_hits) .none kV_all_hits dc_all_hits pm_all_hits an_all_hits cd_all_hits ct_all_hits), sl_all_hits⟩)
    (c_all_hits : PySem.W.codeIn K cd_all_hits "all_hits" = true)
    (k_all_hits : PySem.W.keepIn K (.ref f_all_hits) = true)
    (a_way_of : PySem.W.nsIn K mainGlobals "way_of" = some (some (.ref f_way_of)))
    (l_way_of : K.lookup f_way_of = some ⟨oc_way_of, od_way_of, .func (PySem.W.fnOf "way_of" "way_of" (fnArgs s_way_of) (fnBody s_way_of) (fnScope s_way_of) .none kV_way_of dc_way_of pm_way_of an_way_of cd_way_of ct_way_of), sl_way_of⟩)
    (c_way_of : PySem.W.codeIn K cd_way_of "way_of" = true)
    (k_way_of : PySem.W.keepIn K (.ref f_way_of) = true)
    (a_count_unseen : PySem.W.nsIn K mainGlobals "count_unseen" = some (some (.ref f_count_unseen)))
    (l_count_unseen : K.lookup f_count_unseen = some ⟨oc_count_unseen, od_count_unseen, .func (PySem.W.fnOf "count_unseen" "count_unseen" (fnArgs s_count_unseen) (fnBody s_count_unseen) (fnScope s_count_unseen) .none kV_count_unseen dc_count_unseen pm_count_unseen an_count_unseen cd_count_unseen ct_count_unseen), sl_count_unseen⟩)
    (c_count_unseen : PySem.W.codeIn K cd_count_unseen "count_unseen" = true)
    (k_count_unseen : PySem.W.keepIn K (.ref f_count_unseen) = true)
    (a_is_stuff : PySem.W.nsIn K mainGlobals "is_stuff" = some (some (.ref f_is_stuff)))
    (l_is_stuff : K.lookup f_is_stuff = some ⟨oc_is_stuff, od_is_stuff, .func (PySem.W.fnOf "is_stuff" "is_stuff" (fnArgs s_is_stuff) (fnBody s_is_stuff) (fnScope s_is_stuff) .none kV_is_stuff dc_is_stuff pm_is_stuff an_is_stuff cd_is_stuff ct_is_stuff), sl_is_stuff⟩)
    (c_is_stuff : PySem.W.codeIn K cd_is_stuff "is_stuff" = true)
    (k_is_stuff : PySem.W.keepIn K (.ref f_is_stuff) = true)
    (a_are_stuffs : PySem.W.nsIn K mainGlobals "are_stuffs" = some (some (.ref f_are_stuffs)))
    (l_are_stuffs : K.lookup f_are_stuffs = some ⟨oc_are_stuffs, od_are_stuffs, .func (PySem.W.fnOf "are_stuffs" "are_stuffs" (fnArgs s_are_stuffs) (fnBody s_are_stuffs) (fnScope s_are_stuffs) .none kV_are_stuffs dc_are_stuffs pm_are_stuffs an_are_stuffs cd_are_stuffs ct_are_stuffs), sl_are_stuffs⟩)
    (c_are_stuffs : PySem.W.codeIn K cd_are_stuffs "are_stuffs" = true)
    (k_are_stuffs : PySem.W.keepIn K (.ref f_are_stuffs) = true)
    (a_l_seed : PySem.W.nsIn K mainGlobals "_law_seed" = some (some (.ref f_l_seed)))
    (l_l_seed : K.lookup f_l_seed = some ⟨oc_l_seed, od_l_seed, .func (PySem.W.fnOf "_law_seed" "_law_seed" (fnArgs s_l_seed) (fnBody s_l_seed) (fnScope s_l_seed) .none kV_l_seed dc_l_seed pm_l_seed an_l_seed cd_l_seed ct_l_seed), sl_l_seed⟩)
    (c_l_seed : PySem.W.codeIn K cd_l_seed "_law_seed" = true)
    (k_l_seed : PySem.W.keepIn K (.ref f_l_seed) = true)
    (a_l_choose : PySem.W.nsIn K mainGlobals "_law_choose" = some (some (.ref f_l_choose)))
    (l_l_choose : K.lookup f_l_choose = some ⟨oc_l_choose, od_l_choose, .func (PySem.W.fnOf "_law_choose" "_law_choose" (fnArgs s_l_choose) (fnBody s_l_choose) (fnScope s_l_choose) .none kV_l_choose dc_l_choose pm_l_choose an_l_choose cd_l_choose ct_l_choose), sl_l_choose⟩)
    (c_l_choose : PySem.W.codeIn K cd_l_choose "_law_choose" = true)
    (k_l_choose : PySem.W.keepIn K (.ref f_l_choose) = true)
    (a_l_one_of : PySem.W.nsIn K mainGlobals "_law_one_of" = some (some (.ref f_l_one_of)))
    (l_l_one_of : K.lookup f_l_one_of = some ⟨oc_l_one_of, od_l_one_of, .func (PySem.W.fnOf "_law_one_of" "_law_one_of" (fnArgs s_l_one_of) (fnBody s_l_one_of) (fnScope s_l_one_of) .none kV_l_one_of dc_l_one_of pm_l_one_of an_l_one_of cd_l_one_of ct_l_one_of), sl_l_one_of⟩)
    (c_l_one_of : PySem.W.codeIn K cd_l_one_of "_law_one_of" = true)
    (k_l_one_of : PySem.W.keepIn K (.ref f_l_one_of) = true)
    (a_l_word : PySem.W.nsIn K mainGlobals "_law_word" = some (some (.ref f_l_word)))
    (l_l_word : K.lookup f_l_word = some ⟨oc_l_word, od_l_word, .func (PySem.W.fnOf "_law_word" "_law_word" (fnArgs s_l_word) (fnBody s_l_word) (fnScope s_l_word) .none kV_l_word dc_l_word pm_l_word an_l_word cd_l_word ct_l_word), sl_l_word⟩)
    (c_l_word : PySem.W.codeIn K cd_l_word "_law_word" = true)
    (k_l_word : PySem.W.keepIn K (.ref f_l_word) = true)
    (a_l_words : PySem.W.nsIn K mainGlobals "_law_words" = some (some (.ref f_l_words)))
    (l_l_words : K.lookup f_l_words = some ⟨oc_l_words, od_l_words, .func (PySem.W.fnOf "_law_words" "_law_words" (fnArgs s_l_words) (fnBody s_l_words) (fnScope s_l_words) .none kV_l_words dc_l_words pm_l_words an_l_words cd_l_words ct_l_words), sl_l_words⟩)
    (c_l_words : PySem.W.codeIn K cd_l_words "_law_words" = true)
    (k_l_words : PySem.W.keepIn K (.ref f_l_words) = true)
    (a_l_put : PySem.W.nsIn K mainGlobals "_law_put" = some (some (.ref f_l_put)))
    (l_l_put : K.lookup f_l_put = some ⟨oc_l_put, od_l_put, .func (PySem.W.fnOf "_law_put" "_law_put" (fnArgs s_l_put) (fnBody s_l_put) (fnScope s_l_put) .none kV_l_put dc_l_put pm_l_put an_l_put cd_l_put ct_l_put), sl_l_put⟩)
    (c_l_put : PySem.W.codeIn K cd_l_put "_law_put" = true)
    (k_l_put : PySem.W.keepIn K (.ref f_l_put) = true)
    (a_l_is_rule : PySem.W.nsIn K mainGlobals "_law_is_rule" = some (some (.ref f_l_is_rule)))
    (l_l_is_rule : K.lookup f_l_is_rule = some ⟨oc_l_is_rule, od_l_is_rule, .func (PySem.W.fnOf "_law_is_rule" "_law_is_rule" (fnArgs s_l_is_rule) (fnBody s_l_is_rule) (fnScope s_l_is_rule) .none kV_l_is_rule dc_l_is_rule pm_l_is_rule an_l_is_rule cd_l_is_rule ct_l_is_rule), sl_l_is_rule⟩)
    (c_l_is_rule : PySem.W.codeIn K cd_l_is_rule "_law_is_rule" = true)
    (k_l_is_rule : PySem.W.keepIn K (.ref f_l_is_rule) = true)
    (a_l_rule : PySem.W.nsIn K mainGlobals "_law_rule" = some (some (.ref f_l_rule)))
    (l_l_rule : K.lookup f_l_rule = some ⟨oc_l_rule, od_l_rule, .func (PySem.W.fnOf "_law_rule" "_law_rule" (fnArgs s_l_rule) (fnBody s_l_rule) (fnScope s_l_rule) .none kV_l_rule dc_l_rule pm_l_rule an_l_rule cd_l_rule ct_l_rule), sl_l_rule⟩)
    (c_l_rule : PySem.W.codeIn K cd_l_rule "_law_rule" = true)
    (k_l_rule : PySem.W.keepIn K (.ref f_l_rule) = true)
    (a_l_made : PySem.W.nsIn K mainGlobals "_law_made" = some (some (.ref f_l_made)))
    (l_l_made : K.lookup f_l_made = some ⟨oc_l_made, od_l_made, .func (PySem.W.fnOf "_law_made" "_law_made" (fnArgs s_l_made) (fnBody s_l_made) (fnScope s_l_made) .none kV_l_made dc_l_made pm_l_made an_l_made cd_l_made ct_l_made), sl_l_made⟩)
    (c_l_made : PySem.W.codeIn K cd_l_made "_law_made" = true)
    (k_l_made : PySem.W.keepIn K (.ref f_l_made) = true)
    (a_l_body : PySem.W.nsIn K mainGlobals "_law_body" = some (some (.ref f_l_body)))
    (l_l_body : K.lookup f_l_body = some ⟨oc_l_body, od_l_body, .func (PySem.W.fnOf "_law_body" "_law_body" (fnArgs s_l_body) (fnBody s_l_body) (fnScope s_l_body) .none kV_l_body dc_l_body pm_l_body an_l_body cd_l_body ct_l_body), sl_l_body⟩)
    (c_l_body : PySem.W.codeIn K cd_l_body "_law_body" = true)
    (k_l_body : PySem.W.keepIn K (.ref f_l_body) = true)
    (a_l_read : PySem.W.nsIn K mainGlobals "_law_read" = some (some (.ref f_l_read)))
    (l_l_read : K.lookup f_l_read = some ⟨oc_l_read, od_l_read, .func (PySem.W.fnOf "_law_read" "_law_read" (fnArgs s_l_read) (fnBody s_l_read) (fnScope s_l_read) .none kV_l_read dc_l_read pm_l_read an_l_read cd_l_read ct_l_read), sl_l_read⟩)
    (c_l_read : PySem.W.codeIn K cd_l_read "_law_read" = true)
    (k_l_read : PySem.W.keepIn K (.ref f_l_read) = true)
    (a_l_check : PySem.W.nsIn K mainGlobals "_law_check" = some (some (.ref f_l_check)))
    (l_l_check : K.lookup f_l_check = some ⟨oc_l_check, od_l_check, .func (PySem.W.fnOf "_law_check" "_law_check" (fnArgs s_l_check) (fnBody s_l_check) (fnScope s_l_check) .none kV_l_check dc_l_check pm_l_check an_l_check cd_l_check ct_l_check), sl_l_check⟩)
    (c_l_check : PySem.W.codeIn K cd_l_check "_law_check" = true)
    (k_l_check : PySem.W.keepIn K (.ref f_l_check) = true)
    (a_l_rest : PySem.W.nsIn K mainGlobals "_law_rest" = some (some (.ref f_l_rest)))
    (l_l_rest : K.lookup f_l_rest = some ⟨oc_l_rest, od_l_rest, .func (PySem.W.fnOf "_law_rest" "_law_rest" (fnArgs s_l_rest) (fnBody s_l_rest) (fnScope s_l_rest) .none kV_l_rest dc_l_rest pm_l_rest an_l_rest cd_l_rest ct_l_rest), sl_l_rest⟩)
    (c_l_rest : PySem.W.codeIn K cd_l_rest "_law_rest" = true)
    (k_l_rest : PySem.W.keepIn K (.ref f_l_rest) = true)
    (a_l_is_good : PySem.W.nsIn K mainGlobals "_law_is_good" = some (some (.ref f_l_is_good)))
    (l_l_is_good : K.lookup f_l_is_good = some ⟨oc_l_is_good, od_l_is_good, .func (PySem.W.fnOf "_law_is_good" "_law_is_good" (fnArgs s_l_is_good) (fnBody s_l_is_good) (fnScope s_l_is_good) .none kV_l_is_good dc_l_is_good pm_l_is_good an_l_is_good cd_l_is_good ct_l_is_good), sl_l_is_good⟩)
    (c_l_is_good : PySem.W.codeIn K cd_l_is_good "_law_is_good" = true)
    (k_l_is_good : PySem.W.keepIn K (.ref f_l_is_good) = true)
    (a_l_bits_for : PySem.W.nsIn K mainGlobals "_law_bits_for" = some (some (.ref f_l_bits_for)))
    (l_l_bits_for : K.lookup f_l_bits_for = some ⟨oc_l_bits_for, od_l_bits_for, .func (PySem.W.fnOf "_law_bits_for" "_law_bits_for" (fnArgs s_l_bits_for) (fnBody s_l_bits_for) (fnScope s_l_bits_for) .none kV_l_bits_for dc_l_bits_for pm_l_bits_for an_l_bits_for cd_l_bits_for ct_l_bits_for), sl_l_bits_for⟩)
    (c_l_bits_for : PySem.W.codeIn K cd_l_bits_for "_law_bits_for" = true)
    (k_l_bits_for : PySem.W.keepIn K (.ref f_l_bits_for) = true)
    (a_l_receive : PySem.W.nsIn K mainGlobals "_law_receive" = some (some (.ref f_l_receive)))
    (l_l_receive : K.lookup f_l_receive = some ⟨oc_l_receive, od_l_receive, .func (PySem.W.fnOf "_law_receive" "_law_receive" (fnArgs s_l_receive) (fnBody s_l_receive) (fnScope s_l_receive) .none kV_l_receive dc_l_receive pm_l_receive an_l_receive cd_l_receive ct_l_receive), sl_l_receive⟩)
    (c_l_receive : PySem.W.codeIn K cd_l_receive "_law_receive" = true)
    (k_l_receive : PySem.W.keepIn K (.ref f_l_receive) = true)
    (a_l_arrived : PySem.W.nsIn K mainGlobals "_law_arrived" = some (some (.ref f_l_arrived)))
    (l_l_arrived : K.lookup f_l_arrived = some ⟨oc_l_arrived, od_l_arrived, .func (PySem.W.fnOf "_law_arrived" "_law_arrived" (fnArgs s_l_arrived) (fnBody s_l_arrived) (fnScope s_l_arrived) .none kV_l_arrived dc_l_arrived pm_l_arrived an_l_arrived cd_l_arrived ct_l_arrived), sl_l_arrived⟩)
    (c_l_arrived : PySem.W.codeIn K cd_l_arrived "_law_arrived" = true)
    (k_l_arrived : PySem.W.keepIn K (.ref f_l_arrived) = true)
    (a_l_hit_rows : PySem.W.nsIn K mainGlobals "_law_hit_rows" = some (some (.ref f_l_hit_rows)))
    (l_l_hit_rows : K.lookup f_l_hit_rows = some ⟨oc_l_hit_rows, od_l_hit_rows, .func (PySem.W.fnOf "_law_hit_rows" "_law_hit_rows" (fnArgs s_l_hit_rows) (fnBody s_l_hit_rows) (fnScope s_l_hit_rows) .none kV_l_hit_rows dc_l_hit_rows pm_l_hit_rows an_l_hit_rows cd_l_hit_rows ct_l_hit_rows), sl_l_hit_rows⟩)
    (c_l_hit_rows : PySem.W.codeIn K cd_l_hit_rows "_law_hit_rows" = true)
    (k_l_hit_rows : PySem.W.keepIn K (.ref f_l_hit_rows) = true)
    (a_l_way : PySem.W.nsIn K mainGlobals "_law_way" = some (some (.ref f_l_way)))
    (l_l_way : K.lookup f_l_way = some ⟨oc_l_way, od_l_way, .func (PySem.W.fnOf "_law_way" "_law_way" (fnArgs s_l_way) (fnBody s_l_way) (fnScope s_l_way) .none kV_l_way dc_l_way pm_l_way an_l_way cd_l_way ct_l_way), sl_l_way⟩)
    (c_l_way : PySem.W.codeIn K cd_l_way "_law_way" = true)
    (k_l_way : PySem.W.keepIn K (.ref f_l_way) = true)
    (a_l_kinds : PySem.W.nsIn K mainGlobals "_law_kinds" = some (some (.ref f_l_kinds)))
    (l_l_kinds : K.lookup f_l_kinds = some ⟨oc_l_kinds, od_l_kinds, .func (PySem.W.fnOf "_law_kinds" "_law_kinds" (fnArgs s_l_kinds) (fnBody s_l_kinds) (fnScope s_l_kinds) .none kV_l_kinds dc_l_kinds pm_l_kinds an_l_kinds cd_l_kinds ct_l_kinds), sl_l_kinds⟩)
    (c_l_kinds : PySem.W.codeIn K cd_l_kinds "_law_kinds" = true)
    (k_l_kinds : PySem.W.keepIn K (.ref f_l_kinds) = true)
    (a_l_counts : PySem.W.nsIn K mainGlobals "_law_counts" = some (some (.ref f_l_counts)))
    (l_l_counts : K.lookup f_l_counts = some ⟨oc_l_counts, od_l_counts, .func (PySem.W.fnOf "_law_counts" "_law_counts" (fnArgs s_l_counts) (fnBody s_l_counts) (fnScope s_l_counts) .none kV_l_counts dc_l_counts pm_l_counts an_l_counts cd_l_counts ct_l_counts), sl_l_counts⟩)
    (c_l_counts : PySem.W.codeIn K cd_l_counts "_law_counts" = true)
    (k_l_counts : PySem.W.keepIn K (.ref f_l_counts) = true)
    (a_law : PySem.W.nsIn K mainGlobals "law" = some (some (.ref f_law)))
    (l_law : K.lookup f_law = some ⟨oc_law, od_law, .func (PySem.W.fnOf "law" "law" (fnArgs s_law) (fnBody s_law) (fnScope s_law) .none kV_law dc_law pm_law an_law cd_law ct_law), sl_law⟩)
    (c_law : PySem.W.codeIn K cd_law "law" = true)
    (k_law : PySem.W.keepIn K (.ref f_law) = true)
    (aC_Rule : PySem.W.nsIn K mainGlobals "Rule" = some (some (.ref C_Rule)))
    (pg_Rule : PySem.W.plainGet K C_Rule Str.empty = true)
    (hd_Rule : PySem.W.hasDictIn K C_Rule = true)
    (po_Rule : PySem.W.plainOver K C_Rule = true)
    (sa_Rule : PySem.W.findIn K (.ref C_Rule) "__setattr__" = some (some (.builtin "object.__setattr__")))
    (mk_Rule : PySem.W.makesIn K C_Rule = true)
    (kc_Rule : PySem.W.keepIn K (.ref C_Rule) = true)
    (n_Rule_flag : PySem.W.findIn K (.ref C_Rule) "flag" = some none)
    (n_Rule_stuffs : PySem.W.findIn K (.ref C_Rule) "stuffs" = some none)
    (a_Rule_init : PySem.W.findIn K (.ref C_Rule) "__init__" = some (some (.ref f_Rule_init)))
    (i_Rule_init : PySem.W.isFn K (.ref f_Rule_init) = true)
    (l_Rule_init : K.lookup f_Rule_init = some ⟨oc_Rule_init, od_Rule_init, .func (PySem.W.fnOf "__init__" "Rule.__init__" (fnArgs s_Rule_init) (fnBody s_Rule_init) (fnScope s_Rule_init) (.ref dT_Rule_init) kV_Rule_init dc_Rule_init pm_Rule_init an_Rule_init cd_Rule_init ct_Rule_init), sl_Rule_init⟩)
    (c_Rule_init : PySem.W.codeIn K cd_Rule_init "Rule.__init__" = true)
    (k_Rule_init : PySem.W.keepIn K (.ref f_Rule_init) = true)
    (dl_Rule_init : K.lookup dT_Rule_init = some ⟨.type "tuple", dd_Rule_init, .seq #[.ref dE_R] dn_Rule_init, ds_Rule_init⟩)
    (dlE_Rule : K.lookup dE_R = some ⟨.type "tuple", dde_R, .seq #[] dne_R, dse_R⟩)
    (a_Rule_put : PySem.W.findIn K (.ref C_Rule) "put" = some (some (.ref f_Rule_put)))
    (i_Rule_put : PySem.W.isFn K (.ref f_Rule_put) = true)
    (l_Rule_put : K.lookup f_Rule_put = some ⟨oc_Rule_put, od_Rule_put, .func (PySem.W.fnOf "put" "Rule.put" (fnArgs s_Rule_put) (fnBody s_Rule_put) (fnScope s_Rule_put) .none kV_Rule_put dc_Rule_put pm_Rule_put an_Rule_put cd_Rule_put ct_Rule_put), sl_Rule_put⟩)
    (c_Rule_put : PySem.W.codeIn K cd_Rule_put "Rule.put" = true)
    (k_Rule_put : PySem.W.keepIn K (.ref f_Rule_put) = true)
    (a_Rule_longest : PySem.W.findIn K (.ref C_Rule) "longest" = some (some (.ref p_Rule_longest)))
    (g_Rule_longest : PySem.W.specialIn K (.ref p_Rule_longest) "__get__" = some (some (.builtin "property.__get__")))
    (t_Rule_longest : PySem.W.takesIn K (.ref p_Rule_longest) = some true)
    (r_Rule_longest : PySem.W.recIn K p_Rule_longest "property" = some (.ref f_Rule_longest :: pr_Rule_longest))
    (l_Rule_longest : K.lookup f_Rule_longest = some ⟨oc_Rule_longest, od_Rule_longest, .func (PySem.W.fnOf "longest" "Rule.longest" (fnArgs s_Rule_longest) (fnBody s_Rule_longest) (fnScope s_Rule_longest) .none kV_Rule_longest dc_Rule_longest pm_Rule_longest an_Rule_longest cd_Rule_longest ct_Rule_longest), sl_Rule_longest⟩)
    (c_Rule_longest : PySem.W.codeIn K cd_Rule_longest "Rule.longest" = true)
    (a_Rule_put_in : PySem.W.findIn K (.ref C_Rule) "put_in" = some (some (.ref f_Rule_put_in)))
    (i_Rule_put_in : PySem.W.isFn K (.ref f_Rule_put_in) = true)
    (l_Rule_put_in : K.lookup f_Rule_put_in = some ⟨oc_Rule_put_in, od_Rule_put_in, .func (PySem.W.fnOf "put_in" "Rule.put_in" (fnArgs s_Rule_put_in) (fnBody s_Rule_put_in) (fnScope s_Rule_put_in) .none kV_Rule_put_in dc_Rule_put_in pm_Rule_put_in an_Rule_put_in cd_Rule_put_in ct_Rule_put_in), sl_Rule_put_in⟩)
    (c_Rule_put_in : PySem.W.codeIn K cd_Rule_put_in "Rule.put_in" = true)
    (k_Rule_put_in : PySem.W.keepIn K (.ref f_Rule_put_in) = true)
    (a_Rule_is_endless : PySem.W.findIn K (.ref C_Rule) "is_endless" = some (some (.ref f_Rule_is_endless)))
    (i_Rule_is_endless : PySem.W.isFn K (.ref f_Rule_is_endless) = true)
    (l_Rule_is_endless : K.lookup f_Rule_is_endless = some ⟨oc_Rule_is_endless, od_Rule_is_endless, .func (PySem.W.fnOf "is_endless" "Rule.is_endless" (fnArgs s_Rule_is_endless) (fnBody s_Rule_is_endless) (fnScope s_Rule_is_endless) .none kV_Rule_is_endless dc_Rule_is_endless pm_Rule_is_endless an_Rule_is_endless cd_Rule_is_endless ct_Rule_is_endless), sl_Rule_is_endless⟩)
    (c_Rule_is_endless : PySem.W.codeIn K cd_Rule_is_endless "Rule.is_endless" = true)
    (k_Rule_is_endless : PySem.W.keepIn K (.ref f_Rule_is_endless) = true)
    (aC_Check : PySem.W.nsIn K mainGlobals "Check" = some (some (.ref C_Check)))
    (pg_Check : PySem.W.plainGet K C_Check Str.empty = true)
    (hd_Check : PySem.W.hasDictIn K C_Check = true)
    (po_Check : PySem.W.plainOver K C_Check = true)
    (sa_Check : PySem.W.findIn K (.ref C_Check) "__setattr__" = some (some (.builtin "object.__setattr__")))
    (mk_Check : PySem.W.makesIn K C_Check = true)
    (kc_Check : PySem.W.keepIn K (.ref C_Check) = true)
    (n_Check_poly : PySem.W.findIn K (.ref C_Check) "poly" = some none)
    (n_Check_start : PySem.W.findIn K (.ref C_Check) "start" = some none)
    (a_Check_step : PySem.W.findIn K (.ref C_Check) "step" = some (some (.ref f_Check_step)))
    (i_Check_step : PySem.W.isFn K (.ref f_Check_step) = true)
    (l_Check_step : K.lookup f_Check_step = some ⟨oc_Check_step, od_Check_step, .func (PySem.W.fnOf "step" "Check.step" (fnArgs s_Check_step) (fnBody s_Check_step) (fnScope s_Check_step) .none kV_Check_step dc_Check_step pm_Check_step an_Check_step cd_Check_step ct_Check_step), sl_Check_step⟩)
    (c_Check_step : PySem.W.codeIn K cd_Check_step "Check.step" = true)
    (k_Check_step : PySem.W.keepIn K (.ref f_Check_step) = true)
    (a_Check_rest : PySem.W.findIn K (.ref C_Check) "rest" = some (some (.ref f_Check_rest)))
    (i_Check_rest : PySem.W.isFn K (.ref f_Check_rest) = true)
    (l_Check_rest : K.lookup f_Check_rest = some ⟨oc_Check_rest, od_Check_rest, .func (PySem.W.fnOf "rest" "Check.rest" (fnArgs s_Check_rest) (fnBody s_Check_rest) (fnScope s_Check_rest) .none kV_Check_rest dc_Check_rest pm_Check_rest an_Check_rest cd_Check_rest ct_Check_rest), sl_Check_rest⟩)
    (c_Check_rest : PySem.W.codeIn K cd_Check_rest "Check.rest" = true)
    (k_Check_rest : PySem.W.keepIn K (.ref f_Check_rest) = true)
    (a_Check_degree : PySem.W.findIn K (.ref C_Check) "degree" = some (some (.ref p_Check_degree)))
    (g_Check_degree : PySem.W.specialIn K (.ref p_Check_degree) "__get__" = some (some (.builtin "property.__get__")))
    (t_Check_degree : PySem.W.takesIn K (.ref p_Check_degree) = some true)
    (r_Check_degree : PySem.W.recIn K p_Check_degree "property" = some (.ref f_Check_degree :: pr_Check_degree))
    (l_Check_degree : K.lookup f_Check_degree = some ⟨oc_Check_degree, od_Check_degree, .func (PySem.W.fnOf "degree" "Check.degree" (fnArgs s_Check_degree) (fnBody s_Check_degree) (fnScope s_Check_degree) .none kV_Check_degree dc_Check_degree pm_Check_degree an_Check_degree cd_Check_degree ct_Check_degree), sl_Check_degree⟩)
    (c_Check_degree : PySem.W.codeIn K cd_Check_degree "Check.degree" = true)
    (a_Check_bits_for : PySem.W.findIn K (.ref C_Check) "bits_for" = some (some (.ref f_Check_bits_for)))
    (i_Check_bits_for : PySem.W.isFn K (.ref f_Check_bits_for) = true)
    (l_Check_bits_for : K.lookup f_Check_bits_for = some ⟨oc_Check_bits_for, od_Check_bits_for, .func (PySem.W.fnOf "bits_for" "Check.bits_for" (fnArgs s_Check_bits_for) (fnBody s_Check_bits_for) (fnScope s_Check_bits_for) .none kV_Check_bits_for dc_Check_bits_for pm_Check_bits_for an_Check_bits_for cd_Check_bits_for ct_Check_bits_for), sl_Check_bits_for⟩)
    (c_Check_bits_for : PySem.W.codeIn K cd_Check_bits_for "Check.bits_for" = true)
    (k_Check_bits_for : PySem.W.keepIn K (.ref f_Check_bits_for) = true)
    (a_Check_is_good : PySem.W.findIn K (.ref C_Check) "is_good" = some (some (.ref f_Check_is_good)))
    (i_Check_is_good : PySem.W.isFn K (.ref f_Check_is_good) = true)
    (l_Check_is_good : K.lookup f_Check_is_good = some ⟨oc_Check_is_good, od_Check_is_good, .func (PySem.W.fnOf "is_good" "Check.is_good" (fnArgs s_Check_is_good) (fnBody s_Check_is_good) (fnScope s_Check_is_good) .none kV_Check_is_good dc_Check_is_good pm_Check_is_good an_Check_is_good cd_Check_is_good ct_Check_is_good), sl_Check_is_good⟩)
    (c_Check_is_good : PySem.W.codeIn K cd_Check_is_good "Check.is_good" = true)
    (k_Check_is_good : PySem.W.keepIn K (.ref f_Check_is_good) = true)
    (a_Check_init : PySem.W.findIn K (.ref C_Check) "__init__" = some (some (.ref f_Check_init)))
    (i_Check_init : PySem.W.isFn K (.ref f_Check_init) = true)
    (l_Check_init : K.lookup f_Check_init = some ⟨oc_Check_init, od_Check_init, .func (PySem.W.fnOf "__init__" "Check.__init__" (fnArgs s_Check_init) (fnBody s_Check_init) (fnScope s_Check_init) (.ref dT_Check_init) kV_Check_init dc_Check_init pm_Check_init an_Check_init cd_Check_init ct_Check_init), sl_Check_init⟩)
    (c_Check_init : PySem.W.codeIn K cd_Check_init "Check.__init__" = true)
    (k_Check_init : PySem.W.keepIn K (.ref f_Check_init) = true)
    (dl_Check_init : K.lookup dT_Check_init = some ⟨.type "tuple", dd_Check_init, .seq #[.str "1" tD, .none] dn_Check_init, ds_Check_init⟩)
    (gBITS : PySem.W.nsIn K mainGlobals "BITS" = some (some (.str "01" tB)))
    (gK : PySem.W.nsIn K mainGlobals "KINDS" = some (some (.ref aK)))
    (lK : K.lookup aK = some ⟨.type "tuple", ddK, .seq #[.str "double" t1K, .str "lose" t2K, .str "turn" t3K] nK, slK⟩)
    (gWY : PySem.W.nsIn K mainGlobals "WAYS" = some (some (.ref aWY)))
    (lWY : K.lookup aWY = some ⟨.type "tuple", ddWY, .seq #[.str "cut" t1WY, .str "same" t2WY, .str "shift" t3WY] nWY, slWY⟩)
    (z_len : PySem.W.nsIn K mainGlobals "len" = some none)
    (z_abs : PySem.W.nsIn K mainGlobals "abs" = some none)
    (z_int : PySem.W.nsIn K mainGlobals "int" = some none)
    (z_range : PySem.W.nsIn K mainGlobals "range" = some none)
    (z_max : PySem.W.nsIn K mainGlobals "max" = some none)
    (z_min : PySem.W.nsIn K mainGlobals "min" = some none)
    (z_enumerate : PySem.W.nsIn K mainGlobals "enumerate" = some none)
    (z_zip : PySem.W.nsIn K mainGlobals "zip" = some none)
    (z_dict : PySem.W.nsIn K mainGlobals "dict" = some none)
    (z_list : PySem.W.nsIn K mainGlobals "list" = some none)
    (z_tuple : PySem.W.nsIn K mainGlobals "tuple" = some none)
    (z_isinstance : PySem.W.nsIn K mainGlobals "isinstance" = some none)
    (z_bool : PySem.W.nsIn K mainGlobals "bool" = some none)
    (z_str : PySem.W.nsIn K mainGlobals "str" = some none)
    (z_all : PySem.W.nsIn K mainGlobals "all" = some none)
    (z_any : PySem.W.nsIn K mainGlobals "any" = some none)
    (z_sum : PySem.W.nsIn K mainGlobals "sum" = some none)
    (z_sorted : PySem.W.nsIn K mainGlobals "sorted" = some none)
    (z_repr : PySem.W.nsIn K mainGlobals "repr" = some none) :
    ∃ fd : FuncData, (∀ (s : Shared) (v : Value), BindsTo s fd ⟨[v], []⟩ [("_law_script", v)]) ∧ ∀ base : Heap, K.In base → base.Ns mainGlobals mg → FnOk l.prog w K mg base CX0 8 fa fd ["_law_script"] (spLaw K) := by
  have e : f_law = fa := Value.ref.inj (Option.some.inj ((PySem.W.mg_of X G a_law).symm.trans hfa))
  subst e
  have T : Tx mg := ⟨PySem.W.mg_none_of X G z_len, PySem.W.mg_none_of X G z_abs, PySem.W.mg_none_of X G z_int, PySem.W.mg_none_of X G z_range, PySem.W.mg_none_of X G z_max, PySem.W.mg_none_of X G z_min, PySem.W.mg_none_of X G z_enumerate, PySem.W.mg_none_of X G z_zip, PySem.W.mg_none_of X G z_dict, PySem.W.mg_none_of X G z_list, PySem.W.mg_none_of X G z_tuple, PySem.W.mg_none_of X G z_isinstance, PySem.W.mg_none_of X G z_bool, PySem.W.mg_none_of X G z_str, PySem.W.mg_none_of X G z_all, PySem.W.mg_none_of X G z_any, PySem.W.mg_none_of X G z_sum, PySem.W.mg_none_of X G z_sorted, PySem.W.mg_none_of X G z_repr⟩
  have F_is_integer : Def K mg "is_integer" s_is_integer f_is_integer (PySem.W.fnOf "is_integer" "is_integer" (fnArgs s_is_integer) (fnBody s_is_integer) (fnScope s_is_integer) .none kV_is_integer dc_is_integer pm_is_integer an_is_integer cd_is_integer ct_is_integer) := ⟨⟨_, _, _, _, _, _, _, _, _, _, rfl, l_is_integer, c_is_integer⟩, PySem.W.mg_of X G a_is_integer, k_is_integer⟩
  have b_is_integer := C8.Fun.binds (ps := ["value"]) F_is_integer.fn rfl fun _ _ _ _ _ _ us hl => match us, hl with | [_], _ => rfl
  have F_is_number : Def K mg "is_number" s_is_number f_is_number (PySem.W.fnOf "is_number" "is_number" (fnArgs s_is_number) (fnBody s_is_number) (fnScope s_is_number) .none kV_is_number dc_is_number pm_is_number an_is_number cd_is_number ct_is_number) := ⟨⟨_, _, _, _, _, _, _, _, _, _, rfl, l_is_number, c_is_number⟩, PySem.W.mg_of X G a_is_number, k_is_number⟩
  have b_is_number := C8.Fun.binds (ps := ["value"]) F_is_number.fn rfl fun _ _ _ _ _ _ us hl => match us, hl with | [_], _ => rfl
  have F_is_sequence : Def K mg "is_sequence" s_is_sequence f_is_sequence (PySem.W.fnOf "is_sequence" "is_sequence" (fnArgs s_is_sequence) (fnBody s_is_sequence) (fnScope s_is_sequence) .none kV_is_sequence dc_is_sequence pm_is_sequence an_is_sequence cd_is_sequence ct_is_sequence) := ⟨⟨_, _, _, _, _, _, _, _, _, _, rfl, l_is_sequence, c_is_sequence⟩, PySem.W.mg_of X G a_is_sequence, k_is_sequence⟩
  have b_is_sequence := C8.Fun.binds (ps := ["value"]) F_is_sequence.fn rfl fun _ _ _ _ _ _ us hl => match us, hl with | [_], _ => rfl
  have F_is_word : Def K mg "is_word" s_is_word f_is_word (PySem.W.fnOf "is_word" "is_word" (fnArgs s_is_word) (fnBody s_is_word) (fnScope s_is_word) .none kV_is_word dc_is_word pm_is_word an_is_word cd_is_word ct_is_word) := ⟨⟨_, _, _, _, _, _, _, _, _, _, rfl, l_is_word, c_is_word⟩, PySem.W.mg_of X G a_is_word, k_is_word⟩
  have b_is_word := C8.Fun.binds (ps := ["value"]) F_is_word.fn rfl fun _ _ _ _ _ _ us hl => match us, hl with | [_], _ => rfl
  have F_is_bit : Def K mg "is_bit" s_is_bit f_is_bit (PySem.W.fnOf "is_bit" "is_bit" (fnArgs s_is_bit) (fnBody s_is_bit) (fnScope s_is_bit) .none kV_is_bit dc_is_bit pm_is_bit an_is_bit cd_is_bit ct_is_bit) := ⟨⟨_, _, _, _, _, _, _, _, _, _, rfl, l_is_bit, c_is_bit⟩, PySem.W.mg_of X G a_is_bit, k_is_bit⟩
  have b_is_bit := C8.Fun.binds (ps := ["value"]) F_is_bit.fn rfl fun _ _ _ _ _ _ us hl => match us, hl with | [_], _ => rfl
  have F_other : Def K mg "other" s_other f_other (PySem.W.fnOf "other" "other" (fnArgs s_other) (fnBody s_other) (fnScope s_other) .none kV_other dc_other pm_other an_other cd_other ct_other) := ⟨⟨_, _, _, _, _, _, _, _, _, _, rfl, l_other, c_other⟩, PySem.W.mg_of X G a_other, k_other⟩
  have b_other := C8.Fun.binds (ps := ["bit"]) F_other.fn rfl fun _ _ _ _ _ _ us hl => match us, hl with | [_], _ => rfl
  have F_all_words : Def K mg "all_words" s_all_words f_all_words (PySem.W.fnOf "all_words" "all_words" (fnArgs s_all_words) (fnBody s_all_words) (fnScope s_all_words) .none kV_all_words dc_all_words pm_all_words an_all_words cd_all_words ct_all_words) := ⟨⟨_, _, _, _, _, _, _, _, _, _, rfl, l_all_words, c_all_words⟩, PySem.W.mg_of X G a_all_words, k_all_words⟩
  have b_all_words := C8.Fun.binds (ps := ["size"]) F_all_words.fn rfl fun _ _ _ _ _ _ us hl => match us, hl with | [_], _ => rfl
  have F_tail : Def K mg "tail" s_tail f_tail (PySem.W.fnOf "tail" "tail" (fnArgs s_tail) (fnBody s_tail) (fnScope s_tail) .none kV_tail dc_tail pm_tail an_tail cd_tail ct_tail) := ⟨⟨_, _, _, _, _, _, _, _, _, _, rfl, l_tail, c_tail⟩, PySem.W.mg_of X G a_tail, k_tail⟩
  have b_tail := C8.Fun.binds (ps := ["line", "size"]) F_tail.fn rfl fun _ _ _ _ _ _ us hl => match us, hl with | [_, _], _ => rfl
  have F_arriving : Def K mg "arriving" s_arriving f_arriving (PySem.W.fnOf "arriving" "arriving" (fnArgs s_arriving) (fnBody s_arriving) (fnScope s_arriving) .none kV_arriving dc_arriving pm_arriving an_arriving cd_arriving ct_arriving) := ⟨⟨_, _, _, _, _, _, _, _, _, _, rfl, l_arriving, c_arriving⟩, PySem.W.mg_of X G a_arriving, k_arriving⟩
  have b_arriving := C8.Fun.binds (ps := ["bit", "kind"]) F_arriving.fn rfl fun _ _ _ _ _ _ us hl => match us, hl with | [_, _], _ => rfl
  have F_is_hit : Def K mg "is_hit" s_is_hit f_is_hit (PySem.W.fnOf "is_hit" "is_hit" (fnArgs s_is_hit) (fnBody s_is_hit) (fnScope s_is_hit) .none kV_is_hit dc_is_hit pm_is_hit an_is_hit cd_is_hit ct_is_hit) := ⟨⟨_, _, _, _, _, _, _, _, _, _, rfl, l_is_hit, c_is_hit⟩, PySem.W.mg_of X G a_is_hit, k_is_hit⟩
  have b_is_hit := C8.Fun.binds (ps := ["value", "least", "many"]) F_is_hit.fn rfl fun _ _ _ _ _ _ us hl => match us, hl with | [_, _, _], _ => rfl
  have F_hit : Def K mg "hit" s_hit f_hit (PySem.W.fnOf "hit" "hit" (fnArgs s_hit) (fnBody s_hit) (fnScope s_hit) .none kV_hit dc_hit pm_hit an_hit cd_hit ct_hit) := ⟨⟨_, _, _, _, _, _, _, _, _, _, rfl, l_hit, c_hit⟩, PySem.W.mg_of X G a_hit, k_hit⟩
  have b_hit := C8.Fun.binds (ps := ["line", "hits"]) F_hit.fn rfl fun _ _ _ _ _ _ us hl => match us, hl with | [_, _], _ => rfl
  have F_put_behind : Def K mg "put_behind" s_put_behind f_put_behind (PySem.W.fnOf "put_behind" "put_behind" (fnArgs s_put_behind) (fnBody s_put_behind) (fnScope s_put_behind) .none kV_put_behind dc_put_behind pm_put_behind an_put_behind cd_put_behind ct_put_behind) := ⟨⟨_, _, _, _, _, _, _, _, _, _, rfl, l_put_behind, c_put_behind⟩, PySem.W.mg_of X G a_put_behind, k_put_behind⟩
  have b_put_behind := C8.Fun.binds (ps := ["rule", "line"]) F_put_behind.fn rfl fun _ _ _ _ _ _ us hl => match us, hl with | [_, _], _ => rfl
  have F_body : Def K mg "body" s_body f_body (PySem.W.fnOf "body" "body" (fnArgs s_body) (fnBody s_body) (fnScope s_body) .none kV_body dc_body pm_body an_body cd_body ct_body) := ⟨⟨_, _, _, _, _, _, _, _, _, _, rfl, l_body, c_body⟩, PySem.W.mg_of X G a_body, k_body⟩
  have b_body := C8.Fun.binds (ps := ["rule", "message"]) F_body.fn rfl fun _ _ _ _ _ _ us hl => match us, hl with | [_, _], _ => rfl
  have F_taken_out : Def K mg "taken_out" s_taken_out f_taken_out (PySem.W.fnOf "taken_out" "taken_out" (fnArgs s_taken_out) (fnBody s_taken_out) (fnScope s_taken_out) .none kV_taken_out dc_taken_out pm_taken_out an_taken_out cd_taken_out ct_taken_out) := ⟨⟨_, _, _, _, _, _, _, _, _, _, rfl, l_taken_out, c_taken_out⟩, PySem.W.mg_of X G a_taken_out, k_taken_out⟩
  have b_taken_out := C8.Fun.binds (ps := ["rule", "line"]) F_taken_out.fn rfl fun _ _ _ _ _ _ us hl => match us, hl with | [_, _], _ => rfl
  have F_read_part : Def K mg "read_part" s_read_part f_read_part (PySem.W.fnOf "read_part" "read_part" (fnArgs s_read_part) (fnBody s_read_part) (fnScope s_read_part) .none kV_read_part dc_read_part pm_read_part an_read_part cd_read_part ct_read_part) := ⟨⟨_, _, _, _, _, _, _, _, _, _, rfl, l_read_part, c_read_part⟩, PySem.W.mg_of X G a_read_part, k_read_part⟩
  have b_read_part := C8.Fun.binds (ps := ["rule", "check", "part"]) F_read_part.fn rfl fun _ _ _ _ _ _ us hl => match us, hl with | [_, _, _], _ => rfl
  have F_receive : Def K mg "receive" s_receive f_receive (PySem.W.fnOf "receive" "receive" (fnArgs s_receive) (fnBody s_receive) (fnScope s_receive) .none kV_receive dc_receive pm_receive an_receive cd_receive ct_receive) := ⟨⟨_, _, _, _, _, _, _, _, _, _, rfl, l_receive, c_receive⟩, PySem.W.mg_of X G a_receive, k_receive⟩
  have b_receive := C8.Fun.binds (ps := ["rule", "check", "raw"]) F_receive.fn rfl fun _ _ _ _ _ _ us hl => match us, hl with | [_, _, _], _ => rfl
  have F_ways_of : Def K mg "ways_of" s_ways_of f_ways_of (PySem.W.fnOf "ways_of" "ways_of" (fnArgs s_ways_of) (fnBody s_ways_of) (fnScope s_ways_of) .none kV_ways_of dc_ways_of pm_ways_of an_ways_of cd_ways_of ct_ways_of) := ⟨⟨_, _, _, _, _, _, _, _, _, _, rfl, l_ways_of, c_ways_of⟩, PySem.W.mg_of X G a_ways_of, k_ways_of⟩
  have b_ways_of := C8.Fun.binds (ps := ["how"]) F_ways_of.fn rfl fun _ _ _ _ _ _ us hl => match us, hl with | [_], _ => rfl
  have F_all_hits : Def K mg "all_hits" s_all_hits f_all_hits (PySem.W.fnOf "all_hits" "all_hits" (fnArgs s_all_hits) (fnBody s_all_hits) (fnScope s_all_hits) .none kV_all_hits dc_all_hits pm_all_hits an_all_hits cd_all_hits ct_all_hits) := ⟨⟨_, _, _, _, _, _, _, _, _, _, rfl, l_all_hits, c_all_hits⟩, PySem.W.mg_of X G a_all_hits, k_all_hits⟩
  have b_all_hits := C8.Fun.binds (ps := ["many", "kinds", "hits"]) F_all_hits.fn rfl fun _ _ _ _ _ _ us hl => match us, hl with | [_, _, _], _ => rfl
  have F_way_of : Def K mg "way_of" s_way_of f_way_of (PySem.W.fnOf "way_of" "way_of" (fnArgs s_way_of) (fnBody s_way_of) (fnScope s_way_of) .none kV_way_of dc_way_of pm_way_of an_way_of cd_way_of ct_way_of) := ⟨⟨_, _, _, _, _, _, _, _, _, _, rfl, l_way_of, c_way_of⟩, PySem.W.mg_of X G a_way_of, k_way_of⟩
  have b_way_of := C8.Fun.binds (ps := ["rule", "check", "data", "line", "hits"]) F_way_of.fn rfl fun _ _ _ _ _ _ us hl => match us, hl with | [_, _, _, _, _], _ => rfl
  have F_count_unseen : Def K mg "count_unseen" s_count_unseen f_count_unseen (PySem.W.fnOf "count_unseen" "count_unseen" (fnArgs s_count_unseen) (fnBody s_count_unseen) (fnScope s_count_unseen) .none kV_count_unseen dc_count_unseen pm_count_unseen an_count_unseen cd_count_unseen ct_count_unseen) := ⟨⟨_, _, _, _, _, _, _, _, _, _, rfl, l_count_unseen, c_count_unseen⟩, PySem.W.mg_of X G a_count_unseen, k_count_unseen⟩
  have b_count_unseen := C8.Fun.binds (ps := ["rule", "check", "kinds", "size", "hits", "how"]) F_count_unseen.fn rfl fun _ _ _ _ _ _ us hl => match us, hl with | [_, _, _, _, _, _], _ => rfl
  have F_is_stuff : Def K mg "is_stuff" s_is_stuff f_is_stuff (PySem.W.fnOf "is_stuff" "is_stuff" (fnArgs s_is_stuff) (fnBody s_is_stuff) (fnScope s_is_stuff) .none kV_is_stuff dc_is_stuff pm_is_stuff an_is_stuff cd_is_stuff ct_is_stuff) := ⟨⟨_, _, _, _, _, _, _, _, _, _, rfl, l_is_stuff, c_is_stuff⟩, PySem.W.mg_of X G a_is_stuff, k_is_stuff⟩
  have b_is_stuff := C8.Fun.binds (ps := ["value"]) F_is_stuff.fn rfl fun _ _ _ _ _ _ us hl => match us, hl with | [_], _ => rfl
  have F_are_stuffs : Def K mg "are_stuffs" s_are_stuffs f_are_stuffs (PySem.W.fnOf "are_stuffs" "are_stuffs" (fnArgs s_are_stuffs) (fnBody s_are_stuffs) (fnScope s_are_stuffs) .none kV_are_stuffs dc_are_stuffs pm_are_stuffs an_are_stuffs cd_are_stuffs ct_are_stuffs) := ⟨⟨_, _, _, _, _, _, _, _, _, _, rfl, l_are_stuffs, c_are_stuffs⟩, PySem.W.mg_of X G a_are_stuffs, k_are_stuffs⟩
  have b_are_stuffs := C8.Fun.binds (ps := ["value"]) F_are_stuffs.fn rfl fun _ _ _ _ _ _ us hl => match us, hl with | [_], _ => rfl
  have F_l_seed : Def K mg "_law_seed" s_l_seed f_l_seed (PySem.W.fnOf "_law_seed" "_law_seed" (fnArgs s_l_seed) (fnBody s_l_seed) (fnScope s_l_seed) .none kV_l_seed dc_l_seed pm_l_seed an_l_seed cd_l_seed ct_l_seed) := ⟨⟨_, _, _, _, _, _, _, _, _, _, rfl, l_l_seed, c_l_seed⟩, PySem.W.mg_of X G a_l_seed, k_l_seed⟩
  have b_l_seed := C8.Fun.binds (ps := ["_law_script", "_law_k"]) F_l_seed.fn rfl fun _ _ _ _ _ _ us hl => match us, hl with | [_, _], _ => rfl
  have F_l_choose : Def K mg "_law_choose" s_l_choose f_l_choose (PySem.W.fnOf "_law_choose" "_law_choose" (fnArgs s_l_choose) (fnBody s_l_choose) (fnScope s_l_choose) .none kV_l_choose dc_l_choose pm_l_choose an_l_choose cd_l_choose ct_l_choose) := ⟨⟨_, _, _, _, _, _, _, _, _, _, rfl, l_l_choose, c_l_choose⟩, PySem.W.mg_of X G a_l_choose, k_l_choose⟩
  have b_l_choose := C8.Fun.binds (ps := ["_law_box", "_law_many"]) F_l_choose.fn rfl fun _ _ _ _ _ _ us hl => match us, hl with | [_, _], _ => rfl
  have F_l_one_of : Def K mg "_law_one_of" s_l_one_of f_l_one_of (PySem.W.fnOf "_law_one_of" "_law_one_of" (fnArgs s_l_one_of) (fnBody s_l_one_of) (fnScope s_l_one_of) .none kV_l_one_of dc_l_one_of pm_l_one_of an_l_one_of cd_l_one_of ct_l_one_of) := ⟨⟨_, _, _, _, _, _, _, _, _, _, rfl, l_l_one_of, c_l_one_of⟩, PySem.W.mg_of X G a_l_one_of, k_l_one_of⟩
  have b_l_one_of := C8.Fun.binds (ps := ["_law_box", "_law_some"]) F_l_one_of.fn rfl fun _ _ _ _ _ _ us hl => match us, hl with | [_, _], _ => rfl
  have F_l_word : Def K mg "_law_word" s_l_word f_l_word (PySem.W.fnOf "_law_word" "_law_word" (fnArgs s_l_word) (fnBody s_l_word) (fnScope s_l_word) .none kV_l_word dc_l_word pm_l_word an_l_word cd_l_word ct_l_word) := ⟨⟨_, _, _, _, _, _, _, _, _, _, rfl, l_l_word, c_l_word⟩, PySem.W.mg_of X G a_l_word, k_l_word⟩
  have b_l_word := C8.Fun.binds (ps := ["_law_box", "_law_few", "_law_many"]) F_l_word.fn rfl fun _ _ _ _ _ _ us hl => match us, hl with | [_, _, _], _ => rfl
  have F_l_words : Def K mg "_law_words" s_l_words f_l_words (PySem.W.fnOf "_law_words" "_law_words" (fnArgs s_l_words) (fnBody s_l_words) (fnScope s_l_words) .none kV_l_words dc_l_words pm_l_words an_l_words cd_l_words ct_l_words) := ⟨⟨_, _, _, _, _, _, _, _, _, _, rfl, l_l_words, c_l_words⟩, PySem.W.mg_of X G a_l_words, k_l_words⟩
  have b_l_words := C8.Fun.binds (ps := ["_law_size"]) F_l_words.fn rfl fun _ _ _ _ _ _ us hl => match us, hl with | [_], _ => rfl
  have F_l_put : Def K mg "_law_put" s_l_put f_l_put (PySem.W.fnOf "_law_put" "_law_put" (fnArgs s_l_put) (fnBody s_l_put) (fnScope s_l_put) .none kV_l_put dc_l_put pm_l_put an_l_put cd_l_put ct_l_put) := ⟨⟨_, _, _, _, _, _, _, _, _, _, rfl, l_l_put, c_l_put⟩, PySem.W.mg_of X G a_l_put, k_l_put⟩
  have b_l_put := C8.Fun.binds (ps := ["_law_rule_here", "_law_line"]) F_l_put.fn rfl fun _ _ _ _ _ _ us hl => match us, hl with | [_, _], _ => rfl
  have F_l_is_rule : Def K mg "_law_is_rule" s_l_is_rule f_l_is_rule (PySem.W.fnOf "_law_is_rule" "_law_is_rule" (fnArgs s_l_is_rule) (fnBody s_l_is_rule) (fnScope s_l_is_rule) .none kV_l_is_rule dc_l_is_rule pm_l_is_rule an_l_is_rule cd_l_is_rule ct_l_is_rule) := ⟨⟨_, _, _, _, _, _, _, _, _, _, rfl, l_l_is_rule, c_l_is_rule⟩, PySem.W.mg_of X G a_l_is_rule, k_l_is_rule⟩
  have b_l_is_rule := C8.Fun.binds (ps := ["_law_rule_here"]) F_l_is_rule.fn rfl fun _ _ _ _ _ _ us hl => match us, hl with | [_], _ => rfl
  have F_l_rule : Def K mg "_law_rule" s_l_rule f_l_rule (PySem.W.fnOf "_law_rule" "_law_rule" (fnArgs s_l_rule) (fnBody s_l_rule) (fnScope s_l_rule) .none kV_l_rule dc_l_rule pm_l_rule an_l_rule cd_l_rule ct_l_rule) := ⟨⟨_, _, _, _, _, _, _, _, _, _, rfl, l_l_rule, c_l_rule⟩, PySem.W.mg_of X G a_l_rule, k_l_rule⟩
  have b_l_rule := C8.Fun.binds (ps := ["_law_box", "_law_widest", "_law_longest_one"]) F_l_rule.fn rfl fun _ _ _ _ _ _ us hl => match us, hl with | [_, _, _], _ => rfl
  have F_l_made : Def K mg "_law_made" s_l_made f_l_made (PySem.W.fnOf "_law_made" "_law_made" (fnArgs s_l_made) (fnBody s_l_made) (fnScope s_l_made) .none kV_l_made dc_l_made pm_l_made an_l_made cd_l_made ct_l_made) := ⟨⟨_, _, _, _, _, _, _, _, _, _, rfl, l_l_made, c_l_made⟩, PySem.W.mg_of X G a_l_made, k_l_made⟩
  have b_l_made := C8.Fun.binds (ps := ["_law_rule_here"]) F_l_made.fn rfl fun _ _ _ _ _ _ us hl => match us, hl with | [_], _ => rfl
  have F_l_body : Def K mg "_law_body" s_l_body f_l_body (PySem.W.fnOf "_law_body" "_law_body" (fnArgs s_l_body) (fnBody s_l_body) (fnScope s_l_body) .none kV_l_body dc_l_body pm_l_body an_l_body cd_l_body ct_l_body) := ⟨⟨_, _, _, _, _, _, _, _, _, _, rfl, l_l_body, c_l_body⟩, PySem.W.mg_of X G a_l_body, k_l_body⟩
  have b_l_body := C8.Fun.binds (ps := ["_law_rule_here", "_law_message"]) F_l_body.fn rfl fun _ _ _ _ _ _ us hl => match us, hl with | [_, _], _ => rfl
  have F_l_read : Def K mg "_law_read" s_l_read f_l_read (PySem.W.fnOf "_law_read" "_law_read" (fnArgs s_l_read) (fnBody s_l_read) (fnScope s_l_read) .none kV_l_read dc_l_read pm_l_read an_l_read cd_l_read ct_l_read) := ⟨⟨_, _, _, _, _, _, _, _, _, _, rfl, l_l_read, c_l_read⟩, PySem.W.mg_of X G a_l_read, k_l_read⟩
  have b_l_read := C8.Fun.binds (ps := ["_law_rule_here", "_law_line"]) F_l_read.fn rfl fun _ _ _ _ _ _ us hl => match us, hl with | [_, _], _ => rfl
  have F_l_check : Def K mg "_law_check" s_l_check f_l_check (PySem.W.fnOf "_law_check" "_law_check" (fnArgs s_l_check) (fnBody s_l_check) (fnScope s_l_check) .none kV_l_check dc_l_check pm_l_check an_l_check cd_l_check ct_l_check) := ⟨⟨_, _, _, _, _, _, _, _, _, _, rfl, l_l_check, c_l_check⟩, PySem.W.mg_of X G a_l_check, k_l_check⟩
  have b_l_check := C8.Fun.binds (ps := ["_law_box", "_law_most"]) F_l_check.fn rfl fun _ _ _ _ _ _ us hl => match us, hl with | [_, _], _ => rfl
  have F_l_rest : Def K mg "_law_rest" s_l_rest f_l_rest (PySem.W.fnOf "_law_rest" "_law_rest" (fnArgs s_l_rest) (fnBody s_l_rest) (fnScope s_l_rest) .none kV_l_rest dc_l_rest pm_l_rest an_l_rest cd_l_rest ct_l_rest) := ⟨⟨_, _, _, _, _, _, _, _, _, _, rfl, l_l_rest, c_l_rest⟩, PySem.W.mg_of X G a_l_rest, k_l_rest⟩
  have b_l_rest := C8.Fun.binds (ps := ["_law_check_here", "_law_bits"]) F_l_rest.fn rfl fun _ _ _ _ _ _ us hl => match us, hl with | [_, _], _ => rfl
  have F_l_is_good : Def K mg "_law_is_good" s_l_is_good f_l_is_good (PySem.W.fnOf "_law_is_good" "_law_is_good" (fnArgs s_l_is_good) (fnBody s_l_is_good) (fnScope s_l_is_good) .none kV_l_is_good dc_l_is_good pm_l_is_good an_l_is_good cd_l_is_good ct_l_is_good) := ⟨⟨_, _, _, _, _, _, _, _, _, _, rfl, l_l_is_good, c_l_is_good⟩, PySem.W.mg_of X G a_l_is_good, k_l_is_good⟩
  have b_l_is_good := C8.Fun.binds (ps := ["_law_check_here", "_law_message"]) F_l_is_good.fn rfl fun _ _ _ _ _ _ us hl => match us, hl with | [_, _], _ => rfl
  have F_l_bits_for : Def K mg "_law_bits_for" s_l_bits_for f_l_bits_for (PySem.W.fnOf "_law_bits_for" "_law_bits_for" (fnArgs s_l_bits_for) (fnBody s_l_bits_for) (fnScope s_l_bits_for) .none kV_l_bits_for dc_l_bits_for pm_l_bits_for an_l_bits_for cd_l_bits_for ct_l_bits_for) := ⟨⟨_, _, _, _, _, _, _, _, _, _, rfl, l_l_bits_for, c_l_bits_for⟩, PySem.W.mg_of X G a_l_bits_for, k_l_bits_for⟩
  have b_l_bits_for := C8.Fun.binds (ps := ["_law_check_here", "_law_data"]) F_l_bits_for.fn rfl fun _ _ _ _ _ _ us hl => match us, hl with | [_, _], _ => rfl
  have F_l_receive : Def K mg "_law_receive" s_l_receive f_l_receive (PySem.W.fnOf "_law_receive" "_law_receive" (fnArgs s_l_receive) (fnBody s_l_receive) (fnScope s_l_receive) .none kV_l_receive dc_l_receive pm_l_receive an_l_receive cd_l_receive ct_l_receive) := ⟨⟨_, _, _, _, _, _, _, _, _, _, rfl, l_l_receive, c_l_receive⟩, PySem.W.mg_of X G a_l_receive, k_l_receive⟩
  have b_l_receive := C8.Fun.binds (ps := ["_law_rule_here", "_law_check_here", "_law_raw"]) F_l_receive.fn rfl fun _ _ _ _ _ _ us hl => match us, hl with | [_, _, _], _ => rfl
  have F_l_arrived : Def K mg "_law_arrived" s_l_arrived f_l_arrived (PySem.W.fnOf "_law_arrived" "_law_arrived" (fnArgs s_l_arrived) (fnBody s_l_arrived) (fnScope s_l_arrived) .none kV_l_arrived dc_l_arrived pm_l_arrived an_l_arrived cd_l_arrived ct_l_arrived) := ⟨⟨_, _, _, _, _, _, _, _, _, _, rfl, l_l_arrived, c_l_arrived⟩, PySem.W.mg_of X G a_l_arrived, k_l_arrived⟩
  have b_l_arrived := C8.Fun.binds (ps := ["_law_line", "_law_told"]) F_l_arrived.fn rfl fun _ _ _ _ _ _ us hl => match us, hl with | [_, _], _ => rfl
  have F_l_hit_rows : Def K mg "_law_hit_rows" s_l_hit_rows f_l_hit_rows (PySem.W.fnOf "_law_hit_rows" "_law_hit_rows" (fnArgs s_l_hit_rows) (fnBody s_l_hit_rows) (fnScope s_l_hit_rows) .none kV_l_hit_rows dc_l_hit_rows pm_l_hit_rows an_l_hit_rows cd_l_hit_rows ct_l_hit_rows) := ⟨⟨_, _, _, _, _, _, _, _, _, _, rfl, l_l_hit_rows, c_l_hit_rows⟩, PySem.W.mg_of X G a_l_hit_rows, k_l_hit_rows⟩
  have b_l_hit_rows := C8.Fun.binds (ps := ["_law_many", "_law_kinds_here", "_law_size"]) F_l_hit_rows.fn rfl fun _ _ _ _ _ _ us hl => match us, hl with | [_, _, _], _ => rfl
  have F_l_way : Def K mg "_law_way" s_l_way f_l_way (PySem.W.fnOf "_law_way" "_law_way" (fnArgs s_l_way) (fnBody s_l_way) (fnScope s_l_way) .none kV_l_way dc_l_way pm_l_way an_l_way cd_l_way ct_l_way) := ⟨⟨_, _, _, _, _, _, _, _, _, _, rfl, l_l_way, c_l_way⟩, PySem.W.mg_of X G a_l_way, k_l_way⟩
  have b_l_way := C8.Fun.binds (ps := ["_law_rule_here", "_law_check_here", "_law_data", "_law_told"]) F_l_way.fn rfl fun _ _ _ _ _ _ us hl => match us, hl with | [_, _, _, _], _ => rfl
  have F_l_kinds : Def K mg "_law_kinds" s_l_kinds f_l_kinds (PySem.W.fnOf "_law_kinds" "_law_kinds" (fnArgs s_l_kinds) (fnBody s_l_kinds) (fnScope s_l_kinds) .none kV_l_kinds dc_l_kinds pm_l_kinds an_l_kinds cd_l_kinds ct_l_kinds) := ⟨⟨_, _, _, _, _, _, _, _, _, _, rfl, l_l_kinds, c_l_kinds⟩, PySem.W.mg_of X G a_l_kinds, k_l_kinds⟩
  have b_l_kinds := C8.Fun.binds (ps := ["_law_box"]) F_l_kinds.fn rfl fun _ _ _ _ _ _ us hl => match us, hl with | [_], _ => rfl
  have F_l_counts : Def K mg "_law_counts" s_l_counts f_l_counts (PySem.W.fnOf "_law_counts" "_law_counts" (fnArgs s_l_counts) (fnBody s_l_counts) (fnScope s_l_counts) .none kV_l_counts dc_l_counts pm_l_counts an_l_counts cd_l_counts ct_l_counts) := ⟨⟨_, _, _, _, _, _, _, _, _, _, rfl, l_l_counts, c_l_counts⟩, PySem.W.mg_of X G a_l_counts, k_l_counts⟩
  have b_l_counts := C8.Fun.binds (ps := ["_law_rule_here", "_law_check_here", "_law_kinds_here", "_law_size", "_law_many"]) F_l_counts.fn rfl fun _ _ _ _ _ _ us hl => match us, hl with | [_, _, _, _, _], _ => rfl
  have F_law : Def K mg "law" s_law f_law (PySem.W.fnOf "law" "law" (fnArgs s_law) (fnBody s_law) (fnScope s_law) .none kV_law dc_law pm_law an_law cd_law ct_law) := ⟨⟨_, _, _, _, _, _, _, _, _, _, rfl, l_law, c_law⟩, PySem.W.mg_of X G a_law, k_law⟩
  have b_law := C8.Fun.binds (ps := ["_law_script"]) F_law.fn rfl fun _ _ _ _ _ _ us hl => match us, hl with | [_], _ => rfl
  have CL_Rule : Cls K C_Rule := ⟨pg_Rule, hd_Rule, po_Rule, sa_Rule⟩
  have F_Rule_init : C8.Fun K "__init__" "Rule.__init__" s_Rule_init f_Rule_init (PySem.W.fnOf "__init__" "Rule.__init__" (fnArgs s_Rule_init) (fnBody s_Rule_init) (fnScope s_Rule_init) (.ref dT_Rule_init) kV_Rule_init dc_Rule_init pm_Rule_init an_Rule_init cd_Rule_init ct_Rule_init) := ⟨_, _, _, _, _, _, _, _, _, _, rfl, l_Rule_init, c_Rule_init⟩
  have FD_Rule_init : FunD K "__init__" "Rule.__init__" (fnArgs s_Rule_init) (fnBody s_Rule_init) (fnScope s_Rule_init) [.ref dE_R] [] f_Rule_init (PySem.W.fnOf "__init__" "Rule.__init__" (fnArgs s_Rule_init) (fnBody s_Rule_init) (fnScope s_Rule_init) (.ref dT_Rule_init) kV_Rule_init dc_Rule_init pm_Rule_init an_Rule_init cd_Rule_init ct_Rule_init) := ⟨⟨_, _, _, _, _, _, _, _, _, _, rfl, l_Rule_init, c_Rule_init, .inr ⟨List.cons_ne_nil _ _, _, _, _, _, rfl, dl_Rule_init, rfl, .cons rfl .nil⟩, .inl rfl⟩, k_Rule_init⟩
  obtain ⟨ds0_Rule_init, vd0_Rule_init, bd0_Rule_init⟩ := FD_Rule_init.binds1 (ps := ["self", "flag", "stuffs"]) 2 0 (List.cons_ne_nil _ _) rfl fun _ _ _ _ _ _ _ us its h1 h2 => match us, its, h1, h2 with | [_, _], [_], _, _ => ⟨_, rfl, rfl⟩
  obtain ⟨ds1_Rule_init, vd1_Rule_init, bd1_Rule_init⟩ := FD_Rule_init.binds1 (ps := ["self", "flag", "stuffs"]) 3 1 (List.cons_ne_nil _ _) rfl fun _ _ _ _ _ _ _ us its h1 h2 => match us, its, h1, h2 with | [_, _, _], [_], _, _ => ⟨_, rfl, rfl⟩
  have F_Rule_put : C8.Fun K "put" "Rule.put" s_Rule_put f_Rule_put (PySem.W.fnOf "put" "Rule.put" (fnArgs s_Rule_put) (fnBody s_Rule_put) (fnScope s_Rule_put) .none kV_Rule_put dc_Rule_put pm_Rule_put an_Rule_put cd_Rule_put ct_Rule_put) := ⟨_, _, _, _, _, _, _, _, _, _, rfl, l_Rule_put, c_Rule_put⟩
  have b_Rule_put := C8.Fun.binds (ps := ["self", "line"]) F_Rule_put rfl fun _ _ _ _ _ _ us hl => match us, hl with | [_, _], _ => rfl
  have F_Rule_longest : C8.Fun K "longest" "Rule.longest" s_Rule_longest f_Rule_longest (PySem.W.fnOf "longest" "Rule.longest" (fnArgs s_Rule_longest) (fnBody s_Rule_longest) (fnScope s_Rule_longest) .none kV_Rule_longest dc_Rule_longest pm_Rule_longest an_Rule_longest cd_Rule_longest ct_Rule_longest) := ⟨_, _, _, _, _, _, _, _, _, _, rfl, l_Rule_longest, c_Rule_longest⟩
  have b_Rule_longest := C8.Fun.binds (ps := ["self"]) F_Rule_longest rfl fun _ _ _ _ _ _ us hl => match us, hl with | [_], _ => rfl
  have F_Rule_put_in : C8.Fun K "put_in" "Rule.put_in" s_Rule_put_in f_Rule_put_in (PySem.W.fnOf "put_in" "Rule.put_in" (fnArgs s_Rule_put_in) (fnBody s_Rule_put_in) (fnScope s_Rule_put_in) .none kV_Rule_put_in dc_Rule_put_in pm_Rule_put_in an_Rule_put_in cd_Rule_put_in ct_Rule_put_in) := ⟨_, _, _, _, _, _, _, _, _, _, rfl, l_Rule_put_in, c_Rule_put_in⟩
  have b_Rule_put_in := C8.Fun.binds (ps := ["self", "line"]) F_Rule_put_in rfl fun _ _ _ _ _ _ us hl => match us, hl with | [_, _], _ => rfl
  have F_Rule_is_endless : C8.Fun K "is_endless" "Rule.is_endless" s_Rule_is_endless f_Rule_is_endless (PySem.W.fnOf "is_endless" "Rule.is_endless" (fnArgs s_Rule_is_endless) (fnBody s_Rule_is_endless) (fnScope s_Rule_is_endless) .none kV_Rule_is_endless dc_Rule_is_endless pm_Rule_is_endless an_Rule_is_endless cd_Rule_is_endless ct_Rule_is_endless) := ⟨_, _, _, _, _, _, _, _, _, _, rfl, l_Rule_is_endless, c_Rule_is_endless⟩
  have b_Rule_is_endless := C8.Fun.binds (ps := ["self"]) F_Rule_is_endless rfl fun _ _ _ _ _ _ us hl => match us, hl with | [_], _ => rfl
  have CL_Check : Cls K C_Check := ⟨pg_Check, hd_Check, po_Check, sa_Check⟩
  have F_Check_step : C8.Fun K "step" "Check.step" s_Check_step f_Check_step (PySem.W.fnOf "step" "Check.step" (fnArgs s_Check_step) (fnBody s_Check_step) (fnScope s_Check_step) .none kV_Check_step dc_Check_step pm_Check_step an_Check_step cd_Check_step ct_Check_step) := ⟨_, _, _, _, _, _, _, _, _, _, rfl, l_Check_step, c_Check_step⟩
  have b_Check_step := C8.Fun.binds (ps := ["self", "rest", "bit"]) F_Check_step rfl fun _ _ _ _ _ _ us hl => match us, hl with | [_, _, _], _ => rfl
  have F_Check_rest : C8.Fun K "rest" "Check.rest" s_Check_rest f_Check_rest (PySem.W.fnOf "rest" "Check.rest" (fnArgs s_Check_rest) (fnBody s_Check_rest) (fnScope s_Check_rest) .none kV_Check_rest dc_Check_rest pm_Check_rest an_Check_rest cd_Check_rest ct_Check_rest) := ⟨_, _, _, _, _, _, _, _, _, _, rfl, l_Check_rest, c_Check_rest⟩
  have b_Check_rest := C8.Fun.binds (ps := ["self", "bits"]) F_Check_rest rfl fun _ _ _ _ _ _ us hl => match us, hl with | [_, _], _ => rfl
  have F_Check_degree : C8.Fun K "degree" "Check.degree" s_Check_degree f_Check_degree (PySem.W.fnOf "degree" "Check.degree" (fnArgs s_Check_degree) (fnBody s_Check_degree) (fnScope s_Check_degree) .none kV_Check_degree dc_Check_degree pm_Check_degree an_Check_degree cd_Check_degree ct_Check_degree) := ⟨_, _, _, _, _, _, _, _, _, _, rfl, l_Check_degree, c_Check_degree⟩
  have b_Check_degree := C8.Fun.binds (ps := ["self"]) F_Check_degree rfl fun _ _ _ _ _ _ us hl => match us, hl with | [_], _ => rfl
  have F_Check_bits_for : C8.Fun K "bits_for" "Check.bits_for" s_Check_bits_for f_Check_bits_for (PySem.W.fnOf "bits_for" "Check.bits_for" (fnArgs s_Check_bits_for) (fnBody s_Check_bits_for) (fnScope s_Check_bits_for) .none kV_Check_bits_for dc_Check_bits_for pm_Check_bits_for an_Check_bits_for cd_Check_bits_for ct_Check_bits_for) := ⟨_, _, _, _, _, _, _, _, _, _, rfl, l_Check_bits_for, c_Check_bits_for⟩
  have b_Check_bits_for := C8.Fun.binds (ps := ["self", "data"]) F_Check_bits_for rfl fun _ _ _ _ _ _ us hl => match us, hl with | [_, _], _ => rfl
  have F_Check_is_good : C8.Fun K "is_good" "Check.is_good" s_Check_is_good f_Check_is_good (PySem.W.fnOf "is_good" "Check.is_good" (fnArgs s_Check_is_good) (fnBody s_Check_is_good) (fnScope s_Check_is_good) .none kV_Check_is_good dc_Check_is_good pm_Check_is_good an_Check_is_good cd_Check_is_good ct_Check_is_good) := ⟨_, _, _, _, _, _, _, _, _, _, rfl, l_Check_is_good, c_Check_is_good⟩
  have b_Check_is_good := C8.Fun.binds (ps := ["self", "message"]) F_Check_is_good rfl fun _ _ _ _ _ _ us hl => match us, hl with | [_, _], _ => rfl
  have F_Check_init : C8.Fun K "__init__" "Check.__init__" s_Check_init f_Check_init (PySem.W.fnOf "__init__" "Check.__init__" (fnArgs s_Check_init) (fnBody s_Check_init) (fnScope s_Check_init) (.ref dT_Check_init) kV_Check_init dc_Check_init pm_Check_init an_Check_init cd_Check_init ct_Check_init) := ⟨_, _, _, _, _, _, _, _, _, _, rfl, l_Check_init, c_Check_init⟩
  have FD_Check_init : FunD K "__init__" "Check.__init__" (fnArgs s_Check_init) (fnBody s_Check_init) (fnScope s_Check_init) [.str "1", .non] [] f_Check_init (PySem.W.fnOf "__init__" "Check.__init__" (fnArgs s_Check_init) (fnBody s_Check_init) (fnScope s_Check_init) (.ref dT_Check_init) kV_Check_init dc_Check_init pm_Check_init an_Check_init cd_Check_init ct_Check_init) := ⟨⟨_, _, _, _, _, _, _, _, _, _, rfl, l_Check_init, c_Check_init, .inr ⟨List.cons_ne_nil _ _, _, _, _, _, rfl, dl_Check_init, rfl, .cons ⟨_, rfl⟩ (.cons rfl .nil)⟩, .inl rfl⟩, k_Check_init⟩
  obtain ⟨ds0_Check_init, vd0_Check_init, bd0_Check_init⟩ := FD_Check_init.binds1 (ps := ["self", "poly", "start"]) 1 0 (List.cons_ne_nil _ _) rfl fun _ _ _ _ _ _ _ us its h1 h2 => match us, its, h1, h2 with | [_], [_, _], _, _ => ⟨_, rfl, rfl⟩
  obtain ⟨ds1_Check_init, vd1_Check_init, bd1_Check_init⟩ := FD_Check_init.binds1 (ps := ["self", "poly", "start"]) 2 1 (List.cons_ne_nil _ _) rfl fun _ _ _ _ _ _ _ us its h1 h2 => match us, its, h1, h2 with | [_, _], [_, _], _, _ => ⟨_, rfl, rfl⟩
  obtain ⟨ds2_Check_init, vd2_Check_init, bd2_Check_init⟩ := FD_Check_init.binds1 (ps := ["self", "poly", "start"]) 3 2 (List.cons_ne_nil _ _) rfl fun _ _ _ _ _ _ _ us its h1 h2 => match us, its, h1, h2 with | [_, _, _], [_, _], _, _ => ⟨_, rfl, rfl⟩
  refine ⟨PySem.W.fnOf "law" "law" (fnArgs s_law) (fnBody s_law) (fnScope s_law) .none kV_law dc_law pm_law an_law cd_law ct_law, fun s v => .of_eq rfl, fun base _ _ => ?_⟩
  have hE : ∀ H, SqT K H dE_R [] := fun H => .inr ⟨_, _, _, dlE_Rule, rfl, rfl, (by show 0 ≤ sizeLine; decide), .nil⟩
  have c_l_seed := cal_l_seed (P := l.prog) (w := w) (base := base) F_l_seed b_l_seed T
  have c_l_choose := cal_l_choose (P := l.prog) (w := w) (base := base) F_l_choose b_l_choose T
  have c_l_one_of := cal_l_one_of (P := l.prog) (w := w) (base := base) F_l_one_of b_l_one_of T c_l_choose
  have c_l_word := cal_l_word (P := l.prog) (w := w) (base := base) F_l_word b_l_word T c_l_choose c_l_one_of
  have c_l_put := cal_l_put (P := l.prog) (w := w) (base := base) F_l_put b_l_put T
  have c_l_is_rule := cal_l_is_rule (P := l.prog) (w := w) (base := base) F_l_is_rule b_l_is_rule T c_l_put
  have c_l_rule := cal_l_rule (P := l.prog) (w := w) (base := base) F_l_rule b_l_rule T c_l_choose c_l_one_of c_l_word c_l_is_rule
  have RT : RuT K C_Rule := ⟨CL_Rule, n_Rule_flag, n_Rule_stuffs⟩
  have g_BITS := PySem.W.mg_of X G gBITS
  have c_is_word := cal_is_word (P := l.prog) (w := w) (base := base) F_is_word b_is_word T g_BITS
  have c_is_sequence := cal_is_sequence (P := l.prog) (w := w) (base := base) F_is_sequence b_is_sequence T
  have c_is_bit := cal_is_bit (P := l.prog) (w := w) (base := base) F_is_bit b_is_bit T c_is_word
  have c_is_stuff := cal_is_stuff (P := l.prog) (w := w) (base := base) F_is_stuff b_is_stuff T c_is_word c_is_bit
  have c_are_stuffs := cal_are_stuffs (P := l.prog) (w := w) (base := base) F_are_stuffs b_are_stuffs T c_is_sequence c_is_stuff
  have c_put := met_put (P := l.prog) (w := w) (base := base) F_Rule_put ⟨a_Rule_put, i_Rule_put, k_Rule_put⟩ b_Rule_put T RT
  have p_longest : Prp l.prog w K mg base 1 C_Rule "longest" (spLongest C_Rule) := ⟨_, _, _, _, CL_Rule, ⟨a_Rule_longest, g_Rule_longest, t_Rule_longest, ⟨_, r_Rule_longest⟩⟩, ok_longest F_Rule_longest T RT, b_Rule_longest⟩
  have c_tail := cal_tail (P := l.prog) (w := w) (base := base) F_tail b_tail T
  have c_put_in := met_put_in (P := l.prog) (w := w) (base := base) F_Rule_put_in ⟨a_Rule_put_in, i_Rule_put_in, k_Rule_put_in⟩ b_Rule_put_in T RT c_put p_longest c_tail
  have c_is_endless := met_is_endless (P := l.prog) (w := w) (base := base) F_Rule_is_endless ⟨a_Rule_is_endless, i_Rule_is_endless, k_Rule_is_endless⟩ b_Rule_is_endless T RT g_BITS c_put_in p_longest c_tail
  have M_Rule : Mk K C_Rule f_Rule_init := ⟨mk_Rule, a_Rule_init, i_Rule_init, kc_Rule⟩
  have i_ok_Rule := ok_Rule_init (P := l.prog) (w := w) (base := base) F_Rule_init T RT c_is_word c_are_stuffs c_is_endless
  have m_Rule2 : Mak l.prog w K mg base 5 "Rule" C_Rule (spRuInit K C_Rule) [] := ⟨_, _, _, _, M_Rule, i_ok_Rule, PySem.W.mg_of X G aC_Rule, bd1_Rule_init, vd1_Rule_init⟩
  have c_l_made := cal_l_made (P := l.prog) (w := w) (base := base) F_l_made b_l_made T m_Rule2
  have c_l_check := cal_l_check (P := l.prog) (w := w) (base := base) F_l_check b_l_check T c_l_choose c_l_word
  have c_l_kinds := cal_l_kinds (P := l.prog) (w := w) (base := base) F_l_kinds b_l_kinds T c_l_one_of
  have c_l_words := cal_l_words (P := l.prog) (w := w) (base := base) F_l_words b_l_words T
  have c_l_body := cal_l_body (P := l.prog) (w := w) (base := base) F_l_body b_l_body T c_l_put
  have c_l_rest := cal_l_rest (P := l.prog) (w := w) (base := base) F_l_rest b_l_rest T
  have c_l_bits_for := cal_l_bits_for (P := l.prog) (w := w) (base := base) F_l_bits_for b_l_bits_for T c_l_words c_l_rest
  have c_l_hit_rows := cal_l_hit_rows (P := l.prog) (w := w) (base := base) F_l_hit_rows b_l_hit_rows T
  have c_l_arrived := cal_l_arrived (P := l.prog) (w := w) (base := base) F_l_arrived b_l_arrived T
  have c_l_read := cal_l_read (P := l.prog) (w := w) (base := base) F_l_read b_l_read T c_l_put
  have c_l_is_good := cal_l_is_good (P := l.prog) (w := w) (base := base) F_l_is_good b_l_is_good T c_l_rest
  have c_l_receive := cal_l_receive (P := l.prog) (w := w) (base := base) F_l_receive b_l_receive T c_l_read c_l_is_good
  have c_l_way := cal_l_way (P := l.prog) (w := w) (base := base) F_l_way b_l_way T c_l_arrived c_l_body c_l_bits_for c_l_receive
  have c_l_counts := cal_l_counts (P := l.prog) (w := w) (base := base) F_l_counts b_l_counts T c_l_words c_l_body c_l_bits_for c_l_hit_rows c_l_way
  have c_all_words := cal_all_words (P := l.prog) (w := w) (base := base) F_all_words b_all_words T g_BITS
  have c_all_hits := cal_all_hits (P := l.prog) (w := w) (base := base) F_all_hits b_all_hits T
  have c_put_behind := cal_put_behind (P := l.prog) (w := w) (base := base) F_put_behind b_put_behind T c_put
  have c_body := cal_body (P := l.prog) (w := w) (base := base) F_body b_body T c_put_behind
  have CT : CkT K C_Check := ⟨CL_Check, n_Check_poly, n_Check_start⟩
  have c_step := met_step (P := l.prog) (w := w) (base := base) F_Check_step ⟨a_Check_step, i_Check_step, k_Check_step⟩ b_Check_step T CT
  have c_rest := met_rest (P := l.prog) (w := w) (base := base) F_Check_rest ⟨a_Check_rest, i_Check_rest, k_Check_rest⟩ b_Check_rest T CT c_step
  have p_degree : Prp l.prog w K mg base 1 C_Check "degree" (spDegree C_Check) := ⟨_, _, _, _, CL_Check, ⟨a_Check_degree, g_Check_degree, t_Check_degree, ⟨_, r_Check_degree⟩⟩, ok_degree F_Check_degree T CT, b_Check_degree⟩
  have c_bits_for := met_bits_for (P := l.prog) (w := w) (base := base) F_Check_bits_for ⟨a_Check_bits_for, i_Check_bits_for, k_Check_bits_for⟩ b_Check_bits_for T CT c_rest p_degree
  have g_KINDS := PySem.W.mg_of X G gK
  have hK : ∀ H, SqT K H aK [.str "double", .str "lose", .str "turn"] := fun H => .inr ⟨_, _, _, lK, rfl, rfl, (by show 3 ≤ sizeLine; decide), .cons ⟨_, rfl⟩ (.cons ⟨_, rfl⟩ (.cons ⟨_, rfl⟩ .nil))⟩
  have c_is_integer := cal_is_integer (P := l.prog) (w := w) (base := base) F_is_integer b_is_integer T
  have c_is_number := cal_is_number (P := l.prog) (w := w) (base := base) F_is_number b_is_number T c_is_integer
  have c_is_hit := cal_is_hit (P := l.prog) (w := w) (base := base) F_is_hit b_is_hit T g_KINDS hK c_is_number
  have c_other := cal_other (P := l.prog) (w := w) (base := base) F_other b_other T
  have c_arriving := cal_arriving (P := l.prog) (w := w) (base := base) F_arriving b_arriving T c_other
  have c_hit := cal_hit (P := l.prog) (w := w) (base := base) F_hit b_hit T c_is_sequence c_is_hit c_arriving
  have c_taken_out := cal_taken_out (P := l.prog) (w := w) (base := base) F_taken_out b_taken_out T c_put
  have c_is_good := met_is_good (P := l.prog) (w := w) (base := base) F_Check_is_good ⟨a_Check_is_good, i_Check_is_good, k_Check_is_good⟩ b_Check_is_good T CT c_rest p_degree
  have c_read_part := cal_read_part (P := l.prog) (w := w) (base := base) F_read_part b_read_part T c_taken_out c_is_good p_degree
  have c_receive := cal_receive (P := l.prog) (w := w) (base := base) F_receive b_receive T RT c_read_part
  have c_way_of := cal_way_of (P := l.prog) (w := w) (base := base) F_way_of b_way_of T RT c_hit c_receive
  have g_WAYS := PySem.W.mg_of X G gWY
  have hWY : ∀ H, SqT K H aWY [.str "cut", .str "same", .str "shift"] := fun H => .inr ⟨_, _, _, lWY, rfl, rfl, (by show 3 ≤ sizeLine; decide), .cons ⟨_, rfl⟩ (.cons ⟨_, rfl⟩ (.cons ⟨_, rfl⟩ .nil))⟩
  have c_ways_of := cal_ways_of (P := l.prog) (w := w) (base := base) F_ways_of b_ways_of T g_WAYS hWY
  have c_count_unseen := cal_count_unseen (P := l.prog) (w := w) (base := base) F_count_unseen b_count_unseen T c_all_words c_all_hits c_body c_bits_for c_way_of c_ways_of
  have M_Check : Mk K C_Check f_Check_init := ⟨mk_Check, a_Check_init, i_Check_init, kc_Check⟩
  have i_ok_Check := ok_Check_init (P := l.prog) (w := w) (base := base) F_Check_init T CT c_is_word
  have m_Check2 : Mak l.prog w K mg base 2 "Check" C_Check (spCkInit C_Check) [] := ⟨_, _, _, _, M_Check, i_ok_Check, PySem.W.mg_of X G aC_Check, bd2_Check_init, vd2_Check_init⟩
  have m_Check0 : Mak l.prog w K mg base 2 "Check" C_Check (spCkInit C_Check) [.str "1", .non] := ⟨_, _, _, _, M_Check, i_ok_Check, PySem.W.mg_of X G aC_Check, bd0_Check_init, vd0_Check_init⟩
  have m_Rule1 : Mak l.prog w K mg base 5 "Rule" C_Rule (spRuInit K C_Rule) [.ref dE_R] := ⟨_, _, _, _, M_Rule, i_ok_Rule, PySem.W.mg_of X G aC_Rule, bd0_Rule_init, vd0_Rule_init⟩
  exact ok_law F_law T hE c_l_seed c_l_choose c_l_one_of c_l_rule c_l_made c_l_check c_l_kinds c_l_counts c_count_unseen m_Check2 m_Check0 m_Rule1
theorem walk {l : PySem.W.OpenLaw} {q : Program} {loose : List Str} {XP : (Str → Option Value) → Heap → Prop} {YP : World → Heap → Prop} {d : DefRec} {K : Params → PySem.W.Frag} (hn : l.most = some 63) (hdf : d.params.defaults = [])
    (hY : ∀ (w : World) (h : Heap), YP w h → (K w.params).In h)
    (F : ∀ (w : World) (mg : Str → Option Value) (fa : Addr) (h : Heap), (K w.params).In h → h.Ns mainGlobals mg → mg d.name = some (.ref fa) →
      ∃ fd : FuncData, (∀ (s : Shared) (u : Value), BindsTo s fd ⟨[u], []⟩ [("_law_script", u)]) ∧ ∀ base : Heap, (K w.params).In base → base.Ns mainGlobals mg → FnOk l.prog w (K w.params) mg base CX0 8 fa fd ["_law_script"] (spLaw (K w.params))) :
    PySem.W.WalkO q loose XP YP l.row.toRowW d [] (fun f vs => PySem.call f vs) :=
  L2.walk_of (n := 63) (k := 8) (x := "_law_script") (CX := fun _ => CX0) (sp := fun w => spLaw (K w.params)) hn (by decide) hdf ⟨rfl, by decide, by decide⟩ hY F (fun _ _ a ns hl _ hS => ⟨a, ns, rfl, hS, hl, fun _ => rfl⟩) fun _ _ _ _ _ z => z
end U

set_option pp.maxSteps 300
open PySem PySem.W PyProof.Rows
set_option maxRecDepth 100000 in
set_option maxHeartbeats 0 in
theorem PySem.Challenge.cw_unseenflips_k55_unseen_hits_counted_holds : PySem.Challenge.rw_unseenflips_k55_unseen_hits_counted.Holds := by
  w_on; o_law; k_head; (case hw => w_witness2)
  k_fill
  refine U.walk (l := PySem.Challenge.rw_unseenflips_k55_unseen_hits_counted) rfl rfl (fun w h Y => PySem.W.kIn_of Y) ?F
  case F =>
    intro w mg fa h KX G hmg
    refine' U.all_mk KX G hmg ?a_is_integer ?l_is_integer ?c_is_integer ?k_is_integer ?a_is_number ?l_is_number ?c_is_number ?k_is_number ?a_is_sequence ?l_is_sequence ?c_is_sequence ?k_is_sequence ?a_is_word ?l_is_word ?c_is_word ?k_is_word ?a_is_bit ?l_is_bit ?c_is_bit ?k_is_bit ?a_other ?l_other ?c_other ?k_other ?a_all_words ?l_all_words ?c_all_words ?k_all_words ?a_tail ?l_tail ?c_tail ?k_tail ?a_arriving ?l_arriving ?c_arriving ?k_arriving ?a_is_hit ?l_is_hit ?c_is_hit ?k_is_hit ?a_hit ?l_hit ?c_hit ?k_hit ?a_put_behind ?l_put_behind ?c_put_behind ?k_put_behind ?a_body ?l_body ?c_body ?k_body ?a_taken_out ?l_taken_out ?c_taken_out ?k_taken_out ?a_read_part ?l_read_part ?c_read_part ?k_read_part ?a_receive ?l_receive ?c_receive ?k_receive ?a_ways_of ?l_ways_of ?c_ways_of ?k_ways_of ?a_all_hits ?l_all_hits ?c_all_hits ?k_all_hits ?a_way_of ?l_way_of ?c_way_of ?k_way_of ?a_count_unseen ?l_count_unseen ?c_count_unseen ?k_count_unseen ?a_is_stuff ?l_is_stuff ?c_is_stuff ?k_is_stuff ?a_are_stuffs ?l_are_stuffs ?c_are_stuffs ?k_are_stuffs ?a_l_seed ?l_l_seed ?c_l_seed ?k_l_seed ?a_l_choose ?l_l_choose ?c_l_choose ?k_l_choose ?a_l_one_of ?l_l_one_of ?c_l_one_of ?k_l_one_of ?a_l_word ?l_l_word ?c_l_word ?k_l_word ?a_l_words ?l_l_words ?c_l_words ?k_l_words ?a_l_put ?l_l_put ?c_l_put ?k_l_put ?a_l_is_rule ?l_l_is_rule ?c_l_is_rule ?k_l_is_rule ?a_l_rule ?l_l_rule ?c_l_rule ?k_l_rule ?a_l_made ?l_l_made ?c_l_made ?k_l_made ?a_l_body ?l_l_body ?c_l_body ?k_l_body ?a_l_read ?l_l_read ?c_l_read ?k_l_read ?a_l_check ?l_l_check ?c_l_check ?k_l_check ?a_l_rest ?l_l_rest ?c_l_rest ?k_l_rest ?a_l_is_good ?l_l_is_good ?c_l_is_good ?k_l_is_good ?a_l_bits_for ?l_l_bits_for ?c_l_bits_for ?k_l_bits_for ?a_l_receive ?l_l_receive ?c_l_receive ?k_l_receive ?a_l_arrived ?l_l_arrived ?c_l_arrived ?k_l_arrived ?a_l_hit_rows ?l_l_hit_rows ?c_l_hit_rows ?k_l_hit_rows ?a_l_way ?l_l_way ?c_l_way ?k_l_way ?a_l_kinds ?l_l_kinds ?c_l_kinds ?k_l_kinds ?a_l_counts ?l_l_counts ?c_l_counts ?k_l_counts ?a_law ?l_law ?c_law ?k_law ?aC_Rule ?pg_Rule ?hd_Rule ?po_Rule ?sa_Rule ?mk_Rule ?kc_Rule ?n_Rule_flag ?n_Rule_stuffs ?a_Rule_init ?i_Rule_init ?l_Rule_init ?c_Rule_init ?k_Rule_init ?dl_Rule_init ?dlE_Rule ?a_Rule_put ?i_Rule_put ?l_Rule_put ?c_Rule_put ?k_Rule_put ?a_Rule_longest ?g_Rule_longest ?t_Rule_longest ?r_Rule_longest ?l_Rule_longest ?c_Rule_longest ?a_Rule_put_in ?i_Rule_put_in ?l_Rule_put_in ?c_Rule_put_in ?k_Rule_put_in ?a_Rule_is_endless ?i_Rule_is_endless ?l_Rule_is_endless ?c_Rule_is_endless ?k_Rule_is_endless ?aC_Check ?pg_Check ?hd_Check ?po_Check ?sa_Check ?mk_Check ?kc_Check ?n_Check_poly ?n_Check_start ?a_Check_step ?i_Check_step ?l_Check_step ?c_Check_step ?k_Check_step ?a_Check_rest ?i_Check_rest ?l_Check_rest ?c_Check_rest ?k_Check_rest ?a_Check_degree ?g_Check_degree ?t_Check_degree ?r_Check_degree ?l_Check_degree ?c_Check_degree ?a_Check_bits_for ?i_Check_bits_for ?l_Check_bits_for ?c_Check_bits_for ?k_Check_bits_for ?a_Check_is_good ?i_Check_is_good ?l_Check_is_good ?c_Check_is_good ?k_Check_is_good ?a_Check_init ?i_Check_init ?l_Check_init ?c_Check_init ?k_Check_init ?dl_Check_init ?gBITS ?gK ?lK ?gWY ?lWY ?z_len ?z_abs ?z_int ?z_range ?z_max ?z_min ?z_enumerate ?z_zip ?z_dict ?z_list ?z_tuple ?z_isinstance ?z_bool ?z_str ?z_all ?z_any ?z_sum ?z_sorted ?z_repr
    (case a_is_integer => k_is)
    (case l_is_integer => k_is)
    (case c_is_integer => k_is)
    (case k_is_integer => k_is)
    (case a_is_number => k_is)
    (case l_is_number => k_is)
    (case c_is_number => k_is)
    (case k_is_number => k_is)
    (case a_is_sequence => k_is)
    (case l_is_sequence => k_is)
    (case c_is_sequence => k_is)
    (case k_is_sequence => k_is)
    (case a_is_word => k_is)
    (case l_is_word => k_is)
    (case c_is_word => k_is)
    (case k_is_word => k_is)
    (case a_is_bit => k_is)
    (case l_is_bit => k_is)
    (case c_is_bit => k_is)
    (case k_is_bit => k_is)
    (case a_other => k_is)
    (case l_other => k_is)
    (case c_other => k_is)
    (case k_other => k_is)
    (case a_all_words => k_is)
    (case l_all_words => k_is)
    (case c_all_words => k_is)
    (case k_all_words => k_is)
    (case a_tail => k_is)
    (case l_tail => k_is)
    (case c_tail => k_is)
    (case k_tail => k_is)
    (case a_arriving => k_is)
    (case l_arriving => k_is)
    (case c_arriving => k_is)
    (case k_arriving => k_is)
    (case a_is_hit => k_is)
    (case l_is_hit => k_is)
    (case c_is_hit => k_is)
    (case k_is_hit => k_is)
    (case a_hit => k_is)
    (case l_hit => k_is)
    (case c_hit => k_is)
    (case k_hit => k_is)
    (case a_put_behind => k_is)
    (case l_put_behind => k_is)
    (case c_put_behind => k_is)
    (case k_put_behind => k_is)
    (case a_body => k_is)
    (case l_body => k_is)
    (case c_body => k_is)
    (case k_body => k_is)
    (case a_taken_out => k_is)
    (case l_taken_out => k_is)
    (case c_taken_out => k_is)
    (case k_taken_out => k_is)
    (case a_read_part => k_is)
    (case l_read_part => k_is)
    (case c_read_part => k_is)
    (case k_read_part => k_is)
    (case a_receive => k_is)
    (case l_receive => k_is)
    (case c_receive => k_is)
    (case k_receive => k_is)
    (case a_ways_of => k_is)
    (case l_ways_of => k_is)
    (case c_ways_of => k_is)
    (case k_ways_of => k_is)
    (case a_all_hits => k_is)
    (case l_all_hits => k_is)
    (case c_all_hits => k_is)
    (case k_all_hits => k_is)
    (case a_way_of => k_is)
    (case l_way_of => k_is)
    (case c_way_of => k_is)
    (case k_way_of => k_is)
    (case a_count_unseen => k_is)
    (case l_count_unseen => k_is)
    (case c_count_unseen => k_is)
    (case k_count_unseen => k_is)
    (case a_is_stuff => k_is)
    (case l_is_stuff => k_is)
    (case c_is_stuff => k_is)
    (case k_is_stuff => k_is)
    (case a_are_stuffs => k_is)
    (case l_are_stuffs => k_is)
    (case c_are_stuffs => k_is)
    (case k_are_stuffs => k_is)
    (case a_l_seed => k_is)
    (case l_l_seed => k_is)
    (case c_l_seed => k_is)
    (case k_l_seed => k_is)
    (case a_l_choose => k_is)
    (case l_l_choose => k_is)
    (case c_l_choose => k_is)
    (case k_l_choose => k_is)
    (case a_l_one_of => k_is)
    (case l_l_one_of => k_is)
    (case c_l_one_of => k_is)
    (case k_l_one_of => k_is)
    (case a_l_word => k_is)
    (case l_l_word => k_is)
    (case c_l_word => k_is)
    (case k_l_word => k_is)
    (case a_l_words => k_is)
    (case l_l_words => k_is)
    (case c_l_words => k_is)
    (case k_l_words => k_is)
    (case a_l_put => k_is)
    (case l_l_put => k_is)
    (case c_l_put => k_is)
    (case k_l_put => k_is)
    (case a_l_is_rule => k_is)
    (case l_l_is_rule => k_is)
    (case c_l_is_rule => k_is)
    (case k_l_is_rule => k_is)
    (case a_l_rule => k_is)
    (case l_l_rule => k_is)
    (case c_l_rule => k_is)
    (case k_l_rule => k_is)
    (case a_l_made => k_is)
    (case l_l_made => k_is)
    (case c_l_made => k_is)
    (case k_l_made => k_is)
    (case a_l_body => k_is)
    (case l_l_body => k_is)
    (case c_l_body => k_is)
    (case k_l_body => k_is)
    (case a_l_read => k_is)
    (case l_l_read => k_is)
    (case c_l_read => k_is)
    (case k_l_read => k_is)
    (case a_l_check => k_is)
    (case l_l_check => k_is)
    (case c_l_check => k_is)
    (case k_l_check => k_is)
    (case a_l_rest => k_is)
    (case l_l_rest => k_is)
    (case c_l_rest => k_is)
    (case k_l_rest => k_is)
    (case a_l_is_good => k_is)
    (case l_l_is_good => k_is)
    (case c_l_is_good => k_is)
    (case k_l_is_good => k_is)
    (case a_l_bits_for => k_is)
    (case l_l_bits_for => k_is)
    (case c_l_bits_for => k_is)
    (case k_l_bits_for => k_is)
    (case a_l_receive => k_is)
    (case l_l_receive => k_is)
    (case c_l_receive => k_is)
    (case k_l_receive => k_is)
    (case a_l_arrived => k_is)
    (case l_l_arrived => k_is)
    (case c_l_arrived => k_is)
    (case k_l_arrived => k_is)
    (case a_l_hit_rows => k_is)
    (case l_l_hit_rows => k_is)
    (case c_l_hit_rows => k_is)
    (case k_l_hit_rows => k_is)
    (case a_l_way => k_is)
    (case l_l_way => k_is)
    (case c_l_way => k_is)
    (case k_l_way => k_is)
    (case a_l_kinds => k_is)
    (case l_l_kinds => k_is)
    (case c_l_kinds => k_is)
    (case k_l_kinds => k_is)
    (case a_l_counts => k_is)
    (case l_l_counts => k_is)
    (case c_l_counts => k_is)
    (case k_l_counts => k_is)
    (case a_law => k_is)
    (case l_law => k_is)
    (case c_law => k_is)
    (case k_law => k_is)
    (case aC_Rule => k_is)
    (case pg_Rule => k_is)
    (case hd_Rule => k_is)
    (case po_Rule => k_is)
    (case sa_Rule => k_is)
    (case mk_Rule => k_is)
    (case kc_Rule => k_is)
    (case n_Rule_flag => k_is)
    (case n_Rule_stuffs => k_is)
    (case a_Rule_init => k_is)
    (case i_Rule_init => k_is)
    (case l_Rule_init => k_is)
    (case c_Rule_init => k_is)
    (case k_Rule_init => k_is)
    (case dl_Rule_init => k_is)
    (case dlE_Rule => k_is)
    (case a_Rule_put => k_is)
    (case i_Rule_put => k_is)
    (case l_Rule_put => k_is)
    (case c_Rule_put => k_is)
    (case k_Rule_put => k_is)
    (case a_Rule_longest => k_is)
    (case g_Rule_longest => k_is)
    (case t_Rule_longest => k_is)
    (case r_Rule_longest => k_is)
    (case l_Rule_longest => k_is)
    (case c_Rule_longest => k_is)
    (case a_Rule_put_in => k_is)
    (case i_Rule_put_in => k_is)
    (case l_Rule_put_in => k_is)
    (case c_Rule_put_in => k_is)
    (case k_Rule_put_in => k_is)
    (case a_Rule_is_endless => k_is)
    (case i_Rule_is_endless => k_is)
    (case l_Rule_is_endless => k_is)
    (case c_Rule_is_endless => k_is)
    (case k_Rule_is_endless => k_is)
    (case aC_Check => k_is)
    (case pg_Check => k_is)
    (case hd_Check => k_is)
    (case po_Check => k_is)
    (case sa_Check => k_is)
    (case mk_Check => k_is)
    (case kc_Check => k_is)
    (case n_Check_poly => k_is)
    (case n_Check_start => k_is)
    (case a_Check_step => k_is)
    (case i_Check_step => k_is)
    (case l_Check_step => k_is)
    (case c_Check_step => k_is)
    (case k_Check_step => k_is)
    (case a_Check_rest => k_is)
    (case i_Check_rest => k_is)
    (case l_Check_rest => k_is)
    (case c_Check_rest => k_is)
    (case k_Check_rest => k_is)
    (case a_Check_degree => k_is)
    (case g_Check_degree => k_is)
    (case t_Check_degree => k_is)
    (case r_Check_degree => k_is)
    (case l_Check_degree => k_is)
    (case c_Check_degree => k_is)
    (case a_Check_bits_for => k_is)
    (case i_Check_bits_for => k_is)
    (case l_Check_bits_for => k_is)
    (case c_Check_bits_for => k_is)
    (case k_Check_bits_for => k_is)
    (case a_Check_is_good => k_is)
    (case i_Check_is_good => k_is)
    (case l_Check_is_good => k_is)
    (case c_Check_is_good => k_is)
    (case k_Check_is_good => k_is)
    (case a_Check_init => k_is)
    (case i_Check_init => k_is)
    (case l_Check_init => k_is)
    (case c_Check_init => k_is)
    (case k_Check_init => k_is)
    (case dl_Check_init => k_is)
    (case gBITS => k_is)
    (case gK => k_is)
    (case lK => k_is)
    (case gWY => k_is)
    (case lWY => k_is)
    (case z_len => k_is)
    (case z_abs => k_is)
    (case z_int => k_is)
    (case z_range => k_is)
    (case z_max => k_is)
    (case z_min => k_is)
    (case z_enumerate => k_is)
    (case z_zip => k_is)
    (case z_dict => k_is)
    (case z_list => k_is)
    (case z_tuple => k_is)
    (case z_isinstance => k_is)
    (case z_bool => k_is)
    (case z_str => k_is)
    (case z_all => k_is)
    (case z_any => k_is)
    (case z_sum => k_is)
    (case z_sorted => k_is)
    (case z_repr => k_is)
#print axioms PySem.Challenge.cw_unseenflips_k55_unseen_hits_counted_holds
