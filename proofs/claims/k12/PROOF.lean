import PyProof.Rows.All
import Wide.All
import OpenK.AllK
import Wide.FinOn
import HandS.ForMost
import HandS.Codes
import HandS.FStr
import HandS.IsInst
import HandS.Star
import HandS.TupAny
import HandS.Style
import HandS.Walk
import KE.GoesEnum
import KE.GoesNew
import HandS.Property
import HandS.Defaults
import HandS.ClsMeth
import HandS.MakeKw
import KE.GoesZip
import HandS.OwnEq
import HandS.CallLocal
import KE.KCallOwn
import HandS.RaiseMore
import PySem.Challenge.RW_unseenflips_k12_checks_made
set_option Elab.async false
set_option linter.all false
set_option maxRecDepth 100000
set_option maxHeartbeats 4000000
namespace Lx
open PySem PySem.Spec PyProof.Rows L2

/-! enumerate over a text -/
def ItES (x : Str) : It := ⟨fun i _ => i < x.cps.size, fun i H v H' => ∃ T c, v = .ref T ∧ H T = none ∧ H' = upd H T (.tup [.int (i : Nat), .str ⟨#[c]⟩]) ∧ x.cps[i]? = some c, fun i _ => x.cps.size ≤ i⟩
theorem turn_enumS {P : Program} {w : World} {K : PySem.W.Frag} {elts : List Expr} {kk : Nat} {tpos : Pos} (x : Str) (t : Tok) (e it : Addr) :
    Turn P w K (.Tuple elts kk tpos) (ItES x) [e, it] e (fun i h => (∃ old, IsEnum h e it ((i : Nat) : Int) old) ∧ h.IsStrIter it (strIterType x) x t i ∧ e ≠ it ∧ i ≤ x.cps.size) where
  mem := by simp
  obj := fun i h st b hb => by
    obtain ⟨⟨old, he⟩, ⟨o, ho, hc, hd⟩, _⟩ := st
    have e' : b = e ∨ b = it := by simpa using hb
    rcases e' with z | z
    · rw [z]; exact ⟨_, he, fun v q => nomatch q⟩
    · rw [z]; exact ⟨o, ho, fun v q => by rw [hd] at q; cases q⟩
  keep := fun i h h' st k => by
    obtain ⟨⟨old, he⟩, ⟨o, ho, r⟩, hne⟩ := st
    exact ⟨⟨old, k e (by simp) _ he⟩, ⟨o, k it (by simp) o ho, r⟩, hne⟩
  item := by
    intro X hP hw hK hc i pins s σ H E I hf st hg
    subst hP hw hK
    obtain ⟨⟨old, he⟩, hit, hne, _⟩ := st
    have hlt : i < x.cps.size := hg
    have hel : e < s.heap.objs.size := Heap.lt_size he
    have hil : it < s.heap.objs.size := by obtain ⟨_, q, _⟩ := hit; exact Heap.lt_size q
    have hh : X.A.in1.handled = none := I.ok.hd hc
    refine wpAny_pyNext_enum_itemC (Draws.text hh it x t) he hit hlt hne (by simpa using hne) fun v h' tk hP ho hit' hT hsz hk => ?_
    obtain ⟨c, u, hcx, rfl⟩ := hP
    refine ⟨_, rfl, wpAny_letOwnedTupleGo_enum (s := { s with heap := h', toks := tk + 1 }) ho fun h'' he' sb => ?_⟩
    have hT2 : h''.get? s.heap.objs.size = some { cls := .type "tuple", data := .seq #[.int i tk, .str ⟨#[c]⟩ u] } := (sb.2 _ (Nat.ne_of_gt hel)).trans hT
    have new : ObjOk X.prog X.w (upd H s.heap.objs.size (.tup [.int (i : Nat), .str ⟨#[c]⟩])) h'' s.heap.objs.size (.tup [.int (i : Nat), .str ⟨#[c]⟩]) :=
      ⟨by show 2 ≤ sizeLine; decide, [.int i tk, .str ⟨#[c]⟩ u], .cons ⟨_, rfl⟩ (.cons ⟨_, rfl⟩ .nil), ⟨_, hT2, rfl, _, rfl⟩⟩
    have I1 : Inv X pins σ (upd H s.heap.objs.size (.tup [.int (i : Nat), .str ⟨#[c]⟩])) { s with heap := h'', toks := tk + 1 } :=
      I.turnedNew (ch := [e, it]) (fun b ob hb q => (sb.2 b (fun z => hb (by simp [z]))).trans (hk b ob (fun z => hb (by simp [z])) (fun z => hb (by simp [z])) q)) hf (Nat.le_refl _) new
    refine ⟨.ref s.heap.objs.size, _, I1, rfl, ⟨_, c, rfl, I.hok.fresh (Nat.le_refl _), rfl, hcx⟩, ⟨⟨.str ⟨#[c]⟩ u, ?_⟩, ?_, hne, hlt⟩, fun b hb => ?_⟩
    · have e1 : ((i + 1 : Nat) : Int) = (i : Int) + 1 := by omega
      rw [e1]; exact he'
    · obtain ⟨o, ho', r⟩ := hit'
      exact ⟨o, (sb.2 it (Ne.symm hne)).trans ho', r⟩
    · have hb' : b < s.heap.objs.size := by
        have e' : b = e ∨ b = it := by simpa using hb
        rcases e' with z | z
        · rw [z]; exact hel
        · rw [z]; exact hil
      rw [upd_ne (Nat.ne_of_lt hb')]
      exact (hf b hb).1
  done := by
    intro X hP hw hK hc i pins s σ H E I hf st hg
    subst hP hw hK
    obtain ⟨⟨old, he⟩, hit, hne, hle⟩ := st
    have hge : x.cps.size ≤ i := hg
    have hi : i = x.cps.size := Nat.le_antisymm hle hge
    subst hi
    have hh : X.A.in1.handled = none := I.ok.hd hc
    obtain ⟨f0, f1, f2, f3, f4, f5⟩ := hf it (by simp)
    exact wpAny_pyNext_enum_endD (Draws.text hh it x t) he hit fun h' eb => ⟨rfl, I.turned (t' := s.toks) (fun b o hb q => eb b o hb q) f0 f1 f3 f4 f5⟩
  self := fun A i s Q E st h => let ⟨⟨_, he⟩, _⟩ := st; wpAny_pyIter_enum he h
def iEnumS (ta : TA) : TI := fun σ H R => ta σ H fun vs H1 => ∃ x, vs = [.str x] ∧ R (ItES x) H1
theorem pi_enumS {X : Cx} {e : Expr} {ta : TA} {p pos tpos : Pos} {elts : List Expr} {kk : Nat} (hg : Gl X "enumerate") (hm : X.mg "enumerate" = none) (ha : PA X [e] ta) (hs : starEach [e] X.env = [(false, eval e X.env)] := by rfl) :
    PI X (.Tuple elts kk tpos) (.Call (.Name "enumerate" p) [e] [] pos) (iEnumS ta) := by
  refine ⟨fun pins s σ H R I h => ?_⟩
  refine Call_ (ld_blt I hg hm boot_enumerate (PyProof.Rows.callWith_type1 (thn (ha.run pos pins s σ H _ I h) fun us s1 ⟨vs, H1, I1, r1, q1⟩ => ?_) hs rfl))
  obtain ⟨x, ex, q⟩ := q1
  subst ex
  cases r1 with
  | cons r rr =>
    cases rr
    obtain ⟨t, rfl⟩ := r
    refine call_enumerate_str fun h' he hit hsz hk => wpAny_pyIter_enum he ?_
    have I2 : Inv X pins σ H1 { s1 with heap := h' } := I1.kept (t' := s1.toks) hk
    refine ⟨s1.heap.objs.size + 1, [s1.heap.objs.size + 1, s1.heap.objs.size], _, _, H1, rfl, I2, turn_enumS x t (s1.heap.objs.size + 1) s1.heap.objs.size, ⟨⟨.none, he⟩, hit, Nat.succ_ne_self _, Nat.zero_le _⟩, fun b hb => ?_, q⟩
    have e' : b = s1.heap.objs.size + 1 ∨ b = s1.heap.objs.size := by simpa using hb
    have hle : s1.heap.objs.size ≤ b := by
      rcases e' with z | z
      · rw [z]; exact Nat.le_add_right _ _
      · rw [z]; exact Nat.le_refl _
    exact I1.fpOk hle (I1.hok.fresh hle)

/-! enumerate over a tuple -/
def ItET (K : PySem.W.Frag) (a : Addr) : It :=
  ⟨fun i H => ∃ (xs : List V) (x : V), SqT K H a xs ∧ xs[i]? = some x, fun i H v H' => ∃ T x, v = .ref T ∧ H T = none ∧ H' = upd H T (.tup [.int (i : Nat), x]) ∧ ∀ xs, SqT K H a xs → xs[i]? = some x, fun i H => ∃ xs : List V, SqT K H a xs ∧ xs.length ≤ i⟩
theorem meets_enumerate_newT (l : Addr) (items : Array Value) (n : Nat) (dct : Option Addr) (sl : Array (Option Value)) :
    Meets (Builtin.«enumerate.__new__» ⟨[.type "enumerate", .ref l], []⟩) (fun _ R s => s.heap.get? l = some { cls := .type "tuple", dict := dct, data := .seq items n, slots := sl } ∧
      R (.ok (.ret (.ref (s.heap.push { cls := .type "tuple_iterator", data := .fields #[.ref l, .int 0 0] }).objs.size)))
        { s with heap := (s.heap.push { cls := .type "tuple_iterator", data := .fields #[.ref l, .int 0 0] }).push { cls := .type "enumerate", data := .fields #[.none, .bool false, .ref s.heap.objs.size, rawInt 0, .none, .none] } }) :=
  .of_wp fun prog w A R s h => by
    obtain ⟨hp, g, d, tk, os⟩ := s; obtain ⟨hl, h⟩ := h
    have hsub := sub_enumerate
    have hL : Heap.IsTuple (Shared.heap ⟨hp, g, d, tk, os⟩) l items := ⟨_, hl, rfl, n, rfl⟩
    wp_walk using AutoSeq1.wpAny_loadPart' hl
    refine wpAny_stack_any fun st => wpAny_pure ?_
    split
    · rename_i c _ _ _ _ _
      cases (c == Value.type "enumerate")
      · wp_walk using AutoSeq1.wpAny_loadPart' hl, wpAny_pyIter_tuple hL
        exact ⟨_, rfl, h⟩
      · wp_walk using AutoSeq1.wpAny_loadPart' hl, wpAny_pyIter_tuple hL
        exact ⟨_, rfl, h⟩
    · wp_walk using AutoSeq1.wpAny_loadPart' hl, wpAny_pyIter_tuple hL
      exact ⟨_, rfl, h⟩
theorem call_enumerate_tup {prog : Program} {w : World} {A : Around} {E : Value → Shared → Prop} {s : Shared} {l : Addr} {items : Array Value} {Q : Value → Shared → Prop} (hL : s.heap.IsTuple l items)
    (h : ∀ h', IsEnum h' (s.heap.objs.size + 1) s.heap.objs.size 0 .none → h'.IsTupleIter s.heap.objs.size l 0 → h'.objs.size = s.heap.objs.size + 2 →
      (∀ b o, s.heap.get? b = some o → h'.get? b = some o) → Q (.ref (s.heap.objs.size + 1)) { s with heap := h' }) :
    wpAny (model prog w) A (call (.type "enumerate") [.ref l]) Q E s := by
  obtain ⟨⟨c, dct, dt, sl⟩, hl, hc, n, hd⟩ := hL
  replace hc : c = .type "tuple" := hc
  replace hd : dt = .seq items n := hd
  subst hc hd
  refine callType_new F.called_enumerate (by decide) (F.typeCall_enumerate_1 _) (F.newCall_enumerate_1 _) (fun obj => F.args_object_init_2 obj _) F.entry_enumerate_new
    (meets_enumerate_newT l items n dct sl) ⟨hl, ?_⟩
  have hz : (s.heap.push { cls := .type "tuple_iterator", data := .fields #[.ref l, .int 0 0] }).objs.size = s.heap.objs.size + 1 := Heap.size_push ..
  show _ ∧ _
  rw [hz]
  have he : IsEnum ((s.heap.push { cls := .type "tuple_iterator", data := .fields #[.ref l, .int 0 0] }).push
      { cls := .type "enumerate", data := .fields #[.none, .bool false, .ref s.heap.objs.size, rawInt 0, .none, .none] }) (s.heap.objs.size + 1) s.heap.objs.size 0 .none := by
    have := Heap.get?_push_size (s.heap.push { cls := .type "tuple_iterator", data := .fields #[.ref l, .int 0 0] })
      (o := { cls := .type "enumerate", data := .fields #[.none, .bool false, .ref s.heap.objs.size, rawInt 0, .none, .none] }) rfl
    rw [hz] at this; exact this
  refine ⟨⟨_, he, rfl⟩, h _ he ⟨_, Heap.get?_push_of_some _ (Heap.get?_push_size _ rfl), rfl, rfl⟩ (by rw [Heap.size_push, hz]) fun b o x => Heap.get?_push_of_some _ (Heap.get?_push_of_some _ x)⟩
theorem turn_enumT {P : Program} {w : World} {K : PySem.W.Frag} {elts : List Expr} {kk : Nat} {tpos : Pos} (a e it : Addr) :
    Turn P w K (.Tuple elts kk tpos) (ItET K a) [e, it] e (fun i h => (∃ old, IsEnum h e it ((i : Nat) : Int) old) ∧ h.IsTupleIter it a i ∧ e ≠ it ∧ a ≠ it ∧ a ≠ e) where
  mem := by simp
  obj := fun i h st b hb => by
    obtain ⟨⟨old, he⟩, ⟨o, ho, hc, hd⟩, _⟩ := st
    have e' : b = e ∨ b = it := by simpa using hb
    rcases e' with z | z
    · rw [z]; exact ⟨_, he, fun v q => nomatch q⟩
    · rw [z]; exact ⟨o, ho, fun v q => by rw [hd] at q; cases q⟩
  keep := fun i h h' st k => by
    obtain ⟨⟨old, he⟩, ⟨o, ho, r⟩, hne⟩ := st
    exact ⟨⟨old, k e (by simp) _ he⟩, ⟨o, k it (by simp) o ho, r⟩, hne⟩
  item := by
    intro X hP hw hK hc i pins s σ H E I hf st hg
    subst hP hw hK
    obtain ⟨⟨old, he⟩, hit, hne, hai, hae⟩ := st
    obtain ⟨xs, x, hq, hx⟩ := hg
    obtain ⟨its, rv, p, hz⟩ := I.tuple hq
    obtain ⟨u, hu, ru⟩ := rv.get hx
    have hel : e < s.heap.objs.size := Heap.lt_size he
    have hil : it < s.heap.objs.size := by obtain ⟨_, q, _⟩ := hit; exact Heap.lt_size q
    have hh : X.A.in1.handled = none := I.ok.hd hc
    have pT : s.heap.IsTuple a its.toArray := p
    have hlt : i < its.toArray.size := by
      have := (List.getElem?_eq_some_iff.mp hu).1
      simpa using this
    refine wpAny_pyNext_enum_itemC (Draws.tuple hh it a hai its.toArray) he ⟨hit, pT⟩ hlt hne (by simp [hne, Ne.symm hae]) fun v h' tk hP ho hit' hT hsz hk => ?_
    have ev : v = u := by
      have hP' : its.toArray[i]? = some v := hP
      rw [List.getElem?_toArray, hu] at hP'
      exact (Option.some.inj hP').symm
    subst ev
    refine ⟨_, rfl, wpAny_letOwnedTupleGo_enum (s := { s with heap := h', toks := tk + 1 }) ho fun h'' he' sb => ?_⟩
    have hT2 : h''.get? s.heap.objs.size = some { cls := .type "tuple", data := .seq #[.int i tk, v] } := (sb.2 _ (Nat.ne_of_gt hel)).trans hT
    have new : ObjOk X.prog X.w (upd H s.heap.objs.size (.tup [.int (i : Nat), x])) h'' s.heap.objs.size (.tup [.int (i : Nat), x]) :=
      ⟨by show 2 ≤ sizeLine; decide, [.int i tk, v], .cons ⟨_, rfl⟩ (.cons ru .nil), ⟨_, hT2, rfl, _, rfl⟩⟩
    have I1 : Inv X pins σ (upd H s.heap.objs.size (.tup [.int (i : Nat), x])) { s with heap := h'', toks := tk + 1 } :=
      I.turnedNew (ch := [e, it]) (fun b ob hb q => (sb.2 b (fun z => hb (by simp [z]))).trans (hk b ob (fun z => hb (by simp [z])) (fun z => hb (by simp [z])) q)) hf (Nat.le_refl _) new
    refine ⟨.ref s.heap.objs.size, _, I1, rfl, ⟨_, x, rfl, I.hok.fresh (Nat.le_refl _), rfl, fun ys hy => by rw [I.tuple_inj hy hq]; exact hx⟩, ⟨⟨v, ?_⟩, ?_, hne, hai, hae⟩, fun b hb => ?_⟩
    · have e1 : ((i + 1 : Nat) : Int) = (i : Int) + 1 := by omega
      rw [e1]; exact he'
    · obtain ⟨⟨o, ho', r⟩, _⟩ := hit'
      exact ⟨o, (sb.2 it (Ne.symm hne)).trans ho', r⟩
    · have hb' : b < s.heap.objs.size := by
        have e' : b = e ∨ b = it := by simpa using hb
        rcases e' with z | z
        · rw [z]; exact hel
        · rw [z]; exact hil
      rw [upd_ne (Nat.ne_of_lt hb')]
      exact (hf b hb).1
  done := by
    intro X hP hw hK hc i pins s σ H E I hf st hg
    subst hP hw hK
    obtain ⟨⟨old, he⟩, hit, hne, hai, hae⟩ := st
    obtain ⟨xs, hq, hx⟩ := hg
    obtain ⟨its, rv, p, hz⟩ := I.tuple hq
    have hl := rv.length
    have pT : s.heap.IsTuple a its.toArray := p
    have hh : X.A.in1.handled = none := I.ok.hd hc
    obtain ⟨f0, f1, f2, f3, f4, f5⟩ := hf it (by simp)
    have D : Draws X.prog X.w X.A.in1 it [it, a] i (fun _ _ => True) (fun j h => j = i ∧ h.IsTupleIter it a i ∧ h.IsTuple a its.toArray) :=
      { live := fun _ _ st => let ⟨o, ho, _⟩ := st.2.1; ⟨o, ho⟩
        frame := fun _ _ _ st hk => ⟨st.1, st.2.1.at fun o e => hk it (by simp) o e, st.2.2.at fun o e => hk a (by simp) o e⟩
        item := fun j s Q E hj st hQ => absurd st.1 (Nat.ne_of_lt hj)
        done := fun s Q E st hE => wpAny_nextOf_tuple_end hh st.2.1 st.2.2 (by simp; omega) hE }
    exact wpAny_pyNext_enum_endD D he ⟨rfl, hit, pT⟩ fun h' eb => ⟨rfl, I.turned (t' := s.toks) (fun b o hb q => eb b o hb q) f0 f1 f3 f4 f5⟩
  self := fun A i s Q E st h => let ⟨⟨_, he⟩, _⟩ := st; wpAny_pyIter_enum he h
def iEnumT (K : PySem.W.Frag) (ta : TA) : TI := fun σ H R => ta σ H fun vs H1 => ∃ a xs, vs = [.ref a] ∧ SqT K H1 a xs ∧ R (ItET K a) H1
theorem pi_enumT {X : Cx} {e : Expr} {ta : TA} {p pos tpos : Pos} {elts : List Expr} {kk : Nat} (hg : Gl X "enumerate") (hm : X.mg "enumerate" = none) (ha : PA X [e] ta) (hs : starEach [e] X.env = [(false, eval e X.env)] := by rfl) :
    PI X (.Tuple elts kk tpos) (.Call (.Name "enumerate" p) [e] [] pos) (iEnumT X.K ta) := by
  refine ⟨fun pins s σ H R I h => ?_⟩
  refine Call_ (ld_blt I hg hm boot_enumerate (PyProof.Rows.callWith_type1 (thn (ha.run pos pins s σ H _ I h) fun us s1 ⟨vs, H1, I1, r1, q1⟩ => ?_) hs rfl))
  obtain ⟨a, xs, ex, hq, q⟩ := q1
  subst ex
  cases r1 with
  | cons r rr =>
    cases rr
    cases r
    obtain ⟨its, rv, p', hz⟩ := I1.tuple hq
    have pT : s1.heap.IsTuple a its.toArray := p'
    have hlt : a < s1.heap.objs.size := by obtain ⟨o, ho, _⟩ := pT; exact Heap.lt_size ho
    refine call_enumerate_tup pT fun h' he hit hsz hk => wpAny_pyIter_enum he ?_
    have I2 : Inv X pins σ H1 { s1 with heap := h' } := I1.kept (t' := s1.toks) hk
    refine ⟨s1.heap.objs.size + 1, [s1.heap.objs.size + 1, s1.heap.objs.size], _, _, H1, rfl, I2, turn_enumT a (s1.heap.objs.size + 1) s1.heap.objs.size, ⟨⟨.none, he⟩, hit, Nat.succ_ne_self _, Nat.ne_of_lt hlt, Nat.ne_of_lt (Nat.lt_succ_of_lt hlt)⟩, fun b hb => ?_, q⟩
    have e' : b = s1.heap.objs.size + 1 ∨ b = s1.heap.objs.size := by simpa using hb
    have hle : s1.heap.objs.size ≤ b := by
      rcases e' with z | z
      · rw [z]; exact Nat.le_add_right _ _
      · rw [z]; exact Nat.le_refl _
    exact I1.fpOk hle (I1.hok.fresh hle)
/-- a list or a tuple, enumerated -/
def iEnumQ (K : PySem.W.Frag) (ta : TA) : TI := fun σ H R => iEnum K ta σ H R ∨ iEnumT K ta σ H R
theorem pi_enumQ {X : Cx} {e : Expr} {ta : TA} {p pos tpos : Pos} {elts : List Expr} {kk : Nat} (hg : Gl X "enumerate") (hm : X.mg "enumerate" = none) (ha : PA X [e] ta) (hs : starEach [e] X.env = [(false, eval e X.env)] := by rfl) :
    PI X (.Tuple elts kk tpos) (.Call (.Name "enumerate" p) [e] [] pos) (iEnumQ X.K ta) := by
  refine ⟨fun pins s σ H R I h => ?_⟩
  rcases h with h | h
  · exact (pi_enum hg hm ha hs).run pins s σ H R I h
  · exact (pi_enumT hg hm ha hs).run pins s σ H R I h
theorem walk_enumT {K : PySem.W.Frag} {a : Addr} {xs : List V} : Walk (ItET K a) xs.length (fun H => SqT K H a xs) (YPair (fun i => some (.int (i : Nat))) (fun i => xs[i]?)) := by
  refine ⟨fun i _ hi q => ⟨xs, xs[i], q, by simp [hi]⟩, fun _ q => ⟨xs, q, Nat.le_refl _⟩, fun i H v H' _ q y => ?_⟩
  obtain ⟨T, x, h1, h2, h3, h4⟩ := y
  exact ⟨T, .int (i : Nat), x, h1, h2, h3, rfl, h4 xs q⟩
theorem walk_enumS {x : Str} : Walk (ItES x) x.cps.size (fun _ => True) (fun i H v H' => ∃ T c, v = .ref T ∧ H T = none ∧ H' = upd H T (.tup [.int (i : Nat), .str ⟨#[c]⟩]) ∧ x.cps[i]? = some c) :=
  ⟨fun _ _ hi _ => hi, fun _ _ => Nat.le_refl _, fun _ _ _ _ _ _ y => y⟩
end Lx

set_option maxRecDepth 100000
set_option maxHeartbeats 4000000
namespace Lx
open PySem PySem.Spec PyProof.Rows L2
/-- n turns, each a new tuple whose items are as f says -/
def ItTup (n : Nat) (f : Nat → List V → Prop) : It :=
  ⟨fun i _ => i < n, fun i H v H' => ∃ T xs, v = .ref T ∧ H T = none ∧ H' = upd H T (.tup xs) ∧ f i xs, fun i _ => n ≤ i⟩
theorem turn_tuples {P : Program} {w : World} {K : PySem.W.Frag} {elts : List Expr} {kk : Nat} {tpos : Pos} {it : Addr} {fp wr : List Addr} {n : Nat} {Pt : Nat → Array Value → Prop} {St : Nat → Heap → Prop} {Mid : Nat → Addr → Heap → Prop} {f : Nat → List V → Prop}
    (Wk : ∀ A : Around, A.in1.handled = none → WalksT P w A it fp wr n Pt St Mid) (hrel : ∀ i vals, Pt i vals → ∃ xs, Vals xs vals.toList ∧ f i xs ∧ xs.length ≤ 8)
    (hobj : ∀ i h, St i h → ∀ b ∈ fp, ∃ o, h.get? b = some o ∧ ∀ v, o.data ≠ .cell v) (hmem : it ∈ fp)
    (hself : ∀ (A : Around) (i : Nat) (s : Shared) (Q : Value → Shared → Prop) (E : Value → Shared → Prop), St i s.heap → Q (.ref it) s → wpAny (model P w) A (pyIter (.ref it)) Q E s) :
    Turn P w K (.Tuple elts kk tpos) (ItTup n f) fp it (fun i h => St i h ∧ i ≤ n) where
  mem := hmem
  obj := fun i h st => hobj i h st.1
  keep := fun i h h' st k => ⟨(Wk {} rfl).frame i h h' st.1 k, st.2⟩
  item := by
    intro X hP hw hK hc i pins s σ H E I hf st hg
    subst hP hw hK
    have hh : X.A.in1.handled = none := I.ok.hd hc
    have hlt : i < n := hg
    refine (GoesN.ofWalksT (elts := elts) (k := kk) (pos := tpos) (Wk X.A hh)).goes i s _ _ hlt st.1 fun v h' tk hY st' hk htk => ?_
    obtain ⟨T, vals, rfl, hnew, hPt, hT⟩ := hY
    obtain ⟨xs, rv, hfx, hl⟩ := hrel i vals hPt
    have new : ObjOk X.prog X.w (upd H T (.tup xs)) h' T (.tup xs) := ⟨Nat.le_trans hl (by decide), vals.toList, rv, by rw [Array.toArray_toList]; exact hT⟩
    have I1 : Inv X pins σ (upd H T (.tup xs)) { s with heap := h', toks := tk } :=
      I.turnedNew (ch := fp) (fun b ob hb q => hk b ob (fun z => hb ((Wk X.A hh).sub b z)) q) hf hnew new
    refine ⟨.ref T, _, I1, rfl, ⟨T, xs, rfl, I.hok.fresh hnew, rfl, hfx⟩, ⟨st', hlt⟩, fun b hb => ?_⟩
    have hb' : b < s.heap.objs.size := by obtain ⟨o, ho, _⟩ := hobj i _ st.1 b hb; exact Heap.lt_size ho
    rw [upd_ne (Nat.ne_of_lt (Nat.lt_of_lt_of_le hb' hnew))]
    exact (hf b hb).1
  done := by
    intro X hP hw hK hc i pins s σ H E I hf st hg
    subst hP hw hK
    have hh : X.A.in1.handled = none := I.ok.hd hc
    have hge : n ≤ i := hg
    have hi : i = n := Nat.le_antisymm st.2 hge
    subst hi
    refine (Wk X.A hh).done s _ _ st.1 fun h' tk hk => ⟨rfl, ?_⟩
    exact I.turnedL (ch := fp) (fun c o hb q => hk c o (fun z => hb ((Wk X.A hh).sub c z)) q) hf
  self := fun A i s Q E st h => hself A i s Q E st.1 h
theorem walk_tuples {n : Nat} {f : Nat → List V → Prop} : Walk (ItTup n f) n (fun _ => True) (fun i H v H' => ∃ T xs, v = .ref T ∧ H T = none ∧ H' = upd H T (.tup xs) ∧ f i xs) :=
  ⟨fun _ _ hi _ => hi, fun _ _ => Nat.le_refl _, fun _ _ _ _ _ _ y => y⟩
/-! zip of two texts -/
def zipF (x y : Str) : Nat → List V → Prop := fun i xs => ∃ c d, x.cps[i]? = some c ∧ y.cps[i]? = some d ∧ xs = [.str ⟨#[c]⟩, .str ⟨#[d]⟩]
def iZipS (ta : TA) : TI := fun σ H R => ta σ H fun vs H1 => ∃ x y, vs = [.str x, .str y] ∧ R (ItTup (min x.cps.size y.cps.size) (zipF x y)) H1
theorem pi_zipS {X : Cx} {e e2 : Expr} {ta : TA} {p pos tpos : Pos} {elts : List Expr} {kk : Nat} (hg : Gl X "zip") (hm : X.mg "zip" = none) (ha : PA X [e, e2] ta)
    (hs : starEach [e, e2] X.env = (false, eval e X.env) :: starEach [e2] X.env := by rfl) (hpl : (backTo pos (starEach [e2] X.env)).any (·.1) = false := by rfl) :
    PI X (.Tuple elts kk tpos) (.Call (.Name "zip" p) [e, e2] [] pos) (iZipS ta) := by
  refine ⟨fun pins s σ H R I h => ?_⟩
  refine Call_ (ld_blt I hg hm PyProof.Rows.boot_zip (PyProof.Rows.callWith_type1 (thn (ha.run pos pins s σ H _ I h) fun us s1 ⟨vs, H1, I1, r1, q1⟩ => ?_) hs hpl))
  obtain ⟨x, y, ex, q⟩ := q1
  subst ex
  cases r1 with
  | cons r rr =>
    cases rr with
    | cons r' rr =>
      cases rr
      obtain ⟨t, rfl⟩ := r
      obtain ⟨t', rfl⟩ := r'
      refine zip_begins2 (begins_text x t) (begins_text y t') trivial trivial fun h' hz hTI hTO h1 h2 hsz hk => wpAny_pyIter_zip hz ?_
      have I2 : Inv X pins σ H1 { s1 with heap := h' } := I1.kept (t' := s1.toks) hk
      have sep := zip_sep2 (N := s1.heap.objs.size) (fp1 := []) (fp2 := []) (fun b hb => nomatch hb) (fun b hb => nomatch hb)
      have tn := turn_tuples (P := X.prog) (w := X.w) (K := X.K) (elts := elts) (kk := kk) (tpos := tpos) (f := zipF x y)
        (fun A hh => WalksT.zipD2 sep (Draws.text (prog := X.prog) (w := X.w) hh s1.heap.objs.size x t) (Draws.text (prog := X.prog) (w := X.w) hh (s1.heap.objs.size + 1) y t'))
        (fun i vals hv => by
          obtain ⟨x1, x2, ⟨c, u, hc, rfl⟩, ⟨d, u', hd, rfl⟩, rfl⟩ := hv
          exact ⟨[.str ⟨#[c]⟩, .str ⟨#[d]⟩], .cons ⟨_, rfl⟩ (.cons ⟨_, rfl⟩ .nil), ⟨c, d, hc, hd, rfl⟩, by show 2 ≤ 8; decide⟩)
        (fun i h st b hb => by
          obtain ⟨z1, z2, ⟨a1, a2, z3⟩, ⟨o1, e1, _, d1⟩, ⟨o2, e2, _, d2⟩⟩ := st
          have e' : b = s1.heap.objs.size + 4 ∨ b = s1.heap.objs.size + 2 ∨ b = s1.heap.objs.size + 3 ∨ b = s1.heap.objs.size ∨ b = s1.heap.objs.size + 1 := by simpa using hb
          rcases e' with q | q | q | q | q
          · rw [q]; exact ⟨_, z1, fun v q => nomatch q⟩
          · rw [q]; exact ⟨_, z2, fun v q => nomatch q⟩
          · rw [q]; exact ⟨_, z3, fun v q => nomatch q⟩
          · rw [q]; exact ⟨o1, e1, fun v q => by rw [d1] at q; cases q⟩
          · rw [q]; exact ⟨o2, e2, fun v q => by rw [d2] at q; cases q⟩)
        (by simp) (fun A i s Q E st h => wpAny_pyIter_zip st.1 h)
      refine ⟨s1.heap.objs.size + 4, _, _, _, H1, rfl, I2, tn, ⟨⟨hz, hTI, ⟨_, _, hTO⟩, ⟨_, h1, rfl, rfl⟩, ⟨_, h2, rfl, rfl⟩⟩, Nat.zero_le _⟩, fun c hcm => ?_, q⟩
      have e' : c = s1.heap.objs.size + 4 ∨ c = s1.heap.objs.size + 2 ∨ c = s1.heap.objs.size + 3 ∨ c = s1.heap.objs.size ∨ c = s1.heap.objs.size + 1 := by simpa using hcm
      have hle : s1.heap.objs.size ≤ c := by
        rcases e' with z | z | z | z | z
        · rw [z]; exact Nat.le_add_right _ _
        · rw [z]; exact Nat.le_add_right _ _
        · rw [z]; exact Nat.le_add_right _ _
        · rw [z]; exact Nat.le_refl _
        · rw [z]; exact Nat.le_add_right _ _
      exact I1.fpOk hle (I1.hok.fresh hle)
/-! text * int -/
section
variable {X : Cx}
theorem op_rep_str : OpR X (binaryOp .Mult) (fun x y H Q => ∃ (z : Str) (n : Int), x = .str z ∧ y = .int n ∧ n < 2 ^ 20 ∧ -(2 ^ 20) < n ∧ z.length * n.toNat ≤ 100000 ∧ Q (.str (Txt.mul z n)) H) := by
  intro pins s σ H x y u v Q I rx ry h
  obtain ⟨z, n, rfl, rfl, h1, h2, h3, q⟩ := h
  obtain ⟨t, rfl⟩ := rx
  obtain ⟨t', rfl⟩ := ry
  refine SB.mul ⟨?_, fun a b => ?_, fun a b => ?_⟩ fun t' k => ⟨.str (Txt.mul z n), H, I.tok _, ⟨_, rfl⟩, q⟩
  · rw [decide_eq_false (by omega), decide_eq_false (by omega)]; rfl
  · have e1 : ((z.length : Int)) ≤ 100000 := by
      have : z.length * 1 ≤ z.length * n.toNat := Nat.mul_le_mul_left _ (by omega)
      omega
    have e2 : (100000 : Int) ≤ (2 ^ 63 - 1) / n := by
      refine (Int.le_ediv_iff_mul_le (by omega)).mpr ?_
      omega
    omega
  · show decide (z.length * n.toNat > sizeLine) = false
    exact decide_eq_false (Nat.not_lt.mpr (Nat.le_trans h3 (by decide)))
end
/-! a class made without arguments; a def called without; a property -/
open C8 in
theorem pe_mk0 {X : Cx} {k j : Nat} {C : Addr} {x : Str} {sp : Sp} {dvs : List V} {p pos : Pos} (c : Mak X.prog X.w X.K X.mg X.base k x C sp dvs) (hr : Room j X.A) (hk : k + 1 ≤ j) (hg : Gl X x) (hdb : (x == ("__debug__" : Str)) = false := by decide) :
    PE X (.Call (.Name x p) [] [] pos) (tMake C sp dvs C8.E0 tNil) := by
  obtain ⟨f, fd, ps, ds, M, F, hm, b, d⟩ := c.ex
  exact pe_make0 M F (hr.mono hk) hg hm b d C8.pass0 hdb
open C8 in
theorem pe_c0 {X : Cx} {k j : Nat} {x : Str} {sp : Sp} {dvs : List V} {p pos : Pos} (c : Cal X.prog X.w X.K X.mg X.base k x sp dvs) (hr : Room j X.A) (hk : k ≤ j) (hg : Gl X x) (hdb : (x == ("__debug__" : Str)) = false := by decide) :
    PE X (.Call (.Name x p) [] [] pos) (tCall sp dvs C8.E0 tNil) := by
  obtain ⟨f, fd, ps, ds, F, hm, kp, b, d⟩ := c.ex
  exact pe_call0 F (hr.mono hk) hg hm kp b d C8.pass0 hdb
/-- a property of the class at C -/
structure Prp (P : Program) (w : World) (K : PySem.W.Frag) (mg : Str → Option Value) (base : Heap) (k : Nat) (C : Addr) (m : Str) (sp : Sp) : Prop where
  ex : ∃ (p f : Addr) (fd : FuncData) (ps : List Str), Cls K C ∧ PropOf K C m p f ∧ FnOk P w K mg base C8.CX0 k f fd ps sp ∧ Binds K fd ps []
theorem pe_pr {X : Cx} {k j : Nat} {C : Addr} {m : Str} {sp : Sp} {e : Expr} {ta : TE} {pos : Pos} (c : Prp X.prog X.w X.K X.mg X.base k C m sp) (hr : Room j X.A) (hk : k + 1 ≤ j) (he : PE X e ta) (hab : attributeBase e m X.env (eval e X.env) = eval e X.env := by rfl) :
    PE X (.Attribute e m pos) (tProp C sp [] C8.E0 ta) := by
  obtain ⟨p, f, fd, ps, hc, hp, F, b⟩ := c.ex
  exact pe_prop he hc hp F (hr.mono hk) b .nil C8.pass0 hab
end Lx

set_option maxRecDepth 100000
set_option maxHeartbeats 4000000
namespace Lx
open PySem PySem.Spec PyProof.Rows L2
section
variable {X : Cx} {k j : Nat} {C : Addr} {sp : Sp}
/-- a def run from a deeper place of the same frame -/
theorem run_sub {CX : CXT} {f : Addr} {fd : FuncData} {ps : List Str} {A : Around} {pins : List (Addr × Obj)} {σ : L2.St} {H : Hp} {s : Shared} {Q : VK} {E : XK} {us : List Value} {vs : List V} (F : FnOk X.prog X.w X.K X.mg X.base CX k f fd ps sp) (sb : Sub X k A) (hb : Binds X.K fd ps [])
    (hx : Passes CX X E) (I : Inv X pins σ H s) (r : Vals vs us) (h : sp vs H Q E) : wpAny (model X.prog X.w) A (call (.ref f) us) (EP X pins σ Q) X.xe s := by
  have e0 : Env0 X.prog X.w X.K X.mg X.base A X.stack s H := by
    have e := I.env0
    exact ⟨by rw [sb.fr]; exact e.frames, e.mod, e.bs, e.bsz, e.funs, e.frf, e.hok, e.bare⟩
  have hl : (us ++ []).length = ps.length := by rw [List.append_nil, ← r.length]; exact F.len _ _ _ _ h
  refine wpAny_call (codeAny_mono (F.run A X.stack s H ⟨us, []⟩ us vs Q E sb.room e0 (by have := hb s us I.kIn hl; simpa using this) r h) fun r s' hq => ?_)
  cases r with
  | error e => exact hx pins σ H s e s' I hq
  | ok fl =>
    cases fl with
    | ret w => exact I.after hq
    | next => exact False.elim hq
    | brk => exact False.elim hq
    | cont => exact False.elim hq
theorem vals_nil {ds : List Value} (h : Vals [] ds) : ds = [] := by cases h; rfl
theorem sub_in2 {A : Around} (hr : Room j A) (hk : k + 2 ≤ j) (hf : A.frames = X.A.frames) : Sub X k A.in1.in1 := by
  have s : Sub X (k + 2) A := ⟨hr.mono hk, hf⟩
  exact s.in1.in1
/-- str(o) by the text's own __str__ -/
def rStrO (C : Addr) (sp : Sp) : List V → Hp → VK → Prop := fun xs H Q => ∃ a dx fs, xs = [.ref a] ∧ H a = some (.ins C dx fs) ∧ sp [.ref a] H (fun v H' => ∃ z, v = .str z ∧ Q (.str z) H') C8.E0
theorem call_str_own (c : C8.Met X.prog X.w X.K X.mg X.base k C "__str__" sp []) (hr : Room j X.A) (hk : k + 2 ≤ j) : CallR X (.type "str") (rStrO C sp) := by
  intro pins s σ H xs us Q I rv h
  obtain ⟨a, dx, fs, rfl, ha, hsp⟩ := h
  obtain ⟨f, fd, ps, ds, _, me, F, b, d⟩ := c.ex
  obtain rfl := vals_nil d
  cases rv with
  | cons r rr =>
    cases rr
    cases r
    obtain ⟨mA, J, _⟩ := ins_get I.hok ha
    obtain ⟨od, J, _⟩ := J.look
    have sb : Sub X k X.A.in1.in1 := sub_in2 hr hk rfl
    refine PySem.W.kso_call sb.room.units0 I.kIn J me.at_ me.fn (wpAny_mono (run_sub (vs := [.ref a]) F sb b C8.pass0 I (.cons rfl .nil) hsp) (fun u s' q => ?_) fun _ _ x => x)
    obtain ⟨v, H', I', ru, z, ez, q⟩ := q
    subst ez
    obtain ⟨t, rfl⟩ := ru
    exact ⟨.str z, H', I', ⟨t, rfl⟩, q⟩
/-- len(o) by the text's own __len__ -/
def rLenO (C : Addr) (sp : Sp) : List V → Hp → VK → Prop := fun xs H Q => ∃ a dx fs, xs = [.ref a] ∧ H a = some (.ins C dx fs) ∧ sp [.ref a] H (fun v H' => ∃ n : Int, v = .int n ∧ 0 ≤ n ∧ n < 2 ^ 63 ∧ Q (.int n) H') C8.E0
theorem call_len_own (c : C8.Met X.prog X.w X.K X.mg X.base k C "__len__" sp []) (hr : Room j X.A) (hk : k + 2 ≤ j) : CallR X (.builtin "len") (rLenO C sp) := by
  intro pins s σ H xs us Q I rv h
  obtain ⟨a, dx, fs, rfl, ha, hsp⟩ := h
  obtain ⟨f, fd, ps, ds, _, me, F, b, d⟩ := c.ex
  obtain rfl := vals_nil d
  cases rv with
  | cons r rr =>
    cases rr
    cases r
    obtain ⟨mA, J, _⟩ := ins_get I.hok ha
    obtain ⟨od, J, _⟩ := J.look
    have sb : Sub X k X.A.in1 := (show Sub X (k + 1) X.A from ⟨hr.mono (by omega), rfl⟩).in1
    obtain ⟨m, hF⟩ := I.fr
    refine PySem.W.len_K hF I.ok.mod.kin J me.at_ me.fn (wpAny_mono (run_sub (vs := [.ref a]) F sb b C8.pass0 I (.cons rfl .nil) hsp) (fun u s' q => ?_) fun _ _ x => x)
    obtain ⟨v, H', I', ru, z, ez, h0, h1, q⟩ := q
    subst ez
    obtain ⟨t, rfl⟩ := ru
    exact ⟨⟨h0, h1⟩, .int z, H', I'.tok _, ⟨_, rfl⟩, q⟩
/-- o == p, both of the class at C, by the text's own __eq__ -/
def rEqO (C : Addr) (sp : Sp) : R2 := fun x y H Q => ∃ a b dx dy fs gs, x = .ref a ∧ y = .ref b ∧ H a = some (.ins C dx fs) ∧ H b = some (.ins C dy gs) ∧ sp [.ref a, .ref b] H (fun v H' => ∃ t : Bool, v = .bl t ∧ Q (.bl t) H') C8.E0
theorem op_eqOwn (c : C8.Met X.prog X.w X.K X.mg X.base k C "__eq__" sp []) (hr : Room j X.A) (hk : k ≤ j) : OpR X (compareOp .Eq) (rEqO C sp) := by
  intro pins s σ H x y v u Q I rx ry h
  obtain ⟨a, b, dx, dy, fs, gs, rfl, rfl, ha, hb, hsp⟩ := h
  obtain ⟨f, fd, ps, ds, _, me, F, bn, d⟩ := c.ex
  obtain rfl := vals_nil d
  cases rx
  cases ry
  obtain ⟨mA, J, _⟩ := ins_get I.hok ha
  obtain ⟨mB, J', _⟩ := ins_get I.hok hb
  obtain ⟨od, J, _⟩ := J.look
  obtain ⟨od', J', _⟩ := J'.look
  obtain ⟨m, hF⟩ := I.fr
  have sb : Sub X k X.A := ⟨hr.mono hk, rfl⟩
  show wpAny (model X.prog X.w) X.A (richCompare .Eq (.ref a) (.ref b)) (EP X pins σ Q) X.xe s
  refine PySem.W.cmp_K (op := .Eq) (tb := .ref C) sb.room.units0 hF I.ok.mod.kin J J'.type (by simp [PySem.W.notFirst]) me.at_ me.fn ?_
  refine wpAny_mono (run_sub (vs := [.ref a, .ref b]) F sb bn C8.pass0 I (.cons rfl (.cons rfl .nil)) hsp) (fun u s' q => ?_) fun _ _ x => x
  obtain ⟨v, H', I', ru, t, ez, q⟩ := q
  subst ez
  cases (show u = Value.bool t from ru)
  exact ⟨.bl t, H', I', rfl, q⟩
end
/-- what of the text != wants -/
structure NeT (K : PySem.W.Frag) (C : Addr) : Prop where
  mro : PySem.W.mroIn K C (.type "object") = some true
  ne : PySem.W.findIn K (.ref C) "__ne__" = some (some (.builtin "object.__ne__"))
section
open PySem.W
variable {M : Model} {prog : Program} {w : World} {A : Around} {E : Value → Shared → Prop} {s : Shared} {K : PySem.W.Frag} {x C f : Addr} {ox : Obj} {od : Option Obj} {b tb : Value}
theorem ifBound_bltn {name : Str} {id : String} {args : List Value} {Q : Option Value → Shared → Prop} (X : K.In s.heap) (I : PySem.W.InstAt s.heap x ox C od) (hs : PySem.W.findIn K (.ref C) name = some (some (.builtin id)))
    (hb : ∀ self, bindSpecial (.builtin id) self = pure (.builtin id, [self])) (h : wpAny M A (call (.builtin id) (.ref x :: args)) (fun v => Q (some v)) E s) : wpAny M A (callSpecialIfBound? (.ref x) name args) Q E s := by
  simp only [callSpecialIfBound?, bindSpecialIfBound?]
  refine wpAny_holding (wpAny_bind (wpAny_bind (wpAny_bind (I.type.here ((PySem.W.looks_findIn X hs).here ?_)))))
  refine wpAny_bind (wpAny_askSetting (wpAny_ite ?_))
  have fin : wpAny M A (call (.builtin id) ([.ref x] ++ args) >>= fun v => pure (some v)) Q E s := wpAny_bind (wpAny_mono h (fun v s' h' => wpAny_pure h') fun _ _ h' => h')
  split
  · exact wpAny_bind (wpAny_of_eq (hb _) (wpAny_pure (by exact fin)))
  · exact wpAny_tryCatch (wpAny_bind (wpAny_of_eq (hb _) (wpAny_pure (by exact fin))))
theorem ne_tree {Q : Fin → Shared → Prop} (hu : A.units < cLine) (X : K.In s.heap) (I : PySem.W.InstAt s.heap x ox C od) (he : PySem.W.findIn K (.ref C) "__eq__" = some (some (.ref f))) (hf : PySem.W.isFn K (.ref f) = true)
    (h : wpAny M A (call (.ref f) [.ref x, b]) (fun v s' => ∃ t : Bool, v = .bool t ∧ Q (.done (.ret (.bool (!t)))) s') E s) : wpAny M A (Builtin.«object.__ne__» ⟨[.ref x, b], []⟩) Q E s := by
  unfold Builtin.«object.__ne__»
  refine wpAny_bind (m := slotArgs "__ne__" 1 _) (wpAny_pure ?_)
  refine wpAny_bind (m := cRoomFor _ _) (wpAny_cRoomFor hu ?_)
  refine wpAny_bind (m := callSpecialIfBound? (.ref x) (Str.ofString "__eq__") _) (ifBound_K X I he hf (wpAny_mono h (fun r s' hr => ?_) fun _ _ y => y))
  obtain ⟨t, rfl, q⟩ := hr
  exact wpAny_bind (wpAny_truthy_bool (wpAny_pure q))
theorem cmp_neK {Q : Value → Shared → Prop} (hu : A.units < cLine) (hu1 : A.in1.units < cLine) (X : K.In s.heap) (I : PySem.W.InstAt s.heap x ox C od) (hb : Looks (model prog w) s.heap (typeOf b) tb) (hn : PySem.W.notFirst K C tb = true) (N : NeT K C)
    (he : PySem.W.findIn K (.ref C) "__eq__" = some (some (.ref f))) (hf : PySem.W.isFn K (.ref f) = true)
    (h : wpAny (model prog w) A.in1 (call (.ref f) [.ref x, b]) (fun v s' => ∃ t : Bool, v = .bool t ∧ Q (.bool (!t)) s') E s) : wpAny (model prog w) A (richCompare .NotEq (.ref x) b) Q E s := by
  have one : wpAny (model prog w) A (tryCompare (.ref x) (cmpInfo .NotEq).2.1 b) (fun r s' => ∃ v, r = some v ∧ Q v s') E s := by
    unfold tryCompare
    refine wpAny_bind (ifBound_bltn X I N.ne F.cmp_object.ne.bind ?_)
    refine wpAny_call (codeAny_call_builtin F.cmp_object.ne.plain F.cmpEntry_ne (PySem.W.check_slot F.cmpKind_ne F.cmpSplit_ne (I.type.andThen (PySem.W.looks_mroIn X N.mro)) (F.cmpArgs_ne _ _) (ne_tree hu1 X I he hf (wpAny_mono h (fun v s' hv => ?_) fun _ _ e => e))))
    obtain ⟨t, rfl, q⟩ := hv
    exact ⟨t, rfl, wpAny_pure ⟨_, rfl, q⟩⟩
  unfold richCompare
  simp only [oneThing_ref]
  refine wpAny_holding (wpAny_bind (wpAny_cRoomFor hu ?_))
  refine wpAny_bind (I.type.here (wpAny_bind (hb.here ?_)))
  split
  · rename_i q
    have e : subIn K tb (.ref C) = some false := by
      rcases Bool.or_eq_true_iff.mp hn with e | e
      · rw [beq_iff_eq.mp e] at q; simp at q
      · exact beq_iff_eq.mp e
    refine wpAny_bind ((looks_subIn X e).here ?_)
    simp only [Bool.false_eq_true, if_false]
    refine wpAny_bind (wpAny_mono one (fun r s' z => ?_) fun _ _ e => e)
    obtain ⟨v, rfl, hq⟩ := z
    exact wpAny_pure hq
  · refine wpAny_bind (wpAny_pure ?_)
    simp only [Bool.false_eq_true, if_false]
    refine wpAny_bind (wpAny_mono one (fun r s' z => ?_) fun _ _ e => e)
    obtain ⟨v, rfl, hq⟩ := z
    exact wpAny_pure hq
end
section
variable {X : Cx} {k j i : Nat} {C : Addr} {sp : Sp} {x y : Str} {dvs : List V} {p pos : Pos} {e : Expr} {es : List Expr} {t : TA}
/-- o != p -/
def rNeO (C : Addr) (sp : Sp) : R2 := fun x y H Q => ∃ a b dx dy fs gs, x = .ref a ∧ y = .ref b ∧ H a = some (.ins C dx fs) ∧ H b = some (.ins C dy gs) ∧ sp [.ref a, .ref b] H (fun v H' => ∃ t : Bool, v = .bl t ∧ Q (.bl (!t)) H') C8.E0
theorem op_neOwn (c : C8.Met X.prog X.w X.K X.mg X.base k C "__eq__" sp []) (N : NeT X.K C) (hr : Room j X.A) (hk : k + 1 ≤ j) : OpR X (compareOp .NotEq) (rNeO C sp) := by
  intro pins s σ H x y v u Q I rx ry h
  obtain ⟨a, b, dx, dy, fs, gs, rfl, rfl, ha, hb, hsp⟩ := h
  obtain ⟨f, fd, ps, ds, _, me, F, bn, d⟩ := c.ex
  obtain rfl := vals_nil d
  cases rx
  cases ry
  obtain ⟨mA, J, _⟩ := ins_get I.hok ha
  obtain ⟨mB, J', _⟩ := ins_get I.hok hb
  obtain ⟨od, J, _⟩ := J.look
  obtain ⟨od', J', _⟩ := J'.look
  have sb1 : Sub X (k + 1) X.A := ⟨hr.mono hk, rfl⟩
  have sb := sb1.in1
  show wpAny (model X.prog X.w) X.A (richCompare .NotEq (.ref a) (.ref b)) (EP X pins σ Q) X.xe s
  refine cmp_neK (tb := .ref C) sb1.room.units0 sb.room.units0 I.kIn J J'.type (by simp [PySem.W.notFirst]) N me.at_ me.fn ?_
  refine wpAny_mono (run_sub (vs := [.ref a, .ref b]) F sb bn C8.pass0 I (.cons rfl (.cons rfl .nil)) hsp) (fun u s' q => ?_) fun _ _ x => x
  obtain ⟨v, H', I', ru, t, ez, q⟩ := q
  subst ez
  cases (show u = Value.bool t from ru)
  exact ⟨t, rfl, .bl (!t), H', I', rfl, q⟩
/-- the class in the i-th slot is made -/
def tMakeL (i : Nat) (C : Addr) (sp : Sp) (dvs : List V) (t : TA) : TE := fun σ H Q => σ[i]? = some (some (.ref C)) ∧ tMake C sp dvs C8.E0 t σ H Q
theorem pe_mkL (i : Nat) (c : C8.Mak X.prog X.w X.K X.mg X.base k y C sp dvs) (hr : Room j X.A) (hk : k + 1 ≤ j) (ha : PA X (e :: es) t) (hN : X.N[i]? = some x := by rfl) (hv : Vis X.env.scope x := by first | exact Or.inl rfl | exact Or.inr (Or.inl rfl) | exact Or.inr (Or.inr rfl))
    (hdb : (x == ("__debug__" : Str)) = false := by decide) (hcd : (x == ("__classdict__" : Str)) = false := by decide)
    (he : starEach (e :: es) X.env = (false, eval e X.env) :: starEach es X.env := by rfl) (hpl : (backTo pos (starEach es X.env)).any (·.1) = false := by rfl) : PE X (.Call (.Name x p) (e :: es) [] pos) (tMakeL i C sp dvs t) := by
  obtain ⟨f, fd, ps, ds, M, F, hm, b, d⟩ := c.ex
  refine ⟨fun pins s σ H Q I h => ?_⟩
  obtain ⟨hs, ht⟩ := h
  refine wpAny_Call_Name_kw (thn ((pe_var (pos := p) hN hv hdb hcd).run pins s σ H (fun v H1 => v = .ref C ∧ H1 = H) I ⟨.ref C, hs, rfl, rfl⟩) fun u s1 ⟨v, H1, I1, r1, q1⟩ => ?_)
  obtain ⟨rfl, rfl⟩ := q1
  cases r1
  refine PySem.W.callWith_K (h₀ := X.base) I.ok.mod.kin M.kp (thn (ha.run pos pins s1 σ _ _ I1 ht) fun us s2 ⟨vs, H2, I2, r, q⟩ => ⟨I2.kIn, ?_⟩) he hpl
  exact run_make M F (hr.mono hk) b d C8.pass0 I2 r q
theorem pe_mkL0 (i : Nat) (c : C8.Mak X.prog X.w X.K X.mg X.base k y C sp dvs) (hr : Room j X.A) (hk : k + 1 ≤ j) (hN : X.N[i]? = some x := by rfl) (hv : Vis X.env.scope x := by first | exact Or.inl rfl | exact Or.inr (Or.inl rfl) | exact Or.inr (Or.inr rfl))
    (hdb : (x == ("__debug__" : Str)) = false := by decide) (hcd : (x == ("__classdict__" : Str)) = false := by decide) : PE X (.Call (.Name x p) [] [] pos) (tMakeL i C sp dvs tNil) := by
  obtain ⟨f, fd, ps, ds, M, F, hm, b, d⟩ := c.ex
  refine ⟨fun pins s σ H Q I h => ?_⟩
  obtain ⟨hs, ht⟩ := h
  refine wpAny_Call_Name_kw (thn ((pe_var (pos := p) hN hv hdb hcd).run pins s σ H (fun v H1 => v = .ref C ∧ H1 = H) I ⟨.ref C, hs, rfl, rfl⟩) fun u s1 ⟨v, H1, I1, r1, q1⟩ => ?_)
  obtain ⟨rfl, rfl⟩ := q1
  cases r1
  exact PySem.W.callWith_K0 I1.kIn M.kp (run_make (us := []) M F (hr.mono hk) b d C8.pass0 I1 .nil ht)
/-- a classmethod of the class at C, C the module's name x -/
structure CMt (P : Program) (w : World) (K : PySem.W.Frag) (mg : Str → Option Value) (base : Heap) (k : Nat) (x : Str) (C : Addr) (m : Str) (sp : Sp) : Prop where
  ex : ∃ (mc : Value) (p g : Addr) (fd : FuncData) (ps : List Str), mg x = some (.ref C) ∧ ClX.CRead K C mc ∧ ClX.CMet K C mc m p g ∧ FnOk P w K mg base C8.CX0 k g fd ps sp ∧ Binds K fd ps []
theorem pe_cm {m : Str} {apos : Pos} {pl : Sem Bool} (c : CMt X.prog X.w X.K X.mg X.base k x C m sp) (hr : Room j X.A) (hk : k ≤ j) (hg : Gl X x) (ha : PA X (e :: es) t) (hdb : (x == ("__debug__" : Str)) = false := by decide)
    (hst : starEach (e :: es) X.env = (false, eval e X.env) :: starEach es X.env := by rfl) (hpl : (backTo pos (starEach es X.env)).any (·.1) = false := by rfl)
    (ht : eval (.Call (.Attribute (.Name x p) m apos) (e :: es) [] pos) X.env = (do
      let ov ← eval (.Name x p) X.env
      standAt apos.atName
      let (f, first) ← holding [ov] (getMethod ov m pl)
      callWith pos f first (backTo pos (starEach (e :: es) X.env)) (backToKw pos (keywordEach [] X.env))) := by rfl) :
    PE X (.Call (.Attribute (.Name x p) m apos) (e :: es) [] pos) (ClX.tCMeth C sp C8.E0 (tC (.ref C)) t) := by
  obtain ⟨mc, q, g, fd, ps, hm, r, cm, F, b⟩ := c.ex
  exact ClX.pe_cmeth (pe_glob (v := .ref C) hg hm rfl hdb) r cm (F.raw b .nil |>.imp fun vs H Q E h => by rw [List.append_nil]; exact h) (hr.mono hk) C8.pass0 ha hst hpl ht
end
/-- what isinstance wants of a class -/
structure IsT (K : PySem.W.Frag) (C : Addr) : Prop where
  cl : Cls K C
  ha : PySem.W.findIn K (.ref C) "__class__" = some (some (.builtin "object.__class__"))
  hn : PySem.W.specialIn K (.builtin "object.__class__") "__get__" = some (some (.builtin "getset_descriptor.__get__"))
  ht : PySem.W.takesIn K (.builtin "object.__class__") = some true
  hm : PySem.W.mroIn K C (.type "object") = some true
theorem IsT.ty {K : PySem.W.Frag} {C a dx : Addr} {H : Hp} {fs : List (Str × V)} (I : IsT K C) (e : H a = some (.ins C dx fs)) : TyX K H (.ref a) (.ref C) := .base (.ins e I.cl I.ha I.hn I.ht I.hm)
theorem IsT.one {K : PySem.W.Frag} {C : Addr} (_ : IsT K C) : PySem.W.kitOne K (.ref C) (.ref C) = some true := by
  unfold PySem.W.kitOne
  rw [if_pos (beq_self_eq_true _)]
/-- an f-string inside a comprehension: its reading by a name -/
def tJn (ts : List TE) : TE := fun σ H Q => tJs ts Str.empty σ H fun out H1 => Q (.str out) H1
theorem pe_jn {X : Cx} {v1 v2 : Expr} {rest : List Expr} {ts : List TE} {pos : Pos} (h : PJ X (v1 :: v2 :: rest) ts) : PE X (.JoinedStr (v1 :: v2 :: rest) pos) (tJn ts) := pe_joined h
end Lx

set_option maxRecDepth 100000
set_option maxHeartbeats 4000000
set_option pp.maxSteps 400
/-! an own == at a thing of another type, either way about; o in (a tuple, None) -/
namespace Lx
open PySem PySem.Spec PyProof.Rows L2
section
open PySem.W
variable {prog : Program} {w : World} {A : Around} {E : Value → Shared → Prop} {s : Shared} {K : PySem.W.Frag} {x C f : Addr} {ox : Obj} {od : Option Obj}
theorem decl_none : wpAny (model prog w) A (tryCompare .none "__eq__" (.ref x)) (fun r s' => r = none ∧ s' = s) E s :=
  wpAny_tryCompare_declines (show s.TypeIs .none "NoneType" from rfl) F.slot_NoneType_eq_refl (call_gives F.slot_NoneType_eq_refl rfl F.entry_NoneType_eq (F.args_NoneType_eq_2 _ _) (PySem.SeqAt.NoneType___eq___none_ref_0 x) ⟨rfl, rfl, rfl⟩)
theorem decl_tup {t : Addr} {items : Array Value} (ht : IsTup s.heap t items) (X : K.In s.heap) (I : PySem.W.InstAt s.heap x ox C od) (e : subIn K (.ref C) (.type "tuple") = some false) :
    wpAny (model prog w) A (tryCompare (.ref t) "__eq__" (.ref x)) (fun r s' => r = none ∧ s' = s) E s := by
  refine wpAny_tryCompare_declines ht.typeIs F.slot_tuple_eq (wpAny_call_entry F.slot_tuple_eq ht.typeIs F.entry_tuple_eq ?_ (F.args_tuple_eq_2 _ _))
  show wpAny _ _ (isInstance (.ref x) (.type "tuple") >>= _) _ _ s
  unfold isInstance
  refine wpAny_bind (wpAny_bind (I.type.here ((looks_subIn X e).here ?_)))
  exact wpAny_pure ⟨_, rfl, rfl, rfl, rfl⟩
theorem cmp_rev {v tv : Value} {Q : Value → Shared → Prop} (hu : A.units < cLine) (X : K.In s.heap) (I : PySem.W.InstAt s.heap x ox C od) (hv : Looks (model prog w) s.heap (typeOf v) tv) (ho : oneThing? .Eq v (.ref x) = none)
    (e : subIn K (.ref C) tv = some false) (one : wpAny (model prog w) A (tryCompare v "__eq__" (.ref x)) (fun r s' => r = none ∧ s' = s) E s)
    (he : PySem.W.findIn K (.ref C) "__eq__" = some (some (.ref f))) (hf : PySem.W.isFn K (.ref f) = true)
    (h : wpAny (model prog w) A (call (.ref f) [.ref x, v]) (fun r s' => ∃ t : Bool, r = .bool t ∧ Q (.bool t) s') E s) : wpAny (model prog w) A (richCompare .Eq v (.ref x)) Q E s := by
  have two : wpAny (model prog w) A (tryCompare (.ref x) "__eq__" v) (fun r s' => ∃ t : Bool, r = some (.bool t) ∧ Q (.bool t) s') E s := by
    unfold tryCompare
    refine wpAny_bind (ifBound_K X I he hf (wpAny_mono h (fun r s' z => ?_) fun _ _ e => e))
    obtain ⟨t, rfl, q⟩ := z
    exact wpAny_pure ⟨t, rfl, q⟩
  unfold richCompare
  simp only [ho]
  refine wpAny_holding (wpAny_bind (wpAny_cRoomFor hu ?_))
  refine wpAny_bind (hv.here (wpAny_bind (I.type.here ?_)))
  split
  · refine wpAny_bind ((looks_subIn X e).here ?_)
    simp only [Bool.false_eq_true, if_false, Bool.not_false, if_true]
    refine wpAny_bind (wpAny_mono one (fun r s1 z => ?_) fun _ _ e => e)
    obtain ⟨rfl, rfl⟩ := z
    refine wpAny_bind (wpAny_mono two (fun r s2 z => ?_) fun _ _ e => e)
    obtain ⟨t, rfl, q⟩ := z
    exact wpAny_pure q
  · refine wpAny_bind (wpAny_pure ?_)
    simp only [Bool.false_eq_true, if_false, Bool.not_false, if_true]
    refine wpAny_bind (wpAny_mono one (fun r s1 z => ?_) fun _ _ e => e)
    obtain ⟨rfl, rfl⟩ := z
    refine wpAny_bind (wpAny_mono two (fun r s2 z => ?_) fun _ _ e => e)
    obtain ⟨t, rfl, q⟩ := z
    exact wpAny_pure q
theorem eqBool_rev {v : Value} {Q : Bool → Shared → Prop} (hne : (v == Value.ref x) = false) (hfl : ∀ b t, v ≠ .float b t) (h : wpAny (model prog w) A (richCompare .Eq v (.ref x)) (fun u s' => ∃ r, u = .bool r ∧ Q r s') E s) : wpAny (model prog w) A (eqBool v (.ref x)) Q E s := by
  unfold eqBool
  refine wpAny_holding ?_
  rw [if_neg (by rw [hne]; decide)]
  have fin : wpAny (model prog w) A (do let y ← richCompare CmpOp.Eq v (.ref x); truthOfDropped y) Q E s := by
    refine wpAny_bind (wpAny_mono h (fun u s' hv => ?_) fun _ _ x => x)
    obtain ⟨r, rfl, q⟩ := hv
    exact wpAny_truthy_bool q
  cases v with
  | float b t => exact absurd rfl (hfl b t)
  | _ => exact fin
theorem tuple_contains2 {t : Addr} {y1 y2 z : Value} {P : Fin → Shared → Prop} (ht : IsTup s.heap t #[y1, y2])
    (h : wpAny (model prog w) A (eqBool y1 z) (fun r s1 => r = false ∧ wpAny (model prog w) A (eqBool y2 z) (fun r s2 => r = false ∧ P (.done (.ret (.bool false))) s2) E s1) E s) :
    wpAny (model prog w) A (Builtin.«tuple.__contains__» ⟨[.ref t, z], []⟩) P E s := by
  show wpAny _ _ (Builtin.Tuple.tupleItemsOf (.ref t) >>= _) _ _ s
  refine wpAny_bind (tupleItemsOf_ ht ?_)
  refine wpAny_bind (forIn_array_ _ (fun rest b s' => b.1 = none ∧ ((rest = [y1, y2] ∧ wpAny (model prog w) A (eqBool y1 z) (fun r s1 => r = false ∧ wpAny (model prog w) A (eqBool y2 z) (fun r s2 => r = false ∧ P (.done (.ret (.bool false))) s2) E s1) E s') ∨ (rest = [y2] ∧ wpAny (model prog w) A (eqBool y2 z) (fun r s2 => r = false ∧ P (.done (.ret (.bool false))) s2) E s') ∨ (rest = [] ∧ P (.done (.ret (.bool false))) s'))) _ ?_ ?_ _ _ ⟨rfl, .inl ⟨rfl, h⟩⟩)
  · rintro y rest b s' ⟨hb, hz | hz | hz⟩
    · obtain ⟨e, q⟩ := hz
      obtain ⟨rfl, rfl⟩ := List.cons.inj e
      refine wpAny_bind (wpAny_mono q (fun r s1 q1 => ?_) fun _ _ x => x)
      obtain ⟨rfl, q1⟩ := q1
      exact wpAny_pure ⟨rfl, .inr (.inl ⟨rfl, q1⟩)⟩
    · obtain ⟨e, q⟩ := hz
      obtain ⟨rfl, rfl⟩ := List.cons.inj e
      refine wpAny_bind (wpAny_mono q (fun r s1 q1 => ?_) fun _ _ x => x)
      obtain ⟨rfl, q1⟩ := q1
      exact wpAny_pure ⟨rfl, .inr (.inr ⟨rfl, q1⟩)⟩
    · cases hz.1
  · rintro ⟨b1, b2⟩ s' ⟨hb, hz | hz | hz⟩
    · cases hz.1
    · cases hz.1
    · simp only at hb
      subst hb
      exact wpAny_pure hz.2
theorem contains2 {t : Addr} {y1 y2 z : Value} {Q : Bool → Shared → Prop} (ht : IsTup s.heap t #[y1, y2])
    (h : wpAny (model prog w) A.in1 (eqBool y1 z) (fun r s1 => r = false ∧ wpAny (model prog w) A.in1 (eqBool y2 z) (fun r s2 => r = false ∧ Q false s2) E s1) E s) :
    wpAny (model prog w) A (contains (.ref t) z) Q E s := by
  unfold contains
  refine wpAny_holding ?_
  have e0 : stdlibNamesSay? (.ref t) z = none := rfl
  rw [e0]
  refine wpAny_bind (wpAny_specialOf ht.typeIs slot_tuple_contains.lookup ?_)
  rw [if_neg (by decide)]
  refine wpAny_bind (wpAny_callSpecialUnlessNone?_slot (name := Str.ofString "__contains__") ht.typeIs slot_tuple_contains
    (wpAny_call_entry slot_tuple_contains ht.typeIs entry_tuple_contains (tuple_contains2 ht (wpAny_mono h (fun r s1 q => ⟨q.1, wpAny_mono q.2 (fun r s2 q => ⟨q.1, ⟨_, rfl, wpAny_truthy_bool q.2⟩⟩) fun _ _ x => x⟩) fun _ _ x => x)) (args_tuple_contains _ _)))
end
section
variable {X : Cx} {k j : Nat} {C : Addr} {sp : Sp}
/-- o == a thing of the type tv -/
def rEqX (K : PySem.W.Frag) (C : Addr) (sp : Sp) : R2 := fun x y H Q => ∃ a dx fs z, x = .ref a ∧ y = .str z ∧ H a = some (.ins C dx fs) ∧ sp [.ref a, y] H (fun v H' => ∃ t : Bool, v = .bl t ∧ Q (.bl t) H') C8.E0
theorem op_eqX (c : C8.Met X.prog X.w X.K X.mg X.base k C "__eq__" sp []) (nf : PySem.W.notFirst X.K C (.type "str") = true) (hr : Room j X.A) (hk : k ≤ j) : OpR X (compareOp .Eq) (rEqX X.K C sp) := by
  intro pins s σ H x y v u Q I rx ry h
  obtain ⟨a, dx, fs, z, rfl, rfl, ha, hsp⟩ := h
  obtain ⟨f, fd, ps, ds, _, me, F, bn, d⟩ := c.ex
  obtain rfl := vals_nil d
  cases rx
  obtain ⟨tk, rfl⟩ := ry
  obtain ⟨mA, J, _⟩ := ins_get I.hok ha
  obtain ⟨od, J, _⟩ := J.look
  obtain ⟨m, hF⟩ := I.fr
  have sb : Sub X k X.A := ⟨hr.mono hk, rfl⟩
  have ty : PySem.W.Looks (model X.prog X.w) s.heap (typeOf (.str z tk)) (.type "str") := fun A Q E s k q => wpAny_typeOf (show s.TypeIs (.str z tk) "str" from rfl) q
  show wpAny (model X.prog X.w) X.A (richCompare .Eq (.ref a) (.str z tk)) (EP X pins σ Q) X.xe s
  refine PySem.W.cmp_K (op := .Eq) (tb := .type "str") sb.room.units0 hF I.ok.mod.kin J ty nf me.at_ me.fn ?_
  refine wpAny_mono (run_sub (vs := [.ref a, .str z]) F sb bn C8.pass0 I (.cons rfl (.cons ⟨tk, rfl⟩ .nil)) hsp) (fun u s' q => ?_) fun _ _ x => x
  obtain ⟨v, H', I', ru, t, ez, q⟩ := q
  subst ez
  cases (show u = Value.bool t from ru)
  exact ⟨.bl t, H', I', rfl, q⟩
/-- o in (a tuple, None), equal to none of them -/
def rIn2 (K : PySem.W.Frag) (C : Addr) (sp : Sp) : R2 := fun x y H Q => ∃ a p t dx fs ys, x = .ref a ∧ y = .ref p ∧ H a = some (.ins C dx fs) ∧ H p = some (.tup [.ref t, .non]) ∧ SqT K H t ys ∧ t ≠ a ∧
  sp [.ref a, .ref t] H (fun v H1 => v = .bl false ∧ H1 a = some (.ins C dx fs) ∧ sp [.ref a, .non] H1 (fun v H2 => v = .bl false ∧ Q (.bl false) H2) C8.E0) C8.E0
theorem op_in2 (c : C8.Met X.prog X.w X.K X.mg X.base k C "__eq__" sp []) (n1 : PySem.W.subIn X.K (.ref C) (.type "tuple") = some false) (n2 : PySem.W.subIn X.K (.ref C) (.type "NoneType") = some false) (hr : Room j X.A) (hk : k + 1 ≤ j) : OpR X (compareOp .In) (rIn2 X.K C sp) := by
  intro pins s σ H x y v u Q I rx ry h
  obtain ⟨a, p, t, dx, fs, ys, rfl, rfl, ha, hp, ht, hta, hsp⟩ := h
  obtain ⟨f, fd, ps, ds, _, me, F, bn, d⟩ := c.ex
  obtain rfl := vals_nil d
  cases rx
  cases ry
  obtain ⟨its, r, hz, _⟩ := I.tuple (SqT.of hp)
  obtain ⟨its2, r2, hz2, _⟩ := I.tuple ht
  cases r with
  | cons r1 rr =>
    cases rr with
    | cons r3 rr =>
      cases rr
      cases r1
      cases r3
      obtain ⟨mA, J, _⟩ := ins_get I.hok ha
      obtain ⟨od, J, _⟩ := J.look
      have sb1 : Sub X (k + 1) X.A := ⟨hr.mono hk, rfl⟩
      have sb := sb1.in1
      show wpAny (model X.prog X.w) X.A (do return .bool (← contains (.ref p) (.ref a))) (EP X pins σ Q) X.xe s
      refine wpAny_bind (contains2 hz ?_)
      have ty : PySem.W.Looks (model X.prog X.w) s.heap (typeOf (.ref t)) (.type "tuple") := fun A Q E s k q => by
        obtain ⟨o, ho, hc, _⟩ := hz2
        exact wpAny_typeOf_ref (k _ _ ho) (by rw [hc]; exact q)
      refine eqBool_rev (by rw [beq_eq_false_iff_ne]; intro z; exact hta (Value.ref.inj z)) (fun _ _ z => nomatch z) (cmp_rev sb.room.units0 I.kIn J ty rfl n1 (decl_tup hz2 I.kIn J n1) me.at_ me.fn ?_)
      refine wpAny_mono (run_sub (vs := [.ref a, .ref t]) F sb bn C8.pass0 I (.cons rfl (.cons rfl .nil)) hsp) (fun u s' q => ?_) fun _ _ x => x
      obtain ⟨v, H', I', ru, ez, ha', q⟩ := q
      subst ez
      cases (show u = Value.bool false from ru)
      refine ⟨false, rfl, false, rfl, rfl, ?_⟩
      obtain ⟨mA', J', _⟩ := ins_get I'.hok ha'
      obtain ⟨od', J', _⟩ := J'.look
      have ty2 : PySem.W.Looks (model X.prog X.w) s'.heap (typeOf .none) (.type "NoneType") := fun A Q E s k q => wpAny_typeOf (show s.TypeIs .none "NoneType" from rfl) q
      refine eqBool_rev rfl (fun _ _ z => nomatch z) (cmp_rev sb.room.units0 I'.kIn J' ty2 rfl n2 decl_none me.at_ me.fn ?_)
      refine wpAny_mono (run_sub (vs := [.ref a, .non]) F sb bn C8.pass0 I' (.cons rfl (.cons rfl .nil)) q) (fun u s2 q => ?_) fun _ _ x => x
      obtain ⟨v, H2, I2, ru, ez, q⟩ := q
      subst ez
      cases (show u = Value.bool false from ru)
      exact ⟨false, rfl, false, rfl, rfl, wpAny_pure ⟨.bl false, H2, I2, rfl, q⟩⟩
end
end Lx

set_option maxRecDepth 100000
set_option maxHeartbeats 4000000
namespace U
open PySem PySem.Spec PyProof.Rows
open L2 hiding Fun CX0 E0 pass0 Fun.binds
open C8 Lx SX
/-! words of bits as texts -/
def bt (b : Bool) : Nat := if b then 49 else 48
def W (l : List Bool) : Str := S (l.map bt)
theorem bt_inj : ∀ {a b : Bool}, bt a = bt b → a = b := by decide
theorem map_bt_inj : ∀ {a b : List Bool}, a.map bt = b.map bt → a = b
  | [], [], _ => rfl
  | [], _ :: _, h => by simp at h
  | _ :: _, [], h => by simp at h
  | x :: l, y :: m, h => by
    rw [List.map_cons, List.map_cons] at h
    injection h with h1 h2
    rw [bt_inj h1, map_bt_inj h2]
theorem W_inj {a b : List Bool} (h : W a = W b) : a = b := map_bt_inj (S_inj h)
theorem W_eq {a b : List Bool} : (W a = W b) ↔ a = b := ⟨W_inj, fun h => by rw [h]⟩
theorem W_len (a : List Bool) : (W a).length = a.length := by unfold W; rw [S_len, List.length_map]
theorem W_size (a : List Bool) : (W a).cps.size = a.length := by unfold W; simp
theorem W_cat (a b : List Bool) : W a ++ W b = W (a ++ b) := by unfold W; rw [S_cat, List.map_append]
theorem W_nil : ("" : Str) = W [] := by decide +kernel
theorem W_0 : ("0" : Str) = W [false] := by decide +kernel
theorem W_1 : ("1" : Str) = W [true] := by decide +kernel
theorem W_get {a : List Bool} {i : Nat} {c : Nat} (h : (W a).cps[i]? = some c) : ∃ b, a[i]? = some b ∧ c = bt b := by
  unfold W S at h
  rw [List.getElem?_toArray, List.getElem?_map] at h
  cases e : a[i]? with
  | none => rw [e] at h; cases h
  | some b => rw [e] at h; exact ⟨b, rfl, (Option.some.inj h).symm⟩
theorem W_bit (b : Bool) : (⟨#[bt b]⟩ : Str) = W [b] := rfl
theorem W_tl (a : List Bool) : (W a).cps.toList = a.map bt := rfl
theorem joinL_nil : ∀ ys : List (List Nat), TL.joinL [] ys = ys.flatten
  | [] => rfl
  | [p] => by simp [TL.joinL]
  | p :: q :: r => by
    show p ++ ([] ++ TL.joinL [] (q :: r)) = _
    rw [List.nil_append, joinL_nil (q :: r)]
    rfl
theorem join_W (ls : List (List Bool)) : Txt.join "" (ls.map W) = W ls.flatten := by
  have e : (ls.map W) = (ls.map (·.map bt)).map S := by rw [List.map_map]; rfl
  have e2 : ("" : Str) = S [] := by decide +kernel
  rw [e, e2, join_S, joinL_nil]
  unfold W
  rw [List.map_flatten]
theorem join_bits (l : List Bool) : Txt.join "" (l.map fun b => W [b]) = W l := by
  have e : (l.map fun b => W [b]) = (l.map fun b => [b]).map W := by rw [List.map_map]; rfl
  rw [e, join_W]
  congr 1
  induction l with
  | nil => rfl
  | cons b r ih => simp [ih]
theorem sum_lens : ∀ ls : List (List Bool), ((ls.map W).map (·.length)).sum = (ls.map (·.length)).sum
  | [] => rfl
  | l :: r => by
    rw [List.map_cons, List.map_cons, List.map_cons, List.sum_cons, List.sum_cons, W_len, sum_lens r]
theorem sl_len {n : Nat} (h : n ≤ 100000) : n ≤ sizeLine := Nat.le_trans h (by decide)
theorem sl_lt {n : Nat} (h : n < 100000) : n < sizeLine := Nat.lt_of_lt_of_le h (by decide)
def bitsV (l : List Bool) : List V := (l.map fun b => W [b]).map V.str
theorem lens_bits (l : List Bool) : ((l.map fun b => W [b]).map (·.length)).sum = l.length := by
  induction l with
  | nil => rfl
  | cons b r ih => rw [List.map_cons, List.map_cons, List.sum_cons, ih, W_len, List.length_cons]; simp only [List.length_cons, List.length_nil]; omega
theorem bitsV_len (l : List Bool) : (bitsV l).length = l.length := by unfold bitsV; rw [List.length_map, List.length_map]
theorem bitsV_snoc (l : List Bool) (b : Bool) : bitsV l ++ [V.str (W [b])] = bitsV (l ++ [b]) := by unfold bitsV; simp
theorem mem2 {v : V} (h : v ∈ ([.str "0", .str "1"] : List V)) : ∃ b : Bool, v = .str (W [b]) := by
  rcases List.mem_cons.mp h with rfl | h
  · exact ⟨false, by rw [W_0]⟩
  · rcases List.mem_cons.mp h with rfl | h
    · exact ⟨true, by rw [W_1]⟩
    · cases h
theorem empty_len : ("" : Str).length = 0 := by decide +kernel
/-! tests whose answer is known -/
theorem q_dec {c : Prop} [Decidable c] {Q : VK} {H : Hp} (hc : c) (h : Q (.bl true) H) : Q (.bl (decide c)) H := by rw [decide_eq_true hc]; exact h
theorem q_ndec {c : Prop} [Decidable c] {Q : VK} {H : Hp} (hc : ¬ c) (h : Q (.bl false) H) : Q (.bl (decide c)) H := by rw [decide_eq_false hc]; exact h
theorem iteDT {c A B : Prop} [Decidable c] (hc : c) (h : A) : if decide c = true then A else B := by rw [decide_eq_true hc]; exact iteT h
theorem iteDF {c A B : Prop} [Decidable c] (hc : ¬ c) (h : B) : if decide c = true then A else B := by rw [decide_eq_false hc]; exact iteF h
theorem iteNT {c A B : Prop} [Decidable c] (hc : ¬ c) (h : A) : if (!decide c) = true then A else B := by rw [decide_eq_false hc]; exact iteT h
theorem iteBT {b : Bool} {A B : Prop} (hc : b = true) (h : A) : if b = true then A else B := by rw [hc]; exact iteT h
theorem iteBF {b : Bool} {A B : Prop} (hc : b = false) (h : B) : if b = true then A else B := by rw [hc]; exact iteF h
def oW : Option (List Bool) → V
  | none => .non
  | some x => .str (W x)
/-! slices -/
theorem W_drop {a : List Bool} {i : Int} (h : 0 ≤ i) : Txt.slice (W a) (some i) none = W (a.drop i.toNat) := by
  unfold W; rw [slice_from h, List.map_drop]
theorem W_take {a : List Bool} {i : Int} (h : 0 ≤ i) : Txt.slice (W a) none (some i) = W (a.take i.toNat) := by
  unfold W; rw [slice_to h, List.map_take]
theorem repl_succ (l : List Bool) (n : Nat) : (List.replicate (n + 1) l).flatten = l ++ (List.replicate n l).flatten := by rw [List.replicate_succ]; rfl
theorem foldl_app : ∀ (n : Nat) (a b : Array Nat), ((List.replicate n a).foldl (· ++ ·) b).toList = b.toList ++ (List.replicate n a.toList).flatten
  | 0, a, b => by simp
  | n + 1, a, b => by
    rw [List.replicate_succ, List.foldl_cons, foldl_app n a (b ++ a), List.replicate_succ, List.flatten_cons, Array.toList_append, List.append_assoc]
theorem mul_W {l : List Bool} {n : Nat} (h : 1 ≤ n) : Txt.mul (W l) (n : Int) = W (List.replicate n l).flatten := by
  refine TL.ext_tl ?_
  unfold Txt.mul
  rw [if_neg (by omega)]
  by_cases c : (((n : Int) == 1) || (W l).length == 0) = true
  · rw [if_pos c]
    simp only [Bool.or_eq_true, beq_iff_eq] at c
    rcases c with c | c
    · have : n = 1 := by omega
      subst this
      simp
    · rw [W_len] at c
      have : l = [] := List.length_eq_zero_iff.mp c
      subst this
      rw [show (List.replicate n ([] : List Bool)).flatten = [] by simp]
  · rw [if_neg c]
    show ((List.replicate (n : Int).toNat (W l).cps).foldl (· ++ ·) #[]).toList = _
    rw [foldl_app, Int.toNat_natCast]
    show [] ++ (List.replicate n (l.map bt)).flatten = ((List.replicate n l).flatten).map bt
    rw [List.map_flatten, List.map_replicate, List.nil_append]
end U

set_option maxRecDepth 100000
set_option maxHeartbeats 4000000
namespace U
open PySem PySem.Spec PyProof.Rows L2
def top (i : Nat) : Stmt := PySem.Challenge.pw_unseenflips_k12_checks_made.main.body.getD i (.Pass ⟨0, 0, 0, 0⟩)
abbrev s_wall : Stmt := top 0
abbrev s_InvalidCheck_init : Stmt := inClass (top 3) 0
abbrev s_InvalidText_init : Stmt := inClass (top 4) 0
abbrev s_is_word : Stmt := top 7
abbrev s_Check_init : Stmt := inClass (top 10) 0
abbrev s_Check_read : Stmt := inClass (top 10) 1
abbrev s_Check_degree : Stmt := inClass (top 10) 2
abbrev s_Check_rest : Stmt := inClass (top 10) 3
abbrev s_Check_step : Stmt := inClass (top 10) 4
abbrev s_Check_bits_for : Stmt := inClass (top 10) 5
abbrev s_Check_is_good : Stmt := inClass (top 10) 6
abbrev s_Check_eq : Stmt := inClass (top 10) 7
abbrev s_Check_str : Stmt := inClass (top 10) 8
abbrev s_Check_iter : Stmt := inClass (top 10) 9
abbrev s_l_seed : Stmt := top 12
abbrev s_l_choose : Stmt := top 13
abbrev s_l_one_of : Stmt := top 14
abbrev s_l_word : Stmt := top 15
abbrev s_l_check : Stmt := top 16
abbrev s_l_check_text : Stmt := top 17
abbrev s_law : Stmt := top 18
structure Tx (mg : Str → Option Value) : Prop where
  b_len : mg "len" = none
  b_abs : mg "abs" = none
  b_int : mg "int" = none
  b_range : mg "range" = none
  b_max : mg "max" = none
  b_min : mg "min" = none
  b_enumerate : mg "enumerate" = none
  b_zip : mg "zip" = none
  b_dict : mg "dict" = none
  b_list : mg "list" = none
  b_tuple : mg "tuple" = none
  b_isinstance : mg "isinstance" = none
  b_bool : mg "bool" = none
  b_str : mg "str" = none
  b_all : mg "all" = none
  b_any : mg "any" = none
  b_sum : mg "sum" = none
  b_sorted : mg "sorted" = none
  b_repr : mg "repr" = none
end U

set_option maxRecDepth 100000
set_option maxHeartbeats 4000000
namespace U
open PySem PySem.Spec PyProof.Rows
open L2 hiding Fun CX0 E0 pass0 Fun.binds
open C8 Lx
local macro_rules | `(tactic| walk_at "g") => `(tactic| repeat (first | (refine ⟨_, rfl, ?_⟩) | (refine ⟨_, _, rfl, rfl, ?_⟩) | (refine ⟨rfl, ?_⟩) | (refine .inl ⟨_, rfl, ?_⟩)))
/-- the box: a list of two ints -/
def Box (H : Hp) (b : Addr) : Prop := ∃ x y : Int, H b = some (.lst [.int x, .int y])
/-- all but the box at b stands as it stood; the box is a box -/
def Up (b : Addr) (H H' : Hp) : Prop := (∀ c o, H c = some o → c ≠ b → H' c = some o) ∧ Box H' b
theorem Box.same {b : Addr} {H H' : Hp} (h : Box H b) (y : Same H H') : Box H' b := by obtain ⟨i, j, e⟩ := h; exact ⟨i, j, y _ _ e⟩
theorem Up.refl {b : Addr} {H : Hp} (h : Box H b) : Up b H H := ⟨fun _ _ e _ => e, h⟩
theorem Up.trans {b : Addr} {H H1 H2 : Hp} (x : Up b H H1) (y : Up b H1 H2) : Up b H H2 := ⟨fun c o e n => y.1 c o (x.1 c o e n) n, y.2⟩
theorem Up.same {b : Addr} {H H1 H2 : Hp} (x : Up b H H1) (y : Same H1 H2) : Up b H H2 := ⟨fun c o e n => y c o (x.1 c o e n), x.2.same y⟩
theorem Up.of_same {b : Addr} {H H2 : Hp} (h : Box H b) (y : Same H H2) : Up b H H2 := (Up.refl h).same y
theorem same_upd {H : Hp} {p : Addr} {o : HO} (h : H p = none) : Same H (upd H p o) := fun b x e => by
  rw [upd_ne (ne_of_none e h)]
  exact e
theorem same_mut' {H H1 : Hp} {p : Addr} {o : HO} (s : Same H H1) (n : H p = none) : Same H (upd H1 p o) := fun c u e => by
  rw [upd_ne (ne_of_none e n)]
  exact s _ _ e
theorem Box.ne {H : Hp} {b p : Addr} (h : Box H b) (n : H p = none) : p ≠ b := by
  obtain ⟨i, j, e⟩ := h
  intro z
  rw [z, e] at n
  cases n
/-- a thing that is no list of two ints is not the box -/
theorem Box.neT {H : Hp} {b p : Addr} {xs : List V} (h : Box H b) (n : H p = some (.tup xs)) : p ≠ b := by
  obtain ⟨i, j, e⟩ := h
  intro z
  rw [z, e] at n
  cases n
/-- an object that H doesn't know, changed -/
theorem Up.mut {b : Addr} {H H1 : Hp} {p : Addr} {o : HO} (x : Up b H H1) (h : H p = none) (n : p ≠ b) : Up b H (upd H1 p o) :=
  ⟨fun c u e nc => by rw [upd_ne (ne_of_none e h)]; exact x.1 c u e nc, by obtain ⟨i, j, e⟩ := x.2; exact ⟨i, j, by rw [upd_ne (Ne.symm n)]; exact e⟩⟩
theorem Up.free {b : Addr} {H H1 : Hp} {p : Addr} (x : Up b H H1) (h : H1 p = none) : H p = none := by
  cases e : H p with
  | none => rfl
  | some o =>
    by_cases n : p = b
    · obtain ⟨i, j, e2⟩ := x.2
      rw [n, e2] at h
      cases h
    · rw [x.1 p o e n] at h
      cases h
/-- what is no list stands as it stood -/
def NL (H H' : Hp) : Prop := ∀ c o, H c = some o → (∀ xs, o ≠ .lst xs) → H' c = some o
theorem NL.refl (H : Hp) : NL H H := fun _ _ e _ => e
theorem NL.trans {H H1 H2 : Hp} (a : NL H H1) (b : NL H1 H2) : NL H H2 := fun c o e n => b c o (a c o e n) n
theorem NL.of {H H' : Hp} (s : Same H H') : NL H H' := fun c o e _ => s c o e
theorem Up.nl {b : Addr} {H H' : Hp} (hb : Box H b) (u : Up b H H') : NL H H' := fun c o e n => u.1 c o e fun z => by
  obtain ⟨i, j, hb⟩ := hb
  rw [z, hb] at e
  exact n _ (Option.some.inj e).symm
theorem nl_upd {H : Hp} {q : Addr} {xs : List V} {o : HO} (h : H q = some (.lst xs)) : NL H (upd H q o) := fun c u e n => by
  have nq : c ≠ q := fun z => by
    rw [z, h] at e
    exact n _ (Option.some.inj e).symm
  rw [upd_ne nq]
  exact e
theorem NL.tup {H H' : Hp} {a : Addr} {xs : List V} (n : NL H H') (h : H a = some (.tup xs)) : H' a = some (.tup xs) := n _ _ h fun _ z => by cases z
theorem NL.ins {H H' : Hp} {a C dx : Addr} {fs : List (Str × V)} (n : NL H H') (h : H a = some (.ins C dx fs)) : H' a = some (.ins C dx fs) := n _ _ h fun _ z => by cases z
def spSeed (K : PySem.W.Frag) : Sp := fun vs H Q _ => ∃ (a : Addr) (ns : List Int) (k : Nat), vs = [.ref a, .int k] ∧ SqL K H a (ns.map V.int) ∧
  ∀ p H', H p = none → Same H H' → Box H' p → Q (.ref p) H'
def spChoose : Sp := fun vs H Q _ => ∃ (b : Addr) (m : Int), vs = [.ref b, .int m] ∧ Box H b ∧ 0 < m ∧ m < 1073741824 ∧
  ∀ (d : Int) H', 0 ≤ d → d < m → Up b H H' → Q (.int d) H'
def spOneOf : Sp := fun vs H Q _ => ∃ (b l : Addr) (xs : List V), vs = [.ref b, .ref l] ∧ Box H b ∧ H l = some (.lst xs) ∧ l ≠ b ∧ 0 < xs.length ∧ xs.length < 1000 ∧
  ∀ (v : V) H', v ∈ xs → Up b H H' → Q v H'
theorem cell_at {ns : List Int} {k : Int} (h0 : 0 ≤ k) (h1 : k < ns.length) : ∃ z, atI (ns.map V.int) k = some (V.int z) := by
  obtain ⟨j, rfl⟩ := Int.eq_ofNat_of_zero_le h0
  have h2 : j < ns.length := by omega
  exact ⟨ns[j], atI_nat (by simp [h2])⟩
section
variable {P : Program} {w : World} {K : PySem.W.Frag} {mg : Str → Option Value} {base : Heap}
theorem sc_l_choose : FnScope ["_law_box", "_law_many", "_law_digit", "_law_raw"] ["_law_box", "_law_many"] (fnScope s_l_choose) := fnScope_by (by decide +kernel)
theorem cal_l_choose {f : Addr} {fd : FuncData} (F : Def K mg "_law_choose" s_l_choose f fd) (b : Binds K fd ["_law_box", "_law_many"] []) (T : Tx mg) : Cal P w K mg base 1 "_law_choose" spChoose [] := by
  refine cal0 F b .nil sc_l_choose (fun vs H Q E h => ?_) (fun cdv A outer s H vs Q E hr h => ?_)
  · obtain ⟨_, _, rfl, _⟩ := h; rfl
  · obtain ⟨bx, m, rfl, ⟨x, y, hb⟩, m0, m1, k⟩ := h
    refine ⟨_, (pss_cons (ps_if (pt_cmpR op_gt (pe_ix ix_list (pv 0) pe_int (fun _ _ => rfl)) pe_int (nomark _)) (pss_cons (ps_set (i := 2) sc_l_choose.nd rfl (.inl rfl) (pe_op op_mod (pe_callTy call_int1 (by rfl) T.b_int (by decide +kernel) (pa_cons (pe_ix ix_list (pv 0) pe_int (fun _ _ => rfl)) pa_nil)) (pv 1)))
    (pss_cons (ps_asg (pe_op op_fdiv (pe_ix ix_list (pv 0) pe_int (fun _ _ => rfl)) (pv 1)) (pg_sub (pv 0) pe_int set_list))
    (pss_one (ps_ret (pv 2))))) pss_nil)
    (pss_cons (ps_set (i := 3) sc_l_choose.nd rfl (.inl rfl) (pe_op op_mod (pe_callTy call_int1 (by rfl) T.b_int (by decide +kernel) (pa_cons (pe_op op_add (pe_op op_mul (pe_ix ix_list (pv 0) pe_int (fun _ _ => rfl)) pe_int) pe_int) pa_nil)) pe_int))
    (pss_cons (ps_asg (pe_op op_add (pe_op op_mod (pe_callTy call_int1 (by rfl) T.b_int (by decide +kernel) (pa_cons (pe_op op_add (pe_op op_mul (pv 3) pe_int) pe_int) pa_nil)) pe_int) pe_int) (pg_sub (pv 0) pe_int set_list))
    (pss_one (ps_ret (pe_op op_mod (pe_callTy call_int1 (by rfl) T.b_int (by decide +kernel) (pa_cons (pe_op op_fdiv (pe_op op_add (pe_op op_mul (pv 3) pe_int) (pe_ix ix_list (pv 0) pe_int (fun _ _ => rfl))) pe_int) pa_nil)) (pv 1))))))), ?_⟩
    have up : ∀ x' y' : Int, Up bx H (upd H bx (.lst [.int x', .int y'])) := fun x' y' => ⟨fun c o e n => by rw [upd_ne n]; exact e, _, _, upd_same⟩
    refine ⟨_, rfl, bx, _, _, _, rfl, rfl, SqL.of hb, atI_nat (j := 0) rfl, _, _, rfl, rfl, _, rfl, ?_⟩
    refine ite2 (fun h1 => ?_) (fun h1 => ?_)
    · refine ⟨_, rfl, bx, _, _, _, rfl, rfl, SqL.of hb, atI_nat (j := 0) rfl, .inl ⟨_, rfl, _, rfl, _, _, rfl, rfl, m0, ?_⟩⟩
      refine ⟨_, rfl, bx, _, _, _, rfl, rfl, SqL.of hb, atI_nat (j := 0) rfl, _, rfl, _, _, rfl, rfl, ⟨m0, m1⟩, _, rfl, bx, _, _, 0, rfl, rfl, hb, rfl, ?_⟩
      exact ⟨_, rfl, k _ _ (Int.emod_nonneg _ (by omega)) (Int.emod_lt_of_pos _ m0) (up _ _)⟩
    · refine ⟨_, rfl, bx, _, _, _, rfl, rfl, SqL.of hb, atI_nat (j := 1) rfl, _, _, rfl, rfl, .inr ⟨by decide, by decide⟩, _, _, rfl, rfl, .inl ⟨_, rfl, _, _, rfl, rfl, (by show (0 : Int) < 2147483563; decide), ?_⟩⟩
      refine ⟨_, rfl, _, _, rfl, rfl, .inr ⟨by decide, by decide⟩, _, _, rfl, rfl, .inl ⟨_, rfl, _, _, rfl, rfl, (by show (0 : Int) < 2147483629; decide), _, _, rfl, rfl, _, rfl, bx, _, _, 1, rfl, rfl, hb, rfl, ?_⟩⟩
      refine ⟨_, rfl, _, _, rfl, rfl, .inr ⟨by decide, by decide⟩, _, rfl, bx, _, _, _, rfl, rfl, SqL.of upd_same, atI_nat (j := 1) rfl, _, _, rfl, rfl, _, _, rfl, rfl, ⟨by decide, by decide⟩, .inl ⟨_, rfl, _, rfl, _, _, rfl, rfl, m0, ?_⟩⟩
      exact k _ _ (Int.emod_nonneg _ (by omega)) (Int.emod_lt_of_pos _ m0) (up _ _)
theorem sc_l_seed : FnScope ["_law_script", "_law_k", "_law_cell"] ["_law_script", "_law_k"] (fnScope s_l_seed) := fnScope_by (by decide +kernel)
theorem cal_l_seed {f : Addr} {fd : FuncData} (F : Def K mg "_law_seed" s_l_seed f fd) (b : Binds K fd ["_law_script", "_law_k"] []) (T : Tx mg) : Cal P w K mg base 1 "_law_seed" (spSeed K) [] := by
  refine cal0 F b .nil sc_l_seed (fun vs H Q E h => ?_) (fun cdv A outer s H vs Q E hr h => ?_)
  · obtain ⟨_, _, _, rfl, _⟩ := h; rfl
  · obtain ⟨a, ns, n, rfl, hS, k⟩ := h
    refine ⟨_, (pss_cons (ps_set (i := 2) sc_l_seed.nd rfl (.inl rfl) (pe_op op_add (pe_op op_mul pe_int (pv 1)) pe_int))
    (pss_cons (ps_if (pt_cmpR op_lt (pv 1) (pe_callB call_len_seq (by rfl) T.b_len (by decide +kernel) (pa_cons (pv 0) pa_nil)) (nomark _)) (pss_one (ps_set (i := 2) sc_l_seed.nd rfl (.inl rfl) (pe_callB call_abs (by rfl) T.b_abs (by decide +kernel) (pa_cons (pe_ix ix_list (pv 0) (pv 1) (fun _ _ => rfl)) pa_nil)))) (pss_one (ps_if (pt_cmpR op_gt (pe_callB call_len_seq (by rfl) T.b_len (by decide +kernel) (pa_cons (pv 0) pa_nil)) pe_int (nomark _)) (pss_one (ps_set (i := 2) sc_l_seed.nd rfl (.inl rfl) (pe_op op_add (pv 2) (pe_op op_mul (pe_op op_mod (pe_callTy call_int1 (by rfl) T.b_int (by decide +kernel) (pa_cons (pe_callB call_abs (by rfl) T.b_abs (by decide +kernel) (pa_cons (pe_ix ix_list (pv 0) (pe_op op_mod (pe_callTy call_int1 (by rfl) T.b_int (by decide +kernel) (pa_cons (pv 1) pa_nil)) (pe_callB call_len_seq (by rfl) T.b_len (by decide +kernel) (pa_cons (pv 0) pa_nil))) (fun _ _ => rfl)) pa_nil)) pa_nil)) pe_int) pe_int)))) pss_nil)))
    (pss_one (ps_ret (pe_lst (pa_cons (pe_ifExp (pt_cmpR op_ge (pv 2) (pe_op op_pow pe_int pe_int) (nomark _)) (pv 2) pe_int) (pa_cons (pe_op op_add (pe_op op_mod (pe_callTy call_int1 (by rfl) T.b_int (by decide +kernel) (pa_cons (pe_op op_add (pe_op op_mul (pe_op op_mod (pe_callTy call_int1 (by rfl) T.b_int (by decide +kernel) (pa_cons (pv 2) pa_nil)) pe_int) pe_int) (pe_op op_mul pe_int (pv 1))) pa_nil)) pe_int) pe_int) pa_nil))))))), ?_⟩
    have fin : ∀ z : Int, tRet (tLst (tCons (tIf (tTest (tOp (rI0 fun i j => V.bl (decide (j ≤ i))) (tVar 2) (tOp (rI CPow fun i j => V.int (i ^ j.toNat)) (tC (V.int 10)) (tC (V.int 18))))) (tVar 2) (tC (V.int 0))) (tCons (tOp (rI0 fun i j => V.int (i + j)) (tOp (rI (fun _ j => 0 < j) fun i j => V.int (i % j)) (tCB (fun xs H Q => (∃ i, xs = [V.int i] ∧ Q (V.int i) H) ∨ ∃ k, xs = [V.bl k] ∧ Q (V.int (if k = true then 1 else 0)) H) (tCons (tOp (rI0 fun i j => V.int (i + j)) (tOp (rI CMul fun i j => V.int (i * j)) (tOp (rI (fun _ j => 0 < j) fun i j => V.int (i % j)) (tCB (fun xs H Q => (∃ i, xs = [V.int i] ∧ Q (V.int i) H) ∨ ∃ k, xs = [V.bl k] ∧ Q (V.int (if k = true then 1 else 0)) H) (tCons (tVar 2) tNil)) (tC (V.int 2147483629))) (tC (V.int 48271))) (tOp (rI CMul fun i j => V.int (i * j)) (tC (V.int 36007)) (tVar 1))) tNil)) (tC (V.int 2147483629))) (tC (V.int 1))) tNil))) { nx := fun _ H' => Q .non H', rt := Q } [some (.ref a), some (.int n), some (.int z)] H := by
      intro z
      refine ⟨_, rfl, _, _, rfl, rfl, ⟨by decide, by decide, by decide⟩, _, _, rfl, rfl, _, rfl, ?_⟩
      refine ite2 (fun h1 => ?_) (fun h1 => ?_)
      all_goals
        first
          | refine ⟨_, rfl, _, rfl, .inl ⟨_, rfl, _, _, rfl, rfl, (by show (0 : Int) < 2147483629; decide), _, _, rfl, rfl, .inr ⟨by decide, by decide⟩, _, rfl, _, _, rfl, rfl, .inl ⟨by decide, by decide⟩, _, _, rfl, rfl, .inl ⟨_, rfl, _, _, rfl, rfl, (by show (0 : Int) < 2147483629; decide), _, _, rfl, rfl, ?_⟩⟩⟩
          | refine ⟨_, rfl, .inl ⟨_, rfl, _, _, rfl, rfl, (by show (0 : Int) < 2147483629; decide), _, _, rfl, rfl, .inr ⟨by decide, by decide⟩, _, rfl, _, _, rfl, rfl, .inl ⟨by decide, by decide⟩, _, _, rfl, rfl, .inl ⟨_, rfl, _, _, rfl, rfl, (by show (0 : Int) < 2147483629; decide), _, _, rfl, rfl, ?_⟩⟩⟩
        exact ⟨by show 2 ≤ sizeLine; decide, fun p hp => k p _ hp (same_upd hp) ⟨_, _, upd_same⟩⟩
    refine ⟨_, rfl, _, _, rfl, rfl, .inl ⟨by decide, by decide⟩, _, _, rfl, rfl, ?_⟩
    refine ⟨_, rfl, _, rfl, a, _, rfl, .inl hS, _, _, rfl, rfl, _, rfl, ?_⟩
    refine ite2 (fun h1 => ?_) (fun h1 => ?_)
    · have h2 : (n : Int) < ((ns.map V.int).length : Int) := of_decide_eq_true h1
      rw [List.length_map] at h2
      obtain ⟨z, hz⟩ := cell_at (ns := ns) (by omega : (0 : Int) ≤ n) h2
      refine ⟨_, rfl, _, rfl, a, _, _, _, rfl, rfl, hS, hz, _, rfl, ?_⟩
      exact fin _
    · refine ⟨_, rfl, a, _, rfl, .inl hS, _, _, rfl, rfl, _, rfl, ?_⟩
      refine ite2 (fun h3 => ?_) (fun h3 => ?_)
      · have h4 : (0 : Int) < ((ns.map V.int).length : Int) := of_decide_eq_true h3
        have h5 := h4
        rw [List.length_map] at h5
        obtain ⟨z, hz⟩ := cell_at (ns := ns) (k := (n : Int) % ((ns.map V.int).length : Int)) (Int.emod_nonneg _ (by omega)) (by have := Int.emod_lt_of_pos (n : Int) h4; rw [List.length_map] at this ⊢; exact this)
        refine ⟨_, rfl, _, rfl, _, rfl, .inl ⟨_, rfl, _, rfl, a, _, rfl, .inl hS, _, _, rfl, rfl, h4, a, _, _, _, rfl, rfl, hS, hz, _, rfl, .inl ⟨_, rfl, _, _, rfl, rfl, (by show (0 : Int) < 2147483629; decide), _, _, rfl, rfl, .inr ⟨by decide, by decide⟩, _, _, rfl, rfl, ?_⟩⟩⟩
        exact fin _
      · exact fin _
theorem sc_l_one_of : FnScope ["_law_box", "_law_some"] ["_law_box", "_law_some"] (fnScope s_l_one_of) := fnScope_by (by decide +kernel)
theorem cal_l_one_of {f : Addr} {fd : FuncData} (F : Def K mg "_law_one_of" s_l_one_of f fd) (b : Binds K fd ["_law_box", "_law_some"] []) (T : Tx mg) (c_l_choose : Cal P w K mg base 1 "_law_choose" spChoose []) : Cal P w K mg base 2 "_law_one_of" spOneOf [] := by
  refine cal0 F b .nil sc_l_one_of (fun vs H Q E h => ?_) (fun cdv A outer s H vs Q E hr h => ?_)
  · obtain ⟨_, _, _, rfl, _⟩ := h; rfl
  · obtain ⟨bx, l, xs, rfl, hb, hl, nl, x0, x1, k⟩ := h
    refine ⟨_, (pss_one (ps_ret (pe_ix ix_list (pv 1) (pe_c c_l_choose hr (by decide) rfl (pa_cons (pv 0) (pa_cons (pe_callB call_len_seq (by rfl) T.b_len (by decide +kernel) (pa_cons (pv 1) pa_nil)) pa_nil))) (fun _ _ => rfl)))), ?_⟩
    refine ⟨_, rfl, _, rfl, _, rfl, l, _, rfl, .inl (SqL.of hl), bx, _, rfl, hb, by omega, by omega, fun d H' d0 d1 u => ?_⟩
    obtain ⟨j, rfl⟩ := Int.eq_ofNat_of_zero_le d0
    have hj : j < xs.length := by omega
    have g : xs[j]? = some xs[j] := by simp [hj]
    exact ⟨l, xs, _, xs[j], rfl, rfl, SqL.of (u.1 l _ hl nl), atI_nat g, k _ _ (List.getElem_mem hj) u⟩
end
end U

set_option maxRecDepth 100000
set_option maxHeartbeats 4000000
namespace U
open PySem PySem.Spec PyProof.Rows
open L2 hiding Fun CX0 E0 pass0 Fun.binds
open C8 Lx SX
/-! words told -/
def isW (z : Str) : Bool := z.cps.toList.all fun c => decide (c ∈ ("01" : Str).cps.toList)
theorem isW_W (l : List Bool) : isW (W l) = true := by
  unfold isW
  rw [W_tl, List.all_map, List.all_eq_true]
  intro b _
  cases b <;> decide +kernel
/-- is_word of any value: a text, or a thing whose type is not str -/
def spIsWord (K : PySem.W.Frag) : Sp := fun vs H Q _ => ∃ x, vs = [x] ∧ ((∃ z : Str, x = .str z ∧ z.length ≤ 100000 ∧ ∀ H', Same H H' → Q (.bl (isW z)) H') ∨
  (∃ t, TyX K H x t ∧ PySem.W.kitOne K t (.type "str") = some false ∧ Q (.bl false) H))
theorem spIsWord.word {K : PySem.W.Frag} {H : Hp} {Q : VK} {E : XK} {l : List Bool} (hl : l.length ≤ 100000) (k : ∀ H', Same H H' → Q (.bl true) H') : spIsWord K [.str (W l)] H Q E :=
  ⟨_, rfl, .inl ⟨_, rfl, by rw [W_len]; exact hl, fun H' s => by rw [isW_W]; exact k H' s⟩⟩
section
variable {P : Program} {w : World} {K : PySem.W.Frag} {mg : Str → Option Value} {base : Heap}
theorem sc_is_word : FnScope ["value", "sign"] ["value"] (fnScope s_is_word) := fnScope_by (by decide +kernel)
theorem cal_is_word {f : Addr} {fd : FuncData} {tB : Tok} (F : Def K mg "is_word" s_is_word f fd) (b : Binds K fd ["value"] []) (T : Tx mg) (g_BITS : mg "BITS" = some (.str "01" tB)) : Cal P w K mg base 1 "is_word" (spIsWord K) [] := by
  refine cal0 F b .nil sc_is_word (fun vs H Q E h => ?_) (fun cdv A outer s H vs Q E hr h => ?_)
  · obtain ⟨_, rfl, _⟩ := h; rfl
  · obtain ⟨_, rfl, h⟩ := h
    refine ⟨_, (pss_one (ps_ret (pe_and (pe_callB call_isi (by rfl) T.b_isinstance (by decide +kernel) (pa_cons (pv 0) (pa_cons (pe_bltn (v := .ty "str") (u := .type "str") (by rfl) T.b_str (by decide +kernel) rfl) pa_nil))) (pe_one (pe_callB (cr_all rfl) (by rfl) T.b_all (by decide +kernel) (pa_cons (pe_lc (own := [("sign", 1)]) (g := gName 1) (by rfl) sc_is_word.nd (pi_str (pv 0)) (blkOk_by (own := [("sign", 1)]) (N := ["value", "sign"]) (sc := fnScope s_is_word) (by decide +kernel)) (fun _ _ _ _ _ => (pg_name (i := 1) sc_is_word.nd rfl (.inl rfl))) (fun _ _ _ _ _ => pts_nil) (fun _ _ _ _ _ => (pe_cmpR op_in_sign (pv 1) (pe_glob (v := .str "01") (by rfl) g_BITS ⟨_, rfl⟩) (by with_unfolding_all rfl)))) pa_nil)))))), ?_⟩
    rcases h with ⟨z, rfl, hz, k⟩ | ⟨t, ht, hk, k⟩
    · refine ⟨_, rfl, _, _, _, _, true, rfl, .ty _, .base (.str z), kit_ty (by decide +kernel), _, rfl, ?_⟩
      refine ⟨_, rfl, z, rfl, fun D nD => ?_⟩
      refine lc_it walk_str (fun i H2 => Same H H2 ∧ H2 D = some (.lst (((z.cps.toList.take i).map fun c => decide (c ∈ ("01" : Str).cps.toList)).map V.bl))) ⟨same_upd nD, upd_same⟩ (fun _ _ _ _ => trivial) ?_ ?_
      · rintro i x H2 H3 hi ⟨s2, hD⟩ ⟨rfl, c, hc, rfl⟩
        refine ⟨rfl, ?_⟩
        refine ⟨_, rfl, c, _, rfl, rfl, _, hD, ?_, ?_, ?_⟩
        · rw [List.length_map, List.length_map, List.length_take]
          have e : z.length = z.cps.toList.length := TL.len_tl z
          exact sl_lt (by have : z.cps.size = z.cps.toList.length := by simp
                          omega)
        · intro c' o e
          rw [upd_ne (ne_of_none e nD)]
          exact s2 _ _ e
        · have hc' : z.cps.toList[i]? = some c := by rw [Array.getElem?_toList]; exact hc
          rw [upd_same, List.take_add_one, hc']
          simp
      · rintro H2 ⟨s2, hD⟩
        have e : z.cps.toList.take z.cps.size = z.cps.toList := List.take_of_length_le (by simp)
        rw [e] at hD
        refine ⟨D, _, rfl, SqL.of hD, ?_⟩
        have e2 : (List.map (fun c => decide (c ∈ ("01" : Str).cps.toList)) z.cps.toList).all id = isW z := by
          unfold isW
          rw [List.all_map]
          rfl
        rw [e2]
        exact k H2 s2
    · exact ⟨_, rfl, _, _, _, _, false, rfl, .ty _, ht, hk, _, rfl, k⟩
end
end U

set_option maxRecDepth 100000
set_option maxHeartbeats 4000000
namespace U
open PySem PySem.Spec PyProof.Rows
open L2 hiding Fun CX0 E0 pass0 Fun.binds
open C8 Lx SX
/-! checks -/
def ckF (p s : List Bool) : List (Str × V) := putF "start" (.str (W s)) (putF "poly" (.str (W p)) [])
theorem ps_ne : ¬ (("poly" : Str) = "start") := by decide +kernel
theorem ckF_poly (p s : List Bool) : (ckF p s).lookup ("poly" : Str) = some (.str (W p)) := by
  unfold ckF
  rw [lookup_putF, if_neg ps_ne, lookup_putF, if_pos rfl]
theorem ckF_start (p s : List Bool) : (ckF p s).lookup ("start" : Str) = some (.str (W s)) := by
  unfold ckF
  rw [lookup_putF, if_pos rfl]
theorem ckF_no (p s : List Bool) {m : Str} (h1 : ¬ m = "start") (h2 : ¬ m = "poly") : (ckF p s).lookup m = none := by
  unfold ckF
  rw [lookup_putF, if_neg h1, lookup_putF, if_neg h2]
  all_goals rfl
def CkAt (C : Addr) (H : Hp) (a : Addr) (p s : List Bool) : Prop := ∃ dx, H a = some (.ins C dx (ckF p s))
theorem CkAt.same {C : Addr} {H H' : Hp} {a : Addr} {p s : List Bool} (h : CkAt C H a p s) (e : Same H H') : CkAt C H' a p s := by
  obtain ⟨dx, h⟩ := h
  exact ⟨dx, e _ _ h⟩
theorem CkAt.up {C b : Addr} {H H' : Hp} {a : Addr} {p s : List Bool} (hb : Box H b) (h : CkAt C H a p s) (e : Up b H H') : CkAt C H' a p s := by
  obtain ⟨dx, h⟩ := h
  obtain ⟨i, j, hb⟩ := hb
  exact ⟨dx, e.1 _ _ h (ne_of h hb (by intro z; cases z))⟩
theorem CkAt.nl {C : Addr} {H H' : Hp} {a : Addr} {p s : List Bool} (h : CkAt C H a p s) (e : NL H H') : CkAt C H' a p s := by
  obtain ⟨dx, h⟩ := h
  exact ⟨dx, e.ins h⟩
structure CkOk (p s : List Bool) : Prop where
  hd : p.head? = some true
  last : p.getLast? = some true
  len : s.length + 1 = p.length
def zs (n : Nat) : List Bool := List.replicate n false
theorem mul_0 (n : Int) : Txt.mul "0" n = W (zs n.toNat) := by
  refine TL.ext_tl ?_
  have e : ("0" : Str) = ⟨#[48]⟩ := by decide +kernel
  rw [e]
  show (Txt.mul ⟨#[48]⟩ n).cps.toList = (zs n.toNat).map bt
  rw [PyProof.Rows.mul_one_list]
  unfold zs
  rw [List.map_replicate]
  rfl
theorem take1 {p : List Bool} (h : p.head? = some true) : W (p.take 1) = "1" := by
  cases p with
  | nil => cases h
  | cons b r =>
    cases (Option.some.inj h)
    rw [W_1]
    rfl
theorem last1 {p : List Bool} (h : p.getLast? = some true) : W (p.drop (p.length - 1)) = "1" := by
  rw [W_1]
  cases p with
  | nil => cases h
  | cons b r =>
    congr 1
    rw [List.getLast?_eq_getElem?] at h
    have hl : (b :: r).length - 1 < (b :: r).length := by simp
    rw [List.drop_eq_getElem_cons hl]
    rw [List.getElem?_eq_getElem hl] at h
    rw [Option.some.inj h]
    congr 1
    rw [List.drop_eq_nil_iff]
    omega
theorem W_last {p : List Bool} (h : p ≠ []) : Txt.slice (W p) (some (-1)) none = W (p.drop (p.length - 1)) := by
  unfold W
  rw [slice_last (by simpa using h), List.map_drop, List.length_map]
/-- the class as the top leaves it -/
structure CkT (K : PySem.W.Frag) (C : Addr) : Prop where
  cl : Cls K C
  nP : NoAttr K C "poly"
  nS : NoAttr K C "start"
def spCkInit (C : Addr) : Sp := fun vs H Q _ => ∃ (a dx : Addr) (p s : List Bool) (sv : V), vs = [.ref a, .str (W p), sv] ∧ H a = some (.ins C dx []) ∧ CkOk p s ∧ p.length ≤ 1000 ∧ (sv = .str (W s) ∨ (sv = .non ∧ s = zs (p.length - 1))) ∧
  ∀ H', (∀ b o, H b = some o → b ≠ a → H' b = some o) → H' a = some (.ins C dx (ckF p s)) → Q .non H'
def stepM (p r : List Bool) (b : Bool) : List Bool := match r ++ [b] with
  | [] => []
  | x :: l => if x then List.zipWith xor l p.tail else l
def restM (p s : List Bool) (bits : List Bool) : List Bool := bits.foldl (stepM p) s
theorem stepM_len {p r : List Bool} (h : r.length + 1 = p.length) (b : Bool) : (stepM p r b).length = r.length := by
  unfold stepM
  cases r with
  | nil =>
    show (if b then List.zipWith xor [] p.tail else []).length = 0
    cases b <;> rfl
  | cons x l =>
    show (if x then List.zipWith xor (l ++ [b]) p.tail else l ++ [b]).length = _
    split
    · rw [List.length_zipWith, List.length_append, List.length_tail]
      simp only [List.length_cons, List.length_nil] at h ⊢
      omega
    · simp
theorem restM_len {p : List Bool} : ∀ (bits s : List Bool), s.length + 1 = p.length → (restM p s bits).length = s.length
  | [], _, _ => rfl
  | b :: r, s, h => by
    have e := stepM_len h b
    show (restM p (stepM p s b) r).length = _
    rw [restM_len r (stepM p s b) (by omega), e]
def spStep (C : Addr) : Sp := fun vs H Q _ => ∃ (a : Addr) (p s r : List Bool) (b : Bool), vs = [.ref a, .str (W r), .str (W [b])] ∧ CkAt C H a p s ∧ p.length ≤ 1000 ∧ r.length + 1 = p.length ∧
  ∀ H', Same H H' → Q (.str (W (stepM p r b))) H'
def spRest (C : Addr) : Sp := fun vs H Q _ => ∃ (a : Addr) (p s l : List Bool), vs = [.ref a, .str (W l)] ∧ CkAt C H a p s ∧ p.length ≤ 1000 ∧ s.length + 1 = p.length ∧
  ∀ H', Same H H' → Q (.str (W (restM p s l))) H'
def spDegree (C : Addr) : Sp := fun vs H Q _ => ∃ (a : Addr) (p s : List Bool), vs = [.ref a] ∧ CkAt C H a p s ∧ p.length ≤ 1000 ∧ s.length + 1 = p.length ∧ Q (.int (s.length : Nat)) H
theorem int_bit (b : Bool) : (Str.ofString (toString (if b then (1 : Int) else 0))) = W [b] := by cases b <;> decide +kernel
section
variable {P : Program} {w : World} {K : PySem.W.Frag} {mg : Str → Option Value} {base : Heap}
theorem sc_Check_init : FnScope ["self", "poly", "start"] ["self", "poly", "start"] (fnScope s_Check_init) := fnScope_by (by decide +kernel)
theorem ok_Check_init {f C : Addr} {fd : FuncData} (F : C8.Fun K "__init__" "Check.__init__" s_Check_init f fd) (T : Tx mg) (CT : CkT K C) (c_is_word : Cal P w K mg base 1 "is_word" (spIsWord K) []) :
    FnOk P w K mg base CX0 2 f fd ["self", "poly", "start"] (spCkInit C) := by
  refine fn0 F sc_Check_init (fun vs H Q E h => ?_) (fun cdv A outer s H vs Q E hr h => ?_)
  · obtain ⟨_, _, _, _, _, rfl, _⟩ := h; rfl
  · obtain ⟨a, dx, p, st, sv, rfl, ha, ok, hl, hsv, k⟩ := h
    refine ⟨_, (pss_cons (ps_if (PW.pt (pw_or (pt_not (pt_val (pe_c c_is_word hr (by decide) rfl (pa_cons (pv 1) pa_nil)))) (pw_or (pt_cmpR op_ne (pe_slice sl_txt (pv 1) po_none (po_some pe_int)) pe_str (nomark _)) (pw_or1 (pt_cmpR op_ne (pe_slice sl_txt (pv 1) (po_some (pe_un un_neg pe_int)) po_none) pe_str (nomark _)))))) (pss_one ps_never) pss_nil)
    (pss_cons (ps_if (PW.pt (pw_and (pt_cmpR op_notN (pv 2) pe_non (nomark _)) (pw_and1 (PW.pt (pw_or (pt_not (pt_val (pe_c c_is_word hr (by decide) rfl (pa_cons (pv 2) pa_nil)))) (pw_or1 (pt_cmpR op_ne (pe_callB call_len_str (by rfl) T.b_len (by decide +kernel) (pa_cons (pv 2) pa_nil)) (pe_op op_sub (pe_callB call_len_str (by rfl) T.b_len (by decide +kernel) (pa_cons (pv 1) pa_nil)) pe_int) (nomark _)))))))) (pss_one ps_never) pss_nil)
    (pss_cons (ps_fld (pv 0) (pv 1) rfl)
    (pss_one (ps_fld (pv 0) (pe_ifExp (pt_cmpR op_isN (pv 2) pe_non (nomark _)) (pe_op op_rep_str pe_str (pe_op op_sub (pe_callB call_len_str (by rfl) T.b_len (by decide +kernel) (pa_cons (pv 1) pa_nil)) pe_int)) (pv 2)) rfl))))), ?_⟩
    have pn : p ≠ [] := fun z => by have := ok.len; rw [z] at this; cases this
    have lw : (W p).length ≤ sizeLine := by rw [W_len]; exact sl_len (by omega)
    refine ⟨_, rfl, _, rfl, .inl ⟨_, rfl, by rw [W_len]; omega, fun H1 s1 => ⟨_, rfl, iteBF (by rw [isW_W]; rfl) ?_⟩⟩⟩
    refine ⟨_, rfl, _, rfl, _, rfl, lw, rfl, _, rfl, iteNS (by rw [W_take (by decide)]; exact congrArg V.str (take1 ok.hd)) ?_⟩
    refine ⟨_, rfl, _, rfl, _, rfl, _, rfl, lw, rfl, _, rfl, iteNS (by rw [W_last pn]; exact congrArg V.str (last1 ok.last)) ?_⟩
    have el : (W p).length = p.length := W_len p
    have hp1 : ∀ {H2 : Hp}, Same H H2 → H2 a = some (.ins C dx []) := fun s2 => s2 _ _ ha
    have keep : ∀ {H2 : Hp} {o u : HO}, Same H H2 → ∀ b x, H b = some x → b ≠ a → upd (upd H2 a o) a u b = some x := fun s2 b x e n => by
      rw [upd_ne n, upd_ne n]
      exact s2 _ _ e
    rcases hsv with rfl | ⟨rfl, rfl⟩
    · refine ⟨_, rfl, rfl, _, rfl, ?_⟩
      refine ⟨_, rfl, _, rfl, .inl ⟨_, rfl, by rw [W_len]; have := ok.len; omega, fun H2 s2 => ⟨_, rfl, iteBF (by rw [isW_W]; rfl) ?_⟩⟩⟩
      have lw2 : (W st).length ≤ sizeLine := by rw [W_len]; exact sl_len (by have := ok.len; omega)
      refine ⟨_, rfl, _, rfl, lw2, _, rfl, _, rfl, lw, _, _, rfl, rfl, rfl, _, rfl, iteNS (by rw [W_len, W_len]; have := ok.len; congr 1; omega) ?_⟩
      have s3 := s1.trans s2
      refine ⟨_, rfl, _, rfl, a, C, dx, _, rfl, hp1 s3, CT.cl, CT.nP, (by show 0 < 1000; decide), ?_⟩
      refine ⟨_, rfl, rfl, _, rfl, ?_⟩
      refine ⟨_, rfl, _, rfl, a, C, dx, _, rfl, upd_same, CT.cl, CT.nS, (by show 1 < 1000; decide), ?_⟩
      exact k _ (keep s3) upd_same
    · refine ⟨_, rfl, rfl, _, rfl, ?_⟩
      refine ⟨_, rfl, _, rfl, a, C, dx, _, rfl, hp1 s1, CT.cl, CT.nP, (by show 0 < 1000; decide), ?_⟩
      refine ⟨_, rfl, rfl, _, rfl, ?_⟩
      have ez : Txt.mul "0" (((W p).length : Int) - 1) = W (zs (p.length - 1)) := by rw [mul_0, W_len]; congr 2; omega
      have e0 : ("0" : Str).length = 1 := by decide +kernel
      refine ⟨_, rfl, _, rfl, lw, _, _, rfl, rfl, _, _, rfl, rfl, by omega, by omega, by rw [e0]; omega, ?_⟩
      rw [ez]
      refine ⟨_, rfl, a, C, dx, _, rfl, upd_same, CT.cl, CT.nS, (by show 1 < 1000; decide), ?_⟩
      exact k _ (keep s1) upd_same
theorem sc_Check_degree : FnScope ["self"] ["self"] (fnScope s_Check_degree) := fnScope_by (by decide +kernel)
theorem ok_degree {f C : Addr} {fd : FuncData} (F : C8.Fun K "degree" "Check.degree" s_Check_degree f fd) (T : Tx mg) (CT : CkT K C) : FnOk P w K mg base CX0 1 f fd ["self"] (spDegree C) := by
  refine fn0 F sc_Check_degree (fun vs H Q E h => ?_) (fun cdv A outer s H vs Q E hr h => ?_)
  · obtain ⟨_, _, _, rfl, _⟩ := h; rfl
  · obtain ⟨a, p, st, rfl, ⟨dx, ha⟩, hl, hs, k⟩ := h
    refine ⟨_, (pss_one (ps_ret (pe_op op_sub (pe_callB call_len_str (by rfl) T.b_len (by decide +kernel) (pa_cons (pe_fld (pv 0) rfl) pa_nil)) pe_int))), ?_⟩
    refine ⟨_, rfl, a, C, dx, _, _, rfl, ha, CT.cl, CT.nP, ckF_poly _ _, _, rfl, (by rw [W_len]; exact sl_len (by omega)), _, _, rfl, rfl, ?_⟩
    have e : (((W p).length : Nat) : Int) - 1 = (st.length : Nat) := by rw [W_len]; omega
    show Q (.int (((W p).length : Nat) - 1)) H
    rw [e]
    exact k
end
end U

namespace U
/-! the algebra of the rests -/
def xr (a b : List Bool) : List Bool := List.zipWith xor a b
theorem xr_len {a b : List Bool} (h : a.length = b.length) : (xr a b).length = a.length := by unfold xr; rw [List.length_zipWith, h, Nat.min_self]
theorem xr_cons (x y : Bool) (a b : List Bool) : xr (x :: a) (y :: b) = xor x y :: xr a b := rfl
theorem xr_app {a b c d : List Bool} (h : a.length = b.length) : xr (a ++ c) (b ++ d) = xr a b ++ xr c d := by
  unfold xr
  exact List.zipWith_append h
theorem xr_comm : ∀ a b : List Bool, xr a b = xr b a
  | [], [] => rfl
  | [], _ :: _ => rfl
  | _ :: _, [] => rfl
  | x :: a, y :: b => by rw [xr_cons, xr_cons, xr_comm a b, Bool.xor_comm]
theorem xr_assoc : ∀ a b c : List Bool, xr (xr a b) c = xr a (xr b c)
  | [], _, _ => by simp [xr]
  | _ :: _, [], _ => by simp [xr]
  | _ :: _, _ :: _, [] => by simp [xr]
  | x :: a, y :: b, z :: c => by rw [xr_cons, xr_cons, xr_cons, xr_cons, xr_assoc a b c, Bool.xor_assoc]
theorem xr_self : ∀ a : List Bool, xr a a = zs a.length
  | [] => rfl
  | x :: a => by rw [xr_cons, xr_self a, Bool.xor_self]; rfl
theorem xr_zs : ∀ (a : List Bool), xr a (zs a.length) = a
  | [] => rfl
  | x :: a => by
    show xr (x :: a) (false :: zs a.length) = _
    rw [xr_cons, xr_zs a, Bool.xor_false]
theorem zs_xr (a : List Bool) : xr (zs a.length) a = a := by rw [xr_comm, xr_zs]
theorem zs_len (n : Nat) : (zs n).length = n := by unfold zs; simp
theorem xr_eq_zs : ∀ {a b : List Bool}, a.length = b.length → xr a b = zs a.length → a = b
  | [], [], _, _ => rfl
  | [], _ :: _, h, _ => by simp at h
  | _ :: _, [], h, _ => by simp at h
  | x :: a, y :: b, h, e => by
    rw [xr_cons] at e
    have e' : xor x y :: xr a b = false :: zs a.length := e
    injection e' with e1 e2
    have h' : a.length = b.length := by simpa using h
    rw [xr_eq_zs h' e2]
    congr 1
    cases x <;> cases y <;> first | rfl | cases e1
theorem stepM_cons (p : List Bool) (x : Bool) (l : List Bool) (b : Bool) : stepM p (x :: l) b = if x then xr (l ++ [b]) p.tail else l ++ [b] := rfl
theorem stepM_nil (p : List Bool) (b : Bool) : stepM p [] b = [] := by
  show (if b then List.zipWith xor [] p.tail else []) = []
  cases b <;> rfl
theorem stepM_xr {p r q : List Bool} (h : r.length + 1 = p.length) (hq : q.length = r.length) (b c : Bool) : stepM p (xr r q) (xor b c) = xr (stepM p r b) (stepM p q c) := by
  cases r with
  | nil =>
    cases q with
    | nil => rw [show xr [] [] = [] from rfl, stepM_nil, stepM_nil, stepM_nil]; rfl
    | cons _ _ => simp at hq
  | cons x l =>
    cases q with
    | nil => simp at hq
    | cons y m =>
      have hl : m.length = l.length := by simpa using hq
      have e : xr (l ++ [b]) (m ++ [c]) = xr l m ++ [xor b c] := by rw [xr_app hl.symm]; rfl
      have ht : p.tail.length = l.length + 1 := by rw [List.length_tail]; simp only [List.length_cons] at h; omega
      rw [xr_cons, stepM_cons, stepM_cons, stepM_cons, ← e]
      have z : xr p.tail p.tail = zs p.tail.length := xr_self _
      have lb : (l ++ [b]).length = p.tail.length := by rw [List.length_append, ht]; rfl
      have lc : (m ++ [c]).length = p.tail.length := by rw [List.length_append, ht, hl]; rfl
      cases x <;> cases y <;> simp only [Bool.xor_false, Bool.false_xor, Bool.xor_true, Bool.not_true, Bool.not_false, if_true, if_false, Bool.false_eq_true, Bool.xor_self]
      · rw [← xr_assoc]
      · rw [xr_assoc, xr_assoc, xr_comm (m ++ [c]) p.tail]
      · rw [xr_assoc, xr_comm p.tail (xr (m ++ [c]) p.tail), xr_assoc (m ++ [c]), z, ← lc, xr_zs]
theorem restM_app (p s a b : List Bool) : restM p s (a ++ b) = restM p (restM p s a) b := List.foldl_append
theorem restM_xr {p : List Bool} : ∀ (a b r q : List Bool), a.length = b.length → r.length + 1 = p.length → q.length = r.length → restM p (xr r q) (xr a b) = xr (restM p r a) (restM p q b)
  | [], [], _, _, _, _, _ => rfl
  | [], _ :: _, _, _, h, _, _ => by simp at h
  | _ :: _, [], _, _, h, _, _ => by simp at h
  | x :: a, y :: b, r, q, h, hr, hq => by
    have h' : a.length = b.length := by simpa using h
    have l1 := stepM_len hr x
    have l2 := stepM_len (p := p) (r := q) (by omega) y
    show restM p (stepM p (xr r q) (xor x y)) (xr a b) = xr (restM p (stepM p r x) a) (restM p (stepM p q y) b)
    rw [stepM_xr hr hq, restM_xr a b _ _ h' (by omega) (by omega)]
theorem zs_succ (n : Nat) : zs (n + 1) = false :: zs n := rfl
theorem zs_app (m n : Nat) : zs (m + n) = zs m ++ zs n := by unfold zs; rw [List.replicate_append_replicate]
/-- noughts leave noughts -/
theorem stepM_0 (p : List Bool) (d : Nat) : stepM p (zs d) false = zs d := by
  cases d with
  | zero => exact stepM_nil p false
  | succ n =>
    rw [zs_succ, stepM_cons]
    show zs n ++ [false] = _
    rw [show [false] = zs 1 from rfl, ← zs_app]
    rfl
theorem restM_0 (p : List Bool) (d : Nat) : ∀ n : Nat, restM p (zs d) (zs n) = zs d
  | 0 => rfl
  | n + 1 => by
    show restM p (stepM p (zs d) false) (zs n) = _
    rw [stepM_0, restM_0 p d n]
/-- bits that come in behind noughts stand there -/
theorem restM_in (p : List Bool) : ∀ (c : List Bool) (e : List Bool), restM p (zs c.length ++ e) c = e ++ c ∨ (zs c.length ++ e).length + 1 ≠ p.length := by
  intro c
  induction c with
  | nil => intro e; left; show [] ++ e = e ++ []; simp
  | cons x c ih =>
    intro e
    by_cases h : (zs (x :: c).length ++ e).length + 1 = p.length
    · left
      have e1 : zs (x :: c).length ++ e = false :: (zs c.length ++ e) := rfl
      have e2 : stepM p (zs (x :: c).length ++ e) x = zs c.length ++ (e ++ [x]) := by
        rw [e1, stepM_cons]
        show zs c.length ++ e ++ [x] = _
        rw [List.append_assoc]
      show restM p (stepM p (zs (x :: c).length ++ e) x) c = _
      rw [e2]
      rcases ih (e ++ [x]) with h1 | h1
      · rw [h1]; simp
      · exfalso
        apply h1
        rw [← h, e1]
        simp only [List.length_append, List.length_cons, List.length_nil]
        omega
    · right; exact h
theorem restM_self {p c : List Bool} (h : c.length + 1 = p.length) : restM p (zs c.length) c = c := by
  rcases restM_in p c [] with e | e
  · rw [List.append_nil, List.nil_append] at e; exact e
  · rw [List.append_nil, zs_len] at e; exact absurd h e
/-- the check bits -/
def bitsM (p s data : List Bool) : List Bool := restM p s (data ++ zs s.length)
def goodM (p s m : List Bool) : Bool := decide (s.length ≤ m.length) && !decide (true ∈ restM p s m)
theorem bitsM_len {p s : List Bool} (h : s.length + 1 = p.length) (data : List Bool) : (bitsM p s data).length = s.length := restM_len _ _ h
theorem rest_tail {p s data x : List Bool} (h : s.length + 1 = p.length) (hx : x.length = s.length) : restM p s (data ++ x) = xr (bitsM p s data) x := by
  have lr : (restM p s data).length = s.length := restM_len _ _ h
  have e1 : restM p (xr (restM p s data) (zs s.length)) (xr (zs s.length) x) = xr (restM p (restM p s data) (zs s.length)) (restM p (zs s.length) x) :=
    restM_xr _ _ _ _ (by rw [zs_len, hx]) (by omega) (by rw [zs_len, lr])
  rw [← lr, xr_zs, lr, show zs s.length = zs x.length by rw [hx], zs_xr, restM_self (by omega)] at e1
  unfold bitsM
  rw [restM_app, restM_app, e1, hx]
theorem rest_good {p s : List Bool} (h : s.length + 1 = p.length) (data : List Bool) : restM p s (data ++ bitsM p s data) = zs s.length := by
  rw [rest_tail h (bitsM_len h data), xr_self, bitsM_len h]
theorem no_true_zs (n : Nat) : ¬ true ∈ zs n := by
  intro h
  have := List.eq_of_mem_replicate h
  cases this
theorem zs_of_no : ∀ {l : List Bool}, ¬ true ∈ l → l = zs l.length
  | [], _ => rfl
  | true :: r, h => absurd List.mem_cons_self h
  | false :: r, h => by
    have : r = zs r.length := zs_of_no fun z => h (List.mem_cons_of_mem _ z)
    show false :: r = false :: zs r.length
    rw [← this]
theorem goodM_tail {p s data x : List Bool} (h : s.length + 1 = p.length) (hx : x.length = s.length) : goodM p s (data ++ x) = decide (x = bitsM p s data) := by
  unfold goodM
  rw [rest_tail h hx, decide_eq_true (by rw [List.length_append]; omega), Bool.true_and]
  by_cases e : x = bitsM p s data
  · subst e
    rw [xr_self, decide_eq_true rfl, decide_eq_false (no_true_zs _)]
    rfl
  · rw [decide_eq_false e]
    have : true ∈ xr (bitsM p s data) x := Classical.byContradiction fun c => by
      have z := zs_of_no c
      have lb := bitsM_len h data
      rw [xr_len (by omega)] at z
      exact e (xr_eq_zs (by omega) z).symm
    rw [decide_eq_true this]
    rfl
theorem goodM_bits {p s : List Bool} (h : s.length + 1 = p.length) (data : List Bool) : goodM p s (data ++ bitsM p s data) = true := by
  rw [goodM_tail h (bitsM_len h data), decide_eq_true rfl]
theorem goodM_zs {p s m : List Bool} (g : goodM p s m = true) (hl : s.length + 1 = p.length) : restM p s m = zs s.length := by
  unfold goodM at g
  rw [Bool.and_eq_true, decide_eq_true_eq, Bool.not_eq_true', decide_eq_false_iff_not] at g
  have := zs_of_no g.2
  rw [restM_len _ _ hl] at this
  exact this
theorem goodM_iff {p s m : List Bool} (hl : s.length + 1 = p.length) : goodM p s m = true ↔ s.length ≤ m.length ∧ restM p s m = zs s.length := by
  constructor
  · intro g
    refine ⟨?_, goodM_zs g hl⟩
    unfold goodM at g
    rw [Bool.and_eq_true, decide_eq_true_eq] at g
    exact g.1
  · rintro ⟨h1, h2⟩
    unfold goodM
    rw [h2, decide_eq_true h1, decide_eq_false (no_true_zs _)]
    rfl
/-! one wrong bit is seen -/
theorem stepM_inj {p r : List Bool} (h : r.length + 1 = p.length) (hl : p.getLast? = some true) (h0 : r ≠ []) (e : stepM p r false = zs r.length) : r = zs r.length := by
  cases r with
  | nil => exact absurd rfl h0
  | cons x l =>
    rw [stepM_cons] at e
    have ht : p.tail.length = l.length + 1 := by rw [List.length_tail]; simp only [List.length_cons] at h; omega
    cases x with
    | false =>
      have e' : l ++ [false] = zs (l.length + 1) := e
      rw [zs_app] at e'
      have := List.append_inj_left e' (by rw [zs_len])
      show false :: l = false :: zs l.length
      rw [← this]
    | true =>
      exfalso
      have e' : xr (l ++ [false]) p.tail = zs (l ++ [false]).length := by
        have : xr (l ++ [false]) p.tail = zs (true :: l).length := e
        rw [this, List.length_append]
        rfl
      have e2 := xr_eq_zs (by rw [List.length_append, ht]; rfl) e'
      have e3 : p.tail.getLast? = some false := by rw [← e2, List.getLast?_append]; rfl
      cases p with
      | nil => cases hl
      | cons y t =>
        have e4 : t.getLast? = some false := e3
        cases t with
        | nil => cases e4
        | cons z u =>
          rw [List.getLast?_cons_cons] at hl
          rw [hl] at e4
          cases e4
theorem restM_inj {p : List Bool} (hl : p.getLast? = some true) : ∀ (n : Nat) (r : List Bool), r.length + 1 = p.length → r ≠ [] → restM p r (zs n) = zs r.length → r = zs r.length
  | 0, r, _, _, e => e
  | n + 1, r, h, h0, e => by
    have ls := stepM_len h false
    have e' : restM p (stepM p r false) (zs n) = zs r.length := e
    have n0 : stepM p r false ≠ [] := by
      intro z
      rw [z] at ls
      exact h0 (List.length_eq_zero_iff.mp ls.symm)
    have := restM_inj hl n (stepM p r false) (by omega) n0 (by rw [e', ls])
    rw [ls] at this
    exact stepM_inj h hl h0 this
/-- a unit -/
def unit (n i : Nat) : List Bool := zs i ++ true :: zs (n - i - 1)
theorem unit_len {n i : Nat} (h : i < n) : (unit n i).length = n := by
  unfold unit
  rw [List.length_append, List.length_cons, zs_len, zs_len]
  omega
theorem step_one {p : List Bool} {d : Nat} (h : d + 1 = p.length) (h0 : 0 < d) : stepM p (zs d) true ≠ zs d := by
  cases d with
  | zero => omega
  | succ n =>
    rw [zs_succ, stepM_cons]
    show ¬ (zs n ++ [true] = false :: zs n)
    intro e
    have m : true ∈ zs n ++ [true] := by simp
    rw [e] at m
    rcases List.mem_cons.mp m with z | z
    · cases z
    · exact no_true_zs _ z
theorem rest_unit {p : List Bool} {d n i : Nat} (h : d + 1 = p.length) (hl : p.getLast? = some true) (h0 : 0 < d) (hi : i < n) : restM p (zs d) (unit n i) ≠ zs d := by
  intro e
  unfold unit at e
  rw [restM_app, restM_0] at e
  have e' : restM p (stepM p (zs d) true) (zs (n - i - 1)) = zs d := e
  have ls : (stepM p (zs d) true).length = d := by rw [stepM_len (by rw [zs_len]; exact h), zs_len]
  have n0 : stepM p (zs d) true ≠ [] := by
    intro z
    rw [z] at ls
    exact absurd ls (by simp; omega)
  have := restM_inj hl _ _ (by omega) n0 (by rw [e', ls])
  rw [ls] at this
  exact step_one h h0 this
/-- the message with bit i turned -/
def bent (m : List Bool) (i : Nat) : List Bool := m.take i ++ [!(m.getD i false)] ++ m.drop (i + 1)
theorem bent_len {m : List Bool} {i : Nat} (h : i < m.length) : (bent m i).length = m.length := by
  unfold bent
  rw [List.length_append, List.length_append, List.length_take, List.length_drop]
  simp only [List.length_cons, List.length_nil]
  omega
theorem bent_xr {m : List Bool} {i : Nat} (h : i < m.length) : bent m i = xr m (unit m.length i) := by
  have e : m = m.take i ++ (m.getD i false :: m.drop (i + 1)) := by
    have e1 : m.drop i = m.getD i false :: m.drop (i + 1) := by
      rw [List.drop_eq_getElem_cons h]
      simp [h]
    rw [← e1, List.take_append_drop]
  have lt : (m.take i).length = i := by rw [List.length_take]; omega
  unfold bent unit
  generalize hA : m.take i = A at e lt ⊢
  generalize hB : m.drop (i + 1) = B at e ⊢
  generalize m.getD i false = c at e ⊢
  have lB : B.length = m.length - i - 1 := by rw [← hB, List.length_drop]; omega
  rw [← lB]
  conv => rhs; rw [e]
  rw [xr_app (by rw [lt, zs_len]), xr_cons, Bool.xor_true, xr_zs, ← lt, xr_zs]
  simp
theorem bent_bad {p s m : List Bool} {i : Nat} (h : s.length + 1 = p.length) (hl : p.getLast? = some true) (h0 : 0 < s.length) (g : goodM p s m = true) (hi : i < m.length) : goodM p s (bent m i) = false := by
  cases c : goodM p s (bent m i) with
  | false => rfl
  | true =>
    exfalso
    have e1 := goodM_zs c h
    have e2 := goodM_zs g h
    rw [bent_xr hi] at e1
    have e3 : restM p (xr s (zs s.length)) (xr m (unit m.length i)) = xr (restM p s m) (restM p (zs s.length) (unit m.length i)) :=
      restM_xr _ _ _ _ (by rw [unit_len hi]) h (by rw [zs_len])
    rw [xr_zs, e1, e2] at e3
    have lu : (restM p (zs s.length) (unit m.length i)).length = s.length := by rw [restM_len _ _ (by rw [zs_len]; exact h), zs_len]
    have nu := rest_unit h hl h0 hi
    generalize restM p (zs s.length) (unit m.length i) = R at e3 lu nu
    rw [← lu, zs_xr, lu] at e3
    exact nu e3.symm
end U

set_option maxRecDepth 100000
set_option maxHeartbeats 4000000
namespace U
open PySem PySem.Spec PyProof.Rows
open L2 hiding Fun CX0 E0 pass0 Fun.binds
open C8 Lx SX
def spWordN : Sp := fun vs H Q _ => ∃ (b : Addr) (n : Nat), vs = [.ref b, .int n] ∧ Box H b ∧ n ≤ 1000 ∧
  ∀ (l : List Bool) H', l.length = n → Up b H H' → Q (.str (W l)) H'
def spCheck : Sp := fun vs H Q _ => ∃ (b : Addr) (m : Nat), vs = [.ref b, .int m] ∧ Box H b ∧ m ≤ 100 ∧
  ∀ (t : Addr) (p s : List Bool) H', H t = none → Up b H H' → H' t = some (.tup [.str (W p), .str (W s)]) → CkOk p s → s.length ≤ m → Q (.ref t) H'
theorem ckOk_mk {inner s : List Bool} {n : Nat} (h : s.length = n) (hi : inner.length = n - 1) (h0 : 0 < n) : CkOk ([true] ++ inner ++ [true]) s :=
  ⟨rfl, by rw [List.getLast?_append]; rfl, by simp only [List.length_append, List.length_cons, List.length_nil]; omega⟩
section
variable {P : Program} {w : World} {K : PySem.W.Frag} {mg : Str → Option Value} {base : Heap}
theorem sc_l_word : FnScope ["_law_box", "_law_size", "_law_turn"] ["_law_box", "_law_size"] (fnScope s_l_word) := fnScope_by (by decide +kernel)
theorem cal_l_word {f : Addr} {fd : FuncData} (F : Def K mg "_law_word" s_l_word f fd) (b : Binds K fd ["_law_box", "_law_size"] []) (T : Tx mg)
    (c_l_one_of : Cal P w K mg base 2 "_law_one_of" spOneOf []) : Cal P w K mg base 3 "_law_word" spWordN [] := by
  refine cal0 F b .nil sc_l_word (fun vs H Q E h => ?_) (fun cdv A outer s H vs Q E hr h => ?_)
  · obtain ⟨_, _, rfl, _⟩ := h; rfl
  · obtain ⟨bx, n, rfl, hb, h1, k⟩ := h
    refine ⟨_, (pss_one (ps_ret (pe_join pe_str (pe_lc (own := [("_law_turn", 2)]) (g := gName 2) (by rfl) sc_l_word.nd (pi_range1 (by rfl) T.b_range (pa_cons (pv 1) pa_nil)) (blkOk_by (own := [("_law_turn", 2)]) (N := ["_law_box", "_law_size", "_law_turn"]) (sc := fnScope s_l_word) (by decide +kernel)) (fun _ _ _ _ _ => (pg_name (i := 2) sc_l_word.nd rfl (.inl rfl))) (fun _ _ _ _ _ => pts_nil) (fun _ _ _ _ _ => (pe_c c_l_one_of hr (by decide) rfl (pa_cons (pv 0) (pa_cons (pe_lst (pa_cons pe_str (pa_cons pe_str pa_nil))) pa_nil)))))))), ?_⟩
    refine ⟨⟨_, rfl⟩, ?_⟩
    refine ⟨_, rfl, _, rfl, by omega, by omega, fun D nD => ?_⟩
    have nb : D ≠ bx := hb.ne nD
    refine lc_it (walk_range (lo := 0) (n := (n : Int).toNat)) (fun i H2 => ∃ l : List Bool, l.length = i ∧ Up bx H H2 ∧ H2 D = some (.lst (bitsV l)))
      ⟨[], rfl, (Up.refl hb).mut nD nb, upd_same⟩ (fun _ _ _ _ => trivial) ?_ ?_
    · rintro i x H2 H3 hi ⟨l, rfl, u2, hD⟩ ⟨rfl, rfl⟩
      refine ⟨rfl, ?_⟩
      refine ⟨_, rfl, by show 2 ≤ sizeLine; decide, fun p hp => ?_⟩
      have np : p ≠ bx := u2.2.ne hp
      refine ⟨bx, p, _, rfl, u2.2.same (same_upd hp), upd_same, np, by decide, by decide, fun v H4 hv u4 => ?_⟩
      obtain ⟨b, rfl⟩ := mem2 hv
      have hD4 : H4 D = some (.lst (bitsV l)) := u4.1 _ _ (same_upd hp _ _ hD) nb
      refine ⟨_, hD4, ?_, l ++ [b], by simp, ?_, ?_⟩
      · rw [bitsV_len]; exact sl_lt (by omega)
      · exact ((u2.same (same_upd hp)).trans u4).mut nD nb
      · rw [upd_same, bitsV_snoc]
    · rintro H2 ⟨l, hl, u2, hD⟩
      refine ⟨_, D, l.map fun b => W [b], rfl, rfl, .inl (SqL.of hD), ?_, ?_⟩
      · rw [lens_bits, empty_len]; omega
      · show Q (.str (Txt.join "" (l.map fun b => W [b]))) H2
        rw [join_bits]
        exact k l H2 (by omega) u2
theorem sc_l_check : FnScope ["_law_box", "_law_most", "_law_size", "_law_inner"] ["_law_box", "_law_most"] (fnScope s_l_check) := fnScope_by (by decide +kernel)
theorem cal_l_check {f : Addr} {fd : FuncData} (F : Def K mg "_law_check" s_l_check f fd) (b : Binds K fd ["_law_box", "_law_most"] []) (T : Tx mg)
    (c_l_choose : Cal P w K mg base 1 "_law_choose" spChoose []) (c_l_word : Cal P w K mg base 3 "_law_word" spWordN []) : Cal P w K mg base 4 "_law_check" spCheck [] := by
  refine cal0 F b .nil sc_l_check (fun vs H Q E h => ?_) (fun cdv A outer s H vs Q E hr h => ?_)
  · obtain ⟨_, _, rfl, _⟩ := h; rfl
  · obtain ⟨bx, m, rfl, hb, h1, k⟩ := h
    refine ⟨_, (pss_cons (ps_set (i := 2) sc_l_check.nd rfl (.inl rfl) (pe_c c_l_choose hr (by decide) rfl (pa_cons (pv 0) (pa_cons (pe_op op_add (pv 1) pe_int) pa_nil))))
    (pss_cut (ps_set (i := 3) sc_l_check.nd rfl (.inl rfl) (pe_ifExp (pt_cmpR op_gt (pv 2) pe_int (nomark _)) (pe_c c_l_word hr (by decide) rfl (pa_cons (pv 0) (pa_cons (pe_op op_sub (pv 2) pe_int) pa_nil))) pe_str))
    (pss_one (ps_ret (pe_tup (pa_cons (pe_ifExp (pt_cmpR op_gt (pv 2) pe_int (nomark _)) (pe_op op_add_str (pe_op op_add_str pe_str (pv 3)) pe_str) pe_str) (pa_cons (pe_ifExp (pt_cmpR op_eq (pe_c c_l_choose hr (by decide) rfl (pa_cons (pv 0) (pa_cons pe_int pa_nil))) pe_int (nomark _)) (pe_c c_l_word hr (by decide) rfl (pa_cons (pv 0) (pa_cons (pv 2) pa_nil))) (pe_op op_rep_str pe_str (pv 2))) pa_nil))))))), ?_⟩
    refine ⟨_, rfl, _, rfl, _, _, rfl, rfl, bx, _, rfl, hb, by omega, by omega, fun d H1 d0 d1 u1 => ?_⟩
    obtain ⟨n, rfl⟩ := Int.eq_ofNat_of_zero_le d0
    have hn : n ≤ m := by omega
    refine ⟨fun σ' H2 => ∃ inner : List Bool, σ' = [some (.ref bx), some (.int m), some (.int n), some (.str (W inner))] ∧ inner.length = n - 1 ∧ Up bx H H2, ?_, ?_⟩
    · refine ⟨_, rfl, _, _, rfl, rfl, _, rfl, ?_⟩
      refine ite2 (fun h2 => ?_) (fun h2 => ?_)
      · have h3 : (1 : Int) < n := of_decide_eq_true h2
        refine ⟨_, rfl, _, rfl, _, _, rfl, rfl, bx, n - 1, (by show [V.ref bx, V.int ((n : Int) - 1)] = _; rw [show (n : Int) - 1 = ((n - 1 : Nat) : Int) by omega]), u1.2, by omega, fun l H2 hl u2 => ?_⟩
        exact ⟨l, rfl, hl, u1.trans u2⟩
      · have h3 : ¬ (1 : Int) < n := of_decide_eq_false (by simpa using h2)
        exact ⟨[], by rw [← W_nil]; rfl, by show 0 = n - 1; omega, u1⟩
    · rintro σ' H2 ⟨inner, rfl, hi, u2⟩
      -- both words
      have l1 : ("1" : Str).length = 1 := by decide +kernel
      have l0 : ("0" : Str).length = 1 := by decide +kernel
      refine ⟨_, rfl, _, _, rfl, rfl, _, rfl, ?_⟩
      refine ite2 (fun h2 => ?_) (fun h2 => ?_)
      · have h3 : (0 : Int) < n := of_decide_eq_true h2
        refine ⟨_, rfl, _, _, rfl, rfl, ?_, _, _, rfl, rfl, ?_, ?_⟩
        · rw [l1, W_len]; exact sl_len (by omega)
        · rw [W_1, W_cat, W_len, W_len, List.length_append]; exact sl_len (by show 1 + inner.length + 1 ≤ 100000; omega)
        · rw [W_1, W_cat, W_cat]
          refine ⟨_, rfl, bx, _, rfl, u2.2, by decide, by decide, fun d2 H3 e0 e1 u3 => ⟨rfl, _, rfl, ?_⟩⟩
          have u3' := u2.trans u3
          refine ite2 (fun h4 => ?_) (fun h4 => ?_)
          · refine ⟨_, rfl, _, rfl, bx, n, rfl, u3'.2, by omega, fun l H4 hl u4 => ⟨by show 2 ≤ sizeLine; decide, fun q nq => ?_⟩⟩
            have u5 := u3'.trans u4
            exact k q _ l _ (u5.free nq) (u5.same (same_upd nq)) upd_same (ckOk_mk hl hi (by omega)) (by omega)
          · refine ⟨_, rfl, _, _, rfl, rfl, by omega, by omega, by rw [l0]; omega, by show 2 ≤ sizeLine; decide, fun q nq => ?_⟩
            refine k q _ (zs n) _ (u3'.free nq) (u3'.same (same_upd nq)) (by rw [upd_same, mul_0]; rfl) (ckOk_mk (by unfold zs; simp) hi (by omega)) (by unfold zs; simp; omega)
      · have h3 : ¬ (0 : Int) < n := of_decide_eq_false (by simpa using h2)
        have n0 : n = 0 := by omega
        subst n0
        have ok : ∀ l : List Bool, l.length = 0 → CkOk [true] l := fun l hl => ⟨rfl, rfl, by rw [hl]; rfl⟩
        refine ⟨_, rfl, bx, _, rfl, u2.2, by decide, by decide, fun d2 H3 e0 e1 u3 => ⟨rfl, _, rfl, ?_⟩⟩
        have u3' := u2.trans u3
        refine ite2 (fun h4 => ?_) (fun h4 => ?_)
        · refine ⟨_, rfl, _, rfl, bx, 0, rfl, u3'.2, by omega, fun l H4 hl u4 => ⟨by show 2 ≤ sizeLine; decide, fun q nq => ?_⟩⟩
          have u5 := u3'.trans u4
          exact k q [true] l _ (u5.free nq) (u5.same (same_upd nq)) (by rw [upd_same, W_1]) (ok l hl) (by omega)
        · refine ⟨_, rfl, _, _, rfl, rfl, by omega, by omega, by rw [l0]; omega, by show 2 ≤ sizeLine; decide, fun q nq => ?_⟩
          exact k q [true] [] _ (u3'.free nq) (u3'.same (same_upd nq)) (by rw [upd_same, mul_0, W_1]; rfl) (ok [] rfl) (Nat.zero_le _)
end
end U

set_option maxRecDepth 100000
set_option maxHeartbeats 4000000
namespace U
open PySem PySem.Spec PyProof.Rows
open L2 hiding Fun CX0 E0 pass0 Fun.binds
open C8 Lx SX
theorem call_repr_bool {X : Cx} : CallR X (.builtin "repr") (fun xs H Q => ∃ k, xs = [.bl k] ∧ Q (.str (if k then "True" else "False")) H) := by
  intro pins s σ H xs us Q I r h
  obtain ⟨k, rfl, q⟩ := h
  obtain ⟨u, rfl, rfl⟩ := vals1 r
  exact PySem.P.repr_of_bool ⟨.str _, H, I.tok _, ⟨_, rfl⟩, q⟩
theorem one_in (l : List Bool) : decide ((49 : Nat) ∈ (W l).cps.toList) = decide (true ∈ l) := by
  rw [W_tl]
  congr 1
  refine propext ⟨fun h => ?_, fun h => ?_⟩
  · obtain ⟨b, hb, e⟩ := List.mem_map.mp h
    cases b with
    | true => exact hb
    | false => exact absurd e (by decide)
  · exact List.mem_map.mpr ⟨true, h, rfl⟩
theorem V_1 : V.str "1" = V.str ⟨#[49]⟩ := by decide +kernel
def spBitsFor (C : Addr) : Sp := fun vs H Q _ => ∃ (a : Addr) (p s l : List Bool), vs = [.ref a, .str (W l)] ∧ CkAt C H a p s ∧ p.length ≤ 1000 ∧ l.length ≤ 10000 ∧ s.length + 1 = p.length ∧
  ∀ H', Same H H' → Q (.str (W (bitsM p s l))) H'
def spIsGood (C : Addr) : Sp := fun vs H Q _ => ∃ (a : Addr) (p s l : List Bool), vs = [.ref a, .str (W l)] ∧ CkAt C H a p s ∧ p.length ≤ 1000 ∧ l.length ≤ 10000 ∧ s.length + 1 = p.length ∧
  ∀ H', Same H H' → Q (.bl (goodM p s l)) H'
section
variable {P : Program} {w : World} {K : PySem.W.Frag} {mg : Str → Option Value} {base : Heap}
end
end U

set_option maxRecDepth 100000
set_option maxHeartbeats 4000000
namespace U
open PySem PySem.Spec PyProof.Rows
open L2 hiding Fun CX0 E0 pass0 Fun.binds
open C8 Lx SX
/-! texts of checks -/
def ckT (p s : List Bool) : Str := if p = [true] then W p else W p ++ " start " ++ W s
def spCkStr (C : Addr) : Sp := fun vs H Q _ => ∃ (a : Addr) (p s : List Bool), vs = [.ref a] ∧ CkAt C H a p s ∧ p.length ≤ 1000 ∧ s.length ≤ 1000 ∧ Q (.str (ckT p s)) H
def spCkEq (C : Addr) : Sp := fun vs H Q _ => ∃ (a b : Addr) (p s p' s' : List Bool), vs = [.ref a, .ref b] ∧ CkAt C H a p s ∧ p.length ≤ 1000 ∧ s.length ≤ 1000 ∧ CkAt C H b p' s' ∧ p'.length ≤ 1000 ∧ s'.length ≤ 1000 ∧ Q (.bl (decide (ckT p s = ckT p' s'))) H
def spCkRead (C : Addr) : Sp := fun vs H Q _ => ∃ (p s : List Bool), vs = [.ref C, .str (ckT p s)] ∧ CkOk p s ∧ p.length ≤ 1000 ∧ ∀ x H', Same H H' → CkAt C H' x p s → Q (.ref x) H'
theorem e_cat (l : List Bool) : Str.empty ++ W l = W l := by
  have e : Str.empty = W [] := by decide +kernel
  rw [e, W_cat]; rfl
theorem mid_len : (" start " : Str).length = 7 := by decide +kernel
theorem len_cat (a b : Str) : (a ++ b).length = a.length + b.length := by
  rw [TL.len_tl, TL.len_tl a, TL.len_tl b]
  have := TL.tl_append a b
  show (TL.tl (a ++ b)).length = _
  rw [this, List.length_append]
theorem mid_tl : TL.tl (" start " : Str) = 32 :: [115, 116, 97, 114, 116, 32] := by decide +kernel
theorem no_sp (l : List Bool) : (32 : Nat) ∉ TL.tl (W l) := by
  show 32 ∉ l.map bt
  intro h
  obtain ⟨b, _, e⟩ := List.mem_map.mp h
  cases b <;> exact absurd e (by decide)
theorem W_ne_1 {p : List Bool} (h : ¬ p = [true]) : ¬ V.str (W p) = V.str "1" := fun z => h (by rw [W_1] at z; exact W_inj (V.str.inj z))
theorem ckT_ne_1 {p s : List Bool} (h : ¬ p = [true]) : ¬ ckT p s = "1" := fun z => by
  unfold ckT at z
  rw [if_neg h] at z
  have := congrArg Str.length z
  rw [len_cat, len_cat, mid_len, show ("1" : Str).length = 1 by decide +kernel] at this
  omega
theorem ckT_len {p s : List Bool} : (ckT p s).length ≤ p.length + 7 + s.length := by
  unfold ckT
  split
  · rw [W_len]; omega
  · rw [len_cat, len_cat, mid_len, W_len, W_len]; omega
theorem mk_ck2 {C : Addr} {H : Hp} {p s : List Bool} {R : Addr → Hp → Prop} {E : XK} (ok : CkOk p s) (hl : p.length ≤ 1000) (k : ∀ x H', Same H H' → CkAt C H' x p s → R x H') :
    ∀ x dx, H x = none → H dx = none → dx ≠ x → spCkInit C [.ref x, .str (W p), .str (W s)] (upd (upd H dx (.own x)) x (.ins C dx [])) (fun v H2 => v = .non ∧ R x H2) E := by
  intro x dx nx ndx nex
  exact ⟨x, dx, p, s, .str (W s), rfl, upd_same, ok, hl, .inl rfl, fun H5 keep hx => ⟨rfl, k x H5 (Same.made nx ndx keep) ⟨dx, hx⟩⟩⟩
theorem mk_ck1 {C : Addr} {H : Hp} {p s : List Bool} {R : Addr → Hp → Prop} {E : XK} (ok : CkOk p s) (hl : p.length ≤ 1000) (k : ∀ x H', Same H H' → CkAt C H' x p (zs s.length) → R x H') :
    ∀ x dx, H x = none → H dx = none → dx ≠ x → spCkInit C [.ref x, .str (W p), .non] (upd (upd H dx (.own x)) x (.ins C dx [])) (fun v H2 => v = .non ∧ R x H2) E := by
  intro x dx nx ndx nex
  have e : s.length = p.length - 1 := by have := ok.len; omega
  exact ⟨x, dx, p, zs s.length, .non, rfl, upd_same, ⟨ok.hd, ok.last, by rw [zs_len]; exact ok.len⟩, hl, .inr ⟨rfl, by rw [e]⟩, fun H5 keep hx => ⟨rfl, k x H5 (Same.made nx ndx keep) ⟨dx, hx⟩⟩⟩
theorem mk_ck0 {C : Addr} {H : Hp} {R : Addr → Hp → Prop} {E : XK} (k : ∀ x H', Same H H' → CkAt C H' x [true] [] → R x H') :
    ∀ x dx, H x = none → H dx = none → dx ≠ x → spCkInit C [.ref x, .str "1", .non] (upd (upd H dx (.own x)) x (.ins C dx [])) (fun v H2 => v = .non ∧ R x H2) E := by
  rw [W_1]
  exact mk_ck1 (s := []) ⟨rfl, rfl, rfl⟩ (by decide) k
section
variable {P : Program} {w : World} {K : PySem.W.Frag} {mg : Str → Option Value} {base : Heap}
theorem sc_Check_str : FnScope ["self"] ["self"] (fnScope s_Check_str) := fnScope_by (by decide +kernel)
theorem met_Check_str {f C : Addr} {fd : FuncData} {tM : Tok} (F : C8.Fun K "__str__" "Check.__str__" s_Check_str f fd) (me : Meth K C "__str__" f) (b : Binds K fd ["self"] []) (T : Tx mg) (CT : CkT K C) (g_MIDDLE : mg "MIDDLE" = some (.str " start " tM)) : Met P w K mg base 1 C "__str__" (spCkStr C) [] := by
  refine met0 CT.cl me F b sc_Check_str (fun vs H Q E h => ?_) (fun cdv A outer s H vs Q E hr h => ?_)
  · obtain ⟨_, _, _, rfl, _⟩ := h; rfl
  · obtain ⟨a, p, st, rfl, ⟨dx, ha⟩, h1, h2, k⟩ := h
    refine ⟨_, (pss_cons (ps_if (pt_cmpR op_eq (pe_fld (pv 0) rfl) pe_str (nomark _)) (pss_one (ps_ret (pe_joined1 (pe_fmt (pe_fld (pv 0) rfl))))) pss_nil)
    (pss_one (ps_ret (pe_joined (.cons (pe_fmt (pe_fld (pv 0) rfl)) (.cons (pe_fmt (pe_glob (v := .str " start ") (by rfl) g_MIDDLE ⟨_, rfl⟩)) (.cons (pe_fmt (pe_fld (pv 0) rfl)) .nil))))))), ?_⟩
    have lp : (W p).length ≤ sizeLine := by rw [W_len]; exact sl_len (by omega)
    have ls : (W st).length ≤ sizeLine := by rw [W_len]; exact sl_len (by omega)
    refine ⟨_, rfl, a, C, dx, _, _, rfl, ha, CT.cl, CT.nP, ckF_poly _ _, rfl, _, rfl, ?_⟩
    by_cases c : p = [true]
    · refine iteDT (by rw [c, W_1]) ⟨_, rfl, a, C, dx, _, _, rfl, ha, CT.cl, CT.nP, ckF_poly _ _, .inl ⟨_, rfl, lp, ?_⟩⟩
      unfold ckT at k
      rw [if_pos c] at k
      exact k
    · refine iteDF (W_ne_1 c) ?_
      refine ⟨_, rfl, a, C, dx, _, _, rfl, ha, CT.cl, CT.nP, ckF_poly _ _, .inl ⟨_, rfl, lp, _, rfl, by rw [e_cat]; exact lp, ?_⟩⟩
      refine .inl ⟨_, rfl, by rw [mid_len]; decide, _, rfl, by rw [e_cat, len_cat, mid_len, W_len]; exact sl_len (by omega), ?_⟩
      refine ⟨_, rfl, a, C, dx, _, _, rfl, ha, CT.cl, CT.nS, ckF_start _ _, .inl ⟨_, rfl, ls, _, rfl, by rw [e_cat, len_cat, len_cat, mid_len, W_len, W_len]; exact sl_len (by omega), ?_⟩⟩
      unfold ckT at k
      rw [if_neg c] at k
      rw [e_cat]
      exact k
theorem sc_Check_eq : FnScope ["self", "other"] ["self", "other"] (fnScope s_Check_eq) := fnScope_by (by decide +kernel)
theorem met_Check_eq {f C : Addr} {fd : FuncData} (F : C8.Fun K "__eq__" "Check.__eq__" s_Check_eq f fd) (me : Meth K C "__eq__" f) (b : Binds K fd ["self", "other"] []) (T : Tx mg) (CT : CkT K C) (g_Check : mg "Check" = some (.ref C)) (IS_Check : IsT K C)
    (c_Check_str : Met P w K mg base 1 C "__str__" (spCkStr C) []) : Met P w K mg base 4 C "__eq__" (spCkEq C) [] := by
  refine met0 CT.cl me F b sc_Check_eq (fun vs H Q E h => ?_) (fun cdv A outer s H vs Q E hr h => ?_)
  · obtain ⟨_, _, _, _, _, _, rfl, _⟩ := h; rfl
  · obtain ⟨a, b, p, st, p', st', rfl, ca, h1, h2, cb, h3, h4, k⟩ := h
    refine ⟨_, (pss_one (ps_ret (pe_and (pe_callB call_isi (by rfl) T.b_isinstance (by decide +kernel) (pa_cons (pv 1) (pa_cons (pe_glob (v := .ref C) (by rfl) g_Check rfl) pa_nil))) (pe_one (pe_cmpR op_eq (pe_callTy (call_str_own c_Check_str hr (by decide)) (by rfl) T.b_str (by decide +kernel) (pa_cons (pv 0) pa_nil)) (pe_callTy (call_str_own c_Check_str hr (by decide)) (by rfl) T.b_str (by decide +kernel) (pa_cons (pv 1) pa_nil)) (nomark _)))))), ?_⟩
    obtain ⟨dx, ha⟩ := id ca
    obtain ⟨dy, hb⟩ := id cb
    refine ⟨_, rfl, _, _, _, _, true, rfl, .own C, IS_Check.ty hb, IS_Check.one, _, rfl, ?_⟩
    refine ⟨_, rfl, a, dx, _, rfl, ha, a, p, st, rfl, ca, h1, h2, _, rfl, ?_⟩
    refine ⟨_, rfl, b, dy, _, rfl, hb, b, p', st', rfl, cb, h3, h4, _, rfl, rfl, ?_⟩
    have e : decide (V.str (ckT p st) = V.str (ckT p' st')) = decide (ckT p st = ckT p' st') := by
      rw [decide_eq_decide]
      exact ⟨V.str.inj, fun z => by rw [z]⟩
    rw [e]
    exact k
theorem sc_Check_read : FnScope ["cls", "text", "poly", "middle", "start"] ["cls", "text"] (fnScope s_Check_read) := fnScope_by (by decide +kernel)
theorem ok_Check_read {f C : Addr} {fd : FuncData} {tM : Tok} (F : C8.Fun K "read" "Check.read" s_Check_read f fd) (T : Tx mg) (CT : CkT K C) (g_MIDDLE : mg "MIDDLE" = some (.str " start " tM)) (c_is_word : Cal P w K mg base 1 "is_word" (spIsWord K) [])
    (m_Check0 : Mak P w K mg base 2 "Check" C (spCkInit C) [.str "1", .non]) (m_Check2 : Mak P w K mg base 2 "Check" C (spCkInit C) []) : FnOk P w K mg base CX0 4 f fd ["cls", "text"] (spCkRead C) := by
  refine fn0 F sc_Check_read (fun vs H Q E h => ?_) (fun cdv A outer s H vs Q E hr h => ?_)
  · obtain ⟨_, _, rfl, _⟩ := h; rfl
  · obtain ⟨p, st, rfl, ok, h1, k⟩ := h
    refine ⟨_, (pss_cons (ps_if (pt_not (pt_val (pe_callB call_isi (by rfl) T.b_isinstance (by decide +kernel) (pa_cons (pv 1) (pa_cons (pe_bltn (v := .ty "str") (u := .type "str") (by rfl) T.b_str (by decide +kernel) rfl) pa_nil))))) (pss_one ps_never) pss_nil)
    (pss_cons (ps_asg (pe_partition (pv 1) (pe_glob (v := .str " start ") (by rfl) g_MIDDLE ⟨_, rfl⟩)) (pg_tup rfl (pgs_cons (pg_name (i := 2) sc_Check_read.nd rfl (.inl rfl)) (pgs_cons (pg_name (i := 3) sc_Check_read.nd rfl (.inl rfl)) (pgs_cons (pg_name (i := 4) sc_Check_read.nd rfl (.inl rfl)) pgs_nil)))))
    (pss_cons (ps_if (pt_cmpR op_eq (pv 1) pe_str (nomark _)) (pss_one (ps_ret (pe_mkL0 0 m_Check0 hr (by decide)))) pss_nil)
    (pss_cons (ps_if (PW.pt (pw_or (pt_cmpR op_eq (pv 3) pe_str (nomark _)) (pw_or (pt_not (pt_val (pe_c c_is_word hr (by decide) rfl (pa_cons (pv 2) pa_nil)))) (pw_or (pt_not (pt_val (pe_c c_is_word hr (by decide) rfl (pa_cons (pv 4) pa_nil)))) (pw_or (pt_cmpR op_eq (pv 2) pe_str (nomark _)) (pw_or1 (pt_cmpR op_eq (pv 4) pe_str (nomark _)))))))) (pss_one ps_never) pss_nil)
    (pss_one (ps_ret (pe_mkL 0 m_Check2 hr (by decide) (pa_cons (pv 2) (pa_cons (pv 4) pa_nil))))))))), ?_⟩
    have hs : st.length ≤ 1000 := by have := ok.len; omega
    have lt : (ckT p st).length ≤ sizeLine := Nat.le_trans ckT_len (sl_len (by omega))
    refine ⟨_, rfl, _, _, _, _, true, rfl, .ty _, .base (.str _), kit_ty (by decide +kernel), _, rfl, ?_⟩
    refine ⟨_, rfl, ⟨_, rfl⟩, _, _, rfl, rfl, by rw [mid_len]; rfl, lt, fun t nt => ?_⟩
    have s1 : Same H _ := same_upd (o := .tup [.str (Txt.partition (ckT p st) " start ").1, .str (Txt.partition (ckT p st) " start ").2.1, .str (Txt.partition (ckT p st) " start ").2.2]) nt
    refine ⟨t, _, rfl, SqT.of upd_same, rfl, _, _, rfl, _, _, rfl, _, _, rfl, rfl, ?_⟩
    refine ⟨_, rfl, rfl, _, rfl, ?_⟩
    by_cases c : p = [true]
    · have est : st = [] := List.length_eq_zero_iff.mp (by have := ok.len; rw [c] at this; simpa using this)
      subst c est
      refine iteDT (by decide +kernel) ⟨rfl, mk_ck0 fun x H' s2 hx => k x H' (s1.trans s2) hx⟩
    · have e : Txt.partition (ckT p st) " start " = (W p, (" start " : Str), W st) := by
        unfold ckT
        rw [if_neg c]
        exact TL.partition_app mid_tl (no_sp p)
      refine iteDF (fun z => ckT_ne_1 c (V.str.inj z)) ?_
      generalize upd H t _ = H1 at s1
      rw [e]
      have np : p ≠ [] := fun z => by have := ok.hd; rw [z] at this; cases this
      have ns : st ≠ [] := fun z => by
        have h1 := ok.len
        have h2 := ok.hd
        rw [z] at h1
        cases p with
        | nil => cases h2
        | cons x r =>
          cases (Option.some.inj h2)
          have : r = [] := List.length_eq_zero_iff.mp (by simpa using h1.symm)
          exact c (by rw [this])
      have en : ∀ {l : List Bool}, l ≠ [] → ¬ V.str (W l) = V.str "" := fun h z => h (by rw [W_nil] at z; exact W_inj (V.str.inj z))
      refine ⟨_, rfl, rfl, _, rfl, iteDF (show ¬ V.str " start " = V.str "" by decide +kernel) ?_⟩
      refine ⟨_, rfl, _, rfl, .inl ⟨_, rfl, by show (W p).length ≤ _; rw [W_len]; omega, fun H2 s2 => ⟨_, rfl, iteBF (by show (!isW (W p)) = false; rw [isW_W]; rfl) ?_⟩⟩⟩
      refine ⟨_, rfl, _, rfl, .inl ⟨_, rfl, by show (W st).length ≤ _; rw [W_len]; omega, fun H3 s3 => ⟨_, rfl, iteBF (by show (!isW (W st)) = false; rw [isW_W]; rfl) ?_⟩⟩⟩
      refine ⟨_, rfl, rfl, _, rfl, iteDF (en np) ?_⟩
      refine ⟨_, rfl, rfl, _, rfl, iteDF (en ns) ?_⟩
      refine ⟨rfl, _, rfl, _, rfl, mk_ck2 ok h1 fun x H' s4 hx => k x H' (((s1.trans s2).trans s3).trans s4) hx⟩
end
end U

set_option maxRecDepth 100000
set_option maxHeartbeats 4000000
set_option pp.maxSteps 400
namespace U
open PySem PySem.Spec PyProof.Rows
open L2 hiding Fun CX0 E0 pass0 Fun.binds
open C8 Lx SX
/-! a check == a thing of another type; the law's text of a check -/
def spCkText : Sp := fun vs H Q _ => ∃ (c : Addr) (p s : List Bool), vs = [.ref c] ∧ H c = some (.tup [.str (W p), .str (W s)]) ∧ p.length ≤ 1000 ∧ s.length ≤ 1000 ∧ Q (.str (ckT p s)) H
def spCkEqX (K : PySem.W.Frag) (C : Addr) : Sp := fun vs H Q _ => ∃ (a : Addr) (b : V) (t : Value), vs = [.ref a, b] ∧ TyX K H b t ∧ PySem.W.kitOne K t (.ref C) = some false ∧ Q (.bl false) H
section
variable {P : Program} {w : World} {K : PySem.W.Frag} {mg : Str → Option Value} {base : Heap}

theorem met_Check_eqX {f C : Addr} {fd : FuncData} (F : C8.Fun K "__eq__" "Check.__eq__" s_Check_eq f fd) (me : Meth K C "__eq__" f) (b : Binds K fd ["self", "other"] []) (T : Tx mg) (CT : CkT K C) (g_Check : mg "Check" = some (.ref C))
    (c_Check_str : Met P w K mg base 1 C "__str__" (spCkStr C) []) : Met P w K mg base 4 C "__eq__" (spCkEqX K C) [] := by
  refine met0 CT.cl me F b sc_Check_eq (fun vs H Q E h => ?_) (fun cdv A outer s H vs Q E hr h => ?_)
  · obtain ⟨_, _, _, rfl, _⟩ := h; rfl
  · obtain ⟨a, b, t, rfl, hb, kn, k⟩ := h
    refine ⟨_, (pss_one (ps_ret (pe_and (pe_callB call_isi (by rfl) T.b_isinstance (by decide +kernel) (pa_cons (pv 1) (pa_cons (pe_glob (v := .ref C) (by rfl) g_Check rfl) pa_nil))) (pe_one (pe_cmpR op_eq (pe_callTy (call_str_own c_Check_str hr (by decide)) (by rfl) T.b_str (by decide +kernel) (pa_cons (pv 0) pa_nil)) (pe_callTy (call_str_own c_Check_str hr (by decide)) (by rfl) T.b_str (by decide +kernel) (pa_cons (pv 1) pa_nil)) (nomark _)))))), ?_⟩
    exact ⟨_, rfl, _, _, _, _, false, rfl, .own C, hb, kn, _, rfl, k⟩
theorem sc_l_check_text : FnScope ["_law_check_here"] ["_law_check_here"] (fnScope s_l_check_text) := fnScope_by (by decide +kernel)
theorem cal_l_check_text {f : Addr} {fd : FuncData} (F : Def K mg "_law_check_text" s_l_check_text f fd) (b : Binds K fd ["_law_check_here"] []) (T : Tx mg) : Cal P w K mg base 1 "_law_check_text" spCkText [] := by
  refine cal0 F b .nil sc_l_check_text (fun vs H Q E h => ?_) (fun cdv A outer s H vs Q E hr h => ?_)
  · obtain ⟨_, _, _, rfl, _⟩ := h; rfl
  · obtain ⟨c, p, st, rfl, hc, lp, ls, k⟩ := h
    refine ⟨_, (pss_one (ps_ret (pe_ifExp (pt_cmpR op_ne (pe_ix ix_tup (pv 0) pe_int (fun _ _ => rfl)) pe_str (nomark _)) (pe_op op_add_str (pe_op op_add_str (pe_ix ix_tup (pv 0) pe_int (fun _ _ => rfl)) pe_str) (pe_ix ix_tup (pv 0) pe_int (fun _ _ => rfl))) pe_str))), ?_⟩
    refine ⟨_, rfl, c, _, _, _, rfl, rfl, SqT.of hc, atI_nat (j := 0) rfl, rfl, _, rfl, ?_⟩
    unfold ckT at k
    by_cases e : p = [true]
    · rw [if_pos e, e] at k
      refine iteNS (by rw [e, W_1]) ?_
      show Q (.str "1") H
      rw [W_1]
      exact k
    · rw [if_neg e] at k
      refine iteNT (fun z => e (by rw [W_1] at z; exact W_inj (V.str.inj z))) ?_
      have l7 : (" start " : Str).length = 7 := by decide +kernel
      refine ⟨_, rfl, c, _, _, _, rfl, rfl, SqT.of hc, atI_nat (j := 0) rfl, _, _, rfl, rfl, by rw [W_len, l7]; exact sl_len (by omega), ?_⟩
      refine ⟨_, rfl, c, _, _, _, rfl, rfl, SqT.of hc, atI_nat (j := 1) rfl, _, _, rfl, rfl, by rw [len_cat, W_len, W_len, l7]; exact sl_len (by omega), k⟩
end
end U

set_option maxRecDepth 100000
set_option maxHeartbeats 4000000
set_option pp.maxSteps 700
namespace U
open PySem PySem.Spec PyProof.Rows
open L2 hiding Fun CX0 E0 pass0 Fun.binds
open C8 Lx SX
def spLaw (K : PySem.W.Frag) : Sp := fun vs H Q _ => ∃ (a : Addr) (ns : List Int), vs = [.ref a] ∧ SqL K H a (ns.map V.int) ∧ ns.length ≤ 63 ∧ ∀ H', Q (.bl true) H'
/-- the check ahead, or None -/
def BfOk (C : Addr) (H : Hp) (v : V) : Prop := v = .non ∨ ∃ x p s, v = .ref x ∧ CkAt C H x p s ∧ p.length ≤ 1000 ∧ s.length ≤ 1000
theorem sOk_W (l : List Bool) : PyData.strOk (W l) = true := by
  unfold PyData.strOk
  show ((l.map bt).toArray.all _) = true
  rw [List.all_toArray, List.all_map, List.all_eq_true]
  intro b _
  cases b <;> rfl
theorem two_lay (p s : List Bool) : PyData.canLay0 (.tuple [.str (W p), .str (W s)]) = true := by simp [PyData.canLay0, PyData.canLayAll0, sOk_W]
theorem two_shaped (p s : List Bool) : SeqAt.shaped (.tuple [.str (W p), .str (W s)]) = true := by
  unfold SeqAt.shaped
  rw [two_lay, Bool.true_and]
  exact decide_eq_true (by simp [PyData.depth, PyData.depthAll])
theorem two_eq (p s : List Bool) : (!PyData.eqv (.tuple [.str (W p), .str (W s)]) (.tuple [.str (W p), .str (W s)])) = false := by rw [SeqAt.eqv_refl _ (two_lay p s)]; rfl
theorem ckT_zs {p s : List Bool} (hl : s.length + 1 = p.length) : (ckT p (zs s.length) = ckT p s) ↔ ¬ true ∈ s := by
  constructor
  · intro h ht
    have e : zs s.length = s := by
      unfold ckT at h
      by_cases c : p = [true]
      · subst c
        have : s = [] := List.length_eq_zero_iff.mp (by simpa using hl)
        subst this
        rfl
      · rw [if_neg c, if_neg c] at h
        have h2 := congrArg TL.tl h
        have a1 : ∀ a b : Str, TL.tl (a ++ b) = TL.tl a ++ TL.tl b := TL.tl_append
        rw [a1, a1, a1, a1] at h2
        have h3 := List.append_cancel_left h2
        exact W_inj (TL.ext_tl h3)
    rw [← e] at ht
    unfold zs at ht
    rw [List.mem_replicate] at ht
    exact absurd ht.2 (by decide)
  · intro h
    rw [← zs_of_no h]
theorem has_1 (l : List Bool) : (49 ∈ (W l).cps.toList) ↔ true ∈ l := by
  show 49 ∈ TL.tl (W l) ↔ _
  show 49 ∈ l.map bt ↔ _
  rw [List.mem_map]
  constructor
  · rintro ⟨b, hb, e⟩
    cases b
    · exact absurd e (by decide)
    · exact hb
  · intro h
    exact ⟨true, h, by decide⟩
section
variable {P : Program} {w : World} {K : PySem.W.Frag} {mg : Str → Option Value} {base : Heap}
theorem sc_law : FnScope ["_law_script", "_law_k", "_law_box", "_law_before", "_law_turn", "_law_check_here", "_law_made", "_law_plain", "_law_is_same", "_law_lone"] ["_law_script"] (fnScope s_law) := fnScope_by (by decide +kernel)
theorem ok_law {f C : Addr} {fd : FuncData} (F : Def K mg "law" s_law f fd) (T : Tx mg) (CT : CkT K C) (NE_Check : NeT K C)
    (c_l_seed : Cal P w K mg base 1 "_law_seed" (spSeed K) []) (c_l_check : Cal P w K mg base 4 "_law_check" spCheck []) (c_l_check_text : Cal P w K mg base 1 "_law_check_text" spCkText [])
    (m_Check2 : Mak P w K mg base 2 "Check" C (spCkInit C) []) (m_Check1 : Mak P w K mg base 2 "Check" C (spCkInit C) [.non]) (m_Check0 : Mak P w K mg base 2 "Check" C (spCkInit C) [.str "1", .non]) (p_degree : Prp P w K mg base 1 C "degree" (spDegree C))
    (c_Check_str : Met P w K mg base 1 C "__str__" (spCkStr C) []) (c_Check_eq : Met P w K mg base 4 C "__eq__" (spCkEq C) []) (c_Check_eqX : Met P w K mg base 4 C "__eq__" (spCkEqX K C) [])
    (kon_str_check : PySem.W.kitOne K (.type "str") (.ref C) = some false) (kon_tuple_check : PySem.W.kitOne K (.type "tuple") (.ref C) = some false) (kon_none_check : PySem.W.kitOne K (.type "NoneType") (.ref C) = some false)
    (kon_sub_check_tuple : PySem.W.subIn K (.ref C) (.type "tuple") = some false) (kon_sub_check_none : PySem.W.subIn K (.ref C) (.type "NoneType") = some false) (kon_nf_check_str : PySem.W.notFirst K C (.type "str") = true) :
    FnOk P w K mg base CX0 6 f fd ["_law_script"] (spLaw K) := by
  refine fn0 F.fn sc_law (fun vs H Q E h => ?_) (fun cdv A outer s H vs Q E hr h => ?_)
  · obtain ⟨_, _, rfl, _⟩ := h; rfl
  · obtain ⟨a, ns, rfl, hS, hlen, k⟩ := h
    refine ⟨_, (pss_cons (ps_for PassesOwn.never rfl (pi_range1 (by rfl) T.b_range (pa_cons (pe_callB (call_max2 rfl) (by rfl) T.b_max (by decide +kernel) (pa_cons pe_int (pa_cons (pe_callB (call_min2 rfl) (by rfl) T.b_min (by decide +kernel) (pa_cons pe_int (pa_cons (pe_callB call_len_seq (by rfl) T.b_len (by decide +kernel) (pa_cons (pv 0) pa_nil)) pa_nil))) pa_nil))) pa_nil)) (pg_name (i := 1) sc_law.nd rfl (.inl rfl))
    (pss_cons (ps_par (i := 2) (j := 3) (by rfl) sc_law.nd rfl rfl (by decide) rfl rfl (pa_cons (pe_c c_l_seed hr (by decide) rfl (pa_cons (pv 0) (pa_cons (pv 1) pa_nil))) (pa_cons pe_non pa_nil)) (by rfl))
    (pss_one (ps_for PassesOwn.never rfl (pi_range1 (by rfl) T.b_range (pa_cons pe_int pa_nil)) (pg_name (i := 4) sc_law.nd rfl (.inl rfl))
    (pss_cons (ps_set (i := 5) sc_law.nd rfl (.inl rfl) (pe_c c_l_check hr (by decide) rfl (pa_cons (pv 2) (pa_cons pe_int pa_nil))))
    (pss_cons (ps_set (i := 6) sc_law.nd rfl (.inl rfl) (pe_mk m_Check2 hr (by decide) rfl (pa_cons (pe_ix ix_tup (pv 5) pe_int (fun _ _ => rfl)) (pa_cons (pe_ix ix_tup (pv 5) pe_int (fun _ _ => rfl)) pa_nil))))
    (pss_cons (ps_if (PW.pt (pw_or (pt_cmpR (op_neD hr.units) (pe_tup (pa_cons (pe_fld (pv 6) rfl) (pa_cons (pe_fld (pv 6) rfl) pa_nil))) (pv 5) (nomark _)) (pw_or1 (pt_cmpR op_ne (pe_pr p_degree hr (by decide) (pv 6)) (pe_callB call_len_str (by rfl) T.b_len (by decide +kernel) (pa_cons (pe_ix ix_tup (pv 5) pe_int (fun _ _ => rfl)) pa_nil)) (nomark _))))) (pss_one (ps_ret pe_bl)) pss_nil)
    (pss_cons (ps_if (pt_cmpR op_ne (pe_callTy (call_str_own c_Check_str hr (by decide)) (by rfl) T.b_str (by decide +kernel) (pa_cons (pv 6) pa_nil)) (pe_c c_l_check_text hr (by decide) rfl (pa_cons (pv 5) pa_nil)) (nomark _)) (pss_one (ps_ret pe_bl)) pss_nil)
    (pss_cons (ps_set (i := 7) sc_law.nd rfl (.inl rfl) (pe_mk m_Check1 hr (by decide) rfl (pa_cons (pe_ix ix_tup (pv 5) pe_int (fun _ _ => rfl)) pa_nil)))
    (pss_cons (ps_if (PW.pt (pw_or (pt_cmpR op_ne (pe_fld (pv 7) rfl) (pe_op op_rep_str pe_str (pe_callB call_len_str (by rfl) T.b_len (by decide +kernel) (pa_cons (pe_ix ix_tup (pv 5) pe_int (fun _ _ => rfl)) pa_nil))) (nomark _)) (pw_or1 (pt_cmpR op_ne (pe_cmpR (op_eqOwn c_Check_eq hr (by decide)) (pv 7) (pv 6) (nomark _)) (pe_cmpR op_notIn_sign pe_str (pe_ix ix_tup (pv 5) pe_int (fun _ _ => rfl)) (by with_unfolding_all rfl)) (nomark _))))) (pss_one (ps_ret pe_bl)) pss_nil)
    (pss_cons (ps_if (PW.pt (pw_or (pt_cmpR (op_eqX c_Check_eqX kon_nf_check_str hr (by decide)) (pv 6) (pe_callTy (call_str_own c_Check_str hr (by decide)) (by rfl) T.b_str (by decide +kernel) (pa_cons (pv 6) pa_nil)) (nomark _)) (pw_or (pt_cmpR (op_in2 c_Check_eqX kon_sub_check_tuple kon_sub_check_none hr (by decide)) (pv 6) (pe_tup (pa_cons (pv 5) (pa_cons pe_non pa_nil))) (by with_unfolding_all rfl)) (pw_or1 (pt_cmpR (op_neOwn c_Check_eq NE_Check hr (by decide)) (pv 6) (pe_mk m_Check2 hr (by decide) rfl (pa_cons (pe_ix ix_tup (pv 5) pe_int (fun _ _ => rfl)) (pa_cons (pe_ix ix_tup (pv 5) pe_int (fun _ _ => rfl)) pa_nil))) (nomark _)))))) (pss_one (ps_ret pe_bl)) pss_nil)
    (pss_cons (ps_if (pt_cmpR op_notN (pv 3) pe_non (nomark _)) (pss_cons (ps_set (i := 8) sc_law.nd rfl (.inl rfl) (pe_cmpR op_eq (pe_callTy (call_str_own c_Check_str hr (by decide)) (by rfl) T.b_str (by decide +kernel) (pa_cons (pv 3) pa_nil)) (pe_callTy (call_str_own c_Check_str hr (by decide)) (by rfl) T.b_str (by decide +kernel) (pa_cons (pv 6) pa_nil)) (nomark _)))
    (pss_one (ps_if (PW.pt (pw_or (pt_cmpR op_ne (pe_cmpR (op_eqOwn c_Check_eq hr (by decide)) (pv 3) (pv 6) (nomark _)) (pv 8) (nomark _)) (pw_or1 (pt_cmpR op_eq (pe_cmpR (op_neOwn c_Check_eq NE_Check hr (by decide)) (pv 3) (pv 6) (nomark _)) (pv 8) (nomark _))))) (pss_one (ps_ret pe_bl)) pss_nil))) pss_nil)
    (pss_one (ps_set (i := 3) sc_law.nd rfl (.inl rfl) (pv 6)))))))))))))))
    (pss_cons (ps_set (i := 9) sc_law.nd rfl (.inl rfl) (pe_mk0 m_Check0 hr (by decide) rfl))
    (pss_one (ps_ret (pe_and (pe_cmpR (op_eqD hr.units) (pe_tup (pa_cons (pe_fld (pv 9) rfl) (pa_cons (pe_fld (pv 9) rfl) (pa_cons (pe_pr p_degree hr (by decide) (pv 9)) (pa_cons (pe_callTy (call_str_own c_Check_str hr (by decide)) (by rfl) T.b_str (by decide +kernel) (pa_cons (pv 9) pa_nil)) pa_nil))))) (pe_tup (pa_cons pe_str (pa_cons pe_str (pa_cons pe_int (pa_cons pe_str pa_nil))))) (nomark _)) (pe_one (pe_cmpR (op_eqOwn c_Check_eq hr (by decide)) (pv 9) (pe_mk m_Check2 hr (by decide) rfl (pa_cons pe_str (pa_cons pe_str pa_nil))) (nomark _)))))))), ?_⟩
    refine ⟨_, rfl, a, _, rfl, .inl hS, _, _, rfl, _, _, rfl, _, rfl, by split <;> split <;> omega, by rw [List.length_map]; split <;> split <;> omega, ?_⟩
    refine for_it walk_range (fun i σ H2 => ∃ v1 v2 v3 v4 v5 v6 v7 v8 v9 : Option V, σ = [some (.ref a), v1, v2, v3, v4, v5, v6, v7, v8, v9] ∧ Same H H2) ⟨_, _, _, _, _, _, _, _, _, rfl, Same.refl _⟩ (fun _ _ _ _ _ => trivial) ?_ ?_
    · rintro i x σ H2' H2 hi ⟨v1, v2, v3, v4, v5, v6, v7, v8, v9, rfl, s2⟩ ⟨rfl, rfl⟩
      refine ⟨_, rfl, _, rfl, a, ns, i, (by show [V.ref a, V.int (0 + (i : Int))] = _; rw [Int.zero_add]), s2.seq hS, fun bx H1 nb s1 hb => ?_⟩
      refine ⟨_, _, rfl, ?_⟩
      refine ⟨_, rfl, by decide, by decide, for_it walk_range (fun j σ H3 => ∃ bf : V, (∃ v1 v4 v5 v6 v7 v8 v9 : Option V, σ = [some (.ref a), v1, some (.ref bx), some (bf), v4, v5, v6, v7, v8, v9]) ∧ Up bx H1 H3 ∧ BfOk C H3 bf) ⟨.non, ⟨_, _, _, _, _, _, _, rfl⟩, Up.refl hb, .inl rfl⟩ (fun _ _ _ _ _ => trivial) ?_ ?_⟩
      · rintro j y σ H3' H3 hj ⟨bf, ⟨v1, v4, v5, v6, v7, v8, v9, rfl⟩, u3, hbf⟩ ⟨rfl, rfl⟩
        refine ⟨_, rfl, bx, 4, rfl, u3.2, by decide, fun t p st H4 nt u4 ht ok hst => ?_⟩
        have hlen' := ok.len
        refine ⟨_, rfl, t, _, _, _, rfl, rfl, SqT.of ht, atI_nat (j := 0) rfl, _, rfl, t, _, _, _, rfl, rfl, SqT.of ht, atI_nat (j := 1) rfl, mk_ck2 ok (by omega) fun x H5 s5 hx => ?_⟩
        have u5 := (u3.trans u4).same s5
        have ht5 := s5 _ _ ht
        obtain ⟨dx, hx'⟩ := id hx
        refine ⟨_, rfl, x, C, dx, _, _, rfl, hx', CT.cl, CT.nP, ckF_poly _ _, _, rfl, x, C, dx, _, _, rfl, hx', CT.cl, CT.nS, ckF_start _ _, by show 2 ≤ sizeLine; decide, fun q nq => ?_⟩
        have s6 := same_upd (o := .tup [.str (W p), .str (W st)]) nq
        have ht6 := s6 _ _ ht5
        have dT : Dp K (upd H5 q (.tup [.str (W p), .str (W st)])) (.ref t) (.tuple [.str (W p), .str (W st)]) := .tup (SqT.of ht6) (.cons (.str _) (.cons (.str _) .nil))
        refine ⟨_, rfl, _, _, .tup (SqT.of upd_same) (.cons (.str _) (.cons (.str _) .nil)), dT, two_shaped _ _, two_shaped _ _, _, rfl, iteBF (two_eq _ _) ?_⟩
        have hx6 := hx.same s6
        have u6 := u5.same s6
        clear dT
        generalize upd H5 q (.tup [.str (W p), .str (W st)]) = H6 at s6 ht6 hx6 u6 ⊢
        obtain ⟨dx6, hx6'⟩ := id hx6
        have tT : ∀ {p q r s : List Bool}, ckT p q = ckT r s → (!decide (ckT p q = ckT r s)) = false := fun h => by rw [decide_eq_true h]; rfl
        have ls : (W st).length ≤ sizeLine := by rw [W_len]; exact sl_len (by omega)
        -- degree
        refine ⟨_, rfl, x, dx6, _, rfl, hx6', x, p, st, rfl, hx6, by omega, hlen', _, rfl, t, _, _, _, rfl, rfl, SqT.of ht6, atI_nat (j := 1) rfl, _, rfl, ls, rfl, _, rfl, iteNS (by rw [W_len]) ?_⟩
        -- the text
        refine ⟨_, rfl, x, dx6, _, rfl, hx6', x, p, st, rfl, hx6, by omega, by omega, _, rfl, _, rfl, t, p, st, rfl, ht6, by omega, by omega, rfl, _, rfl, iteNS rfl ?_⟩
        -- without a start
        refine ⟨_, rfl, t, _, _, _, rfl, rfl, SqT.of ht6, atI_nat (j := 0) rfl, mk_ck1 ok (by omega) fun y H7 s7 hy => ?_⟩
        have hx7 := hx6.same s7
        have ht7 := s7 _ _ ht6
        have u7 := u6.same s7
        obtain ⟨dx7, hx7'⟩ := id hx7
        obtain ⟨dy, hy'⟩ := id hy
        have lw : (W st).length = st.length := W_len _
        have l0 : ("0" : Str).length = 1 := by decide +kernel
        refine ⟨_, rfl, y, C, dy, _, _, rfl, hy', CT.cl, CT.nS, ckF_start _ _, _, rfl, t, _, _, _, rfl, rfl, SqT.of ht7, atI_nat (j := 1) rfl, _, rfl, ls, _, _, rfl, rfl, by omega, by omega, by rw [l0]; omega, rfl, _, rfl, iteNS (by rw [mul_0, W_len]; rfl) ?_⟩
        refine ⟨_, rfl, _, rfl, y, x, dy, dx7, _, _, rfl, rfl, hy', hx7', y, x, p, zs st.length, p, st, rfl, hy, by omega, by rw [zs_len]; omega, hx7, by omega, by omega, _, rfl, ?_⟩
        refine ⟨_, rfl, t, _, _, _, rfl, rfl, SqT.of ht7, atI_nat (j := 1) rfl, 49, _, rfl, rfl, rfl, _, rfl, iteNS ?_ ?_⟩
        · congr 1
          rw [Bool.eq_iff_iff, Bool.not_eq_true', decide_eq_true_iff, decide_eq_false_iff_not, ckT_zs hlen', has_1]
        -- to other things
        refine ⟨_, rfl, _, rfl, x, dx7, _, rfl, hx7', x, p, st, rfl, hx7, by omega, by omega, _, rfl, x, dx7, _, _, rfl, rfl, hx7', x, _, _, rfl, .base (.str _), kon_str_check, _, rfl, _, rfl, iteBF rfl ?_⟩
        have nxt : t ≠ x := ne_of ht7 hx7' (fun z => nomatch z)
        refine ⟨_, rfl, _, rfl, by show 2 ≤ sizeLine; decide, fun q2 nq2 => ?_⟩
        have s8 := same_upd (o := .tup [.ref t, .non]) nq2
        have hx8 := hx7.same s8
        have ht8 := s8 _ _ ht7
        have u8 := u7.same s8
        obtain ⟨dx8, hx8'⟩ := id hx8
        refine ⟨x, q2, t, dx8, _, _, rfl, rfl, hx8', upd_same, SqT.of ht8, nxt, x, _, _, rfl, .base (.tup ht8), kon_tuple_check, rfl, hx8', x, _, _, rfl, .base .non, kon_none_check, rfl, _, rfl, iteBF rfl ?_⟩
        generalize upd H7 q2 (.tup [.ref t, .non]) = H8 at s8 hx8 ht8 u8 hx8' ⊢
        refine ⟨_, rfl, _, rfl, t, _, _, _, rfl, rfl, SqT.of ht8, atI_nat (j := 0) rfl, _, rfl, t, _, _, _, rfl, rfl, SqT.of ht8, atI_nat (j := 1) rfl, mk_ck2 ok (by omega) fun z H9 s9 hz => ?_⟩
        obtain ⟨dz, hz'⟩ := id hz
        have hx9 := hx8.same s9
        have u9 := u8.same s9
        obtain ⟨dx9, hx9'⟩ := id hx9
        refine ⟨x, z, dx9, dz, _, _, rfl, rfl, hx9', hz', x, z, p, st, p, st, rfl, hx9, by omega, by omega, hz, by omega, by omega, _, rfl, _, rfl, iteBF (tT rfl) ?_⟩
        refine ⟨_, rfl, rfl, _, rfl, ?_⟩
        have u19 : Up bx H1 H9 := u9
        rcases hbf with rfl | ⟨x0, p0, s0, rfl, hx0, lp0, ls0⟩
        · refine iteNS rfl ?_
          exact ⟨_, rfl, _, ⟨_, _, _, _, _, _, _, rfl⟩, u19, .inr ⟨x, p, st, rfl, hx9, by omega, by omega⟩⟩
        · refine iteNT (fun z => nomatch z) ?_
          have n39 : NL H3 H9 := ((((((u4.nl u3.2).trans (NL.of s5)).trans (NL.of s6)).trans (NL.of s7)).trans (NL.of s8)).trans (NL.of s9))
          have hx09 := hx0.nl n39
          obtain ⟨d0, hx09'⟩ := id hx09
          refine ⟨_, rfl, x0, d0, _, rfl, hx09', x0, p0, s0, rfl, hx09, lp0, ls0, _, rfl, _, rfl, x, dx9, _, rfl, hx9', x, p, st, rfl, hx9, by omega, by omega, _, rfl, rfl, ?_⟩
          refine ⟨_, rfl, _, rfl, x0, x, d0, dx9, _, _, rfl, rfl, hx09', hx9', x0, x, p0, s0, p, st, rfl, hx09, lp0, ls0, hx9, by omega, by omega, _, rfl, _, rfl, rfl, _, rfl, iteNS ?_ ?_⟩
          · congr 1
            rw [decide_eq_decide]
            exact ⟨fun e => by rw [e], fun e => V.str.inj e⟩
          refine ⟨_, rfl, _, rfl, x0, x, d0, dx9, _, _, rfl, rfl, hx09', hx9', x0, x, p0, s0, p, st, rfl, hx09, lp0, ls0, hx9, by omega, by omega, _, rfl, _, rfl, rfl, _, rfl, iteDF ?_ ?_⟩
          · have e : decide (V.str (ckT p0 s0) = V.str (ckT p st)) = decide (ckT p0 s0 = ckT p st) := by
              rw [decide_eq_decide]
              exact ⟨fun e => V.str.inj e, fun e => by rw [e]⟩
            rw [e]
            cases decide (ckT p0 s0 = ckT p st) <;> exact fun z => nomatch z
          exact ⟨_, rfl, _, ⟨_, _, _, _, _, _, _, rfl⟩, u19, .inr ⟨x, p, st, rfl, hx9, by omega, by omega⟩⟩
      · rintro σ H3 ⟨bf, ⟨v1, v4, v5, v6, v7, v8, v9, rfl⟩, u3, _⟩
        exact ⟨_, _, _, _, _, _, _, _, _, rfl, fun c o e => u3.1 c o (s1 _ _ (s2 _ _ e)) (ne_of_none (s2 _ _ e) nb)⟩
    · rintro σ H2 ⟨v1, v2, v3, v4, v5, v6, v7, v8, v9, rfl, s2⟩
      refine mk_ck0 fun z H3 s3 hz => ?_
      obtain ⟨dz, hz'⟩ := id hz
      refine ⟨_, rfl, z, C, dz, _, _, rfl, hz', CT.cl, CT.nP, ckF_poly _ _, _, rfl, z, C, dz, _, _, rfl, hz', CT.cl, CT.nS, ckF_start _ _, ?_⟩
      refine ⟨_, rfl, z, dz, _, rfl, hz', z, _, _, rfl, hz, by decide, rfl, ?_⟩
      refine ⟨_, rfl, z, dz, _, rfl, hz', z, _, _, rfl, hz, by decide, by decide, _, rfl, by show 4 ≤ sizeLine; decide, fun q nq => ?_⟩
      refine ⟨by show 4 ≤ sizeLine; decide, fun q2 nq2 => ?_⟩
      have hc2 := ((hz.same (same_upd (o := .tup [V.str (W [true]), V.str (W []), V.int 0, V.str (ckT [true] [])]) nq)).same (same_upd (o := .tup [V.str "1", V.str "", V.int 0, V.str "1"]) nq2))
      obtain ⟨dc2, hc2'⟩ := id hc2
      refine ⟨.tuple [.str (W [true]), .str (W []), .int 0, .str (ckT [true] [])], .tuple [.str "1", .str "", .int 0, .str "1"], .tup (SqT.of (same_upd nq2 _ _ upd_same)) (.cons (.str _) (.cons (.str _) (.cons (.int _) (.cons (.str _) .nil)))), .tup (SqT.of upd_same) (.cons (.str _) (.cons (.str _) (.cons (.int _) (.cons (.str _) .nil)))), by decide +kernel, by decide +kernel, _, rfl, iteBT (by decide +kernel) ?_⟩
      refine ⟨_, rfl, ?_⟩
      have e1 : ("1" : Str) = W [true] := by decide +kernel
      have e2 : ("" : Str) = W [] := by decide +kernel
      have mk : ∀ {H : Hp} {R : Addr → Hp → Prop} {E : XK}, (∀ x H', Same H H' → CkAt C H' x [true] [] → R x H') → ∀ x dx, H x = none → H dx = none → dx ≠ x → spCkInit C [.ref x, .str "1", .str ""] (upd (upd H dx (.own x)) x (.ins C dx [])) (fun v H2 => v = .non ∧ R x H2) E := fun {H R E} kk => by
        rw [e1, e2]
        exact mk_ck2 ⟨rfl, rfl, rfl⟩ (by decide) kk
      refine mk fun z2 H4 s4 hz2 => ?_
      obtain ⟨dz2, hz2'⟩ := id hz2
      refine ⟨z, z2, dc2, dz2, _, _, rfl, rfl, s4 _ _ hc2', hz2', z, z2, [true], [], [true], [], rfl, hc2.same s4, by decide, by decide, hz2, by decide, by decide, true, rfl, ?_⟩
      exact k H4
end
end U

set_option maxRecDepth 100000
set_option maxHeartbeats 4000000
namespace U
open PySem PySem.Spec PyProof.Rows
open L2 hiding Fun CX0 E0 pass0 Fun.binds
open C8 Lx
theorem all_mk {l : PySem.W.OpenLaw} {w : World} {K : PySem.W.Frag} {h : Heap} {mg : Str → Option Value} {fa : Addr} (X : K.In h) (G : h.Ns mainGlobals mg) (hfa : mg "law" = some (.ref fa))
    {f_is_word : Addr} {od_is_word an_is_word : Option Addr} {sl_is_word : Array (Option Value)} {oc_is_word kV_is_word dc_is_word pm_is_word cd_is_word ct_is_word : Value}
    {f_l_seed : Addr} {od_l_seed an_l_seed : Option Addr} {sl_l_seed : Array (Option Value)} {oc_l_seed kV_l_seed dc_l_seed pm_l_seed cd_l_seed ct_l_seed : Value}
    {f_l_choose : Addr} {od_l_choose an_l_choose : Option Addr} {sl_l_choose : Array (Option Value)} {oc_l_choose kV_l_choose dc_l_choose pm_l_choose cd_l_choose ct_l_choose : Value}
    {f_l_one_of : Addr} {od_l_one_of an_l_one_of : Option Addr} {sl_l_one_of : Array (Option Value)} {oc_l_one_of kV_l_one_of dc_l_one_of pm_l_one_of cd_l_one_of ct_l_one_of : Value}
    {f_l_word : Addr} {od_l_word an_l_word : Option Addr} {sl_l_word : Array (Option Value)} {oc_l_word kV_l_word dc_l_word pm_l_word cd_l_word ct_l_word : Value}
    {f_l_check : Addr} {od_l_check an_l_check : Option Addr} {sl_l_check : Array (Option Value)} {oc_l_check kV_l_check dc_l_check pm_l_check cd_l_check ct_l_check : Value}
    {f_l_check_text : Addr} {od_l_check_text an_l_check_text : Option Addr} {sl_l_check_text : Array (Option Value)} {oc_l_check_text kV_l_check_text dc_l_check_text pm_l_check_text cd_l_check_text ct_l_check_text : Value}
    {f_law : Addr} {od_law an_law : Option Addr} {sl_law : Array (Option Value)} {oc_law kV_law dc_law pm_law cd_law ct_law : Value}
    {C_Check : Addr}
    {f_Check_init : Addr} {od_Check_init an_Check_init : Option Addr} {sl_Check_init : Array (Option Value)} {oc_Check_init kV_Check_init dc_Check_init pm_Check_init cd_Check_init ct_Check_init : Value}
    {dT_Check_init : Addr} {dd_Check_init : Option Addr} {dn_Check_init : Nat} {ds_Check_init : Array (Option Value)} {tD : Tok}
    {f_Check_degree : Addr} {od_Check_degree an_Check_degree : Option Addr} {sl_Check_degree : Array (Option Value)} {oc_Check_degree kV_Check_degree dc_Check_degree pm_Check_degree cd_Check_degree ct_Check_degree : Value}
    {p_Check_degree : Addr} {pr_Check_degree : List Value}
    {f_Check_str : Addr} {od_Check_str an_Check_str : Option Addr} {sl_Check_str : Array (Option Value)} {oc_Check_str kV_Check_str dc_Check_str pm_Check_str cd_Check_str ct_Check_str : Value}
    {f_Check_eq : Addr} {od_Check_eq an_Check_eq : Option Addr} {sl_Check_eq : Array (Option Value)} {oc_Check_eq kV_Check_eq dc_Check_eq pm_Check_eq cd_Check_eq ct_Check_eq : Value}
    {tB : Tok}
    {tM : Tok}
    (a_is_word : PySem.W.nsIn K mainGlobals "is_word" = some (some (.ref f_is_word)))
    (l_is_word : K.lookup f_is_word = some ⟨oc_is_word, od_is_word, .func (PySem.W.fnOf "is_word" "is_word" (fnArgs s_is_word) (fnBody s_is_word) (fnScope s_is_word) .none kV_is_word dc_is_word pm_is_word an_is_word cd_is_word ct_is_word), sl_is_word⟩)
    (c_is_word : PySem.W.codeIn K cd_is_word "is_word" = true)
    (k_is_word : PySem.W.keepIn K (.ref f_is_word) = true)
    (a_l_seed : PySem.W.nsIn K mainGlobals "_law_seed" = some (some (.ref f_l_seed)))
    (l_l_seed : K.lookup f_l_seed = some ⟨oc_l_seed, od_l_seed, .func (PySem.W.fnOf "_law_seed" "_law_seed" (fnArgs s_l_seed) (fnBody s_l_seed) (fnScope s_l_seed) .none kV_l_seed dc_l_seed pm_l_seed an_l_seed cd_l_seed ct_l_seed), sl_l_seed⟩)
    (c_l_seed : PySem.W.codeIn K cd_l_seed "_law_seed" = true)
    (k_l_seed : PySem.W.keepIn K (.ref f_l_seed) = true)
    (a_l_choose : PySem.W.nsIn K mainGlobals "_law_choose" = some (some (.ref f_l_choose)))
    (l_l_choose : K.lookup f_l_choose = some ⟨oc_l_choose, od_l_choose, .func (PySem.W.fnOf "_law_choose" "_law_choose" (fnArgs s_l_choose) (fnBody s_l_choose) (fnScope s_l_choose) .none kV_l_choose dc_l_choose pm_l_choose an_l_choose cd_l_choose ct_l_choose), sl_l_choose⟩)
    (c_l_choose : PySem.W.codeIn K cd_l_choose "_law_choose" = true)
    (k_l_choose : PySem.W.keepIn K (.ref f_l_choose) = true)
    (a_l_one_of : PySem.W.nsIn K mainGlobals "_law_one_of" = some (some (.ref f_l_one_of)))
    (l_l_one_of : K.lookup f_l_one_of = some ⟨oc_l_one_of, od_l_one_of, .func (PySem.W.fnOf "_law_one_of" "_law_one_of" (fnArgs s_l_one_of) (fnBody s_l_one_of) (fnScope s_l_one_of) .none kV_l_one_of dc_l_one_of pm_l_one_of an_l_one_of cd_l_one_of ct_l_one_of), sl_l_one_of⟩)
    (c_l_one_of : PySem.W.codeIn K cd_l_one_of "_law_one_of" = true)
    (k_l_one_of : PySem.W.keepIn K (.ref f_l_one_of) = true)
    (a_l_word : PySem.W.nsIn K mainGlobals "_law_word" = some (some (.ref f_l_word)))
    (l_l_word : K.lookup f_l_word = some ⟨oc_l_word, od_l_word, .func (PySem.W.fnOf "_law_word" "_law_word" (fnArgs s_l_word) (fnBody s_l_word) (fnScope s_l_word) .none kV_l_word dc_l_word pm_l_word an_l_word cd_l_word ct_l_word), sl_l_word⟩)
    (c_l_word : PySem.W.codeIn K cd_l_word "_law_word" = true)
    (k_l_word : PySem.W.keepIn K (.ref f_l_word) = true)
    (a_l_check : PySem.W.nsIn K mainGlobals "_law_check" = some (some (.ref f_l_check)))
    (l_l_check : K.lookup f_l_check = some ⟨oc_l_check, od_l_check, .func (PySem.W.fnOf "_law_check" "_law_check" (fnArgs s_l_check) (fnBody s_l_check) (fnScope s_l_check) .none kV_l_check dc_l_check pm_l_check an_l_check cd_l_check ct_l_check), sl_l_check⟩)
    (c_l_check : PySem.W.codeIn K cd_l_check "_law_check" = true)
    (k_l_check : PySem.W.keepIn K (.ref f_l_check) = true)
    (a_l_check_text : PySem.W.nsIn K mainGlobals "_law_check_text" = some (some (.ref f_l_check_text)))
    (l_l_check_text : K.lookup f_l_check_text = some ⟨oc_l_check_text, od_l_check_text, .func (PySem.W.fnOf "_law_check_text" "_law_check_text" (fnArgs s_l_check_text) (fnBody s_l_check_text) (fnScope s_l_check_text) .none kV_l_check_text dc_l_check_text pm_l_check_text an_l_check_text cd_l_check_text ct_l_check_text), sl_l_check_text⟩)
    (c_l_check_text : PySem.W.codeIn K cd_l_check_text "_law_check_text" = true)
    (k_l_check_text : PySem.W.keepIn K (.ref f_l_check_text) = true)
    (a_law : PySem.W.nsIn K mainGlobals "law" = some (some (.ref f_law)))
    (l_law : K.lookup f_law = some ⟨oc_law, od_law, .func (PySem.W.fnOf "law" "law" (fnArgs s_law) (fnBody s_law) (fnScope s_law) .none kV_law dc_law pm_law an_law cd_law ct_law), sl_law⟩)
    (c_law : PySem.W.codeIn K cd_law "law" = true)
    (k_law : PySem.W.keepIn K (.ref f_law) = true)
    (aC_Check : PySem.W.nsIn K mainGlobals "Check" = some (some (.ref C_Check)))
    (pg_Check : PySem.W.plainGet K C_Check Str.empty = true)
    (hd_Check : PySem.W.hasDictIn K C_Check = true)
    (po_Check : PySem.W.plainOver K C_Check = true)
    (sa_Check : PySem.W.findIn K (.ref C_Check) "__setattr__" = some (some (.builtin "object.__setattr__")))
    (mk_Check : PySem.W.makesIn K C_Check = true)
    (kc_Check : PySem.W.keepIn K (.ref C_Check) = true)
    (n_Check_poly : PySem.W.findIn K (.ref C_Check) "poly" = some none)
    (n_Check_start : PySem.W.findIn K (.ref C_Check) "start" = some none)
    (a_Check_init : PySem.W.findIn K (.ref C_Check) "__init__" = some (some (.ref f_Check_init)))
    (i_Check_init : PySem.W.isFn K (.ref f_Check_init) = true)
    (l_Check_init : K.lookup f_Check_init = some ⟨oc_Check_init, od_Check_init, .func (PySem.W.fnOf "__init__" "Check.__init__" (fnArgs s_Check_init) (fnBody s_Check_init) (fnScope s_Check_init) (.ref dT_Check_init) kV_Check_init dc_Check_init pm_Check_init an_Check_init cd_Check_init ct_Check_init), sl_Check_init⟩)
    (c_Check_init : PySem.W.codeIn K cd_Check_init "Check.__init__" = true)
    (k_Check_init : PySem.W.keepIn K (.ref f_Check_init) = true)
    (dl_Check_init : K.lookup dT_Check_init = some ⟨.type "tuple", dd_Check_init, .seq #[.str "1" tD, .none] dn_Check_init, ds_Check_init⟩)
    (a_Check_degree : PySem.W.findIn K (.ref C_Check) "degree" = some (some (.ref p_Check_degree)))
    (g_Check_degree : PySem.W.specialIn K (.ref p_Check_degree) "__get__" = some (some (.builtin "property.__get__")))
    (t_Check_degree : PySem.W.takesIn K (.ref p_Check_degree) = some true)
    (r_Check_degree : PySem.W.recIn K p_Check_degree "property" = some (.ref f_Check_degree :: pr_Check_degree))
    (l_Check_degree : K.lookup f_Check_degree = some ⟨oc_Check_degree, od_Check_degree, .func (PySem.W.fnOf "degree" "Check.degree" (fnArgs s_Check_degree) (fnBody s_Check_degree) (fnScope s_Check_degree) .none kV_Check_degree dc_Check_degree pm_Check_degree an_Check_degree cd_Check_degree ct_Check_degree), sl_Check_degree⟩)
    (c_Check_degree : PySem.W.codeIn K cd_Check_degree "Check.degree" = true)
    (a_Check_str : PySem.W.findIn K (.ref C_Check) "__str__" = some (some (.ref f_Check_str)))
    (i_Check_str : PySem.W.isFn K (.ref f_Check_str) = true)
    (l_Check_str : K.lookup f_Check_str = some ⟨oc_Check_str, od_Check_str, .func (PySem.W.fnOf "__str__" "Check.__str__" (fnArgs s_Check_str) (fnBody s_Check_str) (fnScope s_Check_str) .none kV_Check_str dc_Check_str pm_Check_str an_Check_str cd_Check_str ct_Check_str), sl_Check_str⟩)
    (c_Check_str : PySem.W.codeIn K cd_Check_str "Check.__str__" = true)
    (k_Check_str : PySem.W.keepIn K (.ref f_Check_str) = true)
    (a_Check_eq : PySem.W.findIn K (.ref C_Check) "__eq__" = some (some (.ref f_Check_eq)))
    (i_Check_eq : PySem.W.isFn K (.ref f_Check_eq) = true)
    (l_Check_eq : K.lookup f_Check_eq = some ⟨oc_Check_eq, od_Check_eq, .func (PySem.W.fnOf "__eq__" "Check.__eq__" (fnArgs s_Check_eq) (fnBody s_Check_eq) (fnScope s_Check_eq) .none kV_Check_eq dc_Check_eq pm_Check_eq an_Check_eq cd_Check_eq ct_Check_eq), sl_Check_eq⟩)
    (c_Check_eq : PySem.W.codeIn K cd_Check_eq "Check.__eq__" = true)
    (k_Check_eq : PySem.W.keepIn K (.ref f_Check_eq) = true)
    (mro_Check : PySem.W.mroIn K C_Check (.type "object") = some true)
    (neq_Check : PySem.W.findIn K (.ref C_Check) "__ne__" = some (some (.builtin "object.__ne__")))
    (gBITS : PySem.W.nsIn K mainGlobals "BITS" = some (some (.str "01" tB)))
    (gMIDDLE : PySem.W.nsIn K mainGlobals "MIDDLE" = some (some (.str " start " tM)))
    (cls_Check : PySem.W.findIn K (.ref C_Check) "__class__" = some (some (.builtin "object.__class__")))
    (clg_X : PySem.W.specialIn K (.builtin "object.__class__") "__get__" = some (some (.builtin "getset_descriptor.__get__")))
    (clt_X : PySem.W.takesIn K (.builtin "object.__class__") = some true)
    (kon_strc : PySem.W.kitOne K (.type "str") (.ref C_Check) = some false)
    (kon_tuplec : PySem.W.kitOne K (.type "tuple") (.ref C_Check) = some false)
    (kon_nonec : PySem.W.kitOne K (.type "NoneType") (.ref C_Check) = some false)
    (kon_sbctuple : PySem.W.subIn K (.ref C_Check) (.type "tuple") = some false)
    (kon_sbcnone : PySem.W.subIn K (.ref C_Check) (.type "NoneType") = some false)
    (kon_nfcs : PySem.W.notFirst K C_Check (.type "str") = true)
    (z_len : PySem.W.nsIn K mainGlobals "len" = some none)
    (z_abs : PySem.W.nsIn K mainGlobals "abs" = some none)
    (z_int : PySem.W.nsIn K mainGlobals "int" = some none)
    (z_range : PySem.W.nsIn K mainGlobals "range" = some none)
    (z_max : PySem.W.nsIn K mainGlobals "max" = some none)
    (z_min : PySem.W.nsIn K mainGlobals "min" = some none)
    (z_enumerate : PySem.W.nsIn K mainGlobals "enumerate" = some none)
    (z_zip : PySem.W.nsIn K mainGlobals "zip" = some none)
    (z_dict : PySem.W.nsIn K mainGlobals "dict" = some none)
    (z_list : PySem.W.nsIn K mainGlobals "list" = some none)
    (z_tuple : PySem.W.nsIn K mainGlobals "tuple" = some none)
    (z_isinstance : PySem.W.nsIn K mainGlobals "isinstance" = some none)
    (z_bool : PySem.W.nsIn K mainGlobals "bool" = some none)
    (z_str : PySem.W.nsIn K mainGlobals "str" = some none)
    (z_all : PySem.W.nsIn K mainGlobals "all" = some none)
    (z_any : PySem.W.nsIn K mainGlobals "any" = some none)
    (z_sum : PySem.W.nsIn K mainGlobals "sum" = some none)
    (z_sorted : PySem.W.nsIn K mainGlobals "sorted" = some none)
    (z_repr : PySem.W.nsIn K mainGlobals "repr" = some none) :
    ∃ fd : FuncData, (∀ (s : Shared) (v : Value), BindsTo s fd ⟨[v], []⟩ [("_law_script", v)]) ∧ ∀ base : Heap, K.In base → base.Ns mainGlobals mg → FnOk l.prog w K mg base CX0 6 fa fd ["_law_script"] (spLaw K) := by
  have e : f_law = fa := Value.ref.inj (Option.some.inj ((PySem.W.mg_of X G a_law).symm.trans hfa))
  subst e
  have T : Tx mg := ⟨PySem.W.mg_none_of X G z_len, PySem.W.mg_none_of X G z_abs, PySem.W.mg_none_of X G z_int, PySem.W.mg_none_of X G z_range, PySem.W.mg_none_of X G z_max, PySem.W.mg_none_of X G z_min, PySem.W.mg_none_of X G z_enumerate, PySem.W.mg_none_of X G z_zip, PySem.W.mg_none_of X G z_dict, PySem.W.mg_none_of X G z_list, PySem.W.mg_none_of X G z_tuple, PySem.W.mg_none_of X G z_isinstance, PySem.W.mg_none_of X G z_bool, PySem.W.mg_none_of X G z_str, PySem.W.mg_none_of X G z_all, PySem.W.mg_none_of X G z_any, PySem.W.mg_none_of X G z_sum, PySem.W.mg_none_of X G z_sorted, PySem.W.mg_none_of X G z_repr⟩
  have F_is_word : Def K mg "is_word" s_is_word f_is_word (PySem.W.fnOf "is_word" "is_word" (fnArgs s_is_word) (fnBody s_is_word) (fnScope s_is_word) .none kV_is_word dc_is_word pm_is_word an_is_word cd_is_word ct_is_word) := ⟨⟨_, _, _, _, _, _, _, _, _, _, rfl, l_is_word, c_is_word⟩, PySem.W.mg_of X G a_is_word, k_is_word⟩
  have b_is_word := C8.Fun.binds (ps := ["value"]) F_is_word.fn rfl fun _ _ _ _ _ _ us hl => match us, hl with | [_], _ => rfl
  have F_l_seed : Def K mg "_law_seed" s_l_seed f_l_seed (PySem.W.fnOf "_law_seed" "_law_seed" (fnArgs s_l_seed) (fnBody s_l_seed) (fnScope s_l_seed) .none kV_l_seed dc_l_seed pm_l_seed an_l_seed cd_l_seed ct_l_seed) := ⟨⟨_, _, _, _, _, _, _, _, _, _, rfl, l_l_seed, c_l_seed⟩, PySem.W.mg_of X G a_l_seed, k_l_seed⟩
  have b_l_seed := C8.Fun.binds (ps := ["_law_script", "_law_k"]) F_l_seed.fn rfl fun _ _ _ _ _ _ us hl => match us, hl with | [_, _], _ => rfl
  have F_l_choose : Def K mg "_law_choose" s_l_choose f_l_choose (PySem.W.fnOf "_law_choose" "_law_choose" (fnArgs s_l_choose) (fnBody s_l_choose) (fnScope s_l_choose) .none kV_l_choose dc_l_choose pm_l_choose an_l_choose cd_l_choose ct_l_choose) := ⟨⟨_, _, _, _, _, _, _, _, _, _, rfl, l_l_choose, c_l_choose⟩, PySem.W.mg_of X G a_l_choose, k_l_choose⟩
  have b_l_choose := C8.Fun.binds (ps := ["_law_box", "_law_many"]) F_l_choose.fn rfl fun _ _ _ _ _ _ us hl => match us, hl with | [_, _], _ => rfl
  have F_l_one_of : Def K mg "_law_one_of" s_l_one_of f_l_one_of (PySem.W.fnOf "_law_one_of" "_law_one_of" (fnArgs s_l_one_of) (fnBody s_l_one_of) (fnScope s_l_one_of) .none kV_l_one_of dc_l_one_of pm_l_one_of an_l_one_of cd_l_one_of ct_l_one_of) := ⟨⟨_, _, _, _, _, _, _, _, _, _, rfl, l_l_one_of, c_l_one_of⟩, PySem.W.mg_of X G a_l_one_of, k_l_one_of⟩
  have b_l_one_of := C8.Fun.binds (ps := ["_law_box", "_law_some"]) F_l_one_of.fn rfl fun _ _ _ _ _ _ us hl => match us, hl with | [_, _], _ => rfl
  have F_l_word : Def K mg "_law_word" s_l_word f_l_word (PySem.W.fnOf "_law_word" "_law_word" (fnArgs s_l_word) (fnBody s_l_word) (fnScope s_l_word) .none kV_l_word dc_l_word pm_l_word an_l_word cd_l_word ct_l_word) := ⟨⟨_, _, _, _, _, _, _, _, _, _, rfl, l_l_word, c_l_word⟩, PySem.W.mg_of X G a_l_word, k_l_word⟩
  have b_l_word := C8.Fun.binds (ps := ["_law_box", "_law_size"]) F_l_word.fn rfl fun _ _ _ _ _ _ us hl => match us, hl with | [_, _], _ => rfl
  have F_l_check : Def K mg "_law_check" s_l_check f_l_check (PySem.W.fnOf "_law_check" "_law_check" (fnArgs s_l_check) (fnBody s_l_check) (fnScope s_l_check) .none kV_l_check dc_l_check pm_l_check an_l_check cd_l_check ct_l_check) := ⟨⟨_, _, _, _, _, _, _, _, _, _, rfl, l_l_check, c_l_check⟩, PySem.W.mg_of X G a_l_check, k_l_check⟩
  have b_l_check := C8.Fun.binds (ps := ["_law_box", "_law_most"]) F_l_check.fn rfl fun _ _ _ _ _ _ us hl => match us, hl with | [_, _], _ => rfl
  have F_l_check_text : Def K mg "_law_check_text" s_l_check_text f_l_check_text (PySem.W.fnOf "_law_check_text" "_law_check_text" (fnArgs s_l_check_text) (fnBody s_l_check_text) (fnScope s_l_check_text) .none kV_l_check_text dc_l_check_text pm_l_check_text an_l_check_text cd_l_check_text ct_l_check_text) := ⟨⟨_, _, _, _, _, _, _, _, _, _, rfl, l_l_check_text, c_l_check_text⟩, PySem.W.mg_of X G a_l_check_text, k_l_check_text⟩
  have b_l_check_text := C8.Fun.binds (ps := ["_law_check_here"]) F_l_check_text.fn rfl fun _ _ _ _ _ _ us hl => match us, hl with | [_], _ => rfl
  have F_law : Def K mg "law" s_law f_law (PySem.W.fnOf "law" "law" (fnArgs s_law) (fnBody s_law) (fnScope s_law) .none kV_law dc_law pm_law an_law cd_law ct_law) := ⟨⟨_, _, _, _, _, _, _, _, _, _, rfl, l_law, c_law⟩, PySem.W.mg_of X G a_law, k_law⟩
  have b_law := C8.Fun.binds (ps := ["_law_script"]) F_law.fn rfl fun _ _ _ _ _ _ us hl => match us, hl with | [_], _ => rfl
  have CL_Check : Cls K C_Check := ⟨pg_Check, hd_Check, po_Check, sa_Check⟩
  have F_Check_init : C8.Fun K "__init__" "Check.__init__" s_Check_init f_Check_init (PySem.W.fnOf "__init__" "Check.__init__" (fnArgs s_Check_init) (fnBody s_Check_init) (fnScope s_Check_init) (.ref dT_Check_init) kV_Check_init dc_Check_init pm_Check_init an_Check_init cd_Check_init ct_Check_init) := ⟨_, _, _, _, _, _, _, _, _, _, rfl, l_Check_init, c_Check_init⟩
  have FD_Check_init : FunD K "__init__" "Check.__init__" (fnArgs s_Check_init) (fnBody s_Check_init) (fnScope s_Check_init) [.str "1", .non] [] f_Check_init (PySem.W.fnOf "__init__" "Check.__init__" (fnArgs s_Check_init) (fnBody s_Check_init) (fnScope s_Check_init) (.ref dT_Check_init) kV_Check_init dc_Check_init pm_Check_init an_Check_init cd_Check_init ct_Check_init) := ⟨⟨_, _, _, _, _, _, _, _, _, _, rfl, l_Check_init, c_Check_init, .inr ⟨List.cons_ne_nil _ _, _, _, _, _, rfl, dl_Check_init, rfl, .cons ⟨_, rfl⟩ (.cons rfl .nil)⟩, .inl rfl⟩, k_Check_init⟩
  obtain ⟨ds0_Check_init, vd0_Check_init, bd0_Check_init⟩ := FD_Check_init.binds1 (ps := ["self", "poly", "start"]) 1 0 (List.cons_ne_nil _ _) rfl fun _ _ _ _ _ _ _ us its h1 h2 => match us, its, h1, h2 with | [_], [_, _], _, _ => ⟨_, rfl, rfl⟩
  obtain ⟨ds1_Check_init, vd1_Check_init, bd1_Check_init⟩ := FD_Check_init.binds1 (ps := ["self", "poly", "start"]) 2 1 (List.cons_ne_nil _ _) rfl fun _ _ _ _ _ _ _ us its h1 h2 => match us, its, h1, h2 with | [_, _], [_, _], _, _ => ⟨_, rfl, rfl⟩
  obtain ⟨ds2_Check_init, vd2_Check_init, bd2_Check_init⟩ := FD_Check_init.binds1 (ps := ["self", "poly", "start"]) 3 2 (List.cons_ne_nil _ _) rfl fun _ _ _ _ _ _ _ us its h1 h2 => match us, its, h1, h2 with | [_, _, _], [_, _], _, _ => ⟨_, rfl, rfl⟩
  have F_Check_degree : C8.Fun K "degree" "Check.degree" s_Check_degree f_Check_degree (PySem.W.fnOf "degree" "Check.degree" (fnArgs s_Check_degree) (fnBody s_Check_degree) (fnScope s_Check_degree) .none kV_Check_degree dc_Check_degree pm_Check_degree an_Check_degree cd_Check_degree ct_Check_degree) := ⟨_, _, _, _, _, _, _, _, _, _, rfl, l_Check_degree, c_Check_degree⟩
  have b_Check_degree := C8.Fun.binds (ps := ["self"]) F_Check_degree rfl fun _ _ _ _ _ _ us hl => match us, hl with | [_], _ => rfl
  have F_Check_str : C8.Fun K "__str__" "Check.__str__" s_Check_str f_Check_str (PySem.W.fnOf "__str__" "Check.__str__" (fnArgs s_Check_str) (fnBody s_Check_str) (fnScope s_Check_str) .none kV_Check_str dc_Check_str pm_Check_str an_Check_str cd_Check_str ct_Check_str) := ⟨_, _, _, _, _, _, _, _, _, _, rfl, l_Check_str, c_Check_str⟩
  have b_Check_str := C8.Fun.binds (ps := ["self"]) F_Check_str rfl fun _ _ _ _ _ _ us hl => match us, hl with | [_], _ => rfl
  have F_Check_eq : C8.Fun K "__eq__" "Check.__eq__" s_Check_eq f_Check_eq (PySem.W.fnOf "__eq__" "Check.__eq__" (fnArgs s_Check_eq) (fnBody s_Check_eq) (fnScope s_Check_eq) .none kV_Check_eq dc_Check_eq pm_Check_eq an_Check_eq cd_Check_eq ct_Check_eq) := ⟨_, _, _, _, _, _, _, _, _, _, rfl, l_Check_eq, c_Check_eq⟩
  have b_Check_eq := C8.Fun.binds (ps := ["self", "other"]) F_Check_eq rfl fun _ _ _ _ _ _ us hl => match us, hl with | [_, _], _ => rfl
  refine ⟨PySem.W.fnOf "law" "law" (fnArgs s_law) (fnBody s_law) (fnScope s_law) .none kV_law dc_law pm_law an_law cd_law ct_law, fun s v => .of_eq rfl, fun base _ _ => ?_⟩
  have CT : CkT K C_Check := ⟨CL_Check, n_Check_poly, n_Check_start⟩
  have NE_Check : NeT K C_Check := ⟨mro_Check, neq_Check⟩
  have c_l_seed := cal_l_seed (P := l.prog) (w := w) (base := base) F_l_seed b_l_seed T
  have c_l_choose := cal_l_choose (P := l.prog) (w := w) (base := base) F_l_choose b_l_choose T
  have c_l_one_of := cal_l_one_of (P := l.prog) (w := w) (base := base) F_l_one_of b_l_one_of T c_l_choose
  have c_l_word := cal_l_word (P := l.prog) (w := w) (base := base) F_l_word b_l_word T c_l_one_of
  have c_l_check := cal_l_check (P := l.prog) (w := w) (base := base) F_l_check b_l_check T c_l_choose c_l_word
  have c_l_check_text := cal_l_check_text (P := l.prog) (w := w) (base := base) F_l_check_text b_l_check_text T
  have g_BITS := PySem.W.mg_of X G gBITS
  have c_is_word := cal_is_word (P := l.prog) (w := w) (base := base) F_is_word b_is_word T g_BITS
  have M_Check : Mk K C_Check f_Check_init := ⟨mk_Check, a_Check_init, i_Check_init, kc_Check⟩
  have i_ok_Check := ok_Check_init (P := l.prog) (w := w) (base := base) F_Check_init T CT c_is_word
  have m_Check2 : Mak l.prog w K mg base 2 "Check" C_Check (spCkInit C_Check) [] := ⟨_, _, _, _, M_Check, i_ok_Check, PySem.W.mg_of X G aC_Check, bd2_Check_init, vd2_Check_init⟩
  have m_Check1 : Mak l.prog w K mg base 2 "Check" C_Check (spCkInit C_Check) [.non] := ⟨_, _, _, _, M_Check, i_ok_Check, PySem.W.mg_of X G aC_Check, bd1_Check_init, vd1_Check_init⟩
  have m_Check0 : Mak l.prog w K mg base 2 "Check" C_Check (spCkInit C_Check) [.str "1", .non] := ⟨_, _, _, _, M_Check, i_ok_Check, PySem.W.mg_of X G aC_Check, bd0_Check_init, vd0_Check_init⟩
  have p_degree : Prp l.prog w K mg base 1 C_Check "degree" (spDegree C_Check) := ⟨_, _, _, _, CL_Check, ⟨a_Check_degree, g_Check_degree, t_Check_degree, ⟨_, r_Check_degree⟩⟩, ok_degree F_Check_degree T CT, b_Check_degree⟩
  have g_MIDDLE := PySem.W.mg_of X G gMIDDLE
  have c_Check_str := met_Check_str (P := l.prog) (w := w) (base := base) F_Check_str ⟨a_Check_str, i_Check_str, k_Check_str⟩ b_Check_str T CT g_MIDDLE
  have g_Check : mg "Check" = some (.ref C_Check) := PySem.W.mg_of X G aC_Check
  have IS_Check : IsT K C_Check := ⟨CL_Check, cls_Check, clg_X, clt_X, mro_Check⟩
  have c_Check_eq := met_Check_eq (P := l.prog) (w := w) (base := base) F_Check_eq ⟨a_Check_eq, i_Check_eq, k_Check_eq⟩ b_Check_eq T CT g_Check IS_Check c_Check_str
  have c_Check_eqX := met_Check_eqX (P := l.prog) (w := w) (base := base) F_Check_eq ⟨a_Check_eq, i_Check_eq, k_Check_eq⟩ b_Check_eq T CT g_Check c_Check_str
  have kon_str_check := kon_strc
  have kon_tuple_check := kon_tuplec
  have kon_none_check := kon_nonec
  have kon_sub_check_tuple := kon_sbctuple
  have kon_sub_check_none := kon_sbcnone
  have kon_nf_check_str := kon_nfcs
  exact ok_law F_law T CT NE_Check c_l_seed c_l_check c_l_check_text m_Check2 m_Check1 m_Check0 p_degree c_Check_str c_Check_eq c_Check_eqX kon_str_check kon_tuple_check kon_none_check kon_sub_check_tuple kon_sub_check_none kon_nf_check_str
theorem walk {l : PySem.W.OpenLaw} {q : Program} {loose : List Str} {XP : (Str → Option Value) → Heap → Prop} {YP : World → Heap → Prop} {d : DefRec} {K : Params → PySem.W.Frag} (hn : l.most = some 63) (hdf : d.params.defaults = [])
    (hY : ∀ (w : World) (h : Heap), YP w h → (K w.params).In h)
    (F : ∀ (w : World) (mg : Str → Option Value) (fa : Addr) (h : Heap), (K w.params).In h → h.Ns mainGlobals mg → mg d.name = some (.ref fa) →
      ∃ fd : FuncData, (∀ (s : Shared) (u : Value), BindsTo s fd ⟨[u], []⟩ [("_law_script", u)]) ∧ ∀ base : Heap, (K w.params).In base → base.Ns mainGlobals mg → FnOk l.prog w (K w.params) mg base CX0 6 fa fd ["_law_script"] (spLaw (K w.params))) :
    PySem.W.WalkO q loose XP YP l.row.toRowW d [] (fun f vs => PySem.call f vs) :=
  L2.walk_of (n := 63) (k := 6) (x := "_law_script") (CX := fun _ => CX0) (sp := fun w => spLaw (K w.params)) hn (by decide) hdf ⟨rfl, by decide, by decide⟩ hY F (fun _ _ a ns hl _ hS => ⟨a, ns, rfl, hS, hl, fun _ => rfl⟩) fun _ _ _ _ _ z => z
end U

set_option pp.maxSteps 300
open PySem PySem.W PyProof.Rows
set_option maxRecDepth 100000 in
set_option maxHeartbeats 0 in
theorem PySem.Challenge.cw_unseenflips_k12_checks_made_holds : PySem.Challenge.rw_unseenflips_k12_checks_made.Holds := by
  w_on; o_law; k_head; (case hw => w_witness2)
  k_fill
  refine U.walk (l := PySem.Challenge.rw_unseenflips_k12_checks_made) rfl rfl (fun w h Y => PySem.W.kIn_of Y) ?F
  case F =>
    intro w mg fa h KX G hmg
    refine' U.all_mk KX G hmg ?a_is_word ?l_is_word ?c_is_word ?k_is_word ?a_l_seed ?l_l_seed ?c_l_seed ?k_l_seed ?a_l_choose ?l_l_choose ?c_l_choose ?k_l_choose ?a_l_one_of ?l_l_one_of ?c_l_one_of ?k_l_one_of ?a_l_word ?l_l_word ?c_l_word ?k_l_word ?a_l_check ?l_l_check ?c_l_check ?k_l_check ?a_l_check_text ?l_l_check_text ?c_l_check_text ?k_l_check_text ?a_law ?l_law ?c_law ?k_law ?aC_Check ?pg_Check ?hd_Check ?po_Check ?sa_Check ?mk_Check ?kc_Check ?n_Check_poly ?n_Check_start ?a_Check_init ?i_Check_init ?l_Check_init ?c_Check_init ?k_Check_init ?dl_Check_init ?a_Check_degree ?g_Check_degree ?t_Check_degree ?r_Check_degree ?l_Check_degree ?c_Check_degree ?a_Check_str ?i_Check_str ?l_Check_str ?c_Check_str ?k_Check_str ?a_Check_eq ?i_Check_eq ?l_Check_eq ?c_Check_eq ?k_Check_eq ?mro_Check ?neq_Check ?gBITS ?gMIDDLE ?cls_Check ?clg_X ?clt_X ?kon_strc ?kon_tuplec ?kon_nonec ?kon_sbctuple ?kon_sbcnone ?kon_nfcs ?z_len ?z_abs ?z_int ?z_range ?z_max ?z_min ?z_enumerate ?z_zip ?z_dict ?z_list ?z_tuple ?z_isinstance ?z_bool ?z_str ?z_all ?z_any ?z_sum ?z_sorted ?z_repr
    (case a_is_word => k_is)
    (case l_is_word => k_is)
    (case c_is_word => k_is)
    (case k_is_word => k_is)
    (case a_l_seed => k_is)
    (case l_l_seed => k_is)
    (case c_l_seed => k_is)
    (case k_l_seed => k_is)
    (case a_l_choose => k_is)
    (case l_l_choose => k_is)
    (case c_l_choose => k_is)
    (case k_l_choose => k_is)
    (case a_l_one_of => k_is)
    (case l_l_one_of => k_is)
    (case c_l_one_of => k_is)
    (case k_l_one_of => k_is)
    (case a_l_word => k_is)
    (case l_l_word => k_is)
    (case c_l_word => k_is)
    (case k_l_word => k_is)
    (case a_l_check => k_is)
    (case l_l_check => k_is)
    (case c_l_check => k_is)
    (case k_l_check => k_is)
    (case a_l_check_text => k_is)
    (case l_l_check_text => k_is)
    (case c_l_check_text => k_is)
    (case k_l_check_text => k_is)
    (case a_law => k_is)
    (case l_law => k_is)
    (case c_law => k_is)
    (case k_law => k_is)
    (case aC_Check => k_is)
    (case pg_Check => k_is)
    (case hd_Check => k_is)
    (case po_Check => k_is)
    (case sa_Check => k_is)
    (case mk_Check => k_is)
    (case kc_Check => k_is)
    (case n_Check_poly => k_is)
    (case n_Check_start => k_is)
    (case a_Check_init => k_is)
    (case i_Check_init => k_is)
    (case l_Check_init => k_is)
    (case c_Check_init => k_is)
    (case k_Check_init => k_is)
    (case dl_Check_init => k_is)
    (case a_Check_degree => k_is)
    (case g_Check_degree => k_is)
    (case t_Check_degree => k_is)
    (case r_Check_degree => k_is)
    (case l_Check_degree => k_is)
    (case c_Check_degree => k_is)
    (case a_Check_str => k_is)
    (case i_Check_str => k_is)
    (case l_Check_str => k_is)
    (case c_Check_str => k_is)
    (case k_Check_str => k_is)
    (case a_Check_eq => k_is)
    (case i_Check_eq => k_is)
    (case l_Check_eq => k_is)
    (case c_Check_eq => k_is)
    (case k_Check_eq => k_is)
    (case mro_Check => k_is)
    (case neq_Check => k_is)
    (case gBITS => k_is)
    (case gMIDDLE => k_is)
    (case cls_Check => k_is)
    (case clg_X => k_is)
    (case clt_X => k_is)
    (case kon_strc => kernel_rfl)
    (case kon_tuplec => kernel_rfl)
    (case kon_nonec => kernel_rfl)
    (case kon_sbctuple => kernel_rfl)
    (case kon_sbcnone => kernel_rfl)
    (case kon_nfcs => kernel_rfl)
    (case z_len => k_is)
    (case z_abs => k_is)
    (case z_int => k_is)
    (case z_range => k_is)
    (case z_max => k_is)
    (case z_min => k_is)
    (case z_enumerate => k_is)
    (case z_zip => k_is)
    (case z_dict => k_is)
    (case z_list => k_is)
    (case z_tuple => k_is)
    (case z_isinstance => k_is)
    (case z_bool => k_is)
    (case z_str => k_is)
    (case z_all => k_is)
    (case z_any => k_is)
    (case z_sum => k_is)
    (case z_sorted => k_is)
    (case z_repr => k_is)
#print axioms PySem.Challenge.cw_unseenflips_k12_checks_made_holds
