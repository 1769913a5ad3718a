import PyProof.Rows.All
import Wide.All
import OpenK.AllK
import Wide.FinOn
import HandS.ForMost
import HandS.Codes
import HandS.FStr
import HandS.IsInst
import HandS.Star
import HandS.TupAny
import HandS.Style
import HandS.Walk
import KE.GoesEnum
import KE.GoesNew
import PySem.Challenge.RW_unseenflips_k49_hits_on_lines
set_option Elab.async false
set_option linter.all false
set_option maxRecDepth 100000
set_option maxHeartbeats 4000000
namespace Lx
open PySem PySem.Spec PyProof.Rows L2

/-! enumerate over a text -/
def ItES (x : Str) : It := ⟨fun i _ => i < x.cps.size, fun i H v H' => ∃ T c, v = .ref T ∧ H T = none ∧ H' = upd H T (.tup [.int (i : Nat), .str ⟨#[c]⟩]) ∧ x.cps[i]? = some c, fun i _ => x.cps.size ≤ i⟩
theorem turn_enumS {P : Program} {w : World} {K : PySem.W.Frag} {elts : List Expr} {kk : Nat} {tpos : Pos} (x : Str) (t : Tok) (e it : Addr) :
    Turn P w K (.Tuple elts kk tpos) (ItES x) [e, it] e (fun i h => (∃ old, IsEnum h e it ((i : Nat) : Int) old) ∧ h.IsStrIter it (strIterType x) x t i ∧ e ≠ it ∧ i ≤ x.cps.size) where
  mem := by simp
  obj := fun i h st b hb => by
    obtain ⟨⟨old, he⟩, ⟨o, ho, hc, hd⟩, _⟩ := st
    have e' : b = e ∨ b = it := by simpa using hb
    rcases e' with z | z
    · rw [z]; exact ⟨_, he, fun v q => nomatch q⟩
    · rw [z]; exact ⟨o, ho, fun v q => by rw [hd] at q; cases q⟩
  keep := fun i h h' st k => by
    obtain ⟨⟨old, he⟩, ⟨o, ho, r⟩, hne⟩ := st
    exact ⟨⟨old, k e (by simp) _ he⟩, ⟨o, k it (by simp) o ho, r⟩, hne⟩
  item := by
    intro X hP hw hK hc i pins s σ H E I hf st hg
    subst hP hw hK
    obtain ⟨⟨old, he⟩, hit, hne, _⟩ := st
    have hlt : i < x.cps.size := hg
    have hel : e < s.heap.objs.size := Heap.lt_size he
    have hil : it < s.heap.objs.size := by obtain ⟨_, q, _⟩ := hit; exact Heap.lt_size q
    have hh : X.A.in1.handled = none := I.ok.hd hc
    refine wpAny_pyNext_enum_itemC (Draws.text hh it x t) he hit hlt hne (by simpa using hne) fun v h' tk hP ho hit' hT hsz hk => ?_
    obtain ⟨c, u, hcx, rfl⟩ := hP
    refine ⟨_, rfl, wpAny_letOwnedTupleGo_enum (s := { s with heap := h', toks := tk + 1 }) ho fun h'' he' sb => ?_⟩
    have hT2 : h''.get? s.heap.objs.size = some { cls := .type "tuple", data := .seq #[.int i tk, .str ⟨#[c]⟩ u] } := (sb.2 _ (Nat.ne_of_gt hel)).trans hT
    have new : ObjOk X.prog X.w (upd H s.heap.objs.size (.tup [.int (i : Nat), .str ⟨#[c]⟩])) h'' s.heap.objs.size (.tup [.int (i : Nat), .str ⟨#[c]⟩]) :=
      ⟨by show 2 ≤ sizeLine; decide, [.int i tk, .str ⟨#[c]⟩ u], .cons ⟨_, rfl⟩ (.cons ⟨_, rfl⟩ .nil), ⟨_, hT2, rfl, _, rfl⟩⟩
    have I1 : Inv X pins σ (upd H s.heap.objs.size (.tup [.int (i : Nat), .str ⟨#[c]⟩])) { s with heap := h'', toks := tk + 1 } :=
      I.turnedNew (ch := [e, it]) (fun b ob hb q => (sb.2 b (fun z => hb (by simp [z]))).trans (hk b ob (fun z => hb (by simp [z])) (fun z => hb (by simp [z])) q)) hf (Nat.le_refl _) new
    refine ⟨.ref s.heap.objs.size, _, I1, rfl, ⟨_, c, rfl, I.hok.fresh (Nat.le_refl _), rfl, hcx⟩, ⟨⟨.str ⟨#[c]⟩ u, ?_⟩, ?_, hne, hlt⟩, fun b hb => ?_⟩
    · have e1 : ((i + 1 : Nat) : Int) = (i : Int) + 1 := by omega
      rw [e1]; exact he'
    · obtain ⟨o, ho', r⟩ := hit'
      exact ⟨o, (sb.2 it (Ne.symm hne)).trans ho', r⟩
    · have hb' : b < s.heap.objs.size := by
        have e' : b = e ∨ b = it := by simpa using hb
        rcases e' with z | z
        · rw [z]; exact hel
        · rw [z]; exact hil
      rw [upd_ne (Nat.ne_of_lt hb')]
      exact (hf b hb).1
  done := by
    intro X hP hw hK hc i pins s σ H E I hf st hg
    subst hP hw hK
    obtain ⟨⟨old, he⟩, hit, hne, hle⟩ := st
    have hge : x.cps.size ≤ i := hg
    have hi : i = x.cps.size := Nat.le_antisymm hle hge
    subst hi
    have hh : X.A.in1.handled = none := I.ok.hd hc
    obtain ⟨f0, f1, f2, f3, f4, f5⟩ := hf it (by simp)
    exact wpAny_pyNext_enum_endD (Draws.text hh it x t) he hit fun h' eb => ⟨rfl, I.turned (t' := s.toks) (fun b o hb q => eb b o hb q) f0 f1 f3 f4 f5⟩
  self := fun A i s Q E st h => let ⟨⟨_, he⟩, _⟩ := st; wpAny_pyIter_enum he h
def iEnumS (ta : TA) : TI := fun σ H R => ta σ H fun vs H1 => ∃ x, vs = [.str x] ∧ R (ItES x) H1
theorem pi_enumS {X : Cx} {e : Expr} {ta : TA} {p pos tpos : Pos} {elts : List Expr} {kk : Nat} (hg : Gl X "enumerate") (hm : X.mg "enumerate" = none) (ha : PA X [e] ta) (hs : starEach [e] X.env = [(false, eval e X.env)] := by rfl) :
    PI X (.Tuple elts kk tpos) (.Call (.Name "enumerate" p) [e] [] pos) (iEnumS ta) := by
  refine ⟨fun pins s σ H R I h => ?_⟩
  refine Call_ (ld_blt I hg hm boot_enumerate (PyProof.Rows.callWith_type1 (thn (ha.run pos pins s σ H _ I h) fun us s1 ⟨vs, H1, I1, r1, q1⟩ => ?_) hs rfl))
  obtain ⟨x, ex, q⟩ := q1
  subst ex
  cases r1 with
  | cons r rr =>
    cases rr
    obtain ⟨t, rfl⟩ := r
    refine call_enumerate_str fun h' he hit hsz hk => wpAny_pyIter_enum he ?_
    have I2 : Inv X pins σ H1 { s1 with heap := h' } := I1.kept (t' := s1.toks) hk
    refine ⟨s1.heap.objs.size + 1, [s1.heap.objs.size + 1, s1.heap.objs.size], _, _, H1, rfl, I2, turn_enumS x t (s1.heap.objs.size + 1) s1.heap.objs.size, ⟨⟨.none, he⟩, hit, Nat.succ_ne_self _, Nat.zero_le _⟩, fun b hb => ?_, q⟩
    have e' : b = s1.heap.objs.size + 1 ∨ b = s1.heap.objs.size := by simpa using hb
    have hle : s1.heap.objs.size ≤ b := by
      rcases e' with z | z
      · rw [z]; exact Nat.le_add_right _ _
      · rw [z]; exact Nat.le_refl _
    exact I1.fpOk hle (I1.hok.fresh hle)

/-! enumerate over a tuple -/
def ItET (K : PySem.W.Frag) (a : Addr) : It :=
  ⟨fun i H => ∃ (xs : List V) (x : V), SqT K H a xs ∧ xs[i]? = some x, fun i H v H' => ∃ T x, v = .ref T ∧ H T = none ∧ H' = upd H T (.tup [.int (i : Nat), x]) ∧ ∀ xs, SqT K H a xs → xs[i]? = some x, fun i H => ∃ xs : List V, SqT K H a xs ∧ xs.length ≤ i⟩
theorem meets_enumerate_newT (l : Addr) (items : Array Value) (n : Nat) (dct : Option Addr) (sl : Array (Option Value)) :
    Meets (Builtin.«enumerate.__new__» ⟨[.type "enumerate", .ref l], []⟩) (fun _ R s => s.heap.get? l = some { cls := .type "tuple", dict := dct, data := .seq items n, slots := sl } ∧
      R (.ok (.ret (.ref (s.heap.push { cls := .type "tuple_iterator", data := .fields #[.ref l, .int 0 0] }).objs.size)))
        { s with heap := (s.heap.push { cls := .type "tuple_iterator", data := .fields #[.ref l, .int 0 0] }).push { cls := .type "enumerate", data := .fields #[.none, .bool false, .ref s.heap.objs.size, rawInt 0, .none, .none] } }) :=
  .of_wp fun prog w A R s h => by
    obtain ⟨hp, g, d, tk, os⟩ := s; obtain ⟨hl, h⟩ := h
    have hsub := sub_enumerate
    have hL : Heap.IsTuple (Shared.heap ⟨hp, g, d, tk, os⟩) l items := ⟨_, hl, rfl, n, rfl⟩
    wp_walk using AutoSeq1.wpAny_loadPart' hl
    refine wpAny_stack_any fun st => wpAny_pure ?_
    split
    · rename_i c _ _ _ _ _
      cases (c == Value.type "enumerate")
      · wp_walk using AutoSeq1.wpAny_loadPart' hl, wpAny_pyIter_tuple hL
        exact ⟨_, rfl, h⟩
      · wp_walk using AutoSeq1.wpAny_loadPart' hl, wpAny_pyIter_tuple hL
        exact ⟨_, rfl, h⟩
    · wp_walk using AutoSeq1.wpAny_loadPart' hl, wpAny_pyIter_tuple hL
      exact ⟨_, rfl, h⟩
theorem call_enumerate_tup {prog : Program} {w : World} {A : Around} {E : Value → Shared → Prop} {s : Shared} {l : Addr} {items : Array Value} {Q : Value → Shared → Prop} (hL : s.heap.IsTuple l items)
    (h : ∀ h', IsEnum h' (s.heap.objs.size + 1) s.heap.objs.size 0 .none → h'.IsTupleIter s.heap.objs.size l 0 → h'.objs.size = s.heap.objs.size + 2 →
      (∀ b o, s.heap.get? b = some o → h'.get? b = some o) → Q (.ref (s.heap.objs.size + 1)) { s with heap := h' }) :
    wpAny (model prog w) A (call (.type "enumerate") [.ref l]) Q E s := by
  obtain ⟨⟨c, dct, dt, sl⟩, hl, hc, n, hd⟩ := hL
  replace hc : c = .type "tuple" := hc
  replace hd : dt = .seq items n := hd
  subst hc hd
  refine callType_new F.called_enumerate (by decide) (F.typeCall_enumerate_1 _) (F.newCall_enumerate_1 _) (fun obj => F.args_object_init_2 obj _) F.entry_enumerate_new
    (meets_enumerate_newT l items n dct sl) ⟨hl, ?_⟩
  have hz : (s.heap.push { cls := .type "tuple_iterator", data := .fields #[.ref l, .int 0 0] }).objs.size = s.heap.objs.size + 1 := Heap.size_push ..
  show _ ∧ _
  rw [hz]
  have he : IsEnum ((s.heap.push { cls := .type "tuple_iterator", data := .fields #[.ref l, .int 0 0] }).push
      { cls := .type "enumerate", data := .fields #[.none, .bool false, .ref s.heap.objs.size, rawInt 0, .none, .none] }) (s.heap.objs.size + 1) s.heap.objs.size 0 .none := by
    have := Heap.get?_push_size (s.heap.push { cls := .type "tuple_iterator", data := .fields #[.ref l, .int 0 0] })
      (o := { cls := .type "enumerate", data := .fields #[.none, .bool false, .ref s.heap.objs.size, rawInt 0, .none, .none] }) rfl
    rw [hz] at this; exact this
  refine ⟨⟨_, he, rfl⟩, h _ he ⟨_, Heap.get?_push_of_some _ (Heap.get?_push_size _ rfl), rfl, rfl⟩ (by rw [Heap.size_push, hz]) fun b o x => Heap.get?_push_of_some _ (Heap.get?_push_of_some _ x)⟩
theorem turn_enumT {P : Program} {w : World} {K : PySem.W.Frag} {elts : List Expr} {kk : Nat} {tpos : Pos} (a e it : Addr) :
    Turn P w K (.Tuple elts kk tpos) (ItET K a) [e, it] e (fun i h => (∃ old, IsEnum h e it ((i : Nat) : Int) old) ∧ h.IsTupleIter it a i ∧ e ≠ it ∧ a ≠ it ∧ a ≠ e) where
  mem := by simp
  obj := fun i h st b hb => by
    obtain ⟨⟨old, he⟩, ⟨o, ho, hc, hd⟩, _⟩ := st
    have e' : b = e ∨ b = it := by simpa using hb
    rcases e' with z | z
    · rw [z]; exact ⟨_, he, fun v q => nomatch q⟩
    · rw [z]; exact ⟨o, ho, fun v q => by rw [hd] at q; cases q⟩
  keep := fun i h h' st k => by
    obtain ⟨⟨old, he⟩, ⟨o, ho, r⟩, hne⟩ := st
    exact ⟨⟨old, k e (by simp) _ he⟩, ⟨o, k it (by simp) o ho, r⟩, hne⟩
  item := by
    intro X hP hw hK hc i pins s σ H E I hf st hg
    subst hP hw hK
    obtain ⟨⟨old, he⟩, hit, hne, hai, hae⟩ := st
    obtain ⟨xs, x, hq, hx⟩ := hg
    obtain ⟨its, rv, p, hz⟩ := I.tuple hq
    obtain ⟨u, hu, ru⟩ := rv.get hx
    have hel : e < s.heap.objs.size := Heap.lt_size he
    have hil : it < s.heap.objs.size := by obtain ⟨_, q, _⟩ := hit; exact Heap.lt_size q
    have hh : X.A.in1.handled = none := I.ok.hd hc
    have pT : s.heap.IsTuple a its.toArray := p
    have hlt : i < its.toArray.size := by
      have := (List.getElem?_eq_some_iff.mp hu).1
      simpa using this
    refine wpAny_pyNext_enum_itemC (Draws.tuple hh it a hai its.toArray) he ⟨hit, pT⟩ hlt hne (by simp [hne, Ne.symm hae]) fun v h' tk hP ho hit' hT hsz hk => ?_
    have ev : v = u := by
      have hP' : its.toArray[i]? = some v := hP
      rw [List.getElem?_toArray, hu] at hP'
      exact (Option.some.inj hP').symm
    subst ev
    refine ⟨_, rfl, wpAny_letOwnedTupleGo_enum (s := { s with heap := h', toks := tk + 1 }) ho fun h'' he' sb => ?_⟩
    have hT2 : h''.get? s.heap.objs.size = some { cls := .type "tuple", data := .seq #[.int i tk, v] } := (sb.2 _ (Nat.ne_of_gt hel)).trans hT
    have new : ObjOk X.prog X.w (upd H s.heap.objs.size (.tup [.int (i : Nat), x])) h'' s.heap.objs.size (.tup [.int (i : Nat), x]) :=
      ⟨by show 2 ≤ sizeLine; decide, [.int i tk, v], .cons ⟨_, rfl⟩ (.cons ru .nil), ⟨_, hT2, rfl, _, rfl⟩⟩
    have I1 : Inv X pins σ (upd H s.heap.objs.size (.tup [.int (i : Nat), x])) { s with heap := h'', toks := tk + 1 } :=
      I.turnedNew (ch := [e, it]) (fun b ob hb q => (sb.2 b (fun z => hb (by simp [z]))).trans (hk b ob (fun z => hb (by simp [z])) (fun z => hb (by simp [z])) q)) hf (Nat.le_refl _) new
    refine ⟨.ref s.heap.objs.size, _, I1, rfl, ⟨_, x, rfl, I.hok.fresh (Nat.le_refl _), rfl, fun ys hy => by rw [I.tuple_inj hy hq]; exact hx⟩, ⟨⟨v, ?_⟩, ?_, hne, hai, hae⟩, fun b hb => ?_⟩
    · have e1 : ((i + 1 : Nat) : Int) = (i : Int) + 1 := by omega
      rw [e1]; exact he'
    · obtain ⟨⟨o, ho', r⟩, _⟩ := hit'
      exact ⟨o, (sb.2 it (Ne.symm hne)).trans ho', r⟩
    · have hb' : b < s.heap.objs.size := by
        have e' : b = e ∨ b = it := by simpa using hb
        rcases e' with z | z
        · rw [z]; exact hel
        · rw [z]; exact hil
      rw [upd_ne (Nat.ne_of_lt hb')]
      exact (hf b hb).1
  done := by
    intro X hP hw hK hc i pins s σ H E I hf st hg
    subst hP hw hK
    obtain ⟨⟨old, he⟩, hit, hne, hai, hae⟩ := st
    obtain ⟨xs, hq, hx⟩ := hg
    obtain ⟨its, rv, p, hz⟩ := I.tuple hq
    have hl := rv.length
    have pT : s.heap.IsTuple a its.toArray := p
    have hh : X.A.in1.handled = none := I.ok.hd hc
    obtain ⟨f0, f1, f2, f3, f4, f5⟩ := hf it (by simp)
    have D : Draws X.prog X.w X.A.in1 it [it, a] i (fun _ _ => True) (fun j h => j = i ∧ h.IsTupleIter it a i ∧ h.IsTuple a its.toArray) :=
      { live := fun _ _ st => let ⟨o, ho, _⟩ := st.2.1; ⟨o, ho⟩
        frame := fun _ _ _ st hk => ⟨st.1, st.2.1.at fun o e => hk it (by simp) o e, st.2.2.at fun o e => hk a (by simp) o e⟩
        item := fun j s Q E hj st hQ => absurd st.1 (Nat.ne_of_lt hj)
        done := fun s Q E st hE => wpAny_nextOf_tuple_end hh st.2.1 st.2.2 (by simp; omega) hE }
    exact wpAny_pyNext_enum_endD D he ⟨rfl, hit, pT⟩ fun h' eb => ⟨rfl, I.turned (t' := s.toks) (fun b o hb q => eb b o hb q) f0 f1 f3 f4 f5⟩
  self := fun A i s Q E st h => let ⟨⟨_, he⟩, _⟩ := st; wpAny_pyIter_enum he h
def iEnumT (K : PySem.W.Frag) (ta : TA) : TI := fun σ H R => ta σ H fun vs H1 => ∃ a xs, vs = [.ref a] ∧ SqT K H1 a xs ∧ R (ItET K a) H1
theorem pi_enumT {X : Cx} {e : Expr} {ta : TA} {p pos tpos : Pos} {elts : List Expr} {kk : Nat} (hg : Gl X "enumerate") (hm : X.mg "enumerate" = none) (ha : PA X [e] ta) (hs : starEach [e] X.env = [(false, eval e X.env)] := by rfl) :
    PI X (.Tuple elts kk tpos) (.Call (.Name "enumerate" p) [e] [] pos) (iEnumT X.K ta) := by
  refine ⟨fun pins s σ H R I h => ?_⟩
  refine Call_ (ld_blt I hg hm boot_enumerate (PyProof.Rows.callWith_type1 (thn (ha.run pos pins s σ H _ I h) fun us s1 ⟨vs, H1, I1, r1, q1⟩ => ?_) hs rfl))
  obtain ⟨a, xs, ex, hq, q⟩ := q1
  subst ex
  cases r1 with
  | cons r rr =>
    cases rr
    cases r
    obtain ⟨its, rv, p', hz⟩ := I1.tuple hq
    have pT : s1.heap.IsTuple a its.toArray := p'
    have hlt : a < s1.heap.objs.size := by obtain ⟨o, ho, _⟩ := pT; exact Heap.lt_size ho
    refine call_enumerate_tup pT fun h' he hit hsz hk => wpAny_pyIter_enum he ?_
    have I2 : Inv X pins σ H1 { s1 with heap := h' } := I1.kept (t' := s1.toks) hk
    refine ⟨s1.heap.objs.size + 1, [s1.heap.objs.size + 1, s1.heap.objs.size], _, _, H1, rfl, I2, turn_enumT a (s1.heap.objs.size + 1) s1.heap.objs.size, ⟨⟨.none, he⟩, hit, Nat.succ_ne_self _, Nat.ne_of_lt hlt, Nat.ne_of_lt (Nat.lt_succ_of_lt hlt)⟩, fun b hb => ?_, q⟩
    have e' : b = s1.heap.objs.size + 1 ∨ b = s1.heap.objs.size := by simpa using hb
    have hle : s1.heap.objs.size ≤ b := by
      rcases e' with z | z
      · rw [z]; exact Nat.le_add_right _ _
      · rw [z]; exact Nat.le_refl _
    exact I1.fpOk hle (I1.hok.fresh hle)
/-- a list or a tuple, enumerated -/
def iEnumQ (K : PySem.W.Frag) (ta : TA) : TI := fun σ H R => iEnum K ta σ H R ∨ iEnumT K ta σ H R
theorem pi_enumQ {X : Cx} {e : Expr} {ta : TA} {p pos tpos : Pos} {elts : List Expr} {kk : Nat} (hg : Gl X "enumerate") (hm : X.mg "enumerate" = none) (ha : PA X [e] ta) (hs : starEach [e] X.env = [(false, eval e X.env)] := by rfl) :
    PI X (.Tuple elts kk tpos) (.Call (.Name "enumerate" p) [e] [] pos) (iEnumQ X.K ta) := by
  refine ⟨fun pins s σ H R I h => ?_⟩
  rcases h with h | h
  · exact (pi_enum hg hm ha hs).run pins s σ H R I h
  · exact (pi_enumT hg hm ha hs).run pins s σ H R I h
theorem walk_enumT {K : PySem.W.Frag} {a : Addr} {xs : List V} : Walk (ItET K a) xs.length (fun H => SqT K H a xs) (YPair (fun i => some (.int (i : Nat))) (fun i => xs[i]?)) := by
  refine ⟨fun i _ hi q => ⟨xs, xs[i], q, by simp [hi]⟩, fun _ q => ⟨xs, q, Nat.le_refl _⟩, fun i H v H' _ q y => ?_⟩
  obtain ⟨T, x, h1, h2, h3, h4⟩ := y
  exact ⟨T, .int (i : Nat), x, h1, h2, h3, rfl, h4 xs q⟩
theorem walk_enumS {x : Str} : Walk (ItES x) x.cps.size (fun _ => True) (fun i H v H' => ∃ T c, v = .ref T ∧ H T = none ∧ H' = upd H T (.tup [.int (i : Nat), .str ⟨#[c]⟩]) ∧ x.cps[i]? = some c) :=
  ⟨fun _ _ hi _ => hi, fun _ _ => Nat.le_refl _, fun _ _ _ _ _ _ y => y⟩
end Lx

set_option maxRecDepth 100000
set_option maxHeartbeats 4000000
namespace U
open PySem PySem.Spec PyProof.Rows
open L2 hiding Fun CX0 E0 pass0 Fun.binds
open C8 Lx SX
/-! words of bits as texts -/
def bt (b : Bool) : Nat := if b then 49 else 48
def W (l : List Bool) : Str := S (l.map bt)
theorem bt_inj : ∀ {a b : Bool}, bt a = bt b → a = b := by decide
theorem map_bt_inj : ∀ {a b : List Bool}, a.map bt = b.map bt → a = b
  | [], [], _ => rfl
  | [], _ :: _, h => by simp at h
  | _ :: _, [], h => by simp at h
  | x :: l, y :: m, h => by
    rw [List.map_cons, List.map_cons] at h
    injection h with h1 h2
    rw [bt_inj h1, map_bt_inj h2]
theorem W_inj {a b : List Bool} (h : W a = W b) : a = b := map_bt_inj (S_inj h)
theorem W_eq {a b : List Bool} : (W a = W b) ↔ a = b := ⟨W_inj, fun h => by rw [h]⟩
theorem W_len (a : List Bool) : (W a).length = a.length := by unfold W; rw [S_len, List.length_map]
theorem W_size (a : List Bool) : (W a).cps.size = a.length := by unfold W; simp
theorem W_cat (a b : List Bool) : W a ++ W b = W (a ++ b) := by unfold W; rw [S_cat, List.map_append]
theorem W_nil : ("" : Str) = W [] := by decide +kernel
theorem W_0 : ("0" : Str) = W [false] := by decide +kernel
theorem W_1 : ("1" : Str) = W [true] := by decide +kernel
theorem W_get {a : List Bool} {i : Nat} {c : Nat} (h : (W a).cps[i]? = some c) : ∃ b, a[i]? = some b ∧ c = bt b := by
  unfold W S at h
  rw [List.getElem?_toArray, List.getElem?_map] at h
  cases e : a[i]? with
  | none => rw [e] at h; cases h
  | some b => rw [e] at h; exact ⟨b, rfl, (Option.some.inj h).symm⟩
theorem W_bit (b : Bool) : (⟨#[bt b]⟩ : Str) = W [b] := rfl
theorem W_tl (a : List Bool) : (W a).cps.toList = a.map bt := rfl
theorem joinL_nil : ∀ ys : List (List Nat), TL.joinL [] ys = ys.flatten
  | [] => rfl
  | [p] => by simp [TL.joinL]
  | p :: q :: r => by
    show p ++ ([] ++ TL.joinL [] (q :: r)) = _
    rw [List.nil_append, joinL_nil (q :: r)]
    rfl
theorem join_W (ls : List (List Bool)) : Txt.join "" (ls.map W) = W ls.flatten := by
  have e : (ls.map W) = (ls.map (·.map bt)).map S := by rw [List.map_map]; rfl
  have e2 : ("" : Str) = S [] := by decide +kernel
  rw [e, e2, join_S, joinL_nil]
  unfold W
  rw [List.map_flatten]
theorem join_bits (l : List Bool) : Txt.join "" (l.map fun b => W [b]) = W l := by
  have e : (l.map fun b => W [b]) = (l.map fun b => [b]).map W := by rw [List.map_map]; rfl
  rw [e, join_W]
  congr 1
  induction l with
  | nil => rfl
  | cons b r ih => simp [ih]
theorem sum_lens : ∀ ls : List (List Bool), ((ls.map W).map (·.length)).sum = (ls.map (·.length)).sum
  | [] => rfl
  | l :: r => by
    rw [List.map_cons, List.map_cons, List.map_cons, List.sum_cons, List.sum_cons, W_len, sum_lens r]
theorem sl_len {n : Nat} (h : n ≤ 100000) : n ≤ sizeLine := Nat.le_trans h (by decide)
theorem sl_lt {n : Nat} (h : n < 100000) : n < sizeLine := Nat.lt_of_lt_of_le h (by decide)
/-! tests whose answer is known -/
theorem q_dec {c : Prop} [Decidable c] {Q : VK} {H : Hp} (hc : c) (h : Q (.bl true) H) : Q (.bl (decide c)) H := by rw [decide_eq_true hc]; exact h
theorem q_ndec {c : Prop} [Decidable c] {Q : VK} {H : Hp} (hc : ¬ c) (h : Q (.bl false) H) : Q (.bl (decide c)) H := by rw [decide_eq_false hc]; exact h
theorem iteDT {c A B : Prop} [Decidable c] (hc : c) (h : A) : if decide c = true then A else B := by rw [decide_eq_true hc]; exact iteT h
theorem iteDF {c A B : Prop} [Decidable c] (hc : ¬ c) (h : B) : if decide c = true then A else B := by rw [decide_eq_false hc]; exact iteF h
theorem iteNT {c A B : Prop} [Decidable c] (hc : ¬ c) (h : A) : if (!decide c) = true then A else B := by rw [decide_eq_false hc]; exact iteT h
theorem iteBT {b : Bool} {A B : Prop} (hc : b = true) (h : A) : if b = true then A else B := by rw [hc]; exact iteT h
theorem iteBF {b : Bool} {A B : Prop} (hc : b = false) (h : B) : if b = true then A else B := by rw [hc]; exact iteF h
/-! slices -/
theorem W_drop {a : List Bool} {i : Int} (h : 0 ≤ i) : Txt.slice (W a) (some i) none = W (a.drop i.toNat) := by
  unfold W; rw [slice_from h, List.map_drop]
theorem W_take {a : List Bool} {i : Int} (h : 0 ≤ i) : Txt.slice (W a) none (some i) = W (a.take i.toNat) := by
  unfold W; rw [slice_to h, List.map_take]
end U

set_option maxRecDepth 100000
set_option maxHeartbeats 4000000
namespace U
open PySem PySem.Spec PyProof.Rows L2
def top (i : Nat) : Stmt := PySem.Challenge.pw_unseenflips_k49_hits_on_lines.main.body.getD i (.Pass ⟨0, 0, 0, 0⟩)
abbrev s_InvalidHits_init : Stmt := inClass (top 2) 0
abbrev s_is_integer : Stmt := top 4
abbrev s_is_number : Stmt := top 5
abbrev s_is_sequence : Stmt := top 6
abbrev s_other : Stmt := top 7
abbrev s_arriving : Stmt := top 10
abbrev s_is_hit : Stmt := top 11
abbrev s_hit : Stmt := top 12
abbrev s_l_seed : Stmt := top 14
abbrev s_l_choose : Stmt := top 15
abbrev s_l_one_of : Stmt := top 16
abbrev s_l_word : Stmt := top 17
abbrev s_l_arrived : Stmt := top 18
abbrev s_l_hits : Stmt := top 19
abbrev s_law : Stmt := top 20
structure Tx (mg : Str → Option Value) : Prop where
  b_len : mg "len" = none
  b_abs : mg "abs" = none
  b_int : mg "int" = none
  b_range : mg "range" = none
  b_max : mg "max" = none
  b_min : mg "min" = none
  b_enumerate : mg "enumerate" = none
  b_zip : mg "zip" = none
  b_dict : mg "dict" = none
  b_list : mg "list" = none
  b_tuple : mg "tuple" = none
  b_isinstance : mg "isinstance" = none
  b_bool : mg "bool" = none
  b_str : mg "str" = none
  b_all : mg "all" = none
  b_any : mg "any" = none
  b_sum : mg "sum" = none
  b_sorted : mg "sorted" = none
  b_repr : mg "repr" = none
end U

set_option maxRecDepth 100000
set_option maxHeartbeats 4000000
namespace U
open PySem PySem.Spec PyProof.Rows
open L2 hiding Fun CX0 E0 pass0 Fun.binds
open C8 Lx
local macro_rules | `(tactic| walk_at "g") => `(tactic| repeat (first | (refine ⟨_, rfl, ?_⟩) | (refine ⟨_, _, rfl, rfl, ?_⟩) | (refine ⟨rfl, ?_⟩) | (refine .inl ⟨_, rfl, ?_⟩)))
/-- the box: a list of two ints -/
def Box (H : Hp) (b : Addr) : Prop := ∃ x y : Int, H b = some (.lst [.int x, .int y])
/-- all but the box at b stands as it stood; the box is a box -/
def Up (b : Addr) (H H' : Hp) : Prop := (∀ c o, H c = some o → c ≠ b → H' c = some o) ∧ Box H' b
theorem Box.same {b : Addr} {H H' : Hp} (h : Box H b) (y : Same H H') : Box H' b := by obtain ⟨i, j, e⟩ := h; exact ⟨i, j, y _ _ e⟩
theorem Up.refl {b : Addr} {H : Hp} (h : Box H b) : Up b H H := ⟨fun _ _ e _ => e, h⟩
theorem Up.trans {b : Addr} {H H1 H2 : Hp} (x : Up b H H1) (y : Up b H1 H2) : Up b H H2 := ⟨fun c o e n => y.1 c o (x.1 c o e n) n, y.2⟩
theorem Up.same {b : Addr} {H H1 H2 : Hp} (x : Up b H H1) (y : Same H1 H2) : Up b H H2 := ⟨fun c o e n => y c o (x.1 c o e n), x.2.same y⟩
theorem Up.of_same {b : Addr} {H H2 : Hp} (h : Box H b) (y : Same H H2) : Up b H H2 := (Up.refl h).same y
theorem same_upd {H : Hp} {p : Addr} {o : HO} (h : H p = none) : Same H (upd H p o) := fun b x e => by
  rw [upd_ne (ne_of_none e h)]
  exact e
theorem Box.ne {H : Hp} {b p : Addr} (h : Box H b) (n : H p = none) : p ≠ b := by
  obtain ⟨i, j, e⟩ := h
  intro z
  rw [z, e] at n
  cases n
/-- a thing that is no list of two ints is not the box -/
theorem Box.neT {H : Hp} {b p : Addr} {xs : List V} (h : Box H b) (n : H p = some (.tup xs)) : p ≠ b := by
  obtain ⟨i, j, e⟩ := h
  intro z
  rw [z, e] at n
  cases n
/-- an object that H doesn't know, changed -/
theorem Up.mut {b : Addr} {H H1 : Hp} {p : Addr} {o : HO} (x : Up b H H1) (h : H p = none) (n : p ≠ b) : Up b H (upd H1 p o) :=
  ⟨fun c u e nc => by rw [upd_ne (ne_of_none e h)]; exact x.1 c u e nc, by obtain ⟨i, j, e⟩ := x.2; exact ⟨i, j, by rw [upd_ne (Ne.symm n)]; exact e⟩⟩
theorem Up.free {b : Addr} {H H1 : Hp} {p : Addr} (x : Up b H H1) (h : H1 p = none) : H p = none := by
  cases e : H p with
  | none => rfl
  | some o =>
    by_cases n : p = b
    · obtain ⟨i, j, e2⟩ := x.2
      rw [n, e2] at h
      cases h
    · rw [x.1 p o e n] at h
      cases h
def spSeed (K : PySem.W.Frag) : Sp := fun vs H Q _ => ∃ (a : Addr) (ns : List Int) (k : Nat), vs = [.ref a, .int k] ∧ SqL K H a (ns.map V.int) ∧
  ∀ p H', H p = none → Same H H' → Box H' p → Q (.ref p) H'
def spChoose : Sp := fun vs H Q _ => ∃ (b : Addr) (m : Int), vs = [.ref b, .int m] ∧ Box H b ∧ 0 < m ∧ m < 1073741824 ∧
  ∀ (d : Int) H', 0 ≤ d → d < m → Up b H H' → Q (.int d) H'
def spOneOf : Sp := fun vs H Q _ => ∃ (b l : Addr) (xs : List V), vs = [.ref b, .ref l] ∧ Box H b ∧ H l = some (.lst xs) ∧ l ≠ b ∧ 0 < xs.length ∧ xs.length < 1000 ∧
  ∀ (v : V) H', v ∈ xs → Up b H H' → Q v H'
theorem cell_at {ns : List Int} {k : Int} (h0 : 0 ≤ k) (h1 : k < ns.length) : ∃ z, atI (ns.map V.int) k = some (V.int z) := by
  obtain ⟨j, rfl⟩ := Int.eq_ofNat_of_zero_le h0
  have h2 : j < ns.length := by omega
  exact ⟨ns[j], atI_nat (by simp [h2])⟩
section
variable {P : Program} {w : World} {K : PySem.W.Frag} {mg : Str → Option Value} {base : Heap}
theorem sc_l_choose : FnScope ["_law_box", "_law_many", "_law_digit", "_law_raw"] ["_law_box", "_law_many"] (fnScope s_l_choose) := fnScope_by (by decide +kernel)
theorem cal_l_choose {f : Addr} {fd : FuncData} (F : Def K mg "_law_choose" s_l_choose f fd) (b : Binds K fd ["_law_box", "_law_many"] []) (T : Tx mg) : Cal P w K mg base 1 "_law_choose" spChoose [] := by
  refine cal0 F b .nil sc_l_choose (fun vs H Q E h => ?_) (fun cdv A outer s H vs Q E hr h => ?_)
  · obtain ⟨_, _, rfl, _⟩ := h; rfl
  · obtain ⟨bx, m, rfl, ⟨x, y, hb⟩, m0, m1, k⟩ := h
    refine ⟨_, (pss_cons (ps_if (pt_cmpR op_gt (pe_ix ix_list (pv 0) pe_int (fun _ _ => rfl)) pe_int (nomark _)) (pss_cons (ps_set (i := 2) sc_l_choose.nd rfl (.inl rfl) (pe_op op_mod (pe_callTy call_int1 (by rfl) T.b_int (by decide +kernel) (pa_cons (pe_ix ix_list (pv 0) pe_int (fun _ _ => rfl)) pa_nil)) (pv 1)))
    (pss_cons (ps_asg (pe_op op_fdiv (pe_ix ix_list (pv 0) pe_int (fun _ _ => rfl)) (pv 1)) (pg_sub (pv 0) pe_int set_list))
    (pss_one (ps_ret (pv 2))))) pss_nil)
    (pss_cons (ps_set (i := 3) sc_l_choose.nd rfl (.inl rfl) (pe_op op_mod (pe_callTy call_int1 (by rfl) T.b_int (by decide +kernel) (pa_cons (pe_op op_add (pe_op op_mul (pe_ix ix_list (pv 0) pe_int (fun _ _ => rfl)) pe_int) pe_int) pa_nil)) pe_int))
    (pss_cons (ps_asg (pe_op op_add (pe_op op_mod (pe_callTy call_int1 (by rfl) T.b_int (by decide +kernel) (pa_cons (pe_op op_add (pe_op op_mul (pv 3) pe_int) pe_int) pa_nil)) pe_int) pe_int) (pg_sub (pv 0) pe_int set_list))
    (pss_one (ps_ret (pe_op op_mod (pe_callTy call_int1 (by rfl) T.b_int (by decide +kernel) (pa_cons (pe_op op_fdiv (pe_op op_add (pe_op op_mul (pv 3) pe_int) (pe_ix ix_list (pv 0) pe_int (fun _ _ => rfl))) pe_int) pa_nil)) (pv 1))))))), ?_⟩
    have up : ∀ x' y' : Int, Up bx H (upd H bx (.lst [.int x', .int y'])) := fun x' y' => ⟨fun c o e n => by rw [upd_ne n]; exact e, _, _, upd_same⟩
    refine ⟨_, rfl, bx, _, _, _, rfl, rfl, SqL.of hb, atI_nat (j := 0) rfl, _, _, rfl, rfl, _, rfl, ?_⟩
    refine ite2 (fun h1 => ?_) (fun h1 => ?_)
    · refine ⟨_, rfl, bx, _, _, _, rfl, rfl, SqL.of hb, atI_nat (j := 0) rfl, .inl ⟨_, rfl, _, rfl, _, _, rfl, rfl, m0, ?_⟩⟩
      refine ⟨_, rfl, bx, _, _, _, rfl, rfl, SqL.of hb, atI_nat (j := 0) rfl, _, rfl, _, _, rfl, rfl, ⟨m0, m1⟩, _, rfl, bx, _, _, 0, rfl, rfl, hb, rfl, ?_⟩
      exact ⟨_, rfl, k _ _ (Int.emod_nonneg _ (by omega)) (Int.emod_lt_of_pos _ m0) (up _ _)⟩
    · refine ⟨_, rfl, bx, _, _, _, rfl, rfl, SqL.of hb, atI_nat (j := 1) rfl, _, _, rfl, rfl, .inr ⟨by decide, by decide⟩, _, _, rfl, rfl, .inl ⟨_, rfl, _, _, rfl, rfl, (by show (0 : Int) < 2147483563; decide), ?_⟩⟩
      refine ⟨_, rfl, _, _, rfl, rfl, .inr ⟨by decide, by decide⟩, _, _, rfl, rfl, .inl ⟨_, rfl, _, _, rfl, rfl, (by show (0 : Int) < 2147483629; decide), _, _, rfl, rfl, _, rfl, bx, _, _, 1, rfl, rfl, hb, rfl, ?_⟩⟩
      refine ⟨_, rfl, _, _, rfl, rfl, .inr ⟨by decide, by decide⟩, _, rfl, bx, _, _, _, rfl, rfl, SqL.of upd_same, atI_nat (j := 1) rfl, _, _, rfl, rfl, _, _, rfl, rfl, ⟨by decide, by decide⟩, .inl ⟨_, rfl, _, rfl, _, _, rfl, rfl, m0, ?_⟩⟩
      exact k _ _ (Int.emod_nonneg _ (by omega)) (Int.emod_lt_of_pos _ m0) (up _ _)
theorem sc_l_seed : FnScope ["_law_script", "_law_k", "_law_cell"] ["_law_script", "_law_k"] (fnScope s_l_seed) := fnScope_by (by decide +kernel)
theorem cal_l_seed {f : Addr} {fd : FuncData} (F : Def K mg "_law_seed" s_l_seed f fd) (b : Binds K fd ["_law_script", "_law_k"] []) (T : Tx mg) : Cal P w K mg base 1 "_law_seed" (spSeed K) [] := by
  refine cal0 F b .nil sc_l_seed (fun vs H Q E h => ?_) (fun cdv A outer s H vs Q E hr h => ?_)
  · obtain ⟨_, _, _, rfl, _⟩ := h; rfl
  · obtain ⟨a, ns, n, rfl, hS, k⟩ := h
    refine ⟨_, (pss_cons (ps_set (i := 2) sc_l_seed.nd rfl (.inl rfl) (pe_op op_add (pe_op op_mul pe_int (pv 1)) pe_int))
    (pss_cons (ps_if (pt_cmpR op_lt (pv 1) (pe_callB call_len_seq (by rfl) T.b_len (by decide +kernel) (pa_cons (pv 0) pa_nil)) (nomark _)) (pss_one (ps_set (i := 2) sc_l_seed.nd rfl (.inl rfl) (pe_callB call_abs (by rfl) T.b_abs (by decide +kernel) (pa_cons (pe_ix ix_list (pv 0) (pv 1) (fun _ _ => rfl)) pa_nil)))) (pss_one (ps_if (pt_cmpR op_gt (pe_callB call_len_seq (by rfl) T.b_len (by decide +kernel) (pa_cons (pv 0) pa_nil)) pe_int (nomark _)) (pss_one (ps_set (i := 2) sc_l_seed.nd rfl (.inl rfl) (pe_op op_add (pv 2) (pe_op op_mul (pe_op op_mod (pe_callTy call_int1 (by rfl) T.b_int (by decide +kernel) (pa_cons (pe_callB call_abs (by rfl) T.b_abs (by decide +kernel) (pa_cons (pe_ix ix_list (pv 0) (pe_op op_mod (pe_callTy call_int1 (by rfl) T.b_int (by decide +kernel) (pa_cons (pv 1) pa_nil)) (pe_callB call_len_seq (by rfl) T.b_len (by decide +kernel) (pa_cons (pv 0) pa_nil))) (fun _ _ => rfl)) pa_nil)) pa_nil)) pe_int) pe_int)))) pss_nil)))
    (pss_one (ps_ret (pe_lst (pa_cons (pe_ifExp (pt_cmpR op_ge (pv 2) (pe_op op_pow pe_int pe_int) (nomark _)) (pv 2) pe_int) (pa_cons (pe_op op_add (pe_op op_mod (pe_callTy call_int1 (by rfl) T.b_int (by decide +kernel) (pa_cons (pe_op op_add (pe_op op_mul (pe_op op_mod (pe_callTy call_int1 (by rfl) T.b_int (by decide +kernel) (pa_cons (pv 2) pa_nil)) pe_int) pe_int) (pe_op op_mul pe_int (pv 1))) pa_nil)) pe_int) pe_int) pa_nil))))))), ?_⟩
    have fin : ∀ z : Int, tRet (tLst (tCons (tIf (tTest (tOp (rI0 fun i j => V.bl (decide (j ≤ i))) (tVar 2) (tOp (rI CPow fun i j => V.int (i ^ j.toNat)) (tC (V.int 10)) (tC (V.int 18))))) (tVar 2) (tC (V.int 0))) (tCons (tOp (rI0 fun i j => V.int (i + j)) (tOp (rI (fun _ j => 0 < j) fun i j => V.int (i % j)) (tCB (fun xs H Q => (∃ i, xs = [V.int i] ∧ Q (V.int i) H) ∨ ∃ k, xs = [V.bl k] ∧ Q (V.int (if k = true then 1 else 0)) H) (tCons (tOp (rI0 fun i j => V.int (i + j)) (tOp (rI CMul fun i j => V.int (i * j)) (tOp (rI (fun _ j => 0 < j) fun i j => V.int (i % j)) (tCB (fun xs H Q => (∃ i, xs = [V.int i] ∧ Q (V.int i) H) ∨ ∃ k, xs = [V.bl k] ∧ Q (V.int (if k = true then 1 else 0)) H) (tCons (tVar 2) tNil)) (tC (V.int 2147483629))) (tC (V.int 48271))) (tOp (rI CMul fun i j => V.int (i * j)) (tC (V.int 39019)) (tVar 1))) tNil)) (tC (V.int 2147483629))) (tC (V.int 1))) tNil))) { nx := fun _ H' => Q .non H', rt := Q } [some (.ref a), some (.int n), some (.int z)] H := by
      intro z
      refine ⟨_, rfl, _, _, rfl, rfl, ⟨by decide, by decide, by decide⟩, _, _, rfl, rfl, _, rfl, ?_⟩
      refine ite2 (fun h1 => ?_) (fun h1 => ?_)
      all_goals
        first
          | refine ⟨_, rfl, _, rfl, .inl ⟨_, rfl, _, _, rfl, rfl, (by show (0 : Int) < 2147483629; decide), _, _, rfl, rfl, .inr ⟨by decide, by decide⟩, _, rfl, _, _, rfl, rfl, .inl ⟨by decide, by decide⟩, _, _, rfl, rfl, .inl ⟨_, rfl, _, _, rfl, rfl, (by show (0 : Int) < 2147483629; decide), _, _, rfl, rfl, ?_⟩⟩⟩
          | refine ⟨_, rfl, .inl ⟨_, rfl, _, _, rfl, rfl, (by show (0 : Int) < 2147483629; decide), _, _, rfl, rfl, .inr ⟨by decide, by decide⟩, _, rfl, _, _, rfl, rfl, .inl ⟨by decide, by decide⟩, _, _, rfl, rfl, .inl ⟨_, rfl, _, _, rfl, rfl, (by show (0 : Int) < 2147483629; decide), _, _, rfl, rfl, ?_⟩⟩⟩
        exact ⟨by show 2 ≤ sizeLine; decide, fun p hp => k p _ hp (same_upd hp) ⟨_, _, upd_same⟩⟩
    refine ⟨_, rfl, _, _, rfl, rfl, .inl ⟨by decide, by decide⟩, _, _, rfl, rfl, ?_⟩
    refine ⟨_, rfl, _, rfl, a, _, rfl, .inl hS, _, _, rfl, rfl, _, rfl, ?_⟩
    refine ite2 (fun h1 => ?_) (fun h1 => ?_)
    · have h2 : (n : Int) < ((ns.map V.int).length : Int) := of_decide_eq_true h1
      rw [List.length_map] at h2
      obtain ⟨z, hz⟩ := cell_at (ns := ns) (by omega : (0 : Int) ≤ n) h2
      refine ⟨_, rfl, _, rfl, a, _, _, _, rfl, rfl, hS, hz, _, rfl, ?_⟩
      exact fin _
    · refine ⟨_, rfl, a, _, rfl, .inl hS, _, _, rfl, rfl, _, rfl, ?_⟩
      refine ite2 (fun h3 => ?_) (fun h3 => ?_)
      · have h4 : (0 : Int) < ((ns.map V.int).length : Int) := of_decide_eq_true h3
        have h5 := h4
        rw [List.length_map] at h5
        obtain ⟨z, hz⟩ := cell_at (ns := ns) (k := (n : Int) % ((ns.map V.int).length : Int)) (Int.emod_nonneg _ (by omega)) (by have := Int.emod_lt_of_pos (n : Int) h4; rw [List.length_map] at this ⊢; exact this)
        refine ⟨_, rfl, _, rfl, _, rfl, .inl ⟨_, rfl, _, rfl, a, _, rfl, .inl hS, _, _, rfl, rfl, h4, a, _, _, _, rfl, rfl, hS, hz, _, rfl, .inl ⟨_, rfl, _, _, rfl, rfl, (by show (0 : Int) < 2147483629; decide), _, _, rfl, rfl, .inr ⟨by decide, by decide⟩, _, _, rfl, rfl, ?_⟩⟩⟩
        exact fin _
      · exact fin _
theorem sc_l_one_of : FnScope ["_law_box", "_law_some"] ["_law_box", "_law_some"] (fnScope s_l_one_of) := fnScope_by (by decide +kernel)
theorem cal_l_one_of {f : Addr} {fd : FuncData} (F : Def K mg "_law_one_of" s_l_one_of f fd) (b : Binds K fd ["_law_box", "_law_some"] []) (T : Tx mg) (c_l_choose : Cal P w K mg base 1 "_law_choose" spChoose []) : Cal P w K mg base 2 "_law_one_of" spOneOf [] := by
  refine cal0 F b .nil sc_l_one_of (fun vs H Q E h => ?_) (fun cdv A outer s H vs Q E hr h => ?_)
  · obtain ⟨_, _, _, rfl, _⟩ := h; rfl
  · obtain ⟨bx, l, xs, rfl, hb, hl, nl, x0, x1, k⟩ := h
    refine ⟨_, (pss_one (ps_ret (pe_ix ix_list (pv 1) (pe_c c_l_choose hr (by decide) rfl (pa_cons (pv 0) (pa_cons (pe_callB call_len_seq (by rfl) T.b_len (by decide +kernel) (pa_cons (pv 1) pa_nil)) pa_nil))) (fun _ _ => rfl)))), ?_⟩
    refine ⟨_, rfl, _, rfl, _, rfl, l, _, rfl, .inl (SqL.of hl), bx, _, rfl, hb, by omega, by omega, fun d H' d0 d1 u => ?_⟩
    obtain ⟨j, rfl⟩ := Int.eq_ofNat_of_zero_le d0
    have hj : j < xs.length := by omega
    have g : xs[j]? = some xs[j] := by simp [hj]
    exact ⟨l, xs, _, xs[j], rfl, rfl, SqL.of (u.1 l _ hl nl), atI_nat g, k _ _ (List.getElem_mem hj) u⟩
end
end U

namespace U
/-! hits: the mathematics -/
inductive Kd | turn | lose | dbl
deriving DecidableEq
def kS : Kd → PySem.Str
  | .turn => "turn"
  | .lose => "lose"
  | .dbl => "double"
def arr (b : Bool) : Kd → List Bool
  | .turn => [!b]
  | .lose => []
  | .dbl => [b, b]
/-- what stands from last on, with the hits hs -/
def hitM (l : List Bool) : Nat → List (Nat × Kd) → List Bool
  | last, [] => l.drop last
  | last, (p, k) :: r => (l.drop last).take (p - last) ++ arr (l.getD p false) k ++ hitM l (p + 1) r
def Asc : Nat → Nat → List (Nat × Kd) → Prop
  | _, _, [] => True
  | lo, n, (p, _) :: r => lo ≤ p ∧ p < n ∧ Asc (p + 1) n r
def look (hs : List (Nat × Kd)) (i : Nat) : Option Kd := (hs.find? fun h => decide (h.1 = i)).map (·.2)
def sgn (o : Option Kd) (b : Bool) : List Bool := match o with | none => [b] | some k => arr b k
def go (f : Nat → Option Kd) : Nat → List Bool → List Bool
  | _, [] => []
  | i, b :: r => sgn (f i) b ++ go f (i + 1) r
theorem go_app (f : Nat → Option Kd) : ∀ (i : Nat) (a b : List Bool), go f i (a ++ b) = go f i a ++ go f (i + a.length) b
  | _, [], b => by simp [go]
  | i, x :: a, b => by
    show sgn (f i) x ++ go f (i + 1) (a ++ b) = (sgn (f i) x ++ go f (i + 1) a) ++ go f (i + (x :: a).length) b
    rw [go_app f (i + 1) a b, List.append_assoc, List.length_cons, show i + 1 + a.length = i + (a.length + 1) by omega]
theorem go_congr {f g : Nat → Option Kd} : ∀ (i : Nat) (a : List Bool), (∀ j, i ≤ j → j < i + a.length → f j = g j) → go f i a = go g i a
  | _, [], _ => rfl
  | i, x :: a, h => by
    show sgn (f i) x ++ go f (i + 1) a = sgn (g i) x ++ go g (i + 1) a
    rw [h i (Nat.le_refl _) (by simp), go_congr (i + 1) a fun j h1 h2 => h j (by omega) (by simp only [List.length_cons]; omega)]
theorem go_none : ∀ (i : Nat) (a : List Bool), go (fun _ => none) i a = a
  | _, [] => rfl
  | i, x :: a => by show [x] ++ go _ (i + 1) a = x :: a; rw [go_none (i + 1) a]; rfl
theorem look_lt : ∀ {hs : List (Nat × Kd)} {lo n i : Nat}, Asc lo n hs → i < lo → look hs i = none
  | [], _, _, _, _, _ => rfl
  | (p, k) :: r, lo, n, i, h, hi => by
    obtain ⟨h1, h2, h3⟩ := h
    have ih := look_lt h3 (i := i) (by omega)
    unfold look at ih ⊢
    rw [List.find?_cons_of_neg (by simp; omega)]
    exact ih
theorem look_cons {p : Nat} {k : Kd} {r : List (Nat × Kd)} {i : Nat} (h : i ≠ p) : look ((p, k) :: r) i = look r i := by
  unfold look
  rw [List.find?_cons_of_neg (by simp; omega)]
theorem look_head {p : Nat} {k : Kd} {r : List (Nat × Kd)} : look ((p, k) :: r) p = some k := by
  unfold look
  rw [List.find?_cons_of_pos (by simp)]
  rfl
theorem hitM_go (l : List Bool) : ∀ (hs : List (Nat × Kd)) (last : Nat), Asc last l.length hs → hitM l last hs = go (look hs) last (l.drop last)
  | [], last, _ => by
    show l.drop last = go (fun _ => none) last (l.drop last)
    rw [go_none]
  | (p, k) :: r, last, h => by
    obtain ⟨h1, h2, h3⟩ := h
    have ih := hitM_go l r (p + 1) h3
    show (l.drop last).take (p - last) ++ arr (l.getD p false) k ++ hitM l (p + 1) r = _
    have e : l.drop last = (l.drop last).take (p - last) ++ (l.getD p false :: l.drop (p + 1)) := by
      have e1 : (l.drop last).drop (p - last) = l.getD p false :: l.drop (p + 1) := by
        rw [List.drop_drop, show last + (p - last) = p by omega, List.drop_eq_getElem_cons h2]
        simp [h2]
      rw [← e1, List.take_append_drop]
    have el : ((l.drop last).take (p - last)).length = p - last := by rw [List.length_take, List.length_drop]; omega
    generalize hA : (l.drop last).take (p - last) = A at e el ⊢
    rw [e, go_app, el, show last + (p - last) = p by omega]
    show _ = go _ last A ++ (sgn (look ((p, k) :: r) p) (l.getD p false) ++ go (look ((p, k) :: r)) (p + 1) (l.drop (p + 1)))
    rw [look_head]
    have z1 : go (look ((p, k) :: r)) last A = A := by
      rw [go_congr (g := fun _ => none) last A fun j _ h5 => ?_, go_none]
      rw [look_cons (by omega)]
      exact look_lt h3 (by omega)
    have z2 : go (look ((p, k) :: r)) (p + 1) (l.drop (p + 1)) = go (look r) (p + 1) (l.drop (p + 1)) :=
      go_congr _ _ fun j h4 _ => look_cons (by omega)
    rw [z1, z2, ← ih, List.append_assoc]
    rfl
theorem hitM_all (l : List Bool) {hs : List (Nat × Kd)} (h : Asc 0 l.length hs) : hitM l 0 hs = go (look hs) 0 l := by
  rw [hitM_go l hs 0 h, List.drop_zero]
/-- all bits in one way -/
def every (k : Kd) (n : Nat) : List (Nat × Kd) := (List.range n).map fun i => (i, k)
theorem asc_from (k : Kd) : ∀ (m lo n : Nat), lo + m ≤ n → Asc lo n ((List.range' lo m).map fun i => (i, k))
  | 0, _, _, _ => trivial
  | m + 1, lo, n, h => by
    rw [List.range'_succ, List.map_cons]
    exact ⟨Nat.le_refl _, by omega, asc_from k m (lo + 1) n (by omega)⟩
theorem asc_every (k : Kd) (n : Nat) : Asc 0 n (every k n) := by
  unfold every
  rw [List.range_eq_range']
  exact asc_from k n 0 n (by omega)
theorem look_from (k : Kd) : ∀ (m lo i : Nat), lo ≤ i → i < lo + m → look ((List.range' lo m).map fun i => (i, k)) i = some k
  | 0, _, _, _, _ => by omega
  | m + 1, lo, i, h1, h2 => by
    rw [List.range'_succ, List.map_cons]
    by_cases e : i = lo
    · rw [e]; exact look_head
    · rw [look_cons e]
      exact look_from k m (lo + 1) i (by omega) (by omega)
theorem look_every (k : Kd) {n i : Nat} (h : i < n) : look (every k n) i = some k := by
  unfold every
  rw [List.range_eq_range']
  exact look_from k n 0 i (by omega) (by omega)
theorem go_const (k : Kd) : ∀ (i : Nat) (a : List Bool), go (fun _ => some k) i a = (a.map fun b => arr b k).flatten
  | _, [] => rfl
  | i, b :: r => by
    show arr b k ++ go _ (i + 1) r = _
    rw [go_const k (i + 1) r]
    rfl
theorem hit_every (k : Kd) (l : List Bool) : hitM l 0 (every k l.length) = (l.map fun b => arr b k).flatten := by
  rw [hitM_all l (asc_every k _), go_congr (g := fun _ => some k) 0 l (fun j _ h => look_every k (by omega)), go_const]
theorem hit_turn (l : List Bool) : hitM l 0 (every .turn l.length) = l.map not := by
  rw [hit_every]
  induction l with
  | nil => rfl
  | cons b r ih =>
    show arr b .turn ++ (r.map fun b => arr b .turn).flatten = _
    rw [ih]
    rfl
theorem hit_lose (l : List Bool) : hitM l 0 (every .lose l.length) = [] := by
  rw [hit_every]
  induction l with
  | nil => rfl
  | cons b r ih => simp [arr]
theorem hit_turn2 (l : List Bool) : hitM (l.map not) 0 (every .turn l.length) = l := by
  have e : l.length = (l.map not).length := by simp
  rw [e, hit_turn, List.map_map]
  have z : (not ∘ not) = id := by funext b; cases b <;> rfl
  rw [z, List.map_id]
end U

set_option maxRecDepth 100000
set_option maxHeartbeats 4000000
namespace U
open PySem PySem.Spec PyProof.Rows
open L2 hiding Fun CX0 E0 pass0 Fun.binds
open C8 Lx SX
local macro_rules | `(tactic| walk_at "g") => `(tactic| repeat (first | (refine ⟨_, rfl, ?_⟩) | (refine ⟨_, _, rfl, rfl, ?_⟩) | (refine ⟨rfl, ?_⟩) | (refine .inl ⟨_, rfl, ?_⟩)))
/-- a tuple of a number and a kind stands at p -/
def HitAt (H : Hp) (p : Addr) (h : Nat × Kd) : Prop := H p = some (.tup [.int (h.1 : Nat), .str (kS h.2)])
theorem HitAt.same {H H' : Hp} {p : Addr} {h : Nat × Kd} (x : HitAt H p h) (e : Same H H') : HitAt H' p h := e _ _ x
theorem hits_same {H H' : Hp} {ps : List Addr} {hs : List (Nat × Kd)} (x : Paired (HitAt H) ps hs) (e : Same H H') : Paired (HitAt H') ps hs := L2.Paired.mapP x fun _ _ h => h.same e
theorem paired_get {α β : Type} {F : α → β → Prop} : ∀ {l : List α} {m : List β} {i : Nat} {a : α}, Paired F l m → l[i]? = some a → ∃ b, m[i]? = some b ∧ F a b
  | _, _, 0, a, .cons h _, e => by
    cases e
    exact ⟨_, rfl, h⟩
  | _, _, i + 1, a, .cons _ t, e => paired_get (i := i) t e
theorem paired_len {α β : Type} {F : α → β → Prop} : ∀ {l : List α} {m : List β}, Paired F l m → l.length = m.length
  | _, _, .nil => rfl
  | _, _, .cons _ t => by rw [List.length_cons, List.length_cons, paired_len t]
def spTrue1 (C : V → Hp → Prop) : Sp := fun vs H Q _ => ∃ x, vs = [x] ∧ C x H ∧ ∀ H', Same H H' → Q (.bl true) H'
def spWord : Sp := fun vs H Q _ => ∃ (b : Addr) (few many : Nat), vs = [.ref b, .int few, .int many] ∧ Box H b ∧ few ≤ many ∧ many < 1000 ∧
  ∀ (l : List Bool) H', l.length ≤ many → Up b H H' → Q (.str (W l)) H'
def spOther : Sp := fun vs H Q _ => ∃ b : Bool, vs = [.str (W [b])] ∧ Q (.str (W [!b])) H
def spArriving : Sp := fun vs H Q _ => ∃ (b : Bool) (k : Kd), vs = [.str (W [b]), .str (kS k)] ∧ Q (.str (W (arr b k))) H
def spIsHit : Sp := fun vs H Q _ => ∃ (p : Addr) (h : Nat × Kd) (lo n : Nat), vs = [.ref p, .int lo, .int n] ∧ HitAt H p h ∧ lo ≤ h.1 ∧ h.1 < n ∧ ∀ H', Same H H' → Q (.bl true) H'
/-- a list or a tuple of hits -/
def Seq (K : PySem.W.Frag) (H : Hp) (a : Addr) (xs : List V) : Prop := H a = some (.lst xs) ∨ H a = some (.tup xs)
theorem Seq.same {K : PySem.W.Frag} {H H' : Hp} {a : Addr} {xs : List V} (x : Seq K H a xs) (e : Same H H') : Seq K H' a xs := x.elim (fun h => .inl (e _ _ h)) (fun h => .inr (e _ _ h))
def spHit (K : PySem.W.Frag) : Sp := fun vs H Q _ => ∃ (l : List Bool) (a : Addr) (ps : List Addr) (hs : List (Nat × Kd)), vs = [.str (W l), .ref a] ∧ Seq K H a (ps.map V.ref) ∧ Paired (HitAt H) ps hs ∧ Asc 0 l.length hs ∧ l.length ≤ 1000 ∧
  ∀ H', Same H H' → Q (.str (W (hitM l 0 hs))) H'
theorem arr_len (b : Bool) (k : Kd) : (arr b k).length ≤ 2 := by cases k <;> cases b <;> decide
theorem asc_drop : ∀ {hs : List (Nat × Kd)} {lo n i : Nat} {h : Nat × Kd} {r : List (Nat × Kd)}, Asc lo n hs → hs.drop i = h :: r → lo ≤ h.1 ∧ h.1 < n ∧ Asc (h.1 + 1) n r
  | [], _, _, i, _, _, _, e => by simp at e
  | (p, k) :: r, lo, n, 0, h, r', a, e => by
    obtain ⟨rfl, rfl⟩ := List.cons.inj e
    exact a
  | (p, k) :: r, lo, n, i + 1, h, r', a, e => by
    obtain ⟨a1, a2, a3⟩ := a
    obtain ⟨b1, b2, b3⟩ := asc_drop a3 e
    exact ⟨by omega, b2, b3⟩
section
variable {P : Program} {w : World} {K : PySem.W.Frag} {mg : Str → Option Value} {base : Heap}
theorem sc_is_integer : FnScope ["value"] ["value"] (fnScope s_is_integer) := fnScope_by (by decide +kernel)
theorem cal_is_integer {f : Addr} {fd : FuncData} (F : Def K mg "is_integer" s_is_integer f fd) (b : Binds K fd ["value"] []) (T : Tx mg) : Cal P w K mg base 1 "is_integer" (spTrue1 fun x _ => ∃ i, x = .int i) [] := by
  refine cal0 F b .nil sc_is_integer (fun vs H Q E h => ?_) (fun cdv A outer s H vs Q E hr h => ?_)
  · obtain ⟨_, rfl, _⟩ := h; rfl
  · obtain ⟨_, rfl, ⟨i, rfl⟩, k⟩ := h
    refine ⟨_, (pss_one (ps_ret (pe_and (pe_callB call_isi (by rfl) T.b_isinstance (by decide +kernel) (pa_cons (pv 0) (pa_cons (pe_bltn (v := .ty "int") (u := .type "int") (by rfl) T.b_int (by decide +kernel) rfl) pa_nil))) (pe_one (pe_not (pe_callB call_isi (by rfl) T.b_isinstance (by decide +kernel) (pa_cons (pv 0) (pa_cons (pe_bltn (v := .ty "bool") (u := .type "bool") (by rfl) T.b_bool (by decide +kernel) rfl) pa_nil)))))))), ?_⟩
    refine ⟨_, rfl, _, _, _, _, true, rfl, .ty _, .base (.int i), kit_ty (by decide +kernel), _, rfl, ?_⟩
    refine ⟨_, rfl, _, _, _, _, false, rfl, .ty _, .base (.int i), kit_ty (by decide +kernel), _, rfl, ?_⟩
    exact k H (Same.refl H)
theorem sc_is_number : FnScope ["value"] ["value"] (fnScope s_is_number) := fnScope_by (by decide +kernel)
theorem cal_is_number {f : Addr} {fd : FuncData} (F : Def K mg "is_number" s_is_number f fd) (b : Binds K fd ["value"] []) (T : Tx mg) (c_is_integer : Cal P w K mg base 1 "is_integer" (spTrue1 fun x _ => ∃ i, x = .int i) []) :
    Cal P w K mg base 2 "is_number" (spTrue1 fun x _ => ∃ i : Nat, x = .int i) [] := by
  refine cal0 F b .nil sc_is_number (fun vs H Q E h => ?_) (fun cdv A outer s H vs Q E hr h => ?_)
  · obtain ⟨_, rfl, _⟩ := h; rfl
  · obtain ⟨_, rfl, ⟨i, rfl⟩, k⟩ := h
    refine ⟨_, (pss_one (ps_ret (pe_and (pe_c c_is_integer hr (by decide) rfl (pa_cons (pv 0) pa_nil)) (pe_one (pe_cmpR op_ge (pv 0) pe_int (nomark _)))))), ?_⟩
    refine ⟨_, rfl, _, rfl, ⟨_, rfl⟩, fun H1 s1 => ⟨_, rfl, ?_⟩⟩
    exact ⟨_, rfl, _, _, rfl, rfl, q_dec (show (0 : Int) ≤ i by omega) (k H1 s1)⟩
theorem sc_is_sequence : FnScope ["value"] ["value"] (fnScope s_is_sequence) := fnScope_by (by decide +kernel)
theorem cal_is_sequence {f : Addr} {fd : FuncData} (F : Def K mg "is_sequence" s_is_sequence f fd) (b : Binds K fd ["value"] []) (T : Tx mg) :
    Cal P w K mg base 1 "is_sequence" (spTrue1 fun x H => ∃ a xs, x = .ref a ∧ Seq K H a xs) [] := by
  refine cal0 F b .nil sc_is_sequence (fun vs H Q E h => ?_) (fun cdv A outer s H vs Q E hr h => ?_)
  · obtain ⟨_, rfl, _⟩ := h; rfl
  · obtain ⟨_, rfl, ⟨a, xs, rfl, hS⟩, k⟩ := h
    refine ⟨_, (pss_one (ps_ret (pe_callB call_isiT (by rfl) T.b_isinstance (by decide +kernel) (pa_cons (pv 0) (pa_cons (pe_tup (pa_cons (pe_bltn (v := .ty "list") (u := .type "list") (by rfl) T.b_list (by decide +kernel) rfl) (pa_cons (pe_bltn (v := .ty "tuple") (u := .type "tuple") (by rfl) T.b_tuple (by decide +kernel) rfl) pa_nil))) pa_nil))))), ?_⟩
    refine ⟨_, rfl, by show 2 ≤ sizeLine; decide, fun p hp => ?_⟩
    have s1 := same_upd (o := .tup [.ty "list", .ty "tuple"]) hp
    rcases hS with hS | hS
    · exact ⟨_, p, _, _, _, true, rfl, upd_same, .cons (.ty _) (.cons (.ty _) .nil), .base (.lst (s1 _ _ hS)), kitAny_cons (kit_ty (by decide +kernel) : PySem.W.kitOne K (.type "list") (.type "list") = some true) (fun z => Bool.noConfusion z) (fun _ => rfl), k _ s1⟩
    · exact ⟨_, p, _, _, _, true, rfl, upd_same, .cons (.ty _) (.cons (.ty _) .nil), .base (.tup (s1 _ _ hS)), kitAny_cons (kit_ty (by decide +kernel) : PySem.W.kitOne K (.type "tuple") (.type "list") = some false) (fun _ => kitAny_cons (kit_ty (by decide +kernel) : PySem.W.kitOne K (.type "tuple") (.type "tuple") = some true) (fun z => Bool.noConfusion z) (fun _ => rfl)) (fun z => Bool.noConfusion z), k _ s1⟩
theorem sc_other : FnScope ["bit"] ["bit"] (fnScope s_other) := fnScope_by (by decide +kernel)
theorem cal_other {f : Addr} {fd : FuncData} (F : Def K mg "other" s_other f fd) (b : Binds K fd ["bit"] []) (T : Tx mg) : Cal P w K mg base 1 "other" spOther [] := by
  refine cal0 F b .nil sc_other (fun vs H Q E h => ?_) (fun cdv A outer s H vs Q E hr h => ?_)
  · obtain ⟨_, rfl, _⟩ := h; rfl
  · obtain ⟨b, rfl, k⟩ := h
    refine ⟨_, (pss_one (ps_ret (pe_ifExp (pt_cmpR op_eq (pv 0) pe_str (nomark _)) pe_str pe_str))), ?_⟩
    refine ⟨_, rfl, rfl, _, rfl, ?_⟩
    cases b with
    | false =>
      refine iteDT (show V.str (W [false]) = V.str "0" by decide +kernel) ?_
      show Q (.str "1") H
      rw [W_1]; exact k
    | true =>
      refine iteDF (show ¬ (V.str (W [true]) = V.str "0") by decide +kernel) ?_
      show Q (.str "0") H
      rw [W_0]; exact k
theorem sc_arriving : FnScope ["bit", "kind"] ["bit", "kind"] (fnScope s_arriving) := fnScope_by (by decide +kernel)
theorem cal_arriving {f : Addr} {fd : FuncData} (F : Def K mg "arriving" s_arriving f fd) (b : Binds K fd ["bit", "kind"] []) (T : Tx mg) (c_other : Cal P w K mg base 1 "other" spOther []) : Cal P w K mg base 2 "arriving" spArriving [] := by
  refine cal0 F b .nil sc_arriving (fun vs H Q E h => ?_) (fun cdv A outer s H vs Q E hr h => ?_)
  · obtain ⟨_, _, rfl, _⟩ := h; rfl
  · obtain ⟨b, kd, rfl, k⟩ := h
    refine ⟨_, (pss_cons (ps_if (pt_cmpR op_eq (pv 1) pe_str (nomark _)) (pss_one (ps_ret (pe_joined (.cons (pe_fmt (pv 0)) (.cons (pe_fmt (pv 0)) .nil))))) pss_nil)
    (pss_one (ps_ret (pe_ifExp (pt_cmpR op_eq (pv 1) pe_str (nomark _)) pe_str (pe_c c_other hr (by decide) rfl (pa_cons (pv 0) pa_nil)))))), ?_⟩
    have hb : (W [b]).length ≤ sizeLine := by rw [W_len]; exact sl_len (by show 1 ≤ 100000; decide)
    have hb2 : (Str.empty ++ W [b]).length ≤ sizeLine := by
      rw [show Str.empty = W [] from rfl, W_cat, W_len]; exact sl_len (by show 1 ≤ 100000; decide)
    have hb3 : (Str.empty ++ W [b] ++ W [b]).length ≤ sizeLine := by
      rw [show Str.empty = W [] from rfl, W_cat, W_cat, W_len]; exact sl_len (by show 2 ≤ 100000; decide)
    refine ⟨_, rfl, rfl, _, rfl, ?_⟩
    cases kd with
    | dbl =>
      refine iteDT (show V.str (kS .dbl) = V.str "double" by decide +kernel) ?_
      refine ⟨_, rfl, .inl ⟨_, rfl, hb, _, rfl, hb2, _, rfl, .inl ⟨_, rfl, hb, _, rfl, hb3, ?_⟩⟩⟩
      show Q (.str (Str.empty ++ W [b] ++ W [b])) H
      rw [show Str.empty = W [] from rfl, W_cat, W_cat]
      exact k
    | lose =>
      refine iteDF (show ¬ (V.str (kS .lose) = V.str "double") by decide +kernel) ?_
      refine ⟨_, rfl, rfl, _, rfl, ?_⟩
      refine iteDT (show V.str (kS .lose) = V.str "lose" by decide +kernel) ?_
      show Q (.str "") H
      rw [W_nil]; exact k
    | turn =>
      refine iteDF (show ¬ (V.str (kS .turn) = V.str "double") by decide +kernel) ?_
      refine ⟨_, rfl, rfl, _, rfl, ?_⟩
      refine iteDF (show ¬ (V.str (kS .turn) = V.str "lose") by decide +kernel) ?_
      exact ⟨_, rfl, b, rfl, k⟩
theorem sc_is_hit : FnScope ["value", "least", "many"] ["value", "least", "many"] (fnScope s_is_hit) := fnScope_by (by decide +kernel)
theorem cal_is_hit {f aK : Addr} {fd : FuncData} (F : Def K mg "is_hit" s_is_hit f fd) (b : Binds K fd ["value", "least", "many"] []) (T : Tx mg) (g_KINDS : mg "KINDS" = some (.ref aK)) (hK : ∀ H, SqT K H aK [.str "double", .str "lose", .str "turn"])
    (c_is_number : Cal P w K mg base 2 "is_number" (spTrue1 fun x _ => ∃ i : Nat, x = .int i) []) : Cal P w K mg base 3 "is_hit" spIsHit [] := by
  refine cal0 F b .nil sc_is_hit (fun vs H Q E h => ?_) (fun cdv A outer s H vs Q E hr h => ?_)
  · obtain ⟨_, _, _, _, rfl, _⟩ := h; rfl
  · obtain ⟨p, h, lo, n, rfl, hp, h1, h2, k1⟩ := h
    refine ⟨_, (pss_cons (ps_if (PW.pt (pw_or (pt_not (pt_val (pe_callB call_isi (by rfl) T.b_isinstance (by decide +kernel) (pa_cons (pv 0) (pa_cons (pe_bltn (v := .ty "tuple") (u := .type "tuple") (by rfl) T.b_tuple (by decide +kernel) rfl) pa_nil))))) (pw_or (pt_cmpR op_ne (pe_callB call_len_seq (by rfl) T.b_len (by decide +kernel) (pa_cons (pv 0) pa_nil)) pe_int (nomark _)) (pw_or (pt_not (pt_val (pe_c c_is_number hr (by decide) rfl (pa_cons (pe_ix ix_tup (pv 0) pe_int (fun _ _ => rfl)) pa_nil)))) (pw_or1 (pt_not (pt_val (pe_callB call_isi (by rfl) T.b_isinstance (by decide +kernel) (pa_cons (pe_ix ix_tup (pv 0) pe_int (fun _ _ => rfl)) (pa_cons (pe_bltn (v := .ty "str") (u := .type "str") (by rfl) T.b_str (by decide +kernel) rfl) pa_nil)))))))))) (pss_one (ps_ret pe_bl)) pss_nil)
    (pss_one (ps_ret (pe_and (pe_chain op_le op_lt (pv 1) (pe_ix ix_tup (pv 0) pe_int (fun _ _ => rfl)) (pv 2)) (pe_one (pe_cmpR op_in_seq (pe_ix ix_tup (pv 0) pe_int (fun _ _ => rfl)) (pe_glob (v := .ref aK) (by rfl) g_KINDS rfl) (by with_unfolding_all rfl))))))), ?_⟩
    refine ⟨_, rfl, _, _, _, _, true, rfl, .ty _, .base (.tup hp), kit_ty (by decide +kernel), _, rfl, iteF ?_⟩
    refine ⟨_, rfl, p, _, rfl, .inr (SqT.of hp), rfl, _, rfl, iteF ?_⟩
    refine ⟨_, rfl, p, _, _, _, rfl, rfl, SqT.of hp, atI_nat (j := 0) rfl, _, rfl, ⟨_, rfl⟩, fun H1 s1 => ⟨_, rfl, iteF ?_⟩⟩
    have hp1 : HitAt H1 p h := hp.same s1
    refine ⟨_, rfl, p, _, _, _, rfl, rfl, SqT.of hp1, atI_nat (j := 1) rfl, _, _, _, _, true, rfl, .ty _, .base (.str _), kit_ty (by decide +kernel), _, rfl, iteF ?_⟩
    refine ⟨_, rfl, _, rfl, p, _, _, _, rfl, rfl, SqT.of hp1, atI_nat (j := 0) rfl, _, _, rfl, rfl, _, rfl, ?_⟩
    refine iteDT (show (lo : Int) ≤ (h.1 : Nat) by omega) ⟨_, rfl, _, _, rfl, rfl, _, rfl, ?_⟩
    refine iteDT (show ((h.1 : Nat) : Int) < n by omega) ⟨_, rfl, p, _, _, _, rfl, rfl, SqT.of hp1, atI_nat (j := 1) rfl, aK, _, rfl, .inr (hK H1), rfl, rfl, ?_⟩
    have e : inV (.str (kS h.2)) [.str "double", .str "lose", .str "turn"] = true := by
      generalize h.2 = kd
      cases kd <;> decide +kernel
    show Q (.bl (inV (.str (kS h.2)) [.str "double", .str "lose", .str "turn"])) H1
    rw [e]
    exact k1 H1 s1
end
end U

set_option maxRecDepth 100000
set_option maxHeartbeats 4000000
namespace U
open PySem PySem.Spec PyProof.Rows
open L2 hiding Fun CX0 E0 pass0 Fun.binds
open C8 Lx SX
theorem txt_mid {l : List Bool} {i j : Nat} (h : i ≤ j) (hj : j ≤ l.length) : Txt.slice (W l) (some (i : Int)) (some (j : Int)) = W ((l.drop i).take (j - i)) := by
  have e := beq_iff_eq.mp (PyProof.Rows.slice_closesL (x := W l) (i := i) (j := j) (by omega) (by omega) (by rw [W_len]; omega))
  refine e.trans ?_
  show S (((l.map bt).drop i).take ((j : Int) - i).toNat) = S (((l.drop i).take (j - i)).map bt)
  rw [List.map_take, List.map_drop, show ((j : Int) - i).toNat = j - i by omega]
theorem W_at {l : List Bool} {i : Nat} (h : i < l.length) : atI (W l).cps.toList ((i : Nat) : Int) = some (bt (l.getD i false)) := by
  rw [W_tl]
  refine atI_nat ?_
  rw [List.getElem?_map, List.getElem?_eq_getElem h]
  simp [h]
theorem hitM_len : ∀ (l : List Bool) (hs : List (Nat × Kd)) (last : Nat), (hitM l last hs).length ≤ (l.length + 2) * (hs.length + 1)
  | l, [], last => by
    show (l.drop last).length ≤ _
    rw [List.length_drop, List.length_nil]
    omega
  | l, (p, k) :: r, last => by
    show ((l.drop last).take (p - last) ++ arr (l.getD p false) k ++ hitM l (p + 1) r).length ≤ _
    have ih := hitM_len l r (p + 1)
    have a := arr_len (l.getD p false) k
    rw [List.length_append, List.length_append, List.length_take, List.length_drop, List.length_cons, Nat.mul_succ]
    have : min (p - last) (l.length - last) ≤ l.length := by omega
    omega
theorem asc_len : ∀ {hs : List (Nat × Kd)} {lo n : Nat}, Asc lo n hs → hs.length + lo ≤ n ∨ hs = []
  | [], _, _, _ => .inr rfl
  | (p, k) :: r, lo, n, ⟨h1, h2, h3⟩ => by
    rcases asc_len h3 with h | h
    · left; rw [List.length_cons]; omega
    · left; rw [h]; simp only [List.length_cons, List.length_nil]; omega
section
variable {P : Program} {w : World} {K : PySem.W.Frag} {mg : Str → Option Value} {base : Heap}
theorem sc_hit : FnScope ["line", "hits", "found", "last", "at", "one"] ["line", "hits"] (fnScope s_hit) := fnScope_by (by decide +kernel)
theorem cal_hit {f : Addr} {fd : FuncData} (F : Def K mg "hit" s_hit f fd) (b : Binds K fd ["line", "hits"] []) (T : Tx mg)
    (c_is_sequence : Cal P w K mg base 1 "is_sequence" (spTrue1 fun x H => ∃ a xs, x = .ref a ∧ Seq K H a xs) []) (c_is_hit : Cal P w K mg base 3 "is_hit" spIsHit []) (c_arriving : Cal P w K mg base 2 "arriving" spArriving []) :
    Cal P w K mg base 4 "hit" (spHit K) [] := by
  refine cal0 F b .nil sc_hit (fun vs H Q E h => ?_) (fun cdv A outer s H vs Q E hr h => ?_)
  · obtain ⟨_, _, _, _, rfl, _⟩ := h; rfl
  · obtain ⟨l, a, ps, hs, rfl, hS, hP, hA, hl, k⟩ := h
    refine ⟨_, (pss_cons (ps_if (pt_not (pt_val (pe_c c_is_sequence hr (by decide) rfl (pa_cons (pv 1) pa_nil)))) (pss_one ps_never) pss_nil)
    (pss_cons (ps_asg (pe_tup (pa_cons pe_str (pa_cons pe_int pa_nil))) (pg_tup rfl (pgs_cons (pg_name (i := 2) sc_hit.nd rfl (.inl rfl)) (pgs_cons (pg_name (i := 3) sc_hit.nd rfl (.inl rfl)) pgs_nil))))
    (pss_cons (ps_for PassesOwn.never rfl (pi_enumQ (by rfl) T.b_enumerate (pa_cons (pv 1) pa_nil)) (pg_tup rfl (pgs_cons (pg_name (i := 4) sc_hit.nd rfl (.inl rfl)) (pgs_cons (pg_name (i := 5) sc_hit.nd rfl (.inl rfl)) pgs_nil)))
    (pss_cons (ps_if (pt_not (pt_val (pe_c c_is_hit hr (by decide) rfl (pa_cons (pv 5) (pa_cons (pv 3) (pa_cons (pe_callB call_len_str (by rfl) T.b_len (by decide +kernel) (pa_cons (pv 0) pa_nil)) pa_nil)))))) (pss_one ps_never) pss_nil)
    (pss_cons (ps_set (i := 2) sc_hit.nd rfl (.inl rfl) (pe_joined (.cons (pe_fmt (pv 2)) (.cons (pe_fmt (pe_slice sl_txt (pv 0) (po_some (pv 3)) (po_some (pe_ix ix_tup (pv 5) pe_int (fun _ _ => rfl))))) (.cons (pe_fmt (pe_c c_arriving hr (by decide) rfl (pa_cons (pe_ix ix_str (pv 0) (pe_ix ix_tup (pv 5) pe_int (fun _ _ => rfl)) (fun _ _ => rfl)) (pa_cons (pe_ix ix_tup (pv 5) pe_int (fun _ _ => rfl)) pa_nil)))) .nil)))))
    (pss_one (ps_set (i := 3) sc_hit.nd rfl (.inl rfl) (pe_op op_add (pe_ix ix_tup (pv 5) pe_int (fun _ _ => rfl)) pe_int))))))
    (pss_one (ps_ret (pe_joined (.cons (pe_fmt (pv 2)) (.cons (pe_fmt (pe_slice sl_txt (pv 0) (po_some (pv 3)) po_none)) .nil)))))))), ?_⟩
    refine ⟨_, rfl, _, rfl, ⟨a, _, rfl, hS⟩, fun H1 s1 => ⟨_, rfl, iteF ?_⟩⟩
    refine ⟨by show 2 ≤ sizeLine; decide, fun p hp => ⟨p, _, rfl, SqT.of upd_same, rfl, _, _, rfl, _, _, rfl, rfl, ?_⟩⟩
    have s2 := s1.trans (same_upd (o := .tup [.str "", .int 0]) hp)
    generalize upd H1 p (.tup [.str "", .int 0]) = H2 at s2
    have lw : (W l).length ≤ sizeLine := by rw [W_len]; exact sl_len (by omega)
    let Pv : Nat → L2.St → Hp → Prop := fun i σ H' => ∃ (fnd : List Bool) (last : Nat) (v4 v5 : Option V), σ = [some (.str (W l)), some (.ref a), some (.str (W fnd)), some (.int (last : Nat)), v4, v5] ∧ Same H H' ∧ Asc last l.length (hs.drop i) ∧ last ≤ l.length ∧ fnd.length ≤ 2 * last ∧ hitM l 0 hs = fnd ++ hitM l last (hs.drop i)
    have h0 : Pv 0 [some (.str (W l)), some (.ref a), some (.str ""), some (.int 0), none, none] H2 :=
      ⟨[], 0, none, none, by rw [W_nil]; rfl, s2, hA, Nat.zero_le _, Nat.zero_le _, by rw [List.drop_zero, List.nil_append]⟩
    have fin : ∀ σ H3, Pv (ps.map V.ref).length σ H3 → (tRet (fun σ H Q => tJs [tFmt (tVar 2), tFmt (tSl rSlX (tVar 0) (tPart (tVar 3)) tNoPart)] Str.empty σ H fun out H1 => Q (.str out) H1)) { nx := fun _ H' => Q .non H', rt := Q } σ H3 := by
      rintro σ H3 ⟨fnd, last, v4, v5, rfl, s3, a3, l3, f3, e3⟩
      have hn : hs.drop (ps.map V.ref).length = [] := List.drop_eq_nil_of_le (by rw [List.length_map, paired_len hP]; exact Nat.le_refl _)
      rw [hn] at e3
      have eh : hitM l 0 hs = fnd ++ l.drop last := e3
      have ef : Str.empty ++ W fnd = W fnd := by rw [show Str.empty = W [] from rfl, W_cat, List.nil_append]
      have ed : Txt.slice (W l) (some (last : Int)) none = W (l.drop last) := by rw [W_drop (by omega), Int.toNat_natCast]
      refine ⟨_, rfl, .inl ⟨_, rfl, (by rw [W_len]; exact sl_len (by omega)), _, rfl, (by rw [ef, W_len]; exact sl_len (by omega)), _, rfl, _, rfl, _, rfl, _, rfl, lw, .inl ⟨_, rfl, ?_, _, rfl, ?_, ?_⟩⟩⟩
      · rw [ed, W_len, List.length_drop]; exact sl_len (by omega)
      · rw [ef, ed, W_cat, W_len, List.length_append, List.length_drop]; exact sl_len (by omega)
      · show Q (.str (Str.empty ++ W fnd ++ Txt.slice (W l) (some (last : Int)) none)) H3
        rw [ef, ed, W_cat, ← eh]
        exact k H3 s3
    rcases hS with hS | hS
    · refine .inl ⟨_, rfl, a, _, rfl, SqL.of (s2 _ _ hS), for_it (walk_enum (K := K) (a := a) (xs := ps.map V.ref)) Pv h0 (fun i σ H' _ ⟨_, _, _, _, _, q, _⟩ => SqL.of (q _ _ hS)) ?_ fin⟩
      rintro i x σ H3 H4 hi ⟨fnd, last, v4, v5, rfl, s3, a3, l3, f3, e3⟩ ⟨T, x1, x2, rfl, nT, rfl, g1, g2⟩
      have g3 : (ps.map V.ref)[i]? = some x2 := g2
      rw [List.getElem?_map] at g3
      obtain ⟨q, hq, rfl⟩ := Option.map_eq_some_iff.mp g3
      obtain ⟨h, hh, hat⟩ := paired_get hP hq
      cases g1
      have s4 := s3.trans (same_upd (o := .tup [.int (i : Nat), .ref q]) nT)
      generalize hH4 : upd H3 T (.tup [.int (i : Nat), .ref q]) = H4 at s4
      have hT4 : H4 T = some (.tup [.int (i : Nat), .ref q]) := by rw [← hH4]; exact upd_same
      have ed : hs.drop i = h :: hs.drop (i + 1) := by
        obtain ⟨hi', e⟩ := List.getElem?_eq_some_iff.mp hh
        rw [List.drop_eq_getElem_cons hi', e]
      rw [ed] at a3 e3
      obtain ⟨p1, p2, p3⟩ := a3
      have hat4 : HitAt H4 q h := hat.same s4
      refine ⟨T, _, rfl, SqT.of hT4, rfl, _, _, rfl, _, _, rfl, rfl, ?_⟩
      refine ⟨_, rfl, _, rfl, _, rfl, _, rfl, lw, q, h, last, (W l).length, rfl, hat4, p1, by rw [W_len]; exact p2, fun H5 s5 => ⟨_, rfl, iteF ?_⟩⟩
      have hat5 : HitAt H5 q h := hat4.same s5
      have ef : Str.empty ++ W fnd = W fnd := by rw [show Str.empty = W [] from rfl, W_cat, List.nil_append]
      have em := txt_mid (l := l) p1 (Nat.le_of_lt p2)
      have lt : ((l.drop last).take (h.1 - last)).length = h.1 - last := by rw [List.length_take, List.length_drop]; omega
      have la := arr_len (l.getD h.1 false) h.2
      refine ⟨_, rfl, .inl ⟨_, rfl, (by rw [W_len]; exact sl_len (by omega)), _, rfl, (by rw [ef, W_len]; exact sl_len (by omega)), _, rfl, _, rfl, _, rfl, _, rfl, q, _, _, _, rfl, rfl, SqT.of hat5, atI_nat (j := 0) rfl, _, rfl, _, rfl, lw, .inl ⟨_, rfl, ?_, _, rfl, ?_, ?_⟩⟩⟩
      · rw [em, W_len, lt]; exact sl_len (by omega)
      · rw [ef, em, W_cat, W_len, List.length_append, lt]; exact sl_len (by omega)
      · rw [ef, em, W_cat]
        refine ⟨_, rfl, _, rfl, q, _, _, _, rfl, rfl, SqT.of hat5, atI_nat (j := 0) rfl, _, _, _, rfl, rfl, lw, W_at p2, _, rfl, q, _, _, _, rfl, rfl, SqT.of hat5, atI_nat (j := 1) rfl, l.getD h.1 false, h.2, rfl, .inl ⟨_, rfl, (by rw [W_len]; exact sl_len (by omega)), _, rfl, ?_, ?_⟩⟩
        · rw [W_cat, W_len, List.length_append, List.length_append, lt]; exact sl_len (by omega)
        · rw [W_cat]
          refine ⟨_, rfl, q, _, _, _, rfl, rfl, SqT.of hat5, atI_nat (j := 0) rfl, _, _, rfl, rfl, ?_⟩
          refine ⟨fnd ++ (l.drop last).take (h.1 - last) ++ arr (l.getD h.1 false) h.2, h.1 + 1, _, _, rfl, s4.trans s5, p3, p2, ?_, ?_⟩
          · rw [List.length_append, List.length_append, lt]; omega
          · rw [e3]
            show fnd ++ ((l.drop last).take (h.1 - last) ++ arr (l.getD h.1 false) h.2 ++ hitM l (h.1 + 1) (hs.drop (i + 1))) = _
            simp only [List.append_assoc]
    · refine .inr ⟨_, rfl, a, _, rfl, SqT.of (s2 _ _ hS), for_it (walk_enumT (K := K) (a := a) (xs := ps.map V.ref)) Pv h0 (fun i σ H' _ ⟨_, _, _, _, _, q, _⟩ => SqT.of (q _ _ hS)) ?_ fin⟩
      rintro i x σ H3 H4 hi ⟨fnd, last, v4, v5, rfl, s3, a3, l3, f3, e3⟩ ⟨T, x1, x2, rfl, nT, rfl, g1, g2⟩
      have g3 : (ps.map V.ref)[i]? = some x2 := g2
      rw [List.getElem?_map] at g3
      obtain ⟨q, hq, rfl⟩ := Option.map_eq_some_iff.mp g3
      obtain ⟨h, hh, hat⟩ := paired_get hP hq
      cases g1
      have s4 := s3.trans (same_upd (o := .tup [.int (i : Nat), .ref q]) nT)
      generalize hH4 : upd H3 T (.tup [.int (i : Nat), .ref q]) = H4 at s4
      have hT4 : H4 T = some (.tup [.int (i : Nat), .ref q]) := by rw [← hH4]; exact upd_same
      have ed : hs.drop i = h :: hs.drop (i + 1) := by
        obtain ⟨hi', e⟩ := List.getElem?_eq_some_iff.mp hh
        rw [List.drop_eq_getElem_cons hi', e]
      rw [ed] at a3 e3
      obtain ⟨p1, p2, p3⟩ := a3
      have hat4 : HitAt H4 q h := hat.same s4
      refine ⟨T, _, rfl, SqT.of hT4, rfl, _, _, rfl, _, _, rfl, rfl, ?_⟩
      refine ⟨_, rfl, _, rfl, _, rfl, _, rfl, lw, q, h, last, (W l).length, rfl, hat4, p1, by rw [W_len]; exact p2, fun H5 s5 => ⟨_, rfl, iteF ?_⟩⟩
      have hat5 : HitAt H5 q h := hat4.same s5
      have ef : Str.empty ++ W fnd = W fnd := by rw [show Str.empty = W [] from rfl, W_cat, List.nil_append]
      have em := txt_mid (l := l) p1 (Nat.le_of_lt p2)
      have lt : ((l.drop last).take (h.1 - last)).length = h.1 - last := by rw [List.length_take, List.length_drop]; omega
      have la := arr_len (l.getD h.1 false) h.2
      refine ⟨_, rfl, .inl ⟨_, rfl, (by rw [W_len]; exact sl_len (by omega)), _, rfl, (by rw [ef, W_len]; exact sl_len (by omega)), _, rfl, _, rfl, _, rfl, _, rfl, q, _, _, _, rfl, rfl, SqT.of hat5, atI_nat (j := 0) rfl, _, rfl, _, rfl, lw, .inl ⟨_, rfl, ?_, _, rfl, ?_, ?_⟩⟩⟩
      · rw [em, W_len, lt]; exact sl_len (by omega)
      · rw [ef, em, W_cat, W_len, List.length_append, lt]; exact sl_len (by omega)
      · rw [ef, em, W_cat]
        refine ⟨_, rfl, _, rfl, q, _, _, _, rfl, rfl, SqT.of hat5, atI_nat (j := 0) rfl, _, _, _, rfl, rfl, lw, W_at p2, _, rfl, q, _, _, _, rfl, rfl, SqT.of hat5, atI_nat (j := 1) rfl, l.getD h.1 false, h.2, rfl, .inl ⟨_, rfl, (by rw [W_len]; exact sl_len (by omega)), _, rfl, ?_, ?_⟩⟩
        · rw [W_cat, W_len, List.length_append, List.length_append, lt]; exact sl_len (by omega)
        · rw [W_cat]
          refine ⟨_, rfl, q, _, _, _, rfl, rfl, SqT.of hat5, atI_nat (j := 0) rfl, _, _, rfl, rfl, ?_⟩
          refine ⟨fnd ++ (l.drop last).take (h.1 - last) ++ arr (l.getD h.1 false) h.2, h.1 + 1, _, _, rfl, s4.trans s5, p3, p2, ?_, ?_⟩
          · rw [List.length_append, List.length_append, lt]; omega
          · rw [e3]
            show fnd ++ ((l.drop last).take (h.1 - last) ++ arr (l.getD h.1 false) h.2 ++ hitM l (h.1 + 1) (hs.drop (i + 1))) = _
            simp only [List.append_assoc]
end
end U

set_option maxRecDepth 100000
set_option maxHeartbeats 4000000
namespace U
open PySem PySem.Spec PyProof.Rows
open L2 hiding Fun CX0 E0 pass0 Fun.binds
open C8 Lx SX
theorem mem2 {v : V} (h : v ∈ ([.str "0", .str "1"] : List V)) : ∃ b : Bool, v = .str (W [b]) := by
  rcases List.mem_cons.mp h with rfl | h
  · exact ⟨false, by rw [W_0]⟩
  · rcases List.mem_cons.mp h with rfl | h
    · exact ⟨true, by rw [W_1]⟩
    · cases h
def bitsV (l : List Bool) : List V := (l.map fun b => W [b]).map V.str
theorem lens_bits (l : List Bool) : ((l.map fun b => W [b]).map (·.length)).sum = l.length := by
  induction l with
  | nil => rfl
  | cons b r ih => rw [List.map_cons, List.map_cons, List.sum_cons, ih, W_len, List.length_cons]; simp only [List.length_cons, List.length_nil]; omega
def KdKey (hs : List (Nat × Kd)) : List (Key × V) := hs.map fun h => (Sum.inl (h.1 : Int), V.str (kS h.2))
theorem asc_mono : ∀ {hs : List (Nat × Kd)} {lo n m : Nat}, Asc lo n hs → n ≤ m → Asc lo m hs
  | [], _, _, _, _, _ => trivial
  | (p, k) :: r, lo, n, m, ⟨h1, h2, h3⟩, h => ⟨h1, by omega, asc_mono h3 h⟩
theorem asc_snoc : ∀ {hs : List (Nat × Kd)} {lo i : Nat} {k : Kd}, Asc lo i hs → lo ≤ i → Asc lo (i + 1) (hs ++ [(i, k)])
  | [], lo, i, k, _, h => ⟨h, Nat.lt_succ_self _, trivial⟩
  | (p, _) :: r, lo, i, k, ⟨h1, h2, h3⟩, h => ⟨h1, by omega, asc_snoc h3 (by omega)⟩
theorem mem3 {v : V} (h : v ∈ ([.str "turn", .str "lose", .str "double"] : List V)) : ∃ k : Kd, v = .str (kS k) := by
  rcases List.mem_cons.mp h with rfl | h
  · exact ⟨.turn, rfl⟩
  · rcases List.mem_cons.mp h with rfl | h
    · exact ⟨.lose, rfl⟩
    · rcases List.mem_cons.mp h with rfl | h
      · exact ⟨.dbl, rfl⟩
      · cases h
theorem paired_snoc {α β : Type} {F : α → β → Prop} : ∀ {l : List α} {m : List β} {a : α} {b : β}, Paired F l m → F a b → Paired F (l ++ [a]) (m ++ [b])
  | _, _, _, _, .nil, h => .cons h .nil
  | _, _, _, _, .cons x t, h => .cons x (paired_snoc t h)
theorem hits_up {b : Addr} {H H' : Hp} {ps : List Addr} {hs : List (Nat × Kd)} (hb : Box H b) (x : Paired (HitAt H) ps hs) (e : Up b H H') : Paired (HitAt H') ps hs :=
  L2.Paired.mapP x fun p _ h => e.1 _ _ h (hb.neT h)
theorem hits_upd {H : Hp} {D : Addr} {xs : List V} {o : HO} {ps : List Addr} {hs : List (Nat × Kd)} (hD : H D = some (.lst xs)) (x : Paired (HitAt H) ps hs) : Paired (HitAt (upd H D o)) ps hs :=
  L2.Paired.mapP x fun p _ h => by
    have n : p ≠ D := ne_of h hD (by intro z; cases z)
    show upd H D o p = _
    rw [upd_ne n]; exact h
theorem val_hits : ∀ (hs : List (Nat × Kd)) (acc : List (Key × V)) (lo n i : Nat), Asc lo n hs → valV (mergeK acc (KdKey hs)) (Sum.inl (i : Int)) = ((look hs i).map fun k => V.str (kS k)).or (valV acc (Sum.inl (i : Int)))
  | [], acc, lo, n, i, _ => rfl
  | (p, k) :: r, acc, lo, n, i, ⟨h1, h2, h3⟩ => by
    show valV (mergeK (putK acc (Sum.inl (p : Int)) (V.str (kS k))) (KdKey r)) (Sum.inl (i : Int)) = _
    rw [val_hits r _ (p + 1) n i h3, valV_put]
    by_cases e : i = p
    · subst e
      rw [look_lt h3 (Nat.lt_succ_self _), look_head, if_pos rfl]
      rfl
    · rw [look_cons e, if_neg (fun z => e (by have := Sum.inl.inj z; omega))]
theorem paired_keys {K : PySem.W.Frag} {H : Hp} {ps : List Addr} : ∀ {qs : List Addr} {hs : List (Nat × Kd)}, Paired (HitAt H) qs hs → Paired (fun p kv => SqT K H p [kV kv.1, kv.2]) qs (KdKey hs)
  | _, _, .nil => .nil
  | _, _, .cons h t => .cons (SqT.of h) (paired_keys (ps := ps) t)
theorem keys_len (hs : List (Nat × Kd)) : (KdKey hs).length = hs.length := by unfold KdKey; rw [List.length_map]
/-- what comes for a bit: the dict of the law -/
def comes (b : Bool) : List (Key × V) := mergeK [] [(Sum.inr "", .str (W [b])), (Sum.inr "turn", .str (W [!b])), (Sum.inr "lose", .str (W [])), (Sum.inr "double", .str (W [b, b]))]
def kOf : Option Kd → Str
  | none => ""
  | some k => kS k
theorem comes_at : ∀ (b : Bool) (o : Option Kd), valV (comes b) (Sum.inr (kOf o)) = some (.str (W (sgn o b)))
  | true, none => by decide +kernel
  | true, some .turn => by decide +kernel
  | true, some .lose => by decide +kernel
  | true, some .dbl => by decide +kernel
  | false, none => by decide +kernel
  | false, some .turn => by decide +kernel
  | false, some .lose => by decide +kernel
  | false, some .dbl => by decide +kernel
theorem go_snoc (f : Nat → Option Kd) (l : List Bool) {i : Nat} {b : Bool} (h : l[i]? = some b) : go f 0 (l.take (i + 1)) = go f 0 (l.take i) ++ sgn (f i) b := by
  have hi := (List.getElem?_eq_some_iff.mp h).1
  rw [List.take_add_one, h, go_app]
  show go f 0 (l.take i) ++ (sgn (f (0 + (l.take i).length)) b ++ []) = _
  rw [List.append_nil, List.length_take, Nat.min_eq_left (Nat.le_of_lt hi), Nat.zero_add]
theorem sgn_len (o : Option Kd) (b : Bool) : (sgn o b).length ≤ 2 := by
  cases o with
  | none => show 1 ≤ 2; decide
  | some k => exact arr_len b k
theorem go_len (f : Nat → Option Kd) : ∀ (i : Nat) (l : List Bool), (go f i l).length ≤ 2 * l.length
  | _, [] => Nat.le_refl _
  | i, b :: r => by
    show (sgn (f i) b ++ go f (i + 1) r).length ≤ _
    have := go_len f (i + 1) r
    have := sgn_len (f i) b
    rw [List.length_append, List.length_cons]
    omega
def spArrived (K : PySem.W.Frag) : Sp := fun vs H Q _ => ∃ (l : List Bool) (a : Addr) (ps : List Addr) (hs : List (Nat × Kd)), vs = [.str (W l), .ref a] ∧ H a = some (.lst (ps.map V.ref)) ∧ Paired (HitAt H) ps hs ∧ Asc 0 l.length hs ∧ l.length ≤ 1000 ∧
  ∀ H', Same H H' → Q (.str (W (go (look hs) 0 l))) H'
def spHits : Sp := fun vs H Q _ => ∃ (b : Addr) (n : Nat), vs = [.ref b, .int n] ∧ Box H b ∧ n ≤ 1000 ∧
  ∀ (a : Addr) (ps : List Addr) (hs : List (Nat × Kd)) H', H a = none → Up b H H' → H' a = some (.lst (ps.map V.ref)) → Paired (HitAt H') ps hs → Asc 0 n hs → Q (.ref a) H'
section
variable {P : Program} {w : World} {K : PySem.W.Frag} {mg : Str → Option Value} {base : Heap}
theorem sc_l_word : FnScope ["_law_box", "_law_few", "_law_many", "_law_turn"] ["_law_box", "_law_few", "_law_many"] (fnScope s_l_word) := fnScope_by (by decide +kernel)
theorem cal_l_word {f : Addr} {fd : FuncData} (F : Def K mg "_law_word" s_l_word f fd) (b : Binds K fd ["_law_box", "_law_few", "_law_many"] []) (T : Tx mg)
    (c_l_choose : Cal P w K mg base 1 "_law_choose" spChoose []) (c_l_one_of : Cal P w K mg base 2 "_law_one_of" spOneOf []) : Cal P w K mg base 3 "_law_word" spWord [] := by
  refine cal0 F b .nil sc_l_word (fun vs H Q E h => ?_) (fun cdv A outer s H vs Q E hr h => ?_)
  · obtain ⟨_, _, _, rfl, _⟩ := h; rfl
  · obtain ⟨bx, few, many, rfl, hb, h1, h2, k⟩ := h
    refine ⟨_, (pss_one (ps_ret (pe_join pe_str (pe_lc (own := [("_law_turn", 3)]) (g := gName 3) (by rfl) sc_l_word.nd (pi_range1 (by rfl) T.b_range (pa_cons (pe_op op_add (pv 1) (pe_c c_l_choose hr (by decide) rfl (pa_cons (pv 0) (pa_cons (pe_op op_add (pe_op op_sub (pv 2) (pv 1)) pe_int) pa_nil)))) pa_nil)) (blkOk_by (own := [("_law_turn", 3)]) (N := ["_law_box", "_law_few", "_law_many", "_law_turn"]) (sc := fnScope s_l_word) (by decide +kernel)) (fun _ _ _ _ _ => (pg_name (i := 3) sc_l_word.nd rfl (.inl rfl))) (fun _ _ _ _ _ => pts_nil) (fun _ _ _ _ _ => (pe_c c_l_one_of hr (by decide) rfl (pa_cons (pv 0) (pa_cons (pe_lst (pa_cons pe_str (pa_cons pe_str pa_nil))) pa_nil)))))))), ?_⟩
    refine ⟨⟨_, rfl⟩, ?_⟩
    refine ⟨_, rfl, _, rfl, _, rfl, _, rfl, _, _, rfl, rfl, _, _, rfl, rfl, bx, _, rfl, hb, (by omega), (by omega), fun d H1 d0 d1 u1 => ?_⟩
    refine ⟨_, _, rfl, rfl, _, rfl, by omega, by omega, fun D nD => ?_⟩
    have nb : D ≠ bx := u1.2.ne nD
    refine lc_it (walk_range (lo := 0) (n := ((few : Int) + d).toNat)) (fun i H2 => ∃ l : List Bool, l.length = i ∧ Up bx H H2 ∧ H2 D = some (.lst (bitsV l)))
      ⟨[], rfl, u1.mut (u1.free nD) nb, upd_same⟩ (fun _ _ _ _ => trivial) ?_ ?_
    · rintro i x H2 H3 hi ⟨l, rfl, u2, hD⟩ ⟨rfl, rfl⟩
      refine ⟨rfl, ?_⟩
      refine ⟨_, rfl, by show 2 ≤ sizeLine; decide, fun p hp => ?_⟩
      have np : p ≠ bx := u2.2.ne hp
      refine ⟨bx, p, _, rfl, u2.2.same (same_upd hp), upd_same, np, by decide, by decide, fun v H4 hv u4 => ?_⟩
      obtain ⟨b, rfl⟩ := mem2 hv
      have hD4 : H4 D = some (.lst (bitsV l)) := u4.1 _ _ (same_upd hp _ _ hD) nb
      refine ⟨_, hD4, ?_, l ++ [b], by simp, ?_, ?_⟩
      · unfold bitsV; rw [List.length_map, List.length_map]; exact sl_lt (by omega)
      · exact ((u2.same (same_upd hp)).trans u4).mut (u1.free nD) nb
      · rw [upd_same]; unfold bitsV; simp
    · rintro H2 ⟨l, hl, u2, hD⟩
      refine ⟨_, D, l.map fun b => W [b], rfl, rfl, .inl (SqL.of hD), ?_, ?_⟩
      · rw [lens_bits]
        have e0 : ("" : Str).length = 0 := by decide +kernel
        rw [e0]; omega
      · show Q (.str (Txt.join "" (l.map fun b => W [b]))) H2
        rw [join_bits]
        exact k l H2 (by omega) u2
theorem sc_l_hits : FnScope ["_law_box", "_law_many", "_law_found", "_law_at"] ["_law_box", "_law_many"] (fnScope s_l_hits) := fnScope_by (by decide +kernel)
theorem cal_l_hits {f : Addr} {fd : FuncData} (F : Def K mg "_law_hits" s_l_hits f fd) (b : Binds K fd ["_law_box", "_law_many"] []) (T : Tx mg)
    (c_l_choose : Cal P w K mg base 1 "_law_choose" spChoose []) (c_l_one_of : Cal P w K mg base 2 "_law_one_of" spOneOf []) : Cal P w K mg base 3 "_law_hits" spHits [] := by
  refine cal0 F b .nil sc_l_hits (fun vs H Q E h => ?_) (fun cdv A outer s H vs Q E hr h => ?_)
  · obtain ⟨_, _, rfl, _⟩ := h; rfl
  · obtain ⟨bx, n, rfl, hb, h1, k⟩ := h
    refine ⟨_, (pss_cons (ps_set (i := 2) sc_l_hits.nd rfl (.inl rfl) (pe_lst pa_nil))
    (pss_cons (ps_for PassesOwn.never rfl (pi_range1 (by rfl) T.b_range (pa_cons (pv 1) pa_nil)) (pg_name (i := 3) sc_l_hits.nd rfl (.inl rfl))
    (pss_one (ps_if (pt_cmpR op_eq (pe_c c_l_choose hr (by decide) rfl (pa_cons (pv 0) (pa_cons pe_int pa_nil))) pe_int (nomark _)) (pss_one (ps_expr (pe_bm PySem.F.plainAttrs_list PySem.F.slot_list_append PySem.F.type_list_append mt_append (pv 2) (pa_cons (pe_tup (pa_cons (pv 3) (pa_cons (pe_c c_l_one_of hr (by decide) rfl (pa_cons (pv 0) (pa_cons (pe_lst (pa_cons pe_str (pa_cons pe_str (pa_cons pe_str pa_nil)))) pa_nil))) pa_nil))) pa_nil)))) pss_nil)))
    (pss_one (ps_ret (pv 2))))), ?_⟩
    refine ⟨Nat.zero_le _, fun D nD => ?_⟩
    have nb : D ≠ bx := hb.ne nD
    refine ⟨_, rfl, _, rfl, by omega, by omega, ?_⟩
    refine for_it (walk_range (lo := 0) (n := ((n : Int)).toNat)) (fun i σ H2 => ∃ (ps : List Addr) (hs : List (Nat × Kd)) (v3 : Option V), σ = [some (.ref bx), some (.int n), some (.ref D), v3] ∧ Up bx H H2 ∧ H2 D = some (.lst (ps.map V.ref)) ∧ Paired (HitAt H2) ps hs ∧ Asc 0 i hs ∧ hs.length ≤ i)
      ⟨[], [], none, rfl, (Up.refl hb).mut nD nb, upd_same, .nil, trivial, Nat.le_refl _⟩ (fun _ _ _ _ _ => trivial) ?_ ?_
    · rintro i x σ H2 H3 hi ⟨ps, hs, v3, rfl, u2, hD, hp, ha, hl⟩ ⟨rfl, rfl⟩
      refine ⟨_, rfl, bx, _, rfl, u2.2, by decide, by decide, fun d H4 d0 d1 u4 => ⟨rfl, _, rfl, ?_⟩⟩
      have hD4 := u4.1 _ _ hD nb
      have hp4 := hits_up u2.2 hp u4
      have u5 := u2.trans u4
      refine ite2 (fun _ => ?_) (fun _ => ?_)
      · refine ⟨_, rfl, .inl ⟨rfl, _, SqL.of hD4⟩, _, rfl, _, rfl, by show 3 ≤ sizeLine; decide, fun q hq => ?_⟩
        have nq : q ≠ bx := u5.2.ne hq
        refine ⟨bx, q, _, rfl, u5.2.same (same_upd hq), upd_same, nq, by decide, by decide, fun v H6 hv u6 => ⟨by show 2 ≤ sizeLine; decide, fun t ht => ?_⟩⟩
        obtain ⟨kd, rfl⟩ := mem3 hv
        have b5 : Box (upd H4 q (.lst [.str "turn", .str "lose", .str "double"])) bx := u5.2.same (same_upd hq)
        have hD6 := u6.1 _ _ (same_upd hq _ _ hD4) nb
        have hp6 := hits_up b5 (hits_same hp4 (same_upd hq)) u6
        have u7 := ((u5.same (same_upd hq)).trans u6).same (same_upd (o := .tup [.int (0 + (i : Int)), .str (kS kd)]) ht)
        have nDt : D ≠ t := ne_of_none hD6 ht
        have hD7 : upd H6 t (.tup [.int (0 + (i : Int)), .str (kS kd)]) D = some (.lst (ps.map V.ref)) := by rw [upd_ne nDt]; exact hD6
        refine ⟨D, _, _, rfl, rfl, hD7, ?_, ?_⟩
        · rw [List.length_map, paired_len hp]; exact sl_lt (by omega)
        · refine ⟨ps ++ [t], hs ++ [(i, kd)], _, rfl, u7.mut nD nb, ?_, ?_, asc_snoc ha (Nat.zero_le _), by rw [List.length_append]; simp only [List.length_cons, List.length_nil]; omega⟩
          · rw [upd_same, List.map_append]; rfl
          · refine hits_upd hD7 (paired_snoc (hits_same hp6 (same_upd ht)) ?_)
            show upd H6 t _ t = _
            rw [upd_same]
            show some (HO.tup [V.int (0 + (i : Int)), _]) = _
            rw [Int.zero_add]
      · exact ⟨ps, hs, _, rfl, u5, hD4, hp4, asc_mono ha (Nat.le_succ _), by omega⟩
    · rintro σ H2 ⟨ps, hs, v3, rfl, u2, hD, hp, ha, hl⟩
      exact ⟨_, rfl, k D ps hs H2 nD u2 hD hp (by rw [Int.toNat_natCast] at ha; exact ha)⟩
theorem sc_l_arrived : FnScope ["_law_line", "_law_told", "_law_kinds", "_law_found", "_law_at", "_law_bit", "_law_kind", "_law_comes"] ["_law_line", "_law_told"] (fnScope s_l_arrived) := fnScope_by (by decide +kernel)
theorem cal_l_arrived {f : Addr} {fd : FuncData} (F : Def K mg "_law_arrived" s_l_arrived f fd) (b : Binds K fd ["_law_line", "_law_told"] []) (T : Tx mg) : Cal P w K mg base 1 "_law_arrived" (spArrived K) [] := by
  refine cal0 F b .nil sc_l_arrived (fun vs H Q E h => ?_) (fun cdv A outer s H vs Q E hr h => ?_)
  · obtain ⟨_, _, _, _, rfl, _⟩ := h; rfl
  · obtain ⟨l, a, ps, hs, rfl, hS, hP, hA, hl, k⟩ := h
    refine ⟨_, (pss_cons (ps_par (i := 2) (j := 3) (by rfl) sc_l_arrived.nd rfl rfl (by decide) rfl rfl (pa_cons (pe_callTy (call_dictP rfl) (by rfl) T.b_dict (by decide +kernel) (pa_cons (pv 1) pa_nil)) (pa_cons pe_str pa_nil)) (by rfl))
    (pss_cons (ps_for PassesOwn.never rfl (pi_enumS (by rfl) T.b_enumerate (pa_cons (pv 0) pa_nil)) (pg_tup rfl (pgs_cons (pg_name (i := 4) sc_l_arrived.nd rfl (.inl rfl)) (pgs_cons (pg_name (i := 5) sc_l_arrived.nd rfl (.inl rfl)) pgs_nil)))
    (pss_cons (ps_set (i := 6) sc_l_arrived.nd rfl (.inl rfl) (pe_dget2 (hu_of hr) (pv 2) (pv 4) pe_str ⟨rfl, rfl, rfl, rfl⟩))
    (pss_cons (ps_set (i := 7) sc_l_arrived.nd rfl (.inl rfl) (pe_disp (pps_cons pe_str (pv 5) (pps_cons pe_str (pe_ifExp (pt_cmpR op_eq (pv 5) pe_str (nomark _)) pe_str pe_str) (pps_cons pe_str pe_str (pps_cons pe_str (pe_op op_add_str (pv 5) (pv 5)) pps_nil)))) (by rfl) (by rfl) (fun z => by cases z) (by decide)))
    (pss_one (ps_set (i := 3) sc_l_arrived.nd rfl (.inl rfl) (pe_op op_add_str (pv 3) (pe_dget (hu_of hr) (pv 7) (pv 6) (fun _ _ => rfl))))))))
    (pss_one (ps_ret (pv 3))))), ?_⟩
    refine ⟨_, rfl, a, ps, KdKey hs, rfl, SqL.of hS, paired_keys (ps := ps) hP, fun q hq => ⟨_, _, rfl, ?_⟩⟩
    have s1 := same_upd (o := .dK (mergeK [] (KdKey hs))) hq
    have hq1 : upd H q (.dK (mergeK [] (KdKey hs))) q = some (.dK (mergeK [] (KdKey hs))) := upd_same
    generalize upd H q (.dK (mergeK [] (KdKey hs))) = H1 at s1 hq1
    refine ⟨_, rfl, W l, rfl, for_it walk_enumS (fun i σ H2 => ∃ v4 v5 v6 v7 : Option V, σ = [some (.str (W l)), some (.ref a), some (.ref q), some (.str (W (go (look hs) 0 (l.take i)))), v4, v5, v6, v7] ∧ Same H1 H2)
      ⟨none, none, none, none, by rw [W_nil]; rfl, Same.refl _⟩ (fun _ _ _ _ _ => trivial) ?_ ?_⟩
    · rintro i x σ H2 H3 hi ⟨v4, v5, v6, v7, rfl, s2⟩ ⟨T, c, rfl, nT, rfl, hc⟩
      obtain ⟨b, hbi, rfl⟩ := W_get hc
      have hT : upd H2 T (.tup [.int (i : Nat), .str ⟨#[bt b]⟩]) T = some (.tup [.int (i : Nat), .str (W [b])]) := upd_same
      have s3 := s2.trans (same_upd (o := .tup [.int (i : Nat), .str ⟨#[bt b]⟩]) nT)
      generalize upd H2 T (.tup [.int (i : Nat), .str ⟨#[bt b]⟩]) = H3 at s3 hT
      refine ⟨T, _, rfl, SqT.of hT, rfl, _, _, rfl, _, _, rfl, rfl, ?_⟩
      have ev : valV (mergeK [] (KdKey hs)) (Sum.inl (i : Int)) = (look hs i).map fun k => V.str (kS k) := by
        rw [val_hits hs [] 0 l.length i hA, valV_nil]; cases look hs i <;> rfl
      have eg : (valV (mergeK [] (KdKey hs)) (Sum.inl (i : Int))).getD (.str "") = .str (kOf (look hs i)) := by
        rw [ev]; cases look hs i <;> rfl
      refine ⟨_, rfl, q, rfl, .inl ⟨_, .inl (s3 _ _ hq1)⟩, _, rfl, _, DGet.k (k := Sum.inl (i : Int)) (s3 _ _ hq1), ?_⟩
      rw [eg]
      have lb : (W [b]).length + (W [b]).length ≤ sizeLine := by rw [W_len]; exact sl_len (by show 2 ≤ 100000; decide)
      have lf : (W (go (look hs) 0 (l.take i))).length ≤ 2 * l.length := by
        rw [W_len]
        have := go_len (look hs) 0 (l.take i)
        rw [List.length_take] at this
        omega
      have rest : ∀ (H4 : Hp) (t : Addr), Same H1 H4 → H4 t = none → ∀ x3 x5, (tSeq (fun D σ H => D.nx σ H) (tAsg (tOp (fun x y H Q => ∃ i j, x = V.str i ∧ y = V.str j ∧ i.length + j.length ≤ sizeLine ∧ Q (V.str (i ++ j)) H) (tVar 3) (tDGet (tVar 7) (tVar 6))) (gName 3)))
          { nx := fun σ H2 => ∃ v4 v5 v6 v7 : Option V, σ = [some (.str (W l)), some (.ref a), some (.ref q), some (.str (W (go (look hs) 0 (l.take (i + 1))))), v4, v5, v6, v7] ∧ Same H1 H2, rt := Q } [some (.str (W l)), some (.ref a), some (.ref q), some (.str (W (go (look hs) 0 (l.take i)))), x3, x5, some (.str (kOf (look hs i))), some (.ref t)] (upd H4 t (.dK (comes b))) := by
        intro H4 t s4 ht x3 x5
        refine ⟨_, rfl, _, rfl, _, rfl, t, .str (W (sgn (look hs i) b)), rfl, ?_, _, _, rfl, rfl, ?_, ?_⟩
        · have := DGet.k (H := upd H4 t (.dK (comes b))) (a := t) (kvs := comes b) (k := Sum.inr (kOf (look hs i))) upd_same
          rw [comes_at] at this
          exact this
        · rw [W_len (sgn _ _)]
          have := sgn_len (look hs i) b
          exact sl_len (by omega)
        · rw [W_cat, ← go_snoc (look hs) l hbi]
          exact ⟨_, _, _, _, rfl, s4.trans (same_upd ht)⟩
      intro t ht
      cases b with
      | true =>
        refine ⟨_, rfl, _, rfl, rfl, _, rfl, iteDT (show V.str (W [true]) = V.str "1" by decide +kernel) ⟨_, rfl, _, rfl, _, _, rfl, rfl, lb, upd_same, [(Sum.inr "", .str (W [true])), (Sum.inr "turn", .str "0"), (Sum.inr "lose", .str ""), (Sum.inr "double", .str (W [true] ++ W [true]))], rfl, by decide, ?_⟩⟩
        have ec : mergeK [] [(Sum.inr "", .str (W [true])), (Sum.inr "turn", .str "0"), (Sum.inr "lose", .str ""), (Sum.inr "double", .str (W [true] ++ W [true]))] = comes true := by
          rw [W_cat, W_nil, W_0]; rfl
        rw [ec, upd_upd]
        exact rest H3 t s3 ht _ _
      | false =>
        refine ⟨_, rfl, _, rfl, rfl, _, rfl, iteDF (show ¬ V.str (W [false]) = V.str "1" by decide +kernel) ⟨_, rfl, _, rfl, _, _, rfl, rfl, lb, upd_same, [(Sum.inr "", .str (W [false])), (Sum.inr "turn", .str "1"), (Sum.inr "lose", .str ""), (Sum.inr "double", .str (W [false] ++ W [false]))], rfl, by decide, ?_⟩⟩
        have ec : mergeK [] [(Sum.inr "", .str (W [false])), (Sum.inr "turn", .str "1"), (Sum.inr "lose", .str ""), (Sum.inr "double", .str (W [false] ++ W [false]))] = comes false := by
          rw [W_cat, W_nil, W_1]; rfl
        rw [ec, upd_upd]
        exact rest H3 t s3 ht _ _
    · rintro σ H2 ⟨v4, v5, v6, v7, rfl, s2⟩
      refine ⟨_, rfl, ?_⟩
      rw [W_size, List.take_length]
      exact k H2 (s1.trans s2)
end
end U

set_option maxRecDepth 100000
set_option maxHeartbeats 4000000
namespace U
open PySem PySem.Spec PyProof.Rows
open L2 hiding Fun CX0 E0 pass0 Fun.binds
open C8 Lx SX
def hD (h : Nat × Kd) : PyData := .tuple [.int (h.1 : Nat), .str (kS h.2)]
theorem kS_ok : ∀ k : Kd, PyData.canLay0 (.str (kS k)) = true
  | .turn => by decide +kernel
  | .lose => by decide +kernel
  | .dbl => by decide +kernel
theorem hD_lay (h : Nat × Kd) : PyData.canLay0 (hD h) = true := by
  show (true && (PyData.canLay0 (.str (kS h.2)) && true)) = true
  rw [kS_ok]
  rfl
theorem hD_depth (h : Nat × Kd) : PyData.depth (hD h) = 1 := rfl
theorem hits_dp {K : PySem.W.Frag} {H : Hp} : ∀ {ps : List Addr} {hs : List (Nat × Kd)}, Paired (HitAt H) ps hs → DpAll K H (ps.map V.ref) (hs.map hD)
  | _, _, .nil => .nil
  | _, _, .cons h t => .cons (.tup (SqT.of h) (.cons (.int _) (.cons (.str _) .nil))) (hits_dp t)
theorem lay_all : ∀ hs : List (Nat × Kd), PyData.canLayAll0 (hs.map hD) = true
  | [] => rfl
  | h :: r => by
    show (PyData.canLay0 (hD h) && PyData.canLayAll0 (r.map hD)) = true
    rw [hD_lay, lay_all r]
    rfl
theorem depth_all : ∀ hs : List (Nat × Kd), PyData.depthAll (hs.map hD) ≤ 1
  | [] => Nat.zero_le _
  | h :: r => by
    show max (PyData.depth (hD h)) (PyData.depthAll (r.map hD)) ≤ 1
    rw [hD_depth]
    have := depth_all r
    omega
theorem shaped_hits (hs : List (Nat × Kd)) : SeqAt.shaped (.list (hs.map hD)) = true := by
  unfold SeqAt.shaped
  have e1 : PyData.canLay0 (.list (hs.map hD)) = true := lay_all hs
  have e2 : PyData.depth (.list (hs.map hD)) ≤ 64 := by
    show PyData.depthAll (hs.map hD) + 1 ≤ 64
    have := depth_all hs
    omega
  rw [e1, decide_eq_true e2]
  rfl
theorem eqv_hits (hs : List (Nat × Kd)) : PyData.eqv (.list (hs.map hD)) (.list (hs.map hD)) = true := SeqAt.eqv_refl _ (lay_all hs)
theorem every_succ (k : Kd) (n : Nat) : every k (n + 1) = every k n ++ [(n, k)] := by
  unfold every
  rw [List.range_succ, List.map_append]
  rfl
theorem every_len (k : Kd) (n : Nat) : (every k n).length = n := by unfold every; simp
def spLaw (K : PySem.W.Frag) : Sp := fun vs H Q _ => ∃ (a : Addr) (ns : List Int), vs = [.ref a] ∧ SqL K H a (ns.map V.int) ∧ ns.length ≤ 63 ∧ ∀ H', Q (.bl true) H'
section
variable {P : Program} {w : World} {K : PySem.W.Frag} {mg : Str → Option Value} {base : Heap}
theorem sc_law : FnScope ["_law_script", "_law_k", "_law_box", "_law_turn", "_law_line", "_law_told", "_law_handed", "_law_every", "_law_at"] ["_law_script"] (fnScope s_law) := fnScope_by (by decide +kernel)
theorem ok_law {f : Addr} {fd : FuncData} (F : Def K mg "law" s_law f fd) (T : Tx mg)
    (c_l_seed : Cal P w K mg base 1 "_law_seed" (spSeed K) []) (c_l_word : Cal P w K mg base 3 "_law_word" spWord []) (c_l_hits : Cal P w K mg base 3 "_law_hits" spHits []) (c_l_arrived : Cal P w K mg base 1 "_law_arrived" (spArrived K) [])
    (c_hit : Cal P w K mg base 4 "hit" (spHit K) []) : FnOk P w K mg base CX0 5 f fd ["_law_script"] (spLaw K) := by
  refine fn0 F.fn sc_law (fun vs H Q E h => ?_) (fun cdv A outer s H vs Q E hr h => ?_)
  · obtain ⟨_, _, rfl, _⟩ := h; rfl
  · obtain ⟨a, ns, rfl, hS, hlen, k⟩ := h
    refine ⟨_, (pss_cons (ps_for PassesOwn.never rfl (pi_range1 (by rfl) T.b_range (pa_cons (pe_callB (call_max2 rfl) (by rfl) T.b_max (by decide +kernel) (pa_cons pe_int (pa_cons (pe_callB (call_min2 rfl) (by rfl) T.b_min (by decide +kernel) (pa_cons pe_int (pa_cons (pe_callB call_len_seq (by rfl) T.b_len (by decide +kernel) (pa_cons (pv 0) pa_nil)) pa_nil))) pa_nil))) pa_nil)) (pg_name (i := 1) sc_law.nd rfl (.inl rfl))
    (pss_cons (ps_set (i := 2) sc_law.nd rfl (.inl rfl) (pe_c c_l_seed hr (by decide) rfl (pa_cons (pv 0) (pa_cons (pv 1) pa_nil))))
    (pss_one (ps_for PassesOwn.never rfl (pi_range1 (by rfl) T.b_range (pa_cons pe_int pa_nil)) (pg_name (i := 3) sc_law.nd rfl (.inl rfl))
    (pss_cons (ps_set (i := 4) sc_law.nd rfl (.inl rfl) (pe_c c_l_word hr (by decide) rfl (pa_cons (pv 2) (pa_cons pe_int (pa_cons pe_int pa_nil)))))
    (pss_cons (ps_set (i := 5) sc_law.nd rfl (.inl rfl) (pe_c c_l_hits hr (by decide) rfl (pa_cons (pv 2) (pa_cons (pe_callB call_len_str (by rfl) T.b_len (by decide +kernel) (pa_cons (pv 4) pa_nil)) pa_nil))))
    (pss_cons (ps_set (i := 6) sc_law.nd rfl (.inl rfl) (pe_callTy call_list_of (by rfl) T.b_list (by decide +kernel) (pa_cons (pv 5) pa_nil)))
    (pss_cons (ps_if (PW.pt (pw_or (pt_cmpR op_ne (pe_c c_hit hr (by decide) rfl (pa_cons (pv 4) (pa_cons (pv 6) pa_nil))) (pe_c c_l_arrived hr (by decide) rfl (pa_cons (pv 4) (pa_cons (pv 5) pa_nil))) (nomark _)) (pw_or1 (pt_cmpR (op_neD hr.units) (pv 6) (pv 5) (nomark _))))) (pss_one (ps_ret pe_bl)) pss_nil)
    (pss_cons (ps_if (PW.pt (pw_or (pt_cmpR op_ne (pe_c c_hit hr (by decide) rfl (pa_cons (pv 4) (pa_cons (pe_callTy call_tuple_of (by rfl) T.b_tuple (by decide +kernel) (pa_cons (pv 5) pa_nil)) pa_nil))) (pe_c c_l_arrived hr (by decide) rfl (pa_cons (pv 4) (pa_cons (pv 5) pa_nil))) (nomark _)) (pw_or1 (pt_cmpR op_ne (pe_c c_hit hr (by decide) rfl (pa_cons (pv 4) (pa_cons (pe_lst pa_nil) pa_nil))) (pv 4) (nomark _))))) (pss_one (ps_ret pe_bl)) pss_nil)
    (pss_one (ps_if (pt_cmpR op_ne (pv 4) pe_str (nomark _)) (pss_cons (ps_setLc (i := 7) (own := [("_law_at", 8)]) (g := gName 8) (by rfl) sc_law.nd rfl rfl (sw_true rfl rfl rfl (by decide +kernel)) (pi_range1 (by rfl) T.b_range (pa_cons (pe_callB call_len_str (by rfl) T.b_len (by decide +kernel) (pa_cons (pv 4) pa_nil)) pa_nil)) (blkOk_by (own := [("_law_at", 8)]) (N := ["_law_script", "_law_k", "_law_box", "_law_turn", "_law_line", "_law_told", "_law_handed", "_law_every", "_law_at"]) (sc := fnScope s_law) (by decide +kernel)) (fun _ _ _ _ _ => (pg_name (i := 8) sc_law.nd rfl (.inl rfl))) (fun _ _ _ _ _ => pts_nil) (fun _ _ _ _ _ => (pe_tup (pa_cons (pv 8) (pa_cons pe_str pa_nil)))))
    (pss_one (ps_if (PW.pt (pw_or (pt_cmpR op_ne (pe_c c_hit hr (by decide) rfl (pa_cons (pe_c c_hit hr (by decide) rfl (pa_cons (pv 4) (pa_cons (pv 7) pa_nil))) (pa_cons (pv 7) pa_nil))) (pv 4) (nomark _)) (pw_or1 (pt_cmpR op_ne (pe_c c_hit hr (by decide) rfl (pa_cons (pv 4) (pa_cons (pe_lc (own := [("_law_at", 8)]) (g := gName 8) (by rfl) sc_law.nd (pi_range1 (by rfl) T.b_range (pa_cons (pe_callB call_len_str (by rfl) T.b_len (by decide +kernel) (pa_cons (pv 4) pa_nil)) pa_nil)) (blkOk_by (own := [("_law_at", 8)]) (N := ["_law_script", "_law_k", "_law_box", "_law_turn", "_law_line", "_law_told", "_law_handed", "_law_every", "_law_at"]) (sc := fnScope s_law) (by decide +kernel)) (fun _ _ _ _ _ => (pg_name (i := 8) sc_law.nd rfl (.inl rfl))) (fun _ _ _ _ _ => pts_nil) (fun _ _ _ _ _ => (pe_tup (pa_cons (pv 8) (pa_cons pe_str pa_nil))))) pa_nil))) pe_str (nomark _))))) (pss_one (ps_ret pe_bl)) pss_nil))) pss_nil)))))))))))
    (pss_one (ps_ret (pe_cmpR op_eq (pe_c c_hit hr (by decide) rfl (pa_cons pe_str (pa_cons (pe_tup pa_nil) pa_nil))) pe_str (nomark _))))), ?_⟩
    refine ⟨_, rfl, a, _, rfl, .inl hS, _, _, rfl, _, _, rfl, _, rfl, by split <;> split <;> omega, by rw [List.length_map]; split <;> split <;> omega, ?_⟩
    refine for_it walk_range (fun i σ H2 => ∃ v1 v2 v3 v4 v5 v6 v7 v8 : Option V, σ = [some (.ref a), v1, v2, v3, v4, v5, v6, v7, v8] ∧ Same H H2)
      ⟨none, none, none, none, none, none, none, none, rfl, Same.refl _⟩ (fun _ _ _ _ _ => trivial) ?_ ?_
    · rintro i x σ H2 H2' hi ⟨v1, v2, v3, v4, v5, v6, v7, v8, rfl, s2⟩ ⟨rfl, rfl⟩
      refine ⟨_, rfl, _, rfl, a, ns, i, (by show [V.ref a, V.int (0 + (i : Int))] = _; rw [Int.zero_add]), s2.seq hS, fun bx H1 nb s1 hb => ?_⟩
      refine ⟨_, rfl, by decide, by decide, for_it walk_range (fun j σ H3 => ∃ v1 v3 v4 v5 v6 v7 v8 : Option V, σ = [some (.ref a), v1, some (.ref bx), v3, v4, v5, v6, v7, v8] ∧ Up bx H1 H3)
        ⟨_, _, _, _, _, _, _, rfl, Up.refl hb⟩ (fun _ _ _ _ _ => trivial) ?_ ?_⟩
      · rintro j y σ H3 H3' hj ⟨v1, v3, v4, v5, v6, v7, v8, rfl, u3⟩ ⟨rfl, rfl⟩
        -- line = _law_word(box, 0, 40)
        refine ⟨_, rfl, bx, 0, 40, rfl, u3.2, by decide, by decide, fun l H4 ll u4 => ?_⟩
        have lw : (W l).length ≤ sizeLine := by rw [W_len]; exact sl_len (by omega)
        have u4' := u3.trans u4
        -- told = _law_hits(box, len(line))
        refine ⟨_, rfl, _, rfl, _, rfl, lw, bx, (W l).length, rfl, u4'.2, by rw [W_len]; omega, fun t ps hs H5 nt u5 ht hp ha => ?_⟩
        rw [W_len] at ha
        have u5' := u4'.trans u5
        have tb : t ≠ bx := by intro z; rw [z] at nt; obtain ⟨_, _, e⟩ := u4'.2; rw [e] at nt; cases nt
        -- handed = list(told)
        refine ⟨_, rfl, t, _, rfl, .inl (SqL.of ht), fun hd nh => ?_⟩
        have s6 := same_upd (o := .lst (ps.map V.ref)) nh
        have hh6 : upd H5 hd (.lst (ps.map V.ref)) hd = some (.lst (ps.map V.ref)) := upd_same
        generalize upd H5 hd (.lst (ps.map V.ref)) = H6 at s6 hh6
        -- hit(line, handed) != arrived(line, told)
        refine ⟨_, rfl, _, rfl, l, hd, ps, hs, rfl, .inl hh6, hits_same hp s6, ha, by omega, fun H7 s7 => ?_⟩
        have s7' := s6.trans s7
        refine ⟨_, rfl, _, rfl, l, t, ps, hs, rfl, s7' _ _ ht, hits_same hp s7', ha, by omega, fun H8 s8 => ⟨rfl, _, rfl, iteNS (by rw [hitM_all l ha]) ?_⟩⟩
        have s8' := s7'.trans s8
        -- handed != told
        refine ⟨_, rfl, _, rfl, .list (hs.map hD), .list (hs.map hD), .lst (SqL.of (s8 _ _ (s7 _ _ hh6))) (hits_dp (hits_same hp s8')), .lst (SqL.of (s8' _ _ ht)) (hits_dp (hits_same hp s8')), shaped_hits hs, shaped_hits hs, _, rfl, iteBF (by rw [eqv_hits]; rfl) ?_⟩
        -- hit(line, tuple(told)) != arrived(line, told)
        refine ⟨_, rfl, _, rfl, t, _, rfl, .inl ⟨SqL.of (s8' _ _ ht), fun q nq => ?_⟩⟩
        have s9 := s8'.trans (same_upd (o := .tup (ps.map V.ref)) nq)
        have hq9 : upd H8 q (.tup (ps.map V.ref)) q = some (.tup (ps.map V.ref)) := upd_same
        generalize upd H8 q (.tup (ps.map V.ref)) = H9 at s9 hq9
        refine ⟨l, q, ps, hs, rfl, .inr hq9, hits_same hp s9, ha, by omega, fun H10 s10 => ?_⟩
        have s10' := s9.trans s10
        refine ⟨_, rfl, _, rfl, l, t, ps, hs, rfl, s10' _ _ ht, hits_same hp s10', ha, by omega, fun H11 s11 => ⟨rfl, _, rfl, iteNS (by rw [hitM_all l ha]) ?_⟩⟩
        have s11' := s10'.trans s11
        -- hit(line, []) != line
        refine ⟨_, rfl, Nat.zero_le _, fun e ne => ?_⟩
        have s12 := s11'.trans (same_upd (o := .lst []) ne)
        have he12 : upd H11 e (.lst []) e = some (.lst []) := upd_same
        generalize upd H11 e (.lst []) = H12 at s12 he12
        refine ⟨l, e, [], [], rfl, .inl he12, .nil, trivial, by omega, fun H13 s13 => ⟨_, rfl, rfl, _, rfl, iteNS (show V.str (W (l.drop 0)) = V.str (W l) by rw [List.drop_zero]) ?_⟩⟩
        have u13 : Up bx H1 H13 := u5'.same (s12.trans s13)
        -- if line != ''
        refine ⟨_, rfl, rfl, _, rfl, ?_⟩
        refine ite2 (fun _ => ?_) (fun _ => ?_)
        · -- every
          refine ⟨_, rfl, _, rfl, lw, _, rfl, by omega, by rw [W_len]; omega, fun D nD => ?_⟩
          have nDb : D ≠ bx := u13.2.ne nD
          have hn : ((((W l).length : Nat) : Int)).toNat = l.length := by rw [W_len]; rfl
          rw [hn]
          refine lc_it walk_range (fun i H => ∃ ps : List Addr, Up bx H1 H ∧ H D = some (.lst (ps.map V.ref)) ∧ Paired (HitAt H) ps (every .turn i))
            ⟨[], u13.mut (u13.free nD) nDb, upd_same, .nil⟩ (fun _ _ _ _ => trivial) ?_ ?_
          · rintro i x H14' H14 hi ⟨qs, u14, hD14, hp14⟩ ⟨rfl, rfl⟩
            refine ⟨rfl, ?_⟩
            refine ⟨_, rfl, by show 2 ≤ sizeLine; decide, fun t2 nt2 => ?_⟩
            have hD15 : upd H14 t2 (.tup [.int (0 + (i : Int)), .str "turn"]) D = some (.lst (qs.map V.ref)) := by rw [upd_ne (ne_of_none hD14 nt2)]; exact hD14
            refine ⟨_, hD15, ?_, qs ++ [t2], (u14.same (same_upd nt2)).mut (u13.free nD) nDb, ?_, ?_⟩
            · rw [List.length_map, paired_len hp14, every_len]; exact sl_lt (by omega)
            · rw [upd_same, List.map_append]; rfl
            · rw [every_succ]
              refine hits_upd hD15 (paired_snoc (hits_same hp14 (same_upd nt2)) ?_)
              show upd H14 t2 (.tup [.int (0 + (i : Int)), .str "turn"]) t2 = _
              rw [upd_same, Int.zero_add]
              rfl
          · rintro H14 ⟨qs, u14, hD14, hp14⟩
            -- hit(hit(line, every), every) != line
            refine ⟨_, rfl, _, rfl, l, D, qs, _, rfl, .inl hD14, hp14, asc_every _ _, by omega, fun H15 s15 => ?_⟩
            rw [hit_turn]
            refine ⟨_, rfl, l.map not, D, qs, every .turn l.length, rfl, .inl (s15 _ _ hD14), hits_same hp14 s15, by rw [List.length_map]; exact asc_every _ _, by rw [List.length_map]; omega, fun H16 s16 => ⟨_, rfl, rfl, _, rfl, iteNS (by rw [hit_turn2]) ?_⟩⟩
            have u16 := (u14.same s15).same s16
            refine ⟨_, rfl, _, rfl, _, rfl, lw, _, rfl, by omega, by rw [W_len]; omega, fun D2 nD2 => ?_⟩
            have nDb2 : D2 ≠ bx := u16.2.ne nD2
            rw [hn]
            refine lc_it walk_range (fun i H => ∃ ps : List Addr, Up bx H1 H ∧ H D2 = some (.lst (ps.map V.ref)) ∧ Paired (HitAt H) ps (every .lose i))
              ⟨[], u16.mut (u16.free nD2) nDb2, upd_same, .nil⟩ (fun _ _ _ _ => trivial) ?_ ?_
            · rintro i x H17' H17 hi ⟨qs2, u17, hD17, hp17⟩ ⟨rfl, rfl⟩
              refine ⟨rfl, ?_⟩
              refine ⟨_, rfl, by show 2 ≤ sizeLine; decide, fun t2 nt2 => ?_⟩
              have hD18 : upd H17 t2 (.tup [.int (0 + (i : Int)), .str "lose"]) D2 = some (.lst (qs2.map V.ref)) := by rw [upd_ne (ne_of_none hD17 nt2)]; exact hD17
              refine ⟨_, hD18, ?_, qs2 ++ [t2], (u17.same (same_upd nt2)).mut (u16.free nD2) nDb2, ?_, ?_⟩
              · rw [List.length_map, paired_len hp17, every_len]; exact sl_lt (by omega)
              · rw [upd_same, List.map_append]; rfl
              · rw [every_succ]
                refine hits_upd hD18 (paired_snoc (hits_same hp17 (same_upd nt2)) ?_)
                show upd H17 t2 (.tup [.int (0 + (i : Int)), .str "lose"]) t2 = _
                rw [upd_same, Int.zero_add]
                rfl
            · rintro H17 ⟨qs2, u17, hD17, hp17⟩
              refine ⟨l, D2, qs2, _, rfl, .inl hD17, hp17, asc_every _ _, by omega, fun H18 s18 => ⟨rfl, _, rfl, iteNS (by rw [hit_lose, W_nil]) ?_⟩⟩
              exact ⟨_, _, _, _, _, _, _, rfl, u17.same s18⟩
        · exact ⟨_, _, _, _, _, _, _, rfl, u13⟩
      · rintro σ H3 ⟨v1, v3, v4, v5, v6, v7, v8, rfl, u3⟩
        refine ⟨_, _, _, _, _, _, _, _, rfl, fun c o e => u3.1 c o (s1 _ _ (s2 _ _ e)) ?_⟩
        exact ne_of_none (s2 _ _ e) nb
    · rintro σ H2 ⟨v1, v2, v3, v4, v5, v6, v7, v8, rfl, s2⟩
      refine ⟨Nat.zero_le _, fun p np => ?_⟩
      refine ⟨[], p, [], [], (by show [V.str "", V.ref p] = _; rw [W_nil]), .inr upd_same, .nil, trivial, Nat.zero_le _, fun H3 s3 => ⟨rfl, ?_⟩⟩
      exact q_dec (by rw [W_nil]; rfl) (k H3)
end
end U

set_option maxRecDepth 100000
set_option maxHeartbeats 4000000
namespace U
open PySem PySem.Spec PyProof.Rows
open L2 hiding Fun CX0 E0 pass0 Fun.binds
open C8 Lx SX
theorem all_mk {l : PySem.W.OpenLaw} {w : World} {K : PySem.W.Frag} {h : Heap} {mg : Str → Option Value} {fa : Addr} (X : K.In h) (G : h.Ns mainGlobals mg) (hfa : mg "law" = some (.ref fa))
    {f_is_integer : Addr} {od_is_integer an_is_integer : Option Addr} {sl_is_integer : Array (Option Value)} {oc_is_integer kV_is_integer dc_is_integer pm_is_integer cd_is_integer ct_is_integer : Value}
    {f_is_number : Addr} {od_is_number an_is_number : Option Addr} {sl_is_number : Array (Option Value)} {oc_is_number kV_is_number dc_is_number pm_is_number cd_is_number ct_is_number : Value}
    {f_is_sequence : Addr} {od_is_sequence an_is_sequence : Option Addr} {sl_is_sequence : Array (Option Value)} {oc_is_sequence kV_is_sequence dc_is_sequence pm_is_sequence cd_is_sequence ct_is_sequence : Value}
    {f_other : Addr} {od_other an_other : Option Addr} {sl_other : Array (Option Value)} {oc_other kV_other dc_other pm_other cd_other ct_other : Value}
    {f_arriving : Addr} {od_arriving an_arriving : Option Addr} {sl_arriving : Array (Option Value)} {oc_arriving kV_arriving dc_arriving pm_arriving cd_arriving ct_arriving : Value}
    {f_is_hit : Addr} {od_is_hit an_is_hit : Option Addr} {sl_is_hit : Array (Option Value)} {oc_is_hit kV_is_hit dc_is_hit pm_is_hit cd_is_hit ct_is_hit : Value}
    {f_hit : Addr} {od_hit an_hit : Option Addr} {sl_hit : Array (Option Value)} {oc_hit kV_hit dc_hit pm_hit cd_hit ct_hit : Value}
    {f_l_seed : Addr} {od_l_seed an_l_seed : Option Addr} {sl_l_seed : Array (Option Value)} {oc_l_seed kV_l_seed dc_l_seed pm_l_seed cd_l_seed ct_l_seed : Value}
    {f_l_choose : Addr} {od_l_choose an_l_choose : Option Addr} {sl_l_choose : Array (Option Value)} {oc_l_choose kV_l_choose dc_l_choose pm_l_choose cd_l_choose ct_l_choose : Value}
    {f_l_one_of : Addr} {od_l_one_of an_l_one_of : Option Addr} {sl_l_one_of : Array (Option Value)} {oc_l_one_of kV_l_one_of dc_l_one_of pm_l_one_of cd_l_one_of ct_l_one_of : Value}
    {f_l_word : Addr} {od_l_word an_l_word : Option Addr} {sl_l_word : Array (Option Value)} {oc_l_word kV_l_word dc_l_word pm_l_word cd_l_word ct_l_word : Value}
    {f_l_arrived : Addr} {od_l_arrived an_l_arrived : Option Addr} {sl_l_arrived : Array (Option Value)} {oc_l_arrived kV_l_arrived dc_l_arrived pm_l_arrived cd_l_arrived ct_l_arrived : Value}
    {f_l_hits : Addr} {od_l_hits an_l_hits : Option Addr} {sl_l_hits : Array (Option Value)} {oc_l_hits kV_l_hits dc_l_hits pm_l_hits cd_l_hits ct_l_hits : Value}
    {f_law : Addr} {od_law an_law : Option Addr} {sl_law : Array (Option Value)} {oc_law kV_law dc_law pm_law cd_law ct_law : Value}
    {aK : Addr} {ddK : Option Addr} {nK : Nat} {slK : Array (Option Value)} {t1 t2 t3 : Tok}
    (a_is_integer : PySem.W.nsIn K mainGlobals "is_integer" = some (some (.ref f_is_integer))) (l_is_integer : K.lookup f_is_integer = some ⟨oc_is_integer, od_is_integer, .func (PySem.W.fnOf "is_integer" "is_integer" (fnArgs s_is_integer) (fnBody s_is_integer) (fnScope s_is_integer) .none kV_is_integer dc_is_integer pm_is_integer an_is_integer cd_is_integer ct_is_integer), sl_is_integer⟩) (c_is_integer : PySem.W.codeIn K cd_is_integer "is_integer" = true) (k_is_integer : PySem.W.keepIn K (.ref f_is_integer) = true)
    (a_is_number : PySem.W.nsIn K mainGlobals "is_number" = some (some (.ref f_is_number))) (l_is_number : K.lookup f_is_number = some ⟨oc_is_number, od_is_number, .func (PySem.W.fnOf "is_number" "is_number" (fnArgs s_is_number) (fnBody s_is_number) (fnScope s_is_number) .none kV_is_number dc_is_number pm_is_number an_is_number cd_is_number ct_is_number), sl_is_number⟩) (c_is_number : PySem.W.codeIn K cd_is_number "is_number" = true) (k_is_number : PySem.W.keepIn K (.ref f_is_number) = true)
    (a_is_sequence : PySem.W.nsIn K mainGlobals "is_sequence" = some (some (.ref f_is_sequence))) (l_is_sequence : K.lookup f_is_sequence = some ⟨oc_is_sequence, od_is_sequence, .func (PySem.W.fnOf "is_sequence" "is_sequence" (fnArgs s_is_sequence) (fnBody s_is_sequence) (fnScope s_is_sequence) .none kV_is_sequence dc_is_sequence pm_is_sequence an_is_sequence cd_is_sequence ct_is_sequence), sl_is_sequence⟩) (c_is_sequence : PySem.W.codeIn K cd_is_sequence "is_sequence" = true) (k_is_sequence : PySem.W.keepIn K (.ref f_is_sequence) = true)
    (a_other : PySem.W.nsIn K mainGlobals "other" = some (some (.ref f_other))) (l_other : K.lookup f_other = some ⟨oc_other, od_other, .func (PySem.W.fnOf "other" "other" (fnArgs s_other) (fnBody s_other) (fnScope s_other) .none kV_other dc_other pm_other an_other cd_other ct_other), sl_other⟩) (c_other : PySem.W.codeIn K cd_other "other" = true) (k_other : PySem.W.keepIn K (.ref f_other) = true)
    (a_arriving : PySem.W.nsIn K mainGlobals "arriving" = some (some (.ref f_arriving))) (l_arriving : K.lookup f_arriving = some ⟨oc_arriving, od_arriving, .func (PySem.W.fnOf "arriving" "arriving" (fnArgs s_arriving) (fnBody s_arriving) (fnScope s_arriving) .none kV_arriving dc_arriving pm_arriving an_arriving cd_arriving ct_arriving), sl_arriving⟩) (c_arriving : PySem.W.codeIn K cd_arriving "arriving" = true) (k_arriving : PySem.W.keepIn K (.ref f_arriving) = true)
    (a_is_hit : PySem.W.nsIn K mainGlobals "is_hit" = some (some (.ref f_is_hit))) (l_is_hit : K.lookup f_is_hit = some ⟨oc_is_hit, od_is_hit, .func (PySem.W.fnOf "is_hit" "is_hit" (fnArgs s_is_hit) (fnBody s_is_hit) (fnScope s_is_hit) .none kV_is_hit dc_is_hit pm_is_hit an_is_hit cd_is_hit ct_is_hit), sl_is_hit⟩) (c_is_hit : PySem.W.codeIn K cd_is_hit "is_hit" = true) (k_is_hit : PySem.W.keepIn K (.ref f_is_hit) = true)
    (a_hit : PySem.W.nsIn K mainGlobals "hit" = some (some (.ref f_hit))) (l_hit : K.lookup f_hit = some ⟨oc_hit, od_hit, .func (PySem.W.fnOf "hit" "hit" (fnArgs s_hit) (fnBody s_hit) (fnScope s_hit) .none kV_hit dc_hit pm_hit an_hit cd_hit ct_hit), sl_hit⟩) (c_hit : PySem.W.codeIn K cd_hit "hit" = true) (k_hit : PySem.W.keepIn K (.ref f_hit) = true)
    (a_l_seed : PySem.W.nsIn K mainGlobals "_law_seed" = some (some (.ref f_l_seed))) (l_l_seed : K.lookup f_l_seed = some ⟨oc_l_seed, od_l_seed, .func (PySem.W.fnOf "_law_seed" "_law_seed" (fnArgs s_l_seed) (fnBody s_l_seed) (fnScope s_l_seed) .none kV_l_seed dc_l_seed pm_l_seed an_l_seed cd_l_seed ct_l_seed), sl_l_seed⟩) (c_l_seed : PySem.W.codeIn K cd_l_seed "_law_seed" = true) (k_l_seed : PySem.W.keepIn K (.ref f_l_seed) = true)
    (a_l_choose : PySem.W.nsIn K mainGlobals "_law_choose" = some (some (.ref f_l_choose))) (l_l_choose : K.lookup f_l_choose = some ⟨oc_l_choose, od_l_choose, .func (PySem.W.fnOf "_law_choose" "_law_choose" (fnArgs s_l_choose) (fnBody s_l_choose) (fnScope s_l_choose) .none kV_l_choose dc_l_choose pm_l_choose an_l_choose cd_l_choose ct_l_choose), sl_l_choose⟩) (c_l_choose : PySem.W.codeIn K cd_l_choose "_law_choose" = true) (k_l_choose : PySem.W.keepIn K (.ref f_l_choose) = true)
    (a_l_one_of : PySem.W.nsIn K mainGlobals "_law_one_of" = some (some (.ref f_l_one_of))) (l_l_one_of : K.lookup f_l_one_of = some ⟨oc_l_one_of, od_l_one_of, .func (PySem.W.fnOf "_law_one_of" "_law_one_of" (fnArgs s_l_one_of) (fnBody s_l_one_of) (fnScope s_l_one_of) .none kV_l_one_of dc_l_one_of pm_l_one_of an_l_one_of cd_l_one_of ct_l_one_of), sl_l_one_of⟩) (c_l_one_of : PySem.W.codeIn K cd_l_one_of "_law_one_of" = true) (k_l_one_of : PySem.W.keepIn K (.ref f_l_one_of) = true)
    (a_l_word : PySem.W.nsIn K mainGlobals "_law_word" = some (some (.ref f_l_word))) (l_l_word : K.lookup f_l_word = some ⟨oc_l_word, od_l_word, .func (PySem.W.fnOf "_law_word" "_law_word" (fnArgs s_l_word) (fnBody s_l_word) (fnScope s_l_word) .none kV_l_word dc_l_word pm_l_word an_l_word cd_l_word ct_l_word), sl_l_word⟩) (c_l_word : PySem.W.codeIn K cd_l_word "_law_word" = true) (k_l_word : PySem.W.keepIn K (.ref f_l_word) = true)
    (a_l_arrived : PySem.W.nsIn K mainGlobals "_law_arrived" = some (some (.ref f_l_arrived))) (l_l_arrived : K.lookup f_l_arrived = some ⟨oc_l_arrived, od_l_arrived, .func (PySem.W.fnOf "_law_arrived" "_law_arrived" (fnArgs s_l_arrived) (fnBody s_l_arrived) (fnScope s_l_arrived) .none kV_l_arrived dc_l_arrived pm_l_arrived an_l_arrived cd_l_arrived ct_l_arrived), sl_l_arrived⟩) (c_l_arrived : PySem.W.codeIn K cd_l_arrived "_law_arrived" = true) (k_l_arrived : PySem.W.keepIn K (.ref f_l_arrived) = true)
    (a_l_hits : PySem.W.nsIn K mainGlobals "_law_hits" = some (some (.ref f_l_hits))) (l_l_hits : K.lookup f_l_hits = some ⟨oc_l_hits, od_l_hits, .func (PySem.W.fnOf "_law_hits" "_law_hits" (fnArgs s_l_hits) (fnBody s_l_hits) (fnScope s_l_hits) .none kV_l_hits dc_l_hits pm_l_hits an_l_hits cd_l_hits ct_l_hits), sl_l_hits⟩) (c_l_hits : PySem.W.codeIn K cd_l_hits "_law_hits" = true) (k_l_hits : PySem.W.keepIn K (.ref f_l_hits) = true)
    (a_law : PySem.W.nsIn K mainGlobals "law" = some (some (.ref f_law))) (l_law : K.lookup f_law = some ⟨oc_law, od_law, .func (PySem.W.fnOf "law" "law" (fnArgs s_law) (fnBody s_law) (fnScope s_law) .none kV_law dc_law pm_law an_law cd_law ct_law), sl_law⟩) (c_law : PySem.W.codeIn K cd_law "law" = true) (k_law : PySem.W.keepIn K (.ref f_law) = true)
    (gK : PySem.W.nsIn K mainGlobals "KINDS" = some (some (.ref aK)))
    (lK : K.lookup aK = some ⟨.type "tuple", ddK, .seq #[.str "double" t1, .str "lose" t2, .str "turn" t3] nK, slK⟩)
    (z_len : PySem.W.nsIn K mainGlobals "len" = some none)
    (z_abs : PySem.W.nsIn K mainGlobals "abs" = some none)
    (z_int : PySem.W.nsIn K mainGlobals "int" = some none)
    (z_range : PySem.W.nsIn K mainGlobals "range" = some none)
    (z_max : PySem.W.nsIn K mainGlobals "max" = some none)
    (z_min : PySem.W.nsIn K mainGlobals "min" = some none)
    (z_enumerate : PySem.W.nsIn K mainGlobals "enumerate" = some none)
    (z_zip : PySem.W.nsIn K mainGlobals "zip" = some none)
    (z_dict : PySem.W.nsIn K mainGlobals "dict" = some none)
    (z_list : PySem.W.nsIn K mainGlobals "list" = some none)
    (z_tuple : PySem.W.nsIn K mainGlobals "tuple" = some none)
    (z_isinstance : PySem.W.nsIn K mainGlobals "isinstance" = some none)
    (z_bool : PySem.W.nsIn K mainGlobals "bool" = some none)
    (z_str : PySem.W.nsIn K mainGlobals "str" = some none)
    (z_all : PySem.W.nsIn K mainGlobals "all" = some none)
    (z_any : PySem.W.nsIn K mainGlobals "any" = some none)
    (z_sum : PySem.W.nsIn K mainGlobals "sum" = some none)
    (z_sorted : PySem.W.nsIn K mainGlobals "sorted" = some none)
    (z_repr : PySem.W.nsIn K mainGlobals "repr" = some none) :
    ∃ fd : FuncData, (∀ (s : Shared) (v : Value), BindsTo s fd ⟨[v], []⟩ [("_law_script", v)]) ∧ ∀ base : Heap, K.In base → base.Ns mainGlobals mg → FnOk l.prog w K mg base CX0 5 fa fd ["_law_script"] (spLaw K) := by
  have e : f_law = fa := Value.ref.inj (Option.some.inj ((PySem.W.mg_of X G a_law).symm.trans hfa))
  subst e
  have T : Tx mg := ⟨PySem.W.mg_none_of X G z_len, PySem.W.mg_none_of X G z_abs, PySem.W.mg_none_of X G z_int, PySem.W.mg_none_of X G z_range, PySem.W.mg_none_of X G z_max, PySem.W.mg_none_of X G z_min, PySem.W.mg_none_of X G z_enumerate, PySem.W.mg_none_of X G z_zip, PySem.W.mg_none_of X G z_dict, PySem.W.mg_none_of X G z_list, PySem.W.mg_none_of X G z_tuple, PySem.W.mg_none_of X G z_isinstance, PySem.W.mg_none_of X G z_bool, PySem.W.mg_none_of X G z_str, PySem.W.mg_none_of X G z_all, PySem.W.mg_none_of X G z_any, PySem.W.mg_none_of X G z_sum, PySem.W.mg_none_of X G z_sorted, PySem.W.mg_none_of X G z_repr⟩
  have F_is_integer : Def K mg "is_integer" s_is_integer f_is_integer (PySem.W.fnOf "is_integer" "is_integer" (fnArgs s_is_integer) (fnBody s_is_integer) (fnScope s_is_integer) .none kV_is_integer dc_is_integer pm_is_integer an_is_integer cd_is_integer ct_is_integer) := ⟨⟨_, _, _, _, _, _, _, _, _, _, rfl, l_is_integer, c_is_integer⟩, PySem.W.mg_of X G a_is_integer, k_is_integer⟩
  have b_is_integer := C8.Fun.binds (ps := ["value"]) F_is_integer.fn rfl fun _ _ _ _ _ _ us hl => match us, hl with | [_], _ => rfl
  have F_is_number : Def K mg "is_number" s_is_number f_is_number (PySem.W.fnOf "is_number" "is_number" (fnArgs s_is_number) (fnBody s_is_number) (fnScope s_is_number) .none kV_is_number dc_is_number pm_is_number an_is_number cd_is_number ct_is_number) := ⟨⟨_, _, _, _, _, _, _, _, _, _, rfl, l_is_number, c_is_number⟩, PySem.W.mg_of X G a_is_number, k_is_number⟩
  have b_is_number := C8.Fun.binds (ps := ["value"]) F_is_number.fn rfl fun _ _ _ _ _ _ us hl => match us, hl with | [_], _ => rfl
  have F_is_sequence : Def K mg "is_sequence" s_is_sequence f_is_sequence (PySem.W.fnOf "is_sequence" "is_sequence" (fnArgs s_is_sequence) (fnBody s_is_sequence) (fnScope s_is_sequence) .none kV_is_sequence dc_is_sequence pm_is_sequence an_is_sequence cd_is_sequence ct_is_sequence) := ⟨⟨_, _, _, _, _, _, _, _, _, _, rfl, l_is_sequence, c_is_sequence⟩, PySem.W.mg_of X G a_is_sequence, k_is_sequence⟩
  have b_is_sequence := C8.Fun.binds (ps := ["value"]) F_is_sequence.fn rfl fun _ _ _ _ _ _ us hl => match us, hl with | [_], _ => rfl
  have F_other : Def K mg "other" s_other f_other (PySem.W.fnOf "other" "other" (fnArgs s_other) (fnBody s_other) (fnScope s_other) .none kV_other dc_other pm_other an_other cd_other ct_other) := ⟨⟨_, _, _, _, _, _, _, _, _, _, rfl, l_other, c_other⟩, PySem.W.mg_of X G a_other, k_other⟩
  have b_other := C8.Fun.binds (ps := ["bit"]) F_other.fn rfl fun _ _ _ _ _ _ us hl => match us, hl with | [_], _ => rfl
  have F_arriving : Def K mg "arriving" s_arriving f_arriving (PySem.W.fnOf "arriving" "arriving" (fnArgs s_arriving) (fnBody s_arriving) (fnScope s_arriving) .none kV_arriving dc_arriving pm_arriving an_arriving cd_arriving ct_arriving) := ⟨⟨_, _, _, _, _, _, _, _, _, _, rfl, l_arriving, c_arriving⟩, PySem.W.mg_of X G a_arriving, k_arriving⟩
  have b_arriving := C8.Fun.binds (ps := ["bit", "kind"]) F_arriving.fn rfl fun _ _ _ _ _ _ us hl => match us, hl with | [_, _], _ => rfl
  have F_is_hit : Def K mg "is_hit" s_is_hit f_is_hit (PySem.W.fnOf "is_hit" "is_hit" (fnArgs s_is_hit) (fnBody s_is_hit) (fnScope s_is_hit) .none kV_is_hit dc_is_hit pm_is_hit an_is_hit cd_is_hit ct_is_hit) := ⟨⟨_, _, _, _, _, _, _, _, _, _, rfl, l_is_hit, c_is_hit⟩, PySem.W.mg_of X G a_is_hit, k_is_hit⟩
  have b_is_hit := C8.Fun.binds (ps := ["value", "least", "many"]) F_is_hit.fn rfl fun _ _ _ _ _ _ us hl => match us, hl with | [_, _, _], _ => rfl
  have F_hit : Def K mg "hit" s_hit f_hit (PySem.W.fnOf "hit" "hit" (fnArgs s_hit) (fnBody s_hit) (fnScope s_hit) .none kV_hit dc_hit pm_hit an_hit cd_hit ct_hit) := ⟨⟨_, _, _, _, _, _, _, _, _, _, rfl, l_hit, c_hit⟩, PySem.W.mg_of X G a_hit, k_hit⟩
  have b_hit := C8.Fun.binds (ps := ["line", "hits"]) F_hit.fn rfl fun _ _ _ _ _ _ us hl => match us, hl with | [_, _], _ => rfl
  have F_l_seed : Def K mg "_law_seed" s_l_seed f_l_seed (PySem.W.fnOf "_law_seed" "_law_seed" (fnArgs s_l_seed) (fnBody s_l_seed) (fnScope s_l_seed) .none kV_l_seed dc_l_seed pm_l_seed an_l_seed cd_l_seed ct_l_seed) := ⟨⟨_, _, _, _, _, _, _, _, _, _, rfl, l_l_seed, c_l_seed⟩, PySem.W.mg_of X G a_l_seed, k_l_seed⟩
  have b_l_seed := C8.Fun.binds (ps := ["_law_script", "_law_k"]) F_l_seed.fn rfl fun _ _ _ _ _ _ us hl => match us, hl with | [_, _], _ => rfl
  have F_l_choose : Def K mg "_law_choose" s_l_choose f_l_choose (PySem.W.fnOf "_law_choose" "_law_choose" (fnArgs s_l_choose) (fnBody s_l_choose) (fnScope s_l_choose) .none kV_l_choose dc_l_choose pm_l_choose an_l_choose cd_l_choose ct_l_choose) := ⟨⟨_, _, _, _, _, _, _, _, _, _, rfl, l_l_choose, c_l_choose⟩, PySem.W.mg_of X G a_l_choose, k_l_choose⟩
  have b_l_choose := C8.Fun.binds (ps := ["_law_box", "_law_many"]) F_l_choose.fn rfl fun _ _ _ _ _ _ us hl => match us, hl with | [_, _], _ => rfl
  have F_l_one_of : Def K mg "_law_one_of" s_l_one_of f_l_one_of (PySem.W.fnOf "_law_one_of" "_law_one_of" (fnArgs s_l_one_of) (fnBody s_l_one_of) (fnScope s_l_one_of) .none kV_l_one_of dc_l_one_of pm_l_one_of an_l_one_of cd_l_one_of ct_l_one_of) := ⟨⟨_, _, _, _, _, _, _, _, _, _, rfl, l_l_one_of, c_l_one_of⟩, PySem.W.mg_of X G a_l_one_of, k_l_one_of⟩
  have b_l_one_of := C8.Fun.binds (ps := ["_law_box", "_law_some"]) F_l_one_of.fn rfl fun _ _ _ _ _ _ us hl => match us, hl with | [_, _], _ => rfl
  have F_l_word : Def K mg "_law_word" s_l_word f_l_word (PySem.W.fnOf "_law_word" "_law_word" (fnArgs s_l_word) (fnBody s_l_word) (fnScope s_l_word) .none kV_l_word dc_l_word pm_l_word an_l_word cd_l_word ct_l_word) := ⟨⟨_, _, _, _, _, _, _, _, _, _, rfl, l_l_word, c_l_word⟩, PySem.W.mg_of X G a_l_word, k_l_word⟩
  have b_l_word := C8.Fun.binds (ps := ["_law_box", "_law_few", "_law_many"]) F_l_word.fn rfl fun _ _ _ _ _ _ us hl => match us, hl with | [_, _, _], _ => rfl
  have F_l_arrived : Def K mg "_law_arrived" s_l_arrived f_l_arrived (PySem.W.fnOf "_law_arrived" "_law_arrived" (fnArgs s_l_arrived) (fnBody s_l_arrived) (fnScope s_l_arrived) .none kV_l_arrived dc_l_arrived pm_l_arrived an_l_arrived cd_l_arrived ct_l_arrived) := ⟨⟨_, _, _, _, _, _, _, _, _, _, rfl, l_l_arrived, c_l_arrived⟩, PySem.W.mg_of X G a_l_arrived, k_l_arrived⟩
  have b_l_arrived := C8.Fun.binds (ps := ["_law_line", "_law_told"]) F_l_arrived.fn rfl fun _ _ _ _ _ _ us hl => match us, hl with | [_, _], _ => rfl
  have F_l_hits : Def K mg "_law_hits" s_l_hits f_l_hits (PySem.W.fnOf "_law_hits" "_law_hits" (fnArgs s_l_hits) (fnBody s_l_hits) (fnScope s_l_hits) .none kV_l_hits dc_l_hits pm_l_hits an_l_hits cd_l_hits ct_l_hits) := ⟨⟨_, _, _, _, _, _, _, _, _, _, rfl, l_l_hits, c_l_hits⟩, PySem.W.mg_of X G a_l_hits, k_l_hits⟩
  have b_l_hits := C8.Fun.binds (ps := ["_law_box", "_law_many"]) F_l_hits.fn rfl fun _ _ _ _ _ _ us hl => match us, hl with | [_, _], _ => rfl
  have F_law : Def K mg "law" s_law f_law (PySem.W.fnOf "law" "law" (fnArgs s_law) (fnBody s_law) (fnScope s_law) .none kV_law dc_law pm_law an_law cd_law ct_law) := ⟨⟨_, _, _, _, _, _, _, _, _, _, rfl, l_law, c_law⟩, PySem.W.mg_of X G a_law, k_law⟩
  have b_law := C8.Fun.binds (ps := ["_law_script"]) F_law.fn rfl fun _ _ _ _ _ _ us hl => match us, hl with | [_], _ => rfl
  refine ⟨PySem.W.fnOf "law" "law" (fnArgs s_law) (fnBody s_law) (fnScope s_law) .none kV_law dc_law pm_law an_law cd_law ct_law, fun s v => .of_eq rfl, fun base _ _ => ?_⟩
  have c1 := cal_l_choose (P := l.prog) (w := w) (base := base) F_l_choose b_l_choose T
  have c2 := cal_l_one_of F_l_one_of b_l_one_of T c1
  have hK : ∀ H, SqT K H aK [.str "double", .str "lose", .str "turn"] := fun H => .inr ⟨_, _, _, lK, rfl, rfl, (by show 3 ≤ sizeLine; decide), .cons ⟨_, rfl⟩ (.cons ⟨_, rfl⟩ (.cons ⟨_, rfl⟩ .nil))⟩
  have c3 := cal_is_number F_is_number b_is_number T (cal_is_integer (P := l.prog) (w := w) (base := base) F_is_integer b_is_integer T)
  have c4 := cal_is_hit F_is_hit b_is_hit T (PySem.W.mg_of X G gK) hK c3
  have c5 := cal_hit F_hit b_hit T (cal_is_sequence F_is_sequence b_is_sequence T) c4 (cal_arriving F_arriving b_arriving T (cal_other F_other b_other T))
  exact ok_law F_law T (cal_l_seed F_l_seed b_l_seed T) (cal_l_word F_l_word b_l_word T c1 c2) (cal_l_hits F_l_hits b_l_hits T c1 c2) (cal_l_arrived F_l_arrived b_l_arrived T) c5
theorem walk {l : PySem.W.OpenLaw} {q : Program} {loose : List Str} {XP : (Str → Option Value) → Heap → Prop} {YP : World → Heap → Prop} {d : DefRec} {K : Params → PySem.W.Frag} (hn : l.most = some 63) (hdf : d.params.defaults = [])
    (hY : ∀ (w : World) (h : Heap), YP w h → (K w.params).In h)
    (F : ∀ (w : World) (mg : Str → Option Value) (fa : Addr) (h : Heap), (K w.params).In h → h.Ns mainGlobals mg → mg d.name = some (.ref fa) →
      ∃ fd : FuncData, (∀ (s : Shared) (u : Value), BindsTo s fd ⟨[u], []⟩ [("_law_script", u)]) ∧ ∀ base : Heap, (K w.params).In base → base.Ns mainGlobals mg → FnOk l.prog w (K w.params) mg base CX0 5 fa fd ["_law_script"] (spLaw (K w.params))) :
    PySem.W.WalkO q loose XP YP l.row.toRowW d [] (fun f vs => PySem.call f vs) :=
  L2.walk_of (n := 63) (k := 5) (x := "_law_script") (CX := fun _ => CX0) (sp := fun w => spLaw (K w.params)) hn (by decide) hdf ⟨rfl, by decide, by decide⟩ hY F (fun _ _ a ns hl _ hS => ⟨a, ns, rfl, hS, hl, fun _ => rfl⟩) fun _ _ _ _ _ z => z
end U

open PySem PySem.W PyProof.Rows
set_option maxRecDepth 100000 in
set_option maxHeartbeats 0 in
theorem PySem.Challenge.cw_unseenflips_k49_hits_on_lines_holds : PySem.Challenge.rw_unseenflips_k49_hits_on_lines.Holds := by
  w_on; o_law; k_head; (case hw => w_witness2)
  k_fill
  refine U.walk (l := PySem.Challenge.rw_unseenflips_k49_hits_on_lines) rfl rfl (fun w h Y => PySem.W.kIn_of Y) ?F
  case F =>
    intro w mg fa h KX G hmg
    refine' U.all_mk KX G hmg ?a_is_integer ?l_is_integer ?c_is_integer ?k_is_integer ?a_is_number ?l_is_number ?c_is_number ?k_is_number ?a_is_sequence ?l_is_sequence ?c_is_sequence ?k_is_sequence ?a_other ?l_other ?c_other ?k_other ?a_arriving ?l_arriving ?c_arriving ?k_arriving ?a_is_hit ?l_is_hit ?c_is_hit ?k_is_hit ?a_hit ?l_hit ?c_hit ?k_hit ?a_l_seed ?l_l_seed ?c_l_seed ?k_l_seed ?a_l_choose ?l_l_choose ?c_l_choose ?k_l_choose ?a_l_one_of ?l_l_one_of ?c_l_one_of ?k_l_one_of ?a_l_word ?l_l_word ?c_l_word ?k_l_word ?a_l_arrived ?l_l_arrived ?c_l_arrived ?k_l_arrived ?a_l_hits ?l_l_hits ?c_l_hits ?k_l_hits ?a_law ?l_law ?c_law ?k_law ?gK ?lK ?z_len ?z_abs ?z_int ?z_range ?z_max ?z_min ?z_enumerate ?z_zip ?z_dict ?z_list ?z_tuple ?z_isinstance ?z_bool ?z_str ?z_all ?z_any ?z_sum ?z_sorted ?z_repr
    (case a_is_integer => k_is)
    (case l_is_integer => k_is)
    (case c_is_integer => k_is)
    (case k_is_integer => k_is)
    (case a_is_number => k_is)
    (case l_is_number => k_is)
    (case c_is_number => k_is)
    (case k_is_number => k_is)
    (case a_is_sequence => k_is)
    (case l_is_sequence => k_is)
    (case c_is_sequence => k_is)
    (case k_is_sequence => k_is)
    (case a_other => k_is)
    (case l_other => k_is)
    (case c_other => k_is)
    (case k_other => k_is)
    (case a_arriving => k_is)
    (case l_arriving => k_is)
    (case c_arriving => k_is)
    (case k_arriving => k_is)
    (case a_is_hit => k_is)
    (case l_is_hit => k_is)
    (case c_is_hit => k_is)
    (case k_is_hit => k_is)
    (case a_hit => k_is)
    (case l_hit => k_is)
    (case c_hit => k_is)
    (case k_hit => k_is)
    (case a_l_seed => k_is)
    (case l_l_seed => k_is)
    (case c_l_seed => k_is)
    (case k_l_seed => k_is)
    (case a_l_choose => k_is)
    (case l_l_choose => k_is)
    (case c_l_choose => k_is)
    (case k_l_choose => k_is)
    (case a_l_one_of => k_is)
    (case l_l_one_of => k_is)
    (case c_l_one_of => k_is)
    (case k_l_one_of => k_is)
    (case a_l_word => k_is)
    (case l_l_word => k_is)
    (case c_l_word => k_is)
    (case k_l_word => k_is)
    (case a_l_arrived => k_is)
    (case l_l_arrived => k_is)
    (case c_l_arrived => k_is)
    (case k_l_arrived => k_is)
    (case a_l_hits => k_is)
    (case l_l_hits => k_is)
    (case c_l_hits => k_is)
    (case k_l_hits => k_is)
    (case a_law => k_is)
    (case l_law => k_is)
    (case c_law => k_is)
    (case k_law => k_is)
    (case gK => k_is)
    (case lK => k_is)
    (case z_len => k_is)
    (case z_abs => k_is)
    (case z_int => k_is)
    (case z_range => k_is)
    (case z_max => k_is)
    (case z_min => k_is)
    (case z_enumerate => k_is)
    (case z_zip => k_is)
    (case z_dict => k_is)
    (case z_list => k_is)
    (case z_tuple => k_is)
    (case z_isinstance => k_is)
    (case z_bool => k_is)
    (case z_str => k_is)
    (case z_all => k_is)
    (case z_any => k_is)
    (case z_sum => k_is)
    (case z_sorted => k_is)
    (case z_repr => k_is)
#print axioms PySem.Challenge.cw_unseenflips_k49_hits_on_lines_holds
