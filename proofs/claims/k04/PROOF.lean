import PyProof.Rows.All
import Wide.All
import OpenK.AllK
import Wide.FinOn
import HandS.ForMost
import HandS.Codes
import HandS.FStr
import HandS.IsInst
import HandS.Star
import HandS.TupAny
import HandS.Style
import HandS.Walk
import KE.GoesEnum
import KE.GoesNew
import HandS.Property
import HandS.Defaults
import HandS.ClsMeth
import HandS.MakeKw
import KE.GoesZip
import HandS.SortOrd
import HandS.SortRule
import HandS.OwnEq
import HandS.CallLocal
import KE.KCallOwn
import HandS.ExcInit
import HandS.Nested
import HandS.TryOnly
import KE.KExcSuper
import HandS.ExcOwn
import HandS.ExcIs
import HandS.Exc
import HandS.TryMany
import HandS.Deep
import PyProof.Rows.SortShellAny
import HandS.RaiseMore
import HandS.List
import HandS.ExcField
import PySem.Challenge.RW_unseenflips_k04_texts_of_no_rule
set_option Elab.async false
set_option linter.all false
set_option maxRecDepth 100000
set_option maxHeartbeats 4000000
namespace Lx
open PySem PySem.Spec PyProof.Rows L2
def ItES (x : Str) : It := ⟨fun i _ => i < x.cps.size, fun i H v H' => ∃ T c, v = .ref T ∧ H T = none ∧ H' = upd H T (.tup [.int (i : Nat), .str ⟨#[c]⟩]) ∧ x.cps[i]? = some c, fun i _ => x.cps.size ≤ i⟩
theorem turn_enumS {P : Program} {w : World} {K : PySem.W.Frag} {elts : List Expr} {kk : Nat} {tpos : Pos} (x : Str) (t : Tok) (e it : Addr) :
    Turn P w K (.Tuple elts kk tpos) (ItES x) [e, it] e (fun i h => (∃ old, IsEnum h e it ((i : Nat) : Int) old) ∧ h.IsStrIter it (strIterType x) x t i ∧ e ≠ it ∧ i ≤ x.cps.size) where
  mem := by simp
  obj := fun i h st b hb => by
    obtain ⟨⟨old, he⟩, ⟨o, ho, hc, hd⟩, _⟩ := st
    have e' : b = e ∨ b = it := by simpa using hb
    rcases e' with z | z
    · rw [z]; exact ⟨_, he, fun v q => nomatch q⟩
    · rw [z]; exact ⟨o, ho, fun v q => by rw [hd] at q; cases q⟩
  keep := fun i h h' st k => by
    obtain ⟨⟨old, he⟩, ⟨o, ho, r⟩, hne⟩ := st
    exact ⟨⟨old, k e (by simp) _ he⟩, ⟨o, k it (by simp) o ho, r⟩, hne⟩
  item := by
    intro X hP hw hK hc i pins s σ H E I hf st hg
    subst hP hw hK
    obtain ⟨⟨old, he⟩, hit, hne, _⟩ := st
    have hlt : i < x.cps.size := hg
    have hel : e < s.heap.objs.size := Heap.lt_size he
    have hil : it < s.heap.objs.size := by obtain ⟨_, q, _⟩ := hit; exact Heap.lt_size q
    have hh : X.A.in1.handled = none := I.ok.hd hc
    refine wpAny_pyNext_enum_itemC (Draws.text hh it x t) he hit hlt hne (by simpa using hne) fun v h' tk hP ho hit' hT hsz hk => ?_
    obtain ⟨c, u, hcx, rfl⟩ := hP
    refine ⟨_, rfl, wpAny_letOwnedTupleGo_enum (s := { s with heap := h', toks := tk + 1 }) ho fun h'' he' sb => ?_⟩
    have hT2 : h''.get? s.heap.objs.size = some { cls := .type "tuple", data := .seq #[.int i tk, .str ⟨#[c]⟩ u] } := (sb.2 _ (Nat.ne_of_gt hel)).trans hT
    have new : ObjOk X.prog X.w (upd H s.heap.objs.size (.tup [.int (i : Nat), .str ⟨#[c]⟩])) h'' s.heap.objs.size (.tup [.int (i : Nat), .str ⟨#[c]⟩]) :=
      ⟨by show 2 ≤ sizeLine; decide, [.int i tk, .str ⟨#[c]⟩ u], .cons ⟨_, rfl⟩ (.cons ⟨_, rfl⟩ .nil), ⟨_, hT2, rfl, _, rfl⟩⟩
    have I1 : Inv X pins σ (upd H s.heap.objs.size (.tup [.int (i : Nat), .str ⟨#[c]⟩])) { s with heap := h'', toks := tk + 1 } :=
      I.turnedNew (ch := [e, it]) (fun b ob hb q => (sb.2 b (fun z => hb (by simp [z]))).trans (hk b ob (fun z => hb (by simp [z])) (fun z => hb (by simp [z])) q)) hf (Nat.le_refl _) new
    refine ⟨.ref s.heap.objs.size, _, I1, rfl, ⟨_, c, rfl, I.hok.fresh (Nat.le_refl _), rfl, hcx⟩, ⟨⟨.str ⟨#[c]⟩ u, ?_⟩, ?_, hne, hlt⟩, fun b hb => ?_⟩
    · have e1 : ((i + 1 : Nat) : Int) = (i : Int) + 1 := by omega
      rw [e1]; exact he'
    · obtain ⟨o, ho', r⟩ := hit'
      exact ⟨o, (sb.2 it (Ne.symm hne)).trans ho', r⟩
    · have hb' : b < s.heap.objs.size := by
        have e' : b = e ∨ b = it := by simpa using hb
        rcases e' with z | z
        · rw [z]; exact hel
        · rw [z]; exact hil
      rw [upd_ne (Nat.ne_of_lt hb')]
      exact (hf b hb).1
  done := by
    intro X hP hw hK hc i pins s σ H E I hf st hg
    subst hP hw hK
    obtain ⟨⟨old, he⟩, hit, hne, hle⟩ := st
    have hge : x.cps.size ≤ i := hg
    have hi : i = x.cps.size := Nat.le_antisymm hle hge
    subst hi
    have hh : X.A.in1.handled = none := I.ok.hd hc
    obtain ⟨f0, f1, f2, f3, f4, f5⟩ := hf it (by simp)
    exact wpAny_pyNext_enum_endD (Draws.text hh it x t) he hit fun h' eb => ⟨rfl, I.turned (t' := s.toks) (fun b o hb q => eb b o hb q) f0 f1 f3 f4 f5⟩
  self := fun A i s Q E st h => let ⟨⟨_, he⟩, _⟩ := st; wpAny_pyIter_enum he h
def iEnumS (ta : TA) : TI := fun σ H R => ta σ H fun vs H1 => ∃ x, vs = [.str x] ∧ R (ItES x) H1
theorem pi_enumS {X : Cx} {e : Expr} {ta : TA} {p pos tpos : Pos} {elts : List Expr} {kk : Nat} (hg : Gl X "enumerate") (hm : X.mg "enumerate" = none) (ha : PA X [e] ta) (hs : starEach [e] X.env = [(false, eval e X.env)] := by rfl) :
    PI X (.Tuple elts kk tpos) (.Call (.Name "enumerate" p) [e] [] pos) (iEnumS ta) := by
  refine ⟨fun pins s σ H R I h => ?_⟩
  refine Call_ (ld_blt I hg hm boot_enumerate (PyProof.Rows.callWith_type1 (thn (ha.run pos pins s σ H _ I h) fun us s1 ⟨vs, H1, I1, r1, q1⟩ => ?_) hs rfl))
  obtain ⟨x, ex, q⟩ := q1
  subst ex
  cases r1 with
  | cons r rr =>
    cases rr
    obtain ⟨t, rfl⟩ := r
    refine call_enumerate_str fun h' he hit hsz hk => wpAny_pyIter_enum he ?_
    have I2 : Inv X pins σ H1 { s1 with heap := h' } := I1.kept (t' := s1.toks) hk
    refine ⟨s1.heap.objs.size + 1, [s1.heap.objs.size + 1, s1.heap.objs.size], _, _, H1, rfl, I2, turn_enumS x t (s1.heap.objs.size + 1) s1.heap.objs.size, ⟨⟨.none, he⟩, hit, Nat.succ_ne_self _, Nat.zero_le _⟩, fun b hb => ?_, q⟩
    have e' : b = s1.heap.objs.size + 1 ∨ b = s1.heap.objs.size := by simpa using hb
    have hle : s1.heap.objs.size ≤ b := by
      rcases e' with z | z
      · rw [z]; exact Nat.le_add_right _ _
      · rw [z]; exact Nat.le_refl _
    exact I1.fpOk hle (I1.hok.fresh hle)
def ItET (K : PySem.W.Frag) (a : Addr) : It :=
  ⟨fun i H => ∃ (xs : List V) (x : V), SqT K H a xs ∧ xs[i]? = some x, fun i H v H' => ∃ T x, v = .ref T ∧ H T = none ∧ H' = upd H T (.tup [.int (i : Nat), x]) ∧ ∀ xs, SqT K H a xs → xs[i]? = some x, fun i H => ∃ xs : List V, SqT K H a xs ∧ xs.length ≤ i⟩
theorem meets_enumerate_newT (l : Addr) (items : Array Value) (n : Nat) (dct : Option Addr) (sl : Array (Option Value)) :
    Meets (Builtin.«enumerate.__new__» ⟨[.type "enumerate", .ref l], []⟩) (fun _ R s => s.heap.get? l = some { cls := .type "tuple", dict := dct, data := .seq items n, slots := sl } ∧
      R (.ok (.ret (.ref (s.heap.push { cls := .type "tuple_iterator", data := .fields #[.ref l, .int 0 0] }).objs.size)))
        { s with heap := (s.heap.push { cls := .type "tuple_iterator", data := .fields #[.ref l, .int 0 0] }).push { cls := .type "enumerate", data := .fields #[.none, .bool false, .ref s.heap.objs.size, rawInt 0, .none, .none] } }) :=
  .of_wp fun prog w A R s h => by
    obtain ⟨hp, g, d, tk, os⟩ := s; obtain ⟨hl, h⟩ := h
    have hsub := sub_enumerate
    have hL : Heap.IsTuple (Shared.heap ⟨hp, g, d, tk, os⟩) l items := ⟨_, hl, rfl, n, rfl⟩
    wp_walk using AutoSeq1.wpAny_loadPart' hl
    refine wpAny_stack_any fun st => wpAny_pure ?_
    split
    · rename_i c _ _ _ _ _
      cases (c == Value.type "enumerate")
      · wp_walk using AutoSeq1.wpAny_loadPart' hl, wpAny_pyIter_tuple hL
        exact ⟨_, rfl, h⟩
      · wp_walk using AutoSeq1.wpAny_loadPart' hl, wpAny_pyIter_tuple hL
        exact ⟨_, rfl, h⟩
    · wp_walk using AutoSeq1.wpAny_loadPart' hl, wpAny_pyIter_tuple hL
      exact ⟨_, rfl, h⟩
theorem call_enumerate_tup {prog : Program} {w : World} {A : Around} {E : Value → Shared → Prop} {s : Shared} {l : Addr} {items : Array Value} {Q : Value → Shared → Prop} (hL : s.heap.IsTuple l items)
    (h : ∀ h', IsEnum h' (s.heap.objs.size + 1) s.heap.objs.size 0 .none → h'.IsTupleIter s.heap.objs.size l 0 → h'.objs.size = s.heap.objs.size + 2 →
      (∀ b o, s.heap.get? b = some o → h'.get? b = some o) → Q (.ref (s.heap.objs.size + 1)) { s with heap := h' }) :
    wpAny (model prog w) A (call (.type "enumerate") [.ref l]) Q E s := by
  obtain ⟨⟨c, dct, dt, sl⟩, hl, hc, n, hd⟩ := hL
  replace hc : c = .type "tuple" := hc
  replace hd : dt = .seq items n := hd
  subst hc hd
  refine callType_new F.called_enumerate (by decide) (F.typeCall_enumerate_1 _) (F.newCall_enumerate_1 _) (fun obj => F.args_object_init_2 obj _) F.entry_enumerate_new
    (meets_enumerate_newT l items n dct sl) ⟨hl, ?_⟩
  have hz : (s.heap.push { cls := .type "tuple_iterator", data := .fields #[.ref l, .int 0 0] }).objs.size = s.heap.objs.size + 1 := Heap.size_push ..
  show _ ∧ _
  rw [hz]
  have he : IsEnum ((s.heap.push { cls := .type "tuple_iterator", data := .fields #[.ref l, .int 0 0] }).push
      { cls := .type "enumerate", data := .fields #[.none, .bool false, .ref s.heap.objs.size, rawInt 0, .none, .none] }) (s.heap.objs.size + 1) s.heap.objs.size 0 .none := by
    have := Heap.get?_push_size (s.heap.push { cls := .type "tuple_iterator", data := .fields #[.ref l, .int 0 0] })
      (o := { cls := .type "enumerate", data := .fields #[.none, .bool false, .ref s.heap.objs.size, rawInt 0, .none, .none] }) rfl
    rw [hz] at this; exact this
  refine ⟨⟨_, he, rfl⟩, h _ he ⟨_, Heap.get?_push_of_some _ (Heap.get?_push_size _ rfl), rfl, rfl⟩ (by rw [Heap.size_push, hz]) fun b o x => Heap.get?_push_of_some _ (Heap.get?_push_of_some _ x)⟩
theorem turn_enumT {P : Program} {w : World} {K : PySem.W.Frag} {elts : List Expr} {kk : Nat} {tpos : Pos} (a e it : Addr) :
    Turn P w K (.Tuple elts kk tpos) (ItET K a) [e, it] e (fun i h => (∃ old, IsEnum h e it ((i : Nat) : Int) old) ∧ h.IsTupleIter it a i ∧ e ≠ it ∧ a ≠ it ∧ a ≠ e) where
  mem := by simp
  obj := fun i h st b hb => by
    obtain ⟨⟨old, he⟩, ⟨o, ho, hc, hd⟩, _⟩ := st
    have e' : b = e ∨ b = it := by simpa using hb
    rcases e' with z | z
    · rw [z]; exact ⟨_, he, fun v q => nomatch q⟩
    · rw [z]; exact ⟨o, ho, fun v q => by rw [hd] at q; cases q⟩
  keep := fun i h h' st k => by
    obtain ⟨⟨old, he⟩, ⟨o, ho, r⟩, hne⟩ := st
    exact ⟨⟨old, k e (by simp) _ he⟩, ⟨o, k it (by simp) o ho, r⟩, hne⟩
  item := by
    intro X hP hw hK hc i pins s σ H E I hf st hg
    subst hP hw hK
    obtain ⟨⟨old, he⟩, hit, hne, hai, hae⟩ := st
    obtain ⟨xs, x, hq, hx⟩ := hg
    obtain ⟨its, rv, p, hz⟩ := I.tuple hq
    obtain ⟨u, hu, ru⟩ := rv.get hx
    have hel : e < s.heap.objs.size := Heap.lt_size he
    have hil : it < s.heap.objs.size := by obtain ⟨_, q, _⟩ := hit; exact Heap.lt_size q
    have hh : X.A.in1.handled = none := I.ok.hd hc
    have pT : s.heap.IsTuple a its.toArray := p
    have hlt : i < its.toArray.size := by
      have := (List.getElem?_eq_some_iff.mp hu).1
      simpa using this
    refine wpAny_pyNext_enum_itemC (Draws.tuple hh it a hai its.toArray) he ⟨hit, pT⟩ hlt hne (by simp [hne, Ne.symm hae]) fun v h' tk hP ho hit' hT hsz hk => ?_
    have ev : v = u := by
      have hP' : its.toArray[i]? = some v := hP
      rw [List.getElem?_toArray, hu] at hP'
      exact (Option.some.inj hP').symm
    subst ev
    refine ⟨_, rfl, wpAny_letOwnedTupleGo_enum (s := { s with heap := h', toks := tk + 1 }) ho fun h'' he' sb => ?_⟩
    have hT2 : h''.get? s.heap.objs.size = some { cls := .type "tuple", data := .seq #[.int i tk, v] } := (sb.2 _ (Nat.ne_of_gt hel)).trans hT
    have new : ObjOk X.prog X.w (upd H s.heap.objs.size (.tup [.int (i : Nat), x])) h'' s.heap.objs.size (.tup [.int (i : Nat), x]) :=
      ⟨by show 2 ≤ sizeLine; decide, [.int i tk, v], .cons ⟨_, rfl⟩ (.cons ru .nil), ⟨_, hT2, rfl, _, rfl⟩⟩
    have I1 : Inv X pins σ (upd H s.heap.objs.size (.tup [.int (i : Nat), x])) { s with heap := h'', toks := tk + 1 } :=
      I.turnedNew (ch := [e, it]) (fun b ob hb q => (sb.2 b (fun z => hb (by simp [z]))).trans (hk b ob (fun z => hb (by simp [z])) (fun z => hb (by simp [z])) q)) hf (Nat.le_refl _) new
    refine ⟨.ref s.heap.objs.size, _, I1, rfl, ⟨_, x, rfl, I.hok.fresh (Nat.le_refl _), rfl, fun ys hy => by rw [I.tuple_inj hy hq]; exact hx⟩, ⟨⟨v, ?_⟩, ?_, hne, hai, hae⟩, fun b hb => ?_⟩
    · have e1 : ((i + 1 : Nat) : Int) = (i : Int) + 1 := by omega
      rw [e1]; exact he'
    · obtain ⟨⟨o, ho', r⟩, _⟩ := hit'
      exact ⟨o, (sb.2 it (Ne.symm hne)).trans ho', r⟩
    · have hb' : b < s.heap.objs.size := by
        have e' : b = e ∨ b = it := by simpa using hb
        rcases e' with z | z
        · rw [z]; exact hel
        · rw [z]; exact hil
      rw [upd_ne (Nat.ne_of_lt hb')]
      exact (hf b hb).1
  done := by
    intro X hP hw hK hc i pins s σ H E I hf st hg
    subst hP hw hK
    obtain ⟨⟨old, he⟩, hit, hne, hai, hae⟩ := st
    obtain ⟨xs, hq, hx⟩ := hg
    obtain ⟨its, rv, p, hz⟩ := I.tuple hq
    have hl := rv.length
    have pT : s.heap.IsTuple a its.toArray := p
    have hh : X.A.in1.handled = none := I.ok.hd hc
    obtain ⟨f0, f1, f2, f3, f4, f5⟩ := hf it (by simp)
    have D : Draws X.prog X.w X.A.in1 it [it, a] i (fun _ _ => True) (fun j h => j = i ∧ h.IsTupleIter it a i ∧ h.IsTuple a its.toArray) :=
      { live := fun _ _ st => let ⟨o, ho, _⟩ := st.2.1; ⟨o, ho⟩
        frame := fun _ _ _ st hk => ⟨st.1, st.2.1.at fun o e => hk it (by simp) o e, st.2.2.at fun o e => hk a (by simp) o e⟩
        item := fun j s Q E hj st hQ => absurd st.1 (Nat.ne_of_lt hj)
        done := fun s Q E st hE => wpAny_nextOf_tuple_end hh st.2.1 st.2.2 (by simp; omega) hE }
    exact wpAny_pyNext_enum_endD D he ⟨rfl, hit, pT⟩ fun h' eb => ⟨rfl, I.turned (t' := s.toks) (fun b o hb q => eb b o hb q) f0 f1 f3 f4 f5⟩
  self := fun A i s Q E st h => let ⟨⟨_, he⟩, _⟩ := st; wpAny_pyIter_enum he h
def iEnumT (K : PySem.W.Frag) (ta : TA) : TI := fun σ H R => ta σ H fun vs H1 => ∃ a xs, vs = [.ref a] ∧ SqT K H1 a xs ∧ R (ItET K a) H1
theorem pi_enumT {X : Cx} {e : Expr} {ta : TA} {p pos tpos : Pos} {elts : List Expr} {kk : Nat} (hg : Gl X "enumerate") (hm : X.mg "enumerate" = none) (ha : PA X [e] ta) (hs : starEach [e] X.env = [(false, eval e X.env)] := by rfl) :
    PI X (.Tuple elts kk tpos) (.Call (.Name "enumerate" p) [e] [] pos) (iEnumT X.K ta) := by
  refine ⟨fun pins s σ H R I h => ?_⟩
  refine Call_ (ld_blt I hg hm boot_enumerate (PyProof.Rows.callWith_type1 (thn (ha.run pos pins s σ H _ I h) fun us s1 ⟨vs, H1, I1, r1, q1⟩ => ?_) hs rfl))
  obtain ⟨a, xs, ex, hq, q⟩ := q1
  subst ex
  cases r1 with
  | cons r rr =>
    cases rr
    cases r
    obtain ⟨its, rv, p', hz⟩ := I1.tuple hq
    have pT : s1.heap.IsTuple a its.toArray := p'
    have hlt : a < s1.heap.objs.size := by obtain ⟨o, ho, _⟩ := pT; exact Heap.lt_size ho
    refine call_enumerate_tup pT fun h' he hit hsz hk => wpAny_pyIter_enum he ?_
    have I2 : Inv X pins σ H1 { s1 with heap := h' } := I1.kept (t' := s1.toks) hk
    refine ⟨s1.heap.objs.size + 1, [s1.heap.objs.size + 1, s1.heap.objs.size], _, _, H1, rfl, I2, turn_enumT a (s1.heap.objs.size + 1) s1.heap.objs.size, ⟨⟨.none, he⟩, hit, Nat.succ_ne_self _, Nat.ne_of_lt hlt, Nat.ne_of_lt (Nat.lt_succ_of_lt hlt)⟩, fun b hb => ?_, q⟩
    have e' : b = s1.heap.objs.size + 1 ∨ b = s1.heap.objs.size := by simpa using hb
    have hle : s1.heap.objs.size ≤ b := by
      rcases e' with z | z
      · rw [z]; exact Nat.le_add_right _ _
      · rw [z]; exact Nat.le_refl _
    exact I1.fpOk hle (I1.hok.fresh hle)
def iEnumQ (K : PySem.W.Frag) (ta : TA) : TI := fun σ H R => iEnum K ta σ H R ∨ iEnumT K ta σ H R
theorem pi_enumQ {X : Cx} {e : Expr} {ta : TA} {p pos tpos : Pos} {elts : List Expr} {kk : Nat} (hg : Gl X "enumerate") (hm : X.mg "enumerate" = none) (ha : PA X [e] ta) (hs : starEach [e] X.env = [(false, eval e X.env)] := by rfl) :
    PI X (.Tuple elts kk tpos) (.Call (.Name "enumerate" p) [e] [] pos) (iEnumQ X.K ta) := by
  refine ⟨fun pins s σ H R I h => ?_⟩
  rcases h with h | h
  · exact (pi_enum hg hm ha hs).run pins s σ H R I h
  · exact (pi_enumT hg hm ha hs).run pins s σ H R I h
theorem walk_enumT {K : PySem.W.Frag} {a : Addr} {xs : List V} : Walk (ItET K a) xs.length (fun H => SqT K H a xs) (YPair (fun i => some (.int (i : Nat))) (fun i => xs[i]?)) := by
  refine ⟨fun i _ hi q => ⟨xs, xs[i], q, by simp [hi]⟩, fun _ q => ⟨xs, q, Nat.le_refl _⟩, fun i H v H' _ q y => ?_⟩
  obtain ⟨T, x, h1, h2, h3, h4⟩ := y
  exact ⟨T, .int (i : Nat), x, h1, h2, h3, rfl, h4 xs q⟩
theorem walk_enumS {x : Str} : Walk (ItES x) x.cps.size (fun _ => True) (fun i H v H' => ∃ T c, v = .ref T ∧ H T = none ∧ H' = upd H T (.tup [.int (i : Nat), .str ⟨#[c]⟩]) ∧ x.cps[i]? = some c) :=
  ⟨fun _ _ hi _ => hi, fun _ _ => Nat.le_refl _, fun _ _ _ _ _ _ y => y⟩
end Lx
set_option maxRecDepth 100000
set_option maxHeartbeats 4000000
namespace Lx
open PySem PySem.Spec PyProof.Rows L2
def ItTup (n : Nat) (f : Nat → List V → Prop) : It :=
  ⟨fun i _ => i < n, fun i H v H' => ∃ T xs, v = .ref T ∧ H T = none ∧ H' = upd H T (.tup xs) ∧ f i xs, fun i _ => n ≤ i⟩
theorem turn_tuples {P : Program} {w : World} {K : PySem.W.Frag} {elts : List Expr} {kk : Nat} {tpos : Pos} {it : Addr} {fp wr : List Addr} {n : Nat} {Pt : Nat → Array Value → Prop} {St : Nat → Heap → Prop} {Mid : Nat → Addr → Heap → Prop} {f : Nat → List V → Prop}
    (Wk : ∀ A : Around, A.in1.handled = none → WalksT P w A it fp wr n Pt St Mid) (hrel : ∀ i vals, Pt i vals → ∃ xs, Vals xs vals.toList ∧ f i xs ∧ xs.length ≤ 8)
    (hobj : ∀ i h, St i h → ∀ b ∈ fp, ∃ o, h.get? b = some o ∧ ∀ v, o.data ≠ .cell v) (hmem : it ∈ fp)
    (hself : ∀ (A : Around) (i : Nat) (s : Shared) (Q : Value → Shared → Prop) (E : Value → Shared → Prop), St i s.heap → Q (.ref it) s → wpAny (model P w) A (pyIter (.ref it)) Q E s) :
    Turn P w K (.Tuple elts kk tpos) (ItTup n f) fp it (fun i h => St i h ∧ i ≤ n) where
  mem := hmem
  obj := fun i h st => hobj i h st.1
  keep := fun i h h' st k => ⟨(Wk {} rfl).frame i h h' st.1 k, st.2⟩
  item := by
    intro X hP hw hK hc i pins s σ H E I hf st hg
    subst hP hw hK
    have hh : X.A.in1.handled = none := I.ok.hd hc
    have hlt : i < n := hg
    refine (GoesN.ofWalksT (elts := elts) (k := kk) (pos := tpos) (Wk X.A hh)).goes i s _ _ hlt st.1 fun v h' tk hY st' hk htk => ?_
    obtain ⟨T, vals, rfl, hnew, hPt, hT⟩ := hY
    obtain ⟨xs, rv, hfx, hl⟩ := hrel i vals hPt
    have new : ObjOk X.prog X.w (upd H T (.tup xs)) h' T (.tup xs) := ⟨Nat.le_trans hl (by decide), vals.toList, rv, by rw [Array.toArray_toList]; exact hT⟩
    have I1 : Inv X pins σ (upd H T (.tup xs)) { s with heap := h', toks := tk } :=
      I.turnedNew (ch := fp) (fun b ob hb q => hk b ob (fun z => hb ((Wk X.A hh).sub b z)) q) hf hnew new
    refine ⟨.ref T, _, I1, rfl, ⟨T, xs, rfl, I.hok.fresh hnew, rfl, hfx⟩, ⟨st', hlt⟩, fun b hb => ?_⟩
    have hb' : b < s.heap.objs.size := by obtain ⟨o, ho, _⟩ := hobj i _ st.1 b hb; exact Heap.lt_size ho
    rw [upd_ne (Nat.ne_of_lt (Nat.lt_of_lt_of_le hb' hnew))]
    exact (hf b hb).1
  done := by
    intro X hP hw hK hc i pins s σ H E I hf st hg
    subst hP hw hK
    have hh : X.A.in1.handled = none := I.ok.hd hc
    have hge : n ≤ i := hg
    have hi : i = n := Nat.le_antisymm st.2 hge
    subst hi
    refine (Wk X.A hh).done s _ _ st.1 fun h' tk hk => ⟨rfl, ?_⟩
    exact I.turnedL (ch := fp) (fun c o hb q => hk c o (fun z => hb ((Wk X.A hh).sub c z)) q) hf
  self := fun A i s Q E st h => hself A i s Q E st.1 h
theorem walk_tuples {n : Nat} {f : Nat → List V → Prop} : Walk (ItTup n f) n (fun _ => True) (fun i H v H' => ∃ T xs, v = .ref T ∧ H T = none ∧ H' = upd H T (.tup xs) ∧ f i xs) :=
  ⟨fun _ _ hi _ => hi, fun _ _ => Nat.le_refl _, fun _ _ _ _ _ _ y => y⟩
def zipF (x y : Str) : Nat → List V → Prop := fun i xs => ∃ c d, x.cps[i]? = some c ∧ y.cps[i]? = some d ∧ xs = [.str ⟨#[c]⟩, .str ⟨#[d]⟩]
def iZipS (ta : TA) : TI := fun σ H R => ta σ H fun vs H1 => ∃ x y, vs = [.str x, .str y] ∧ R (ItTup (min x.cps.size y.cps.size) (zipF x y)) H1
theorem pi_zipS {X : Cx} {e e2 : Expr} {ta : TA} {p pos tpos : Pos} {elts : List Expr} {kk : Nat} (hg : Gl X "zip") (hm : X.mg "zip" = none) (ha : PA X [e, e2] ta)
    (hs : starEach [e, e2] X.env = (false, eval e X.env) :: starEach [e2] X.env := by rfl) (hpl : (backTo pos (starEach [e2] X.env)).any (·.1) = false := by rfl) :
    PI X (.Tuple elts kk tpos) (.Call (.Name "zip" p) [e, e2] [] pos) (iZipS ta) := by
  refine ⟨fun pins s σ H R I h => ?_⟩
  refine Call_ (ld_blt I hg hm PyProof.Rows.boot_zip (PyProof.Rows.callWith_type1 (thn (ha.run pos pins s σ H _ I h) fun us s1 ⟨vs, H1, I1, r1, q1⟩ => ?_) hs hpl))
  obtain ⟨x, y, ex, q⟩ := q1
  subst ex
  cases r1 with
  | cons r rr =>
    cases rr with
    | cons r' rr =>
      cases rr
      obtain ⟨t, rfl⟩ := r
      obtain ⟨t', rfl⟩ := r'
      refine zip_begins2 (begins_text x t) (begins_text y t') trivial trivial fun h' hz hTI hTO h1 h2 hsz hk => wpAny_pyIter_zip hz ?_
      have I2 : Inv X pins σ H1 { s1 with heap := h' } := I1.kept (t' := s1.toks) hk
      have sep := zip_sep2 (N := s1.heap.objs.size) (fp1 := []) (fp2 := []) (fun b hb => nomatch hb) (fun b hb => nomatch hb)
      have tn := turn_tuples (P := X.prog) (w := X.w) (K := X.K) (elts := elts) (kk := kk) (tpos := tpos) (f := zipF x y)
        (fun A hh => WalksT.zipD2 sep (Draws.text (prog := X.prog) (w := X.w) hh s1.heap.objs.size x t) (Draws.text (prog := X.prog) (w := X.w) hh (s1.heap.objs.size + 1) y t'))
        (fun i vals hv => by
          obtain ⟨x1, x2, ⟨c, u, hc, rfl⟩, ⟨d, u', hd, rfl⟩, rfl⟩ := hv
          exact ⟨[.str ⟨#[c]⟩, .str ⟨#[d]⟩], .cons ⟨_, rfl⟩ (.cons ⟨_, rfl⟩ .nil), ⟨c, d, hc, hd, rfl⟩, by show 2 ≤ 8; decide⟩)
        (fun i h st b hb => by
          obtain ⟨z1, z2, ⟨a1, a2, z3⟩, ⟨o1, e1, _, d1⟩, ⟨o2, e2, _, d2⟩⟩ := st
          have e' : b = s1.heap.objs.size + 4 ∨ b = s1.heap.objs.size + 2 ∨ b = s1.heap.objs.size + 3 ∨ b = s1.heap.objs.size ∨ b = s1.heap.objs.size + 1 := by simpa using hb
          rcases e' with q | q | q | q | q
          · rw [q]; exact ⟨_, z1, fun v q => nomatch q⟩
          · rw [q]; exact ⟨_, z2, fun v q => nomatch q⟩
          · rw [q]; exact ⟨_, z3, fun v q => nomatch q⟩
          · rw [q]; exact ⟨o1, e1, fun v q => by rw [d1] at q; cases q⟩
          · rw [q]; exact ⟨o2, e2, fun v q => by rw [d2] at q; cases q⟩)
        (by simp) (fun A i s Q E st h => wpAny_pyIter_zip st.1 h)
      refine ⟨s1.heap.objs.size + 4, _, _, _, H1, rfl, I2, tn, ⟨⟨hz, hTI, ⟨_, _, hTO⟩, ⟨_, h1, rfl, rfl⟩, ⟨_, h2, rfl, rfl⟩⟩, Nat.zero_le _⟩, fun c hcm => ?_, q⟩
      have e' : c = s1.heap.objs.size + 4 ∨ c = s1.heap.objs.size + 2 ∨ c = s1.heap.objs.size + 3 ∨ c = s1.heap.objs.size ∨ c = s1.heap.objs.size + 1 := by simpa using hcm
      have hle : s1.heap.objs.size ≤ c := by
        rcases e' with z | z | z | z | z
        · rw [z]; exact Nat.le_add_right _ _
        · rw [z]; exact Nat.le_add_right _ _
        · rw [z]; exact Nat.le_add_right _ _
        · rw [z]; exact Nat.le_refl _
        · rw [z]; exact Nat.le_add_right _ _
      exact I1.fpOk hle (I1.hok.fresh hle)
section
variable {X : Cx}
theorem op_rep_str : OpR X (binaryOp .Mult) (fun x y H Q => ∃ (z : Str) (n : Int), x = .str z ∧ y = .int n ∧ n < 2 ^ 20 ∧ -(2 ^ 20) < n ∧ z.length * n.toNat ≤ 100000 ∧ Q (.str (Txt.mul z n)) H) := by
  intro pins s σ H x y u v Q I rx ry h
  obtain ⟨z, n, rfl, rfl, h1, h2, h3, q⟩ := h
  obtain ⟨t, rfl⟩ := rx
  obtain ⟨t', rfl⟩ := ry
  refine SB.mul ⟨?_, fun a b => ?_, fun a b => ?_⟩ fun t' k => ⟨.str (Txt.mul z n), H, I.tok _, ⟨_, rfl⟩, q⟩
  · rw [decide_eq_false (by omega), decide_eq_false (by omega)]; rfl
  · have e1 : ((z.length : Int)) ≤ 100000 := by
      have : z.length * 1 ≤ z.length * n.toNat := Nat.mul_le_mul_left _ (by omega)
      omega
    have e2 : (100000 : Int) ≤ (2 ^ 63 - 1) / n := by
      refine (Int.le_ediv_iff_mul_le (by omega)).mpr ?_
      omega
    omega
  · show decide (z.length * n.toNat > sizeLine) = false
    exact decide_eq_false (Nat.not_lt.mpr (Nat.le_trans h3 (by decide)))
end
open C8 in
theorem pe_mk0 {X : Cx} {k j : Nat} {C : Addr} {x : Str} {sp : Sp} {dvs : List V} {p pos : Pos} (c : Mak X.prog X.w X.K X.mg X.base k x C sp dvs) (hr : Room j X.A) (hk : k + 1 ≤ j) (hg : Gl X x) (hdb : (x == ("__debug__" : Str)) = false := by decide) :
    PE X (.Call (.Name x p) [] [] pos) (tMake C sp dvs C8.E0 tNil) := by
  obtain ⟨f, fd, ps, ds, M, F, hm, b, d⟩ := c.ex
  exact pe_make0 M F (hr.mono hk) hg hm b d C8.pass0 hdb
open C8 in
theorem pe_c0 {X : Cx} {k j : Nat} {x : Str} {sp : Sp} {dvs : List V} {p pos : Pos} (c : Cal X.prog X.w X.K X.mg X.base k x sp dvs) (hr : Room j X.A) (hk : k ≤ j) (hg : Gl X x) (hdb : (x == ("__debug__" : Str)) = false := by decide) :
    PE X (.Call (.Name x p) [] [] pos) (tCall sp dvs C8.E0 tNil) := by
  obtain ⟨f, fd, ps, ds, F, hm, kp, b, d⟩ := c.ex
  exact pe_call0 F (hr.mono hk) hg hm kp b d C8.pass0 hdb
structure Prp (P : Program) (w : World) (K : PySem.W.Frag) (mg : Str → Option Value) (base : Heap) (k : Nat) (C : Addr) (m : Str) (sp : Sp) : Prop where
  ex : ∃ (p f : Addr) (fd : FuncData) (ps : List Str), Cls K C ∧ PropOf K C m p f ∧ FnOk P w K mg base C8.CX0 k f fd ps sp ∧ Binds K fd ps []
theorem pe_pr {X : Cx} {k j : Nat} {C : Addr} {m : Str} {sp : Sp} {e : Expr} {ta : TE} {pos : Pos} (c : Prp X.prog X.w X.K X.mg X.base k C m sp) (hr : Room j X.A) (hk : k + 1 ≤ j) (he : PE X e ta) (hab : attributeBase e m X.env (eval e X.env) = eval e X.env := by rfl) :
    PE X (.Attribute e m pos) (tProp C sp [] C8.E0 ta) := by
  obtain ⟨p, f, fd, ps, hc, hp, F, b⟩ := c.ex
  exact pe_prop he hc hp F (hr.mono hk) b .nil C8.pass0 hab
end Lx
set_option maxRecDepth 100000
set_option maxHeartbeats 4000000
namespace SrT
open PySem PyProof.Rows SrtO
def IsTT (h : Heap) (v : Value) (x y : Str) : Prop := ∃ a o t u n, v = .ref a ∧ h.get? a = some o ∧ o.cls = .type "tuple" ∧ o.data = .seq #[.str x t, .str y u] n
theorem IsTT.keeps {h h' : Heap} {v : Value} {x y : Str} (p : IsTT h v x y) (k : ∀ b o, h.get? b = some o → o.cls = .type "tuple" → h'.get? b = some o) : IsTT h' v x y := by
  obtain ⟨a, o, t, u, n, e, ho, hc, hd⟩ := p
  exact ⟨a, o, t, u, n, e, k _ _ ho hc, hc, hd⟩
def lexT (p q : Str × Str) : Bool := if p.1 = q.1 then decide (p.2.cps.toList < q.2.cps.toList) else decide (p.1.cps.toList < q.1.cps.toList)
theorem str_of {a b : Str} (h : a.cps.toList = b.cps.toList) : a = b := TL.ext_tl h
theorem tri {a b : Str} (h1 : ¬ a.cps.toList < b.cps.toList) (h2 : ¬ b.cps.toList < a.cps.toList) : a = b :=
  str_of (List.le_antisymm (List.not_lt.mp h2) (List.not_lt.mp h1))
theorem lexT_no {p q : Str × Str} : lexT p q = false ↔ q.1.cps.toList < p.1.cps.toList ∨ (p.1 = q.1 ∧ ¬ p.2.cps.toList < q.2.cps.toList) := by
  unfold lexT
  by_cases e : p.1 = q.1
  · rw [if_pos e, decide_eq_false_iff_not]
    constructor
    · intro h; exact .inr ⟨e, h⟩
    · rintro (h | h)
      · rw [e] at h; exact absurd h (List.lt_irrefl _)
      · exact h.2
  · rw [if_neg e, decide_eq_false_iff_not]
    constructor
    · intro h
      by_cases c : q.1.cps.toList < p.1.cps.toList
      · exact .inl c
      · exact absurd (tri h c) e
    · rintro (h | h)
      · exact List.lt_asymm h
      · exact absurd h.1 e
theorem lexT_yes {p q : Str × Str} : lexT p q = true ↔ p.1.cps.toList < q.1.cps.toList ∨ (p.1 = q.1 ∧ p.2.cps.toList < q.2.cps.toList) := by
  unfold lexT
  by_cases e : p.1 = q.1
  · rw [if_pos e, decide_eq_true_eq]
    constructor
    · intro h; exact .inr ⟨e, h⟩
    · rintro (h | h)
      · rw [e] at h; exact absurd h (List.lt_irrefl _)
      · exact h.2
  · rw [if_neg e, decide_eq_true_eq]
    constructor
    · intro h; exact .inl h
    · rintro (h | h)
      · exact h
      · exact absurd h.1 e
theorem swo_T {α : Type} (k : α → Str × Str) : Swo fun v u => lexT (k v) (k u) := by
  refine ⟨fun x y h => ?_, fun x y z h1 h2 => ?_⟩
  · rcases lexT_yes.mp h with a | ⟨a, b⟩
    · exact lexT_no.mpr (.inl a)
    · exact lexT_no.mpr (.inr ⟨a.symm, List.lt_asymm b⟩)
  · refine lexT_no.mpr ?_
    rcases lexT_no.mp h1 with a | ⟨a, b⟩ <;> rcases lexT_no.mp h2 with c | ⟨c, d⟩
    · exact .inl (List.lt_trans a c)
    · rw [← c] at a; exact .inl a
    · rw [a] at c; exact .inl c
    · refine .inr ⟨c.trans a, fun hz => ?_⟩
      by_cases e : (k y).2.cps.toList < (k x).2.cps.toList
      · exact b e
      · by_cases g : (k z).2 = (k y).2
        · rw [g] at hz; exact b hz
        · by_cases i : (k y).2.cps.toList < (k z).2.cps.toList
          · exact b (List.lt_trans i hz)
          · exact g (tri d i)
section
variable {prog : Program} {w : World} {A : Around} {E : Value → Shared → Prop} {s : Shared}
theorem tt_cmp {vs : List Value} {k : Value → Str × Str} (hp : ∀ v ∈ vs, IsTT s.heap v (k v).1 (k v).2) : Cmp prog w A s (tuples' true) (fun p => p.1 ∈ vs) (lt2 fun v u => lexT (k v) (k u)) := by
  intro p q hm hm'
  have h1 := hp _ hm
  have h2 := hp _ hm'
  show wpAny (model prog w) A (keyLt' (tuples' true) p.1 q.1) (fun r s' => s' = s ∧ r = lexT (k p.1) (k q.1)) (fun _ _ => False) s
  unfold lexT
  generalize (k p.1).1 = x at h1 ⊢
  generalize (k p.1).2 = y at h1 ⊢
  generalize (k q.1).1 = x' at h2 ⊢
  generalize (k q.1).2 = y' at h2 ⊢
  obtain ⟨a, o, t, u, n, e, ho, hc, hd⟩ := h1
  obtain ⟨a', o', t', u', n', e', ho', hc', hd'⟩ := h2
  rw [e, e']
  refine PySem.W.kat_lt ho hd ho' hd' ?_
  show PySem.W.KatLex prog w A true (decide (2 < 2)) _ [(.str x t, .str x' t'), (.str y u, .str y' u')] 0 s
  refine PySem.W.kat_cons (SeqAt.EqAt.str_str x t x' t' prog w _ _ ?_)
  refine PySem.W.kat_go (fun e1 => ?_) (fun e1 => ?_)
  · have ex : x = x' := by simpa using e1
    refine PySem.W.kat_yes (PySem.W.kat_cons (SeqAt.EqAt.str_str y u y' u' prog w _ _ ?_))
    refine PySem.W.kat_go (fun e2 => ?_) (fun e2 => ?_)
    · have ey : y = y' := by simpa using e2
      have e3 : (if x = x' then decide (y.cps.toList < y'.cps.toList) else decide (x.cps.toList < x'.cps.toList)) = false := by
        rw [if_pos ex, ey]
        exact decide_eq_false (List.lt_irrefl _)
      exact PySem.W.kat_yes (PySem.W.kat_nil ⟨rfl, e3.symm⟩)
    · have e3 : (if x = x' then decide (y.cps.toList < y'.cps.toList) else decide (x.cps.toList < x'.cps.toList)) = decide (y.cps.toList < y'.cps.toList) := if_pos ex
      refine PySem.W.kat_no (PySem.W.kat_one _ _ (PyProof.Rows.lt_str ?_))
      exact (show s = s ∧ decide (y.cps.toList < y'.cps.toList) = (if x = x' then decide (y.cps.toList < y'.cps.toList) else decide (x.cps.toList < x'.cps.toList)) from ⟨rfl, e3.symm⟩)
  · have ex : ¬ x = x' := by simpa using e1
    have e3 : (if x = x' then decide (y.cps.toList < y'.cps.toList) else decide (x.cps.toList < x'.cps.toList)) = decide (x.cps.toList < x'.cps.toList) := if_neg ex
    exact PySem.W.kat_no (oneLt_str ⟨rfl, e3.symm⟩)
theorem firsts_T {h : Heap} : ∀ {vs : List Value}, (∀ v ∈ vs, ∃ x y, IsTT h v x y) → ∃ fs : List Value, PySem.W.KatTups h vs fs ∧ fs.length = vs.length ∧ ∀ f ∈ fs, ∃ x t, f = Value.str x t
  | [], _ => ⟨[], PySem.W.KatTups.nil, rfl, fun _ hm => by simp at hm⟩
  | v :: vs, hp => by
    obtain ⟨fs, h1, h2, h3⟩ := firsts_T (vs := vs) fun v' hm => hp v' (List.mem_cons_of_mem _ hm)
    obtain ⟨x, y, a, o, t, u, n, e, ho, hc, hd⟩ := hp v (List.mem_cons_self ..)
    subst e
    refine ⟨.str x t :: fs, PySem.W.KatTups.cons ho hc hd rfl h1, by rw [List.length_cons, List.length_cons, h2], fun f hm => ?_⟩
    rcases List.mem_cons.mp hm with rfl | hm
    · exact ⟨x, t, rfl⟩
    · exact h3 f hm
theorem tt_sortable {a : Addr} {vs : List Value} {k : Value → Str × Str} (h0 : 0 < vs.length) (hp : ∀ v ∈ vs, IsTT s.heap v (k v).1 (k v).2) (ha : ∀ o, s.heap.get? a = some o → o.cls ≠ .type "tuple") : SortableO prog w A s a vs fun v u => lexT (k v) (k u) := by
  intro h' keep
  have hp' : ∀ v ∈ vs, IsTT h' v (k v).1 (k v).2 := fun v hm => (hp v hm).keeps fun b o e c => keep b o (fun z => by subst z; exact ha o e c) e
  obtain ⟨fs, h1, h2, h3⟩ := firsts_T fun v hm => ⟨_, _, hp' v hm⟩
  refine ⟨tuples' true, fun Q E hq => ?_, tt_cmp hp'⟩
  refine PySem.W.kat_kind (T := .type "str") h1 (by omega) (fun f hm => ?_) (by rfl) ?_
  · obtain ⟨x, t, rfl⟩ := h3 f hm
    exact PySem.W.Looks.now
  · have e : (Value.type "str" != Value.type "tuple") = true := by first | decide +kernel | rfl | decide
    rw [e]
    exact hq
theorem collect_tup {l : Addr} {vs : List Value} {Q : List Value → Shared → Prop} (hl : s.heap.IsTuple l vs.toArray)
    (h : Q vs { s with heap := (s.heap.push (seqObj "list" #[] 0)).update s.heap.objs.size (Obj.mapSeq (· ++ vs.toArray)) }) (hsz : vs.length ≤ sizeLine) :
    wpAny (model prog w) A (collect (.ref l)) Q E s := by
  obtain ⟨o, ho, hc, n, hd⟩ := id hl
  unfold collect
  refine wpAny_bind (wpAny_runValue (codeAny_builtin entry_proto_collect' ?_))
  show wpAny _ _ (do again (.builtin "list.__iadd__" ⟨[← newList [], .ref l], []⟩)) _ _ s
  refine wpAny_bind (wpAny_newList (wpAny_pure ⟨Code.quiet_builtin _ (by decide +kernel), codeAny_builtin entry_list_iadd' ?_⟩))
  show wpAny _ _ (Builtin.List.listExtendWith (.ref s.heap.objs.size) (.ref l) (.ref s.heap.objs.size)) _ _ { s with heap := s.heap.push (seqObj "list" #[] 0) }
  unfold Builtin.List.listExtendWith
  have ho' : (s.heap.push (seqObj "list" #[] 0)).get? l = some o := Heap.get?_push_of_some _ ho
  refine wpAny_bind (wpAny_typeOf (T := "tuple") ⟨o, ho', hc⟩ ?_)
  have ht : (Value.type "tuple" == Value.type "tuple") = true := by rfl
  rw [if_pos (by rw [ht]; simp)]
  refine wpAny_bind (listItems_at ho' hd ?_)
  refine wpAny_bind (listItems_at (xs := #[]) (n := 0) (Heap.get?_push_size _ rfl) rfl ?_)
  rw [if_neg (by simp)]
  refine wpAny_bind (listUpdate_at (xs := #[]) (n := 0) (Heap.get?_push_size _ rfl) rfl ?_ (Nat.zero_le _) (by show (#[] ++ vs.toArray).size ≤ sizeLine + 1; simp only [Array.size_append, List.size_toArray, List.length_nil]; omega))
  refine wpAny_pure ?_
  show wpAny (model prog w) A (do
      let o ← load s.heap.objs.size
      match o.data with
      | .seq xs _ => pure xs.toList
      | _ => unsupported "internal:collect") Q E { s with heap := (s.heap.push (seqObj "list" #[] 0)).update s.heap.objs.size (Obj.mapSeq (· ++ vs.toArray)) }
  refine wpAny_bind (wpAny_load (get?_update_seq (Heap.get?_push_size _ rfl) _) ?_)
  show wpAny _ _ (pure ((#[] : Array Value) ++ vs.toArray).toList) Q E _
  rw [show ((#[] : Array Value) ++ vs.toArray).toList = vs by simp]
  exact wpAny_pure h
theorem sorted_col {x : Value} {vs : List Value} {ltv : Value → Value → Bool} {Q : Value → Shared → Prop} (O : Swo ltv)
    (hcol : ∀ (A : Around) (E : Value → Shared → Prop) (Q : List Value → Shared → Prop), Q vs { s with heap := (s.heap.push (seqObj "list" #[] 0)).update s.heap.objs.size (Obj.mapSeq (· ++ vs.toArray)) } → wpAny (model prog w) A (collect x) Q E s) (hz : vs.length ≤ sizeLine)
    (hS : 2 ≤ vs.length → ∀ (h₁ : Heap) (a : Addr), h₁.get? a = some (seqObj "list" vs.toArray 0) → (∀ b o, s.heap.get? b = some o → b ≠ a ∧ h₁.get? b = some o) → SortableO prog w A.in1.in1 { s with heap := h₁ } a vs ltv)
    (h : ∀ out : List Value, Srtd ltv out → Stb ltv out vs → Q (.ref (s.heap.objs.size + 1)) { s with heap := sortedAll s.heap vs out.toArray }) :
    wpAny (model prog w) A (call (.builtin "sorted") [x]) Q E s := by
  refine Calls.call_function_entry kind_sorted plain_sorted entry_sorted (args_sorted1 _) ?_
  unfold Builtin.«sorted»
  refine wpAny_bind (m := checkCount "sorted" 1 1 _) (wpAny_pure ?_)
  refine wpAny_bind (hcol _ _ _ ?_)
  refine wpAny_bind (wpAny_newList ?_ hz)
  have hsz : ((s.heap.push (seqObj "list" #[] 0)).update s.heap.objs.size (Obj.mapSeq (· ++ vs.toArray))).objs.size = s.heap.objs.size + 1 := by
    rw [Heap.size_update, size_push']
  have hoL : (((s.heap.push (seqObj "list" #[] 0)).update s.heap.objs.size (Obj.mapSeq (· ++ vs.toArray))).push (seqObj "list" vs.toArray 0)).get? (s.heap.objs.size + 1) = some (seqObj "list" vs.toArray 0) := by
    rw [← hsz]; exact Heap.get?_push_size _ rfl
  have keep : ∀ b o, s.heap.get? b = some o → b ≠ s.heap.objs.size + 1 ∧ (((s.heap.push (seqObj "list" #[] 0)).update s.heap.objs.size (Obj.mapSeq (· ++ vs.toArray))).push (seqObj "list" vs.toArray 0)).get? b = some o := fun b o q => by
    have hlt : b < s.heap.objs.size := Heap.lt_size q
    refine ⟨Nat.ne_of_lt (Nat.lt_succ_of_lt hlt), Heap.get?_push_of_some _ ?_⟩
    rw [Heap.get?_update_ne _ _ _ _ (Nat.ne_of_lt hlt)]
    exact Heap.get?_push_of_some _ q
  show wpAny _ _ _ _ _ { s with heap := ((s.heap.push (seqObj "list" #[] 0)).update s.heap.objs.size (Obj.mapSeq (· ++ vs.toArray))).push (seqObj "list" vs.toArray 0) }
  rw [hsz]
  refine wpAny_bind (wpAny_holding (wpAny_call_entry slot_list_sort ⟨_, hoL, rfl⟩ entry_list_sort (list_sort_ord O hoL hz (fun h2 => hS h2 _ _ hoL keep) fun out hs hb => ⟨_, rfl, ?_⟩) (args_list_sort _)))
  exact wpAny_pure ⟨_, rfl, h out hs hb⟩
end
end SrT
namespace Lx
open PySem PySem.Spec PyProof.Rows L2
def rSortedT (K : PySem.W.Frag) : List V → Hp → VK → Prop := fun vs H Q => ∃ (a : Addr) (ps : List Addr) (k : Addr → Str × Str), vs = [V.ref a] ∧ (SqL K H a (ps.map V.ref) ∨ SqT K H a (ps.map V.ref)) ∧ (∀ t ∈ ps, H t = some (.tup [.str (k t).1, .str (k t).2])) ∧
  ∀ (qs : List Addr) p, SrtO.Srtd (fun x y => SrT.lexT (k x) (k y)) qs → qs.Perm ps → H p = none → Q (.ref p) (upd H p (.lst (qs.map V.ref)))
section
variable {X : Cx}
theorem cr_sortedT : CallR X (.builtin "sorted") (rSortedT X.K) := by
  intro pins s σ H vs us Q I r h
  obtain ⟨a, ps, k, rfl, hs, hx, q⟩ := h
  obtain ⟨u, rfl, ru⟩ := vals1 r
  obtain rfl : u = Value.ref a := ru
  have com : ∀ its : List Value, Vals (ps.map V.ref) its → its.length ≤ sizeLine → (∀ (A : Around) (E : Value → Shared → Prop) (Q : List Value → Shared → Prop), Q its { s with heap := (s.heap.push (seqObj "list" #[] 0)).update s.heap.objs.size (Obj.mapSeq (· ++ its.toArray)) } → wpAny (model X.prog X.w) A (collect (.ref a)) Q E s) →
      wpAny (model X.prog X.w) X.A (call (.builtin "sorted") [Value.ref a]) (EP X pins σ Q) X.xe s := by
    intro its rv hz hcol
    have ei : its = ps.map Value.ref := by
      clear hcol hz hx q hs
      induction ps generalizing its with
      | nil => cases rv; rfl
      | cons x l ih =>
        cases rv with
        | cons h1 h2 =>
          rw [List.map_cons, ← ih _ h2]
          congr 1
    subst ei
    have hp : ∀ v ∈ ps.map Value.ref, SrT.IsTT s.heap v (match v with | .ref t => k t | _ => ("", "")).1 (match v with | .ref t => k t | _ => ("", "")).2 := by
      intro v hv
      obtain ⟨t, ht, rfl⟩ := List.mem_map.mp hv
      obtain ⟨_, its2, r2, o, ho, hc, n, hd⟩ := I.hok _ _ (hx t ht)
      obtain ⟨u1, u2, rfl, ri, rj⟩ := vals2 r2
      obtain ⟨t1, rfl⟩ := ri
      obtain ⟨t2, rfl⟩ := rj
      exact ⟨t, o, t1, t2, n, rfl, ho, hc, hd⟩
    refine SrT.sorted_col (SrT.swo_T fun v : Value => match v with | .ref t => k t | _ => ("", "")) hcol hz (fun h2 h₁ b hb kk => ?_) fun out h1 h2 => ?_
    · refine SrT.tt_sortable (s := { s with heap := h₁ }) (by omega) (fun v hm => (hp v hm).keeps fun b o e _ => (kk b o e).2) fun o e => ?_
      have e' : some o = some (seqObj "list" (ps.map Value.ref).toArray 0) := e.symm.trans hb
      cases e'
      intro c
      exact absurd (Value.type.inj c) (by decide)
    · obtain ⟨qs, rfl⟩ : ∃ qs : List Addr, out = qs.map Value.ref := by
        have hm : ∀ v ∈ out, ∃ t, v = Value.ref t := fun v hv => by
          obtain ⟨t, _, e⟩ := List.mem_map.mp (h2.perm.mem_iff.mp hv)
          exact ⟨t, e.symm⟩
        clear h1 h2
        induction out with
        | nil => exact ⟨[], rfl⟩
        | cons v r ih =>
          obtain ⟨t, rfl⟩ := hm v List.mem_cons_self
          obtain ⟨qs, rfl⟩ := ih fun v hv => hm v (List.mem_cons_of_mem _ hv)
          exact ⟨t :: qs, rfl⟩
      have perm : qs.Perm ps := by
        have h3 := h2.perm.map (fun v : Value => match v with | .ref t => t | _ => 0)
        rw [List.map_map, List.map_map] at h3
        have ef : ((fun v : Value => match v with | .ref t => t | _ => 0) ∘ Value.ref) = id := by funext t; rfl
        rw [ef, List.map_id, List.map_id] at h3
        exact h3
      have srt : SrtO.Srtd (fun x y => SrT.lexT (k x) (k y)) qs := List.pairwise_map.mp h1
      obtain ⟨n, hn⟩ := PyProof.Rows.sortedAll_at s.heap (ps.map Value.ref) (qs.map Value.ref).toArray
      have hd : s.heap.objs.size ≤ s.heap.objs.size + 1 := Nat.le_succ _
      have rq : Vals (qs.map V.ref) (qs.map Value.ref) := by
        clear h1 h2 perm srt hn
        induction qs with
        | nil => exact .nil
        | cons x l ih => exact .cons rfl ih
      refine ⟨.ref (s.heap.objs.size + 1), upd H (s.heap.objs.size + 1) (.lst (qs.map V.ref)), I.laid (t' := s.toks) (fun b o e => PyProof.Rows.sortedAll_old e) hd ⟨?_, _, n, rq, hn⟩, rfl, q qs _ srt perm (I.hok.fresh hd)⟩
      rw [List.length_map, perm.length_eq, ← List.length_map (f := Value.ref)]
      exact hz
  rcases hs with hs | hs
  · obtain ⟨its, rv, hl, hz⟩ := I.list hs
    exact com its rv (by rw [← rv.length]; exact hz) fun A E Q h => collect_list hl.isList h (by rw [← rv.length]; exact hz)
  · obtain ⟨its, rv, hl, hz⟩ := I.tuple hs
    exact com its rv (by rw [← rv.length]; exact hz) fun A E Q h => SrT.collect_tup (show s.heap.IsTuple a its.toArray from hl) h (by rw [← rv.length]; exact hz)
def iSeq (K : PySem.W.Frag) (tl : TE) : TI := fun σ H R => iList K tl σ H R ∨ iTup K tl σ H R
theorem pi_seq {tg l : Expr} {tl : TE} (hl : PE X l tl) : PI X tg l (iSeq X.K tl) := by
  refine ⟨fun pins s σ H R I h => ?_⟩
  rcases h with h | h
  · exact (pi_list hl).run pins s σ H R I h
  · exact (pi_tup hl).run pins s σ H R I h
theorem ty_list {K : PySem.W.Frag} {H : Hp} {a : Addr} {xs : List V} (h : SqL K H a xs) : TyX K H (.ref a) (.type "list") := by
  rcases h with (h | ⟨o, h⟩) | ⟨o, its, n, hk, hc, _⟩
  · exact .base (.lst h)
  · exact .base (.frz h)
  · exact .kList hk hc
theorem ty_tup {K : PySem.W.Frag} {H : Hp} {a : Addr} {xs : List V} (h : SqT K H a xs) : TyX K H (.ref a) (.type "tuple") := by
  rcases h with (h | ⟨o, h⟩) | ⟨o, its, n, hk, hc, _⟩
  · exact .base (.tup h)
  · exact .fTuple h
  · exact .kTuple hk hc
theorem same_tup {K : PySem.W.Frag} {H H' : Hp} {a : Addr} {xs : List V} (e : Same H H') (h : SqT K H a xs) : SqT K H' a xs := by
  rcases h with (h | ⟨o, h⟩) | h
  · exact .inl (.inl (e _ _ h))
  · exact .inl (.inr ⟨o, e _ _ h⟩)
  · exact .inr h
def Sq (K : PySem.W.Frag) (H : Hp) (a : Addr) (xs : List V) : Prop := SqL K H a xs ∨ SqT K H a xs
theorem Sq.same {K : PySem.W.Frag} {H H' : Hp} {a : Addr} {xs : List V} (h : Sq K H a xs) (e : Same H H') : Sq K H' a xs := h.elim (fun h => .inl (e.seq h)) (fun h => .inr (same_tup e h))
end
end Lx
set_option maxRecDepth 100000
set_option maxHeartbeats 4000000
namespace Lx
open PySem PySem.Spec PyProof.Rows L2
section
variable {X : Cx} {k j : Nat} {C : Addr} {sp : Sp}
theorem run_sub {CX : CXT} {f : Addr} {fd : FuncData} {ps : List Str} {A : Around} {pins : List (Addr × Obj)} {σ : L2.St} {H : Hp} {s : Shared} {Q : VK} {E : XK} {us : List Value} {vs : List V} (F : FnOk X.prog X.w X.K X.mg X.base CX k f fd ps sp) (sb : Sub X k A) (hb : Binds X.K fd ps [])
    (hx : Passes CX X E) (I : Inv X pins σ H s) (r : Vals vs us) (h : sp vs H Q E) : wpAny (model X.prog X.w) A (call (.ref f) us) (EP X pins σ Q) X.xe s := by
  have e0 : Env0 X.prog X.w X.K X.mg X.base A X.stack s H := by
    have e := I.env0
    exact ⟨by rw [sb.fr]; exact e.frames, e.mod, e.bs, e.bsz, e.funs, e.frf, e.hok, e.bare⟩
  have hl : (us ++ []).length = ps.length := by rw [List.append_nil, ← r.length]; exact F.len _ _ _ _ h
  refine wpAny_call (codeAny_mono (F.run A X.stack s H ⟨us, []⟩ us vs Q E sb.room e0 (by have := hb s us I.kIn hl; simpa using this) r h) fun r s' hq => ?_)
  cases r with
  | error e => exact hx pins σ H s e s' I hq
  | ok fl =>
    cases fl with
    | ret w => exact I.after hq
    | next => exact False.elim hq
    | brk => exact False.elim hq
    | cont => exact False.elim hq
theorem vals_nil {ds : List Value} (h : Vals [] ds) : ds = [] := by cases h; rfl
theorem sub_in2 {A : Around} (hr : Room j A) (hk : k + 2 ≤ j) (hf : A.frames = X.A.frames) : Sub X k A.in1.in1 := by
  have s : Sub X (k + 2) A := ⟨hr.mono hk, hf⟩
  exact s.in1.in1
def rStrO (C : Addr) (sp : Sp) : List V → Hp → VK → Prop := fun xs H Q => ∃ a dx fs, xs = [.ref a] ∧ H a = some (.ins C dx fs) ∧ sp [.ref a] H (fun v H' => ∃ z, v = .str z ∧ Q (.str z) H') C8.E0
theorem call_str_own (c : C8.Met X.prog X.w X.K X.mg X.base k C "__str__" sp []) (hr : Room j X.A) (hk : k + 2 ≤ j) : CallR X (.type "str") (rStrO C sp) := by
  intro pins s σ H xs us Q I rv h
  obtain ⟨a, dx, fs, rfl, ha, hsp⟩ := h
  obtain ⟨f, fd, ps, ds, _, me, F, b, d⟩ := c.ex
  obtain rfl := vals_nil d
  cases rv with
  | cons r rr =>
    cases rr
    cases r
    obtain ⟨mA, J, _⟩ := ins_get I.hok ha
    obtain ⟨od, J, _⟩ := J.look
    have sb : Sub X k X.A.in1.in1 := sub_in2 hr hk rfl
    refine PySem.W.kso_call sb.room.units0 I.kIn J me.at_ me.fn (wpAny_mono (run_sub (vs := [.ref a]) F sb b C8.pass0 I (.cons rfl .nil) hsp) (fun u s' q => ?_) fun _ _ x => x)
    obtain ⟨v, H', I', ru, z, ez, q⟩ := q
    subst ez
    obtain ⟨t, rfl⟩ := ru
    exact ⟨.str z, H', I', ⟨t, rfl⟩, q⟩
def rLenO (C : Addr) (sp : Sp) : List V → Hp → VK → Prop := fun xs H Q => ∃ a dx fs, xs = [.ref a] ∧ H a = some (.ins C dx fs) ∧ sp [.ref a] H (fun v H' => ∃ n : Int, v = .int n ∧ 0 ≤ n ∧ n < 2 ^ 63 ∧ Q (.int n) H') C8.E0
theorem call_len_own (c : C8.Met X.prog X.w X.K X.mg X.base k C "__len__" sp []) (hr : Room j X.A) (hk : k + 2 ≤ j) : CallR X (.builtin "len") (rLenO C sp) := by
  intro pins s σ H xs us Q I rv h
  obtain ⟨a, dx, fs, rfl, ha, hsp⟩ := h
  obtain ⟨f, fd, ps, ds, _, me, F, b, d⟩ := c.ex
  obtain rfl := vals_nil d
  cases rv with
  | cons r rr =>
    cases rr
    cases r
    obtain ⟨mA, J, _⟩ := ins_get I.hok ha
    obtain ⟨od, J, _⟩ := J.look
    have sb : Sub X k X.A.in1 := (show Sub X (k + 1) X.A from ⟨hr.mono (by omega), rfl⟩).in1
    obtain ⟨m, hF⟩ := I.fr
    refine PySem.W.len_K hF I.ok.mod.kin J me.at_ me.fn (wpAny_mono (run_sub (vs := [.ref a]) F sb b C8.pass0 I (.cons rfl .nil) hsp) (fun u s' q => ?_) fun _ _ x => x)
    obtain ⟨v, H', I', ru, z, ez, h0, h1, q⟩ := q
    subst ez
    obtain ⟨t, rfl⟩ := ru
    exact ⟨⟨h0, h1⟩, .int z, H', I'.tok _, ⟨_, rfl⟩, q⟩
def rEqO (C : Addr) (sp : Sp) : R2 := fun x y H Q => ∃ a b dx dy fs gs, x = .ref a ∧ y = .ref b ∧ H a = some (.ins C dx fs) ∧ H b = some (.ins C dy gs) ∧ sp [.ref a, .ref b] H (fun v H' => ∃ t : Bool, v = .bl t ∧ Q (.bl t) H') C8.E0
theorem op_eqOwn (c : C8.Met X.prog X.w X.K X.mg X.base k C "__eq__" sp []) (hr : Room j X.A) (hk : k ≤ j) : OpR X (compareOp .Eq) (rEqO C sp) := by
  intro pins s σ H x y v u Q I rx ry h
  obtain ⟨a, b, dx, dy, fs, gs, rfl, rfl, ha, hb, hsp⟩ := h
  obtain ⟨f, fd, ps, ds, _, me, F, bn, d⟩ := c.ex
  obtain rfl := vals_nil d
  cases rx
  cases ry
  obtain ⟨mA, J, _⟩ := ins_get I.hok ha
  obtain ⟨mB, J', _⟩ := ins_get I.hok hb
  obtain ⟨od, J, _⟩ := J.look
  obtain ⟨od', J', _⟩ := J'.look
  obtain ⟨m, hF⟩ := I.fr
  have sb : Sub X k X.A := ⟨hr.mono hk, rfl⟩
  show wpAny (model X.prog X.w) X.A (richCompare .Eq (.ref a) (.ref b)) (EP X pins σ Q) X.xe s
  refine PySem.W.cmp_K (op := .Eq) (tb := .ref C) sb.room.units0 hF I.ok.mod.kin J J'.type (by simp [PySem.W.notFirst]) me.at_ me.fn ?_
  refine wpAny_mono (run_sub (vs := [.ref a, .ref b]) F sb bn C8.pass0 I (.cons rfl (.cons rfl .nil)) hsp) (fun u s' q => ?_) fun _ _ x => x
  obtain ⟨v, H', I', ru, t, ez, q⟩ := q
  subst ez
  cases (show u = Value.bool t from ru)
  exact ⟨.bl t, H', I', rfl, q⟩
end
structure NeT (K : PySem.W.Frag) (C : Addr) : Prop where
  mro : PySem.W.mroIn K C (.type "object") = some true
  ne : PySem.W.findIn K (.ref C) "__ne__" = some (some (.builtin "object.__ne__"))
section
open PySem.W
variable {M : Model} {prog : Program} {w : World} {A : Around} {E : Value → Shared → Prop} {s : Shared} {K : PySem.W.Frag} {x C f : Addr} {ox : Obj} {od : Option Obj} {b tb : Value}
theorem ifBound_bltn {name : Str} {id : String} {args : List Value} {Q : Option Value → Shared → Prop} (X : K.In s.heap) (I : PySem.W.InstAt s.heap x ox C od) (hs : PySem.W.findIn K (.ref C) name = some (some (.builtin id)))
    (hb : ∀ self, bindSpecial (.builtin id) self = pure (.builtin id, [self])) (h : wpAny M A (call (.builtin id) (.ref x :: args)) (fun v => Q (some v)) E s) : wpAny M A (callSpecialIfBound? (.ref x) name args) Q E s := by
  simp only [callSpecialIfBound?, bindSpecialIfBound?]
  refine wpAny_holding (wpAny_bind (wpAny_bind (wpAny_bind (I.type.here ((PySem.W.looks_findIn X hs).here ?_)))))
  refine wpAny_bind (wpAny_askSetting (wpAny_ite ?_))
  have fin : wpAny M A (call (.builtin id) ([.ref x] ++ args) >>= fun v => pure (some v)) Q E s := wpAny_bind (wpAny_mono h (fun v s' h' => wpAny_pure h') fun _ _ h' => h')
  split
  · exact wpAny_bind (wpAny_of_eq (hb _) (wpAny_pure (by exact fin)))
  · exact wpAny_tryCatch (wpAny_bind (wpAny_of_eq (hb _) (wpAny_pure (by exact fin))))
theorem ne_tree {Q : Fin → Shared → Prop} (hu : A.units < cLine) (X : K.In s.heap) (I : PySem.W.InstAt s.heap x ox C od) (he : PySem.W.findIn K (.ref C) "__eq__" = some (some (.ref f))) (hf : PySem.W.isFn K (.ref f) = true)
    (h : wpAny M A (call (.ref f) [.ref x, b]) (fun v s' => ∃ t : Bool, v = .bool t ∧ Q (.done (.ret (.bool (!t)))) s') E s) : wpAny M A (Builtin.«object.__ne__» ⟨[.ref x, b], []⟩) Q E s := by
  unfold Builtin.«object.__ne__»
  refine wpAny_bind (m := slotArgs "__ne__" 1 _) (wpAny_pure ?_)
  refine wpAny_bind (m := cRoomFor _ _) (wpAny_cRoomFor hu ?_)
  refine wpAny_bind (m := callSpecialIfBound? (.ref x) (Str.ofString "__eq__") _) (ifBound_K X I he hf (wpAny_mono h (fun r s' hr => ?_) fun _ _ y => y))
  obtain ⟨t, rfl, q⟩ := hr
  exact wpAny_bind (wpAny_truthy_bool (wpAny_pure q))
theorem cmp_neK {Q : Value → Shared → Prop} (hu : A.units < cLine) (hu1 : A.in1.units < cLine) (X : K.In s.heap) (I : PySem.W.InstAt s.heap x ox C od) (hb : Looks (model prog w) s.heap (typeOf b) tb) (hn : PySem.W.notFirst K C tb = true) (N : NeT K C)
    (he : PySem.W.findIn K (.ref C) "__eq__" = some (some (.ref f))) (hf : PySem.W.isFn K (.ref f) = true)
    (h : wpAny (model prog w) A.in1 (call (.ref f) [.ref x, b]) (fun v s' => ∃ t : Bool, v = .bool t ∧ Q (.bool (!t)) s') E s) : wpAny (model prog w) A (richCompare .NotEq (.ref x) b) Q E s := by
  have one : wpAny (model prog w) A (tryCompare (.ref x) (cmpInfo .NotEq).2.1 b) (fun r s' => ∃ v, r = some v ∧ Q v s') E s := by
    unfold tryCompare
    refine wpAny_bind (ifBound_bltn X I N.ne F.cmp_object.ne.bind ?_)
    refine wpAny_call (codeAny_call_builtin F.cmp_object.ne.plain F.cmpEntry_ne (PySem.W.check_slot F.cmpKind_ne F.cmpSplit_ne (I.type.andThen (PySem.W.looks_mroIn X N.mro)) (F.cmpArgs_ne _ _) (ne_tree hu1 X I he hf (wpAny_mono h (fun v s' hv => ?_) fun _ _ e => e))))
    obtain ⟨t, rfl, q⟩ := hv
    exact ⟨t, rfl, wpAny_pure ⟨_, rfl, q⟩⟩
  unfold richCompare
  simp only [oneThing_ref]
  refine wpAny_holding (wpAny_bind (wpAny_cRoomFor hu ?_))
  refine wpAny_bind (I.type.here (wpAny_bind (hb.here ?_)))
  split
  · rename_i q
    have e : subIn K tb (.ref C) = some false := by
      rcases Bool.or_eq_true_iff.mp hn with e | e
      · rw [beq_iff_eq.mp e] at q; simp at q
      · exact beq_iff_eq.mp e
    refine wpAny_bind ((looks_subIn X e).here ?_)
    simp only [Bool.false_eq_true, if_false]
    refine wpAny_bind (wpAny_mono one (fun r s' z => ?_) fun _ _ e => e)
    obtain ⟨v, rfl, hq⟩ := z
    exact wpAny_pure hq
  · refine wpAny_bind (wpAny_pure ?_)
    simp only [Bool.false_eq_true, if_false]
    refine wpAny_bind (wpAny_mono one (fun r s' z => ?_) fun _ _ e => e)
    obtain ⟨v, rfl, hq⟩ := z
    exact wpAny_pure hq
end
section
variable {X : Cx} {k j i : Nat} {C : Addr} {sp : Sp} {x y : Str} {dvs : List V} {p pos : Pos} {e : Expr} {es : List Expr} {t : TA}
def rNeO (C : Addr) (sp : Sp) : R2 := fun x y H Q => ∃ a b dx dy fs gs, x = .ref a ∧ y = .ref b ∧ H a = some (.ins C dx fs) ∧ H b = some (.ins C dy gs) ∧ sp [.ref a, .ref b] H (fun v H' => ∃ t : Bool, v = .bl t ∧ Q (.bl (!t)) H') C8.E0
theorem op_neOwn (c : C8.Met X.prog X.w X.K X.mg X.base k C "__eq__" sp []) (N : NeT X.K C) (hr : Room j X.A) (hk : k + 1 ≤ j) : OpR X (compareOp .NotEq) (rNeO C sp) := by
  intro pins s σ H x y v u Q I rx ry h
  obtain ⟨a, b, dx, dy, fs, gs, rfl, rfl, ha, hb, hsp⟩ := h
  obtain ⟨f, fd, ps, ds, _, me, F, bn, d⟩ := c.ex
  obtain rfl := vals_nil d
  cases rx
  cases ry
  obtain ⟨mA, J, _⟩ := ins_get I.hok ha
  obtain ⟨mB, J', _⟩ := ins_get I.hok hb
  obtain ⟨od, J, _⟩ := J.look
  obtain ⟨od', J', _⟩ := J'.look
  have sb1 : Sub X (k + 1) X.A := ⟨hr.mono hk, rfl⟩
  have sb := sb1.in1
  show wpAny (model X.prog X.w) X.A (richCompare .NotEq (.ref a) (.ref b)) (EP X pins σ Q) X.xe s
  refine cmp_neK (tb := .ref C) sb1.room.units0 sb.room.units0 I.kIn J J'.type (by simp [PySem.W.notFirst]) N me.at_ me.fn ?_
  refine wpAny_mono (run_sub (vs := [.ref a, .ref b]) F sb bn C8.pass0 I (.cons rfl (.cons rfl .nil)) hsp) (fun u s' q => ?_) fun _ _ x => x
  obtain ⟨v, H', I', ru, t, ez, q⟩ := q
  subst ez
  cases (show u = Value.bool t from ru)
  exact ⟨t, rfl, .bl (!t), H', I', rfl, q⟩
def tMakeL (i : Nat) (C : Addr) (sp : Sp) (dvs : List V) (t : TA) : TE := fun σ H Q => σ[i]? = some (some (.ref C)) ∧ tMake C sp dvs C8.E0 t σ H Q
theorem pe_mkL (i : Nat) (c : C8.Mak X.prog X.w X.K X.mg X.base k y C sp dvs) (hr : Room j X.A) (hk : k + 1 ≤ j) (ha : PA X (e :: es) t) (hN : X.N[i]? = some x := by rfl) (hv : Vis X.env.scope x := by first | exact Or.inl rfl | exact Or.inr (Or.inl rfl) | exact Or.inr (Or.inr rfl))
    (hdb : (x == ("__debug__" : Str)) = false := by decide) (hcd : (x == ("__classdict__" : Str)) = false := by decide)
    (he : starEach (e :: es) X.env = (false, eval e X.env) :: starEach es X.env := by rfl) (hpl : (backTo pos (starEach es X.env)).any (·.1) = false := by rfl) : PE X (.Call (.Name x p) (e :: es) [] pos) (tMakeL i C sp dvs t) := by
  obtain ⟨f, fd, ps, ds, M, F, hm, b, d⟩ := c.ex
  refine ⟨fun pins s σ H Q I h => ?_⟩
  obtain ⟨hs, ht⟩ := h
  refine wpAny_Call_Name_kw (thn ((pe_var (pos := p) hN hv hdb hcd).run pins s σ H (fun v H1 => v = .ref C ∧ H1 = H) I ⟨.ref C, hs, rfl, rfl⟩) fun u s1 ⟨v, H1, I1, r1, q1⟩ => ?_)
  obtain ⟨rfl, rfl⟩ := q1
  cases r1
  refine PySem.W.callWith_K (h₀ := X.base) I.ok.mod.kin M.kp (thn (ha.run pos pins s1 σ _ _ I1 ht) fun us s2 ⟨vs, H2, I2, r, q⟩ => ⟨I2.kIn, ?_⟩) he hpl
  exact run_make M F (hr.mono hk) b d C8.pass0 I2 r q
theorem pe_mkL0 (i : Nat) (c : C8.Mak X.prog X.w X.K X.mg X.base k y C sp dvs) (hr : Room j X.A) (hk : k + 1 ≤ j) (hN : X.N[i]? = some x := by rfl) (hv : Vis X.env.scope x := by first | exact Or.inl rfl | exact Or.inr (Or.inl rfl) | exact Or.inr (Or.inr rfl))
    (hdb : (x == ("__debug__" : Str)) = false := by decide) (hcd : (x == ("__classdict__" : Str)) = false := by decide) : PE X (.Call (.Name x p) [] [] pos) (tMakeL i C sp dvs tNil) := by
  obtain ⟨f, fd, ps, ds, M, F, hm, b, d⟩ := c.ex
  refine ⟨fun pins s σ H Q I h => ?_⟩
  obtain ⟨hs, ht⟩ := h
  refine wpAny_Call_Name_kw (thn ((pe_var (pos := p) hN hv hdb hcd).run pins s σ H (fun v H1 => v = .ref C ∧ H1 = H) I ⟨.ref C, hs, rfl, rfl⟩) fun u s1 ⟨v, H1, I1, r1, q1⟩ => ?_)
  obtain ⟨rfl, rfl⟩ := q1
  cases r1
  exact PySem.W.callWith_K0 I1.kIn M.kp (run_make (us := []) M F (hr.mono hk) b d C8.pass0 I1 .nil ht)
structure CMt (P : Program) (w : World) (K : PySem.W.Frag) (mg : Str → Option Value) (base : Heap) (k : Nat) (x : Str) (C : Addr) (m : Str) (sp : Sp) : Prop where
  ex : ∃ (mc : Value) (p g : Addr) (fd : FuncData) (ps : List Str), mg x = some (.ref C) ∧ ClX.CRead K C mc ∧ ClX.CMet K C mc m p g ∧ FnOk P w K mg base C8.CX0 k g fd ps sp ∧ Binds K fd ps []
theorem pe_cm {m : Str} {apos : Pos} {pl : Sem Bool} (c : CMt X.prog X.w X.K X.mg X.base k x C m sp) (hr : Room j X.A) (hk : k ≤ j) (hg : Gl X x) (ha : PA X (e :: es) t) (hdb : (x == ("__debug__" : Str)) = false := by decide)
    (hst : starEach (e :: es) X.env = (false, eval e X.env) :: starEach es X.env := by rfl) (hpl : (backTo pos (starEach es X.env)).any (·.1) = false := by rfl)
    (ht : eval (.Call (.Attribute (.Name x p) m apos) (e :: es) [] pos) X.env = (do
      let ov ← eval (.Name x p) X.env
      standAt apos.atName
      let (f, first) ← holding [ov] (getMethod ov m pl)
      callWith pos f first (backTo pos (starEach (e :: es) X.env)) (backToKw pos (keywordEach [] X.env))) := by rfl) :
    PE X (.Call (.Attribute (.Name x p) m apos) (e :: es) [] pos) (ClX.tCMeth C sp C8.E0 (tC (.ref C)) t) := by
  obtain ⟨mc, q, g, fd, ps, hm, r, cm, F, b⟩ := c.ex
  exact ClX.pe_cmeth (pe_glob (v := .ref C) hg hm rfl hdb) r cm (F.raw b .nil |>.imp fun vs H Q E h => by rw [List.append_nil]; exact h) (hr.mono hk) C8.pass0 ha hst hpl ht
end
structure IsT (K : PySem.W.Frag) (C : Addr) : Prop where
  cl : Cls K C
  ha : PySem.W.findIn K (.ref C) "__class__" = some (some (.builtin "object.__class__"))
  hn : PySem.W.specialIn K (.builtin "object.__class__") "__get__" = some (some (.builtin "getset_descriptor.__get__"))
  ht : PySem.W.takesIn K (.builtin "object.__class__") = some true
  hm : PySem.W.mroIn K C (.type "object") = some true
theorem IsT.ty {K : PySem.W.Frag} {C a dx : Addr} {H : Hp} {fs : List (Str × V)} (I : IsT K C) (e : H a = some (.ins C dx fs)) : TyX K H (.ref a) (.ref C) := .base (.ins e I.cl I.ha I.hn I.ht I.hm)
theorem IsT.one {K : PySem.W.Frag} {C : Addr} (_ : IsT K C) : PySem.W.kitOne K (.ref C) (.ref C) = some true := by
  unfold PySem.W.kitOne
  rw [if_pos (beq_self_eq_true _)]
def tJn (ts : List TE) : TE := fun σ H Q => tJs ts Str.empty σ H fun out H1 => Q (.str out) H1
theorem pe_jn {X : Cx} {v1 v2 : Expr} {rest : List Expr} {ts : List TE} {pos : Pos} (h : PJ X (v1 :: v2 :: rest) ts) : PE X (.JoinedStr (v1 :: v2 :: rest) pos) (tJn ts) := pe_joined h
end Lx
set_option maxRecDepth 100000
set_option maxHeartbeats 4000000
namespace Lx
open PySem PySem.Spec PyProof.Rows L2
section
open PySem.W
variable {prog : Program} {w : World} {A : Around} {E : Value → Shared → Prop} {s : Shared} {K : PySem.W.Frag} {x C f : Addr} {ox : Obj} {od : Option Obj}
theorem decl_none : wpAny (model prog w) A (tryCompare .none "__eq__" (.ref x)) (fun r s' => r = none ∧ s' = s) E s :=
  wpAny_tryCompare_declines (show s.TypeIs .none "NoneType" from rfl) F.slot_NoneType_eq_refl (call_gives F.slot_NoneType_eq_refl rfl F.entry_NoneType_eq (F.args_NoneType_eq_2 _ _) (PySem.SeqAt.NoneType___eq___none_ref_0 x) ⟨rfl, rfl, rfl⟩)
theorem decl_tup {t : Addr} {items : Array Value} (ht : IsTup s.heap t items) (X : K.In s.heap) (I : PySem.W.InstAt s.heap x ox C od) (e : subIn K (.ref C) (.type "tuple") = some false) :
    wpAny (model prog w) A (tryCompare (.ref t) "__eq__" (.ref x)) (fun r s' => r = none ∧ s' = s) E s := by
  refine wpAny_tryCompare_declines ht.typeIs F.slot_tuple_eq (wpAny_call_entry F.slot_tuple_eq ht.typeIs F.entry_tuple_eq ?_ (F.args_tuple_eq_2 _ _))
  show wpAny _ _ (isInstance (.ref x) (.type "tuple") >>= _) _ _ s
  unfold isInstance
  refine wpAny_bind (wpAny_bind (I.type.here ((looks_subIn X e).here ?_)))
  exact wpAny_pure ⟨_, rfl, rfl, rfl, rfl⟩
theorem cmp_rev {v tv : Value} {Q : Value → Shared → Prop} (hu : A.units < cLine) (X : K.In s.heap) (I : PySem.W.InstAt s.heap x ox C od) (hv : Looks (model prog w) s.heap (typeOf v) tv) (ho : oneThing? .Eq v (.ref x) = none)
    (e : subIn K (.ref C) tv = some false) (one : wpAny (model prog w) A (tryCompare v "__eq__" (.ref x)) (fun r s' => r = none ∧ s' = s) E s)
    (he : PySem.W.findIn K (.ref C) "__eq__" = some (some (.ref f))) (hf : PySem.W.isFn K (.ref f) = true)
    (h : wpAny (model prog w) A (call (.ref f) [.ref x, v]) (fun r s' => ∃ t : Bool, r = .bool t ∧ Q (.bool t) s') E s) : wpAny (model prog w) A (richCompare .Eq v (.ref x)) Q E s := by
  have two : wpAny (model prog w) A (tryCompare (.ref x) "__eq__" v) (fun r s' => ∃ t : Bool, r = some (.bool t) ∧ Q (.bool t) s') E s := by
    unfold tryCompare
    refine wpAny_bind (ifBound_K X I he hf (wpAny_mono h (fun r s' z => ?_) fun _ _ e => e))
    obtain ⟨t, rfl, q⟩ := z
    exact wpAny_pure ⟨t, rfl, q⟩
  unfold richCompare
  simp only [ho]
  refine wpAny_holding (wpAny_bind (wpAny_cRoomFor hu ?_))
  refine wpAny_bind (hv.here (wpAny_bind (I.type.here ?_)))
  split
  · refine wpAny_bind ((looks_subIn X e).here ?_)
    simp only [Bool.false_eq_true, if_false, Bool.not_false, if_true]
    refine wpAny_bind (wpAny_mono one (fun r s1 z => ?_) fun _ _ e => e)
    obtain ⟨rfl, rfl⟩ := z
    refine wpAny_bind (wpAny_mono two (fun r s2 z => ?_) fun _ _ e => e)
    obtain ⟨t, rfl, q⟩ := z
    exact wpAny_pure q
  · refine wpAny_bind (wpAny_pure ?_)
    simp only [Bool.false_eq_true, if_false, Bool.not_false, if_true]
    refine wpAny_bind (wpAny_mono one (fun r s1 z => ?_) fun _ _ e => e)
    obtain ⟨rfl, rfl⟩ := z
    refine wpAny_bind (wpAny_mono two (fun r s2 z => ?_) fun _ _ e => e)
    obtain ⟨t, rfl, q⟩ := z
    exact wpAny_pure q
theorem eqBool_rev {v : Value} {Q : Bool → Shared → Prop} (hne : (v == Value.ref x) = false) (hfl : ∀ b t, v ≠ .float b t) (h : wpAny (model prog w) A (richCompare .Eq v (.ref x)) (fun u s' => ∃ r, u = .bool r ∧ Q r s') E s) : wpAny (model prog w) A (eqBool v (.ref x)) Q E s := by
  unfold eqBool
  refine wpAny_holding ?_
  rw [if_neg (by rw [hne]; decide)]
  have fin : wpAny (model prog w) A (do let y ← richCompare CmpOp.Eq v (.ref x); truthOfDropped y) Q E s := by
    refine wpAny_bind (wpAny_mono h (fun u s' hv => ?_) fun _ _ x => x)
    obtain ⟨r, rfl, q⟩ := hv
    exact wpAny_truthy_bool q
  cases v with
  | float b t => exact absurd rfl (hfl b t)
  | _ => exact fin
theorem tuple_contains2 {t : Addr} {y1 y2 z : Value} {P : Fin → Shared → Prop} (ht : IsTup s.heap t #[y1, y2])
    (h : wpAny (model prog w) A (eqBool y1 z) (fun r s1 => r = false ∧ wpAny (model prog w) A (eqBool y2 z) (fun r s2 => r = false ∧ P (.done (.ret (.bool false))) s2) E s1) E s) :
    wpAny (model prog w) A (Builtin.«tuple.__contains__» ⟨[.ref t, z], []⟩) P E s := by
  show wpAny _ _ (Builtin.Tuple.tupleItemsOf (.ref t) >>= _) _ _ s
  refine wpAny_bind (tupleItemsOf_ ht ?_)
  refine wpAny_bind (forIn_array_ _ (fun rest b s' => b.1 = none ∧ ((rest = [y1, y2] ∧ wpAny (model prog w) A (eqBool y1 z) (fun r s1 => r = false ∧ wpAny (model prog w) A (eqBool y2 z) (fun r s2 => r = false ∧ P (.done (.ret (.bool false))) s2) E s1) E s') ∨ (rest = [y2] ∧ wpAny (model prog w) A (eqBool y2 z) (fun r s2 => r = false ∧ P (.done (.ret (.bool false))) s2) E s') ∨ (rest = [] ∧ P (.done (.ret (.bool false))) s'))) _ ?_ ?_ _ _ ⟨rfl, .inl ⟨rfl, h⟩⟩)
  · rintro y rest b s' ⟨hb, hz | hz | hz⟩
    · obtain ⟨e, q⟩ := hz
      obtain ⟨rfl, rfl⟩ := List.cons.inj e
      refine wpAny_bind (wpAny_mono q (fun r s1 q1 => ?_) fun _ _ x => x)
      obtain ⟨rfl, q1⟩ := q1
      exact wpAny_pure ⟨rfl, .inr (.inl ⟨rfl, q1⟩)⟩
    · obtain ⟨e, q⟩ := hz
      obtain ⟨rfl, rfl⟩ := List.cons.inj e
      refine wpAny_bind (wpAny_mono q (fun r s1 q1 => ?_) fun _ _ x => x)
      obtain ⟨rfl, q1⟩ := q1
      exact wpAny_pure ⟨rfl, .inr (.inr ⟨rfl, q1⟩)⟩
    · cases hz.1
  · rintro ⟨b1, b2⟩ s' ⟨hb, hz | hz | hz⟩
    · cases hz.1
    · cases hz.1
    · simp only at hb
      subst hb
      exact wpAny_pure hz.2
theorem contains2 {t : Addr} {y1 y2 z : Value} {Q : Bool → Shared → Prop} (ht : IsTup s.heap t #[y1, y2])
    (h : wpAny (model prog w) A.in1 (eqBool y1 z) (fun r s1 => r = false ∧ wpAny (model prog w) A.in1 (eqBool y2 z) (fun r s2 => r = false ∧ Q false s2) E s1) E s) :
    wpAny (model prog w) A (contains (.ref t) z) Q E s := by
  unfold contains
  refine wpAny_holding ?_
  have e0 : stdlibNamesSay? (.ref t) z = none := rfl
  rw [e0]
  refine wpAny_bind (wpAny_specialOf ht.typeIs slot_tuple_contains.lookup ?_)
  rw [if_neg (by decide)]
  refine wpAny_bind (wpAny_callSpecialUnlessNone?_slot (name := Str.ofString "__contains__") ht.typeIs slot_tuple_contains
    (wpAny_call_entry slot_tuple_contains ht.typeIs entry_tuple_contains (tuple_contains2 ht (wpAny_mono h (fun r s1 q => ⟨q.1, wpAny_mono q.2 (fun r s2 q => ⟨q.1, ⟨_, rfl, wpAny_truthy_bool q.2⟩⟩) fun _ _ x => x⟩) fun _ _ x => x)) (args_tuple_contains _ _)))
end
section
variable {X : Cx} {k j : Nat} {C : Addr} {sp : Sp}
def rEqX (K : PySem.W.Frag) (C : Addr) (sp : Sp) : R2 := fun x y H Q => ∃ a dx fs z, x = .ref a ∧ y = .str z ∧ H a = some (.ins C dx fs) ∧ sp [.ref a, y] H (fun v H' => ∃ t : Bool, v = .bl t ∧ Q (.bl t) H') C8.E0
theorem op_eqX (c : C8.Met X.prog X.w X.K X.mg X.base k C "__eq__" sp []) (nf : PySem.W.notFirst X.K C (.type "str") = true) (hr : Room j X.A) (hk : k ≤ j) : OpR X (compareOp .Eq) (rEqX X.K C sp) := by
  intro pins s σ H x y v u Q I rx ry h
  obtain ⟨a, dx, fs, z, rfl, rfl, ha, hsp⟩ := h
  obtain ⟨f, fd, ps, ds, _, me, F, bn, d⟩ := c.ex
  obtain rfl := vals_nil d
  cases rx
  obtain ⟨tk, rfl⟩ := ry
  obtain ⟨mA, J, _⟩ := ins_get I.hok ha
  obtain ⟨od, J, _⟩ := J.look
  obtain ⟨m, hF⟩ := I.fr
  have sb : Sub X k X.A := ⟨hr.mono hk, rfl⟩
  have ty : PySem.W.Looks (model X.prog X.w) s.heap (typeOf (.str z tk)) (.type "str") := fun A Q E s k q => wpAny_typeOf (show s.TypeIs (.str z tk) "str" from rfl) q
  show wpAny (model X.prog X.w) X.A (richCompare .Eq (.ref a) (.str z tk)) (EP X pins σ Q) X.xe s
  refine PySem.W.cmp_K (op := .Eq) (tb := .type "str") sb.room.units0 hF I.ok.mod.kin J ty nf me.at_ me.fn ?_
  refine wpAny_mono (run_sub (vs := [.ref a, .str z]) F sb bn C8.pass0 I (.cons rfl (.cons ⟨tk, rfl⟩ .nil)) hsp) (fun u s' q => ?_) fun _ _ x => x
  obtain ⟨v, H', I', ru, t, ez, q⟩ := q
  subst ez
  cases (show u = Value.bool t from ru)
  exact ⟨.bl t, H', I', rfl, q⟩
def rIn2 (K : PySem.W.Frag) (C : Addr) (sp : Sp) : R2 := fun x y H Q => ∃ a p t dx fs ys, x = .ref a ∧ y = .ref p ∧ H a = some (.ins C dx fs) ∧ H p = some (.tup [.ref t, .non]) ∧ SqT K H t ys ∧ t ≠ a ∧
  sp [.ref a, .ref t] H (fun v H1 => v = .bl false ∧ H1 a = some (.ins C dx fs) ∧ sp [.ref a, .non] H1 (fun v H2 => v = .bl false ∧ Q (.bl false) H2) C8.E0) C8.E0
theorem op_in2 (c : C8.Met X.prog X.w X.K X.mg X.base k C "__eq__" sp []) (n1 : PySem.W.subIn X.K (.ref C) (.type "tuple") = some false) (n2 : PySem.W.subIn X.K (.ref C) (.type "NoneType") = some false) (hr : Room j X.A) (hk : k + 1 ≤ j) : OpR X (compareOp .In) (rIn2 X.K C sp) := by
  intro pins s σ H x y v u Q I rx ry h
  obtain ⟨a, p, t, dx, fs, ys, rfl, rfl, ha, hp, ht, hta, hsp⟩ := h
  obtain ⟨f, fd, ps, ds, _, me, F, bn, d⟩ := c.ex
  obtain rfl := vals_nil d
  cases rx
  cases ry
  obtain ⟨its, r, hz, _⟩ := I.tuple (SqT.of hp)
  obtain ⟨its2, r2, hz2, _⟩ := I.tuple ht
  cases r with
  | cons r1 rr =>
    cases rr with
    | cons r3 rr =>
      cases rr
      cases r1
      cases r3
      obtain ⟨mA, J, _⟩ := ins_get I.hok ha
      obtain ⟨od, J, _⟩ := J.look
      have sb1 : Sub X (k + 1) X.A := ⟨hr.mono hk, rfl⟩
      have sb := sb1.in1
      show wpAny (model X.prog X.w) X.A (do return .bool (← contains (.ref p) (.ref a))) (EP X pins σ Q) X.xe s
      refine wpAny_bind (contains2 hz ?_)
      have ty : PySem.W.Looks (model X.prog X.w) s.heap (typeOf (.ref t)) (.type "tuple") := fun A Q E s k q => by
        obtain ⟨o, ho, hc, _⟩ := hz2
        exact wpAny_typeOf_ref (k _ _ ho) (by rw [hc]; exact q)
      refine eqBool_rev (by rw [beq_eq_false_iff_ne]; intro z; exact hta (Value.ref.inj z)) (fun _ _ z => nomatch z) (cmp_rev sb.room.units0 I.kIn J ty rfl n1 (decl_tup hz2 I.kIn J n1) me.at_ me.fn ?_)
      refine wpAny_mono (run_sub (vs := [.ref a, .ref t]) F sb bn C8.pass0 I (.cons rfl (.cons rfl .nil)) hsp) (fun u s' q => ?_) fun _ _ x => x
      obtain ⟨v, H', I', ru, ez, ha', q⟩ := q
      subst ez
      cases (show u = Value.bool false from ru)
      refine ⟨false, rfl, false, rfl, rfl, ?_⟩
      obtain ⟨mA', J', _⟩ := ins_get I'.hok ha'
      obtain ⟨od', J', _⟩ := J'.look
      have ty2 : PySem.W.Looks (model X.prog X.w) s'.heap (typeOf .none) (.type "NoneType") := fun A Q E s k q => wpAny_typeOf (show s.TypeIs .none "NoneType" from rfl) q
      refine eqBool_rev rfl (fun _ _ z => nomatch z) (cmp_rev sb.room.units0 I'.kIn J' ty2 rfl n2 decl_none me.at_ me.fn ?_)
      refine wpAny_mono (run_sub (vs := [.ref a, .non]) F sb bn C8.pass0 I' (.cons rfl (.cons rfl .nil)) q) (fun u s2 q => ?_) fun _ _ x => x
      obtain ⟨v, H2, I2, ru, ez, q⟩ := q
      subst ez
      cases (show u = Value.bool false from ru)
      exact ⟨false, rfl, false, rfl, rfl, wpAny_pure ⟨.bl false, H2, I2, rfl, q⟩⟩
end
end Lx
set_option maxRecDepth 100000
set_option maxHeartbeats 4000000
namespace ExS
open PySem PySem.Spec PyProof.Rows L2 NdefX
def spXI (C : Addr) (fld : Str) : Sp := fun vs H Q _ => ∃ (a : Addr) (v : V), vs = [.ref a, v] ∧ H a = some (exo a C none) ∧
  ∀ dx, H dx = none → dx ≠ a → Q .non (upd (upd H dx (exd dx [(fld, v)])) a (exo a C (some dx)))
theorem call_mw {X : Cx} {pins : List (Addr × Obj)} {σ : L2.St} {H : Hp} {s : Shared} {a C u : Addr} {us : List Value} {Q : Value → Shared → Prop} {E : Value → Shared → Prop} {A : Around}
    (T : OexC X.K C) (I : Inv X pins σ H s) (e : H a = some (exo a C none)) (hu : s.heap.get? u = some (PySem.W.kxs_mw "ValueError.__init__" a)) (hl : us.length ≤ sizeLine) (h : ∀ s', Inv X pins σ H s' → Q .none s') :
    wpAny (model X.prog X.w) A (call (.ref u) us) Q E s := by
  obtain ⟨nm, q, N, bs, bm, sn, sub, ab, col, dd, k0, k1, k2, k3, k5, hC, hbm⟩ := T.cls
  obtain ⟨t1, ho⟩ := exo_at I.hok e
  obtain ⟨hp, g, d, t, os⟩ := s
  have fin : ∀ h' : Heap, (∀ b o, b ≠ a → hp.get? b = some o → h'.get? b = some o) → h'.get? a = some (PySem.W.excObj C hp.objs.size none .none) → Q .none ⟨h', g, d, t, os⟩ := fun h' k hx => by
    have J := I.write (t' := t) (x := a) (e := a) (o := exo a C none) (by rw [e]; exact True.intro) (.inl rfl) k ⟨_, hx⟩ (exo_ok hx)
    have eu : upd H a (exo a C none) = H := funext fun b => by
      by_cases hb : b = a
      · rw [hb, upd_same, e]
      · rw [upd_ne hb]
    rw [eu] at J
    exact h _ J
  refine wpAny_call (codeAny_of_tree ?_)
  show wpAny _ A.in1 (callAny (.ref u) ⟨us, []⟩) _ _ _
  simp only [callAny]
  refine wpAny_bind (wpAny_load hu ?_)
  simp only [PySem.W.kxs_mw, show (Value.type "method-wrapper" == Value.type "method" || Value.type "method-wrapper" == Value.type "builtin_function_or_method" || Value.type "method-wrapper" == Value.type "method-wrapper") = true by decide, if_true]
  refine PySem.W.KFB.if_so (by decide) ?_
  refine wpAny_bind (PySem.W.check_bound_init F.excBase_ValueError.toExcCallFacts (I.kIn _ _ hC) ho rfl ?_)
  refine wpAny_bind (wpAny_pure (wpAny_pure ?_))
  refine ⟨plainId_quiet F.excBase_ValueError.init.plain _, codeAny_builtin F.excBase_ValueError.initEntry ?_⟩
  exact PySem.W.exc_init_tree (cls := .ref C) (t0 := t1) (dv := none) (c2 := .none) (c3 := .none) (b4 := .bool false) ho hl fun h' k hx _ => fin h' k hx
def Body2 (self word fld text : Str) (body : List Stmt) : Prop := ∃ (p0 p1 p2 p3 p4 p5 p6 p7 p8 p9 p10 : Pos) (j : Nat), body = [.Expr (.Call (.Attribute (.Call (.Name "super" p0) [] [] p1) "__init__" p2) [.Constant (.str text) j p3, .Name word p4] [] p5) p6, .Assign [.Attribute (.Name self p7) fld p8] (.Name word p9) p10] ∧ (p2.endLine == p5.line) = true
theorem eval_sup {o : Expr} {name : Str} {apos pos : Pos} {e1 e2 : Expr} {env : Env} (hl : (apos.endLine == pos.line) = true) (h1 : starEach [e1, e2] env = [(false, eval e1 env), (false, eval e2 env)]) :
    eval (.Call (.Attribute o name apos) [e1, e2] [] pos) env = (do
      let ov ← attributeBase o name env (eval o env)
      standAt apos.atName
      let (f, first) ← holding [ov] (getMethod ov name (do return (← importBound o env).getD true))
      callWith pos f first (backTo pos (starEach [e1, e2] env)) []) := by
  have hp : methodCallPos true o env apos pos = pure pos := by unfold methodCallPos; rw [hl]; rfl
  show (do
    let ov ← attributeBase o name env (eval o env)
    standAt apos.atName
    methodCall o name apos pos env ov 2 (backTo pos (starEach [e1, e2] env)) []) = _
  rw [h1]
  have hm : ∀ ov, methodCall o name apos pos env ov 2 (backTo pos [(false, eval e1 env), (false, eval e2 env)]) [] = (do
      let (f, first) ← holding [ov] (getMethod ov name (do return (← importBound o env).getD true))
      callWith pos f first (backTo pos [(false, eval e1 env), (false, eval e2 env)]) []) := fun ov => by
    unfold methodCall
    have hf : methodCallForm 2 (backTo pos [(false, eval e1 env), (false, eval e2 env)]) [] = true := rfl
    rw [hf, hp]
    rfl
  simp only [hm]
structure ExF (P : Program) (K : PySem.W.Frag) (mg : Str → Option Value) (C : Addr) (fld : Str) (f cc cda : Addr) (file : Str) : Prop where
  T : OexC K C
  no : PySem.W.findIn K (.ref C) fld = some none
  cell : ∃ cl cld csl, K.lookup cc = some ⟨cl, cld, .cell (some (.ref C)), csl⟩
  code : ∃ ccl cdd vs ccs tf, K.lookup cda = some ⟨ccl, cdd, .fields vs, ccs⟩ ∧ vs[2]? = some (.str file tf)
  file : ((P.main.file : Str) == file) = true
  top : (P.main.scope.names.lookup ("super" : Str)).isSome = false
  sub : PySem.W.mroIn K C (.ref C) = some true
  sup : mg "super" = none
  opq : PySem.W.nsIn K cStatics "thirdparty.any" = some none
  ini : PySem.W.ks_superIn K C C "__init__" = some (some (.builtin "ValueError.__init__"))
  ve : PySem.W.subIn K (.ref C) (.type "ValueError") = some true
theorem fn_exc {P : Program} {w : World} {K : PySem.W.Frag} {mg : Str → Option Value} {base : Heap} {C f cc cda : Addr} {name qual self word fld text file : Str} {params : Arguments} {body : List Stmt} {scope : Scope} {dV kV doc pm ct oc : Value} {an od : Option Addr} {osl : Array (Option Value)} {ar : Arg} {k : Nat}
    (X : ExF P K mg C fld f cc cda file) (lk : K.lookup f = some ⟨oc, od, .func (PySem.W.fnX name qual params body scope [("__class__", cc)] dV kV doc pm an (.ref cda) ct), osl⟩) (hcd : PySem.W.codeIn K (.ref cda) qual = true)
    (S : NScope [self, word, "__class__"] [self, word] ["__class__"] scope) (hks : scope.names.lookup ("super" : Str) = some .globalImplicit) (hp : (params.posonlyargs ++ params.args).head? = some ar) (har : ar.arg = self) (hb2 : Body2 self word fld text body) (hd0 : (self == ("__debug__" : Str)) = false) (hd1 : (word == ("__debug__" : Str)) = false) (hc0 : (self == ("__classdict__" : Str)) = false) (hc1 : (word == ("__classdict__" : Str)) = false) :
    FnOk P w K mg base CX0 (k + 1) f (PySem.W.fnX name qual params body scope [("__class__", cc)] dV kV doc pm an (.ref cda) ct) [self, word] (spXI C fld) := by
  refine ⟨fun vs H Q E h => by obtain ⟨_, _, rfl, _⟩ := h; rfl, fun A outer s H args us vs Q E hr e0 hb r hsp => ?_⟩
  obtain ⟨a, v, rfl, ha, kk⟩ := hsp
  obtain ⟨u1, rfl, rv⟩ : ∃ u1, us = [.ref a, u1] ∧ RelV v u1 := by
    cases r with
    | @cons _ u0 _ ur ra rr =>
      obtain rfl : u0 = Value.ref a := ra
      cases rr with
      | @cons _ u1 _ ur2 rv rn =>
        cases rn
        exact ⟨u1, rfl, rv⟩
  have KX : K.In s.heap := e0.mod.kin.keeps fun b o e => (e0.bs b o e).1
  have lim : s.heap.NoLimit := e0.mod.nolimit.keeps fun b o e => (e0.bs b o e).1
  obtain ⟨cl, cld, csl, lcc⟩ := X.cell
  obtain ⟨ccl, cdd, cvs, ccs, tf, lcd, hvs⟩ := X.code
  refine codeAny_call_function hr.depth (KX _ _ lk) rfl S.co S.gen rfl (PySem.W.codeRec_of KX hcd) (hb _ _ _ _ ?_)
  refine wpAny_newFunctionEnv S.nocell (fun ⟨n, _⟩ hy => S.par n (List.of_mem_zip hy).1) (fun h₁ hns hsb => ⟨lim.fresh _ hsb, ?_⟩) S.kind
  show codeAny _ _ (.func body (PySem.W.envX qual scope s.heap.objs.size f (.ref cda) [("__class__", cc)])) _ _
  refine ks_codeAny_funcAt ?_
  have kp : ∀ b o, s.heap.get? b = some o → h₁.get? b = some o := fun b o e => hsb.extBut b o (Nat.ne_of_lt (Heap.lt_size e)) (Heap.get?_push_of_some _ e)
  have hcb := e0.bs _ _ (e0.mod.kin _ _ lcc)
  have C0 : CellsAt [("__class__", cc)] ["__class__"] [some (.ref C)] s.heap H := by
    have one : ∀ y c, ([("__class__", cc)] : List (Str × Addr)).lookup y = some c → y = "__class__" ∧ c = cc := fun y c e => by
      rw [List.lookup_cons] at e
      split at e
      · rename_i z
        exact ⟨eq_of_beq z, (Option.some.inj e).symm⟩
      · cases e
    refine ⟨rfl, fun y c e => ?_, fun x y c e1 e2 => (one x c e1).1.trans (one y c e2).1.symm, fun i y e => ?_⟩
    · rw [(one y c e).2]
      exact ⟨hcb.2, _, _, hcb.1, rfl⟩
    · match i, e with
      | 0, e =>
        rw [← Option.some.inj e]
        exact ⟨cc, rfl, fun v hv => ⟨.ref C, by cases hv; exact rfl, _, hcb.1, rfl⟩⟩
  have I : Inv (ncx CX0 P w K mg base [self, word, "__class__"] ⟨name, qual, params, body, scope, [("__class__", cc)], cda⟩ f A outer s H E) [] (startF [self, word, "__class__"] [.ref a, v] [some (.ref C)]) H { s with heap := h₁, toks := s.toks + ([self, word].zip [Value.ref a, u1]).length } :=
    inv_startN (F := ⟨name, qual, params, body, scope, [("__class__", cc)], cda⟩) S hr.hd e0 rfl r C0 hns kp
  have KX1 : K.In h₁ := KX.keeps kp
  obtain ⟨p0, p1, p2, p3, p4, p5, p6, p7, p8, p9, p10, j, rfl, hline⟩ := hb2
  have hkc : scope.names.lookup ("__class__" : Str) = some .free := S.frk _ (List.mem_singleton.mpr rfl)
  have hself : scope.names.lookup self = some .local := S.par _ List.mem_cons_self
  have hword : scope.names.lookup word = some .local := S.par _ (List.mem_cons_of_mem _ List.mem_cons_self)
  obtain ⟨nm, q, N, bs, bm, sn, sub, ab, col, dd, k0, k1, k2, k3, k5, hC, hbm⟩ := X.T.cls
  have hcl : PySem.W.clsIn K C = some { name := nm, bases := bs, mro := .ref C :: bm, ns := N, qualname := q, hasDict := true, slotNames := sn, subclasses := sub, abstract := ab, collection := col, hasDel := false } := by unfold PySem.W.clsIn; rw [hC] <;> rfl
  obtain ⟨t1, hoa⟩ := exo_at I.hok ha
  obtain ⟨mb, b1, b2⟩ := I.mod.blt
  have boot : bootBuiltins "super" = some (.type "super") := by first | boot_by_name | rfl | kernel_rfl
  have hne : a ≠ C := fun z => by
    have := KX1 _ _ hC
    rw [← z, hoa] at this
    cases this
  refine ks_wpAt_execs_cons (ks_wpAt_Expr_any (ks_wpAt_MethodCall ?_ (eval_sup hline rfl)) I.quiet rfl)
  refine ks_wpAt_super_base (f := f) (cc := cda) hks hkc (by decide) rfl (KX1 _ _ lk) rfl hp rfl (KX1 _ _ lcd) rfl hvs X.file X.top ?_
  refine PySem.W.ks_loadName_global I.ok.kind hks (Calls.loadGlobal_builtin (I.mod.glob.keeps I.bk) X.sup (b1.keeps I.bk) ((b2 _ (by decide)).trans boot) ⟨rfl, ?_⟩)
  refine wpAny_loadName_free I.ok.kind hkc rfl ⟨_, kp _ _ hcb.1, rfl⟩ ?_
  rw [har]
  have ndp : [self, word].Nodup := (List.nodup_append.mp (show ([self, word] ++ [("__class__" : Str)]).Nodup from S.nd)).1
  refine wpAny_loadName_local I.ok.kind hself hns (zip_look (i := 0) ndp rfl rfl) ?_
  refine ks_wpAny_isType_cls (KX1 _ _ hC) rfl ⟨rfl, ?_⟩
  refine ks_wpAny_call_super (KX1 _ _ hC) rfl hoa rfl (fun c z => by cases z) (PySem.W.looks_mroIn KX1 X.sub) (fun h2 e2 kq => ?_)
  have I2 := I.kept (h' := h2) (t' := s.toks + ([self, word].zip [Value.ref a, u1]).length) kq
  have KX2 : K.In h2 := KX1.keeps kq
  have hoa2 := kq _ _ hoa
  have hal : PySem.W.alongIn K "__init__" (((Value.ref C :: bm).dropWhile (· != .ref C)).drop 1) = some (some (.builtin "ValueError.__init__")) := by
    have := X.ini
    unfold PySem.W.ks_superIn at this
    rw [hcl] at this
    exact this
  have IA : PySem.W.InstAt h2 a (PySem.W.excObj C t1 none .none) C none := ⟨hoa2, rfl, rfl, trivial⟩
  refine PySem.W.kxs_getMethod PySem.W.kxs_ValueError (l₀ := .ref C :: bm) e2 (PySem.W.looks_opaque KX2 X.opq) ?_ rfl KX2 hal (IA.type.andThen (PySem.W.looks_subIn KX2 X.ve)) hne (by decide) ?_
  · exact fun A Q E s k q => wpAny_bind ((PySem.W.looks_clsIn KX2 hcl) A _ E s k (wpAny_pure q))
  have kp3 : ∀ b o, h2.get? b = some o → (h2.push (PySem.W.kxs_mw "ValueError.__init__" a)).get? b = some o := fun b o e => Heap.get?_push_of_some _ e
  have I3 := I2.kept (h' := h2.push (PySem.W.kxs_mw "ValueError.__init__" a)) (t' := s.toks + ([self, word].zip [Value.ref a, u1]).length + 1) kp3
  have hu3 : (h2.push (PySem.W.kxs_mw "ValueError.__init__" a)).get? h2.objs.size = some (PySem.W.kxs_mw "ValueError.__init__" a) := Heap.get?_push_at rfl rfl
  have I4 := I3.pins_of (pins' := [(h2.objs.size, PySem.W.kxs_mw "ValueError.__init__" a)]) fun p hp => by
    rw [List.mem_singleton.mp hp]
    exact ⟨hu3, I2.hok.fresh (Nat.le_refl _), (Nat.ne_of_lt I2.lt).symm, I2.nofs (Nat.le_refl _), fun v z => by cases z⟩
  have pw : PE (ncx CX0 P w K mg base [self, word, "__class__"] ⟨name, qual, params, [.Expr (.Call (.Attribute (.Call (.Name "super" p0) [] [] p1) "__init__" p2) [.Constant (.str text) j p3, .Name word p4] [] p5) p6, .Assign [.Attribute (.Name self p7) fld p8] (.Name word p9) p10], scope, [("__class__", cc)], cda⟩ f A outer s H E) (.Name word p4) (tVar 1) := pe_var rfl (.inl hword) hd1 hc1
  have pa := pa_cons (pe_str (x := text) (j := j) (pos := p3)) (pa_cons pw pa_nil)
  refine PySem.W.kxs_callWith (i := "ValueError.__init__") (x := a) rfl (PySem.Calls.evalArgs_plain (thn (pa.run p5 _ _ _ _ (fun vs H1 => vs = [.str text, v] ∧ H1 = H) I4 ⟨v, rfl, rfl, rfl⟩) fun ws s5 h5 => ?_))
  obtain ⟨vs5, H5, I5, r5, rfl, rfl⟩ := h5
  have hu5 := (I5.pin _ (List.mem_append_right _ (List.mem_singleton.mpr rfl))).1
  have l5 : ws.length ≤ sizeLine := by
    have := Paired.length r5
    rw [← this]
    show 2 ≤ sizeLine
    decide
  refine ⟨hu5, ?_⟩
  refine call_mw X.T (I5.pins_of (pins' := []) fun p hp => absurd hp (by exact List.not_mem_nil)) ha hu5 l5 fun s6 I6 => ?_
  have pself : PE (ncx CX0 P w K mg base [self, word, "__class__"] ⟨name, qual, params, [.Expr (.Call (.Attribute (.Call (.Name "super" p0) [] [] p1) "__init__" p2) [.Constant (.str text) j p3, .Name word p4] [] p5) p6, .Assign [.Attribute (.Name self p7) fld p8] (.Name word p9) p10], scope, [("__class__", cc)], cda⟩ f A outer s H5 E) (.Name self p7) (tVar 0) := pe_var rfl (.inl hself) hd0 hc0
  have pword : PE (ncx CX0 P w K mg base [self, word, "__class__"] ⟨name, qual, params, [.Expr (.Call (.Attribute (.Call (.Name "super" p0) [] [] p1) "__init__" p2) [.Constant (.str text) j p3, .Name word p4] [] p5) p6, .Assign [.Attribute (.Name self p7) fld p8] (.Name word p9) p10], scope, [("__class__", cc)], cda⟩ f A outer s H5 E) (.Name word p9) (tVar 1) := pe_var rfl (.inl hword) hd1 hc1
  have st := pss_one (ps_ost (f := fld) (p' := p8) (pos := p10) pself pword)
  refine wpAt_of_wpAny (wpAny_mono (st.run [] s6 _ H5 { nx := fun _ H' => Q .non H', rt := Q } I6 ⟨v, rfl, .ref a, rfl, a, C, rfl, X.T, X.no, .inl ⟨ha, fun dx n ne => kk dx n ne⟩⟩) (fun fl s7 hs => ?_) fun e s' hs => hs)
  cases fl with
  | ret u =>
    obtain ⟨v7, σ7, H7, J, r7, q7⟩ := hs
    exact ⟨v7, H7, J.os, J.bare, J.base, J.hok, r7, q7⟩
  | next =>
    obtain ⟨σ7, H7, J, q7⟩ := hs
    exact ⟨.non, H7, J.os, J.bare, J.base, J.hok, rfl, q7⟩
  | brk =>
    obtain ⟨_, _, _, q7⟩ := hs
    exact False.elim q7
  | cont =>
    obtain ⟨_, _, _, q7⟩ := hs
    exact False.elim q7
end ExS
set_option maxRecDepth 100000
set_option maxHeartbeats 4000000
namespace ExS
open PySem PySem.Spec PyProof.Rows L2
structure XMk (P : Program) (w : World) (K : PySem.W.Frag) (mg : Str → Option Value) (base : Heap) (k : Nat) (x : Str) (C : Addr) (fld : Str) : Prop where
  ex : ∃ (fI : Addr) (fd : FuncData) (ps : List Str), OexC K C ∧ PySem.W.findIn K (.ref C) "__init__" = some (some (.ref fI)) ∧ PySem.W.typeIn K (.ref fI) = some (.type "function") ∧ FnOk P w K mg base L2.CX0 k fI fd ps (spXI C fld) ∧ Binds K fd ps [] ∧ mg x = some (.ref C)
section
variable {X : Cx} {x fld : Str} {C : Addr} {k j : Nat} {p pos : Pos} {e : Expr} {es : List Expr} {ta : TA}
theorem pmk_x (c : XMk X.prog X.w X.K X.mg X.base k x C fld) (hr : Room j X.A) (hk : k + 1 ≤ j) (hg : Gl X x) (ha : PA X (e :: es) ta)
    (hdb : (x == ("__debug__" : Str)) = false := by decide) (he : starEach (e :: es) X.env = (false, eval e X.env) :: starEach es X.env := by rfl) (hpl : (backTo pos (starEach es X.env)).any (·.1) = false := by rfl) :
    PMk X (.Call (.Name x p) (e :: es) [] pos) (tMkO C (spXI C fld) [] ta) := by
  obtain ⟨fI, fd, ps, T, iC, tI, F, b, hm⟩ := c.ex
  exact pmk_oex T iC tI F (hr.mono hk) b .nil L2.pass0 hg hm ha hdb he hpl
end
theorem exo_exd {a C d : Addr} {o : Option Addr} {fs : List (Str × V)} {H : Hp} (h1 : H a = some (exo a C o)) (h2 : H d = none) : d ≠ a := fun z => by
  rw [z, h1] at h2
  cases h2
theorem rd_x {C : Addr} {fld : Str} {H1 : Hp} {v : V} {Q : XK} (k : ∀ d H', Same H1 H' → H1 d = none → H' d = some (.xd [(fld, v)]) → Q (.ref C) (some d) H') :
    [v].length ≤ 1000 ∧ ∀ a, H1 a = none → spXI C fld (.ref a :: ([v] ++ [])) (upd H1 a (exo a C none)) (fun w H2 => w = .non ∧ ∃ (d : Addr) (fs : List (Str × V)), H2 a = some (exo a C (some d)) ∧ H2 d = some (exd d fs) ∧ H1 d = none ∧ Q (.ref C) (some d) (upd (del H2 a) d (.xd fs))) (fun _ _ _ => False) := by
  refine ⟨by show 1 ≤ 1000; decide, fun a na => ⟨a, v, rfl, upd_same, fun dx nd ne => ⟨rfl, dx, [(fld, v)], upd_same, by rw [upd_ne ne, upd_same], ?_, ?_⟩⟩⟩
  · rw [upd_ne ne] at nd
    exact nd
  · rw [upd_ne ne] at nd
    refine k dx _ (fun b o e => ?_) nd upd_same
    have b1 : b ≠ a := ne_of_none e na
    have b2 : b ≠ dx := ne_of_none e nd
    rw [upd_ne b2, del_ne b1, upd_ne b1, upd_ne b2, upd_ne b1]
    exact e
theorem takes0 {X : Cx} : L2.Takes X (fun _ _ _ _ => False) := fun _ _ ⟨_, _, _, _, _, _, _, _, _, _, _, _, _, _, _, _, w⟩ => w.elim
structure MakX (P : Program) (w : World) (K : PySem.W.Frag) (mg : Str → Option Value) (base : Heap) (k : Nat) (x : Str) (C : Addr) (sp : Sp) (dvs : List V) : Prop where
  ex : ∃ (f : Addr) (fd : FuncData) (ps : List Str) (ds : List Value), Mk K C f ∧ FnOk P w K mg base (L2.CX P w) k f fd ps sp ∧ mg x = some (.ref C) ∧ Binds K fd ps ds ∧ Vals dvs ds
def tMakeS (C : Addr) (sp : Sp) (dvs : List V) (E : L2.St → XK) (t : TA) : TE := fun σ H Q => t σ H fun vs H1 => ∀ x dx, H1 x = none → H1 dx = none → dx ≠ x →
  sp (.ref x :: (vs ++ dvs)) (upd (upd H1 dx (.own x)) x (.ins C dx [])) (fun v H2 => v = .non ∧ Q (.ref x) H2) (E σ)
section
variable {X : Cx} {x : Str} {C : Addr} {k j : Nat} {p pos : Pos} {e : Expr} {es : List Expr} {t : TA} {sp : Sp} {dvs : List V} {W : WX}
theorem pe_mkT (c : MakX X.prog X.w X.K X.mg X.base k x C sp dvs) (hr : Room j X.A) (hk : k + 1 ≤ j) (tk : Takes X W) (hg : Gl X x) (ha : PA X (e :: es) t)
    (hdb : (x == ("__debug__" : Str)) = false := by decide) (he : starEach (e :: es) X.env = (false, eval e X.env) :: starEach es X.env := by rfl) (hpl : (backTo pos (starEach es X.env)).any (·.1) = false := by rfl) :
    PE X (.Call (.Name x p) (e :: es) [] pos) (tMakeS C sp dvs (WE W) t) := by
  obtain ⟨f, fd, ps, ds, M, F, hm, b, d⟩ := c.ex
  refine ⟨fun pins s σ H Q I h => wpAny_Call_Name_kw (ld_glob I hg hm ?_ hdb)⟩
  refine PySem.W.callWith_K (h₀ := X.base) I.ok.mod.kin M.kp (thn (ha.run pos pins s σ H _ I h) fun us s1 ⟨vs, H1, I1, r, q⟩ => ⟨I1.kIn, ?_⟩) he hpl
  have q1 := q (s1.heap.objs.size + 1) s1.heap.objs.size (I1.hok.fresh (Nat.le_succ _)) (I1.hok.fresh (Nat.le_refl _)) (Nat.ne_of_lt (Nat.lt_succ_self _))
  have J := Inv.made (C := C) I1
  have rr : Vals (V.ref (s1.heap.objs.size + 1) :: (vs ++ dvs)) (Value.ref (s1.heap.objs.size + 1) :: (us ++ ds)) := .cons rfl (r.append d)
  have len : (Value.ref (s1.heap.objs.size + 1) :: us ++ ds).length = ps.length := (rr.length).symm.trans (F.len _ _ _ _ q1)
  have go := F.run (X.A.under (.builtin "type.__call__" ⟨.ref C :: us, []⟩)) X.stack _ _ ⟨Value.ref (s1.heap.objs.size + 1) :: us, []⟩ _ _ _ _ ((hr.mono hk).make C us []) (J.env0.make C us []) (b _ (Value.ref (s1.heap.objs.size + 1) :: us) J.kIn len) rr q1
  refine wpAny_call (make_map (f := f) I1.kIn M.makes M.init (beq_iff_eq.mp M.fn) (codeAny_mono go fun res s2 hres => ?_))
  match res, hres with
  | .error er, hres => exact passAt tk σ pins _ _ er s2 J hres
  | .ok (.ret u), hres =>
    obtain ⟨v, H2, J2, rv, ev, q2⟩ := J.after hres
    subst ev
    exact ⟨rv, V.ref (s1.heap.objs.size + 1), H2, J2, rfl, q2⟩
  | .ok .next, hres => exact False.elim hres
  | .ok .brk, hres => exact False.elim hres
  | .ok .cont, hres => exact False.elim hres
end
section
variable {P : Program} {w : World} {K : PySem.W.Frag} {mg : Str → Option Value} {base : Heap}
theorem fnR {x qual : Str} {st : Stmt} {f : Addr} {fd : FuncData} {N ps : List Str} {k : Nat} {sp : Sp} (F : C8.Fun K x qual st f fd) (S : FnScope N ps (C8.fnScope st)) (len : ∀ vs H Q E, sp vs H Q E → vs.length = ps.length)
    (hbody : ∀ (cdv : Value) (A : Around) (outer : List Env) (s : Shared) (H : Hp) (vs : List V) (Q : VK) (E : XK), Room k (A.deeper (envOfC qual (C8.fnScope st) s.heap.objs.size f cdv)) → sp vs H Q E →
      ∃ t, PSs (cxOf (L2.CX P w) P w K mg base N qual (C8.fnScope st) f cdv A outer s H E) (C8.fnBody st) t ∧ t { nx := fun _ H' => Q .non H', rt := Q } (start N vs) H) : FnOk P w K mg base (L2.CX P w) (k + 1) f fd ps sp := by
  obtain ⟨oc, od, dV, kV, doc, pm, an, cdv, ct, osl, rfl, lk, hcd⟩ := F.ex
  exact fn_of lk hcd S len fun A outer s H vs Q E hr hsp => hbody cdv A outer s H vs Q E hr hsp
end
end ExS
set_option maxRecDepth 100000
set_option maxHeartbeats 4000000
namespace ExS
open PySem PySem.Spec PyProof.Rows L2 NdefX
def spXI0 (C : Addr) : Sp := fun vs H Q _ => ∃ a : Addr, vs = [.ref a] ∧ H a = some (exo a C none) ∧ Q .non H
def Body1 (text : Str) (body : List Stmt) : Prop := ∃ (p0 p1 p2 p3 p5 p6 : Pos) (j : Nat), body = [.Expr (.Call (.Attribute (.Call (.Name "super" p0) [] [] p1) "__init__" p2) [.Constant (.str text) j p3] [] p5) p6] ∧ (p2.endLine == p5.line) = true
theorem eval_sup1 {o : Expr} {name : Str} {apos pos : Pos} {e1 : Expr} {env : Env} (hl : (apos.endLine == pos.line) = true) (h1 : starEach [e1] env = [(false, eval e1 env)]) :
    eval (.Call (.Attribute o name apos) [e1] [] pos) env = (do
      let ov ← attributeBase o name env (eval o env)
      standAt apos.atName
      let (f, first) ← holding [ov] (getMethod ov name (do return (← importBound o env).getD true))
      callWith pos f first (backTo pos (starEach [e1] env)) []) := by
  have hp : methodCallPos true o env apos pos = pure pos := by unfold methodCallPos; rw [hl]; rfl
  show (do
    let ov ← attributeBase o name env (eval o env)
    standAt apos.atName
    methodCall o name apos pos env ov 1 (backTo pos (starEach [e1] env)) []) = _
  rw [h1]
  have hm : ∀ ov, methodCall o name apos pos env ov 1 (backTo pos [(false, eval e1 env)]) [] = (do
      let (f, first) ← holding [ov] (getMethod ov name (do return (← importBound o env).getD true))
      callWith pos f first (backTo pos [(false, eval e1 env)]) []) := fun ov => by
    unfold methodCall
    have hf : methodCallForm 1 (backTo pos [(false, eval e1 env)]) [] = true := rfl
    rw [hf, hp]
    rfl
  simp only [hm]
theorem fn_exc0 {P : Program} {w : World} {K : PySem.W.Frag} {mg : Str → Option Value} {base : Heap} {C f cc cda : Addr} {name qual self fld text file : Str} {params : Arguments} {body : List Stmt} {scope : Scope} {dV kV doc pm ct oc : Value} {an od : Option Addr} {osl : Array (Option Value)} {ar : Arg} {k : Nat}
    (X : ExF P K mg C fld f cc cda file) (lk : K.lookup f = some ⟨oc, od, .func (PySem.W.fnX name qual params body scope [("__class__", cc)] dV kV doc pm an (.ref cda) ct), osl⟩) (hcd : PySem.W.codeIn K (.ref cda) qual = true)
    (S : NScope [self, "__class__"] [self] ["__class__"] scope) (hks : scope.names.lookup ("super" : Str) = some .globalImplicit) (hp : (params.posonlyargs ++ params.args).head? = some ar) (har : ar.arg = self) (hb2 : Body1 text body) :
    FnOk P w K mg base CX0 (k + 1) f (PySem.W.fnX name qual params body scope [("__class__", cc)] dV kV doc pm an (.ref cda) ct) [self] (spXI0 C) := by
  refine ⟨fun vs H Q E h => by obtain ⟨_, rfl, _⟩ := h; rfl, fun A outer s H args us vs Q E hr e0 hb r hsp => ?_⟩
  obtain ⟨a, rfl, ha, kk⟩ := hsp
  obtain rfl : us = [.ref a] := by
    cases r with
    | @cons _ u0 _ ur ra rr =>
      obtain rfl : u0 = Value.ref a := ra
      cases rr
      rfl
  have KX : K.In s.heap := e0.mod.kin.keeps fun b o e => (e0.bs b o e).1
  have lim : s.heap.NoLimit := e0.mod.nolimit.keeps fun b o e => (e0.bs b o e).1
  obtain ⟨cl, cld, csl, lcc⟩ := X.cell
  obtain ⟨ccl, cdd, cvs, ccs, tf, lcd, hvs⟩ := X.code
  refine codeAny_call_function hr.depth (KX _ _ lk) rfl S.co S.gen rfl (PySem.W.codeRec_of KX hcd) (hb _ _ _ _ ?_)
  refine wpAny_newFunctionEnv S.nocell (fun ⟨n, _⟩ hy => S.par n (List.of_mem_zip hy).1) (fun h₁ hns hsb => ⟨lim.fresh _ hsb, ?_⟩) S.kind
  show codeAny _ _ (.func body (PySem.W.envX qual scope s.heap.objs.size f (.ref cda) [("__class__", cc)])) _ _
  refine ks_codeAny_funcAt ?_
  have kp : ∀ b o, s.heap.get? b = some o → h₁.get? b = some o := fun b o e => hsb.extBut b o (Nat.ne_of_lt (Heap.lt_size e)) (Heap.get?_push_of_some _ e)
  have hcb := e0.bs _ _ (e0.mod.kin _ _ lcc)
  have C0 : CellsAt [("__class__", cc)] ["__class__"] [some (.ref C)] s.heap H := by
    have one : ∀ y c, ([("__class__", cc)] : List (Str × Addr)).lookup y = some c → y = "__class__" ∧ c = cc := fun y c e => by
      rw [List.lookup_cons] at e
      split at e
      · rename_i z
        exact ⟨eq_of_beq z, (Option.some.inj e).symm⟩
      · cases e
    refine ⟨rfl, fun y c e => ?_, fun x y c e1 e2 => (one x c e1).1.trans (one y c e2).1.symm, fun i y e => ?_⟩
    · rw [(one y c e).2]
      exact ⟨hcb.2, _, _, hcb.1, rfl⟩
    · match i, e with
      | 0, e =>
        rw [← Option.some.inj e]
        exact ⟨cc, rfl, fun v hv => ⟨.ref C, by cases hv; exact rfl, _, hcb.1, rfl⟩⟩
  have I : Inv (ncx CX0 P w K mg base [self, "__class__"] ⟨name, qual, params, body, scope, [("__class__", cc)], cda⟩ f A outer s H E) [] (startF [self, "__class__"] [.ref a] [some (.ref C)]) H { s with heap := h₁, toks := s.toks + ([self].zip [Value.ref a]).length } :=
    inv_startN (F := ⟨name, qual, params, body, scope, [("__class__", cc)], cda⟩) S hr.hd e0 rfl r C0 hns kp
  have KX1 : K.In h₁ := KX.keeps kp
  obtain ⟨p0, p1, p2, p3, p5, p6, j, rfl, hline⟩ := hb2
  have hkc : scope.names.lookup ("__class__" : Str) = some .free := S.frk _ (List.mem_singleton.mpr rfl)
  have hself : scope.names.lookup self = some .local := S.par _ List.mem_cons_self
  obtain ⟨nm, q, N, bs, bm, sn, sub, ab, col, dd, k0, k1, k2, k3, k5, hC, hbm⟩ := X.T.cls
  have hcl : PySem.W.clsIn K C = some { name := nm, bases := bs, mro := .ref C :: bm, ns := N, qualname := q, hasDict := true, slotNames := sn, subclasses := sub, abstract := ab, collection := col, hasDel := false } := by unfold PySem.W.clsIn; rw [hC] <;> rfl
  obtain ⟨t1, hoa⟩ := exo_at I.hok ha
  obtain ⟨mb, b1, b2⟩ := I.mod.blt
  have boot : bootBuiltins "super" = some (.type "super") := by first | boot_by_name | rfl | kernel_rfl
  have hne : a ≠ C := fun z => by
    have := KX1 _ _ hC
    rw [← z, hoa] at this
    cases this
  refine ks_wpAt_execs_cons (ks_wpAt_Expr_any (ks_wpAt_MethodCall ?_ (eval_sup1 hline rfl)) I.quiet rfl)
  refine ks_wpAt_super_base (f := f) (cc := cda) hks hkc (by decide) rfl (KX1 _ _ lk) rfl hp rfl (KX1 _ _ lcd) rfl hvs X.file X.top ?_
  refine PySem.W.ks_loadName_global I.ok.kind hks (Calls.loadGlobal_builtin (I.mod.glob.keeps I.bk) X.sup (b1.keeps I.bk) ((b2 _ (by decide)).trans boot) ⟨rfl, ?_⟩)
  refine wpAny_loadName_free I.ok.kind hkc rfl ⟨_, kp _ _ hcb.1, rfl⟩ ?_
  rw [har]
  have ndp : [self].Nodup := (List.nodup_append.mp (show ([self] ++ [("__class__" : Str)]).Nodup from S.nd)).1
  refine wpAny_loadName_local I.ok.kind hself hns (zip_look (i := 0) ndp rfl rfl) ?_
  refine ks_wpAny_isType_cls (KX1 _ _ hC) rfl ⟨rfl, ?_⟩
  refine ks_wpAny_call_super (KX1 _ _ hC) rfl hoa rfl (fun c z => by cases z) (PySem.W.looks_mroIn KX1 X.sub) (fun h2 e2 kq => ?_)
  have I2 := I.kept (h' := h2) (t' := s.toks + ([self].zip [Value.ref a]).length) kq
  have KX2 : K.In h2 := KX1.keeps kq
  have hoa2 := kq _ _ hoa
  have hal : PySem.W.alongIn K "__init__" (((Value.ref C :: bm).dropWhile (· != .ref C)).drop 1) = some (some (.builtin "ValueError.__init__")) := by
    have := X.ini
    unfold PySem.W.ks_superIn at this
    rw [hcl] at this
    exact this
  have IA : PySem.W.InstAt h2 a (PySem.W.excObj C t1 none .none) C none := ⟨hoa2, rfl, rfl, trivial⟩
  refine PySem.W.kxs_getMethod PySem.W.kxs_ValueError (l₀ := .ref C :: bm) e2 (PySem.W.looks_opaque KX2 X.opq) ?_ rfl KX2 hal (IA.type.andThen (PySem.W.looks_subIn KX2 X.ve)) hne (by decide) ?_
  · exact fun A Q E s k q => wpAny_bind ((PySem.W.looks_clsIn KX2 hcl) A _ E s k (wpAny_pure q))
  have kp3 : ∀ b o, h2.get? b = some o → (h2.push (PySem.W.kxs_mw "ValueError.__init__" a)).get? b = some o := fun b o e => Heap.get?_push_of_some _ e
  have I3 := I2.kept (h' := h2.push (PySem.W.kxs_mw "ValueError.__init__" a)) (t' := s.toks + ([self].zip [Value.ref a]).length + 1) kp3
  have hu3 : (h2.push (PySem.W.kxs_mw "ValueError.__init__" a)).get? h2.objs.size = some (PySem.W.kxs_mw "ValueError.__init__" a) := Heap.get?_push_at rfl rfl
  have I4 := I3.pins_of (pins' := [(h2.objs.size, PySem.W.kxs_mw "ValueError.__init__" a)]) fun p hp => by
    rw [List.mem_singleton.mp hp]
    exact ⟨hu3, I2.hok.fresh (Nat.le_refl _), (Nat.ne_of_lt I2.lt).symm, I2.nofs (Nat.le_refl _), fun v z => by cases z⟩
  have pa := pa_cons (pe_str (X := ncx CX0 P w K mg base [self, "__class__"] ⟨name, qual, params, [.Expr (.Call (.Attribute (.Call (.Name "super" p0) [] [] p1) "__init__" p2) [.Constant (.str text) j p3] [] p5) p6], scope, [("__class__", cc)], cda⟩ f A outer s H E) (x := text) (j := j) (pos := p3)) pa_nil
  refine PySem.W.kxs_callWith (i := "ValueError.__init__") (x := a) rfl (PySem.Calls.evalArgs_plain (thn (pa.run p5 _ _ _ _ (fun vs H1 => vs = [.str text] ∧ H1 = H) I4 ⟨rfl, rfl⟩) fun ws s5 h5 => ?_))
  obtain ⟨vs5, H5, I5, r5, rfl, rfl⟩ := h5
  have hu5 := (I5.pin _ (List.mem_append_right _ (List.mem_singleton.mpr rfl))).1
  have l5 : ws.length ≤ sizeLine := by
    have := Paired.length r5
    rw [← this]
    show 1 ≤ sizeLine
    decide
  refine ⟨hu5, ?_⟩
  refine call_mw X.T (I5.pins_of (pins' := []) fun p hp => absurd hp (by exact List.not_mem_nil)) ha hu5 l5 fun s6 I6 => ?_
  have st := pss_nil (X := ncx CX0 P w K mg base [self, "__class__"] ⟨name, qual, params, [.Expr (.Call (.Attribute (.Call (.Name "super" p0) [] [] p1) "__init__" p2) [.Constant (.str text) j p3] [] p5) p6], scope, [("__class__", cc)], cda⟩ f A outer s H5 E)
  refine wpAt_of_wpAny (wpAny_mono (st.run [] s6 _ H5 { nx := fun _ H' => Q .non H', rt := Q } I6 kk) (fun fl s7 hs => ?_) fun e s' hs => hs)
  cases fl with
  | ret u =>
    obtain ⟨v7, σ7, H7, J, r7, q7⟩ := hs
    exact ⟨v7, H7, J.os, J.bare, J.base, J.hok, r7, q7⟩
  | next =>
    obtain ⟨σ7, H7, J, q7⟩ := hs
    exact ⟨.non, H7, J.os, J.bare, J.base, J.hok, rfl, q7⟩
  | brk =>
    obtain ⟨_, _, _, q7⟩ := hs
    exact False.elim q7
  | cont =>
    obtain ⟨_, _, _, q7⟩ := hs
    exact False.elim q7
theorem mk_endN {X : Cx} {pins : List (Addr × Obj)} {σ : L2.St} {H1 H2 : Hp} {Q : XK} {hp hp2 h2 : Heap} {g1 g2 : Array GenState} {d1 d2 : Drawn} {t1 t2 : Nat} {os1 os2 : OsState} {a C : Addr} (T : Raises X (.ref C)) (I1 : Inv X pins σ H1 ⟨hp, g1, d1, t1, os1⟩)
    (ha : hp.objs.size ≤ a) (k : ∀ b o, hp.get? b = some o → hp2.get? b = some o) (un : Un (frs X.stack) [] (upd H1 a (exo a C none)) H2 hp2 h2) (hok : HOk X.prog X.w H2 h2) (ho : os2 = os1) (hb : AllBare g2)
    (ea : H2 a = some (exo a C none)) (q : Q (.ref C) none (del H2 a)) : MkP X pins σ Q (.ref a) ⟨h2, g2, d2, t2, os2⟩ := by
  obtain ⟨t0, hoe⟩ := exo_at hok ea
  have hn : H1 a = none := I1.hok.fresh ha
  obtain ⟨G, g1', g2'⟩ := restrict h2 fun b => decide (b ≠ a)
  have gk : ∀ b, b ≠ a → G.get? b = h2.get? b := fun b hb => g1' b (decide_eq_true hb)
  have ge : G.get? a = none := g2' a (by simp)
  have nha : ∀ {b : Addr} {o : Obj}, hp.get? b = some o → b ≠ a := fun {b o} z => Nat.ne_of_lt (Nat.lt_of_lt_of_le (Heap.lt_size z) ha)
  have up : ∀ {b : Addr}, b ≠ a → H1 b = none → upd H1 a (exo a C none) b = none := fun {b} hb n => by rw [upd_ne hb]; exact n
  have U : Un (frs X.stack) [] H1 (del H2 a) hp G := {
    keep := fun b o z n hf hx => by
      rw [gk b (nha z)]
      exact un.keep b o (k b o z) (up (nha z) n) hf hx
    slot := fun b o z n hf hx => by
      rw [gk b (nha z)]
      exact un.slot b o (k b o z) (up (nha z) n) hf hx
    free := fun b o z n hx => by
      rw [del_ne (nha z)]
      exact un.free b o (k b o z) (up (nha z) n) hx
    there := fun b o z hx => by
      rw [gk b (nha z)]
      exact un.there b o (k b o z) hx
    tups := fun b xs z => by
      rw [del_ne (ne_of_none z hn)]
      exact un.tups b xs (by rw [upd_ne (ne_of_none z hn)]; exact z)
    frzs := fun b o v z => by
      rw [del_ne (ne_of_none z hn)]
      exact un.frzs b o v (by rw [upd_ne (ne_of_none z hn)]; exact z)
    tbls := fun b ps z => by
      rw [del_ne (ne_of_none z hn)]
      exact un.tbls b ps (by rw [upd_ne (ne_of_none z hn)]; exact z) }
  have hok3 : HOk X.prog X.w (del H2 a) G := fun b o z => by
    have hba : b ≠ a := fun e => by
      rw [e, del_same] at z
      cases z
    rw [del_ne hba] at z
    have noa : ∀ {c : Addr}, H2 c = some (.own b) → c ≠ a := fun {c} hc => at_ne ea hc exo_own
    exact (hok b o z).stay (fun c v hc y => by
        have hca : c ≠ a := by
          rcases hc with hc | hc
          · rw [hc]
            exact hba
          · exact noa hc
        rw [gk c hca]
        exact y)
      (fun c hc => by rw [del_ne (noa hc)]; exact hc) (fun c xs hc => by rw [del_ne (at_ne ea hc exo_tup)]; exact hc)
  have J : Inv X pins σ (del H2 a) ⟨G, g2, d2, t2, os2⟩ := I1.call' (ch := []) ho U hok3 hb (fun b z => absurd z (by simp))
  refine ⟨a, _, _, ⟨G, g2, d2, t2, os2⟩, _, .ref C, none, rfl, J, fun b o z => ?_, ge, hoe, ⟨rfl, rfl⟩, rfl, rfl, del_same, rfl, hb, T, q⟩
  by_cases hba : b = a
  · have z : G.get? b = some o := z
    rw [hba, ge] at z
    cases z
  · exact (gk b hba).symm.trans z
structure XMk0 (P : Program) (w : World) (K : PySem.W.Frag) (mg : Str → Option Value) (base : Heap) (k : Nat) (x : Str) (C : Addr) : Prop where
  ex : ∃ (fI : Addr) (fd : FuncData) (ps : List Str), OexC K C ∧ PySem.W.findIn K (.ref C) "__init__" = some (some (.ref fI)) ∧ PySem.W.typeIn K (.ref fI) = some (.type "function") ∧ FnOk P w K mg base L2.CX0 k fI fd ps (spXI0 C) ∧ Binds K fd ps [] ∧ mg x = some (.ref C)
theorem pmk_x0 {X : Cx} {x : Str} {C : Addr} {k j : Nat} {p pos : Pos} (c : XMk0 X.prog X.w X.K X.mg X.base k x C) (hr : Room j X.A) (hk : k + 1 ≤ j) (hg : Gl X x) (hdb : (x == ("__debug__" : Str)) = false := by decide) :
    PMk X (.Call (.Name x p) [] [] pos) (fun _ H Q => Q (.ref C) none H) := by
  obtain ⟨fI, fd, ps, T, iC, tI, F1, hb, hm⟩ := c.ex
  intro pins s σ H Q I h
  obtain ⟨nm, q, N, bs, bm, sn, sub, ab, col, dd, k0, k1, k2, k3, k5, hC, hbm⟩ := T.cls
  refine wpAny_Call_Name_kw (ld_glob I hg hm ?_ hdb)
  refine PySem.W.callWith_K0 I.kIn T.kC ?_
  show wpAny _ _ (call (.ref C) []) _ _ _
  obtain ⟨hp, g, dr, tk, os⟩ := s
  have hsz : hp.objs.size ≤ hp.objs.size + 1 := Nat.le_succ _
  have hn : H (hp.objs.size + 1) = none := I.hok.fresh hsz
  have hq : spXI0 C [.ref (hp.objs.size + 1)] (upd H (hp.objs.size + 1) (exo (hp.objs.size + 1) C none)) (fun v H2 => v = .non ∧ H2 = upd H (hp.objs.size + 1) (exo (hp.objs.size + 1) C none)) (fun _ _ _ => False) := ⟨_, rfl, upd_same, rfl, rfl⟩
  have kk : ∀ b o, hp.get? b = some o → ((hp.push (PySem.W.kdv_tup [])).push (PySem.HandSPX.excO C hp.objs.size)).get? b = some o := fun b o e => Heap.get?_push_of_some _ (Heap.get?_push_of_some _ e)
  have hget : ((hp.push (PySem.W.kdv_tup [])).push (PySem.HandSPX.excO C hp.objs.size)).get? (hp.objs.size + 1) = some (PySem.HandSPX.excO C hp.objs.size) := by heap_get
  have I2 : Inv X pins σ (upd H (hp.objs.size + 1) (exo (hp.objs.size + 1) C none)) ⟨(hp.push (PySem.W.kdv_tup [])).push (PySem.HandSPX.excO C hp.objs.size), g, dr, tk, os⟩ :=
    I.laid (t' := tk) (a := hp.objs.size + 1) (o := exo (hp.objs.size + 1) C none) (h' := (hp.push (PySem.W.kdv_tup [])).push (PySem.HandSPX.excO C hp.objs.size)) kk hsz (exo_ok hget)
  have r2 : Vals [V.ref (hp.objs.size + 1)] [Value.ref (hp.objs.size + 1)] := .cons rfl .nil
  have hl : ([Value.ref (hp.objs.size + 1)] ++ []).length = ps.length := by
    have e := r2.length
    rw [F1.len _ _ _ _ hq] at e
    exact e.symm
  refine wpAny_call (PySem.HandSPX.call_own F.excBase_ValueError (fun Y => PySem.HandSPX.refsVE_contains Y bm hbm) (I.kIn _ _ hC) (PySem.W.looks_findIn I.kIn iC) (fun self => PySem.W.bind_fn I.kIn self tI) (Nat.zero_le _) ?_)
  refine codeAny_mono (F1.run _ X.stack _ _ ⟨Value.ref (hp.objs.size + 1) :: [], []⟩ [Value.ref (hp.objs.size + 1)] _ _ (fun _ _ _ => False) ((hr.mono hk).make C [] []) (I2.env0.make C [] []) (hb _ [Value.ref (hp.objs.size + 1)] I2.kIn hl) r2 hq) fun r s' hq' => ?_
  cases r with
  | error er => exact L2.pass0 pins σ _ _ er s' I2 hq'
  | ok fl =>
    cases fl with
    | ret u =>
      obtain ⟨v, H2, os2, bare2, un2, hok2, rv, ev, eH⟩ := hq'
      subst ev
      subst eH
      obtain ⟨h2, g2, d2, t2, os'⟩ := s'
      refine ⟨rv, mk_endN (raises_own T.exC T.tyC) I hsz kk un2 hok2 os2 bare2 upd_same ?_⟩
      have e : del (upd H (hp.objs.size + 1) (exo (hp.objs.size + 1) C none)) (hp.objs.size + 1) = H := funext fun b => by
        by_cases hb : b = hp.objs.size + 1
        · rw [hb, del_same, hn]
        · rw [del_ne hb, upd_ne hb]
      rw [e]
      exact h
    | next => exact False.elim hq'
    | brk => exact False.elim hq'
    | cont => exact False.elim hq'
structure MetT (P : Program) (w : World) (K : PySem.W.Frag) (mg : Str → Option Value) (base : Heap) (k : Nat) (C : Addr) (m : Str) (sp : Sp) : Prop where
  ex : ∃ (f : Addr) (fd : FuncData) (ps : List Str), Cls K C ∧ Meth K C m f ∧ FnOk P w K mg base (L2.CX P w) k f fd ps sp ∧ Binds K fd ps []
def tMethS (C : Addr) (m : Str) (sp : Sp) (E : L2.St → XK) (ta : TE) (t : TA) : TE := fun σ H Q => ta σ H fun x H1 => ∃ (a dx : Addr) (fs : List (Str × V)), x = .ref a ∧ H1 a = some (.ins C dx fs) ∧ fs.lookup m = none ∧ t σ H1 fun vs H2 => sp (.ref a :: vs) H2 Q (E σ)
theorem pe_mtT {X : Cx} {k j : Nat} {C : Addr} {m : Str} {sp : Sp} {pos apos : Pos} {e o : Expr} {es : List Expr} {ta : TE} {t : TA} {W : WX} {pl : Sem Bool} (c : MetT X.prog X.w X.K X.mg X.base k C m sp) (hr : Room j X.A) (hk : k ≤ j) (tk : Takes X W) (he : PE X o ta) (ha : PA X (e :: es) t)
    (hst : starEach (e :: es) X.env = (false, eval e X.env) :: starEach es X.env := by rfl) (hpl : (backTo pos (starEach es X.env)).any (·.1) = false := by rfl)
    (ht : eval (.Call (.Attribute o m apos) (e :: es) [] pos) X.env = (do
      let ov ← eval o X.env
      standAt apos.atName
      let (f, first) ← holding [ov] (getMethod ov m pl)
      callWith pos f first (backTo pos (starEach (e :: es) X.env)) (backToKw pos (keywordEach [] X.env))) := by rfl) :
    PE X (.Call (.Attribute o m apos) (e :: es) [] pos) (tMethS C m sp (WE W) ta t) := by
  obtain ⟨f, fd, ps, hc, hm, F, b⟩ := c.ex
  refine ⟨fun pins s σ H Q I h => ?_⟩
  refine PySem.W.methodCall_KW (pl := pl) (thn (he.run pins s σ H _ I h) fun u s1 ⟨x, H1, I1, rx, a, dx, fs, ex, ea, l, q⟩ => ?_) ht
  subst ex
  obtain rfl : u = Value.ref a := rx
  refine getmeth_ok I1 ea hc hm l ?_
  refine PySem.W.callWith_K (first := [.ref a]) (h₀ := X.base) I.ok.mod.kin hm.kp (thn (ha.run pos pins s1 σ H1 _ I1 q) fun us s2 ⟨vs, H2, I2, r, q2⟩ => ⟨I2.kIn, ?_⟩) hst hpl
  exact (run_fnS (us := .ref a :: us) (vs := .ref a :: vs) F (hr.mono hk) b (passAt tk σ) I2 (.cons rfl r) q2)
end ExS
set_option maxRecDepth 100000
set_option maxHeartbeats 4000000
namespace PySem.W
open PySem PySem.Spec PySem.Calls PyProof.Rows
section
variable {prog : Program} {w : World} {A : Around} {E : Value → Shared → Prop} {s : Shared} {K : Frag} {x D : Addr} {ox : Obj} {od : Option Obj}
theorem findObj_dataD {C : Addr} {name : Str} {a g : Value} (hc : (clsIn K C).isSome = true) (ha : findIn K (.ref C) name = some (some a)) (hg : specialIn K a "__get__" = some (some g)) (ht : takesIn K a = some true) : findObj K C od name = some (.bind g a) := by
  obtain ⟨cd, hc⟩ := Option.isSome_iff_exists.mp hc
  unfold findObj
  rw [hc, Option.bind_some, ha, Option.bind_some]
  simp [hg, ht]
theorem class_of_err {Q : Option Value → Shared → Prop} (T : L2.ExcC K D) (X : K.In s.heap) (I : InstAt s.heap x ox D od) (h : Q (some (.ref D)) { s with toks := s.toks + 1 }) : wpAny (model prog w) A (getAttr? (.ref x) "__class__") Q E s := by
  have hf : findObj K D od "__class__" = some (.bind (.builtin "getset_descriptor.__get__") (.builtin "object.__class__")) := findObj_dataD (by obtain ⟨cd, hc, _⟩ := any_some T.hd; rw [hc]; rfl) T.ha T.hn T.ht
  obtain ⟨hp, g, d, t, os⟩ := s
  have L0 := I.type (M := model prog w)
  have L1 := looks_findIn (M := model prog w) X T.hg
  have L2 := looks_findIn (M := model prog w) X T.hk
  have L3 := looks_find (M := model prog w) X I hf
  have sub : Looks (model prog w) hp (isInstance (.ref x) (.type "BaseException")) true := L0.andThen (looks_subIn X T.hs)
  have n2 : (Value.builtin "BaseException.__getattribute__" == Value.builtin "object.__getattribute__") = false := by decide +kernel
  have n1 : (onTheHeap (Value.ref D) && Value.builtin "BaseException.__getattribute__" == Value.builtin "object.__getattribute__") = false := by rw [n2]; rfl
  have n0 : (false && onTheHeap (Value.builtin "BaseException.__getattribute__")) = false := rfl
  unfold getAttr? getAttrBy? getAttrBy
  refine wpAny_bind (wpAny_mkText (wpAny_bind (wpAny_attempt (wpAny_holding (wpAny_bind (L0.at (wpAny_bind (L1.at ?_))))))))
  show wpAny _ _ (if (onTheHeap (Value.ref D) && Value.builtin "BaseException.__getattribute__" == Value.builtin "object.__getattribute__") = true then _ else _) _ _ _
  rw [n1, if_neg Bool.false_ne_true]
  unfold getAttrByItsOwn hookBefore
  refine wpAny_bind ?_
  rw [if_pos (show onTheHeap (Value.ref D) = true from rfl)]
  refine L2.at ?_
  refine wpAny_bind (wpAny_attempt (wpAny_holding ?_))
  unfold callGetattribute
  rw [n0, if_neg Bool.false_ne_true]
  unfold boundAndCalled
  rw [PySem.F.excAttr_ValueError.ga.bind (.ref x)]
  refine wpAny_bind (wpAny_pure ?_)
  show wpAny _ _ (call (.builtin "BaseException.__getattribute__") [.ref x, .str "__class__" t]) _ _ _
  refine wpAny_call (codeAny_call_builtin PySem.F.excAttr_ValueError.ga.plain PySem.F.entry_bexc_ga ?_)
  refine @check_slot (model prog w) _ _ ⟨hp, g, d, t + 1, os⟩ "BaseException.__getattribute__" "BaseException" "__getattribute__" (.ref x) [.str "__class__" t] [] _ (by decide +kernel) (by decide +kernel) sub (PySem.F.args_bexc_ga (.ref x) (.str "__class__" t)) ?_
  unfold Builtin.«object.__getattribute__»
  refine wpAny_bind (wpAny_of_eq (a := ((Value.ref x : Value), [Value.str "__class__" t])) (by first | rfl | (simp only [slotArgs]; rfl)) ?_)
  refine wpAny_bind (wpAny_pure (wpAny_bind (L0.at (wpAny_bind (L3.at ?_)))))
  show wpAny _ _ (holding [Value.builtin "object.__class__"] (call (.builtin "getset_descriptor.__get__") [.builtin "object.__class__", .ref x, .ref D]) >>= ret) _ _ _
  refine wpAny_bind (wpAny_holding (wpAny_call (class_get (s := ⟨hp, g, d, t + 1, os⟩) (ox := ox) (od := od) X I T.hm ?_)))
  refine wpAny_pure ?_
  show wpAny _ _ (handedOut (.ref D)) _ _ _
  rw [handedOut_of (v := .ref D) rfl]
  first
    | exact wpAny_pure (wpAny_pure h)
    | exact wpAny_pure h
    | exact wpAny_pure (wpAny_bind (wpAny_pure (wpAny_pure h)))
theorem kitx_err (T : L2.ExcC K D) : KitX K (.ref x) (.ref D) (fun h => InstAt h x ox D od) where
  ty := fun _ _ _ I => I.type
  it := fun _ _ X _ => by
    obtain ⟨cdD, hcD, _⟩ := any_some T.hd
    unfold clsIn at hcD
    split at hcD
    · rename_i c' d' cd' sl' ho
      intro A' Q' E' s' k q
      unfold isType loadHead
      exact wpAny_bind (wpAny_loadPart (k _ _ (X _ _ ho)) (wpAny_pure q))
    · cases hcD
  ne := fun h tp dd its n sl X htp => by
    obtain ⟨cdD, hcD, _⟩ := any_some T.hd
    refine Bool.eq_false_iff.mpr fun q => ?_
    have e : D = tp := Value.ref.inj (beq_iff_eq.mp q)
    subst e
    unfold clsIn at hcD
    split at hcD
    · rename_i c' d' cd' sl' ho
      have z := (X _ _ ho).symm.trans htp
      cases z
    · cases hcD
  ca := fun X I k => class_of_err T X I k
end
end PySem.W
namespace ExS
open PySem PySem.Spec PyProof.Rows L2
def rIsD (K : PySem.W.Frag) (a : Addr) (cls : Value) (d : Option Addr) : List V → Hp → VK → Prop := fun xs H Q => ∃ (D dd : Addr) (fs : List (Str × V)) (c : V) (cv : Value) (b : Bool), xs = [.ref a, c] ∧ cls = .ref D ∧ d = some dd ∧ H dd = some (.xd fs) ∧ ExcC K D ∧ ClsV c cv ∧ PySem.W.kitOne K (.ref D) cv = some b ∧ Q (.bl b) H
theorem call_isD {X : Cx} {a : Addr} {cls : Value} {d : Option Addr} {oe : Obj} {pn : List (Addr × Obj)} (hz : Zc cls d oe) (hf : ∃ vs, oe.data = .fields vs) : CallR (X.suite a ((a, oe) :: pn)) (.builtin "isinstance") (rIsD X.K a cls d) := by
  intro pins s σ H xs us Q I r h
  obtain ⟨D, dd, fs, c, cv, b, rfl, rfl, rfl, ea, T, hcv, e, q⟩ := h
  obtain ⟨u1, u2, rfl, rx, rt⟩ := vals2 r
  have ec := hcv.eq rt
  subst ec
  obtain rfl : u1 = Value.ref a := rx
  obtain ⟨ha, _⟩ := I.pin (a, oe) (List.mem_append.mpr (.inl List.mem_cons_self))
  obtain ⟨vs, hd⟩ := hf
  have hx : ObjOk X.prog X.w H s.heap dd (.xd fs) := I.hok dd _ ea
  obtain ⟨mA, hns, hr⟩ := hx
  obtain ⟨od, ho, hl⟩ := lookIn_ns hns
  have J : PySem.W.InstAt s.heap a oe D (some od) := ⟨ha, hz.1, by unfold PySem.W.notCls; rw [hd] <;> rfl, by rw [hz.2]; exact ho⟩
  exact PySem.W.kia_one (PySem.W.kitx_err T) I.kIn J e (fun z => nomatch z) fun tk => ⟨.bl b, H, I.kept (t' := tk) fun _ _ z => z, rfl, q⟩
end ExS
set_option maxRecDepth 100000
set_option maxHeartbeats 4000000
namespace TryA
open PySem PySem.Spec PyProof.Rows L2
def wManyA (K : PySem.W.Frag) (Wout : WX) (D : Ends) : List (Value × Nat × (Addr → Value → Option Addr → TS)) → WX
  | [] => Wout
  | (c, i, ts) :: r => fun cls d σ H => ∃ b, PySem.W.exmOne K cls c = some b ∧ (b = true → ∀ a, H a = none → ts a cls d { nx := fun σ' H' => D.nx (σ'.set i none) H', rt := D.rt, bk := fun σ' H' => D.bk (σ'.set i none) H', ct := fun σ' H' => D.ct (σ'.set i none) H' } (σ.set i (some (.ref a))) H) ∧
      (b = false → wManyA K Wout D r cls d σ H)
inductive HdsA (X : Cx) : List ExceptHandler → List (Value × Nat × (Addr → Value → Option Addr → TS)) → Prop
  | nil : HdsA X [] []
  | cons {x n : Str} {c : Value} {i : Nat} {ts : Addr → Value → Option Addr → TS} {b₀ : Stmt} {suite : List Stmt} {np pos' : Pos} {hds : List ExceptHandler} {l : List (Value × Nat × (Addr → Value → Option Addr → TS))} (hN : X.N.Nodup) (hi : X.N[i]? = some n) (hln : X.env.kindOf n = some .local) (hc : Names X x c)
      (hsu : ∀ (a : Addr) (oe : Obj) (cls : Value) (d : Option Addr) (pn : List (Addr × Obj)), Zc cls d oe → (∃ vs, oe.data = .fields vs) → PSs (X.suite a ((a, oe) :: pn)) (b₀ :: suite) (ts a cls d)) (r : HdsA X hds l) :
      HdsA X (.ExceptHandler (some (.Name x np)) (some n) (b₀ :: suite) pos' :: hds) ((c, i, ts) :: l)
section
variable {X : Cx} {body : List Stmt} {h₀ : ExceptHandler} {hds : List ExceptHandler} {l : List (Value × Nat × (Addr → Value → Option Addr → TS))} {pos : Pos} {tb : WX → TS} {Wout : WX}
theorem ps_try_manyA (hs : X.stack = X.env :: X.outer) (hf : X.env.frame = some X.env.locals) (tk : Takes X Wout)
    (hb : ∀ (W : WX) (pn : List (Addr × Obj)) (xe : Value → Shared → Prop), Takes (X.tr pn xe) W → PassesOwn (model X.prog X.w) X.A X.env xe → PSs (X.tr pn xe) body (tb W))
    (hh : HdsA X (h₀ :: hds) l) : PS X (.Try body (h₀ :: hds) [] [] pos) (fun D σ H => tb (wManyA X.K Wout D l) D σ H) := by
  refine ⟨fun pins s σ H D I h => ?_⟩
  have ok := I.ok
  have hfr : X.A.frames = some (X.env :: X.outer) := by rw [ok.frames, hs]
  refine wpAny_Try_except ?_
  refine wpAny_mono ((hb (wManyA X.K Wout D l) (X.pn ++ pins) (fun e s₁ => wpAny (model X.prog X.w) X.A (noteFrame e X.env) (fun _ s₂ => wpAny (model X.prog X.w) X.A (setFlight e none) (fun _ s₃ =>
    wpAny (model X.prog X.w) X.A (handleBy e X.env (h₀ :: hds)) (SP X pins D) X.xe s₃) X.xe s₂) X.xe s₁) (fun u s' xx => ?_) PassesOwn.looking).run [] s σ H D (I.toTry _) h) (fun f s1 hsp => ?_) (fun e s1 he => he)
  · obtain ⟨a, B, sI, pins', σ', H', cls, d, rfl, J', nb, up, sky, na, os, ag, w⟩ := xx
    have J : Inv X pins σ' H' sI := J'.ofTry ok
    have sky' : Sky B (X.env :: X.outer) a (Zc cls d) X.env.locals s'.heap := by rw [← hs]; exact sky
    show wpAny (model X.prog X.w) X.A (noteFrame (.ref a) X.env) _ _ _
    refine Sky.land Zc.steady hfr hf sky' fun h3 fl3 up3 => ?_
    have J3 : Inv X pins σ' H' { s' with heap := h3 } := J.landed nb fl3.1 (up.trans up3) os ag
    obtain ⟨oe3, vs3, he3, hz3, hd3⟩ := fl3.there
    have notFr : ∀ {h : Heap} {o : Obj} {vs : Array Value}, h.FunFrames B (X.env :: X.outer) → h.get? a = some o → o.data = .fields vs → a ∉ frs (X.env :: X.outer) := fun {h o vs} ff e dd hm => by
      obtain ⟨_, o', e', hnf⟩ := ff.mem hm
      rw [e] at e'; cases e'
      exact hnf _ dd
    have nfr := notFr fl3.2.2.1 he3 hd3
    have nL : a ≠ X.env.locals := fun z => nfr (List.mem_filterMap.mpr ⟨X.env, List.mem_cons_self, by rw [hf, z]⟩)
    have nF : a ∉ X.fs := fun hm => by
      obtain ⟨e, he, q⟩ := List.mem_filterMap.mp hm
      exact nfr (List.mem_filterMap.mpr ⟨e, List.mem_cons_of_mem _ he, q⟩)
    have S3 := J3.suite he3 hd3 na nL nF
    have go : ∀ {hds' : List ExceptHandler} {l' : List (Value × Nat × (Addr → Value → Option Addr → TS))}, HdsA X hds' l' → wManyA X.K Wout D l' cls d σ' H' →
        wpAny (model X.prog X.w) X.A (handleBy (.ref a) X.env hds') (SP X pins D) X.xe { s' with heap := h3 } := by
      intro hds' l' hk
      induction hk with
      | nil =>
        intro w
        refine wpAny_handleBy_nil ?_
        obtain ⟨k1, k2, k3, oe, vs, T, oT, ts', he, hz, hd, h1, hr⟩ := id fl3
        unfold PySem.passOn
        refine wpAny_bind (wpAny_field he hd h1 ?_)
        rw [if_neg (show ¬ ((Value.ref T == Value.none) = true) from by simp)]
        have fin : wpAny (model X.prog X.w) X.A (setFlight (.ref a) X.env.frame) (fun _ s4 => wpAny (model X.prog X.w) X.A (throw (.ref a) : Sem Flow) (SP X pins D) X.xe s4) X.xe { s' with heap := h3 } := by
          rw [hf]
          refine HandSPX.setFlight_upZ fl3 fun h4 hh4 up4 => wpAny_throw (tk _ _ ?_)
          exact ⟨a, B, sI, pins, σ', H', cls, d, rfl, J, nb, (up.trans up3).trans up4, .inr (.inr (by rw [hs]; exact hh4)), na, os, ag, w⟩
        first
          | exact wpAny_bind (wpAny_pure (wpAny_bind fin))
          | exact wpAny_bind fin
      | @cons x n c i ts b₀ suite np pos' hds2 l2 hN hi hln hc hsu r ih =>
        intro w
        have hloc : Loc X.env.scope n := .inl hln
        obtain ⟨b, hb1, hyes, hno⟩ := w
        refine wpAny_handleBy_cons (codeAny_handlers_test ?_) (by intro q; cases q)
        have LT : PySem.W.Looks (model X.prog X.w) h3 (typeOf (.ref a)) cls := fun A Q E s k q => wpAny_typeOf_ref (k _ _ he3) (by rw [hz3.1]; exact q)
        have LM := PySem.W.exm_one (M := model X.prog X.w) (J3.kIn) LT hb1
        have test : ∀ {Q : Value → Shared → Prop} {E : Value → Shared → Prop}, Q c { s' with heap := h3 } → wpAny (model X.prog X.w) (X.A.mark (some (.ref a))) (eval (.Name x np) X.env) Q E { s' with heap := h3 } := fun {Q E} q => by
          obtain ⟨hg, hdbg, hm | ⟨hm, hv, hnn⟩⟩ := hc
          · exact ld_glob (X := X.suite a ((a, oe3) :: (X.pn ++ pins))) S3 hg hm q hdbg
          · exact ld_blt (X := X.suite a ((a, oe3) :: (X.pn ++ pins))) S3 hg hm hv q hnn hdbg
        refine test (LM.here ?_)
        cases b with
        | true =>
          refine codeAny_handlers_suite_as ?_
          refine HandSPX.lands_againZ fl3 fun h4 fl4 up4 => ?_
          have J4 : Inv X pins σ' H' { s' with heap := h4 } := J.landed nb fl4.1 ((up.trans up3).trans up4) os ag
          obtain ⟨oe4, vs4, he4, hz4, hd4⟩ := fl4.there
          have S4 := J4.suite he4 hd4 na nL nF
          refine store_ok (X := X.suite a ((a, oe4) :: (X.pn ++ pins))) (v := .ref a) S4 hN hi hloc rfl (fun s5 S5 => ?_) (.inr hln)
          refine wpAny_mono ((hsu a oe4 cls d (X.pn ++ pins) hz4 ⟨_, hd4⟩).run [] s5 _ H' _ S5 (hyes rfl a na)) (fun f s6 hsp => ?_) (fun _ _ z => False.elim z)
          have end_ : ∀ {σ6 : L2.St} {H6 : Hp} {Q : Shared → Prop}, Inv (X.suite a ((a, oe4) :: (X.pn ++ pins))) [] σ6 H6 s6 → (∀ s7, Inv X pins (σ6.set i none) H6 s7 → Q s7) →
              wpAny (model X.prog X.w) X.A (do bindName X.env n .none; unbindBehindTheSuite X.env n pos') (fun _ s7 => Q s7) X.xe s6 := fun {σ6 H6 Q} S6 hq => gone_ok (S6.unsuite ok) hN hi hln hq
          cases f with
          | next =>
            obtain ⟨σ6, H6, S6, q6⟩ := hsp
            exact end_ S6 fun s7 J7 => ⟨_, _, J7, q6⟩
          | brk =>
            obtain ⟨σ6, H6, S6, q6⟩ := hsp
            exact end_ S6 fun s7 J7 => ⟨_, _, J7, q6⟩
          | cont =>
            obtain ⟨σ6, H6, S6, q6⟩ := hsp
            exact end_ S6 fun s7 J7 => ⟨_, _, J7, q6⟩
          | ret u =>
            obtain ⟨v6, σ6, H6, S6, r6, q6⟩ := hsp
            exact end_ S6 fun s7 J7 => ⟨_, _, _, J7, r6, q6⟩
        | false =>
          show wpAny _ X.A (handleBy (.ref a) X.env hds2) _ _ _
          exact ih (hno rfl)
    exact go hh w
  · cases f with
    | next =>
      obtain ⟨σ', H', J', q⟩ := hsp
      exact wpAny_execs_nil ⟨σ', H', J'.ofTry ok, q⟩
    | brk =>
      obtain ⟨σ', H', J', q⟩ := hsp
      exact ⟨σ', H', J'.ofTry ok, q⟩
    | cont =>
      obtain ⟨σ', H', J', q⟩ := hsp
      exact ⟨σ', H', J'.ofTry ok, q⟩
    | ret u =>
      obtain ⟨v, σ', H', J', r, q⟩ := hsp
      exact ⟨v, σ', H', J'.ofTry ok, r, q⟩
end
end TryA
set_option maxRecDepth 100000
set_option maxHeartbeats 4000000
namespace ExS
open PySem PySem.Spec PyProof.Rows L2
structure CMtT (P : Program) (w : World) (K : PySem.W.Frag) (mg : Str → Option Value) (base : Heap) (k : Nat) (x : Str) (C : Addr) (m : Str) (sp : Sp) : Prop where
  ex : ∃ (mc : Value) (p g : Addr) (fd : FuncData) (ps : List Str), mg x = some (.ref C) ∧ ClX.CRead K C mc ∧ ClX.CMet K C mc m p g ∧ FnOk P w K mg base (L2.CX P w) k g fd ps sp ∧ Binds K fd ps []
def tCMethS (C : Addr) (sp : Sp) (E : L2.St → XK) (t : TA) : TE := fun σ H Q => t σ H fun vs H2 => sp (.ref C :: vs) H2 Q (E σ)
theorem run_fnSC {X : Cx} {k : Nat} {f : Addr} {fd : FuncData} {ps : List Str} {sp : Sp} {E : L2.St → XK} {pins : List (Addr × Obj)} {σ : L2.St} {H : Hp} {s : Shared} {Q : VK} {us : List Value} {vs : List V} (F : FnOk X.prog X.w X.K X.mg X.base (L2.CX X.prog X.w) k f fd ps sp) (hr : Room k X.A) (hb : Binds X.K fd ps []) (hx : PassesAt (L2.CX X.prog X.w) X σ (E σ))
    (I : Inv X pins σ H s) (r : Vals vs us) (h : sp vs H Q (E σ)) : codeAny (model X.prog X.w) X.A (.call (.ref f) ⟨us, []⟩) (fun r s' => match r with | .ok (.ret v) => EP X pins σ Q v s' | .ok _ => False | .error e => X.xe e s') s := by
  have hl : us.length = ps.length := by rw [← r.length]; exact F.len _ _ _ _ h
  have b := hb s us I.kIn (by rw [List.append_nil]; exact hl)
  rw [List.append_nil] at b
  refine codeAny_mono (F.run X.A X.stack s H ⟨us, []⟩ us vs Q (E σ) hr I.env0 b r h) fun r s' hq => ?_
  cases r with
  | error e => exact hx pins H s e s' I hq
  | ok fl =>
    cases fl with
    | ret u => exact I.after hq
    | next => exact False.elim hq
    | brk => exact False.elim hq
    | cont => exact False.elim hq
section
variable {X : Cx} {x m : Str} {C : Addr} {k j : Nat} {p pos apos : Pos} {e : Expr} {es : List Expr} {t : TA} {sp : Sp} {dvs : List V} {W : WX} {y : Str}
theorem pe_cmT {pl : Sem Bool} (c : CMtT X.prog X.w X.K X.mg X.base k x C m sp) (hr : Room j X.A) (hk : k ≤ j) (tk : Takes X W) (hg : Gl X x) (ha : PA X (e :: es) t) (hdb : (x == ("__debug__" : Str)) = false := by decide)
    (hst : starEach (e :: es) X.env = (false, eval e X.env) :: starEach es X.env := by rfl) (hpl : (backTo pos (starEach es X.env)).any (·.1) = false := by rfl)
    (ht : eval (.Call (.Attribute (.Name x p) m apos) (e :: es) [] pos) X.env = (do
      let ov ← eval (.Name x p) X.env
      standAt apos.atName
      let (f, first) ← holding [ov] (getMethod ov m pl)
      callWith pos f first (backTo pos (starEach (e :: es) X.env)) (backToKw pos (keywordEach [] X.env))) := by rfl) :
    PE X (.Call (.Attribute (.Name x p) m apos) (e :: es) [] pos) (tCMethS C sp (WE W) t) := by
  obtain ⟨mc, q, g, fd, ps, hm, r, cm, F, b⟩ := c.ex
  refine ⟨fun pins s σ H Q I h => ?_⟩
  refine PySem.W.methodCall_KW (pl := pl) (thn ((pe_glob (v := .ref C) hg hm rfl hdb).run pins s σ H (fun v H1 => v = .ref C ∧ H1 = H) I ⟨rfl, rfl⟩) fun u s1 ⟨x1, H1, I1, rx, ex⟩ => ?_) ht
  obtain ⟨rfl, rfl⟩ := ex
  obtain rfl : u = Value.ref C := rx
  refine ClX.getmethcm_ok I1 r cm fun s2 I2 => ?_
  refine ClX.callwith_cm I2 (ClX.base_none I1 (Nat.le_refl _)) cm.fi (thn (ha.run pos _ s2 σ _ _ I2 h) fun us s3 ⟨vs, H2, I3, rv, q2⟩ => ⟨⟨ClX.pin_at I3, I3.kIn⟩, ?_⟩) hst hpl
  have z := wpAny_call (PySem.W.method_call (ClX.pin_at I3) (run_fnSC (us := .ref C :: us) (vs := .ref C :: vs) F (hr.mono hk) b (passAt tk σ) I3 (.cons rfl rv) q2))
  exact thn z fun _ _ y => ClX.unpinE y
def tMakeLS (i : Nat) (C : Addr) (sp : Sp) (dvs : List V) (E : L2.St → XK) (t : TA) : TE := fun σ H Q => σ[i]? = some (some (.ref C)) ∧ tMakeS C sp dvs E t σ H Q
theorem pe_mkLT (i : Nat) (c : MakX X.prog X.w X.K X.mg X.base k y C sp dvs) (hr : Room j X.A) (hk : k + 1 ≤ j) (tk : Takes X W) (ha : PA X (e :: es) t) (hN : X.N[i]? = some x := by rfl) (hv : Vis X.env.scope x := by first | exact Or.inl rfl | exact Or.inr (Or.inl rfl) | exact Or.inr (Or.inr rfl))
    (hdb : (x == ("__debug__" : Str)) = false := by decide) (hcd : (x == ("__classdict__" : Str)) = false := by decide)
    (he : starEach (e :: es) X.env = (false, eval e X.env) :: starEach es X.env := by rfl) (hpl : (backTo pos (starEach es X.env)).any (·.1) = false := by rfl) :
    PE X (.Call (.Name x p) (e :: es) [] pos) (tMakeLS i C sp dvs (WE W) t) := by
  obtain ⟨f, fd, ps, ds, M, F, hm, b, d⟩ := c.ex
  refine ⟨fun pins s σ H Q I h => ?_⟩
  obtain ⟨hs, ht⟩ := h
  refine wpAny_Call_Name_kw (thn ((pe_var (pos := p) hN hv hdb hcd).run pins s σ H (fun v H1 => v = .ref C ∧ H1 = H) I ⟨.ref C, hs, rfl, rfl⟩) fun u s1 ⟨v, H1, I1, r1, q1⟩ => ?_)
  obtain ⟨rfl, rfl⟩ := q1
  cases r1
  refine PySem.W.callWith_K (h₀ := X.base) I.ok.mod.kin M.kp (thn (ha.run pos pins s1 σ _ _ I1 ht) fun us s2 ⟨vs, H2, I2, r, q⟩ => ⟨I2.kIn, ?_⟩) he hpl
  have q1 := q (s2.heap.objs.size + 1) s2.heap.objs.size (I2.hok.fresh (Nat.le_succ _)) (I2.hok.fresh (Nat.le_refl _)) (Nat.ne_of_lt (Nat.lt_succ_self _))
  have J := Inv.made (C := C) I2
  have rr : Vals (V.ref (s2.heap.objs.size + 1) :: (vs ++ dvs)) (Value.ref (s2.heap.objs.size + 1) :: (us ++ ds)) := .cons rfl (r.append d)
  have len : (Value.ref (s2.heap.objs.size + 1) :: us ++ ds).length = ps.length := (rr.length).symm.trans (F.len _ _ _ _ q1)
  have go := F.run (X.A.under (.builtin "type.__call__" ⟨.ref C :: us, []⟩)) X.stack _ _ ⟨Value.ref (s2.heap.objs.size + 1) :: us, []⟩ _ _ _ _ ((hr.mono hk).make C us []) (J.env0.make C us []) (b _ (Value.ref (s2.heap.objs.size + 1) :: us) J.kIn len) rr q1
  refine wpAny_call (make_map (f := f) I2.kIn M.makes M.init (beq_iff_eq.mp M.fn) (codeAny_mono go fun res s3 hres => ?_))
  match res, hres with
  | .error er, hres => exact passAt tk σ pins _ _ er s3 J hres
  | .ok (.ret u), hres =>
    obtain ⟨v, H3, J3, rv, ev, q3⟩ := J.after hres
    subst ev
    exact ⟨rv, V.ref (s2.heap.objs.size + 1), H3, J3, rfl, q3⟩
  | .ok .next, hres => exact False.elim hres
  | .ok .brk, hres => exact False.elim hres
  | .ok .cont, hres => exact False.elim hres
end
end ExS
set_option maxRecDepth 100000
set_option maxHeartbeats 4000000
namespace U
open PySem PySem.Spec PyProof.Rows
open L2 hiding Fun CX0 E0 pass0 Fun.binds
open C8 Lx SX
def bt (b : Bool) : Nat := if b then 49 else 48
def W (l : List Bool) : Str := S (l.map bt)
theorem bt_inj : ∀ {a b : Bool}, bt a = bt b → a = b := by decide
theorem map_bt_inj : ∀ {a b : List Bool}, a.map bt = b.map bt → a = b
  | [], [], _ => rfl
  | [], _ :: _, h => by simp at h
  | _ :: _, [], h => by simp at h
  | x :: l, y :: m, h => by
    rw [List.map_cons, List.map_cons] at h
    injection h with h1 h2
    rw [bt_inj h1, map_bt_inj h2]
theorem W_inj {a b : List Bool} (h : W a = W b) : a = b := map_bt_inj (S_inj h)
theorem W_eq {a b : List Bool} : (W a = W b) ↔ a = b := ⟨W_inj, fun h => by rw [h]⟩
theorem W_len (a : List Bool) : (W a).length = a.length := by unfold W; rw [S_len, List.length_map]
theorem W_size (a : List Bool) : (W a).cps.size = a.length := by unfold W; simp
theorem W_cat (a b : List Bool) : W a ++ W b = W (a ++ b) := by unfold W; rw [S_cat, List.map_append]
theorem W_nil : ("" : Str) = W [] := by decide +kernel
theorem W_0 : ("0" : Str) = W [false] := by decide +kernel
theorem W_1 : ("1" : Str) = W [true] := by decide +kernel
theorem W_get {a : List Bool} {i : Nat} {c : Nat} (h : (W a).cps[i]? = some c) : ∃ b, a[i]? = some b ∧ c = bt b := by
  unfold W S at h
  rw [List.getElem?_toArray, List.getElem?_map] at h
  cases e : a[i]? with
  | none => rw [e] at h; cases h
  | some b => rw [e] at h; exact ⟨b, rfl, (Option.some.inj h).symm⟩
theorem W_bit (b : Bool) : (⟨#[bt b]⟩ : Str) = W [b] := rfl
theorem W_tl (a : List Bool) : (W a).cps.toList = a.map bt := rfl
theorem joinL_nil : ∀ ys : List (List Nat), TL.joinL [] ys = ys.flatten
  | [] => rfl
  | [p] => by simp [TL.joinL]
  | p :: q :: r => by
    show p ++ ([] ++ TL.joinL [] (q :: r)) = _
    rw [List.nil_append, joinL_nil (q :: r)]
    rfl
theorem join_W (ls : List (List Bool)) : Txt.join "" (ls.map W) = W ls.flatten := by
  have e : (ls.map W) = (ls.map (·.map bt)).map S := by rw [List.map_map]; rfl
  have e2 : ("" : Str) = S [] := by decide +kernel
  rw [e, e2, join_S, joinL_nil]
  unfold W
  rw [List.map_flatten]
theorem join_bits (l : List Bool) : Txt.join "" (l.map fun b => W [b]) = W l := by
  have e : (l.map fun b => W [b]) = (l.map fun b => [b]).map W := by rw [List.map_map]; rfl
  rw [e, join_W]
  congr 1
  induction l with
  | nil => rfl
  | cons b r ih => simp [ih]
theorem sum_lens : ∀ ls : List (List Bool), ((ls.map W).map (·.length)).sum = (ls.map (·.length)).sum
  | [] => rfl
  | l :: r => by
    rw [List.map_cons, List.map_cons, List.map_cons, List.sum_cons, List.sum_cons, W_len, sum_lens r]
theorem sl_len {n : Nat} (h : n ≤ 100000) : n ≤ sizeLine := Nat.le_trans h (by decide)
theorem sl_lt {n : Nat} (h : n < 100000) : n < sizeLine := Nat.lt_of_lt_of_le h (by decide)
def bitsV (l : List Bool) : List V := (l.map fun b => W [b]).map V.str
theorem lens_bits (l : List Bool) : ((l.map fun b => W [b]).map (·.length)).sum = l.length := by
  induction l with
  | nil => rfl
  | cons b r ih => rw [List.map_cons, List.map_cons, List.sum_cons, ih, W_len, List.length_cons]; simp only [List.length_cons, List.length_nil]; omega
theorem bitsV_len (l : List Bool) : (bitsV l).length = l.length := by unfold bitsV; rw [List.length_map, List.length_map]
theorem bitsV_snoc (l : List Bool) (b : Bool) : bitsV l ++ [V.str (W [b])] = bitsV (l ++ [b]) := by unfold bitsV; simp
theorem mem2 {v : V} (h : v ∈ ([.str "0", .str "1"] : List V)) : ∃ b : Bool, v = .str (W [b]) := by
  rcases List.mem_cons.mp h with rfl | h
  · exact ⟨false, by rw [W_0]⟩
  · rcases List.mem_cons.mp h with rfl | h
    · exact ⟨true, by rw [W_1]⟩
    · cases h
theorem empty_len : ("" : Str).length = 0 := by decide +kernel
theorem q_dec {c : Prop} [Decidable c] {Q : VK} {H : Hp} (hc : c) (h : Q (.bl true) H) : Q (.bl (decide c)) H := by rw [decide_eq_true hc]; exact h
theorem q_ndec {c : Prop} [Decidable c] {Q : VK} {H : Hp} (hc : ¬ c) (h : Q (.bl false) H) : Q (.bl (decide c)) H := by rw [decide_eq_false hc]; exact h
theorem iteDT {c A B : Prop} [Decidable c] (hc : c) (h : A) : if decide c = true then A else B := by rw [decide_eq_true hc]; exact iteT h
theorem iteDF {c A B : Prop} [Decidable c] (hc : ¬ c) (h : B) : if decide c = true then A else B := by rw [decide_eq_false hc]; exact iteF h
theorem iteNT {c A B : Prop} [Decidable c] (hc : ¬ c) (h : A) : if (!decide c) = true then A else B := by rw [decide_eq_false hc]; exact iteT h
theorem iteBT {b : Bool} {A B : Prop} (hc : b = true) (h : A) : if b = true then A else B := by rw [hc]; exact iteT h
theorem iteBF {b : Bool} {A B : Prop} (hc : b = false) (h : B) : if b = true then A else B := by rw [hc]; exact iteF h
def oW : Option (List Bool) → V
  | none => .non
  | some x => .str (W x)
theorem W_drop {a : List Bool} {i : Int} (h : 0 ≤ i) : Txt.slice (W a) (some i) none = W (a.drop i.toNat) := by
  unfold W; rw [slice_from h, List.map_drop]
theorem W_take {a : List Bool} {i : Int} (h : 0 ≤ i) : Txt.slice (W a) none (some i) = W (a.take i.toNat) := by
  unfold W; rw [slice_to h, List.map_take]
theorem repl_succ (l : List Bool) (n : Nat) : (List.replicate (n + 1) l).flatten = l ++ (List.replicate n l).flatten := by rw [List.replicate_succ]; rfl
theorem foldl_app : ∀ (n : Nat) (a b : Array Nat), ((List.replicate n a).foldl (· ++ ·) b).toList = b.toList ++ (List.replicate n a.toList).flatten
  | 0, a, b => by simp
  | n + 1, a, b => by
    rw [List.replicate_succ, List.foldl_cons, foldl_app n a (b ++ a), List.replicate_succ, List.flatten_cons, Array.toList_append, List.append_assoc]
theorem mul_W {l : List Bool} {n : Nat} (h : 1 ≤ n) : Txt.mul (W l) (n : Int) = W (List.replicate n l).flatten := by
  refine TL.ext_tl ?_
  unfold Txt.mul
  rw [if_neg (by omega)]
  by_cases c : (((n : Int) == 1) || (W l).length == 0) = true
  · rw [if_pos c]
    simp only [Bool.or_eq_true, beq_iff_eq] at c
    rcases c with c | c
    · have : n = 1 := by omega
      subst this
      simp
    · rw [W_len] at c
      have : l = [] := List.length_eq_zero_iff.mp c
      subst this
      rw [show (List.replicate n ([] : List Bool)).flatten = [] by simp]
  · rw [if_neg c]
    show ((List.replicate (n : Int).toNat (W l).cps).foldl (· ++ ·) #[]).toList = _
    rw [foldl_app, Int.toNat_natCast]
    show [] ++ (List.replicate n (l.map bt)).flatten = ((List.replicate n l).flatten).map bt
    rw [List.map_flatten, List.map_replicate, List.nil_append]
end U
set_option maxRecDepth 100000
set_option maxHeartbeats 4000000
namespace U
abbrev Stf := List Bool × Bool
def putM (ss : List Stf) (l : List Bool) : Option Bool := (ss.find? fun s => s.1.isSuffixOf l).map (·.2)
inductive Ins (ss : List Stf) : List Bool → List Bool → Prop
  | stop {l : List Bool} : putM ss l = none → Ins ss l []
  | more {l x : List Bool} {b : Bool} : putM ss l = some b → Ins ss (l ++ [b]) x → Ins ss l (b :: x)
inductive Reach (ss : List Stf) : List Bool → Prop
  | nil : Reach ss []
  | next {l x : List Bool} {b : Bool} : Reach ss l → Ins ss (l ++ [b]) x → Reach ss (l ++ [b] ++ x)
def OkR (ss : List Stf) : Prop := ∀ l, Reach ss l → ∀ b, ∃ x, Ins ss (l ++ [b]) x
def OkN (n : Nat) (ss : List Stf) : Prop := ∀ l, Reach ss l → ∀ b, ∃ x, Ins ss (l ++ [b]) x ∧ x.length ≤ n
abbrev OkS (ss : List Stf) : Prop := OkN 19 ss
theorem OkN.ok {n : Nat} {ss : List Stf} (h : OkN n ss) : OkR ss := fun l r b => by
  obtain ⟨x, hx, _⟩ := h l r b
  exact ⟨x, hx⟩
theorem OkN.mono {n m : Nat} {ss : List Stf} (h : OkN n ss) (hn : n ≤ m) : OkN m ss := fun l r b => by
  obtain ⟨x, hx, h1⟩ := h l r b
  exact ⟨x, hx, Nat.le_trans h1 hn⟩
def tl (n : Nat) (l : List Bool) : List Bool := l.drop (l.length - n)
theorem tl_len (n : Nat) (l : List Bool) : (tl n l).length = min n l.length := by unfold tl; rw [List.length_drop]; omega
theorem tl_le (n : Nat) (l : List Bool) : (tl n l).length ≤ n := by rw [tl_len]; omega
theorem tl_id {n : Nat} {l : List Bool} (h : l.length ≤ n) : tl n l = l := by
  unfold tl
  rw [show l.length - n = 0 by omega, List.drop_zero]
theorem tl_tl {a b : Nat} (h : a ≤ b) (l : List Bool) : tl a (tl b l) = tl a l := by
  unfold tl
  rw [List.drop_drop, List.length_drop]
  congr 1
  omega
theorem tl_of {a b : Nat} (h : a ≤ b) {l m : List Bool} (e : tl b l = tl b m) : tl a l = tl a m := by rw [← tl_tl h l, e, tl_tl h m]
theorem tl_snoc0 (n : Nat) (l : List Bool) (b : Bool) : tl (n + 1) (l ++ [b]) = tl n l ++ [b] := by
  unfold tl
  rw [List.length_append, List.length_cons, List.length_nil, List.drop_append]
  have e : l.length + (0 + 1) - (n + 1) = l.length - n := by omega
  rw [e, show l.length - n - l.length = 0 by omega]
  rfl
theorem tl_zero (l : List Bool) : tl 0 l = [] := by unfold tl; rw [List.drop_eq_nil_iff]; omega
theorem tl_snoc {n : Nat} {l m : List Bool} {b : Bool} (e : tl n l = tl n m) : tl n (l ++ [b]) = tl n (m ++ [b]) := by
  cases n with
  | zero => rw [tl_zero, tl_zero]
  | succ n => rw [tl_snoc0, tl_snoc0, tl_of (Nat.le_succ n) e]
theorem tl_app {n : Nat} {l m : List Bool} (e : tl n l = tl n m) : ∀ x : List Bool, tl n (l ++ x) = tl n (m ++ x)
  | [] => by rw [List.append_nil, List.append_nil]; exact e
  | b :: x => by
    have := tl_app (tl_snoc (b := b) e) x
    rw [List.append_assoc, List.append_assoc] at this
    exact this
theorem suf_iff {p l : List Bool} : p.isSuffixOf l = true ↔ p = tl p.length l := by
  rw [List.isSuffixOf_iff_suffix, List.suffix_iff_eq_drop]
  rfl
theorem suf_tl {L : Nat} {p l m : List Bool} (h : p.length ≤ L) (e : tl L l = tl L m) : p.isSuffixOf l = p.isSuffixOf m := by
  rw [Bool.eq_iff_iff, suf_iff, suf_iff, tl_of h e]
theorem put_tl {L : Nat} {l m : List Bool} (e : tl L l = tl L m) : ∀ {ss : List Stf}, (∀ s ∈ ss, s.1.length ≤ L) → putM ss l = putM ss m
  | [], _ => rfl
  | s :: r, h => by
    have ih := put_tl e (ss := r) fun s hs => h s (List.mem_cons_of_mem _ hs)
    have es := suf_tl (h s List.mem_cons_self) e
    unfold putM at ih ⊢
    rw [List.find?_cons, List.find?_cons, es]
    cases s.1.isSuffixOf m with
    | true => rfl
    | false => exact ih
theorem Ins.tl {ss : List Stf} {L : Nat} (hL : ∀ s ∈ ss, s.1.length ≤ L) {l x : List Bool} (h : Ins ss l x) : ∀ {m}, tl L l = tl L m → Ins ss m x := by
  induction h with
  | stop h => intro m e; exact .stop (by rw [← put_tl e hL]; exact h)
  | more h _ ih => intro m e; exact .more (by rw [← put_tl e hL]; exact h) (ih (tl_snoc e))
theorem Ins.det {ss : List Stf} {l x : List Bool} (h : Ins ss l x) : ∀ {y}, Ins ss l y → x = y := by
  induction h with
  | stop h =>
    intro y hy
    cases hy with
    | stop _ => rfl
    | more h2 _ => rw [h] at h2; cases h2
  | more h _ ih =>
    intro y hy
    cases hy with
    | stop h2 => rw [h] at h2; cases h2
    | more h2 hx =>
      rw [h] at h2
      cases h2
      rw [ih hx]
theorem Ins.end {ss : List Stf} {l x : List Bool} (h : Ins ss l x) : putM ss (l ++ x) = none := by
  induction h with
  | stop h => rw [List.append_nil]; exact h
  | more _ _ ih => rw [List.append_assoc] at ih; exact ih
theorem Ins.drop {ss : List Stf} {l x : List Bool} (h : Ins ss l x) : ∀ {i}, i ≤ x.length → Ins ss (l ++ x.take i) (x.drop i) := by
  induction h with
  | stop h => intro i hi; rw [List.take_nil, List.drop_nil, List.append_nil]; exact .stop h
  | more h hx ih =>
    intro i hi
    cases i with
    | zero => rw [List.take_zero, List.append_nil, List.drop_zero]; exact .more h hx
    | succ i =>
      have := ih (i := i) (by rw [List.length_cons] at hi; omega)
      rw [List.append_assoc] at this
      exact this
theorem Ins.at {ss : List Stf} {l x : List Bool} (h : Ins ss l x) {i : Nat} {b : Bool} (hb : x[i]? = some b) : putM ss (l ++ x.take i) = some b := by
  have hi := (List.getElem?_eq_some_iff.mp hb).1
  have h2 := h.drop (Nat.le_of_lt hi)
  rw [List.drop_eq_getElem_cons hi] at h2
  cases h2 with
  | more h3 _ => rw [h3, ← hb, List.getElem?_eq_getElem hi]
theorem Ins.apart {ss : List Stf} {L : Nat} (hL : ∀ s ∈ ss, s.1.length ≤ L) {l x : List Bool} (h : Ins ss l x) {i j : Nat} (hi : i ≤ x.length) (hj : j ≤ x.length) (e : U.tl L (l ++ x.take i) = U.tl L (l ++ x.take j)) : i = j := by
  have := congrArg List.length (((h.drop hi).tl hL e).det (h.drop hj))
  rw [List.length_drop, List.length_drop] at this
  omega
def allW : Nat → List (List Bool)
  | 0 => [[]]
  | n + 1 => [] :: ((allW n).map (false :: ·) ++ (allW n).map (true :: ·))
theorem allW_len : ∀ n, (allW n).length + 1 = 2 ^ (n + 1)
  | 0 => rfl
  | n + 1 => by
    have := allW_len n
    show ([] :: ((allW n).map (false :: ·) ++ (allW n).map (true :: ·))).length + 1 = _
    rw [List.length_cons, List.length_append, List.length_map, List.length_map, Nat.pow_succ]
    omega
theorem mem_allW : ∀ {n : Nat} {w : List Bool}, w.length ≤ n → w ∈ allW n
  | 0, [], _ => List.mem_cons_self
  | 0, _ :: _, h => by rw [List.length_cons] at h; omega
  | n + 1, [], _ => List.mem_cons_self
  | n + 1, b :: w, h => by
    have := mem_allW (n := n) (w := w) (by rw [List.length_cons] at h; omega)
    refine List.mem_cons_of_mem _ (List.mem_append.mpr ?_)
    cases b with
    | false => exact .inl (List.mem_map_of_mem this)
    | true => exact .inr (List.mem_map_of_mem this)
theorem nodup_le {α : Type} [DecidableEq α] : ∀ {l m : List α}, l.Nodup → (∀ x ∈ l, x ∈ m) → l.length ≤ m.length
  | [], _, _, _ => Nat.zero_le _
  | x :: r, m, hn, hs => by
    have hx := hs x List.mem_cons_self
    have hn' := List.nodup_cons.mp hn
    have h2 := nodup_le (l := r) (m := m.erase x) hn'.2 fun y hy => by
      have hne : y ≠ x := fun e => hn'.1 (e ▸ hy)
      exact (List.mem_erase_of_ne hne).mpr (hs y (List.mem_cons_of_mem _ hy))
    rw [List.length_erase_of_mem hx] at h2
    have := List.length_pos_of_mem hx
    rw [List.length_cons]
    omega
theorem words_le {ws : List (List Bool)} {n : Nat} (hn : ws.Nodup) (hl : ∀ w ∈ ws, w.length ≤ n) : ws.length + 1 ≤ 2 ^ (n + 1) := by
  have := nodup_le hn fun w hw => mem_allW (hl w hw)
  have := allW_len n
  omega
theorem Ins.len {ss : List Stf} {L : Nat} (hL : ∀ s ∈ ss, s.1.length ≤ L) {l x : List Bool} (h : Ins ss l x) : x.length + 1 ≤ 2 ^ (L + 1) := by
  have := words_le (ws := (List.range x.length).map fun i => U.tl L (l ++ x.take i)) (n := L) (by
    rw [List.nodup_iff_pairwise_ne, List.pairwise_map]
    refine List.Pairwise.imp_of_mem ?_ List.nodup_range
    intro a b ha hb hne e
    have ha' := List.mem_range.mp ha
    have hb' := List.mem_range.mp hb
    exact hne (h.apart hL (Nat.le_of_lt ha') (Nat.le_of_lt hb') e)) (fun w hw => by
      obtain ⟨i, _, rfl⟩ := List.mem_map.mp hw
      exact tl_le _ _)
  rw [List.length_map, List.length_range] at this
  exact this
def SufFree (ss : List Stf) : Prop := ss.Pairwise fun a b => ¬ a.1 <:+ b.1 ∧ ¬ b.1 <:+ a.1
theorem SufFree.ne {ss : List Stf} (h : SufFree ss) {a b : Stf} (ha : a ∈ ss) (hb : b ∈ ss) (n : a ≠ b) : ¬ a.1 <:+ b.1 := by
  unfold SufFree at h
  induction ss with
  | nil => cases ha
  | cons s r ih =>
    obtain ⟨h1, h2⟩ := List.pairwise_cons.mp h
    rcases List.mem_cons.mp ha with ea | ha'
    · rcases List.mem_cons.mp hb with eb | hb'
      · exact absurd (ea.trans eb.symm) n
      · rw [ea]; exact (h1 _ hb').1
    · rcases List.mem_cons.mp hb with eb | hb'
      · rw [eb]; exact (h1 _ ha').2
      · exact ih h2 ha' hb'
theorem put_iff {ss : List Stf} (h : SufFree ss) {l : List Bool} {b : Bool} : putM ss l = some b ↔ ∃ p, (p, b) ∈ ss ∧ p <:+ l := by
  unfold putM
  constructor
  · intro e
    obtain ⟨s, hs, rfl⟩ := Option.map_eq_some_iff.mp e
    exact ⟨s.1, List.mem_of_find?_eq_some hs, List.isSuffixOf_iff_suffix.mp (List.find?_some (p := fun s : Stf => s.1.isSuffixOf l) hs)⟩
  · rintro ⟨p, hm, hp⟩
    cases e : ss.find? fun s => s.1.isSuffixOf l with
    | none =>
      have := List.find?_eq_none.mp e _ hm
      exact absurd (List.isSuffixOf_iff_suffix.mpr hp) this
    | some s =>
      have hs := List.mem_of_find?_eq_some e
      have hq : s.1 <:+ l := List.isSuffixOf_iff_suffix.mp (List.find?_some (p := fun s : Stf => s.1.isSuffixOf l) e)
      by_cases n : s = (p, b)
      · rw [n]; rfl
      · rcases List.suffix_or_suffix_of_suffix hq hp with z | z
        · exact absurd z (h.ne hs hm n)
        · exact absurd z (h.ne hm hs (Ne.symm n))
theorem SufFree.perm {ss ts : List Stf} (h : SufFree ss) (p : ss.Perm ts) : SufFree ts := by
  unfold SufFree at h ⊢
  exact (List.Perm.pairwise_iff (fun ⟨a, b⟩ => ⟨b, a⟩) p).mp h
theorem put_perm {ss ts : List Stf} (h : SufFree ss) (p : ss.Perm ts) (l : List Bool) : putM ss l = putM ts l := by
  refine Option.ext fun b => ?_
  rw [put_iff h, put_iff (h.perm p)]
  constructor
  · rintro ⟨q, hm, hq⟩; exact ⟨q, p.mem_iff.mp hm, hq⟩
  · rintro ⟨q, hm, hq⟩; exact ⟨q, p.mem_iff.mpr hm, hq⟩
theorem Ins.congr {ss ts : List Stf} (h : ∀ l, putM ss l = putM ts l) {l x : List Bool} (i : Ins ss l x) : Ins ts l x := by
  induction i with
  | stop e => exact .stop (by rw [← h]; exact e)
  | more e _ ih => exact .more (by rw [← h]; exact e) ih
theorem Reach.congr {ss ts : List Stf} (h : ∀ l, putM ss l = putM ts l) {l : List Bool} (r : Reach ss l) : Reach ts l := by
  induction r with
  | nil => exact .nil
  | next _ i ih => exact .next ih (i.congr h)
theorem OkR.congr {ss ts : List Stf} (h : ∀ l, putM ss l = putM ts l) (o : OkR ss) : OkR ts := fun l r b => by
  obtain ⟨x, hx⟩ := o l (r.congr fun l => (h l).symm) b
  exact ⟨x, hx.congr h⟩
def stP (ss : List Stf) (l : List Bool) : List Bool := match putM ss l with
  | none => l
  | some b => l ++ [b]
def itP (ss : List Stf) : Nat → List Bool → List Bool
  | 0, l => l
  | n + 1, l => itP ss n (stP ss l)
theorem itP_succ (ss : List Stf) : ∀ (n : Nat) (l : List Bool), itP ss (n + 1) l = stP ss (itP ss n l)
  | 0, _ => rfl
  | n + 1, l => itP_succ ss n (stP ss l)
theorem itP_stop {ss : List Stf} {l : List Bool} (h : putM ss l = none) : ∀ n, itP ss n l = l
  | 0 => rfl
  | n + 1 => by
    show itP ss n (stP ss l) = l
    have e : stP ss l = l := by unfold stP; rw [h]
    rw [e, itP_stop h n]
theorem itP_add (ss : List Stf) : ∀ (i j : Nat) (l : List Bool), itP ss (i + j) l = itP ss j (itP ss i l)
  | 0, j, l => by rw [Nat.zero_add]; rfl
  | i + 1, j, l => by rw [show i + 1 + j = (i + j) + 1 by omega]; exact itP_add ss i j (stP ss l)
theorem itP_rest {ss : List Stf} {i n : Nat} {l : List Bool} (h : putM ss (itP ss i l) = none) (hi : i ≤ n) : itP ss n l = itP ss i l := by
  rw [show n = i + (n - i) by omega, itP_add, itP_stop h]
theorem itP_or (ss : List Stf) : ∀ (n : Nat) (l : List Bool), (itP ss n l).length = l.length + n ∨ ∃ x, Ins ss l x ∧ itP ss n l = l ++ x
  | 0, l => .inl rfl
  | n + 1, l => by
    cases e : putM ss l with
    | none => exact .inr ⟨[], .stop e, by rw [itP_stop e, List.append_nil]⟩
    | some b =>
      have es : stP ss l = l ++ [b] := by unfold stP; rw [e]
      show (itP ss n (stP ss l)).length = _ ∨ ∃ x, Ins ss l x ∧ itP ss n (stP ss l) = l ++ x
      rw [es]
      rcases itP_or ss n (l ++ [b]) with h | ⟨x, h1, h2⟩
      · left; rw [h, List.length_append, List.length_cons, List.length_nil]; omega
      · exact .inr ⟨b :: x, .more e h1, by rw [h2, List.append_assoc]; rfl⟩
theorem itP_le (ss : List Stf) : ∀ (n : Nat) (l : List Bool), l.length ≤ (itP ss n l).length ∧ (itP ss n l).length ≤ l.length + n
  | 0, l => ⟨Nat.le_refl _, Nat.le_refl _⟩
  | n + 1, l => by
    have h := itP_le ss n (stP ss l)
    have e : l.length ≤ (stP ss l).length ∧ (stP ss l).length ≤ l.length + 1 := by
      unfold stP
      cases putM ss l with
      | none => exact ⟨Nat.le_refl _, Nat.le_succ _⟩
      | some b => show l.length ≤ (l ++ [b]).length ∧ (l ++ [b]).length ≤ _; rw [List.length_append, List.length_cons, List.length_nil]; omega
    show l.length ≤ (itP ss n (stP ss l)).length ∧ (itP ss n (stP ss l)).length ≤ _
    omega
theorem okS_of {ss : List Stf} (kn : List (List Bool)) (hL : ∀ s ∈ ss, s.1.length ≤ 5) (h0 : [] ∈ kn) (hc : ∀ w ∈ kn, ∀ b, (itP ss 24 (w ++ [b])).length ≤ w.length + 20 ∧ tl 5 (itP ss 24 (w ++ [b])) ∈ kn) : OkS ss := by
  have hx : ∀ w ∈ kn, ∀ b, ∃ x, Ins ss (w ++ [b]) x ∧ tl 5 (w ++ [b] ++ x) ∈ kn ∧ x.length ≤ 19 := fun w hw b => by
    obtain ⟨h1, h2⟩ := hc w hw b
    rcases itP_or ss 24 (w ++ [b]) with h | ⟨x, hi, e⟩
    · rw [h, List.length_append, List.length_cons, List.length_nil] at h1; omega
    · rw [e] at h2 h1; exact ⟨x, hi, h2, by rw [List.length_append, List.length_append, List.length_cons, List.length_nil] at h1; omega⟩
  have hr : ∀ l, Reach ss l → ∃ w ∈ kn, tl 5 w = tl 5 l := fun l r => by
    induction r with
    | nil => exact ⟨[], h0, rfl⟩
    | @next l x b r i ih =>
      obtain ⟨w, hw, e⟩ := ih
      obtain ⟨y, hy, hm, _⟩ := hx w hw b
      have e2 := tl_snoc (b := b) e
      have ey := (hy.tl hL e2).det i
      subst ey
      exact ⟨_, hm, by rw [tl_tl (Nat.le_refl 5)]; exact tl_app e2 y⟩
  intro l r b
  obtain ⟨w, hw, e⟩ := hr l r
  obtain ⟨y, hy, _, h19⟩ := hx w hw b
  exact ⟨y, hy.tl hL (tl_snoc e), h19⟩
theorem okS_dec {ss : List Stf} (hL : (ss.all fun s => decide (s.1.length ≤ 5)) = true) (h : ((allW 5).all fun w => [false, true].all fun b => decide ((itP ss 24 (w ++ [b])).length ≤ w.length + 20)) = true) : OkS ss := by
  refine okS_of (allW 5) (fun s hs => of_decide_eq_true (List.all_eq_true.mp hL s hs)) (mem_allW (by decide)) fun w hw b => ⟨?_, mem_allW (tl_le _ _)⟩
  have := List.all_eq_true.mp (List.all_eq_true.mp h w hw) b (by cases b <;> decide)
  exact of_decide_eq_true this
theorem okS_11 : OkS [([true, true], false)] := okS_dec (by decide +kernel) (by decide +kernel)
theorem okS_001 : OkS [([false, false, true], true)] := okS_dec (by decide +kernel) (by decide +kernel)
theorem okS_1 : OkS [([true], false)] := okS_dec (by decide +kernel) (by decide +kernel)
theorem okS_00 : OkS [([false, false], true)] := okS_dec (by decide +kernel) (by decide +kernel)
theorem okS_nil : OkS [] := okS_dec (by decide +kernel) (by decide +kernel)
theorem okR_nil : OkR [] := okS_nil.ok
theorem OkN.congr {n : Nat} {ss ts : List Stf} (h : ∀ l, putM ss l = putM ts l) (o : OkN n ss) : OkN n ts := fun l r b => by
  obtain ⟨x, hx, hl⟩ := o l (r.congr fun l => (h l).symm) b
  exact ⟨x, hx.congr h, hl⟩
inductive Body (ss : List Stf) : List Bool → List Bool → Prop
  | nil : Body ss [] []
  | snoc {m l x : List Bool} {b : Bool} : Body ss m l → Ins ss (l ++ [b]) x → Body ss (m ++ [b]) (l ++ [b] ++ x)
theorem Body.reach {ss : List Stf} {m l : List Bool} (h : Body ss m l) : Reach ss l := by
  induction h with
  | nil => exact .nil
  | snoc _ i ih => exact .next ih i
theorem Body.congr {ss ts : List Stf} (h : ∀ l, putM ss l = putM ts l) {m l : List Bool} (b : Body ss m l) : Body ts m l := by
  induction b with
  | nil => exact .nil
  | snoc _ i ih => exact .snoc ih (i.congr h)
theorem body_steps {N : Nat} {ss : List Stf} (o : OkN N ss) (m : List Bool) : ∃ f : Nat → List Bool, f 0 = [] ∧ (∀ i b, m[i]? = some b → ∃ x, Ins ss (f i ++ [b]) x ∧ x.length ≤ N ∧ f (i + 1) = f i ++ [b] ++ x) ∧ (∀ i, i ≤ m.length → Body ss (m.take i) (f i) ∧ (f i).length ≤ (N + 1) * i) := by
  have step : ∀ (n : Nat) (hn : n ≤ m.length), ∃ f : Nat → List Bool, f 0 = [] ∧ (∀ i b, i < n → m[i]? = some b → ∃ x, Ins ss (f i ++ [b]) x ∧ x.length ≤ N ∧ f (i + 1) = f i ++ [b] ++ x) ∧ (∀ i, i ≤ n → Body ss (m.take i) (f i) ∧ (f i).length ≤ (N + 1) * i) := by
    intro n
    induction n with
    | zero => exact fun _ => ⟨fun _ => [], rfl, fun i b h => absurd h (Nat.not_lt_zero _), fun i h => by rw [Nat.le_zero.mp h, List.take_zero]; exact ⟨.nil, Nat.le_refl _⟩⟩
    | succ n ih =>
      intro hn
      obtain ⟨f, h0, h1, h2⟩ := ih (by omega)
      have hb : m[n]? = some m[n] := List.getElem?_eq_getElem (by omega)
      obtain ⟨hB, hl⟩ := h2 n (Nat.le_refl _)
      obtain ⟨x, hx, hx19⟩ := o (f n) hB.reach m[n]
      refine ⟨fun i => if i = n + 1 then f n ++ [m[n]] ++ x else f i, ?_, fun i b hi hb' => ?_, fun i hi => ?_⟩
      · show (if 0 = n + 1 then _ else f 0) = []
        rw [if_neg (by omega), h0]
      · show ∃ y, Ins ss ((if i = n + 1 then _ else f i) ++ [b]) y ∧ _ ∧ (if i + 1 = n + 1 then f n ++ [m[n]] ++ x else f (i + 1)) = (if i = n + 1 then f n ++ [m[n]] ++ x else f i) ++ [b] ++ y
        rw [if_neg (show ¬ i = n + 1 by omega)]
        by_cases e : i = n
        · subst e
          rw [hb] at hb'
          cases hb'
          rw [if_pos rfl]
          exact ⟨x, hx, hx19, rfl⟩
        · rw [if_neg (by omega)]
          exact h1 i b (by omega) hb'
      · show Body ss (m.take i) (if i = n + 1 then _ else f i) ∧ (if i = n + 1 then f n ++ [m[n]] ++ x else f i).length ≤ (N + 1) * i
        by_cases e : i = n + 1
        · subst e
          rw [if_pos rfl, List.take_add_one, hb]
          refine ⟨.snoc hB hx, ?_⟩
          rw [List.length_append, List.length_append, List.length_cons, List.length_nil, Nat.mul_add]
          omega
        · rw [if_neg e]
          exact h2 i (by omega)
  obtain ⟨f, h0, h1, h2⟩ := step m.length (Nat.le_refl _)
  exact ⟨f, h0, fun i b hb => h1 i b (List.getElem?_eq_some_iff.mp hb).1 hb, h2⟩
theorem Ins.itP {ss : List Stf} {l x : List Bool} (h : Ins ss l x) : ∀ n, itP ss n l = l ++ x.take n := by
  induction h with
  | stop h => intro n; rw [itP_stop h, List.take_nil, List.append_nil]
  | @more l x b h _ ih =>
    intro n
    cases n with
    | zero => rw [List.take_zero, List.append_nil]; rfl
    | succ n =>
      have es : stP ss l = l ++ [b] := by unfold stP; rw [h]
      show U.itP ss n (stP ss l) = _
      rw [es, ih n, List.append_assoc]
      rfl
theorem ins_of_itP {ss : List Stf} {l y : List Bool} {j : Nat} (h : itP ss j l = l ++ y) (hn : putM ss (l ++ y) = none) (hj : y.length = j) : Ins ss l y := by
  rcases itP_or ss (j + 1) l with c | ⟨x, hx, e⟩
  · rw [itP_succ, h] at c
    unfold stP at c
    rw [hn] at c
    have c' : (l ++ y).length = l.length + (j + 1) := c
    rw [List.length_append] at c'
    omega
  · rw [itP_succ, h] at e
    unfold stP at e
    rw [hn] at e
    have e' : l ++ y = l ++ x := e
    rw [List.append_cancel_left e']
    exact hx
def bodyF (ss : List Stf) (m : List Bool) : List Bool := m.foldl (fun l b => itP ss 40 (l ++ [b])) []
theorem Body.isF {ss : List Stf} (o : OkN 39 ss) {m l : List Bool} (h : Body ss m l) : l = bodyF ss m := by
  induction h with
  | nil => rfl
  | @snoc m l x b hb hi ih =>
    obtain ⟨y, hy, h39⟩ := o l hb.reach b
    have e := hi.det hy
    subst e
    unfold bodyF
    rw [List.foldl_append]
    show _ = itP ss 40 (bodyF ss m ++ [b])
    rw [← ih, hi.itP, List.take_of_length_le (by omega)]
theorem body_ex {ss : List Stf} (o : OkN 39 ss) (m : List Bool) : Body ss m (bodyF ss m) := by
  obtain ⟨f, _, _, h⟩ := body_steps o m
  have := (h m.length (Nat.le_refl _)).1
  rw [List.take_length] at this
  rw [← this.isF o]
  exact this
end U
set_option maxRecDepth 100000
set_option maxHeartbeats 4000000
namespace U
open PySem PySem.Spec PyProof.Rows L2
def top (i : Nat) : Stmt := PySem.Challenge.pw_unseenflips_k04_texts_of_no_rule.main.body.getD i (.Pass ⟨0, 0, 0, 0⟩)
abbrev s_wall : Stmt := top 0
abbrev s_InvalidRule_init : Stmt := inClass (top 3) 0
abbrev s_InvalidText_init : Stmt := inClass (top 4) 0
abbrev s_is_sequence : Stmt := top 7
abbrev s_is_word : Stmt := top 8
abbrev s_is_bit : Stmt := top 9
abbrev s_tail : Stmt := top 10
abbrev s_is_stuff : Stmt := top 12
abbrev s_are_stuffs : Stmt := top 13
abbrev s_stuff_in : Stmt := top 14
abbrev s_Rule_init : Stmt := inClass (top 15) 0
abbrev s_Rule_read : Stmt := inClass (top 15) 1
abbrev s_Rule_longest : Stmt := inClass (top 15) 2
abbrev s_Rule_swapped : Stmt := inClass (top 15) 3
abbrev s_Rule_put : Stmt := inClass (top 15) 4
abbrev s_Rule_put_in : Stmt := inClass (top 15) 5
abbrev s_Rule_is_endless : Stmt := inClass (top 15) 6
abbrev s_Rule_len : Stmt := inClass (top 15) 7
abbrev s_Rule_iter : Stmt := inClass (top 15) 8
abbrev s_Rule_eq : Stmt := inClass (top 15) 9
abbrev s_Rule_str : Stmt := inClass (top 15) 10
abbrev s_l_seed : Stmt := top 17
abbrev s_l_choose : Stmt := top 18
abbrev s_l_one_of : Stmt := top 19
abbrev s_l_word : Stmt := top 20
abbrev s_l_put : Stmt := top 21
abbrev s_l_is_rule : Stmt := top 22
abbrev s_l_rule : Stmt := top 23
abbrev s_l_made : Stmt := top 24
abbrev s_l_leaf : Stmt := top 25
abbrev s_l_any : Stmt := top 26
abbrev s_l_is_bits : Stmt := top 27
abbrev s_l_is_form : Stmt := top 28
abbrev s_l_heard : Stmt := top 29
abbrev s_l_bent : Stmt := top 30
abbrev s_law : Stmt := top 31
structure Tx (mg : Str → Option Value) : Prop where
  b_len : mg "len" = none
  b_abs : mg "abs" = none
  b_int : mg "int" = none
  b_range : mg "range" = none
  b_max : mg "max" = none
  b_min : mg "min" = none
  b_enumerate : mg "enumerate" = none
  b_zip : mg "zip" = none
  b_dict : mg "dict" = none
  b_list : mg "list" = none
  b_tuple : mg "tuple" = none
  b_isinstance : mg "isinstance" = none
  b_bool : mg "bool" = none
  b_str : mg "str" = none
  b_all : mg "all" = none
  b_any : mg "any" = none
  b_sum : mg "sum" = none
  b_sorted : mg "sorted" = none
  b_repr : mg "repr" = none
end U
set_option maxRecDepth 100000
set_option maxHeartbeats 4000000
namespace U
open PySem PySem.Spec PyProof.Rows
open L2 hiding Fun CX0 E0 pass0 Fun.binds
open C8 Lx
local macro_rules | `(tactic| walk_at "g") => `(tactic| repeat (first | (refine ⟨_, rfl, ?_⟩) | (refine ⟨_, _, rfl, rfl, ?_⟩) | (refine ⟨rfl, ?_⟩) | (refine .inl ⟨_, rfl, ?_⟩)))
def Box (H : Hp) (b : Addr) : Prop := ∃ x y : Int, H b = some (.lst [.int x, .int y])
def Up (b : Addr) (H H' : Hp) : Prop := (∀ c o, H c = some o → c ≠ b → H' c = some o) ∧ Box H' b
theorem Box.same {b : Addr} {H H' : Hp} (h : Box H b) (y : Same H H') : Box H' b := by obtain ⟨i, j, e⟩ := h; exact ⟨i, j, y _ _ e⟩
theorem Up.refl {b : Addr} {H : Hp} (h : Box H b) : Up b H H := ⟨fun _ _ e _ => e, h⟩
theorem Up.trans {b : Addr} {H H1 H2 : Hp} (x : Up b H H1) (y : Up b H1 H2) : Up b H H2 := ⟨fun c o e n => y.1 c o (x.1 c o e n) n, y.2⟩
theorem Up.same {b : Addr} {H H1 H2 : Hp} (x : Up b H H1) (y : Same H1 H2) : Up b H H2 := ⟨fun c o e n => y c o (x.1 c o e n), x.2.same y⟩
theorem Up.of_same {b : Addr} {H H2 : Hp} (h : Box H b) (y : Same H H2) : Up b H H2 := (Up.refl h).same y
theorem same_upd {H : Hp} {p : Addr} {o : HO} (h : H p = none) : Same H (upd H p o) := fun b x e => by
  rw [upd_ne (ne_of_none e h)]
  exact e
theorem same_mut' {H H1 : Hp} {p : Addr} {o : HO} (s : Same H H1) (n : H p = none) : Same H (upd H1 p o) := fun c u e => by
  rw [upd_ne (ne_of_none e n)]
  exact s _ _ e
theorem Box.ne {H : Hp} {b p : Addr} (h : Box H b) (n : H p = none) : p ≠ b := by
  obtain ⟨i, j, e⟩ := h
  intro z
  rw [z, e] at n
  cases n
theorem Box.neT {H : Hp} {b p : Addr} {xs : List V} (h : Box H b) (n : H p = some (.tup xs)) : p ≠ b := by
  obtain ⟨i, j, e⟩ := h
  intro z
  rw [z, e] at n
  cases n
theorem Up.mut {b : Addr} {H H1 : Hp} {p : Addr} {o : HO} (x : Up b H H1) (h : H p = none) (n : p ≠ b) : Up b H (upd H1 p o) :=
  ⟨fun c u e nc => by rw [upd_ne (ne_of_none e h)]; exact x.1 c u e nc, by obtain ⟨i, j, e⟩ := x.2; exact ⟨i, j, by rw [upd_ne (Ne.symm n)]; exact e⟩⟩
theorem Up.free {b : Addr} {H H1 : Hp} {p : Addr} (x : Up b H H1) (h : H1 p = none) : H p = none := by
  cases e : H p with
  | none => rfl
  | some o =>
    by_cases n : p = b
    · obtain ⟨i, j, e2⟩ := x.2
      rw [n, e2] at h
      cases h
    · rw [x.1 p o e n] at h
      cases h
def NL (H H' : Hp) : Prop := ∀ c o, H c = some o → (∀ xs, o ≠ .lst xs) → H' c = some o
theorem NL.refl (H : Hp) : NL H H := fun _ _ e _ => e
theorem NL.trans {H H1 H2 : Hp} (a : NL H H1) (b : NL H1 H2) : NL H H2 := fun c o e n => b c o (a c o e n) n
theorem NL.of {H H' : Hp} (s : Same H H') : NL H H' := fun c o e _ => s c o e
theorem Up.nl {b : Addr} {H H' : Hp} (hb : Box H b) (u : Up b H H') : NL H H' := fun c o e n => u.1 c o e fun z => by
  obtain ⟨i, j, hb⟩ := hb
  rw [z, hb] at e
  exact n _ (Option.some.inj e).symm
theorem nl_upd {H : Hp} {q : Addr} {xs : List V} {o : HO} (h : H q = some (.lst xs)) : NL H (upd H q o) := fun c u e n => by
  have nq : c ≠ q := fun z => by
    rw [z, h] at e
    exact n _ (Option.some.inj e).symm
  rw [upd_ne nq]
  exact e
theorem NL.tup {H H' : Hp} {a : Addr} {xs : List V} (n : NL H H') (h : H a = some (.tup xs)) : H' a = some (.tup xs) := n _ _ h fun _ z => by cases z
theorem NL.ins {H H' : Hp} {a C dx : Addr} {fs : List (Str × V)} (n : NL H H') (h : H a = some (.ins C dx fs)) : H' a = some (.ins C dx fs) := n _ _ h fun _ z => by cases z
def spSeed (K : PySem.W.Frag) : Sp := fun vs H Q _ => ∃ (a : Addr) (ns : List Int) (k : Nat), vs = [.ref a, .int k] ∧ SqL K H a (ns.map V.int) ∧
  ∀ p H', H p = none → Same H H' → Box H' p → Q (.ref p) H'
def spChoose : Sp := fun vs H Q _ => ∃ (b : Addr) (m : Int), vs = [.ref b, .int m] ∧ Box H b ∧ 0 < m ∧ m < 1073741824 ∧
  ∀ (d : Int) H', 0 ≤ d → d < m → Up b H H' → Q (.int d) H'
def spOneOf : Sp := fun vs H Q _ => ∃ (b l : Addr) (xs : List V), vs = [.ref b, .ref l] ∧ Box H b ∧ H l = some (.lst xs) ∧ l ≠ b ∧ 0 < xs.length ∧ xs.length < 1000 ∧
  ∀ (v : V) H', v ∈ xs → Up b H H' → Q v H'
theorem cell_at {ns : List Int} {k : Int} (h0 : 0 ≤ k) (h1 : k < ns.length) : ∃ z, atI (ns.map V.int) k = some (V.int z) := by
  obtain ⟨j, rfl⟩ := Int.eq_ofNat_of_zero_le h0
  have h2 : j < ns.length := by omega
  exact ⟨ns[j], atI_nat (by simp [h2])⟩
section
variable {P : Program} {w : World} {K : PySem.W.Frag} {mg : Str → Option Value} {base : Heap}
theorem sc_l_choose : FnScope ["_law_box", "_law_many", "_law_digit", "_law_raw"] ["_law_box", "_law_many"] (fnScope s_l_choose) := fnScope_by (by decide +kernel)
theorem cal_l_choose {f : Addr} {fd : FuncData} (F : Def K mg "_law_choose" s_l_choose f fd) (b : Binds K fd ["_law_box", "_law_many"] []) (T : Tx mg) : Cal P w K mg base 1 "_law_choose" spChoose [] := by
  refine cal0 F b .nil sc_l_choose (fun vs H Q E h => ?_) (fun cdv A outer s H vs Q E hr h => ?_)
  · obtain ⟨_, _, rfl, _⟩ := h; rfl
  · obtain ⟨bx, m, rfl, ⟨x, y, hb⟩, m0, m1, k⟩ := h
    refine ⟨_, (pss_cons (ps_if (pt_cmpR op_gt (pe_ix ix_list (pv 0) pe_int (fun _ _ => rfl)) pe_int (nomark _)) (pss_cons (ps_set (i := 2) sc_l_choose.nd rfl (.inl rfl) (pe_op op_mod (pe_callTy call_int1 (by rfl) T.b_int (by decide +kernel) (pa_cons (pe_ix ix_list (pv 0) pe_int (fun _ _ => rfl)) pa_nil)) (pv 1)))
    (pss_cons (ps_asg (pe_op op_fdiv (pe_ix ix_list (pv 0) pe_int (fun _ _ => rfl)) (pv 1)) (pg_sub (pv 0) pe_int set_list))
    (pss_one (ps_ret (pv 2))))) pss_nil)
    (pss_cons (ps_set (i := 3) sc_l_choose.nd rfl (.inl rfl) (pe_op op_mod (pe_callTy call_int1 (by rfl) T.b_int (by decide +kernel) (pa_cons (pe_op op_add (pe_op op_mul (pe_ix ix_list (pv 0) pe_int (fun _ _ => rfl)) pe_int) pe_int) pa_nil)) pe_int))
    (pss_cons (ps_asg (pe_op op_add (pe_op op_mod (pe_callTy call_int1 (by rfl) T.b_int (by decide +kernel) (pa_cons (pe_op op_add (pe_op op_mul (pv 3) pe_int) pe_int) pa_nil)) pe_int) pe_int) (pg_sub (pv 0) pe_int set_list))
    (pss_one (ps_ret (pe_op op_mod (pe_callTy call_int1 (by rfl) T.b_int (by decide +kernel) (pa_cons (pe_op op_fdiv (pe_op op_add (pe_op op_mul (pv 3) pe_int) (pe_ix ix_list (pv 0) pe_int (fun _ _ => rfl))) pe_int) pa_nil)) (pv 1))))))), ?_⟩
    have up : ∀ x' y' : Int, Up bx H (upd H bx (.lst [.int x', .int y'])) := fun x' y' => ⟨fun c o e n => by rw [upd_ne n]; exact e, _, _, upd_same⟩
    refine ⟨_, rfl, bx, _, _, _, rfl, rfl, SqL.of hb, atI_nat (j := 0) rfl, _, _, rfl, rfl, _, rfl, ?_⟩
    refine ite2 (fun h1 => ?_) (fun h1 => ?_)
    · refine ⟨_, rfl, bx, _, _, _, rfl, rfl, SqL.of hb, atI_nat (j := 0) rfl, .inl ⟨_, rfl, _, rfl, _, _, rfl, rfl, m0, ?_⟩⟩
      refine ⟨_, rfl, bx, _, _, _, rfl, rfl, SqL.of hb, atI_nat (j := 0) rfl, _, rfl, _, _, rfl, rfl, ⟨m0, m1⟩, _, rfl, bx, _, _, 0, rfl, rfl, hb, rfl, ?_⟩
      exact ⟨_, rfl, k _ _ (Int.emod_nonneg _ (by omega)) (Int.emod_lt_of_pos _ m0) (up _ _)⟩
    · refine ⟨_, rfl, bx, _, _, _, rfl, rfl, SqL.of hb, atI_nat (j := 1) rfl, _, _, rfl, rfl, .inr ⟨by decide, by decide⟩, _, _, rfl, rfl, .inl ⟨_, rfl, _, _, rfl, rfl, (by show (0 : Int) < 2147483563; decide), ?_⟩⟩
      refine ⟨_, rfl, _, _, rfl, rfl, .inr ⟨by decide, by decide⟩, _, _, rfl, rfl, .inl ⟨_, rfl, _, _, rfl, rfl, (by show (0 : Int) < 2147483629; decide), _, _, rfl, rfl, _, rfl, bx, _, _, 1, rfl, rfl, hb, rfl, ?_⟩⟩
      refine ⟨_, rfl, _, _, rfl, rfl, .inr ⟨by decide, by decide⟩, _, rfl, bx, _, _, _, rfl, rfl, SqL.of upd_same, atI_nat (j := 1) rfl, _, _, rfl, rfl, _, _, rfl, rfl, ⟨by decide, by decide⟩, .inl ⟨_, rfl, _, rfl, _, _, rfl, rfl, m0, ?_⟩⟩
      exact k _ _ (Int.emod_nonneg _ (by omega)) (Int.emod_lt_of_pos _ m0) (up _ _)
theorem sc_l_seed : FnScope ["_law_script", "_law_k", "_law_cell"] ["_law_script", "_law_k"] (fnScope s_l_seed) := fnScope_by (by decide +kernel)
theorem cal_l_seed {f : Addr} {fd : FuncData} (F : Def K mg "_law_seed" s_l_seed f fd) (b : Binds K fd ["_law_script", "_law_k"] []) (T : Tx mg) : Cal P w K mg base 1 "_law_seed" (spSeed K) [] := by
  refine cal0 F b .nil sc_l_seed (fun vs H Q E h => ?_) (fun cdv A outer s H vs Q E hr h => ?_)
  · obtain ⟨_, _, _, rfl, _⟩ := h; rfl
  · obtain ⟨a, ns, n, rfl, hS, k⟩ := h
    refine ⟨_, (pss_cons (ps_set (i := 2) sc_l_seed.nd rfl (.inl rfl) (pe_op op_add (pe_op op_mul pe_int (pv 1)) pe_int))
    (pss_cons (ps_if (pt_cmpR op_lt (pv 1) (pe_callB call_len_seq (by rfl) T.b_len (by decide +kernel) (pa_cons (pv 0) pa_nil)) (nomark _)) (pss_one (ps_set (i := 2) sc_l_seed.nd rfl (.inl rfl) (pe_callB call_abs (by rfl) T.b_abs (by decide +kernel) (pa_cons (pe_ix ix_list (pv 0) (pv 1) (fun _ _ => rfl)) pa_nil)))) (pss_one (ps_if (pt_cmpR op_gt (pe_callB call_len_seq (by rfl) T.b_len (by decide +kernel) (pa_cons (pv 0) pa_nil)) pe_int (nomark _)) (pss_one (ps_set (i := 2) sc_l_seed.nd rfl (.inl rfl) (pe_op op_add (pv 2) (pe_op op_mul (pe_op op_mod (pe_callTy call_int1 (by rfl) T.b_int (by decide +kernel) (pa_cons (pe_callB call_abs (by rfl) T.b_abs (by decide +kernel) (pa_cons (pe_ix ix_list (pv 0) (pe_op op_mod (pe_callTy call_int1 (by rfl) T.b_int (by decide +kernel) (pa_cons (pv 1) pa_nil)) (pe_callB call_len_seq (by rfl) T.b_len (by decide +kernel) (pa_cons (pv 0) pa_nil))) (fun _ _ => rfl)) pa_nil)) pa_nil)) pe_int) pe_int)))) pss_nil)))
    (pss_one (ps_ret (pe_lst (pa_cons (pe_ifExp (pt_cmpR op_ge (pv 2) (pe_op op_pow pe_int pe_int) (nomark _)) (pv 2) pe_int) (pa_cons (pe_op op_add (pe_op op_mod (pe_callTy call_int1 (by rfl) T.b_int (by decide +kernel) (pa_cons (pe_op op_add (pe_op op_mul (pe_op op_mod (pe_callTy call_int1 (by rfl) T.b_int (by decide +kernel) (pa_cons (pv 2) pa_nil)) pe_int) pe_int) (pe_op op_mul pe_int (pv 1))) pa_nil)) pe_int) pe_int) pa_nil))))))), ?_⟩
    have fin : ∀ z : Int, tRet (tLst (tCons (tIf (tTest (tOp (rI0 fun i j => V.bl (decide (j ≤ i))) (tVar 2) (tOp (rI CPow fun i j => V.int (i ^ j.toNat)) (tC (V.int 10)) (tC (V.int 18))))) (tVar 2) (tC (V.int 0))) (tCons (tOp (rI0 fun i j => V.int (i + j)) (tOp (rI (fun _ j => 0 < j) fun i j => V.int (i % j)) (tCB (fun xs H Q => (∃ i, xs = [V.int i] ∧ Q (V.int i) H) ∨ ∃ k, xs = [V.bl k] ∧ Q (V.int (if k = true then 1 else 0)) H) (tCons (tOp (rI0 fun i j => V.int (i + j)) (tOp (rI CMul fun i j => V.int (i * j)) (tOp (rI (fun _ j => 0 < j) fun i j => V.int (i % j)) (tCB (fun xs H Q => (∃ i, xs = [V.int i] ∧ Q (V.int i) H) ∨ ∃ k, xs = [V.bl k] ∧ Q (V.int (if k = true then 1 else 0)) H) (tCons (tVar 2) tNil)) (tC (V.int 2147483629))) (tC (V.int 48271))) (tOp (rI CMul fun i j => V.int (i * j)) (tC (V.int 39019)) (tVar 1))) tNil)) (tC (V.int 2147483629))) (tC (V.int 1))) tNil))) { nx := fun _ H' => Q .non H', rt := Q } [some (.ref a), some (.int n), some (.int z)] H := by
      intro z
      refine ⟨_, rfl, _, _, rfl, rfl, ⟨by decide, by decide, by decide⟩, _, _, rfl, rfl, _, rfl, ?_⟩
      refine ite2 (fun h1 => ?_) (fun h1 => ?_)
      all_goals
        first
          | refine ⟨_, rfl, _, rfl, .inl ⟨_, rfl, _, _, rfl, rfl, (by show (0 : Int) < 2147483629; decide), _, _, rfl, rfl, .inr ⟨by decide, by decide⟩, _, rfl, _, _, rfl, rfl, .inl ⟨by decide, by decide⟩, _, _, rfl, rfl, .inl ⟨_, rfl, _, _, rfl, rfl, (by show (0 : Int) < 2147483629; decide), _, _, rfl, rfl, ?_⟩⟩⟩
          | refine ⟨_, rfl, .inl ⟨_, rfl, _, _, rfl, rfl, (by show (0 : Int) < 2147483629; decide), _, _, rfl, rfl, .inr ⟨by decide, by decide⟩, _, rfl, _, _, rfl, rfl, .inl ⟨by decide, by decide⟩, _, _, rfl, rfl, .inl ⟨_, rfl, _, _, rfl, rfl, (by show (0 : Int) < 2147483629; decide), _, _, rfl, rfl, ?_⟩⟩⟩
        exact ⟨by show 2 ≤ sizeLine; decide, fun p hp => k p _ hp (same_upd hp) ⟨_, _, upd_same⟩⟩
    refine ⟨_, rfl, _, _, rfl, rfl, .inl ⟨by decide, by decide⟩, _, _, rfl, rfl, ?_⟩
    refine ⟨_, rfl, _, rfl, a, _, rfl, .inl hS, _, _, rfl, rfl, _, rfl, ?_⟩
    refine ite2 (fun h1 => ?_) (fun h1 => ?_)
    · have h2 : (n : Int) < ((ns.map V.int).length : Int) := of_decide_eq_true h1
      rw [List.length_map] at h2
      obtain ⟨z, hz⟩ := cell_at (ns := ns) (by omega : (0 : Int) ≤ n) h2
      refine ⟨_, rfl, _, rfl, a, _, _, _, rfl, rfl, hS, hz, _, rfl, ?_⟩
      exact fin _
    · refine ⟨_, rfl, a, _, rfl, .inl hS, _, _, rfl, rfl, _, rfl, ?_⟩
      refine ite2 (fun h3 => ?_) (fun h3 => ?_)
      · have h4 : (0 : Int) < ((ns.map V.int).length : Int) := of_decide_eq_true h3
        have h5 := h4
        rw [List.length_map] at h5
        obtain ⟨z, hz⟩ := cell_at (ns := ns) (k := (n : Int) % ((ns.map V.int).length : Int)) (Int.emod_nonneg _ (by omega)) (by have := Int.emod_lt_of_pos (n : Int) h4; rw [List.length_map] at this ⊢; exact this)
        refine ⟨_, rfl, _, rfl, _, rfl, .inl ⟨_, rfl, _, rfl, a, _, rfl, .inl hS, _, _, rfl, rfl, h4, a, _, _, _, rfl, rfl, hS, hz, _, rfl, .inl ⟨_, rfl, _, _, rfl, rfl, (by show (0 : Int) < 2147483629; decide), _, _, rfl, rfl, .inr ⟨by decide, by decide⟩, _, _, rfl, rfl, ?_⟩⟩⟩
        exact fin _
      · exact fin _
theorem sc_l_one_of : FnScope ["_law_box", "_law_some"] ["_law_box", "_law_some"] (fnScope s_l_one_of) := fnScope_by (by decide +kernel)
theorem cal_l_one_of {f : Addr} {fd : FuncData} (F : Def K mg "_law_one_of" s_l_one_of f fd) (b : Binds K fd ["_law_box", "_law_some"] []) (T : Tx mg) (c_l_choose : Cal P w K mg base 1 "_law_choose" spChoose []) : Cal P w K mg base 2 "_law_one_of" spOneOf [] := by
  refine cal0 F b .nil sc_l_one_of (fun vs H Q E h => ?_) (fun cdv A outer s H vs Q E hr h => ?_)
  · obtain ⟨_, _, _, rfl, _⟩ := h; rfl
  · obtain ⟨bx, l, xs, rfl, hb, hl, nl, x0, x1, k⟩ := h
    refine ⟨_, (pss_one (ps_ret (pe_ix ix_list (pv 1) (pe_c c_l_choose hr (by decide) rfl (pa_cons (pv 0) (pa_cons (pe_callB call_len_seq (by rfl) T.b_len (by decide +kernel) (pa_cons (pv 1) pa_nil)) pa_nil))) (fun _ _ => rfl)))), ?_⟩
    refine ⟨_, rfl, _, rfl, _, rfl, l, _, rfl, .inl (SqL.of hl), bx, _, rfl, hb, by omega, by omega, fun d H' d0 d1 u => ?_⟩
    obtain ⟨j, rfl⟩ := Int.eq_ofNat_of_zero_le d0
    have hj : j < xs.length := by omega
    have g : xs[j]? = some xs[j] := by simp [hj]
    exact ⟨l, xs, _, xs[j], rfl, rfl, SqL.of (u.1 l _ hl nl), atI_nat g, k _ _ (List.getElem_mem hj) u⟩
end
end U
set_option maxRecDepth 100000
set_option maxHeartbeats 4000000
namespace U
open PySem PySem.Spec PyProof.Rows
open L2 hiding Fun CX0 E0 pass0 Fun.binds
open C8 Lx SX
def isW (z : Str) : Bool := z.cps.toList.all fun c => decide (c ∈ ("01" : Str).cps.toList)
theorem isW_W (l : List Bool) : isW (W l) = true := by
  unfold isW
  rw [W_tl, List.all_map, List.all_eq_true]
  intro b _
  cases b <;> decide +kernel
def spIsWord (K : PySem.W.Frag) : Sp := fun vs H Q _ => ∃ x, vs = [x] ∧ ((∃ z : Str, x = .str z ∧ z.length ≤ 100000 ∧ ∀ H', Same H H' → Q (.bl (isW z)) H') ∨
  (∃ t, TyX K H x t ∧ PySem.W.kitOne K t (.type "str") = some false ∧ Q (.bl false) H))
theorem spIsWord.word {K : PySem.W.Frag} {H : Hp} {Q : VK} {E : XK} {l : List Bool} (hl : l.length ≤ 100000) (k : ∀ H', Same H H' → Q (.bl true) H') : spIsWord K [.str (W l)] H Q E :=
  ⟨_, rfl, .inl ⟨_, rfl, by rw [W_len]; exact hl, fun H' s => by rw [isW_W]; exact k H' s⟩⟩
section
variable {P : Program} {w : World} {K : PySem.W.Frag} {mg : Str → Option Value} {base : Heap}
theorem sc_is_word : FnScope ["value", "sign"] ["value"] (fnScope s_is_word) := fnScope_by (by decide +kernel)
theorem cal_is_word {f : Addr} {fd : FuncData} {tB : Tok} (F : Def K mg "is_word" s_is_word f fd) (b : Binds K fd ["value"] []) (T : Tx mg) (g_BITS : mg "BITS" = some (.str "01" tB)) : Cal P w K mg base 1 "is_word" (spIsWord K) [] := by
  refine cal0 F b .nil sc_is_word (fun vs H Q E h => ?_) (fun cdv A outer s H vs Q E hr h => ?_)
  · obtain ⟨_, rfl, _⟩ := h; rfl
  · obtain ⟨_, rfl, h⟩ := h
    refine ⟨_, (pss_one (ps_ret (pe_and (pe_callB call_isi (by rfl) T.b_isinstance (by decide +kernel) (pa_cons (pv 0) (pa_cons (pe_bltn (v := .ty "str") (u := .type "str") (by rfl) T.b_str (by decide +kernel) rfl) pa_nil))) (pe_one (pe_callB (cr_all rfl) (by rfl) T.b_all (by decide +kernel) (pa_cons (pe_lc (own := [("sign", 1)]) (g := gName 1) (by rfl) sc_is_word.nd (pi_str (pv 0)) (blkOk_by (own := [("sign", 1)]) (N := ["value", "sign"]) (sc := fnScope s_is_word) (by decide +kernel)) (fun _ _ _ _ _ => (pg_name (i := 1) sc_is_word.nd rfl (.inl rfl))) (fun _ _ _ _ _ => pts_nil) (fun _ _ _ _ _ => (pe_cmpR op_in_sign (pv 1) (pe_glob (v := .str "01") (by rfl) g_BITS ⟨_, rfl⟩) (by with_unfolding_all rfl)))) pa_nil)))))), ?_⟩
    rcases h with ⟨z, rfl, hz, k⟩ | ⟨t, ht, hk, k⟩
    · refine ⟨_, rfl, _, _, _, _, true, rfl, .ty _, .base (.str z), kit_ty (by decide +kernel), _, rfl, ?_⟩
      refine ⟨_, rfl, z, rfl, fun D nD => ?_⟩
      refine lc_it walk_str (fun i H2 => Same H H2 ∧ H2 D = some (.lst (((z.cps.toList.take i).map fun c => decide (c ∈ ("01" : Str).cps.toList)).map V.bl))) ⟨same_upd nD, upd_same⟩ (fun _ _ _ _ => trivial) ?_ ?_
      · rintro i x H2 H3 hi ⟨s2, hD⟩ ⟨rfl, c, hc, rfl⟩
        refine ⟨rfl, ?_⟩
        refine ⟨_, rfl, c, _, rfl, rfl, _, hD, ?_, ?_, ?_⟩
        · rw [List.length_map, List.length_map, List.length_take]
          have e : z.length = z.cps.toList.length := TL.len_tl z
          exact sl_lt (by have : z.cps.size = z.cps.toList.length := by simp
                          omega)
        · intro c' o e
          rw [upd_ne (ne_of_none e nD)]
          exact s2 _ _ e
        · have hc' : z.cps.toList[i]? = some c := by rw [Array.getElem?_toList]; exact hc
          rw [upd_same, List.take_add_one, hc']
          simp
      · rintro H2 ⟨s2, hD⟩
        have e : z.cps.toList.take z.cps.size = z.cps.toList := List.take_of_length_le (by simp)
        rw [e] at hD
        refine ⟨D, _, rfl, SqL.of hD, ?_⟩
        have e2 : (List.map (fun c => decide (c ∈ ("01" : Str).cps.toList)) z.cps.toList).all id = isW z := by
          unfold isW
          rw [List.all_map]
          rfl
        rw [e2]
        exact k H2 s2
    · exact ⟨_, rfl, _, _, _, _, false, rfl, .ty _, ht, hk, _, rfl, k⟩
end
end U
set_option maxRecDepth 100000
set_option maxHeartbeats 4000000
namespace U
open PySem PySem.Spec PyProof.Rows
open L2 hiding Fun CX0 E0 pass0 Fun.binds
open C8 Lx SX
def AnyS (K : PySem.W.Frag) (H : Hp) (x : V) : Prop := (∃ z : Str, x = .str z ∧ z.length ≤ 10000 ∧ PyData.strOk z = true) ∨ ((∀ z, x ≠ .str z) ∧ ∃ t, PySem.W.kitOne K t (.type "str") = some false ∧ ∀ H', Same H H' → TyX K H' x t)
theorem AnyS.same {K : PySem.W.Frag} {H H' : Hp} {x : V} (h : AnyS K H x) (s : Same H H') : AnyS K H' x := by
  rcases h with h | ⟨h1, t, h2, h3⟩
  · exact .inl h
  · exact .inr ⟨h1, t, h2, fun H2 s2 => h3 H2 (s.trans s2)⟩
def AnyU (K : PySem.W.Frag) (b : Addr) (H : Hp) (x : V) : Prop := ∀ H', Up b H H' → AnyS K H' x
theorem AnyU.up {K : PySem.W.Frag} {b : Addr} {H H' : Hp} {x : V} (h : AnyU K b H x) (u : Up b H H') : AnyU K b H' x := fun H2 u2 => h H2 (u.trans u2)
theorem AnyU.now {K : PySem.W.Frag} {b : Addr} {H : Hp} {x : V} (h : AnyU K b H x) (hb : Box H b) : AnyS K H x := h H (Up.refl hb)
theorem anyS_str {K : PySem.W.Frag} {H : Hp} {z : Str} (h : z.length ≤ 10000) (o : PyData.strOk z = true) : AnyS K H (.str z) := .inl ⟨z, rfl, h, o⟩
theorem anyS_non {K : PySem.W.Frag} {H : Hp} : AnyS K H .non := .inr ⟨(fun _ z => by cases z), _, kit_ty (by decide +kernel), fun _ _ => .base .non⟩
theorem anyS_bl {K : PySem.W.Frag} {H : Hp} (x : Bool) : AnyS K H (.bl x) := .inr ⟨(fun _ z => by cases z), _, kit_ty (by decide +kernel), fun _ _ => .base (.bl x)⟩
theorem anyS_int {K : PySem.W.Frag} {H : Hp} (i : Int) : AnyS K H (.int i) := .inr ⟨(fun _ z => by cases z), _, kit_ty (by decide +kernel), fun _ _ => .base (.int i)⟩
theorem anyS_lst {K : PySem.W.Frag} {H : Hp} {a : Addr} {xs : List V} (e : H a = some (.lst xs)) : AnyS K H (.ref a) := .inr ⟨(fun _ z => by cases z), _, kit_ty (by decide +kernel), fun _ s => .base (.lst (s _ _ e))⟩
theorem anyS_tup {K : PySem.W.Frag} {H : Hp} {a : Addr} {xs : List V} (e : H a = some (.tup xs)) : AnyS K H (.ref a) := .inr ⟨(fun _ z => by cases z), _, kit_ty (by decide +kernel), fun _ s => .base (.tup (s _ _ e))⟩
theorem anyU_str {K : PySem.W.Frag} {b : Addr} {H : Hp} {z : Str} (h : z.length ≤ 10000) (o : PyData.strOk z = true) : AnyU K b H (.str z) := fun _ _ => anyS_str h o
theorem anyU_lst {K : PySem.W.Frag} {b : Addr} {H : Hp} {a : Addr} {xs : List V} (e : H a = some (.lst xs)) (n : a ≠ b) : AnyU K b H (.ref a) := fun _ u => anyS_lst (u.1 _ _ e n)
theorem anyU_tup {K : PySem.W.Frag} {b : Addr} {H : Hp} {a : Addr} {xs : List V} (hb : Box H b) (e : H a = some (.tup xs)) : AnyU K b H (.ref a) := fun _ u => anyS_tup (u.1 _ _ e (hb.neT e))
def wordB : V → Bool
  | .str z => isW z
  | _ => false
theorem AnyS.no {K : PySem.W.Frag} {H : Hp} {x : V} (h : ∀ z, x ≠ .str z) : wordB x = false := by
  unfold wordB
  split
  · exact absurd rfl (h _)
  · rfl
theorem spIsWord.any {K : PySem.W.Frag} {H : Hp} {Q : VK} {E : XK} {x : V} (h : AnyS K H x) (k : ∀ H', Same H H' → Q (.bl (wordB x)) H') : spIsWord K [x] H Q E := by
  rcases h with ⟨z, rfl, hz, _⟩ | ⟨h1, t, h2, h3⟩
  · exact ⟨_, rfl, .inl ⟨z, rfl, by omega, k⟩⟩
  · refine ⟨_, rfl, .inr ⟨t, h3 H (Same.refl H), h2, ?_⟩⟩
    have := k H (Same.refl H)
    rw [AnyS.no (K := K) (H := H) h1] at this
    exact this
def unW (z : Str) : List Bool := z.cps.toList.map fun c => decide (c = 49)
theorem isW_un {z : Str} (h : isW z = true) : z = W (unW z) := by
  refine TL.ext_tl ?_
  have e : TL.tl (W (unW z)) = (unW z).map bt := W_tl _
  rw [e]
  unfold unW
  rw [List.map_map]
  unfold isW at h
  rw [List.all_eq_true] at h
  have e2 : TL.tl z = z.cps.toList := rfl
  rw [e2]
  have key : ∀ l : List Nat, (∀ c ∈ l, decide (c ∈ ("01" : Str).cps.toList) = true) → l = l.map (bt ∘ fun c => decide (c = 49)) := fun l => by
    induction l with
    | nil => intro _; rfl
    | cons c r ih =>
      intro hl
      rw [List.map_cons, ← ih fun u hu => hl u (List.mem_cons_of_mem _ hu)]
      have hc := of_decide_eq_true (hl c List.mem_cons_self)
      have e0 : ("01" : Str).cps.toList = [48, 49] := by decide +kernel
      rw [e0] at hc
      congr 1
      rcases List.mem_cons.mp hc with rfl | hc
      · rfl
      · rw [List.mem_singleton.mp hc]; rfl
  exact key _ h
theorem wordB_W {l : List Bool} : wordB (.str (W l)) = true := isW_W l
theorem wordB_some {x : V} (h : wordB x = true) : ∃ l, x = .str (W l) := by
  unfold wordB at h
  split at h
  · rename_i z
    exact ⟨unW z, by rw [← isW_un h]⟩
  · cases h
end U
set_option maxRecDepth 100000
set_option maxHeartbeats 4000000
namespace Lx
open PySem PySem.Spec PyProof.Rows L2
theorem Sq.of_same {K : PySem.W.Frag} {H H' : Hp} {a : Addr} {xs : List V} (h : Sq K H a xs) (e : Same H H') : Sq K H' a xs := h.same e
theorem iSeq_var {K : PySem.W.Frag} {i : Nat} {σ : L2.St} {H : Hp} {R : It → Hp → Prop} {a : Addr} {xs : List V} (hv : σ[i]? = some (some (.ref a))) (hS : Sq K H a xs)
    (h : ∀ (J : It) (G : Hp → Prop), (∀ H', Same H H' → G H') → Walk J xs.length G (YAt xs) → R J H) : iSeq K (tVar i) σ H R := by
  rcases hS with hS | hS
  · exact .inl ⟨_, hv, a, rfl, ⟨xs, hS⟩, h _ _ (fun H' s => s.seq hS) walk_list⟩
  · exact .inr ⟨_, hv, a, rfl, ⟨xs, hS⟩, h _ _ (fun H' s => same_tup s hS) walk_tup⟩
theorem iEnumQ_var {K : PySem.W.Frag} {i : Nat} {σ : L2.St} {H : Hp} {R : It → Hp → Prop} {a : Addr} {xs : List V} (hv : σ[i]? = some (some (.ref a))) (hS : Sq K H a xs)
    (h : ∀ (J : It) (G : Hp → Prop), (∀ H', Same H H' → G H') → Walk J xs.length G (YPair (fun i => some (.int (i : Nat))) (fun i => xs[i]?)) → R J H) : iEnumQ K (tCons (tVar i) tNil) σ H R := by
  rcases hS with hS | hS
  · exact .inl ⟨_, hv, a, xs, rfl, hS, h _ _ (fun H' s => s.seq hS) walk_enum⟩
  · exact .inr ⟨_, hv, a, xs, rfl, hS, h _ _ (fun H' s => same_tup s hS) walk_enumT⟩
theorem cut_whole {xs : List V} {lo hi : Option Int} (h1 : HT.sIx xs.length 0 lo = 0) (h2 : HT.sIx xs.length xs.length hi = xs.length) : cutV xs lo hi = xs := by
  unfold cutV
  rw [h1, h2, List.drop_zero, Nat.sub_zero, List.take_length]
theorem slQ_of {K : PySem.W.Frag} {H : Hp} {Q : VK} {a : Addr} {xs : List V} {lo hi : Option Int} (hS : Sq K H a xs) (h : ∀ p H', Same H H' → Sq K H' p (cutV xs lo hi) → Q (.ref p) H') : rSlL K (.ref a) lo hi H Q ∨ rSlA K (.ref a) lo hi H Q := by
  rcases hS with hS | hS
  · exact .inl ⟨a, xs, rfl, hS, fun p hp => h p _ (fun b x e => by rw [upd_ne (ne_of_none e hp)]; exact e) (.inl (SqL.of upd_same))⟩
  · refine .inr ⟨a, xs, rfl, hS, fun c => h a H (Same.refl H) ?_, fun _ p hp => h p _ (fun b x e => by rw [upd_ne (ne_of_none e hp)]; exact e) (.inr (SqT.of upd_same))⟩
    rw [cut_whole c.1 c.2]
    exact .inr hS
theorem Sq.star {K : PySem.W.Frag} {H : Hp} {a : Addr} {xs : List V} (h : Sq K H a xs) : SqT K H a xs ∨ SqL K H a xs := h.elim .inr .inl
end Lx
namespace U
open PySem PySem.Spec PyProof.Rows
open L2 hiding Fun CX0 E0 pass0 Fun.binds
open C8 Lx SX StX
theorem W_ends (l p : List Bool) : Txt.endswith (W l) (W p) = p.isSuffixOf l := by
  unfold Txt.endswith
  rw [PySem.StrLaws.subAt_eq, W_len, W_len, W_tl, W_tl, ← List.map_drop, ← List.map_take, Bool.eq_iff_iff, List.isSuffixOf_iff_suffix, Bool.and_eq_true, decide_eq_true_eq, beq_iff_eq]
  constructor
  · rintro ⟨h1, h2⟩
    have h3 := map_bt_inj h2
    rw [List.take_of_length_le (by rw [List.length_drop]; omega)] at h3
    rw [← h3]
    exact List.drop_suffix _ _
  · intro h
    have hl := h.length_le
    refine ⟨by omega, ?_⟩
    rw [List.take_of_length_le (by rw [List.length_drop]; omega), ← List.suffix_iff_eq_drop.mp h]
theorem W_tail (l : List Bool) (n : Nat) : Txt.slice (W l) (some (if (((W l).length : Nat) : Int) - (n : Int) > 0 then (((W l).length : Nat) : Int) - (n : Int) else 0)) none = W (tl n l) := by
  rw [W_drop (by split <;> omega)]
  congr 1
  unfold tl
  rw [W_len]
  congr 1
  split <;> omega
def StV (H : Hp) (kb : Addr → Stf) (ps : List Addr) : Prop := ∀ t ∈ ps, H t = some (.tup [.str (W (kb t).1), .str (W [(kb t).2])])
theorem StV.same {H H' : Hp} {kb : Addr → Stf} {ps : List Addr} (h : StV H kb ps) (e : Same H H') : StV H' kb ps := fun t ht => e _ _ (h t ht)
theorem StV.nl {H H' : Hp} {kb : Addr → Stf} {ps : List Addr} (h : StV H kb ps) (e : NL H H') : StV H' kb ps := fun t ht => e.tup (h t ht)
theorem StV.perm {H : Hp} {kb : Addr → Stf} {ps qs : List Addr} (h : StV H kb ps) (p : qs.Perm ps) : StV H kb qs := fun t ht => h t (p.mem_iff.mp ht)
def ruF (f : List Bool) (t : Addr) : List (Str × V) := putF "stuffs" (.ref t) (putF "flag" (.str (W f)) [])
theorem fs_ne : ¬ (("flag" : Str) = "stuffs") := by decide +kernel
theorem ruF_flag (f : List Bool) (t : Addr) : (ruF f t).lookup ("flag" : Str) = some (.str (W f)) := by
  unfold ruF
  rw [lookup_putF, if_neg fs_ne, lookup_putF, if_pos rfl]
theorem ruF_stuffs (f : List Bool) (t : Addr) : (ruF f t).lookup ("stuffs" : Str) = some (.ref t) := by
  unfold ruF
  rw [lookup_putF, if_pos rfl]
theorem ruF_no (f : List Bool) (t : Addr) {m : Str} (h1 : ¬ m = "stuffs") (h2 : ¬ m = "flag") : (ruF f t).lookup m = none := by
  unfold ruF
  rw [lookup_putF, if_neg h1, lookup_putF, if_neg h2]
  all_goals rfl
def RuAt (C : Addr) (H : Hp) (a : Addr) (f : List Bool) (ss : List Stf) : Prop :=
  ∃ dx t ps kb, H a = some (.ins C dx (ruF f t)) ∧ H t = some (.tup (ps.map V.ref)) ∧ StV H kb ps ∧ ss = ps.map kb
theorem RuAt.same {C : Addr} {H H' : Hp} {a : Addr} {f : List Bool} {ss : List Stf} (h : RuAt C H a f ss) (e : Same H H') : RuAt C H' a f ss := by
  obtain ⟨dx, t, ps, kb, h1, h2, h3, h4⟩ := h
  exact ⟨dx, t, ps, kb, e _ _ h1, e _ _ h2, h3.same e, h4⟩
theorem RuAt.nl {C : Addr} {H H' : Hp} {a : Addr} {f : List Bool} {ss : List Stf} (h : RuAt C H a f ss) (e : NL H H') : RuAt C H' a f ss := by
  obtain ⟨dx, t, ps, kb, h1, h2, h3, h4⟩ := h
  exact ⟨dx, t, ps, kb, e.ins h1, e.tup h2, h3.nl e, h4⟩
def longM (ss : List Stf) : Nat := ss.foldr (fun s m => max s.1.length m) 0
theorem longM_le : ∀ {ss : List Stf} {s : Stf}, s ∈ ss → s.1.length ≤ longM ss
  | x :: r, s, h => by
    show s.1.length ≤ max x.1.length (longM r)
    rcases List.mem_cons.mp h with e | h
    · rw [e]; omega
    · have := longM_le h; omega
theorem longM_max : ∀ {ss : List Stf} {n : Nat}, (∀ s ∈ ss, s.1.length ≤ n) → longM ss ≤ n
  | [], _, _ => Nat.zero_le _
  | x :: r, n, h => by
    have := longM_max (ss := r) fun s hs => h s (List.mem_cons_of_mem _ hs)
    have := h x List.mem_cons_self
    show max x.1.length (longM r) ≤ n
    omega
theorem longM_perm {ss ts : List Stf} (p : ss.Perm ts) : longM ss = longM ts :=
  Nat.le_antisymm (longM_max fun s hs => longM_le (p.mem_iff.mp hs)) (longM_max fun s hs => longM_le (p.mem_iff.mpr hs))
theorem longM_is {ss : List Stf} {m : Int} (hm : m ∈ (0 : Int) :: ss.map fun s => (s.1.length : Int)) (hx : ∀ y ∈ (0 : Int) :: ss.map fun s => (s.1.length : Int), y ≤ m) : m = (longM ss : Nat) := by
  have h0 := hx 0 List.mem_cons_self
  have h1 : longM ss ≤ m.toNat := longM_max fun s hs => by
    have := hx _ (List.mem_cons_of_mem _ (List.mem_map_of_mem (f := fun s : Stf => (s.1.length : Int)) hs))
    omega
  rcases List.mem_cons.mp hm with e | h
  · omega
  · obtain ⟨s, hs, rfl⟩ := List.mem_map.mp h
    have := longM_le hs
    omega
def oB : Option Bool → V
  | none => .non
  | some b => .str (W [b])
theorem oB_non (o : Option Bool) : decide (oB o = .non) = o.isNone := by
  cases o with
  | none => exact decide_eq_true rfl
  | some b => exact decide_eq_false (fun z => by cases z)
structure RuT (K : PySem.W.Frag) (C : Addr) : Prop where
  cl : Cls K C
  nF : NoAttr K C "flag"
  nS : NoAttr K C "stuffs"
def spIsSeq (K : PySem.W.Frag) : Sp := fun vs H Q _ => ∃ a xs, vs = [.ref a] ∧ Sq K H a xs ∧ ∀ H', Same H H' → Q (.bl true) H'
def spIsBit : Sp := fun vs H Q _ => ∃ b, vs = [.str (W [b])] ∧ ∀ H', Same H H' → Q (.bl true) H'
def spIsStuff : Sp := fun vs H Q _ => ∃ (t : Addr) (p : List Bool) (b : Bool), vs = [.ref t] ∧ H t = some (.tup [.str (W p), .str (W [b])]) ∧ p ≠ [] ∧ p.length ≤ 1000 ∧ ∀ H', Same H H' → Q (.bl true) H'
def spTail : Sp := fun vs H Q _ => ∃ (l : List Bool) (n : Nat), vs = [.str (W l), .int n] ∧ l.length ≤ 100000 ∧ Q (.str (W (tl n l))) H
def spLongest (C : Addr) : Sp := fun vs H Q _ => ∃ (a : Addr) (f : List Bool) (ss : List Stf), vs = [.ref a] ∧ RuAt C H a f ss ∧ ss.length ≤ 1000 ∧ (∀ s ∈ ss, s.1.length ≤ 1000) ∧ ∀ H', Same H H' → Q (.int (longM ss : Nat)) H'
def spPut (C : Addr) : Sp := fun vs H Q _ => ∃ (a : Addr) (f : List Bool) (ss : List Stf) (l : List Bool), vs = [.ref a, .str (W l)] ∧ RuAt C H a f ss ∧ ∀ H', Same H H' → Q (oB (putM ss l)) H'
section
variable {P : Program} {w : World} {K : PySem.W.Frag} {mg : Str → Option Value} {base : Heap}
theorem sc_is_sequence : FnScope ["value"] ["value"] (fnScope s_is_sequence) := fnScope_by (by decide +kernel)
theorem cal_is_sequence {f : Addr} {fd : FuncData} (F : Def K mg "is_sequence" s_is_sequence f fd) (b : Binds K fd ["value"] []) (T : Tx mg) : Cal P w K mg base 1 "is_sequence" (spIsSeq K) [] := by
  refine cal0 F b .nil sc_is_sequence (fun vs H Q E h => ?_) (fun cdv A outer s H vs Q E hr h => ?_)
  · obtain ⟨_, _, rfl, _⟩ := h; rfl
  · obtain ⟨a, xs, rfl, hS, k⟩ := h
    refine ⟨_, (pss_one (ps_ret (pe_callB call_isiT (by rfl) T.b_isinstance (by decide +kernel) (pa_cons (pv 0) (pa_cons (pe_tup (pa_cons (pe_bltn (v := .ty "list") (u := .type "list") (by rfl) T.b_list (by decide +kernel) rfl) (pa_cons (pe_bltn (v := .ty "tuple") (u := .type "tuple") (by rfl) T.b_tuple (by decide +kernel) rfl) pa_nil))) pa_nil))))), ?_⟩
    refine ⟨_, rfl, by show 2 ≤ sizeLine; decide, fun tp htp => ?_⟩
    have hS' := hS.same (same_upd (o := .tup [.ty "list", .ty "tuple"]) htp)
    rcases hS' with hS' | hS'
    · exact ⟨_, tp, _, _, _, true, rfl, upd_same, .cons (.ty _) (.cons (.ty _) .nil), ty_list hS', by first | exact kit_any (by decide +kernel) | rfl | decide +kernel, k _ (same_upd htp)⟩
    · exact ⟨_, tp, _, _, _, true, rfl, upd_same, .cons (.ty _) (.cons (.ty _) .nil), ty_tup hS', by first | exact kit_any (by decide +kernel) | rfl | decide +kernel, k _ (same_upd htp)⟩
theorem sc_is_bit : FnScope ["value"] ["value"] (fnScope s_is_bit) := fnScope_by (by decide +kernel)
theorem cal_is_bit {f : Addr} {fd : FuncData} (F : Def K mg "is_bit" s_is_bit f fd) (b : Binds K fd ["value"] []) (T : Tx mg) (c_is_word : Cal P w K mg base 1 "is_word" (spIsWord K) []) : Cal P w K mg base 2 "is_bit" spIsBit [] := by
  refine cal0 F b .nil sc_is_bit (fun vs H Q E h => ?_) (fun cdv A outer s H vs Q E hr h => ?_)
  · obtain ⟨_, rfl, _⟩ := h; rfl
  · obtain ⟨x, rfl, k⟩ := h
    refine ⟨_, (pss_one (ps_ret (pe_and (pe_c c_is_word hr (by decide) rfl (pa_cons (pv 0) pa_nil)) (pe_one (pe_cmpR op_eq (pe_callB call_len_str (by rfl) T.b_len (by decide +kernel) (pa_cons (pv 0) pa_nil)) pe_int (nomark _)))))), ?_⟩
    have l1 : (W [x]).length = 1 := W_len _
    refine ⟨_, rfl, _, rfl, .inl ⟨_, rfl, by rw [l1]; decide, fun H1 s1 => ⟨_, rfl, iteBT (isW_W _) ?_⟩⟩⟩
    refine ⟨_, rfl, _, rfl, by rw [l1]; decide, ?_⟩
    rw [l1]
    exact ⟨rfl, q_dec (Q := Q) rfl (k H1 s1)⟩
theorem sc_is_stuff : FnScope ["value"] ["value"] (fnScope s_is_stuff) := fnScope_by (by decide +kernel)
theorem cal_is_stuff {f : Addr} {fd : FuncData} (F : Def K mg "is_stuff" s_is_stuff f fd) (b : Binds K fd ["value"] []) (T : Tx mg) (c_is_word : Cal P w K mg base 1 "is_word" (spIsWord K) []) (c_is_bit : Cal P w K mg base 2 "is_bit" spIsBit []) : Cal P w K mg base 3 "is_stuff" spIsStuff [] := by
  refine cal0 F b .nil sc_is_stuff (fun vs H Q E h => ?_) (fun cdv A outer s H vs Q E hr h => ?_)
  · obtain ⟨_, _, _, rfl, _⟩ := h; rfl
  · obtain ⟨t, p, x, rfl, ht, hp, hl, k⟩ := h
    refine ⟨_, (pss_cons (ps_if (PW.pt (pw_or (pt_not (pt_val (pe_callB call_isi (by rfl) T.b_isinstance (by decide +kernel) (pa_cons (pv 0) (pa_cons (pe_bltn (v := .ty "tuple") (u := .type "tuple") (by rfl) T.b_tuple (by decide +kernel) rfl) pa_nil))))) (pw_or1 (pt_cmpR op_ne (pe_callB call_len_seq (by rfl) T.b_len (by decide +kernel) (pa_cons (pv 0) pa_nil)) pe_int (nomark _))))) (pss_one (ps_ret pe_bl)) pss_nil)
    (pss_one (ps_ret (pe_and (pe_c c_is_word hr (by decide) rfl (pa_cons (pe_ix ix_tup (pv 0) pe_int (fun _ _ => rfl)) pa_nil)) (pe_and (pe_cmpR op_gt (pe_callB call_len_str (by rfl) T.b_len (by decide +kernel) (pa_cons (pe_ix ix_tup (pv 0) pe_int (fun _ _ => rfl)) pa_nil)) pe_int (nomark _)) (pe_one (pe_c c_is_bit hr (by decide) rfl (pa_cons (pe_ix ix_tup (pv 0) pe_int (fun _ _ => rfl)) pa_nil)))))))), ?_⟩
    have lp : (W p).length ≤ sizeLine := by rw [W_len]; exact sl_len (by omega)
    refine ⟨_, rfl, _, _, _, _, true, rfl, .ty _, .base (.tup ht), kit_ty (by decide +kernel), _, rfl, ?_⟩
    refine ⟨_, rfl, t, _, rfl, .inr (SqT.of ht), rfl, _, rfl, iteNS rfl ?_⟩
    refine ⟨_, rfl, t, _, 0, _, rfl, rfl, SqT.of ht, rfl, _, rfl, .inl ⟨_, rfl, by rw [W_len]; omega, fun H1 s1 => ⟨_, rfl, iteBT (isW_W _) ?_⟩⟩⟩
    have ht1 := s1 _ _ ht
    refine ⟨_, rfl, t, _, 0, _, rfl, rfl, SqT.of ht1, rfl, _, rfl, lp, ?_⟩
    refine ⟨_, _, rfl, rfl, _, rfl, iteDT ?_ ?_⟩
    · rw [W_len]
      have : p.length ≠ 0 := fun z => hp (List.length_eq_zero_iff.mp z)
      omega
    · refine ⟨_, rfl, t, _, 1, _, rfl, rfl, SqT.of ht1, rfl, x, rfl, fun H2 s2 => k H2 (s1.trans s2)⟩
theorem sc_tail : FnScope ["line", "size"] ["line", "size"] (fnScope s_tail) := fnScope_by (by decide +kernel)
theorem cal_tail {f : Addr} {fd : FuncData} (F : Def K mg "tail" s_tail f fd) (b : Binds K fd ["line", "size"] []) (T : Tx mg) : Cal P w K mg base 1 "tail" spTail [] := by
  refine cal0 F b .nil sc_tail (fun vs H Q E h => ?_) (fun cdv A outer s H vs Q E hr h => ?_)
  · obtain ⟨_, _, rfl, _⟩ := h; rfl
  · obtain ⟨l, n, rfl, hl, k⟩ := h
    refine ⟨_, (pss_one (ps_ret (pe_slice sl_txt (pv 0) (po_some (pe_callB (call_max2 rfl) (by rfl) T.b_max (by decide +kernel) (pa_cons pe_int (pa_cons (pe_op op_sub (pe_callB call_len_str (by rfl) T.b_len (by decide +kernel) (pa_cons (pv 0) pa_nil)) (pv 1)) pa_nil)))) po_none))), ?_⟩
    have lw : (W l).length ≤ sizeLine := by rw [W_len]; exact sl_len (by omega)
    refine ⟨_, rfl, _, rfl, _, rfl, lw, _, rfl, _, _, rfl, rfl, _, _, rfl, _, rfl, _, rfl, lw, ?_⟩
    rw [W_tail]
    exact k
theorem sc_Rule_longest : FnScope ["self", "pattern", "bit"] ["self"] (fnScope s_Rule_longest) := fnScope_by (by decide +kernel)
theorem ok_longest {f C : Addr} {fd : FuncData} (F : C8.Fun K "longest" "Rule.longest" s_Rule_longest f fd) (T : Tx mg) (RT : RuT K C) : FnOk P w K mg base CX0 1 f fd ["self"] (spLongest C) := by
  refine fn0 F sc_Rule_longest (fun vs H Q E h => ?_) (fun cdv A outer s H vs Q E hr h => ?_)
  · obtain ⟨_, _, _, rfl, _⟩ := h; rfl
  · obtain ⟨a, fl, ss, rfl, ⟨dx, t, ps, kb, ha, ht, hs, rfl⟩, hn, hl, k⟩ := h
    refine ⟨_, (pss_one (ps_ret (pe_callB (cr_max rfl) (by rfl) T.b_max (by decide +kernel) (pa_cons (pe_lst (pa_cons pe_int (pa_star (pe_lc (own := [("pattern", 1), ("bit", 2)]) (g := gTup K 2 (gCons (gName 1) (gCons (gName 2) gNil))) (by rfl) sc_Rule_longest.nd (pi_tup (pe_fld (pv 0) rfl)) (blkOk_by (own := [("pattern", 1), ("bit", 2)]) (N := ["self", "pattern", "bit"]) (sc := fnScope s_Rule_longest) (by decide +kernel)) (fun _ _ _ _ _ => (pg_tup rfl (pgs_cons (pg_name (i := 1) sc_Rule_longest.nd rfl (.inl rfl)) (pgs_cons (pg_name (i := 2) sc_Rule_longest.nd rfl (.inl rfl)) pgs_nil)))) (fun _ _ _ _ _ => pts_nil) (fun _ _ _ _ _ => (pe_callB call_len_str (by rfl) T.b_len (by decide +kernel) (pa_cons (pv 1) pa_nil)))) pa_nil))) pa_nil)))), ?_⟩
    refine ⟨_, rfl, a, C, dx, _, _, rfl, ha, RT.cl, RT.nS, ruF_stuffs _ _, t, rfl, ⟨_, SqT.of ht⟩, fun D nD => ?_⟩
    refine lc_it (walk_tup (xs := ps.map V.ref)) (fun i H2 => Same H H2 ∧ H2 D = some (.lst ((((ps.take i).map kb).map fun s => (s.1.length : Int)).map V.int))) ⟨same_upd nD, upd_same⟩ (fun i H2 _ h2 => SqT.of (h2.1 _ _ ht)) ?_ ?_
    · rintro i x H2 H3 hi ⟨s2, hD⟩ ⟨rfl, hx⟩
      rw [List.getElem?_map] at hx
      obtain ⟨q, hq, rfl⟩ := Option.map_eq_some_iff.mp hx
      have hqm : q ∈ ps := List.mem_of_getElem? hq
      have lq : (kb q).1.length ≤ 1000 := hl _ (List.mem_map_of_mem hqm)
      refine ⟨q, _, rfl, SqT.of (s2 _ _ (hs q hqm)), rfl, ?_⟩
      refine ⟨_, _, rfl, _, _, rfl, rfl, rfl, ?_⟩
      refine ⟨_, rfl, _, rfl, by rw [W_len]; exact sl_len (by omega), _, hD, ?_, ?_, ?_⟩
      · rw [List.length_map] at hi
        rw [List.length_map, List.length_map, List.length_map, List.length_take]
        rw [List.length_map] at hn
        exact sl_lt (by omega)
      · intro c' o e
        rw [upd_ne (ne_of_none e nD)]
        exact s2 _ _ e
      · rw [upd_same, List.take_add_one, hq, W_len]
        simp
    · rintro H2 ⟨s2, hD⟩
      rw [List.length_map, List.take_length] at hD
      refine ⟨D, _, rfl, .inr (SqL.of hD), ?_⟩
      have hn' : ps.length ≤ 1000 := by rw [List.length_map] at hn; exact hn
      refine ⟨?_, fun p hp => ?_⟩
      · simp only [List.length_cons, List.length_append, List.length_map, List.length_nil]
        exact sl_len (by omega)
      · refine ⟨p, (0 : Int) :: (ps.map kb).map fun s => (s.1.length : Int), rfl, ?_, by rw [List.length_cons]; omega, fun m hm hx => ?_⟩
        · refine SqL.of (upd_same.trans ?_)
          simp
        · rw [longM_is hm hx]
          exact k _ (s2.trans (same_upd hp))
theorem sc_Rule_put : FnScope ["self", "line", "pattern", "bit"] ["self", "line"] (fnScope s_Rule_put) := fnScope_by (by decide +kernel)
theorem met_put {f C : Addr} {fd : FuncData} (F : C8.Fun K "put" "Rule.put" s_Rule_put f fd) (me : Meth K C "put" f) (b : Binds K fd ["self", "line"] []) (T : Tx mg) (RT : RuT K C) : Met P w K mg base 1 C "put" (spPut C) [] := by
  refine met0 RT.cl me F b sc_Rule_put (fun vs H Q E h => ?_) (fun cdv A outer s H vs Q E hr h => ?_)
  · obtain ⟨_, _, _, _, rfl, _⟩ := h; rfl
  · obtain ⟨a, fl, ss, l, rfl, ⟨dx, t, ps, kb, ha, ht, hs, rfl⟩, k⟩ := h
    refine ⟨_, (pss_cons (ps_for PassesOwn.never rfl (pi_tup (pe_fld (pv 0) rfl)) (pg_tup rfl (pgs_cons (pg_name (i := 2) sc_Rule_put.nd rfl (.inl rfl)) (pgs_cons (pg_name (i := 3) sc_Rule_put.nd rfl (.inl rfl)) pgs_nil)))
    (pss_one (ps_if (pt_val (pe_m1 PySem.F.slot_str_endswith PySem.F.type_str_endswith mt_endswith (pv 1) (pv 2))) (pss_one (ps_ret (pv 3))) pss_nil)))
    (pss_one (ps_ret pe_non))), ?_⟩
    refine ⟨_, rfl, a, C, dx, _, _, rfl, ha, RT.cl, RT.nS, ruF_stuffs _ _, t, rfl, ⟨_, SqT.of ht⟩, ?_⟩
    refine for_it (walk_tup (xs := ps.map V.ref)) (fun i σ H2 => ∃ v2 v3 : Option V, σ = [some (.ref a), some (.str (W l)), v2, v3] ∧ H2 = H ∧ ∀ j q, j < i → ps[j]? = some q → (kb q).1.isSuffixOf l = false) ⟨none, none, rfl, rfl, fun j q hj => absurd hj (Nat.not_lt_zero _)⟩ (fun i σ H2 _ h2 => by obtain ⟨_, _, _, rfl, _⟩ := h2; exact SqT.of ht) ?_ ?_
    · rintro i x σ H2 H3 hi ⟨v2, v3, rfl, rfl, hno⟩ ⟨rfl, hx⟩
      rw [List.getElem?_map] at hx
      obtain ⟨q, hq, rfl⟩ := Option.map_eq_some_iff.mp hx
      have hqm : q ∈ ps := List.mem_of_getElem? hq
      refine ⟨q, _, rfl, SqT.of (hs q hqm), rfl, ?_⟩
      refine ⟨_, _, rfl, _, _, rfl, rfl, ?_⟩
      refine ⟨_, rfl, ⟨_, rfl⟩, _, rfl, _, _, rfl, rfl, _, rfl, ?_⟩
      rw [W_ends]
      cases e : (kb q).1.isSuffixOf l with
      | true =>
        refine ⟨_, rfl, ?_⟩
        have ep : putM (ps.map kb) l = some (kb q).2 := by
          have hf : (ps.map kb).find? (fun s => s.1.isSuffixOf l) = some (kb q) := by
            rw [List.find?_eq_some_iff_getElem]
            have hi' := (List.getElem?_eq_some_iff.mp hq)
            obtain ⟨hi1, hi2⟩ := hi'
            refine ⟨e, i, by rw [List.length_map]; exact hi1, by rw [List.getElem_map, hi2], fun j hj => ?_⟩
            rw [List.getElem_map]
            have := hno j ps[j] hj (List.getElem?_eq_getElem _)
            rw [this]
            rfl
          unfold putM
          rw [hf]
          rfl
        have := k _ (Same.refl _)
        rw [ep] at this
        exact this
      | false =>
        refine ⟨_, _, rfl, rfl, fun j q' hj hq' => ?_⟩
        by_cases ej : j = i
        · subst ej
          rw [hq] at hq'
          cases hq'
          exact e
        · exact hno j q' (by omega) hq'
    · rintro σ H2 ⟨v2, v3, rfl, rfl, hno⟩
      have ep : putM (ps.map kb) l = none := by
        have hf : (ps.map kb).find? (fun s => s.1.isSuffixOf l) = none := by
          rw [List.find?_eq_none]
          intro s hs'
          obtain ⟨q, hq, rfl⟩ := List.mem_map.mp hs'
          obtain ⟨j, hj⟩ := List.getElem?_of_mem hq
          have := hno j q (by rw [List.length_map]; exact (List.getElem?_eq_some_iff.mp hj).1) hj
          rw [this]
          decide
        unfold putM
        rw [hf]
        rfl
      have := k _ (Same.refl _)
      rw [ep] at this
      exact this
end
end U
set_option maxRecDepth 100000
set_option maxHeartbeats 4000000
namespace U
open PySem PySem.Spec PyProof.Rows
open L2 hiding Fun CX0 E0 pass0 Fun.binds
open C8 Lx SX StX
theorem sf_at {ps : List Addr} {kb : Addr → Stf} {i : Nat} {q : Addr} (h : SufFree (ps.map kb)) (hq : ps[i]? = some q) : ∀ q' ∈ ps.take i ++ ps.drop (i + 1), ¬ (kb q').1 <:+ (kb q).1 := by
  obtain ⟨hi, rfl⟩ := List.getElem?_eq_some_iff.mp hq
  have e : ps = ps.take i ++ ps[i] :: ps.drop (i + 1) := by rw [← List.drop_eq_getElem_cons hi, List.take_append_drop]
  unfold SufFree at h
  rw [List.pairwise_map] at h
  generalize ps.take i = A at e ⊢
  generalize ps.drop (i + 1) = B at e ⊢
  generalize ps[i] = q at e ⊢
  rw [e, List.pairwise_append, List.pairwise_cons] at h
  obtain ⟨_, ⟨h2, _⟩, h3⟩ := h
  intro q' hq'
  rcases List.mem_append.mp hq' with m | m
  · exact (h3 q' m q List.mem_cons_self).1
  · exact (h2 q' m).2
theorem cut_to {xs : List V} {i : Nat} (h : i < xs.length) : cutV xs none (some (i : Int)) = xs.take i := by
  unfold cutV
  rw [HT.sIx_none, HT.sIx_nat, List.drop_zero, Nat.sub_zero, Nat.min_eq_left (Nat.le_of_lt h)]
theorem cut_from {xs : List V} {i : Nat} (h : i < xs.length) : cutV xs (some ((i : Int) + 1)) none = xs.drop (i + 1) := by
  unfold cutV
  rw [HT.sIx_none, show ((i : Int) + 1) = ((i + 1 : Nat) : Int) by omega, HT.sIx_nat, Nat.min_eq_left (by omega), List.take_of_length_le (by rw [List.length_drop]; omega)]
structure StOk (ss : List Stf) : Prop where
  few : ss.length ≤ 1000
  pos : ∀ s ∈ ss, s.1 ≠ []
  long : longM ss ≤ 13
  free : SufFree ss
theorem StOk.l9 {ss : List Stf} (h : StOk ss) : ∀ s ∈ ss, s.1.length ≤ 13 := fun s hs => Nat.le_trans (longM_le hs) h.long
theorem StOk.perm {ss ts : List Stf} (h : StOk ss) (p : ss.Perm ts) : StOk ts := ⟨by rw [← p.length_eq]; exact h.few, fun s hs => h.pos s (p.mem_iff.mpr hs), by rw [← longM_perm p]; exact h.long, h.free.perm p⟩
def spAre (K : PySem.W.Frag) : Sp := fun vs H Q _ => ∃ (a : Addr) (ps : List Addr) (kb : Addr → Stf), vs = [.ref a] ∧ Sq K H a (ps.map V.ref) ∧ StV H kb ps ∧ StOk (ps.map kb) ∧ ∀ H', Same H H' → Q (.bl true) H'
def spPutIn (C : Addr) : Sp := fun vs H Q _ => ∃ (a : Addr) (f : List Bool) (ss : List Stf) (l x : List Bool), vs = [.ref a, .str (W l)] ∧ RuAt C H a f ss ∧ ss.length ≤ 1000 ∧ longM ss ≤ 13 ∧ l.length ≤ 50000 ∧ Ins ss l x ∧ ∀ H', Same H H' → Q (.str (W x)) H'
def spEndless (C : Addr) : Sp := fun vs H Q _ => ∃ (a : Addr) (f : List Bool) (ss : List Stf), vs = [.ref a] ∧ RuAt C H a f ss ∧ ss.length ≤ 1000 ∧ longM ss ≤ 13 ∧ OkR ss ∧ ∀ H', Same H H' → Q (.bl false) H'
def kst (ws : List (List Bool)) : List (Key × V) := ws.map fun w => (Sum.inr (W w), V.bl true)
theorem val_in {ws : List (List Bool)} {w : List Bool} (h : w ∈ ws) : valV (kst ws) (Sum.inr (W w)) = some (.bl true) := by
  unfold valV kst
  induction ws with
  | nil => cases h
  | cons x r ih =>
    rw [List.map_cons, List.find?_cons]
    by_cases e : x = w
    · rw [e, decide_eq_true rfl]; rfl
    · rw [decide_eq_false (fun z => e (W_inj (Sum.inr.inj z)))]
      rcases List.mem_cons.mp h with z | h
      · exact absurd z.symm e
      · exact ih h
theorem val_out {ws : List (List Bool)} {w : List Bool} (h : ¬ w ∈ ws) : valV (kst ws) (Sum.inr (W w)) = none := by
  unfold valV kst
  have : (ws.map fun w => ((Sum.inr (W w) : Key), V.bl true)).find? (fun kv => decide (kv.1 = Sum.inr (W w))) = none := by
    rw [List.find?_eq_none]
    intro kv hk
    obtain ⟨x, hx, rfl⟩ := List.mem_map.mp hk
    rw [decide_eq_true_eq]
    intro z
    exact h (W_inj (Sum.inr.inj z) ▸ hx)
  rw [this]
  rfl
theorem put_out {ws : List (List Bool)} {w : List Bool} (h : ¬ w ∈ ws) : putK (kst ws) (Sum.inr (W w)) (.bl true) = kst (ws ++ [w]) := by
  have e : ((kst ws).any fun kv => decide (kv.1 = Sum.inr (W w))) = false := by
    rw [List.any_eq_false]
    intro kv hk
    unfold kst at hk
    obtain ⟨x, hx, rfl⟩ := List.mem_map.mp hk
    rw [decide_eq_true_eq]
    intro z
    exact h (W_inj (Sum.inr.inj z) ▸ hx)
  unfold putK
  rw [e]
  unfold kst
  rw [List.map_append]
  rfl
section
variable {P : Program} {w : World} {K : PySem.W.Frag} {mg : Str → Option Value} {base : Heap}
theorem sc_are_stuffs : FnScope ["value", "one", "at", "stuff", "rest", "pattern", "bit"] ["value"] (fnScope s_are_stuffs) := fnScope_by (by decide +kernel)
theorem cal_are_stuffs {f : Addr} {fd : FuncData} (F : Def K mg "are_stuffs" s_are_stuffs f fd) (b : Binds K fd ["value"] []) (T : Tx mg) (c_is_sequence : Cal P w K mg base 1 "is_sequence" (spIsSeq K) []) (c_is_stuff : Cal P w K mg base 3 "is_stuff" spIsStuff []) : Cal P w K mg base 4 "are_stuffs" (spAre K) [] := by
  refine cal0 F b .nil sc_are_stuffs (fun vs H Q E h => ?_) (fun cdv A outer s H vs Q E hr h => ?_)
  · obtain ⟨_, _, _, rfl, _⟩ := h; rfl
  · obtain ⟨a, ps, kb, rfl, hS, hs, ok, k⟩ := h
    refine ⟨_, (pss_cons (ps_if (PW.pt (pw_or (pt_not (pt_val (pe_c c_is_sequence hr (by decide) rfl (pa_cons (pv 0) pa_nil)))) (pw_or1 (pt_not (pt_val (pe_callB (cr_all rfl) (by rfl) T.b_all (by decide +kernel) (pa_cons (pe_lc (own := [("one", 1)]) (g := gName 1) (by rfl) sc_are_stuffs.nd (pi_seq (pv 0)) (blkOk_by (own := [("one", 1)]) (N := ["value", "one", "at", "stuff", "rest", "pattern", "bit"]) (sc := fnScope s_are_stuffs) (by decide +kernel)) (fun _ _ _ _ _ => (pg_name (i := 1) sc_are_stuffs.nd rfl (.inl rfl))) (fun _ _ _ _ _ => pts_nil) (fun _ _ _ _ _ => (pe_c c_is_stuff hr (by decide) rfl (pa_cons (pv 1) pa_nil)))) pa_nil))))))) (pss_one (ps_ret pe_bl)) pss_nil)
    (pss_cons (ps_for PassesOwn.never rfl (pi_enumQ (by rfl) T.b_enumerate (pa_cons (pv 0) pa_nil)) (pg_tup rfl (pgs_cons (pg_name (i := 2) sc_are_stuffs.nd rfl (.inl rfl)) (pgs_cons (pg_name (i := 3) sc_are_stuffs.nd rfl (.inr rfl)) pgs_nil)))
    (pss_cons (ps_set (i := 4) sc_are_stuffs.nd rfl (.inl rfl) (pe_lst (pa_star (pe_slice (SlR.or sl_list sl_tupA) (pv 0) po_none (po_some (pv 2))) (pa_star (pe_slice (SlR.or sl_list sl_tupA) (pv 0) (po_some (pe_op op_add (pv 2) pe_int)) po_none) pa_nil))))
    (pss_one (ps_if (pt_val (pe_callB (cr_any rfl) (by rfl) T.b_any (by decide +kernel) (pa_cons (pe_lc (own := [("pattern", 5), ("bit", 6)]) (g := gTup K 2 (gCons (gName 5) (gCons (gName 6) gNil))) (by rfl) sc_are_stuffs.nd (pi_list (pv 4)) (blkOk_by (own := [("pattern", 5), ("bit", 6)]) (N := ["value", "one", "at", "stuff", "rest", "pattern", "bit"]) (sc := fnScope s_are_stuffs) (by decide +kernel)) (fun _ _ _ _ _ => (pg_tup rfl (pgs_cons (pg_name (i := 5) sc_are_stuffs.nd rfl (.inl rfl)) (pgs_cons (pg_name (i := 6) sc_are_stuffs.nd rfl (.inl rfl)) pgs_nil)))) (fun _ _ _ _ _ => pts_nil) (fun _ _ _ _ _ => (pe_m1 PySem.F.slot_str_endswith PySem.F.type_str_endswith mt_endswith (pe_ix (show IxR _ (rIxT K) from ix_tup) (pv 3) pe_int (fun _ _ => rfl)) (pv 5)))) pa_nil))) (pss_one (ps_ret pe_bl)) pss_nil))))
    (pss_one (ps_ret pe_bl)))), ?_⟩
    have hn : ps.length ≤ 1000 := by have := ok.few; rw [List.length_map] at this; exact this
    refine ⟨_, rfl, a, _, rfl, hS, fun H1 s1 => ⟨_, rfl, ?_⟩⟩
    have hS1 := hS.same s1
    refine iSeq_var rfl hS1 fun J G hG wk D nD => ?_
    refine lc_it wk (fun i H2 => Same H1 H2 ∧ H2 D = some (.lst ((List.replicate i true).map V.bl))) ⟨same_upd nD, upd_same⟩ (fun i H2 _ h2 => hG _ h2.1) ?_ ?_
    · rintro i x H2 H3 hi ⟨s2, hD⟩ ⟨rfl, hx⟩
      rw [List.getElem?_map] at hx
      obtain ⟨q, hq, rfl⟩ := Option.map_eq_some_iff.mp hx
      have hqm : q ∈ ps := List.mem_of_getElem? hq
      have mk : kb q ∈ ps.map kb := List.mem_map_of_mem hqm
      rw [List.length_map] at hi
      refine ⟨rfl, ?_⟩
      refine ⟨_, rfl, q, (kb q).1, (kb q).2, rfl, (s1.trans s2) _ _ (hs q hqm), ok.pos _ mk, Nat.le_trans (ok.l9 _ mk) (by decide), fun H4 s4 => ⟨_, s4 _ _ hD, ?_, ?_, ?_⟩⟩
      · rw [List.length_map, List.length_replicate]; exact sl_lt (by omega)
      · intro c' o e
        rw [upd_ne (ne_of_none e nD)]
        exact (s2.trans s4) _ _ e
      · rw [upd_same, List.replicate_succ', List.map_append]; rfl
    · rintro H2 ⟨s2, hD⟩
      refine ⟨D, _, rfl, SqL.of hD, _, rfl, ?_⟩
      have et : (List.replicate (ps.map V.ref).length true).all id = true := by simp
      rw [et]
      have hS2 := hS1.same s2
      have s02 := s1.trans s2
      refine iEnumQ_var rfl hS2 fun J G hG wk => ?_
      refine for_it wk (fun i σ H3 => ∃ v1 v2 v3 v4 v5 v6 : Option V, σ = [some (.ref a), v1, v2, v3, v4, v5, v6] ∧ Same H2 H3) ⟨none, none, none, none, none, none, rfl, Same.refl _⟩ (fun i σ H3 _ h3 => by obtain ⟨_, _, _, _, _, _, _, s3⟩ := h3; exact hG _ s3) ?_ ?_
      · rintro i x σ H3 H4 hi ⟨v1, v2, v3, v4, v5, v6, rfl, s3⟩ ⟨T', y1, y2, rfl, nT, rfl, h1, h2⟩
        cases h1
        replace h2 : (ps.map V.ref)[i]? = some y2 := h2
        rw [List.getElem?_map] at h2
        obtain ⟨q, hq, rfl⟩ := Option.map_eq_some_iff.mp h2
        have hqm : q ∈ ps := List.mem_of_getElem? hq
        refine ⟨T', _, rfl, SqT.of upd_same, rfl, _, _, rfl, _, _, rfl, rfl, ?_⟩
        have s4 : Same H2 (upd H3 T' (.tup [.int (i : Nat), .ref q])) := s3.trans (same_upd nT)
        generalize upd H3 T' (.tup [.int (i : Nat), .ref q]) = H4 at s4
        have hS4 := hS2.same s4
        refine ⟨_, rfl, _, rfl, _, rfl, slQ_of hS4 fun p1 H5 s5 h5 => ⟨p1, _, rfl, h5.star, ?_⟩⟩
        refine ⟨_, rfl, _, rfl, _, _, rfl, rfl, _, rfl, slQ_of (hS4.same s5) fun p2 H6 s6 h6 => ⟨p2, _, rfl, h6.star, ?_⟩⟩
        have el : cutV (ps.map V.ref) none (some ((i : Nat) : Int)) ++ (cutV (ps.map V.ref) (some (((i : Nat) : Int) + 1)) none ++ []) = (ps.take i ++ ps.drop (i + 1)).map V.ref := by
          rw [cut_to hi, cut_from hi, List.append_nil, List.map_append, List.map_take, List.map_drop]
        refine ⟨?_, fun R nR => ?_⟩
        · show (cutV (ps.map V.ref) none (some ((i : Nat) : Int)) ++ (cutV (ps.map V.ref) (some (((i : Nat) : Int) + 1)) none ++ [])).length ≤ sizeLine
          rw [el, List.length_map, List.length_append, List.length_take, List.length_drop]
          exact sl_len (by omega)
        · have hR : upd H6 R (.lst (cutV (ps.map V.ref) none (some ((i : Nat) : Int)) ++ (cutV (ps.map V.ref) (some (((i : Nat) : Int) + 1)) none ++ []))) R = some (.lst ((ps.take i ++ ps.drop (i + 1)).map V.ref)) := by rw [upd_same, el]
          have s7 : Same H2 (upd H6 R (.lst (cutV (ps.map V.ref) none (some ((i : Nat) : Int)) ++ (cutV (ps.map V.ref) (some (((i : Nat) : Int) + 1)) none ++ [])))) := ((s4.trans s5).trans s6).trans (same_upd nR)
          show gName 4 _ _ (upd H6 R (.lst (cutV (ps.map V.ref) none (some ((i : Nat) : Int)) ++ (cutV (ps.map V.ref) (some (((i : Nat) : Int) + 1)) none ++ [])))) _
          generalize upd H6 R (.lst (cutV (ps.map V.ref) none (some ((i : Nat) : Int)) ++ (cutV (ps.map V.ref) (some (((i : Nat) : Int) + 1)) none ++ []))) = H7 at hR s7 ⊢
          refine ⟨_, rfl, R, rfl, ⟨_, SqL.of hR⟩, fun D2 nD2 => ?_⟩
          have ne := sf_at ok.free hq
          have hlen : (ps.take i ++ ps.drop (i + 1)).length ≤ 1000 := by
            rw [List.length_append, List.length_take, List.length_drop]; omega
          have hsub : ∀ q' ∈ ps.take i ++ ps.drop (i + 1), q' ∈ ps := fun q' hq' => by
            rcases List.mem_append.mp hq' with m | m
            · exact List.mem_of_mem_take m
            · exact List.mem_of_mem_drop m
          generalize ps.take i ++ ps.drop (i + 1) = rs at hR ne hlen hsub
          refine lc_it (walk_list (xs := rs.map V.ref)) (fun j H8 => Same H7 H8 ∧ H8 D2 = some (.lst ((List.replicate j false).map V.bl))) ⟨same_upd nD2, upd_same⟩ (fun j H8 _ h8 => h8.1.seq (SqL.of hR)) ?_ ?_
          · rintro j x H8 H9 hj ⟨s8, hD2⟩ ⟨rfl, hx⟩
            rw [List.getElem?_map] at hx
            obtain ⟨q', hq', rfl⟩ := Option.map_eq_some_iff.mp hx
            have hm' : q' ∈ rs := List.mem_of_getElem? hq'
            rw [List.length_map] at hj
            have s28 := s02.trans (s7.trans s8)
            refine ⟨q', _, rfl, SqT.of (s28 _ _ (hs q' (hsub _ hm'))), rfl, _, _, rfl, _, _, rfl, rfl, rfl, ?_⟩
            refine ⟨_, rfl, q, _, 0, _, rfl, rfl, SqT.of (s28 _ _ (hs q hqm)), rfl, ⟨_, rfl⟩, _, rfl, _, _, rfl, rfl, _, hD2, ?_, ?_, ?_⟩
            · rw [List.length_map, List.length_replicate]; exact sl_lt (by omega)
            · intro c' o e
              rw [upd_ne (ne_of_none e nD2)]
              exact s8 _ _ e
            · have ef : Txt.endswith (W (kb q).1) (W (kb q').1) = false := by
                rw [W_ends]
                cases e : (kb q').1.isSuffixOf (kb q).1 with
                | false => rfl
                | true => exact absurd (List.isSuffixOf_iff_suffix.mp e) (ne q' hm')
              rw [upd_same, ef, List.replicate_succ', List.map_append]
              rfl
          · rintro H8 ⟨s8, hD2⟩
            refine ⟨D2, _, rfl, SqL.of hD2, _, rfl, ?_⟩
            have et : (List.replicate (rs.map V.ref).length false).any id = false := by simp
            rw [et]
            exact ⟨_, _, _, _, _, _, rfl, s7.trans s8⟩
      · rintro σ H3 ⟨v1, v2, v3, v4, v5, v6, rfl, s3⟩
        exact k H3 (s02.trans s3)
end
end U
set_option maxRecDepth 100000
set_option maxHeartbeats 4000000
namespace U
open PySem PySem.Spec PyProof.Rows
open L2 hiding Fun CX0 E0 pass0 Fun.binds
open C8 Lx SX StX
theorem p10 {n : Nat} (h : n ≤ 13) : 2 ^ (n + 1) ≤ 16384 := Nat.le_trans (Nat.pow_le_pow_right (by decide) (show n + 1 ≤ 14 by omega)) (by decide)
section
variable {P : Program} {w : World} {K : PySem.W.Frag} {mg : Str → Option Value} {base : Heap}
theorem sc_Rule_put_in : FnScope ["self", "line", "found", "known", "bit", "standing"] ["self", "line"] (fnScope s_Rule_put_in) := fnScope_by (by decide +kernel)
theorem met_put_in {f C : Addr} {fd : FuncData} (F : C8.Fun K "put_in" "Rule.put_in" s_Rule_put_in f fd) (me : Meth K C "put_in" f) (b : Binds K fd ["self", "line"] []) (T : Tx mg) (RT : RuT K C)
    (c_put : Met P w K mg base 1 C "put" (spPut C) []) (p_longest : Prp P w K mg base 1 C "longest" (spLongest C)) (c_tail : Cal P w K mg base 1 "tail" spTail []) : Met P w K mg base 3 C "put_in" (spPutIn C) [] := by
  refine met0 RT.cl me F b sc_Rule_put_in (fun vs H Q E h => ?_) (fun cdv A outer s H vs Q E hr h => ?_)
  · obtain ⟨_, _, _, _, _, rfl, _⟩ := h; rfl
  · obtain ⟨a, fl, ss, l, x, rfl, hR, hn, h9, hl, hI, k⟩ := h
    refine ⟨_, (pss_cons (ps_par (i := 2) (j := 3) (by rfl) sc_Rule_put_in.nd rfl rfl (by decide) rfl rfl (pa_cons pe_str (pa_cons pe_dnewK pa_nil)) (by rfl))
    (pss_cons (ps_set (i := 4) sc_Rule_put_in.nd rfl (.inl rfl) (pe_mt (pl := _) c_put hr (by decide) (pv 0) (pa_cons (pv 1) pa_nil)))
    (pss_cons (ps_while PassesOwn.never (pt_cmpR op_notN (pv 4) pe_non (nomark _))
    (pss_cons (ps_set (i := 5) sc_Rule_put_in.nd rfl (.inl rfl) (pe_c c_tail hr (by decide) rfl (pa_cons (pe_op op_add_str (pv 1) (pv 2)) (pa_cons (pe_pr p_longest hr (by decide) (pv 0)) pa_nil))))
    (pss_cons (ps_if (pt_cmp (pc_din (hu_of hr) (pv 5) (pv 3))) (pss_one (ps_ret pe_non)) pss_nil)
    (pss_cons (ps_dput (hu_of hr) (pv 3) (pv 5) pe_bl rfl)
    (pss_cons (ps_aug (i := 2) sc_Rule_put_in.nd rfl (.inl rfl) (pv 4) iop_add_str)
    (pss_one (ps_set (i := 4) sc_Rule_put_in.nd rfl (.inl rfl) (pe_mt (pl := _) c_put hr (by decide) (pv 0) (pa_cons (pe_op op_add_str (pv 1) (pv 2)) pa_nil)))))))))
    (pss_one (ps_ret (pv 2)))))), ?_⟩
    have hL : ∀ s ∈ ss, s.1.length ≤ longM ss := fun s hs => longM_le hs
    have hx : x.length ≤ 16384 := by have := hI.len hL; have := p10 h9; omega
    have hat : ∀ {H2 : Hp}, Same H H2 → ∃ dx t, H2 a = some (.ins C dx (ruF fl t)) := fun s2 => by
      obtain ⟨dx, t, _, _, ha, _⟩ := hR.same s2
      exact ⟨dx, t, ha⟩
    refine fun D nD => ⟨_, _, rfl, ?_⟩
    have s1 : Same H (upd H D (.dK [])) := same_upd nD
    have hD1 : upd H D (.dK []) D = some (.dK []) := upd_same
    generalize upd H D (.dK []) = H1 at s1 hD1
    obtain ⟨dx, t, ha⟩ := hat s1
    refine ⟨_, rfl, a, dx, _, rfl, ha, ruF_no _ _ (by decide +kernel) (by decide +kernel), _, rfl, a, fl, ss, l, rfl, hR.same s1, fun H2 s2 => ?_⟩
    refine ⟨fun m σ H3 => ∃ (j : Nat) (v5 : Option V), j + m = x.length ∧ σ = [some (.ref a), some (.str (W l)), some (.str (W (x.take j))), some (.ref D), some (oB (putM ss (l ++ x.take j))), v5] ∧ Same H H3 ∧ H3 D = some (.dK (kst ((List.range j).map fun i => tl (longM ss) (l ++ x.take i)))),
      ⟨x.length, 0, none, by omega, by rw [List.take_zero, List.append_nil, ← W_nil]; rfl, s1.trans s2, s2 _ _ hD1⟩, ?_⟩
    rintro m σ H3 ⟨j, v5, hj, rfl, s3, hD3⟩
    refine ⟨_, rfl, rfl, _, rfl, ?_⟩
    rw [oB_non]
    by_cases hlt : j < x.length
    · have hb : x[j]? = some x[j] := List.getElem?_eq_getElem hlt
      have hput := hI.at hb
      rw [hput]
      have lx : (x.take j).length ≤ 16384 := by rw [List.length_take]; omega
      have e1 : (W l).length = l.length := W_len l
      have e2 : (W (x.take j)).length = (x.take j).length := W_len _
      refine ⟨fun σ' H' => ∃ m', m' < m ∧ ∃ (j : Nat) (v5 : Option V), j + m' = x.length ∧ σ' = [some (.ref a), some (.str (W l)), some (.str (W (x.take j))), some (.ref D), some (oB (putM ss (l ++ x.take j))), v5] ∧ Same H H' ∧ H' D = some (.dK (kst ((List.range j).map fun i => tl (longM ss) (l ++ x.take i)))), fun _ _ h => h, ?_⟩
      obtain ⟨dx3, t3, ha3⟩ := hat s3
      refine ⟨_, rfl, _, rfl, _, _, rfl, rfl, by rw [e1, e2]; exact sl_len (by omega), _, rfl, a, dx3, _, rfl, ha3, a, fl, ss, rfl, hR.same s3, hn, fun s hs => Nat.le_trans (longM_le hs) (by omega), fun H4 s4 => ?_⟩
      refine ⟨l ++ x.take j, longM ss, by rw [← W_cat]; rfl, by rw [List.length_append]; omega, ?_⟩
      have hD4 := s4 _ _ hD3
      have nin : ¬ tl (longM ss) (l ++ x.take j) ∈ (List.range j).map fun i => tl (longM ss) (l ++ x.take i) := fun hm => by
        obtain ⟨i, hi, e⟩ := List.mem_map.mp hm
        have hi' := List.mem_range.mp hi
        have := hI.apart hL (Nat.le_of_lt (Nat.lt_trans hi' hlt)) (Nat.le_of_lt hlt) e
        omega
      refine ⟨_, rfl, _, rfl, D, _, rfl, DGet.k (k := .inr (W (tl (longM ss) (l ++ x.take j)))) hD4, _, rfl, iteBF (by rw [val_out nin]; rfl) ?_⟩
      refine ⟨_, rfl, _, rfl, D, _, rfl, DPut.k (k := .inr (W (tl (longM ss) (l ++ x.take j)))) hD4 (by unfold kst; rw [List.length_map, List.length_map, List.length_range]; exact sl_lt (by omega)), ?_⟩
      rw [put_out nin]
      have et : x.take (j + 1) = x.take j ++ [x[j]] := by rw [List.take_add_one, hb]; rfl
      have ek : ((List.range j).map fun i => tl (longM ss) (l ++ x.take i)) ++ [tl (longM ss) (l ++ x.take j)] = (List.range (j + 1)).map fun i => tl (longM ss) (l ++ x.take i) := by
        rw [List.range_succ, List.map_append]; rfl
      rw [ek]
      have s5 : Same H (upd H4 D (.dK (kst ((List.range (j + 1)).map fun i => tl (longM ss) (l ++ x.take i))))) := fun c o e => by
        rw [upd_ne (ne_of_none e nD)]
        exact (s3.trans s4) _ _ e
      have hD5 : upd H4 D (.dK (kst ((List.range (j + 1)).map fun i => tl (longM ss) (l ++ x.take i)))) D = some (.dK (kst ((List.range (j + 1)).map fun i => tl (longM ss) (l ++ x.take i)))) := upd_same
      generalize upd H4 D (.dK (kst ((List.range (j + 1)).map fun i => tl (longM ss) (l ++ x.take i)))) = H5 at s5 hD5
      have e3 : (W [x[j]]).length = 1 := W_len _
      refine ⟨_, rfl, _, rfl, _, _, rfl, rfl, by rw [e2, e3]; exact sl_len (by omega), ?_⟩
      rw [W_cat, ← et]
      have e4 : (W (x.take (j + 1))).length = (x.take (j + 1)).length := W_len _
      obtain ⟨dx5, t5, ha5⟩ := hat s5
      refine ⟨_, rfl, a, dx5, _, rfl, ha5, ruF_no _ _ (by decide +kernel) (by decide +kernel), _, rfl, _, rfl, _, _, rfl, rfl, by rw [e1, e4, et, List.length_append]; exact sl_len (by simp only [List.length_cons, List.length_nil]; omega), ?_⟩
      refine ⟨a, fl, ss, l ++ x.take (j + 1), by rw [← W_cat]; rfl, hR.same s5, fun H6 s6 => ?_⟩
      exact ⟨m - 1, by omega, j + 1, _, by omega, rfl, s5.trans s6, s6 _ _ hD5⟩
    · have hj' : j = x.length := by omega
      subst hj'
      rw [List.take_length, hI.end]
      exact ⟨_, rfl, k H3 s3⟩
end
end U
set_option maxRecDepth 100000
set_option maxHeartbeats 4000000
namespace U
open PySem PySem.Spec PyProof.Rows
open L2 hiding Fun CX0 E0 pass0 Fun.binds
open C8 Lx SX StX
structure Bfs (ss : List Stf) (H H2 : Hp) (q d : Addr) (ws : List (List Bool)) : Prop where
  same : Same H H2
  wait : H2 q = some (.lst (ws.map fun w => V.str (W w)))
  known : H2 d = some (.dK (kst ws))
  nodup : ws.Nodup
  short : ∀ w ∈ ws, w.length ≤ longM ss
  reach : ∀ w ∈ ws, ∃ l, Reach ss l ∧ tl (longM ss) l = w
theorem Bfs.on {ss : List Stf} {H H2 H3 : Hp} {q d : Addr} {ws : List (List Bool)} (b : Bfs ss H H2 q d ws) (s : Same H2 H3) : Bfs ss H H3 q d ws :=
  ⟨b.same.trans s, s _ _ b.wait, s _ _ b.known, b.nodup, b.short, b.reach⟩
theorem Bfs.few {ss : List Stf} {H H2 : Hp} {q d : Addr} {ws : List (List Bool)} (b : Bfs ss H H2 q d ws) : ws.length + 1 ≤ 2 ^ (longM ss + 1) := words_le b.nodup b.short
def key (s : Stf) : Str × Str := (W s.1, W [s.2])
def SortedS (ss : List Stf) : Prop := SrtO.Srtd (fun x y => SrT.lexT (key x) (key y)) ss
def spRuInit (K : PySem.W.Frag) (C : Addr) : Sp := fun vs H Q _ => ∃ (a dx s : Addr) (f : List Bool) (ps : List Addr) (kb : Addr → Stf), vs = [.ref a, .str (W f), .ref s] ∧ H a = some (.ins C dx []) ∧ Sq K H s (ps.map V.ref) ∧ StV H kb ps ∧ StOk (ps.map kb) ∧ OkR (ps.map kb) ∧ 2 ≤ f.length ∧ f.length ≤ 1000 ∧
  ∀ H' ss, (∀ b o, H b = some o → b ≠ a → H' b = some o) → ss.Perm (ps.map kb) → SortedS ss → RuAt C H' a f ss → Q .non H'
theorem pwS {qs : List Addr} {kb : Addr → Stf} (h : SrtO.Srtd (fun x y => SrT.lexT (key (kb x)) (key (kb y))) qs) : SortedS (qs.map kb) := List.pairwise_map.mpr h
section
variable {P : Program} {w : World} {K : PySem.W.Frag} {mg : Str → Option Value} {base : Heap}
theorem sc_Rule_is_endless : FnScope ["self", "waiting", "known", "at", "bit", "line", "more", "standing"] ["self"] (fnScope s_Rule_is_endless) := fnScope_by (by decide +kernel)
theorem met_is_endless {f C : Addr} {fd : FuncData} {tB : Tok} (F : C8.Fun K "is_endless" "Rule.is_endless" s_Rule_is_endless f fd) (me : Meth K C "is_endless" f) (b : Binds K fd ["self"] []) (T : Tx mg) (RT : RuT K C) (g_BITS : mg "BITS" = some (.str "01" tB))
    (c_put_in : Met P w K mg base 3 C "put_in" (spPutIn C) []) (p_longest : Prp P w K mg base 1 C "longest" (spLongest C)) (c_tail : Cal P w K mg base 1 "tail" spTail []) : Met P w K mg base 4 C "is_endless" (spEndless C) [] := by
  refine met0 RT.cl me F b sc_Rule_is_endless (fun vs H Q E h => ?_) (fun cdv A outer s H vs Q E hr h => ?_)
  · obtain ⟨_, _, _, rfl, _⟩ := h; rfl
  · obtain ⟨a, fl, ss, rfl, hR, hn, h9, hO, k⟩ := h
    refine ⟨_, (pss_cons (ps_par3 (i := 1) (j := 2) (l := 3) (by rfl) sc_Rule_is_endless.nd rfl rfl rfl (by decide) (by decide) (by decide) rfl rfl rfl (pa_cons (pe_lst (pa_cons pe_str pa_nil)) (pa_cons (pe_disp (pps_cons pe_str pe_bl pps_nil) (by rfl) (by rfl) (fun z => by cases z) (by decide)) (pa_cons pe_int pa_nil))) (by rfl))
    (pss_cons (ps_while PassesOwn.never (pt_cmpR op_lt (pv 3) (pe_callB call_len_seq (by rfl) T.b_len (by decide +kernel) (pa_cons (pv 1) pa_nil)) (nomark _))
    (pss_cons (ps_for PassesOwn.never rfl (pi_str (pe_glob (v := .str "01") (by rfl) g_BITS ⟨_, rfl⟩)) (pg_name (i := 4) sc_Rule_is_endless.nd rfl (.inl rfl))
    (pss_cons (ps_set (i := 5) sc_Rule_is_endless.nd rfl (.inl rfl) (pe_op op_add_str (pe_ix ix_list (pv 1) (pv 3) (fun _ _ => rfl)) (pv 4)))
    (pss_cons (ps_set (i := 6) sc_Rule_is_endless.nd rfl (.inl rfl) (pe_mt (pl := _) c_put_in hr (by decide) (pv 0) (pa_cons (pv 5) pa_nil)))
    (pss_cons (ps_if (pt_cmpR op_isN (pv 6) pe_non (nomark _)) (pss_one (ps_ret pe_bl)) pss_nil)
    (pss_cons (ps_set (i := 7) sc_Rule_is_endless.nd rfl (.inl rfl) (pe_c c_tail hr (by decide) rfl (pa_cons (pe_op op_add_str (pv 5) (pv 6)) (pa_cons (pe_pr p_longest hr (by decide) (pv 0)) pa_nil))))
    (pss_one (ps_if (pt_cmp (pc_dnotin (hu_of hr) (pv 7) (pv 2))) (pss_cons (ps_dput (hu_of hr) (pv 2) (pv 7) pe_bl rfl)
    (pss_one (ps_expr (pe_bm PySem.F.plainAttrs_list PySem.F.slot_list_append PySem.F.type_list_append mt_append (pv 1) (pa_cons (pv 7) pa_nil))))) pss_nil)))))))
    (pss_one (ps_aug (i := 3) sc_Rule_is_endless.nd rfl (.inl rfl) pe_int ip_add))))
    (pss_one (ps_ret pe_bl)))), ?_⟩
    have hL : ∀ s ∈ ss, s.1.length ≤ longM ss := fun s hs => longM_le hs
    have hpw := p10 h9
    have hat : ∀ {H2 : Hp}, Same H H2 → ∃ dx t, H2 a = some (.ins C dx (ruF fl t)) := fun s2 => by
      obtain ⟨dx, t, _, _, ha, _⟩ := hR.same s2
      exact ⟨dx, t, ha⟩
    refine ⟨by show 1 ≤ sizeLine; decide, fun q nq d nd => ⟨upd_same, [(.inr "", .bl true)], rfl, by decide, _, _, _, rfl, ?_⟩⟩
    have nqd : q ≠ d := fun z => by rw [← z, upd_same] at nd; cases nd
    have b0 : Bfs ss H (upd (upd (upd H q (.lst [.str ""])) d (.dK [])) d (.dK (mergeK [] [(.inr "", .bl true)]))) q d [[]] := by
      refine ⟨fun c o e => ?_, ?_, ?_, ?_, ?_, ?_⟩
      · have n1 := ne_of_none e nq
        have n2 : c ≠ d := fun z => by rw [z] at e n1; rw [upd_ne n1, e] at nd; cases nd
        rw [upd_ne n2, upd_ne n2, upd_ne n1]
        exact e
      · rw [upd_ne nqd, upd_ne nqd, upd_same, W_nil]; rfl
      · rw [upd_same, W_nil]; rfl
      · simp
      · intro w hw; rw [List.mem_singleton.mp hw]; exact Nat.zero_le _
      · intro w hw; rw [List.mem_singleton.mp hw]; exact ⟨[], .nil, by unfold tl; rw [List.drop_nil]⟩
    have nq0 : H q = none := nq
    have nd0 : H d = none := by
      cases e : H d with
      | none => rfl
      | some o => rw [upd_ne (Ne.symm nqd), e] at nd; cases nd
    generalize upd (upd (upd H q (.lst [.str ""])) d (.dK [])) d (.dK (mergeK [] [(.inr "", .bl true)])) = H1 at b0
    refine ⟨fun m σ H2 => ∃ (n : Nat) (ws : List (List Bool)) (v4 v5 v6 v7 : Option V), σ = [some (.ref a), some (.ref q), some (.ref d), some (.int n), v4, v5, v6, v7] ∧ Bfs ss H H2 q d ws ∧ n ≤ ws.length ∧ m + n = 2 ^ (longM ss + 1),
      ⟨2 ^ (longM ss + 1), 0, [[]], none, none, none, none, rfl, b0, Nat.zero_le _, by omega⟩, ?_⟩
    rintro m σ H2 ⟨n, ws, v4, v5, v6, v7, rfl, B2, hn2, hm⟩
    have few2 := B2.few
    refine ⟨_, rfl, _, rfl, q, _, rfl, .inl (SqL.of B2.wait), _, _, rfl, rfl, _, rfl, ?_⟩
    rw [List.length_map]
    by_cases hlt : n < ws.length
    · refine iteDT (by omega) ?_
      refine ⟨fun σ' H' => ∃ m', m' < m ∧ ∃ (n : Nat) (ws : List (List Bool)) (v4 v5 v6 v7 : Option V), σ' = [some (.ref a), some (.ref q), some (.ref d), some (.int n), v4, v5, v6, v7] ∧ Bfs ss H H' q d ws ∧ n ≤ ws.length ∧ m' + n = 2 ^ (longM ss + 1), fun _ _ h => h, ?_⟩
      refine ⟨_, rfl, for_it walk_str (fun i σ H3 => ∃ (ws : List (List Bool)) (v4 v5 v6 v7 : Option V), σ = [some (.ref a), some (.ref q), some (.ref d), some (.int n), v4, v5, v6, v7] ∧ Bfs ss H H3 q d ws ∧ n < ws.length) ⟨ws, _, _, _, _, rfl, B2, hlt⟩ (fun _ _ _ _ _ => trivial) ?_ ?_⟩
      · rintro i x σ H3 H3' hi ⟨ws, v4, v5, v6, v7, rfl, B3, hlt3⟩ ⟨rfl, c, hc, rfl⟩
        have e01 : ("01" : Str) = W [false, true] := by decide +kernel
        rw [e01] at hc
        obtain ⟨bb, _, rfl⟩ := W_get hc
        have hw : (ws.map fun w => V.str (W w))[n]? = some (.str (W ws[n])) := by rw [List.getElem?_map, List.getElem?_eq_getElem hlt3]; rfl
        have hmem : ws[n] ∈ ws := List.getElem_mem hlt3
        generalize ws[n] = w0 at hw hmem
        have hs0 := B3.short _ hmem
        have few3 := B3.few
        obtain ⟨l0, hr0, rfl⟩ := B3.reach _ hmem
        obtain ⟨y, hy⟩ := hO l0 hr0 bb
        have ht0 : tl (longM ss) l0 = tl (longM ss) (tl (longM ss) l0) := (tl_tl (Nat.le_refl _) _).symm
        have hy' := hy.tl hL (tl_snoc (b := bb) ht0)
        have hyl := hy.len hL
        have hnx : tl (longM ss) (l0 ++ [bb] ++ y) = tl (longM ss) (tl (longM ss) l0 ++ [bb] ++ y) := tl_app (tl_snoc (b := bb) ht0) y
        have hrn : Reach ss (l0 ++ [bb] ++ y) := .next hr0 hy
        generalize tl (longM ss) l0 = w0 at *
        have ew : W w0 ++ (⟨#[bt bb]⟩ : Str) = W (w0 ++ [bb]) := W_cat w0 [bb]
        have el : (W w0).length + (⟨#[bt bb]⟩ : Str).length ≤ sizeLine := by
          have e1 : (W w0).length = w0.length := W_len _
          have e2 : (⟨#[bt bb]⟩ : Str).length = 1 := W_len [bb]
          rw [e1, e2]; exact sl_len (by omega)
        refine ⟨_, rfl, _, rfl, q, _, _, _, rfl, rfl, SqL.of B3.wait, atI_nat hw, _, rfl, _, _, rfl, rfl, el, ?_⟩
        rw [ew]
        obtain ⟨dx3, t3, ha3⟩ := hat B3.same
        have hl1 : (w0 ++ [bb]).length ≤ 14 := by rw [List.length_append, List.length_cons, List.length_nil]; omega
        refine ⟨_, rfl, a, dx3, _, rfl, ha3, ruF_no _ _ (by decide +kernel) (by decide +kernel), _, rfl, a, fl, ss, w0 ++ [bb], y, rfl, hR.same B3.same, hn, h9, by omega, hy', fun H4 s4 => ?_⟩
        have B4 := B3.on s4
        refine ⟨_, rfl, rfl, _, rfl, iteDF (fun z => by cases z) ?_⟩
        obtain ⟨dx4, t4, ha4⟩ := hat B4.same
        have e3 : (W (w0 ++ [bb])).length = (w0 ++ [bb]).length := W_len _
        have e4 : (W y).length = y.length := W_len _
        refine ⟨_, rfl, _, rfl, _, _, rfl, rfl, by rw [e3, e4]; exact sl_len (by omega), _, rfl, a, dx4, _, rfl, ha4, a, fl, ss, rfl, hR.same B4.same, hn, fun s hs => Nat.le_trans (longM_le hs) (by omega), fun H5 s5 => ?_⟩
        have B5 := B4.on s5
        refine ⟨w0 ++ [bb] ++ y, longM ss, by rw [← W_cat (w0 ++ [bb]) y]; rfl, by rw [List.length_append]; omega, ?_⟩
        refine ⟨_, rfl, _, rfl, d, _, rfl, DGet.k (k := .inr (W (tl (longM ss) (w0 ++ [bb] ++ y)))) B5.known, _, rfl, ?_⟩
        by_cases hin : tl (longM ss) (w0 ++ [bb] ++ y) ∈ ws
        · refine iteBF (by rw [val_in hin]; rfl) ?_
          exact ⟨ws, _, _, _, _, rfl, B5, hlt3⟩
        · refine iteBT (by rw [val_out hin]; rfl) ?_
          refine ⟨_, rfl, _, rfl, d, _, rfl, DPut.k (k := .inr (W (tl (longM ss) (w0 ++ [bb] ++ y)))) B5.known (by unfold kst; rw [List.length_map]; exact sl_lt (by omega)), ?_⟩
          rw [put_out hin]
          have hW6 : upd H5 d (.dK (kst (ws ++ [tl (longM ss) (w0 ++ [bb] ++ y)]))) q = some (.lst (ws.map fun w => V.str (W w))) := by rw [upd_ne nqd]; exact B5.wait
          refine ⟨_, rfl, .inl ⟨rfl, _, SqL.of hW6⟩, _, rfl, q, _, _, rfl, rfl, hW6, by rw [List.length_map]; exact sl_lt (by omega), ?_⟩
          refine ⟨ws ++ [tl (longM ss) (w0 ++ [bb] ++ y)], _, _, _, _, rfl, ⟨fun c o e => ?_, ?_, ?_, ?_, ?_, ?_⟩, ?_⟩
          · rw [upd_ne (ne_of_none e nq0), upd_ne (ne_of_none e nd0)]
            exact B5.same _ _ e
          · rw [upd_same, List.map_append]; rfl
          · rw [upd_ne (Ne.symm nqd), upd_same]
          · rw [List.nodup_append]
            refine ⟨B5.nodup, by simp, fun u hu v hv e => ?_⟩
            rw [List.mem_singleton.mp hv] at e
            exact hin (e ▸ hu)
          · intro u hu
            rcases List.mem_append.mp hu with m | m
            · exact B5.short _ m
            · rw [List.mem_singleton.mp m]; exact tl_le _ _
          · intro u hu
            rcases List.mem_append.mp hu with m | m
            · exact B5.reach _ m
            · rw [List.mem_singleton.mp m]; exact ⟨_, hrn, hnx⟩
          · rw [List.length_append]; omega
      · rintro σ H3 ⟨ws, v4, v5, v6, v7, rfl, B3, hlt3⟩
        refine ⟨_, rfl, _, _, rfl, rfl, ?_⟩
        refine ⟨m - 1, by omega, n + 1, ws, _, _, _, _, rfl, B3, hlt3, by omega⟩
    · refine iteDF (by omega) ?_
      exact k H2 B2.same
theorem sc_Rule_init : FnScope ["self", "flag", "stuffs"] ["self", "flag", "stuffs"] (fnScope s_Rule_init) := fnScope_by (by decide +kernel)
theorem ok_Rule_init {f C : Addr} {fd : FuncData} (F : C8.Fun K "__init__" "Rule.__init__" s_Rule_init f fd) (T : Tx mg) (RT : RuT K C) (c_is_word : Cal P w K mg base 1 "is_word" (spIsWord K) []) (c_are_stuffs : Cal P w K mg base 4 "are_stuffs" (spAre K) []) (c_is_endless : Met P w K mg base 4 C "is_endless" (spEndless C) []) :
    FnOk P w K mg base CX0 5 f fd ["self", "flag", "stuffs"] (spRuInit K C) := by
  refine fn0 F sc_Rule_init (fun vs H Q E h => ?_) (fun cdv A outer s H vs Q E hr h => ?_)
  · obtain ⟨_, _, _, _, _, _, rfl, _⟩ := h; rfl
  · obtain ⟨a, dx, sq, fl, ps, kb, rfl, ha, hS, hs, ok, hO, h2, hl, k⟩ := h
    refine ⟨_, (pss_cons (ps_if (PW.pt (pw_or (pt_not (pt_val (pe_c c_is_word hr (by decide) rfl (pa_cons (pv 1) pa_nil)))) (pw_or1 (pt_cmpR op_lt (pe_callB call_len_str (by rfl) T.b_len (by decide +kernel) (pa_cons (pv 1) pa_nil)) pe_int (nomark _))))) (pss_one ps_never) pss_nil)
    (pss_cons (ps_if (pt_not (pt_val (pe_c c_are_stuffs hr (by decide) rfl (pa_cons (pv 2) pa_nil)))) (pss_one ps_never) pss_nil)
    (pss_cons (ps_fld (pv 0) (pv 1) rfl)
    (pss_cons (ps_fld (pv 0) (pe_callTy call_tuple_of (by rfl) T.b_tuple (by decide +kernel) (pa_cons (pe_callB cr_sortedT (by rfl) T.b_sorted (by decide +kernel) (pa_cons (pv 2) pa_nil)) pa_nil)) rfl)
    (pss_one (ps_if (pt_val (pe_mt0 (pl := _) c_is_endless hr (by decide) (pv 0))) (pss_one ps_never) pss_nil)))))), ?_⟩
    have lf : (W fl).length = fl.length := W_len fl
    refine ⟨_, rfl, _, rfl, .inl ⟨_, rfl, by rw [lf]; omega, fun H1 s1 => ⟨_, rfl, iteBF (by rw [isW_W]; rfl) ?_⟩⟩⟩
    refine ⟨_, rfl, _, rfl, by rw [lf]; exact sl_len (by omega), _, _, rfl, rfl, _, rfl, iteDF (by rw [lf]; omega) ?_⟩
    refine ⟨_, rfl, sq, ps, kb, rfl, hS.same s1, hs.same s1, ok, fun H2 s2 => ⟨_, rfl, ?_⟩⟩
    have s02 := s1.trans s2
    have ha2 := s02 _ _ ha
    refine ⟨_, rfl, _, rfl, a, C, dx, _, rfl, ha2, RT.cl, RT.nF, by decide, ?_⟩
    have keep3 : ∀ c o, H c = some o → c ≠ a → upd H2 a (.ins C dx (putF "flag" (.str (W fl)) [])) c = some o := fun c o e n => by rw [upd_ne n]; exact s02 _ _ e
    have ha3 : upd H2 a (.ins C dx (putF "flag" (.str (W fl)) [])) a = some (.ins C dx (putF "flag" (.str (W fl)) [])) := upd_same
    have hs3 : StV (upd H2 a (.ins C dx (putF "flag" (.str (W fl)) []))) kb ps := fun t ht => keep3 _ _ (hs t ht) (ne_of (hs t ht) ha (by intro z; cases z))
    have hS3 : SqL K (upd H2 a (.ins C dx (putF "flag" (.str (W fl)) []))) sq (ps.map V.ref) ∨ SqT K (upd H2 a (.ins C dx (putF "flag" (.str (W fl)) []))) sq (ps.map V.ref) := by
      rcases hS with ((h | ⟨o, h⟩) | h) | ((h | ⟨o, h⟩) | h)
      · exact .inl (.inl (.inl (keep3 _ _ h (ne_of h ha (by intro z; cases z)))))
      · exact .inl (.inl (.inr ⟨o, keep3 _ _ h (ne_of h ha (by intro z; cases z))⟩))
      · exact .inl (.inr h)
      · exact .inr (.inl (.inl (keep3 _ _ h (ne_of h ha (by intro z; cases z)))))
      · exact .inr (.inl (.inr ⟨o, keep3 _ _ h (ne_of h ha (by intro z; cases z))⟩))
      · exact .inr (.inr h)
    generalize upd H2 a (.ins C dx (putF "flag" (.str (W fl)) [])) = H3 at keep3 ha3 hs3 hS3
    refine ⟨_, rfl, sq, ps, fun t => key (kb t), rfl, hS3, fun t ht => hs3 t ht, fun qs p1 srt prm n1 => ?_⟩
    refine ⟨p1, _, rfl, .inl ⟨SqL.of upd_same, fun p2 n2 => ?_⟩⟩
    have s5 : Same H3 (upd (upd H3 p1 (.lst (qs.map V.ref))) p2 (.tup (qs.map V.ref))) := (same_upd n1).trans (same_upd n2)
    have hT5 : upd (upd H3 p1 (.lst (qs.map V.ref))) p2 (.tup (qs.map V.ref)) p2 = some (.tup (qs.map V.ref)) := upd_same
    generalize upd (upd H3 p1 (.lst (qs.map V.ref))) p2 (.tup (qs.map V.ref)) = H5 at s5 hT5
    have ha5 := s5 _ _ ha3
    refine ⟨_, rfl, a, C, dx, _, rfl, ha5, RT.cl, RT.nS, by show 1 < 1000; decide, ?_⟩
    have na2 : p2 ≠ a := ne_of hT5 ha5 (by intro z; cases z)
    have keep6 : ∀ c o, H3 c = some o → c ≠ a → upd H5 a (.ins C dx (putF "stuffs" (.ref p2) (putF "flag" (.str (W fl)) []))) c = some o := fun c o e n => by rw [upd_ne n]; exact s5 _ _ e
    have ha6 : upd H5 a (.ins C dx (putF "stuffs" (.ref p2) (putF "flag" (.str (W fl)) []))) a = some (.ins C dx (ruF fl p2)) := upd_same
    have hT6 : upd H5 a (.ins C dx (putF "stuffs" (.ref p2) (putF "flag" (.str (W fl)) []))) p2 = some (.tup (qs.map V.ref)) := by rw [upd_ne na2]; exact hT5
    generalize upd H5 a (.ins C dx (putF "stuffs" (.ref p2) (putF "flag" (.str (W fl)) []))) = H6 at keep6 ha6 hT6
    have hs6 : StV H6 kb qs := StV.perm (fun t ht => keep6 _ _ (hs3 t ht) (ne_of (hs3 t ht) ha3 (by intro z; cases z))) prm
    have pm : (qs.map kb).Perm (ps.map kb) := prm.map kb
    have hR6 : RuAt C H6 a fl (qs.map kb) := ⟨dx, p2, qs, kb, ha6, hT6, hs6, rfl⟩
    have ok6 := ok.perm pm.symm
    refine ⟨_, rfl, a, dx, _, rfl, ha6, ruF_no _ _ (by decide +kernel) (by decide +kernel), a, fl, qs.map kb, rfl, hR6, ok6.few, ok6.long, hO.congr fun l => put_perm ok.free pm.symm l, fun H7 s7 => ⟨_, rfl, ?_⟩⟩
    exact k H7 (qs.map kb) (fun c o e n => s7 _ _ (keep6 _ _ (keep3 _ _ e n) n)) pm (pwS srt) (hR6.same s7)
end
end U
set_option maxRecDepth 100000
set_option maxHeartbeats 4000000
namespace U
open PySem PySem.Spec PyProof.Rows
open L2 hiding Fun CX0 E0 pass0 Fun.binds
open C8 Lx SX StX
inductive PutX (ss : List Stf) (l : List Bool) : List Bool → Prop
  | nil : PutX ss l []
  | snoc {y : List Bool} {b : Bool} : PutX ss l y → putM ss (l ++ y) = some b → PutX ss l (y ++ [b])
theorem PutX.ins {ss : List Stf} {l y : List Bool} (h : PutX ss l y) : ∀ {x}, Ins ss (l ++ y) x → Ins ss l (y ++ x) := by
  induction h with
  | nil => intro x hx; rw [List.append_nil] at hx; exact hx
  | @snoc y b hp hb ih =>
    intro x hx
    rw [← List.append_assoc] at hx
    have := ih (.more hb hx)
    rw [List.append_assoc]
    exact this
theorem PutX.pre {ss : List Stf} {l y : List Bool} (h : PutX ss l y) : ∀ {x}, Ins ss l x → ∃ z, x = y ++ z ∧ Ins ss (l ++ y) z := by
  induction h with
  | nil => intro x hx; exact ⟨x, rfl, by rw [List.append_nil]; exact hx⟩
  | @snoc y b hp hb ih =>
    intro x hx
    obtain ⟨z, rfl, hz⟩ := ih hx
    cases hz with
    | stop h => rw [hb] at h; cases h
    | @more _ z' b' h1 h2 =>
      rw [hb] at h1
      cases Option.some.inj h1
      exact ⟨z', by simp, by rw [← List.append_assoc]; exact h2⟩
def OutR (ss : List Stf) (l : List Bool) (o : Option (List Bool)) : Prop := (∀ x, o = some x → Ins ss l x) ∧ (o = none → ∀ x, ¬ Ins ss l x)
theorem oWx_non (o : Option (List Bool)) : decide (oW o = .non) = o.isNone := by
  cases o with
  | none => exact decide_eq_true rfl
  | some _ => exact decide_eq_false (fun z => by cases z)
def spPutInX (C : Addr) : Sp := fun vs H Q _ => ∃ (a : Addr) (f : List Bool) (ss : List Stf) (l : List Bool), vs = [.ref a, .str (W l)] ∧ RuAt C H a f ss ∧ ss.length ≤ 1000 ∧ longM ss ≤ 13 ∧ l.length ≤ 40000 ∧ ∀ o H', OutR ss l o → Same H H' → Q (oW o) H'
def spEndlessX (C : Addr) : Sp := fun vs H Q _ => ∃ (a : Addr) (f : List Bool) (ss : List Stf), vs = [.ref a] ∧ RuAt C H a f ss ∧ ss.length ≤ 1000 ∧ longM ss ≤ 13 ∧ ∀ b H', (b = true ↔ ¬ OkR ss) → Same H H' → Q (.bl b) H'
section
variable {P : Program} {w : World} {K : PySem.W.Frag} {mg : Str → Option Value} {base : Heap}
theorem met_put_inX {f C : Addr} {fd : FuncData} (F : C8.Fun K "put_in" "Rule.put_in" s_Rule_put_in f fd) (me : Meth K C "put_in" f) (b : Binds K fd ["self", "line"] []) (T : Tx mg) (RT : RuT K C)
    (c_put : Met P w K mg base 1 C "put" (spPut C) []) (p_longest : Prp P w K mg base 1 C "longest" (spLongest C)) (c_tail : Cal P w K mg base 1 "tail" spTail []) : Met P w K mg base 3 C "put_in" (spPutInX C) [] := by
  refine met0 RT.cl me F b sc_Rule_put_in (fun vs H Q E h => ?_) (fun cdv A outer s H vs Q E hr h => ?_)
  · obtain ⟨_, _, _, _, rfl, _⟩ := h; rfl
  · obtain ⟨a, fl, ss, l, rfl, hR, hn, h9, hl, k⟩ := h
    refine ⟨_, (pss_cons (ps_par (i := 2) (j := 3) (by rfl) sc_Rule_put_in.nd rfl rfl (by decide) rfl rfl (pa_cons pe_str (pa_cons pe_dnewK pa_nil)) (by rfl))
    (pss_cons (ps_set (i := 4) sc_Rule_put_in.nd rfl (.inl rfl) (pe_mt (pl := _) c_put hr (by decide) (pv 0) (pa_cons (pv 1) pa_nil)))
    (pss_cons (ps_while PassesOwn.never (pt_cmpR op_notN (pv 4) pe_non (nomark _))
    (pss_cons (ps_set (i := 5) sc_Rule_put_in.nd rfl (.inl rfl) (pe_c c_tail hr (by decide) rfl (pa_cons (pe_op op_add_str (pv 1) (pv 2)) (pa_cons (pe_pr p_longest hr (by decide) (pv 0)) pa_nil))))
    (pss_cons (ps_if (pt_cmp (pc_din (hu_of hr) (pv 5) (pv 3))) (pss_one (ps_ret pe_non)) pss_nil)
    (pss_cons (ps_dput (hu_of hr) (pv 3) (pv 5) pe_bl rfl)
    (pss_cons (ps_aug (i := 2) sc_Rule_put_in.nd rfl (.inl rfl) (pv 4) iop_add_str)
    (pss_one (ps_set (i := 4) sc_Rule_put_in.nd rfl (.inl rfl) (pe_mt (pl := _) c_put hr (by decide) (pv 0) (pa_cons (pe_op op_add_str (pv 1) (pv 2)) pa_nil)))))))))
    (pss_one (ps_ret (pv 2)))))), ?_⟩
    have hL : ∀ s ∈ ss, s.1.length ≤ longM ss := fun s hs => longM_le hs
    have hpw := p10 h9
    have hat : ∀ {H2 : Hp}, Same H H2 → ∃ dx t, H2 a = some (.ins C dx (ruF fl t)) := fun s2 => by
      obtain ⟨dx, t, _, _, ha, _⟩ := hR.same s2
      exact ⟨dx, t, ha⟩
    have e1 : (W l).length = l.length := W_len l
    refine fun D nD => ⟨_, _, rfl, ?_⟩
    have s1 : Same H (upd H D (.dK [])) := same_upd nD
    have hD1 : upd H D (.dK []) D = some (.dK []) := upd_same
    generalize upd H D (.dK []) = H1 at s1 hD1
    obtain ⟨dx, t, ha⟩ := hat s1
    refine ⟨_, rfl, a, dx, _, rfl, ha, ruF_no _ _ (by decide +kernel) (by decide +kernel), _, rfl, a, fl, ss, l, rfl, hR.same s1, fun H2 s2 => ?_⟩
    refine ⟨fun m σ H3 => ∃ (y : List Bool) (v5 : Option V), y.length + m = 16384 ∧ PutX ss l y ∧ ((List.range y.length).map fun i => tl (longM ss) (l ++ y.take i)).Nodup ∧ σ = [some (.ref a), some (.str (W l)), some (.str (W y)), some (.ref D), some (oB (putM ss (l ++ y))), v5] ∧ Same H H3 ∧ H3 D = some (.dK (kst ((List.range y.length).map fun i => tl (longM ss) (l ++ y.take i)))),
      ⟨16384, [], none, rfl, .nil, List.nodup_nil, by rw [List.append_nil, ← W_nil]; rfl, s1.trans s2, s2 _ _ hD1⟩, ?_⟩
    rintro m σ H3 ⟨y, v5, hm, hP, hnd, rfl, s3, hD3⟩
    refine ⟨_, rfl, rfl, _, rfl, ?_⟩
    rw [oB_non]
    cases hput : putM ss (l ++ y) with
    | none =>
      refine ⟨_, rfl, ?_⟩
      have e := hP.ins (.stop hput)
      rw [List.append_nil] at e
      exact k (some y) H3 ⟨fun x hx => Option.some.inj hx ▸ e, fun z => by cases z⟩ s3
    | some c =>
      refine ⟨fun σ' H' => ∃ m', m' < m ∧ ∃ (y : List Bool) (v5 : Option V), y.length + m' = 16384 ∧ PutX ss l y ∧ ((List.range y.length).map fun i => tl (longM ss) (l ++ y.take i)).Nodup ∧ σ' = [some (.ref a), some (.str (W l)), some (.str (W y)), some (.ref D), some (oB (putM ss (l ++ y))), v5] ∧ Same H H' ∧ H' D = some (.dK (kst ((List.range y.length).map fun i => tl (longM ss) (l ++ y.take i)))), fun _ _ h => h, ?_⟩
      have hfew : y.length + 1 ≤ 2 ^ (longM ss + 1) := by
        have := words_le hnd (fun w hw => by obtain ⟨i, _, rfl⟩ := List.mem_map.mp hw; exact tl_le _ _)
        rw [List.length_map, List.length_range] at this
        exact this
      have e2 : (W y).length = y.length := W_len _
      obtain ⟨dx3, t3, ha3⟩ := hat s3
      refine ⟨_, rfl, _, rfl, _, _, rfl, rfl, by rw [e1, e2]; exact sl_len (by omega), _, rfl, a, dx3, _, rfl, ha3, a, fl, ss, rfl, hR.same s3, hn, fun s hs => Nat.le_trans (longM_le hs) (by omega), fun H4 s4 => ?_⟩
      refine ⟨l ++ y, longM ss, by rw [← W_cat l]; rfl, by rw [List.length_append]; omega, ?_⟩
      have hD4 := s4 _ _ hD3
      have s34 := s3.trans s4
      by_cases nin : tl (longM ss) (l ++ y) ∈ (List.range y.length).map fun i => tl (longM ss) (l ++ y.take i)
      · refine ⟨_, rfl, _, rfl, D, _, rfl, DGet.k (k := .inr (W (tl (longM ss) (l ++ y)))) hD4, _, rfl, iteBT (by rw [val_in nin]; rfl) ?_⟩
        refine k none H4 ⟨fun x z => (by cases z), fun _ x hx => ?_⟩ s34
        obtain ⟨z, rfl, hz⟩ := hP.pre hx
        obtain ⟨i, hi, e⟩ := List.mem_map.mp nin
        have hi' := List.mem_range.mp hi
        have t1 : (y ++ z).take i = y.take i := List.take_append_of_le_length (by omega)
        have t2 : (y ++ z).take y.length = y := List.take_left' rfl
        have := hx.apart hL (i := i) (j := y.length) (by rw [List.length_append]; omega) (by rw [List.length_append]; omega) (by rw [t1, t2]; exact e)
        omega
      · refine ⟨_, rfl, _, rfl, D, _, rfl, DGet.k (k := .inr (W (tl (longM ss) (l ++ y)))) hD4, _, rfl, iteBF (by rw [val_out nin]; rfl) ?_⟩
        refine ⟨_, rfl, _, rfl, D, _, rfl, DPut.k (k := .inr (W (tl (longM ss) (l ++ y)))) hD4 (by unfold kst; rw [List.length_map, List.length_map, List.length_range]; exact sl_lt (by omega)), ?_⟩
        rw [put_out nin]
        have ek : ((List.range y.length).map fun i => tl (longM ss) (l ++ y.take i)) ++ [tl (longM ss) (l ++ y)] = (List.range (y ++ [c]).length).map fun i => tl (longM ss) (l ++ (y ++ [c]).take i) := by
          rw [List.length_append, show [c].length = 1 from rfl, List.range_succ, List.map_append]
          congr 1
          · refine List.map_congr_left fun i hi => ?_
            have := List.mem_range.mp hi
            rw [List.take_append_of_le_length (by omega)]
          · show [tl (longM ss) (l ++ y)] = [tl (longM ss) (l ++ (y ++ [c]).take y.length)]
            rw [List.take_left' rfl]
        have hnd2 : ((List.range (y ++ [c]).length).map fun i => tl (longM ss) (l ++ (y ++ [c]).take i)).Nodup := by
          rw [← ek, List.nodup_append]
          exact ⟨hnd, by simp, fun x hx z hz e => nin (by rw [← List.mem_singleton.mp hz, ← e]; exact hx)⟩
        rw [ek]
        have s5 : Same H (upd H4 D (.dK (kst ((List.range (y ++ [c]).length).map fun i => tl (longM ss) (l ++ (y ++ [c]).take i))))) := fun c o e => by
          rw [upd_ne (ne_of_none e nD)]
          exact s34 _ _ e
        have hD5 : upd H4 D (.dK (kst ((List.range (y ++ [c]).length).map fun i => tl (longM ss) (l ++ (y ++ [c]).take i)))) D = some (.dK (kst ((List.range (y ++ [c]).length).map fun i => tl (longM ss) (l ++ (y ++ [c]).take i)))) := upd_same
        generalize upd H4 D (.dK (kst ((List.range (y ++ [c]).length).map fun i => tl (longM ss) (l ++ (y ++ [c]).take i)))) = H5 at s5 hD5
        have e3 : (W [c]).length = 1 := W_len _
        refine ⟨_, rfl, _, rfl, _, _, rfl, rfl, by rw [e2, e3]; exact sl_len (by omega), ?_⟩
        rw [W_cat]
        have e4 : (W (y ++ [c])).length = y.length + 1 := by rw [W_len, List.length_append]; rfl
        obtain ⟨dx5, t5, ha5⟩ := hat s5
        refine ⟨_, rfl, a, dx5, _, rfl, ha5, ruF_no _ _ (by decide +kernel) (by decide +kernel), _, rfl, _, rfl, _, _, rfl, rfl, by rw [e1, e4]; exact sl_len (by omega), ?_⟩
        refine ⟨a, fl, ss, l ++ (y ++ [c]), by rw [← W_cat l]; rfl, hR.same s5, fun H6 s6 => ?_⟩
        exact ⟨m - 1, by omega, y ++ [c], _, by rw [List.length_append]; show _ + 1 + _ = _; omega, hP.snoc hput, hnd2, rfl, s5.trans s6, s6 _ _ hD5⟩
end
end U
set_option maxRecDepth 100000
set_option maxHeartbeats 4000000
namespace U
open PySem PySem.Spec PyProof.Rows
open L2 hiding Fun CX0 E0 pass0 Fun.binds
open C8 Lx SX StX
theorem okR_of {ss : List Stf} {L : Nat} (kn : List (List Bool)) (hL : ∀ s ∈ ss, s.1.length ≤ L) (h0 : [] ∈ kn) (hx : ∀ w ∈ kn, ∀ b, ∃ x, Ins ss (w ++ [b]) x ∧ tl L (w ++ [b] ++ x) ∈ kn) : OkR ss := by
  have hr : ∀ l, Reach ss l → ∃ w ∈ kn, tl L w = tl L l := fun l r => by
    induction r with
    | nil => exact ⟨[], h0, rfl⟩
    | @next l x b r i ih =>
      obtain ⟨w, hw, e⟩ := ih
      obtain ⟨y, hy, hm⟩ := hx w hw b
      have e2 := tl_snoc (b := b) e
      have ey := (hy.tl hL e2).det i
      subst ey
      exact ⟨_, hm, by rw [tl_tl (Nat.le_refl L)]; exact tl_app e2 y⟩
  intro l r b
  obtain ⟨w, hw, e⟩ := hr l r
  obtain ⟨y, hy, _⟩ := hx w hw b
  exact ⟨y, hy.tl hL (tl_snoc e)⟩
def CldB (ss : List Stf) (ws : List (List Bool)) (n : Nat) (bs : List Bool) : Prop := ∀ j w b, ws[j]? = some w → (j < n ∨ (j = n ∧ b ∈ bs)) → ∃ x, Ins ss (w ++ [b]) x ∧ tl (longM ss) (w ++ [b] ++ x) ∈ ws
theorem CldB.more {ss : List Stf} {ws : List (List Bool)} {n : Nat} {bs : List Bool} {u : List Bool} (h : CldB ss ws n bs) (hn : n < ws.length) : CldB ss (ws ++ [u]) n bs := fun j w b e c => by
  have hj : j < ws.length := by rcases c with c | ⟨c, _⟩ <;> omega
  rw [List.getElem?_append_left hj] at e
  obtain ⟨x, h1, h2⟩ := h j w b e c
  exact ⟨x, h1, List.mem_append_left _ h2⟩
theorem CldB.bit {ss : List Stf} {ws : List (List Bool)} {n i : Nat} {b0 : Bool} {w0 x : List Bool} (h : CldB ss ws n ([false, true].take i)) (hb : [false, true][i]? = some b0) (hw : ws[n]? = some w0) (h1 : Ins ss (w0 ++ [b0]) x) (h2 : tl (longM ss) (w0 ++ [b0] ++ x) ∈ ws) : CldB ss ws n ([false, true].take (i + 1)) := fun j w b e c => by
  rcases c with c | ⟨c, m⟩
  · exact h j w b e (.inl c)
  · rw [List.take_add_one, hb] at m
    rcases List.mem_append.mp m with m | m
    · exact h j w b e (.inr ⟨c, m⟩)
    · subst c
      rw [hw] at e
      cases e
      rw [List.mem_singleton.mp m]
      exact ⟨x, h1, h2⟩
theorem CldB.next {ss : List Stf} {ws : List (List Bool)} {n : Nat} (h : CldB ss ws n [false, true]) : CldB ss ws (n + 1) [] := fun j w b e c => by
  refine h j w b e ?_
  rcases c with c | ⟨_, m⟩
  · rcases Nat.lt_or_eq_of_le (Nat.le_of_lt_succ c) with z | z
    · exact .inl z
    · exact .inr ⟨z, by cases b <;> simp⟩
  · cases m
theorem CldB.ok {ss : List Stf} {ws : List (List Bool)} {n : Nat} {bs : List Bool} (h : CldB ss ws n bs) (hn : ws.length ≤ n) (h0 : [] ∈ ws) : OkR ss :=
  okR_of ws (fun s hs => longM_le hs) h0 fun w hw b => by
    obtain ⟨j, hj, e⟩ := List.getElem_of_mem hw
    exact h j w b (by rw [List.getElem?_eq_getElem hj, e]) (.inl (by omega))
def spRuInitX (K : PySem.W.Frag) (C CI : Addr) : Sp := fun vs H Q E => ∃ (a dx s : Addr) (f : List Bool) (ps : List Addr) (kb : Addr → Stf), vs = [.ref a, .str (W f), .ref s] ∧ H a = some (.ins C dx []) ∧ Sq K H s (ps.map V.ref) ∧ StV H kb ps ∧ StOk (ps.map kb) ∧ f.length ≤ 1000 ∧
  (f.length < 2 → ∀ d H', (∀ b o, H b = some o → b ≠ a → H' b = some o) → H' d = some (.xd [("word", .str "flag")]) → E (.ref CI) (some d) H') ∧
  (2 ≤ f.length → OkR (ps.map kb) → ∀ H' ss, (∀ b o, H b = some o → b ≠ a → H' b = some o) → ss.Perm (ps.map kb) → SortedS ss → RuAt C H' a f ss → Q .non H') ∧
  (2 ≤ f.length → ¬ OkR (ps.map kb) → ∀ d H', (∀ b o, H b = some o → b ≠ a → H' b = some o) → H' d = some (.xd [("word", .str "endless")]) → E (.ref CI) (some d) H')
section
variable {P : Program} {w : World} {K : PySem.W.Frag} {mg : Str → Option Value} {base : Heap}
theorem met_is_endlessX {f C : Addr} {fd : FuncData} {tB : Tok} (F : C8.Fun K "is_endless" "Rule.is_endless" s_Rule_is_endless f fd) (me : Meth K C "is_endless" f) (b : Binds K fd ["self"] []) (T : Tx mg) (RT : RuT K C) (g_BITS : mg "BITS" = some (.str "01" tB))
    (c_put_inX : Met P w K mg base 3 C "put_in" (spPutInX C) []) (p_longest : Prp P w K mg base 1 C "longest" (spLongest C)) (c_tail : Cal P w K mg base 1 "tail" spTail []) : Met P w K mg base 4 C "is_endless" (spEndlessX C) [] := by
  refine met0 RT.cl me F b sc_Rule_is_endless (fun vs H Q E h => ?_) (fun cdv A outer s H vs Q E hr h => ?_)
  · obtain ⟨_, _, _, rfl, _⟩ := h; rfl
  · obtain ⟨a, fl, ss, rfl, hR, hn, h9, k⟩ := h
    have c_put_in := c_put_inX
    refine ⟨_, (pss_cons (ps_par3 (i := 1) (j := 2) (l := 3) (by rfl) sc_Rule_is_endless.nd rfl rfl rfl (by decide) (by decide) (by decide) rfl rfl rfl (pa_cons (pe_lst (pa_cons pe_str pa_nil)) (pa_cons (pe_disp (pps_cons pe_str pe_bl pps_nil) (by rfl) (by rfl) (fun z => by cases z) (by decide)) (pa_cons pe_int pa_nil))) (by rfl))
    (pss_cons (ps_while PassesOwn.never (pt_cmpR op_lt (pv 3) (pe_callB call_len_seq (by rfl) T.b_len (by decide +kernel) (pa_cons (pv 1) pa_nil)) (nomark _))
    (pss_cons (ps_for PassesOwn.never rfl (pi_str (pe_glob (v := .str "01") (by rfl) g_BITS ⟨_, rfl⟩)) (pg_name (i := 4) sc_Rule_is_endless.nd rfl (.inl rfl))
    (pss_cons (ps_set (i := 5) sc_Rule_is_endless.nd rfl (.inl rfl) (pe_op op_add_str (pe_ix ix_list (pv 1) (pv 3) (fun _ _ => rfl)) (pv 4)))
    (pss_cons (ps_set (i := 6) sc_Rule_is_endless.nd rfl (.inl rfl) (pe_mt (pl := _) c_put_in hr (by decide) (pv 0) (pa_cons (pv 5) pa_nil)))
    (pss_cons (ps_if (pt_cmpR op_isN (pv 6) pe_non (nomark _)) (pss_one (ps_ret pe_bl)) pss_nil)
    (pss_cons (ps_set (i := 7) sc_Rule_is_endless.nd rfl (.inl rfl) (pe_c c_tail hr (by decide) rfl (pa_cons (pe_op op_add_str (pv 5) (pv 6)) (pa_cons (pe_pr p_longest hr (by decide) (pv 0)) pa_nil))))
    (pss_one (ps_if (pt_cmp (pc_dnotin (hu_of hr) (pv 7) (pv 2))) (pss_cons (ps_dput (hu_of hr) (pv 2) (pv 7) pe_bl rfl)
    (pss_one (ps_expr (pe_bm PySem.F.plainAttrs_list PySem.F.slot_list_append PySem.F.type_list_append mt_append (pv 1) (pa_cons (pv 7) pa_nil))))) pss_nil)))))))
    (pss_one (ps_aug (i := 3) sc_Rule_is_endless.nd rfl (.inl rfl) pe_int ip_add))))
    (pss_one (ps_ret pe_bl)))), ?_⟩
    have hL : ∀ s ∈ ss, s.1.length ≤ longM ss := fun s hs => longM_le hs
    have hpw := p10 h9
    have hat : ∀ {H2 : Hp}, Same H H2 → ∃ dx t, H2 a = some (.ins C dx (ruF fl t)) := fun s2 => by
      obtain ⟨dx, t, _, _, ha, _⟩ := hR.same s2
      exact ⟨dx, t, ha⟩
    refine ⟨by show 1 ≤ sizeLine; decide, fun q nq d nd => ⟨upd_same, [(.inr "", .bl true)], rfl, by decide, _, _, _, rfl, ?_⟩⟩
    have nqd : q ≠ d := fun z => by rw [← z, upd_same] at nd; cases nd
    have b0 : Bfs ss H (upd (upd (upd H q (.lst [.str ""])) d (.dK [])) d (.dK (mergeK [] [(.inr "", .bl true)]))) q d [[]] := by
      refine ⟨fun c o e => ?_, ?_, ?_, ?_, ?_, ?_⟩
      · have n1 := ne_of_none e nq
        have n2 : c ≠ d := fun z => by rw [z] at e n1; rw [upd_ne n1, e] at nd; cases nd
        rw [upd_ne n2, upd_ne n2, upd_ne n1]
        exact e
      · rw [upd_ne nqd, upd_ne nqd, upd_same, W_nil]; rfl
      · rw [upd_same, W_nil]; rfl
      · simp
      · intro w hw; rw [List.mem_singleton.mp hw]; exact Nat.zero_le _
      · intro w hw; rw [List.mem_singleton.mp hw]; exact ⟨[], .nil, by unfold tl; rw [List.drop_nil]⟩
    have nq0 : H q = none := nq
    have nd0 : H d = none := by
      cases e : H d with
      | none => rfl
      | some o => rw [upd_ne (Ne.symm nqd), e] at nd; cases nd
    generalize upd (upd (upd H q (.lst [.str ""])) d (.dK [])) d (.dK (mergeK [] [(.inr "", .bl true)])) = H1 at b0
    refine ⟨fun m σ H2 => ∃ (n : Nat) (ws : List (List Bool)) (v4 v5 v6 v7 : Option V), σ = [some (.ref a), some (.ref q), some (.ref d), some (.int n), v4, v5, v6, v7] ∧ Bfs ss H H2 q d ws ∧ n ≤ ws.length ∧ m + n = 2 ^ (longM ss + 1) ∧ CldB ss ws n [] ∧ [] ∈ ws,
      ⟨2 ^ (longM ss + 1), 0, [[]], none, none, none, none, rfl, b0, Nat.zero_le _, by omega, fun j w b _ c => (by rcases c with c | ⟨_, c⟩ <;> cases c), List.mem_singleton.mpr rfl⟩, ?_⟩
    rintro m σ H2 ⟨n, ws, v4, v5, v6, v7, rfl, B2, hn2, hm, hc2, h02⟩
    have few2 := B2.few
    refine ⟨_, rfl, _, rfl, q, _, rfl, .inl (SqL.of B2.wait), _, _, rfl, rfl, _, rfl, ?_⟩
    rw [List.length_map]
    by_cases hlt : n < ws.length
    · refine iteDT (by omega) ?_
      refine ⟨fun σ' H' => ∃ m', m' < m ∧ ∃ (n : Nat) (ws : List (List Bool)) (v4 v5 v6 v7 : Option V), σ' = [some (.ref a), some (.ref q), some (.ref d), some (.int n), v4, v5, v6, v7] ∧ Bfs ss H H' q d ws ∧ n ≤ ws.length ∧ m' + n = 2 ^ (longM ss + 1) ∧ CldB ss ws n [] ∧ [] ∈ ws, fun _ _ h => h, ?_⟩
      refine ⟨_, rfl, for_it walk_str (fun i σ H3 => ∃ (ws : List (List Bool)) (v4 v5 v6 v7 : Option V), σ = [some (.ref a), some (.ref q), some (.ref d), some (.int n), v4, v5, v6, v7] ∧ Bfs ss H H3 q d ws ∧ n < ws.length ∧ CldB ss ws n ([false, true].take i) ∧ [] ∈ ws) ⟨ws, _, _, _, _, rfl, B2, hlt, hc2, h02⟩ (fun _ _ _ _ _ => trivial) ?_ ?_⟩
      · rintro i x σ H3 H3' hi ⟨ws, v4, v5, v6, v7, rfl, B3, hlt3, hc3, h03⟩ ⟨rfl, c, hc, rfl⟩
        have e01 : ("01" : Str) = W [false, true] := by decide +kernel
        rw [e01] at hc
        obtain ⟨bb, hbb, rfl⟩ := W_get hc
        have hwn : ws[n]? = some ws[n] := List.getElem?_eq_getElem hlt3
        have hw : (ws.map fun w => V.str (W w))[n]? = some (.str (W ws[n])) := by rw [List.getElem?_map, List.getElem?_eq_getElem hlt3]; rfl
        have hmem : ws[n] ∈ ws := List.getElem_mem hlt3
        generalize ws[n] = w0 at hw hmem hwn
        have hs0 := B3.short _ hmem
        have few3 := B3.few
        obtain ⟨l0, hr0, e0⟩ := B3.reach _ hmem
        have ht0 : tl (longM ss) l0 = tl (longM ss) w0 := by rw [← e0, tl_tl (Nat.le_refl _)]
        have ew : W w0 ++ (⟨#[bt bb]⟩ : Str) = W (w0 ++ [bb]) := W_cat w0 [bb]
        have el : (W w0).length + (⟨#[bt bb]⟩ : Str).length ≤ sizeLine := by
          have e1 : (W w0).length = w0.length := W_len _
          have e2 : (⟨#[bt bb]⟩ : Str).length = 1 := W_len [bb]
          rw [e1, e2]; exact sl_len (by omega)
        refine ⟨_, rfl, _, rfl, q, _, _, _, rfl, rfl, SqL.of B3.wait, atI_nat hw, _, rfl, _, _, rfl, rfl, el, ?_⟩
        rw [ew]
        obtain ⟨dx3, t3, ha3⟩ := hat B3.same
        have hl1 : (w0 ++ [bb]).length ≤ 14 := by rw [List.length_append, List.length_cons, List.length_nil]; omega
        refine ⟨_, rfl, a, dx3, _, rfl, ha3, ruF_no _ _ (by decide +kernel) (by decide +kernel), _, rfl, a, fl, ss, w0 ++ [bb], rfl, hR.same B3.same, hn, h9, by omega, fun o H4 ho s4 => ?_⟩
        have B4 := B3.on s4
        cases o with
        | none =>
          refine ⟨_, rfl, rfl, _, rfl, iteDT rfl ?_⟩
          refine k true H4 ⟨fun _ hO => ?_, fun _ => rfl⟩ B4.same
          obtain ⟨y, hy⟩ := hO l0 hr0 bb
          exact ho.2 rfl y (hy.tl hL (tl_snoc ht0))
        | some y =>
        have hy' := ho.1 y rfl
        have hy : Ins ss (l0 ++ [bb]) y := hy'.tl hL (tl_snoc (b := bb) ht0.symm)
        have hyl := hy.len hL
        have hnx : tl (longM ss) (l0 ++ [bb] ++ y) = tl (longM ss) (w0 ++ [bb] ++ y) := tl_app (tl_snoc (b := bb) ht0) y
        have hrn : Reach ss (l0 ++ [bb] ++ y) := .next hr0 hy
        refine ⟨_, rfl, rfl, _, rfl, iteDF (fun z => by cases z) ?_⟩
        obtain ⟨dx4, t4, ha4⟩ := hat B4.same
        have e3 : (W (w0 ++ [bb])).length = (w0 ++ [bb]).length := W_len _
        have e4 : (W y).length = y.length := W_len _
        refine ⟨_, rfl, _, rfl, _, _, rfl, rfl, by rw [e3, e4]; exact sl_len (by omega), _, rfl, a, dx4, _, rfl, ha4, a, fl, ss, rfl, hR.same B4.same, hn, fun s hs => Nat.le_trans (longM_le hs) (by omega), fun H5 s5 => ?_⟩
        have B5 := B4.on s5
        refine ⟨w0 ++ [bb] ++ y, longM ss, by rw [← W_cat (w0 ++ [bb]) y]; rfl, by rw [List.length_append]; omega, ?_⟩
        refine ⟨_, rfl, _, rfl, d, _, rfl, DGet.k (k := .inr (W (tl (longM ss) (w0 ++ [bb] ++ y)))) B5.known, _, rfl, ?_⟩
        by_cases hin : tl (longM ss) (w0 ++ [bb] ++ y) ∈ ws
        · refine iteBF (by rw [val_in hin]; rfl) ?_
          exact ⟨ws, _, _, _, _, rfl, B5, hlt3, hc3.bit hbb hwn hy' hin, h03⟩
        · refine iteBT (by rw [val_out hin]; rfl) ?_
          refine ⟨_, rfl, _, rfl, d, _, rfl, DPut.k (k := .inr (W (tl (longM ss) (w0 ++ [bb] ++ y)))) B5.known (by unfold kst; rw [List.length_map]; exact sl_lt (by omega)), ?_⟩
          rw [put_out hin]
          have hW6 : upd H5 d (.dK (kst (ws ++ [tl (longM ss) (w0 ++ [bb] ++ y)]))) q = some (.lst (ws.map fun w => V.str (W w))) := by rw [upd_ne nqd]; exact B5.wait
          refine ⟨_, rfl, .inl ⟨rfl, _, SqL.of hW6⟩, _, rfl, q, _, _, rfl, rfl, hW6, by rw [List.length_map]; exact sl_lt (by omega), ?_⟩
          refine ⟨ws ++ [tl (longM ss) (w0 ++ [bb] ++ y)], _, _, _, _, rfl, ⟨fun c o e => ?_, ?_, ?_, ?_, ?_, ?_⟩, ?_, ?_, List.mem_append_left _ h03⟩
          · rw [upd_ne (ne_of_none e nq0), upd_ne (ne_of_none e nd0)]
            exact B5.same _ _ e
          · rw [upd_same, List.map_append]; rfl
          · rw [upd_ne (Ne.symm nqd), upd_same]
          · rw [List.nodup_append]
            refine ⟨B5.nodup, by simp, fun u hu v hv e => ?_⟩
            rw [List.mem_singleton.mp hv] at e
            exact hin (e ▸ hu)
          · intro u hu
            rcases List.mem_append.mp hu with m | m
            · exact B5.short _ m
            · rw [List.mem_singleton.mp m]; exact tl_le _ _
          · intro u hu
            rcases List.mem_append.mp hu with m | m
            · exact B5.reach _ m
            · rw [List.mem_singleton.mp m]; exact ⟨_, hrn, hnx⟩
          · rw [List.length_append]; omega
          · exact (hc3.more hlt3).bit hbb (by rw [List.getElem?_append_left hlt3]; exact hwn) hy' (List.mem_append_right _ (List.mem_singleton.mpr rfl))
      · rintro σ H3 ⟨ws, v4, v5, v6, v7, rfl, B3, hlt3, hc3, h03⟩
        refine ⟨_, rfl, _, _, rfl, rfl, ?_⟩
        refine ⟨m - 1, by omega, n + 1, ws, _, _, _, _, rfl, B3, hlt3, by omega, CldB.next hc3, h03⟩
    · refine iteDF (by omega) ?_
      exact k false H2 ⟨fun z => by (cases z), fun z => absurd (hc2.ok (by omega) h02) z⟩ B2.same
theorem ok_Rule_initX {f C CI : Addr} {fd : FuncData} (F : C8.Fun K "__init__" "Rule.__init__" s_Rule_init f fd) (T : Tx mg) (RT : RuT K C) (x_InvalidRule : ExS.XMk P w K mg base 1 "InvalidRule" CI "word") (c_is_word : Cal P w K mg base 1 "is_word" (spIsWord K) []) (c_are_stuffs : Cal P w K mg base 4 "are_stuffs" (spAre K) []) (c_is_endlessX : Met P w K mg base 4 C "is_endless" (spEndlessX C) []) :
    FnOk P w K mg base (L2.CX P w) 5 f fd ["self", "flag", "stuffs"] (spRuInitX K C CI) := by
  refine ExS.fnR F sc_Rule_init (fun vs H Q E h => ?_) (fun cdv A outer s H vs Q E hr h => ?_)
  · obtain ⟨_, _, _, _, _, _, rfl, _⟩ := h; rfl
  · obtain ⟨a, dx, sq, fl, ps, kb, rfl, ha, hS, hs, ok, hl, kF, k, kE⟩ := h
    have c_is_endless := c_is_endlessX
    refine ⟨_, (pss_cons (ps_if (PW.pt (pw_or (pt_not (pt_val (pe_c c_is_word hr (by decide) rfl (pa_cons (pv 1) pa_nil)))) (pw_or1 (pt_cmpR op_lt (pe_callB call_len_str (by rfl) T.b_len (by decide +kernel) (pa_cons (pv 1) pa_nil)) pe_int (nomark _))))) (pss_one (ps_raise rfl (takes_of rfl rfl rfl rfl) (ExS.pmk_x x_InvalidRule hr (by decide) rfl (pa_cons pe_str pa_nil)))) pss_nil)
    (pss_cons (ps_if (pt_not (pt_val (pe_c c_are_stuffs hr (by decide) rfl (pa_cons (pv 2) pa_nil)))) (pss_one (ps_raise rfl (takes_of rfl rfl rfl rfl) (ExS.pmk_x x_InvalidRule hr (by decide) rfl (pa_cons pe_str pa_nil)))) pss_nil)
    (pss_cons (ps_fld (pv 0) (pv 1) rfl)
    (pss_cons (ps_fld (pv 0) (pe_callTy call_tuple_of (by rfl) T.b_tuple (by decide +kernel) (pa_cons (pe_callB cr_sortedT (by rfl) T.b_sorted (by decide +kernel) (pa_cons (pv 2) pa_nil)) pa_nil)) rfl)
    (pss_one (ps_if (pt_val (pe_mt0 (pl := _) c_is_endless hr (by decide) (pv 0))) (pss_one (ps_raise rfl (takes_of rfl rfl rfl rfl) (ExS.pmk_x x_InvalidRule hr (by decide) rfl (pa_cons pe_str pa_nil)))) pss_nil)))))), ?_⟩
    have lf : (W fl).length = fl.length := W_len fl
    refine ⟨_, rfl, _, rfl, .inl ⟨_, rfl, by rw [lf]; omega, fun H1 s1 => ⟨_, rfl, iteBF (by rw [isW_W]; rfl) ?_⟩⟩⟩
    refine ⟨_, rfl, _, rfl, by rw [lf]; exact sl_len (by omega), _, _, rfl, rfl, _, rfl, ?_⟩
    by_cases h2 : fl.length < 2
    · refine iteDT (by rw [lf]; omega) ?_
      exact ExS.rd_x fun d H' s' _ hd => kF h2 d H' (fun b o e _ => (s1.trans s') _ _ e) hd
    replace k := k (by omega)
    replace kE := kE (by omega)
    refine iteDF (by rw [lf]; omega) ?_
    refine ⟨_, rfl, sq, ps, kb, rfl, hS.same s1, hs.same s1, ok, fun H2 s2 => ⟨_, rfl, ?_⟩⟩
    have s02 := s1.trans s2
    have ha2 := s02 _ _ ha
    refine ⟨_, rfl, _, rfl, a, C, dx, _, rfl, ha2, RT.cl, RT.nF, by decide, ?_⟩
    have keep3 : ∀ c o, H c = some o → c ≠ a → upd H2 a (.ins C dx (putF "flag" (.str (W fl)) [])) c = some o := fun c o e n => by rw [upd_ne n]; exact s02 _ _ e
    have ha3 : upd H2 a (.ins C dx (putF "flag" (.str (W fl)) [])) a = some (.ins C dx (putF "flag" (.str (W fl)) [])) := upd_same
    have hs3 : StV (upd H2 a (.ins C dx (putF "flag" (.str (W fl)) []))) kb ps := fun t ht => keep3 _ _ (hs t ht) (ne_of (hs t ht) ha (by intro z; cases z))
    have hS3 : SqL K (upd H2 a (.ins C dx (putF "flag" (.str (W fl)) []))) sq (ps.map V.ref) ∨ SqT K (upd H2 a (.ins C dx (putF "flag" (.str (W fl)) []))) sq (ps.map V.ref) := by
      rcases hS with ((h | ⟨o, h⟩) | h) | ((h | ⟨o, h⟩) | h)
      · exact .inl (.inl (.inl (keep3 _ _ h (ne_of h ha (by intro z; cases z)))))
      · exact .inl (.inl (.inr ⟨o, keep3 _ _ h (ne_of h ha (by intro z; cases z))⟩))
      · exact .inl (.inr h)
      · exact .inr (.inl (.inl (keep3 _ _ h (ne_of h ha (by intro z; cases z)))))
      · exact .inr (.inl (.inr ⟨o, keep3 _ _ h (ne_of h ha (by intro z; cases z))⟩))
      · exact .inr (.inr h)
    generalize upd H2 a (.ins C dx (putF "flag" (.str (W fl)) [])) = H3 at keep3 ha3 hs3 hS3
    refine ⟨_, rfl, sq, ps, fun t => key (kb t), rfl, hS3, fun t ht => hs3 t ht, fun qs p1 srt prm n1 => ?_⟩
    refine ⟨p1, _, rfl, .inl ⟨SqL.of upd_same, fun p2 n2 => ?_⟩⟩
    have s5 : Same H3 (upd (upd H3 p1 (.lst (qs.map V.ref))) p2 (.tup (qs.map V.ref))) := (same_upd n1).trans (same_upd n2)
    have hT5 : upd (upd H3 p1 (.lst (qs.map V.ref))) p2 (.tup (qs.map V.ref)) p2 = some (.tup (qs.map V.ref)) := upd_same
    generalize upd (upd H3 p1 (.lst (qs.map V.ref))) p2 (.tup (qs.map V.ref)) = H5 at s5 hT5
    have ha5 := s5 _ _ ha3
    refine ⟨_, rfl, a, C, dx, _, rfl, ha5, RT.cl, RT.nS, by show 1 < 1000; decide, ?_⟩
    have na2 : p2 ≠ a := ne_of hT5 ha5 (by intro z; cases z)
    have keep6 : ∀ c o, H3 c = some o → c ≠ a → upd H5 a (.ins C dx (putF "stuffs" (.ref p2) (putF "flag" (.str (W fl)) []))) c = some o := fun c o e n => by rw [upd_ne n]; exact s5 _ _ e
    have ha6 : upd H5 a (.ins C dx (putF "stuffs" (.ref p2) (putF "flag" (.str (W fl)) []))) a = some (.ins C dx (ruF fl p2)) := upd_same
    have hT6 : upd H5 a (.ins C dx (putF "stuffs" (.ref p2) (putF "flag" (.str (W fl)) []))) p2 = some (.tup (qs.map V.ref)) := by rw [upd_ne na2]; exact hT5
    generalize upd H5 a (.ins C dx (putF "stuffs" (.ref p2) (putF "flag" (.str (W fl)) []))) = H6 at keep6 ha6 hT6
    have hs6 : StV H6 kb qs := StV.perm (fun t ht => keep6 _ _ (hs3 t ht) (ne_of (hs3 t ht) ha3 (by intro z; cases z))) prm
    have pm : (qs.map kb).Perm (ps.map kb) := prm.map kb
    have hR6 : RuAt C H6 a fl (qs.map kb) := ⟨dx, p2, qs, kb, ha6, hT6, hs6, rfl⟩
    have ok6 := ok.perm pm.symm
    have oeq : OkR (qs.map kb) ↔ OkR (ps.map kb) := ⟨fun o => o.congr fun l => put_perm ok6.free pm l, fun o => o.congr fun l => put_perm ok.free pm.symm l⟩
    refine ⟨_, rfl, a, dx, _, rfl, ha6, ruF_no _ _ (by decide +kernel) (by decide +kernel), a, fl, qs.map kb, rfl, hR6, ok6.few, ok6.long, fun b7 H7 hb7 s7 => ⟨_, rfl, ?_⟩⟩
    have keep7 : ∀ c o, H c = some o → c ≠ a → H7 c = some o := fun c o e n => s7 _ _ (keep6 _ _ (keep3 _ _ e n) n)
    cases b7 with
    | false =>
      have hO : OkR (ps.map kb) := Classical.byContradiction fun z => by
        have := hb7.mpr fun y => z (oeq.mp y)
        cases this
      exact k hO H7 (qs.map kb) keep7 pm (pwS srt) (hR6.same s7)
    | true =>
      have hO : ¬ OkR (ps.map kb) := fun z => hb7.mp rfl (oeq.mpr z)
      exact ExS.rd_x fun d H' s' _ hd => kE hO d H' (fun b o e n => s' _ _ (keep7 _ _ e n)) hd
end
end U
set_option maxRecDepth 100000
set_option maxHeartbeats 4000000
namespace U
open PySem PySem.Spec PyProof.Rows
open L2 hiding Fun CX0 E0 pass0 Fun.binds
open C8 Lx SX StX
abbrev WW := List Bool × List Bool
def StW (H : Hp) (kb : Addr → WW) (ps : List Addr) : Prop := ∀ t ∈ ps, H t = some (.tup [.str (W (kb t).1), .str (W (kb t).2)])
def goodB (x : WW) : Bool := decide (0 < x.1.length) && decide (x.2.length = 1)
def restB (xs : List WW) (i : Nat) : Bool := match xs[i]? with
  | some a => (xs.take i ++ xs.drop (i + 1)).any fun b => b.1.isSuffixOf a.1
  | none => false
def areB (xs : List WW) : Bool := xs.all goodB && !((List.range xs.length).any (restB xs))
def spAreX (K : PySem.W.Frag) : Sp := fun vs H Q _ => ∃ (a : Addr) (ps : List Addr) (kb : Addr → WW), vs = [.ref a] ∧ Sq K H a (ps.map V.ref) ∧ StW H kb ps ∧ ps.length ≤ 1000 ∧ (∀ p ∈ ps, (kb p).1.length ≤ 1000 ∧ (kb p).2.length ≤ 1000) ∧ ∀ H', Same H H' → Q (.bl (areB (ps.map kb))) H'
def spBitX : Sp := fun vs H Q _ => ∃ l : List Bool, vs = [.str (W l)] ∧ l.length ≤ 1000 ∧ ∀ H', Same H H' → Q (.bl (decide (l.length = 1))) H'
def spStuffX : Sp := fun vs H Q _ => ∃ (t : Addr) (x : WW), vs = [.ref t] ∧ H t = some (.tup [.str (W x.1), .str (W x.2)]) ∧ x.1.length ≤ 1000 ∧ x.2.length ≤ 1000 ∧ ∀ H', Same H H' → Q (.bl (goodB x)) H'
section
variable {P : Program} {w : World} {K : PySem.W.Frag} {mg : Str → Option Value} {base : Heap}
theorem cal_is_bitX {f : Addr} {fd : FuncData} (F : Def K mg "is_bit" s_is_bit f fd) (b : Binds K fd ["value"] []) (T : Tx mg) (c_is_word : Cal P w K mg base 1 "is_word" (spIsWord K) []) : Cal P w K mg base 2 "is_bit" spBitX [] := by
  refine cal0 F b .nil sc_is_bit (fun vs H Q E h => ?_) (fun cdv A outer s H vs Q E hr h => ?_)
  · obtain ⟨_, rfl, _⟩ := h; rfl
  · obtain ⟨l, rfl, hl, k⟩ := h
    refine ⟨_, (pss_one (ps_ret (pe_and (pe_c c_is_word hr (by decide) rfl (pa_cons (pv 0) pa_nil)) (pe_one (pe_cmpR op_eq (pe_callB call_len_str (by rfl) T.b_len (by decide +kernel) (pa_cons (pv 0) pa_nil)) pe_int (nomark _)))))), ?_⟩
    have l1 : (W l).length = l.length := W_len _
    refine ⟨_, rfl, _, rfl, .inl ⟨_, rfl, by rw [l1]; omega, fun H1 s1 => ⟨_, rfl, iteBT (isW_W _) ?_⟩⟩⟩
    refine ⟨_, rfl, _, rfl, by rw [l1]; exact sl_len (by omega), rfl, ?_⟩
    have e : decide (V.int (((W l).length : Nat) : Int) = V.int 1) = decide (l.length = 1) := by
      rw [decide_eq_decide, l1]
      exact ⟨fun z => by have := V.int.inj z; omega, fun z => by rw [z]; rfl⟩
    have kk := k H1 s1
    rw [← e] at kk
    exact kk
theorem cal_is_stuffX {f : Addr} {fd : FuncData} (F : Def K mg "is_stuff" s_is_stuff f fd) (b : Binds K fd ["value"] []) (T : Tx mg) (c_is_word : Cal P w K mg base 1 "is_word" (spIsWord K) []) (c_is_bitX : Cal P w K mg base 2 "is_bit" spBitX []) : Cal P w K mg base 3 "is_stuff" spStuffX [] := by
  refine cal0 F b .nil sc_is_stuff (fun vs H Q E h => ?_) (fun cdv A outer s H vs Q E hr h => ?_)
  · obtain ⟨_, _, rfl, _⟩ := h; rfl
  · obtain ⟨t, x, rfl, ht, hl, hl2, k⟩ := h
    have c_is_bit := c_is_bitX
    refine ⟨_, (pss_cons (ps_if (PW.pt (pw_or (pt_not (pt_val (pe_callB call_isi (by rfl) T.b_isinstance (by decide +kernel) (pa_cons (pv 0) (pa_cons (pe_bltn (v := .ty "tuple") (u := .type "tuple") (by rfl) T.b_tuple (by decide +kernel) rfl) pa_nil))))) (pw_or1 (pt_cmpR op_ne (pe_callB call_len_seq (by rfl) T.b_len (by decide +kernel) (pa_cons (pv 0) pa_nil)) pe_int (nomark _))))) (pss_one (ps_ret pe_bl)) pss_nil)
    (pss_one (ps_ret (pe_and (pe_c c_is_word hr (by decide) rfl (pa_cons (pe_ix ix_tup (pv 0) pe_int (fun _ _ => rfl)) pa_nil)) (pe_and (pe_cmpR op_gt (pe_callB call_len_str (by rfl) T.b_len (by decide +kernel) (pa_cons (pe_ix ix_tup (pv 0) pe_int (fun _ _ => rfl)) pa_nil)) pe_int (nomark _)) (pe_one (pe_c c_is_bit hr (by decide) rfl (pa_cons (pe_ix ix_tup (pv 0) pe_int (fun _ _ => rfl)) pa_nil)))))))), ?_⟩
    have lp : (W x.1).length ≤ sizeLine := by rw [W_len]; exact sl_len (by omega)
    refine ⟨_, rfl, _, _, _, _, true, rfl, .ty _, .base (.tup ht), kit_ty (by decide +kernel), _, rfl, ?_⟩
    refine ⟨_, rfl, t, _, rfl, .inr (SqT.of ht), rfl, _, rfl, iteNS rfl ?_⟩
    refine ⟨_, rfl, t, _, 0, _, rfl, rfl, SqT.of ht, rfl, _, rfl, .inl ⟨_, rfl, by rw [W_len]; omega, fun H1 s1 => ⟨_, rfl, iteBT (isW_W _) ?_⟩⟩⟩
    have ht1 := s1 _ _ ht
    refine ⟨_, rfl, t, _, 0, _, rfl, rfl, SqT.of ht1, rfl, _, rfl, lp, ?_⟩
    by_cases c : 0 < x.1.length
    · refine ⟨_, _, rfl, rfl, _, rfl, iteDT (by rw [W_len]; omega) ?_⟩
      refine ⟨_, rfl, t, _, 1, _, rfl, rfl, SqT.of ht1, rfl, x.2, rfl, hl2, fun H2 s2 => ?_⟩
      have kk := k H2 (s1.trans s2)
      have e : goodB x = decide (x.2.length = 1) := by unfold goodB; rw [decide_eq_true c]; rfl
      rw [e] at kk
      exact kk
    · refine ⟨_, _, rfl, rfl, _, rfl, iteDF (by rw [W_len]; omega) ?_⟩
      have kk := k H1 s1
      have e : goodB x = false := by unfold goodB; rw [decide_eq_false c]; rfl
      rw [e] at kk
      exact kk
theorem cal_are_stuffsX {f : Addr} {fd : FuncData} (F : Def K mg "are_stuffs" s_are_stuffs f fd) (b : Binds K fd ["value"] []) (T : Tx mg) (c_is_sequence : Cal P w K mg base 1 "is_sequence" (spIsSeq K) []) (c_is_stuffX : Cal P w K mg base 3 "is_stuff" spStuffX []) : Cal P w K mg base 4 "are_stuffs" (spAreX K) [] := by
  refine cal0 F b .nil sc_are_stuffs (fun vs H Q E h => ?_) (fun cdv A outer s H vs Q E hr h => ?_)
  · obtain ⟨_, _, _, rfl, _⟩ := h; rfl
  · obtain ⟨a, ps, kb, rfl, hS, hs, hn, hw, k⟩ := h
    have c_is_stuff := c_is_stuffX
    refine ⟨_, (pss_cons (ps_if (PW.pt (pw_or (pt_not (pt_val (pe_c c_is_sequence hr (by decide) rfl (pa_cons (pv 0) pa_nil)))) (pw_or1 (pt_not (pt_val (pe_callB (cr_all rfl) (by rfl) T.b_all (by decide +kernel) (pa_cons (pe_lc (own := [("one", 1)]) (g := gName 1) (by rfl) sc_are_stuffs.nd (pi_seq (pv 0)) (blkOk_by (own := [("one", 1)]) (N := ["value", "one", "at", "stuff", "rest", "pattern", "bit"]) (sc := fnScope s_are_stuffs) (by decide +kernel)) (fun _ _ _ _ _ => (pg_name (i := 1) sc_are_stuffs.nd rfl (.inl rfl))) (fun _ _ _ _ _ => pts_nil) (fun _ _ _ _ _ => (pe_c c_is_stuff hr (by decide) rfl (pa_cons (pv 1) pa_nil)))) pa_nil))))))) (pss_one (ps_ret pe_bl)) pss_nil)
    (pss_cons (ps_for PassesOwn.never rfl (pi_enumQ (by rfl) T.b_enumerate (pa_cons (pv 0) pa_nil)) (pg_tup rfl (pgs_cons (pg_name (i := 2) sc_are_stuffs.nd rfl (.inl rfl)) (pgs_cons (pg_name (i := 3) sc_are_stuffs.nd rfl (.inr rfl)) pgs_nil)))
    (pss_cons (ps_set (i := 4) sc_are_stuffs.nd rfl (.inl rfl) (pe_lst (pa_star (pe_slice (SlR.or sl_list sl_tupA) (pv 0) po_none (po_some (pv 2))) (pa_star (pe_slice (SlR.or sl_list sl_tupA) (pv 0) (po_some (pe_op op_add (pv 2) pe_int)) po_none) pa_nil))))
    (pss_one (ps_if (pt_val (pe_callB (cr_any rfl) (by rfl) T.b_any (by decide +kernel) (pa_cons (pe_lc (own := [("pattern", 5), ("bit", 6)]) (g := gTup K 2 (gCons (gName 5) (gCons (gName 6) gNil))) (by rfl) sc_are_stuffs.nd (pi_list (pv 4)) (blkOk_by (own := [("pattern", 5), ("bit", 6)]) (N := ["value", "one", "at", "stuff", "rest", "pattern", "bit"]) (sc := fnScope s_are_stuffs) (by decide +kernel)) (fun _ _ _ _ _ => (pg_tup rfl (pgs_cons (pg_name (i := 5) sc_are_stuffs.nd rfl (.inl rfl)) (pgs_cons (pg_name (i := 6) sc_are_stuffs.nd rfl (.inl rfl)) pgs_nil)))) (fun _ _ _ _ _ => pts_nil) (fun _ _ _ _ _ => (pe_m1 PySem.F.slot_str_endswith PySem.F.type_str_endswith mt_endswith (pe_ix (show IxR _ (rIxT K) from ix_tup) (pv 3) pe_int (fun _ _ => rfl)) (pv 5)))) pa_nil))) (pss_one (ps_ret pe_bl)) pss_nil))))
    (pss_one (ps_ret pe_bl)))), ?_⟩
    refine ⟨_, rfl, a, _, rfl, hS, fun H1 s1 => ⟨_, rfl, ?_⟩⟩
    have hS1 := hS.same s1
    refine iSeq_var rfl hS1 fun J G hG wk D nD => ?_
    refine lc_it wk (fun i H2 => Same H1 H2 ∧ H2 D = some (.lst (((ps.take i).map fun q => goodB (kb q)).map V.bl))) ⟨same_upd nD, upd_same⟩ (fun i H2 _ h2 => hG _ h2.1) ?_ ?_
    · rintro i x H2 H3 hi ⟨s2, hD⟩ ⟨rfl, hx⟩
      rw [List.getElem?_map] at hx
      obtain ⟨q, hq, rfl⟩ := Option.map_eq_some_iff.mp hx
      have hqm : q ∈ ps := List.mem_of_getElem? hq
      rw [List.length_map] at hi
      refine ⟨rfl, ?_⟩
      refine ⟨_, rfl, q, kb q, rfl, (s1.trans s2) _ _ (hs q hqm), (hw q hqm).1, (hw q hqm).2, fun H4 s4 => ⟨_, s4 _ _ hD, ?_, ?_, ?_⟩⟩
      · rw [List.length_map, List.length_map, List.length_take]; exact sl_lt (by omega)
      · intro c' o e
        rw [upd_ne (ne_of_none e nD)]
        exact (s2.trans s4) _ _ e
      · rw [upd_same, List.take_add_one, hq, List.map_append, List.map_append]; rfl
    · rintro H2 ⟨s2, hD⟩
      rw [List.take_of_length_le (by rw [List.length_map]; exact Nat.le_refl _)] at hD
      refine ⟨D, _, rfl, SqL.of hD, _, rfl, ?_⟩
      have et : ((ps.map fun q => goodB (kb q)).all id) = (ps.map kb).all goodB := by rw [List.all_map, List.all_map]; rfl
      rw [et]
      cases hall : (ps.map kb).all goodB with
      | false =>
        refine iteBT rfl ?_
        have kk := k H2 (s1.trans s2)
        have e : areB (ps.map kb) = false := by unfold areB; rw [hall]; rfl
        rw [e] at kk
        exact kk
      | true =>
      refine iteBF rfl ?_
      have hS2 := hS1.same s2
      have s02 := s1.trans s2
      refine iEnumQ_var rfl hS2 fun J G hG wk => ?_
      refine for_it wk (fun i σ H3 => ∃ v1 v2 v3 v4 v5 v6 : Option V, σ = [some (.ref a), v1, v2, v3, v4, v5, v6] ∧ Same H2 H3 ∧ ∀ i' < i, restB (ps.map kb) i' = false) ⟨none, none, none, none, none, none, rfl, Same.refl _, fun _ h => absurd h (Nat.not_lt_zero _)⟩ (fun i σ H3 _ h3 => by obtain ⟨_, _, _, _, _, _, _, s3, _⟩ := h3; exact hG _ s3) ?_ ?_
      · rintro i x σ H3 H4 hi ⟨v1, v2, v3, v4, v5, v6, rfl, s3, hno⟩ ⟨T', y1, y2, rfl, nT, rfl, h1, h2⟩
        cases h1
        replace h2 : (ps.map V.ref)[i]? = some y2 := h2
        rw [List.getElem?_map] at h2
        obtain ⟨q, hq, rfl⟩ := Option.map_eq_some_iff.mp h2
        have hqm : q ∈ ps := List.mem_of_getElem? hq
        refine ⟨T', _, rfl, SqT.of upd_same, rfl, _, _, rfl, _, _, rfl, rfl, ?_⟩
        have s4 : Same H2 (upd H3 T' (.tup [.int (i : Nat), .ref q])) := s3.trans (same_upd nT)
        generalize upd H3 T' (.tup [.int (i : Nat), .ref q]) = H4 at s4
        have hS4 := hS2.same s4
        refine ⟨_, rfl, _, rfl, _, rfl, slQ_of hS4 fun p1 H5 s5 h5 => ⟨p1, _, rfl, h5.star, ?_⟩⟩
        refine ⟨_, rfl, _, rfl, _, _, rfl, rfl, _, rfl, slQ_of (hS4.same s5) fun p2 H6 s6 h6 => ⟨p2, _, rfl, h6.star, ?_⟩⟩
        have el : cutV (ps.map V.ref) none (some ((i : Nat) : Int)) ++ (cutV (ps.map V.ref) (some (((i : Nat) : Int) + 1)) none ++ []) = (ps.take i ++ ps.drop (i + 1)).map V.ref := by
          rw [cut_to hi, cut_from hi, List.append_nil, List.map_append, List.map_take, List.map_drop]
        refine ⟨?_, fun R nR => ?_⟩
        · show (cutV (ps.map V.ref) none (some ((i : Nat) : Int)) ++ (cutV (ps.map V.ref) (some (((i : Nat) : Int) + 1)) none ++ [])).length ≤ sizeLine
          rw [el, List.length_map, List.length_append, List.length_take, List.length_drop]
          exact sl_len (by omega)
        · have hR : upd H6 R (.lst (cutV (ps.map V.ref) none (some ((i : Nat) : Int)) ++ (cutV (ps.map V.ref) (some (((i : Nat) : Int) + 1)) none ++ []))) R = some (.lst ((ps.take i ++ ps.drop (i + 1)).map V.ref)) := by rw [upd_same, el]
          have s7 : Same H2 (upd H6 R (.lst (cutV (ps.map V.ref) none (some ((i : Nat) : Int)) ++ (cutV (ps.map V.ref) (some (((i : Nat) : Int) + 1)) none ++ [])))) := ((s4.trans s5).trans s6).trans (same_upd nR)
          show gName 4 _ _ (upd H6 R (.lst (cutV (ps.map V.ref) none (some ((i : Nat) : Int)) ++ (cutV (ps.map V.ref) (some (((i : Nat) : Int) + 1)) none ++ [])))) _
          generalize upd H6 R (.lst (cutV (ps.map V.ref) none (some ((i : Nat) : Int)) ++ (cutV (ps.map V.ref) (some (((i : Nat) : Int) + 1)) none ++ []))) = H7 at hR s7 ⊢
          refine ⟨_, rfl, R, rfl, ⟨_, SqL.of hR⟩, fun D2 nD2 => ?_⟩
          have er : restB (ps.map kb) i = (ps.take i ++ ps.drop (i + 1)).any fun q' => (kb q').1.isSuffixOf (kb q).1 := by
            unfold restB
            rw [List.getElem?_map, hq, ← List.map_take, ← List.map_drop, ← List.map_append]
            show ((ps.take i ++ ps.drop (i + 1)).map kb).any (fun b => b.1.isSuffixOf (kb q).1) = _
            rw [List.any_map]
            rfl
          have hlen : (ps.take i ++ ps.drop (i + 1)).length ≤ 1000 := by
            rw [List.length_append, List.length_take, List.length_drop]; omega
          have hsub : ∀ q' ∈ ps.take i ++ ps.drop (i + 1), q' ∈ ps := fun q' hq' => by
            rcases List.mem_append.mp hq' with m | m
            · exact List.mem_of_mem_take m
            · exact List.mem_of_mem_drop m
          generalize ps.take i ++ ps.drop (i + 1) = rs at hR er hlen hsub
          refine lc_it (walk_list (xs := rs.map V.ref)) (fun j H8 => Same H7 H8 ∧ H8 D2 = some (.lst (((rs.take j).map fun q' => (kb q').1.isSuffixOf (kb q).1).map V.bl))) ⟨same_upd nD2, upd_same⟩ (fun j H8 _ h8 => h8.1.seq (SqL.of hR)) ?_ ?_
          · rintro j x H8 H9 hj ⟨s8, hD2⟩ ⟨rfl, hx⟩
            rw [List.getElem?_map] at hx
            obtain ⟨q', hq', rfl⟩ := Option.map_eq_some_iff.mp hx
            have hm' : q' ∈ rs := List.mem_of_getElem? hq'
            rw [List.length_map] at hj
            have s28 := s02.trans (s7.trans s8)
            refine ⟨q', _, rfl, SqT.of (s28 _ _ (hs q' (hsub _ hm'))), rfl, _, _, rfl, _, _, rfl, rfl, rfl, ?_⟩
            refine ⟨_, rfl, q, _, 0, _, rfl, rfl, SqT.of (s28 _ _ (hs q hqm)), rfl, ⟨_, rfl⟩, _, rfl, _, _, rfl, rfl, _, hD2, ?_, ?_, ?_⟩
            · rw [List.length_map, List.length_map, List.length_take]; exact sl_lt (by omega)
            · intro c' o e
              rw [upd_ne (ne_of_none e nD2)]
              exact s8 _ _ e
            · rw [upd_same, W_ends, List.take_add_one, hq', List.map_append, List.map_append]
              rfl
          · rintro H8 ⟨s8, hD2⟩
            rw [List.take_of_length_le (by rw [List.length_map]; exact Nat.le_refl _)] at hD2
            refine ⟨D2, _, rfl, SqL.of hD2, _, rfl, ?_⟩
            have et : ((rs.map fun q' => (kb q').1.isSuffixOf (kb q).1).any id) = restB (ps.map kb) i := by rw [er, List.any_map]; rfl
            rw [et]
            cases hre : restB (ps.map kb) i with
            | true =>
              refine iteBT rfl ?_
              have kk := k H8 (s02.trans (s7.trans s8))
              have e : areB (ps.map kb) = false := by
                unfold areB
                have : (List.range (ps.map kb).length).any (restB (ps.map kb)) = true := List.any_eq_true.mpr ⟨i, List.mem_range.mpr (by rw [List.length_map]; exact (List.getElem?_eq_some_iff.mp hq).1), hre⟩
                rw [this, Bool.not_true, Bool.and_false]
              rw [e] at kk
              exact kk
            | false =>
              refine iteBF rfl ?_
              refine ⟨_, _, _, _, _, _, rfl, s7.trans s8, fun i' hi' => ?_⟩
              rcases Nat.lt_or_eq_of_le (Nat.le_of_lt_succ hi') with z | z
              · exact hno i' z
              · rw [z]; exact hre
      · rintro σ H3 ⟨v1, v2, v3, v4, v5, v6, rfl, s3, hno⟩
        have kk := k H3 (s02.trans s3)
        have e : areB (ps.map kb) = true := by
          unfold areB
          have : (List.range (ps.map kb).length).any (restB (ps.map kb)) = false := by
            rw [Bool.eq_false_iff]
            intro z
            obtain ⟨i', h1, h2⟩ := List.any_eq_true.mp z
            have := hno i' (by rw [List.length_map]; have := List.mem_range.mp h1; rw [List.length_map] at this; exact this)
            rw [this] at h2
            cases h2
          rw [this, hall]
          rfl
        rw [e] at kk
        exact kk
end
end U
set_option maxRecDepth 100000
set_option maxHeartbeats 4000000
namespace U
open PySem PySem.Spec PyProof.Rows
open L2 hiding Fun CX0 E0 pass0 Fun.binds
open C8 Lx SX StX
def stO (x : WW) : Stf := (x.1, x.2.headD false)
theorem are_one {xs : List WW} {x : WW} (h : areB xs = true) (hx : x ∈ xs) : x.2 = [(stO x).2] := by
  unfold areB at h
  rw [Bool.and_eq_true] at h
  have hg := List.all_eq_true.mp h.1 x hx
  unfold goodB at hg
  rw [Bool.and_eq_true, decide_eq_true_iff, decide_eq_true_iff] at hg
  obtain ⟨p, q⟩ := x
  match q, hg.2 with
  | [b], _ => rfl
theorem are_ok {xs : List WW} (h : areB xs = true) (hn : xs.length ≤ 1000) (h9 : ∀ x ∈ xs, x.1.length ≤ 13) : StOk (xs.map stO) := by
  have h0 := h
  unfold areB at h
  rw [Bool.and_eq_true, Bool.not_eq_true'] at h
  refine ⟨by rw [List.length_map]; exact hn, fun s hs => ?_, ?_, ?_⟩
  · obtain ⟨x, hx, rfl⟩ := List.mem_map.mp hs
    have hg := List.all_eq_true.mp h.1 x hx
    unfold goodB at hg
    rw [Bool.and_eq_true, decide_eq_true_iff] at hg
    intro z
    rw [show x.1 = [] from z] at hg
    exact absurd hg.1 (by decide)
  · exact longM_max fun s hs => by
      obtain ⟨x, hx, rfl⟩ := List.mem_map.mp hs
      exact h9 x hx
  · unfold SufFree
    rw [List.pairwise_map, List.pairwise_iff_getElem]
    have key : ∀ i j (hi : i < xs.length) (hj : j < xs.length), i ≠ j → ¬ xs[j].1 <:+ xs[i].1 := fun i j hi hj hij z => by
      have hr : restB xs i = true := by
        unfold restB
        rw [List.getElem?_eq_getElem hi]
        refine List.any_eq_true.mpr ⟨xs[j], ?_, List.isSuffixOf_iff_suffix.mpr z⟩
        rcases Nat.lt_or_ge j i with c | c
        · exact List.mem_append_left _ (List.mem_of_getElem? (i := j) (by rw [List.getElem?_take_of_lt c, List.getElem?_eq_getElem hj]))
        · exact List.mem_append_right _ (List.mem_of_getElem? (i := j - (i + 1)) (by rw [List.getElem?_drop, show i + 1 + (j - (i + 1)) = j by omega, List.getElem?_eq_getElem hj]))
      have := List.any_eq_true.mpr ⟨i, List.mem_range.mpr hi, hr⟩
      rw [h.2] at this
      cases this
    intro i j hi hj hij
    exact ⟨key j i hj hi (by omega), key i j hi hj (by omega)⟩
def spRuInitY (K : PySem.W.Frag) (C CI : Addr) : Sp := fun vs H Q E => ∃ (a dx s : Addr) (f : List Bool) (ps : List Addr) (kw : Addr → WW), vs = [.ref a, .str (W f), .ref s] ∧ H a = some (.ins C dx []) ∧ Sq K H s (ps.map V.ref) ∧ StW H kw ps ∧ ps.length ≤ 1000 ∧ (∀ p ∈ ps, (kw p).1.length ≤ 13 ∧ (kw p).2.length ≤ 13) ∧ f.length ≤ 1000 ∧
  (f.length < 2 → ∀ d H', (∀ b o, H b = some o → b ≠ a → H' b = some o) → H' d = some (.xd [("word", .str "flag")]) → E (.ref CI) (some d) H') ∧
  (2 ≤ f.length → areB (ps.map kw) = false → ∀ d H', (∀ b o, H b = some o → b ≠ a → H' b = some o) → H' d = some (.xd [("word", .str "stuffs")]) → E (.ref CI) (some d) H') ∧
  (2 ≤ f.length → areB (ps.map kw) = true → OkR (ps.map (stO ∘ kw)) → ∀ H' ss, (∀ b o, H b = some o → b ≠ a → H' b = some o) → ss.Perm (ps.map (stO ∘ kw)) → SortedS ss → RuAt C H' a f ss → Q .non H') ∧
  (2 ≤ f.length → areB (ps.map kw) = true → ¬ OkR (ps.map (stO ∘ kw)) → ∀ d H', (∀ b o, H b = some o → b ≠ a → H' b = some o) → H' d = some (.xd [("word", .str "endless")]) → E (.ref CI) (some d) H')
section
variable {P : Program} {w : World} {K : PySem.W.Frag} {mg : Str → Option Value} {base : Heap}
theorem ok_Rule_initY {f C CI : Addr} {fd : FuncData} (F : C8.Fun K "__init__" "Rule.__init__" s_Rule_init f fd) (T : Tx mg) (RT : RuT K C) (x_InvalidRule : ExS.XMk P w K mg base 1 "InvalidRule" CI "word") (c_is_word : Cal P w K mg base 1 "is_word" (spIsWord K) []) (c_are_stuffsX : Cal P w K mg base 4 "are_stuffs" (spAreX K) []) (c_is_endlessX : Met P w K mg base 4 C "is_endless" (spEndlessX C) []) :
    FnOk P w K mg base (L2.CX P w) 5 f fd ["self", "flag", "stuffs"] (spRuInitY K C CI) := by
  refine ExS.fnR F sc_Rule_init (fun vs H Q E h => ?_) (fun cdv A outer s H vs Q E hr h => ?_)
  · obtain ⟨_, _, _, _, _, _, rfl, _⟩ := h; rfl
  · obtain ⟨a, dx, sq, fl, ps, kw, rfl, ha, hS, hsW, hfew, hw9, hl, kF, kS, k, kE⟩ := h
    have c_are_stuffs := c_are_stuffsX
    have c_is_endless := c_is_endlessX
    refine ⟨_, (pss_cons (ps_if (PW.pt (pw_or (pt_not (pt_val (pe_c c_is_word hr (by decide) rfl (pa_cons (pv 1) pa_nil)))) (pw_or1 (pt_cmpR op_lt (pe_callB call_len_str (by rfl) T.b_len (by decide +kernel) (pa_cons (pv 1) pa_nil)) pe_int (nomark _))))) (pss_one (ps_raise rfl (takes_of rfl rfl rfl rfl) (ExS.pmk_x x_InvalidRule hr (by decide) rfl (pa_cons pe_str pa_nil)))) pss_nil)
    (pss_cons (ps_if (pt_not (pt_val (pe_c c_are_stuffs hr (by decide) rfl (pa_cons (pv 2) pa_nil)))) (pss_one (ps_raise rfl (takes_of rfl rfl rfl rfl) (ExS.pmk_x x_InvalidRule hr (by decide) rfl (pa_cons pe_str pa_nil)))) pss_nil)
    (pss_cons (ps_fld (pv 0) (pv 1) rfl)
    (pss_cons (ps_fld (pv 0) (pe_callTy call_tuple_of (by rfl) T.b_tuple (by decide +kernel) (pa_cons (pe_callB cr_sortedT (by rfl) T.b_sorted (by decide +kernel) (pa_cons (pv 2) pa_nil)) pa_nil)) rfl)
    (pss_one (ps_if (pt_val (pe_mt0 (pl := _) c_is_endless hr (by decide) (pv 0))) (pss_one (ps_raise rfl (takes_of rfl rfl rfl rfl) (ExS.pmk_x x_InvalidRule hr (by decide) rfl (pa_cons pe_str pa_nil)))) pss_nil)))))), ?_⟩
    have lf : (W fl).length = fl.length := W_len fl
    refine ⟨_, rfl, _, rfl, .inl ⟨_, rfl, by rw [lf]; omega, fun H1 s1 => ⟨_, rfl, iteBF (by rw [isW_W]; rfl) ?_⟩⟩⟩
    refine ⟨_, rfl, _, rfl, by rw [lf]; exact sl_len (by omega), _, _, rfl, rfl, _, rfl, ?_⟩
    by_cases h2 : fl.length < 2
    · refine iteDT (by rw [lf]; omega) ?_
      exact ExS.rd_x fun d H' s' _ hd => kF h2 d H' (fun b o e _ => (s1.trans s') _ _ e) hd
    replace k := k (by omega)
    replace kE := kE (by omega)
    replace kS := kS (by omega)
    refine iteDF (by rw [lf]; omega) ?_
    refine ⟨_, rfl, sq, ps, kw, rfl, hS.same s1, fun t ht => s1 _ _ (hsW t ht), hfew, fun p hp => ⟨Nat.le_trans (hw9 p hp).1 (by decide), Nat.le_trans (hw9 p hp).2 (by decide)⟩, fun H2 s2 => ⟨_, rfl, ?_⟩⟩
    have s02 := s1.trans s2
    cases hare : areB (ps.map kw) with
    | false =>
      refine iteBT rfl ?_
      exact ExS.rd_x fun d H' s' _ hd => kS hare d H' (fun b o e n => (s02.trans s') _ _ e) hd
    | true =>
    refine iteBF rfl ?_
    replace k := k hare
    replace kE := kE hare
    have ok : StOk (ps.map (stO ∘ kw)) := are_ok hare (by rw [List.length_map]; exact hfew) (fun x hx => by obtain ⟨p, hp, rfl⟩ := List.mem_map.mp hx; exact (hw9 p hp).1) |> fun h => by rw [List.map_map] at h; exact h
    have hs : StV H (stO ∘ kw) ps := fun t ht => by
      have := hsW t ht
      rw [are_one hare (List.mem_map_of_mem ht)] at this
      exact this
    generalize hkb : stO ∘ kw = kb at ok hs k kE
    have ha2 := s02 _ _ ha
    refine ⟨_, rfl, _, rfl, a, C, dx, _, rfl, ha2, RT.cl, RT.nF, by decide, ?_⟩
    have keep3 : ∀ c o, H c = some o → c ≠ a → upd H2 a (.ins C dx (putF "flag" (.str (W fl)) [])) c = some o := fun c o e n => by rw [upd_ne n]; exact s02 _ _ e
    have ha3 : upd H2 a (.ins C dx (putF "flag" (.str (W fl)) [])) a = some (.ins C dx (putF "flag" (.str (W fl)) [])) := upd_same
    have hs3 : StV (upd H2 a (.ins C dx (putF "flag" (.str (W fl)) []))) kb ps := fun t ht => keep3 _ _ (hs t ht) (ne_of (hs t ht) ha (by intro z; cases z))
    have hS3 : SqL K (upd H2 a (.ins C dx (putF "flag" (.str (W fl)) []))) sq (ps.map V.ref) ∨ SqT K (upd H2 a (.ins C dx (putF "flag" (.str (W fl)) []))) sq (ps.map V.ref) := by
      rcases hS with ((h | ⟨o, h⟩) | h) | ((h | ⟨o, h⟩) | h)
      · exact .inl (.inl (.inl (keep3 _ _ h (ne_of h ha (by intro z; cases z)))))
      · exact .inl (.inl (.inr ⟨o, keep3 _ _ h (ne_of h ha (by intro z; cases z))⟩))
      · exact .inl (.inr h)
      · exact .inr (.inl (.inl (keep3 _ _ h (ne_of h ha (by intro z; cases z)))))
      · exact .inr (.inl (.inr ⟨o, keep3 _ _ h (ne_of h ha (by intro z; cases z))⟩))
      · exact .inr (.inr h)
    generalize upd H2 a (.ins C dx (putF "flag" (.str (W fl)) [])) = H3 at keep3 ha3 hs3 hS3
    refine ⟨_, rfl, sq, ps, fun t => key (kb t), rfl, hS3, fun t ht => hs3 t ht, fun qs p1 srt prm n1 => ?_⟩
    refine ⟨p1, _, rfl, .inl ⟨SqL.of upd_same, fun p2 n2 => ?_⟩⟩
    have s5 : Same H3 (upd (upd H3 p1 (.lst (qs.map V.ref))) p2 (.tup (qs.map V.ref))) := (same_upd n1).trans (same_upd n2)
    have hT5 : upd (upd H3 p1 (.lst (qs.map V.ref))) p2 (.tup (qs.map V.ref)) p2 = some (.tup (qs.map V.ref)) := upd_same
    generalize upd (upd H3 p1 (.lst (qs.map V.ref))) p2 (.tup (qs.map V.ref)) = H5 at s5 hT5
    have ha5 := s5 _ _ ha3
    refine ⟨_, rfl, a, C, dx, _, rfl, ha5, RT.cl, RT.nS, by show 1 < 1000; decide, ?_⟩
    have na2 : p2 ≠ a := ne_of hT5 ha5 (by intro z; cases z)
    have keep6 : ∀ c o, H3 c = some o → c ≠ a → upd H5 a (.ins C dx (putF "stuffs" (.ref p2) (putF "flag" (.str (W fl)) []))) c = some o := fun c o e n => by rw [upd_ne n]; exact s5 _ _ e
    have ha6 : upd H5 a (.ins C dx (putF "stuffs" (.ref p2) (putF "flag" (.str (W fl)) []))) a = some (.ins C dx (ruF fl p2)) := upd_same
    have hT6 : upd H5 a (.ins C dx (putF "stuffs" (.ref p2) (putF "flag" (.str (W fl)) []))) p2 = some (.tup (qs.map V.ref)) := by rw [upd_ne na2]; exact hT5
    generalize upd H5 a (.ins C dx (putF "stuffs" (.ref p2) (putF "flag" (.str (W fl)) []))) = H6 at keep6 ha6 hT6
    have hs6 : StV H6 kb qs := StV.perm (fun t ht => keep6 _ _ (hs3 t ht) (ne_of (hs3 t ht) ha3 (by intro z; cases z))) prm
    have pm : (qs.map kb).Perm (ps.map kb) := prm.map kb
    have hR6 : RuAt C H6 a fl (qs.map kb) := ⟨dx, p2, qs, kb, ha6, hT6, hs6, rfl⟩
    have ok6 := ok.perm pm.symm
    have oeq : OkR (qs.map kb) ↔ OkR (ps.map kb) := ⟨fun o => o.congr fun l => put_perm ok6.free pm l, fun o => o.congr fun l => put_perm ok.free pm.symm l⟩
    refine ⟨_, rfl, a, dx, _, rfl, ha6, ruF_no _ _ (by decide +kernel) (by decide +kernel), a, fl, qs.map kb, rfl, hR6, ok6.few, ok6.long, fun b7 H7 hb7 s7 => ⟨_, rfl, ?_⟩⟩
    have keep7 : ∀ c o, H c = some o → c ≠ a → H7 c = some o := fun c o e n => s7 _ _ (keep6 _ _ (keep3 _ _ e n) n)
    cases b7 with
    | false =>
      have hO : OkR (ps.map kb) := Classical.byContradiction fun z => by
        have := hb7.mpr fun y => z (oeq.mp y)
        cases this
      exact k hO H7 (qs.map kb) keep7 pm (pwS srt) (hR6.same s7)
    | true =>
      have hO : ¬ OkR (ps.map kb) := fun z => hb7.mp rfl (oeq.mpr z)
      exact ExS.rd_x fun d H' s' _ hd => kE hO d H' (fun b o e n => s' _ _ (keep7 _ _ e n)) hd
end
end U
set_option maxRecDepth 100000
set_option maxHeartbeats 4000000
namespace U
open PySem PySem.Spec PyProof.Rows
open L2 hiding Fun CX0 E0 pass0 Fun.binds
open C8 Lx SX
def spWordF : Sp := fun vs H Q _ => ∃ (b : Addr) (few many : Nat), vs = [.ref b, .int few, .int many] ∧ Box H b ∧ few ≤ many ∧ many < 1000 ∧
  ∀ (l : List Bool) H', few ≤ l.length → l.length ≤ many → Up b H H' → Q (.str (W l)) H'
section
variable {P : Program} {w : World} {K : PySem.W.Frag} {mg : Str → Option Value} {base : Heap}
theorem sc_l_word : FnScope ["_law_box", "_law_few", "_law_many", "_law_turn"] ["_law_box", "_law_few", "_law_many"] (fnScope s_l_word) := fnScope_by (by decide +kernel)
theorem cal_l_word {f : Addr} {fd : FuncData} (F : Def K mg "_law_word" s_l_word f fd) (b : Binds K fd ["_law_box", "_law_few", "_law_many"] []) (T : Tx mg)
    (c_l_choose : Cal P w K mg base 1 "_law_choose" spChoose []) (c_l_one_of : Cal P w K mg base 2 "_law_one_of" spOneOf []) : Cal P w K mg base 3 "_law_word" spWordF [] := by
  refine cal0 F b .nil sc_l_word (fun vs H Q E h => ?_) (fun cdv A outer s H vs Q E hr h => ?_)
  · obtain ⟨_, _, _, rfl, _⟩ := h; rfl
  · obtain ⟨bx, few, many, rfl, hb, h1, h2, k⟩ := h
    refine ⟨_, (pss_one (ps_ret (pe_join pe_str (pe_lc (own := [("_law_turn", 3)]) (g := gName 3) (by rfl) sc_l_word.nd (pi_range1 (by rfl) T.b_range (pa_cons (pe_op op_add (pv 1) (pe_c c_l_choose hr (by decide) rfl (pa_cons (pv 0) (pa_cons (pe_op op_add (pe_op op_sub (pv 2) (pv 1)) pe_int) pa_nil)))) pa_nil)) (blkOk_by (own := [("_law_turn", 3)]) (N := ["_law_box", "_law_few", "_law_many", "_law_turn"]) (sc := fnScope s_l_word) (by decide +kernel)) (fun _ _ _ _ _ => (pg_name (i := 3) sc_l_word.nd rfl (.inl rfl))) (fun _ _ _ _ _ => pts_nil) (fun _ _ _ _ _ => (pe_c c_l_one_of hr (by decide) rfl (pa_cons (pv 0) (pa_cons (pe_lst (pa_cons pe_str (pa_cons pe_str pa_nil))) pa_nil)))))))), ?_⟩
    refine ⟨⟨_, rfl⟩, ?_⟩
    refine ⟨_, rfl, _, rfl, _, rfl, _, rfl, _, _, rfl, rfl, _, _, rfl, rfl, bx, _, rfl, hb, (by omega), (by omega), fun d H1 d0 d1 u1 => ?_⟩
    refine ⟨_, _, rfl, rfl, _, rfl, by omega, by omega, fun D nD => ?_⟩
    have nb : D ≠ bx := u1.2.ne nD
    refine lc_it (walk_range (lo := 0) (n := ((few : Int) + d).toNat)) (fun i H2 => ∃ l : List Bool, l.length = i ∧ Up bx H H2 ∧ H2 D = some (.lst (bitsV l)))
      ⟨[], rfl, u1.mut (u1.free nD) nb, upd_same⟩ (fun _ _ _ _ => trivial) ?_ ?_
    · rintro i x H2 H3 hi ⟨l, rfl, u2, hD⟩ ⟨rfl, rfl⟩
      refine ⟨rfl, ?_⟩
      refine ⟨_, rfl, by show 2 ≤ sizeLine; decide, fun p hp => ?_⟩
      have np : p ≠ bx := u2.2.ne hp
      refine ⟨bx, p, _, rfl, u2.2.same (same_upd hp), upd_same, np, by decide, by decide, fun v H4 hv u4 => ?_⟩
      obtain ⟨b, rfl⟩ := mem2 hv
      have hD4 : H4 D = some (.lst (bitsV l)) := u4.1 _ _ (same_upd hp _ _ hD) nb
      refine ⟨_, hD4, ?_, l ++ [b], by simp, ?_, ?_⟩
      · unfold bitsV; rw [List.length_map, List.length_map]; exact sl_lt (by omega)
      · exact ((u2.same (same_upd hp)).trans u4).mut (u1.free nD) nb
      · rw [upd_same]; unfold bitsV; simp
    · rintro H2 ⟨l, hl, u2, hD⟩
      refine ⟨_, D, l.map fun b => W [b], rfl, rfl, .inl (SqL.of hD), ?_, ?_⟩
      · rw [lens_bits]
        have e0 : ("" : Str).length = 0 := by decide +kernel
        rw [e0]; omega
      · show Q (.str (Txt.join "" (l.map fun b => W [b]))) H2
        rw [join_bits]
        exact k l H2 (by omega) (by omega) u2
end
end U
set_option maxRecDepth 100000
set_option maxHeartbeats 4000000
namespace U
open PySem PySem.Spec PyProof.Rows
open L2 hiding Fun CX0 E0 pass0 Fun.binds
open C8 Lx SX StX
def Told (H : Hp) (t : Addr) (f : List Bool) (ss : List Stf) : Prop := ∃ l ps kb, H t = some (.tup [.str (W f), .ref l]) ∧ H l = some (.lst (ps.map V.ref)) ∧ StV H kb ps ∧ ss = ps.map kb
theorem Told.same {H H' : Hp} {t : Addr} {f : List Bool} {ss : List Stf} (h : Told H t f ss) (e : Same H H') : Told H' t f ss := by
  obtain ⟨l, ps, kb, h1, h2, h3, h4⟩ := h
  exact ⟨l, ps, kb, e _ _ h1, e _ _ h2, h3.same e, h4⟩
theorem refs_ne {ps : List Addr} {i j : Int} : ps.map V.ref ≠ [.int i, .int j] := fun z => by
  cases ps with
  | nil => cases z
  | cons p r => cases (List.cons.inj z).1
theorem Box.neL {H : Hp} {b l : Addr} {ps : List Addr} (hb : Box H b) (h : H l = some (.lst (ps.map V.ref))) : l ≠ b := fun z => by
  obtain ⟨i, j, hb⟩ := hb
  rw [z, hb] at h
  exact refs_ne (HO.lst.inj (Option.some.inj h)).symm
theorem Told.up {b : Addr} {H H' : Hp} {t : Addr} {f : List Bool} {ss : List Stf} (hb : Box H b) (h : Told H t f ss) (e : Up b H H') : Told H' t f ss := by
  obtain ⟨l, ps, kb, h1, h2, h3, h4⟩ := h
  exact ⟨l, ps, kb, e.1 _ _ h1 (hb.neT h1), e.1 _ _ h2 (hb.neL h2), fun t ht => e.1 _ _ (h3 t ht) (hb.neT (h3 t ht)), h4⟩
theorem RuAt.up {C b : Addr} {H H' : Hp} {a : Addr} {f : List Bool} {ss : List Stf} (hb : Box H b) (h : RuAt C H a f ss) (e : Up b H H') : RuAt C H' a f ss := h.nl (e.nl hb)
def putL (ss : List Stf) (l : List Bool) : List Bool := match putM ss l with
  | none => []
  | some b => [b]
theorem putL_len (ss : List Stf) (l : List Bool) : (putL ss l).length ≤ 1 := by unfold putL; cases putM ss l <;> simp
theorem stP_eq (ss : List Stf) (l : List Bool) : stP ss l = l ++ putL ss l := by
  unfold stP putL
  cases putM ss l with
  | none => rw [List.append_nil]
  | some b => rfl
theorem putL_head {ss : List Stf} {l : List Bool} : putM ss l = ((ss.filter fun s => s.1.isSuffixOf l).map (·.2)).head? := by
  unfold putM
  rw [List.head?_map, List.head?_filter]
def dS (x : List Bool) : PyData := .str (W x)
theorem dp_strs {K : PySem.W.Frag} {H : Hp} : ∀ xs : List (List Bool), DpAll K H (xs.map fun x => V.str (W x)) (xs.map dS)
  | [] => .nil
  | x :: r => .cons (.str _) (dp_strs r)
theorem strOk_W (x : List Bool) : PyData.strOk (W x) = true := by
  unfold PyData.strOk
  simp only [W, S, List.all_toArray, List.all_map, List.all_eq_true]
  intro b _
  cases b <;> decide +kernel
def DOk (n : Nat) (d : PyData) : Prop := PyData.canLay0 d = true ∧ PyData.depth d ≤ n
theorem dok_str (x : List Bool) : DOk 0 (.str (W x)) := ⟨strOk_W x, Nat.le_refl _⟩
theorem dok_all {n : Nat} : ∀ {ds : List PyData}, (∀ d ∈ ds, DOk n d) → PyData.canLayAll0 ds = true ∧ PyData.depthAll ds ≤ n
  | [], _ => ⟨rfl, Nat.zero_le _⟩
  | d :: r, h => by
    have h1 := h d List.mem_cons_self
    have h2 := dok_all (ds := r) fun d hd => h d (List.mem_cons_of_mem _ hd)
    refine ⟨?_, ?_⟩
    · show (PyData.canLay0 d && PyData.canLayAll0 r) = true
      rw [h1.1, h2.1]; rfl
    · show max (PyData.depth d) (PyData.depthAll r) ≤ n
      have := h1.2; have := h2.2; omega
theorem dok_list {n : Nat} {ds : List PyData} (h : ∀ d ∈ ds, DOk n d) : DOk (n + 1) (.list ds) := ⟨(dok_all h).1, Nat.succ_le_succ (dok_all h).2⟩
theorem dok_tup {n : Nat} {ds : List PyData} (h : ∀ d ∈ ds, DOk n d) : DOk (n + 1) (.tuple ds) := ⟨(dok_all h).1, Nat.succ_le_succ (dok_all h).2⟩
theorem DOk.shaped {n : Nat} {d : PyData} (h : DOk n d) (hn : n ≤ 64) : SeqAt.shaped d = true := by
  unfold SeqAt.shaped
  rw [h.1, decide_eq_true (Nat.le_trans h.2 hn)]
  rfl
theorem shaped_strs (xs : List (List Bool)) : SeqAt.shaped (.list (xs.map dS)) = true := (dok_list (n := 0) fun d hd => by
  obtain ⟨x, _, rfl⟩ := List.mem_map.mp hd
  exact dok_str x).shaped (by decide)
theorem shaped_nil : SeqAt.shaped (.list []) = true := by decide +kernel
theorem eqv_nil (ds : List PyData) : PyData.eqv (.list ds) (.list []) = ds.isEmpty := by cases ds <;> rfl
end U
set_option maxRecDepth 100000
set_option maxHeartbeats 4000000
namespace U
open PySem PySem.Spec PyProof.Rows
open L2 hiding Fun CX0 E0 pass0 Fun.binds
open C8 Lx SX StX
def spLPut : Sp := fun vs H Q _ => ∃ (t : Addr) (f l : List Bool) (ss : List Stf), vs = [.ref t, .str (W l)] ∧ Told H t f ss ∧ l.length ≤ 50000 ∧ ss.length ≤ 1000 ∧ (∀ s ∈ ss, s.1.length ≤ 1000) ∧ ∀ H', Same H H' → Q (.str (W (putL ss l))) H'
def spIsRule : Sp := fun vs H Q _ => ∃ (t : Addr) (f : List Bool) (ss : List Stf), vs = [.ref t] ∧ Told H t f ss ∧ ss.length ≤ 1000 ∧ (∀ s ∈ ss, s.1.length ≤ 5) ∧ ∀ r H', Same H H' → (r = true → SufFree ss ∧ OkS ss) → Q (.bl r) H'
def Cls1 (ss : List Stf) (kn : List (List Bool)) (w : List Bool) (b : Bool) : Prop := (itP ss 24 (w ++ [b])).length ≤ w.length + 20 ∧ tl 5 (itP ss 24 (w ++ [b])) ∈ kn
theorem Cls1.more {ss : List Stf} {kn : List (List Bool)} {w u : List Bool} {b : Bool} (h : Cls1 ss kn w b) : Cls1 ss (kn ++ [u]) w b := ⟨h.1, List.mem_append_left _ h.2⟩
structure Dfs (ss : List Stf) (H H2 : Hp) (q d : Addr) (kn wt : List (List Bool)) : Prop where
  same : Same H H2
  wait : H2 q = some (.lst (wt.map fun w => V.str (W w)))
  known : H2 d = some (.dK (kst kn))
  nodup : kn.Nodup
  short : ∀ w ∈ kn, w.length ≤ 5
  sub : ∀ w ∈ wt, w ∈ kn
  nil : [] ∈ kn
  le : wt.length ≤ kn.length
theorem Dfs.on {ss : List Stf} {H H2 H3 : Hp} {q d : Addr} {kn wt : List (List Bool)} (b : Dfs ss H H2 q d kn wt) (s : Same H2 H3) : Dfs ss H H3 q d kn wt :=
  ⟨b.same.trans s, s _ _ b.wait, s _ _ b.known, b.nodup, b.short, b.sub, b.nil, b.le⟩
theorem Dfs.few {ss : List Stf} {H H2 : Hp} {q d : Addr} {kn wt : List (List Bool)} (b : Dfs ss H H2 q d kn wt) : kn.length ≤ 63 := by
  have := words_le b.nodup b.short
  have e : (2 : Nat) ^ (5 + 1) = 64 := by decide
  omega
theorem sufFree_of {ss : List Stf} (h : ∀ (i j : Nat) (a b : Stf), i ≠ j → ss[i]? = some a → ss[j]? = some b → b.1.isSuffixOf a.1 = false) : SufFree ss := by
  unfold SufFree
  rw [List.pairwise_iff_getElem]
  intro i j hi hj hij
  have e1 := h i j _ _ (by omega) (List.getElem?_eq_getElem hi) (List.getElem?_eq_getElem hj)
  have e2 := h j i _ _ (by omega) (List.getElem?_eq_getElem hj) (List.getElem?_eq_getElem hi)
  refine ⟨fun z => ?_, fun z => ?_⟩
  · rw [List.isSuffixOf_iff_suffix.mpr z] at e2; cases e2
  · rw [List.isSuffixOf_iff_suffix.mpr z] at e1; cases e1
section
variable {P : Program} {w : World} {K : PySem.W.Frag} {mg : Str → Option Value} {base : Heap}
theorem sc_l_put : FnScope ["_law_rule_here", "_law_line", "_law_some", "_law_pattern", "_law_bit"] ["_law_rule_here", "_law_line"] (fnScope s_l_put) := fnScope_by (by decide +kernel)
theorem cal_l_put {f : Addr} {fd : FuncData} (F : Def K mg "_law_put" s_l_put f fd) (b : Binds K fd ["_law_rule_here", "_law_line"] []) (T : Tx mg) : Cal P w K mg base 1 "_law_put" spLPut [] := by
  refine cal0 F b .nil sc_l_put (fun vs H Q E h => ?_) (fun cdv A outer s H vs Q E hr h => ?_)
  · obtain ⟨_, _, _, _, rfl, _⟩ := h; rfl
  · obtain ⟨t, fl, l, ss, rfl, ⟨r, ps, kb, ht, hl, hs, rfl⟩, h1, h2, h3, k⟩ := h
    refine ⟨_, (pss_cons (ps_setLc (i := 2) (own := [("_law_pattern", 3), ("_law_bit", 4)]) (g := gTup K 2 (gCons (gName 3) (gCons (gName 4) gNil))) (by rfl) sc_l_put.nd rfl rfl (sw_true rfl rfl rfl (by decide +kernel)) (pi_list (pe_ix ix_tup (pv 0) pe_int (fun _ _ => rfl))) (blkOk_by (own := [("_law_pattern", 3), ("_law_bit", 4)]) (N := ["_law_rule_here", "_law_line", "_law_some", "_law_pattern", "_law_bit"]) (sc := fnScope s_l_put) (by decide +kernel)) (fun _ _ _ _ _ => (pg_tup rfl (pgs_cons (pg_name (i := 3) sc_l_put.nd rfl (.inl rfl)) (pgs_cons (pg_name (i := 4) sc_l_put.nd rfl (.inl rfl)) pgs_nil)))) (fun _ _ _ _ _ => (pts_one (pt_cmpR op_eq (pe_slice sl_txt (pv 1) (po_some (pe_callB (call_max2 rfl) (by rfl) T.b_max (by decide +kernel) (pa_cons pe_int (pa_cons (pe_op op_sub (pe_callB call_len_str (by rfl) T.b_len (by decide +kernel) (pa_cons (pv 1) pa_nil)) (pe_callB call_len_str (by rfl) T.b_len (by decide +kernel) (pa_cons (pv 3) pa_nil))) pa_nil)))) po_none) (pv 3) (nomark _)))) (fun _ _ _ _ _ => (pv 4)))
    (pss_one (ps_ret (pe_ifExp (pt_cmpR (op_neD hr.units) (pv 2) (pe_lst pa_nil) (nomark _)) (pe_ix ix_list (pv 2) pe_int (fun _ _ => rfl)) pe_str)))), ?_⟩
    have lw : (W l).length ≤ sizeLine := by rw [W_len]; exact sl_len (by omega)
    refine ⟨_, rfl, t, _, 1, _, rfl, rfl, SqT.of ht, rfl, r, rfl, ⟨_, SqL.of hl⟩, fun D nD => ?_⟩
    refine lc_it (walk_list (xs := ps.map V.ref)) (fun i H2 => Same H H2 ∧ H2 D = some (.lst (((((ps.take i).map kb).filter fun s => s.1.isSuffixOf l).map fun s => [s.2]).map fun x => V.str (W x)))) ⟨same_upd nD, upd_same⟩ (fun i H2 _ h2 => h2.1.seq (SqL.of hl)) ?_ ?_
    · rintro i x H2 H3 hi ⟨s2, hD⟩ ⟨rfl, hx⟩
      rw [List.getElem?_map] at hx
      obtain ⟨q, hq, rfl⟩ := Option.map_eq_some_iff.mp hx
      have hqm : q ∈ ps := List.mem_of_getElem? hq
      have lq : (W (kb q).1).length ≤ sizeLine := by rw [W_len]; exact sl_len (Nat.le_trans (h3 _ (List.mem_map_of_mem hqm)) (by decide))
      refine ⟨q, _, rfl, SqT.of (s2 _ _ (hs q hqm)), rfl, _, _, rfl, _, _, rfl, rfl, rfl, ?_⟩
      refine ⟨_, rfl, _, rfl, _, rfl, lw, _, rfl, _, rfl, lq, _, _, rfl, rfl, _, _, rfl, _, rfl, _, rfl, lw, _, rfl, rfl, _, rfl, ?_⟩
      rw [W_tail, W_len (kb q).1]
      have et : (ps.take (i + 1)).map kb = (ps.take i).map kb ++ [kb q] := by rw [List.take_add_one, hq, List.map_append]; rfl
      by_cases c : (kb q).1.isSuffixOf l = true
      · refine iteDT (by rw [← suf_iff.mp c]) ?_
        refine ⟨_, rfl, _, hD, ?_, ?_, ?_⟩
        · rw [List.length_map, List.length_map]
          refine sl_lt (Nat.lt_of_le_of_lt (List.length_filter_le _ _) ?_)
          rw [List.length_map, List.length_take]
          rw [List.length_map] at h2
          omega
        · intro c' o e
          rw [upd_ne (ne_of_none e nD)]
          exact s2 _ _ e
        · rw [upd_same, et, List.filter_append, List.map_append, List.map_append, List.filter_cons_of_pos (p := fun s : Stf => s.1.isSuffixOf l) c]
          rfl
      · refine iteDF (fun z => c (suf_iff.mpr (W_inj (V.str.inj z)).symm)) ?_
        refine ⟨s2, ?_⟩
        rw [hD, et, List.filter_append, List.filter_cons_of_neg (p := fun s : Stf => s.1.isSuffixOf l) c, List.filter_nil, List.append_nil]
    · rintro H2 ⟨s2, hD⟩
      rw [List.length_map, List.take_length] at hD
      refine ⟨_, rfl, Nat.zero_le _, fun p hp => ?_⟩
      have hp2 := putL_head (ss := ps.map kb) (l := l)
      have hD2 : upd H2 p (.lst []) D = some (.lst ((((ps.map kb).filter fun s => s.1.isSuffixOf l).map fun s => [s.2]).map fun x => V.str (W x))) := same_upd hp _ _ hD
      have s3 := s2.trans (same_upd (o := .lst []) hp)
      refine ⟨.list ((((ps.map kb).filter fun s => s.1.isSuffixOf l).map fun s => [s.2]).map dS), .list [], .lst (SqL.of hD2) (dp_strs _), .lst (SqL.of upd_same) .nil, shaped_strs _, shaped_nil, _, rfl, ?_⟩
      rw [eqv_nil]
      have k3 := k _ s3
      unfold putL at k3
      rw [hp2] at k3
      generalize (ps.map kb).filter (fun s => s.1.isSuffixOf l) = fs at hD2 k3
      cases fs with
      | nil =>
        show Q (.str "") _
        rw [W_nil]
        exact k3
      | cons x r =>
        exact ⟨_, rfl, D, _, 0, .str (W [x.2]), rfl, rfl, SqL.of hD2, atI_nat (j := 0) rfl, k3⟩
end
end U
set_option maxRecDepth 100000
set_option maxHeartbeats 4000000
namespace U
open PySem PySem.Spec PyProof.Rows
open L2 hiding Fun CX0 E0 pass0 Fun.binds
open C8 Lx SX StX
theorem W_tail5 (l : List Bool) : Txt.slice (W l) (some (if (((W l).length : Nat) : Int) - 5 > 0 then (((W l).length : Nat) : Int) - 5 else 0)) none = W (tl 5 l) := W_tail l 5
theorem pop_end {wt : List (List Bool)} {w : List Bool} : ((wt ++ [w]).map fun w => V.str (W w))[((wt ++ [w]).map fun w => V.str (W w)).length - 1]? = some (.str (W w)) := by
  rw [List.length_map, List.length_append, List.getElem?_map, List.length_cons, List.length_nil, List.getElem?_append_right (by omega), show wt.length + (0 + 1) - 1 - wt.length = 0 by omega]
  rfl
theorem pop_rest {wt : List (List Bool)} {w : List Bool} : ((wt ++ [w]).map fun w => V.str (W w)).dropLast = wt.map fun w => V.str (W w) := by
  rw [List.map_append]
  exact List.dropLast_concat
section
variable {P : Program} {w : World} {K : PySem.W.Frag} {mg : Str → Option Value} {base : Heap}
theorem sc_l_is_rule : FnScope ["_law_rule_here", "_law_names", "_law_pattern", "_law_bit", "_law_at", "_law_one", "_law_spot", "_law_other_one", "_law_known", "_law_waiting", "_law_behind", "_law_line", "_law_turn", "_law_there"] ["_law_rule_here"] (fnScope s_l_is_rule) := fnScope_by (by decide +kernel)
theorem cal_l_is_rule {f : Addr} {fd : FuncData} (F : Def K mg "_law_is_rule" s_l_is_rule f fd) (b : Binds K fd ["_law_rule_here"] []) (T : Tx mg) (c_l_put : Cal P w K mg base 1 "_law_put" spLPut []) : Cal P w K mg base 2 "_law_is_rule" spIsRule [] := by
  refine cal0 F b .nil sc_l_is_rule (fun vs H Q E h => ?_) (fun cdv A outer s H vs Q E hr h => ?_)
  · obtain ⟨_, _, _, rfl, _⟩ := h; rfl
  · obtain ⟨t, fl, ss, rfl, htold, h2, h3, k⟩ := h
    refine ⟨_, (pss_cons (ps_setLc (i := 1) (own := [("_law_pattern", 2), ("_law_bit", 3)]) (g := gTup K 2 (gCons (gName 2) (gCons (gName 3) gNil))) (by rfl) sc_l_is_rule.nd rfl rfl (sw_true rfl rfl rfl (by decide +kernel)) (pi_list (pe_ix ix_tup (pv 0) pe_int (fun _ _ => rfl))) (blkOk_by (own := [("_law_pattern", 2), ("_law_bit", 3)]) (N := ["_law_rule_here", "_law_names", "_law_pattern", "_law_bit", "_law_at", "_law_one", "_law_spot", "_law_other_one", "_law_known", "_law_waiting", "_law_behind", "_law_line", "_law_turn", "_law_there"]) (sc := fnScope s_l_is_rule) (by decide +kernel)) (fun _ _ _ _ _ => (pg_tup rfl (pgs_cons (pg_name (i := 2) sc_l_is_rule.nd rfl (.inl rfl)) (pgs_cons (pg_name (i := 3) sc_l_is_rule.nd rfl (.inl rfl)) pgs_nil)))) (fun _ _ _ _ _ => pts_nil) (fun _ _ _ _ _ => (pv 2)))
    (pss_cons (ps_for PassesOwn.never rfl (pi_enum (by rfl) T.b_enumerate (pa_cons (pv 1) pa_nil)) (pg_tup rfl (pgs_cons (pg_name (i := 4) sc_l_is_rule.nd rfl (.inl rfl)) (pgs_cons (pg_name (i := 5) sc_l_is_rule.nd rfl (.inl rfl)) pgs_nil)))
    (pss_one (ps_for PassesOwn.never rfl (pi_enum (by rfl) T.b_enumerate (pa_cons (pv 1) pa_nil)) (pg_tup rfl (pgs_cons (pg_name (i := 6) sc_l_is_rule.nd rfl (.inl rfl)) (pgs_cons (pg_name (i := 7) sc_l_is_rule.nd rfl (.inl rfl)) pgs_nil)))
    (pss_one (ps_if (PW.pt (pw_and (pt_cmpR op_ne (pv 4) (pv 6) (nomark _)) (pw_and1 (pt_val (pe_m1 PySem.F.slot_str_endswith PySem.F.type_str_endswith mt_endswith (pv 5) (pv 7)))))) (pss_one (ps_ret pe_bl)) pss_nil)))))
    (pss_cons (ps_par (i := 8) (j := 9) (by rfl) sc_l_is_rule.nd rfl rfl (by decide) rfl rfl (pa_cons (pe_disp (pps_cons pe_str pe_bl pps_nil) (by rfl) (by rfl) (fun z => by cases z) (by decide)) (pa_cons (pe_lst (pa_cons pe_str pa_nil)) pa_nil)) (by rfl))
    (pss_cons (ps_while PassesOwn.never (pt_cmpR (op_neD hr.units) (pv 9) (pe_lst pa_nil) (nomark _))
    (pss_cons (ps_set (i := 10) sc_l_is_rule.nd rfl (.inl rfl) (pe_bm0 PySem.F.plainAttrs_list PySem.F.slot_list_pop PySem.F.type_list_pop mt_pop (pv 9)))
    (pss_one (ps_for PassesOwn.never rfl (pi_str pe_str) (pg_name (i := 3) sc_l_is_rule.nd rfl (.inl rfl))
    (pss_cons (ps_set (i := 11) sc_l_is_rule.nd rfl (.inl rfl) (pe_op op_add_str (pv 10) (pv 3)))
    (pss_cons (ps_for PassesOwn.never rfl (pi_range1 (by rfl) T.b_range (pa_cons pe_int pa_nil)) (pg_name (i := 12) sc_l_is_rule.nd rfl (.inl rfl))
    (pss_one (ps_set (i := 11) sc_l_is_rule.nd rfl (.inl rfl) (pe_op op_add_str (pv 11) (pe_c c_l_put hr (by decide) rfl (pa_cons (pv 0) (pa_cons (pv 11) pa_nil)))))))
    (pss_cons (ps_if (pt_cmpR op_gt (pe_callB call_len_str (by rfl) T.b_len (by decide +kernel) (pa_cons (pv 11) pa_nil)) (pe_op op_add (pe_callB call_len_str (by rfl) T.b_len (by decide +kernel) (pa_cons (pv 10) pa_nil)) pe_int) (nomark _)) (pss_one (ps_ret pe_bl)) pss_nil)
    (pss_cons (ps_set (i := 13) sc_l_is_rule.nd rfl (.inl rfl) (pe_slice sl_txt (pv 11) (po_some (pe_callB (call_max2 rfl) (by rfl) T.b_max (by decide +kernel) (pa_cons pe_int (pa_cons (pe_op op_sub (pe_callB call_len_str (by rfl) T.b_len (by decide +kernel) (pa_cons (pv 11) pa_nil)) pe_int) pa_nil)))) po_none))
    (pss_one (ps_if (pt_cmp (pc_dnotin (hu_of hr) (pv 13) (pv 8))) (pss_cons (ps_dput (hu_of hr) (pv 8) (pv 13) pe_bl rfl)
    (pss_one (ps_expr (pe_bm PySem.F.plainAttrs_list PySem.F.slot_list_append PySem.F.type_list_append mt_append (pv 9) (pa_cons (pv 13) pa_nil))))) pss_nil))))))))))
    (pss_one (ps_ret pe_bl)))))), ?_⟩
    obtain ⟨r, ps, kb, ht, hl, hs, hss⟩ := id htold
    have lss : ss.length = ps.length := by rw [hss, List.length_map]
    refine ⟨_, rfl, t, _, 1, _, rfl, rfl, SqT.of ht, rfl, r, rfl, ⟨_, SqL.of hl⟩, fun D nD => ?_⟩
    refine lc_it (walk_list (xs := ps.map V.ref)) (fun i H2 => Same H H2 ∧ H2 D = some (.lst ((ss.take i).map fun s => V.str (W s.1)))) ⟨same_upd nD, upd_same⟩ (fun i H2 _ h2 => h2.1.seq (SqL.of hl)) ?_ ?_
    · rintro i x H2 H3 hi ⟨s2, hD⟩ ⟨rfl, hx⟩
      rw [List.getElem?_map] at hx
      obtain ⟨q, hq, rfl⟩ := Option.map_eq_some_iff.mp hx
      have hqm : q ∈ ps := List.mem_of_getElem? hq
      have hsi : ss[i]? = some (kb q) := by rw [hss, List.getElem?_map, hq]; rfl
      rw [List.length_map] at hi
      refine ⟨q, _, rfl, SqT.of (s2 _ _ (hs q hqm)), rfl, _, _, rfl, _, _, rfl, rfl, rfl, ?_⟩
      refine ⟨_, rfl, _, hD, ?_, ?_, ?_⟩
      · rw [List.length_map, List.length_take]; exact sl_lt (by omega)
      · intro c' o e
        rw [upd_ne (ne_of_none e nD)]
        exact s2 _ _ e
      · rw [upd_same, List.take_add_one, hsi, List.map_append]; rfl
    · rintro H2 ⟨s2, hD⟩
      rw [List.length_map, ← lss, List.take_length] at hD
      have at' : ∀ {i : Nat} {y : V}, (ss.map fun s => V.str (W s.1))[i]? = some y → ∃ a, ss[i]? = some a ∧ y = .str (W a.1) := fun {i y} h => by
        rw [List.getElem?_map] at h
        obtain ⟨a, ha, e⟩ := Option.map_eq_some_iff.mp h
        exact ⟨a, ha, e.symm⟩
      refine ⟨_, rfl, D, _, rfl, SqL.of hD, ?_⟩
      refine for_it walk_enum (fun i σ H3 => ∃ v2 v3 v4 v5 v6 v7 v8 v9 v10 v11 v12 v13 : Option V, σ = [some (.ref t), some (.ref D), v2, v3, v4, v5, v6, v7, v8, v9, v10, v11, v12, v13] ∧ Same H H3 ∧ H3 D = some (.lst (ss.map fun s => V.str (W s.1))) ∧ ∀ (i' j : Nat) (a b : Stf), i' < i → i' ≠ j → ss[i']? = some a → ss[j]? = some b → b.1.isSuffixOf a.1 = false)
        ⟨none, none, none, none, none, none, none, none, none, none, none, none, rfl, s2, hD, fun i' j a b h => absurd h (Nat.not_lt_zero _)⟩ (fun i σ H3 _ h3 => by obtain ⟨_, _, _, _, _, _, _, _, _, _, _, _, _, _, h, _⟩ := h3; exact SqL.of h) ?_ ?_
      · rintro i x σ H3 H3' hi ⟨v2, v3, v4, v5, v6, v7, v8, v9, v10, v11, v12, v13, rfl, s3, hD3, hno⟩ ⟨T', y1, y2, rfl, nT, rfl, e1, e2⟩
        cases e1
        obtain ⟨a, ha, rfl⟩ := at' e2
        refine ⟨T', _, rfl, SqT.of upd_same, rfl, _, _, rfl, _, _, rfl, rfl, ?_⟩
        have s4 : Same H (upd H3 T' (.tup [.int (i : Nat), .str (W a.1)])) := s3.trans (same_upd nT)
        have hD4 : upd H3 T' (.tup [.int (i : Nat), .str (W a.1)]) D = some (.lst (ss.map fun s => V.str (W s.1))) := same_upd nT _ _ hD3
        generalize upd H3 T' (.tup [.int (i : Nat), .str (W a.1)]) = H4 at s4 hD4
        refine ⟨_, rfl, D, _, rfl, SqL.of hD4, ?_⟩
        refine for_it walk_enum (fun j σ H5 => ∃ v2 v3 v6 v7 v8 v9 v10 v11 v12 v13 : Option V, σ = [some (.ref t), some (.ref D), v2, v3, some (.int (i : Nat)), some (.str (W a.1)), v6, v7, v8, v9, v10, v11, v12, v13] ∧ Same H H5 ∧ H5 D = some (.lst (ss.map fun s => V.str (W s.1))) ∧ ∀ (j' : Nat) (b : Stf), j' < j → i ≠ j' → ss[j']? = some b → b.1.isSuffixOf a.1 = false)
          ⟨_, _, _, _, _, _, _, _, _, _, rfl, s4, hD4, fun j' b h => absurd h (Nat.not_lt_zero _)⟩ (fun i σ H3 _ h3 => by obtain ⟨_, _, _, _, _, _, _, _, _, _, _, _, h, _⟩ := h3; exact SqL.of h) ?_ ?_
        · rintro j x σ H5 H5' hj ⟨v2, v3, v6, v7, v8, v9, v10, v11, v12, v13, rfl, s5, hD5, hno5⟩ ⟨T2, y1, y2, rfl, nT2, rfl, e1, e2⟩
          cases e1
          obtain ⟨b', hb', rfl⟩ := at' e2
          refine ⟨T2, _, rfl, SqT.of upd_same, rfl, _, _, rfl, _, _, rfl, rfl, ?_⟩
          have s6 : Same H (upd H5 T2 (.tup [.int (j : Nat), .str (W b'.1)])) := s5.trans (same_upd nT2)
          have hD6 : upd H5 T2 (.tup [.int (j : Nat), .str (W b'.1)]) D = some (.lst (ss.map fun s => V.str (W s.1))) := same_upd nT2 _ _ hD5
          generalize upd H5 T2 (.tup [.int (j : Nat), .str (W b'.1)]) = H6 at s6 hD6
          refine ⟨_, rfl, _, rfl, rfl, _, rfl, ?_⟩
          by_cases ij : i = j
          · refine iteNS (by rw [ij]) ?_
            refine ⟨_, _, _, _, _, _, _, _, _, _, rfl, s6, hD6, fun j' b hj' nij hb => ?_⟩
            exact hno5 j' b (by omega) nij hb
          · refine iteNT (fun z => ij (by have := V.int.inj z; omega)) ?_
            refine ⟨_, rfl, ⟨_, rfl⟩, _, rfl, _, _, rfl, rfl, _, rfl, ?_⟩
            rw [W_ends]
            cases ce : b'.1.isSuffixOf a.1 with
            | true => exact k false _ s6 (fun z => by cases z)
            | false =>
              refine ⟨_, _, _, _, _, _, _, _, _, _, rfl, s6, hD6, fun j' b hj' nij hb => ?_⟩
              by_cases ej : j' = j
              · subst ej
                rw [hb'] at hb
                cases hb
                exact ce
              · exact hno5 j' b (by omega) nij hb
        · rintro σ H5 ⟨v2, v3, v6, v7, v8, v9, v10, v11, v12, v13, rfl, s5, hD5, hno5⟩
          refine ⟨_, _, _, _, _, _, _, _, _, _, _, _, rfl, s5, hD5, fun i' j a' b' hi' nij ha' hb' => ?_⟩
          by_cases ei : i' = i
          · subst ei
            rw [ha] at ha'
            cases ha'
            exact hno5 j b' (by rw [List.length_map]; exact (List.getElem?_eq_some_iff.mp hb').1) nij hb'
          · exact hno i' j a' b' (by omega) nij ha' hb'
      · rintro σ H3 ⟨v2, v3, v4, v5, v6, v7, v8, v9, v10, v11, v12, v13, rfl, s3, hD3, hno⟩
        have hfree : SufFree ss := sufFree_of fun i j a b nij ha hb => hno i j a b (by rw [List.length_map]; exact (List.getElem?_eq_some_iff.mp ha).1) nij ha hb
        clear hno hD3 hD s2
        refine fun d nd => ⟨upd_same, [(.inr "", .bl true)], rfl, by decide, by show 1 ≤ sizeLine; decide, fun q nq => ⟨_, _, rfl, ?_⟩⟩
        have nqd : q ≠ d := fun z => by rw [z, upd_same] at nq; cases nq
        have nd0 : H d = none := s3.free nd
        have nq0 : H q = none := by
          cases e : H q with
          | none => rfl
          | some o => rw [upd_ne nqd, upd_ne nqd, s3 _ _ e] at nq; cases nq
        have b0 : Dfs ss H (upd (upd (upd H3 d (.dK [])) d (.dK (mergeK [] [(.inr "", .bl true)]))) q (.lst [.str ""])) q d [[]] [[]] := by
          refine ⟨fun c o e => ?_, ?_, ?_, by simp, ?_, fun w hw => hw, List.mem_cons_self, Nat.le_refl _⟩
          · have n1 := ne_of_none e nd0
            have n2 := ne_of_none e nq0
            rw [upd_ne n2, upd_ne n1, upd_ne n1]
            exact s3 _ _ e
          · rw [upd_same, W_nil]; rfl
          · rw [upd_ne (Ne.symm nqd), upd_same, W_nil]; rfl
          · intro w hw; rw [List.mem_singleton.mp hw]; exact Nat.zero_le _
        generalize upd (upd (upd H3 d (.dK [])) d (.dK (mergeK [] [(.inr "", .bl true)]))) q (.lst [.str ""]) = H4 at b0
        refine ⟨fun m σ H5 => ∃ (kn wt : List (List Bool)) (v2 v3 v4 v5 v6 v7 v10 v11 v12 v13 : Option V), σ = [some (.ref t), some (.ref D), v2, v3, v4, v5, v6, v7, some (.ref d), some (.ref q), v10, v11, v12, v13] ∧ Dfs ss H H5 q d kn wt ∧ (∀ w ∈ kn, w ∈ wt ∨ ∀ b, Cls1 ss kn w b) ∧ m = wt.length + 2 * (64 - kn.length),
          ⟨_, [[]], [[]], _, _, _, _, _, _, _, _, _, _, rfl, b0, fun w hw => .inl hw, rfl⟩, ?_⟩
        rintro m σ H5 ⟨kn, wt, v2, v3, v4, v5, v6, v7, v10, v11, v12, v13, rfl, B5, hcl, rfl⟩
        refine ⟨_, rfl, Nat.zero_le _, fun p hp => ?_⟩
        have B6 := B5.on (same_upd (o := .lst []) hp)
        refine ⟨.list (wt.map dS), .list [], .lst (SqL.of B6.wait) (dp_strs _), .lst (SqL.of upd_same) .nil, shaped_strs _, shaped_nil, _, rfl, ?_⟩
        generalize upd H5 p (.lst []) = H6 at B6
        rw [eqv_nil]
        rcases List.eq_nil_or_concat wt with rfl | ⟨wt', w0, rfl⟩
        · refine k true H6 B6.same fun _ => ⟨hfree, okS_of kn h3 B6.nil fun w hw b => ?_⟩
          rcases hcl w hw with z | z
          · cases z
          · exact z b
        · rw [List.concat_eq_append] at *
          refine iteBT (by simp) ?_
          refine ⟨fun σ' H' => ∃ m', m' < (wt' ++ [w0]).length + 2 * (64 - kn.length) ∧ ∃ (kn wt : List (List Bool)) (v2 v3 v4 v5 v6 v7 v10 v11 v12 v13 : Option V), σ' = [some (.ref t), some (.ref D), v2, v3, v4, v5, v6, v7, some (.ref d), some (.ref q), v10, v11, v12, v13] ∧ Dfs ss H H' q d kn wt ∧ (∀ w ∈ kn, w ∈ wt ∨ ∀ b, Cls1 ss kn w b) ∧ m' = wt.length + 2 * (64 - kn.length), fun _ _ h => h, ?_⟩
          refine ⟨_, rfl, .inl ⟨rfl, _, SqL.of B6.wait⟩, q, _, .str (W w0), rfl, rfl, B6.wait, pop_end, ?_⟩
          rw [pop_rest]
          have w0k : w0 ∈ kn := B6.sub _ (List.mem_append_right _ List.mem_cons_self)
          have l0 : w0.length ≤ 5 := B6.short _ w0k
          have B7 : Dfs ss H (upd H6 q (.lst (wt'.map fun w => V.str (W w)))) q d kn wt' := by
            refine ⟨fun c o e => ?_, upd_same, ?_, B6.nodup, B6.short, fun w hw => B6.sub w (List.mem_append_left _ hw), B6.nil, by have := B6.le; rw [List.length_append] at this; omega⟩
            · rw [upd_ne (ne_of_none e nq0)]; exact B6.same _ _ e
            · rw [upd_ne (Ne.symm nqd)]; exact B6.known
          generalize upd H6 q (.lst (wt'.map fun w => V.str (W w))) = H7 at B7
          have hm0 : wt'.length + 2 * (64 - kn.length) < (wt' ++ [w0]).length + 2 * (64 - kn.length) := by rw [List.length_append, List.length_cons, List.length_nil]; omega
          have hcl7 : ∀ u ∈ kn, u ∈ wt' ∨ u = w0 ∨ ∀ b, Cls1 ss kn u b := fun u hu => by
            rcases hcl u hu with z | z
            · rcases List.mem_append.mp z with z | z
              · exact .inl z
              · exact .inr (.inl (List.mem_singleton.mp z))
            · exact .inr (.inr z)
          generalize (wt' ++ [w0]).length + 2 * (64 - kn.length) = m at hm0 ⊢
          refine ⟨_, rfl, for_it walk_str (fun i σ H8 => ∃ (kn wt : List (List Bool)) (v2 v3 v4 v5 v6 v7 v11 v12 v13 : Option V), σ = [some (.ref t), some (.ref D), v2, v3, v4, v5, v6, v7, some (.ref d), some (.ref q), some (.str (W w0)), v11, v12, v13] ∧ Dfs ss H H8 q d kn wt ∧ w0 ∈ kn ∧ (∀ u ∈ kn, u ∈ wt ∨ u = w0 ∨ ∀ b, Cls1 ss kn u b) ∧ (∀ (j : Nat) (b : Bool), j < i → [false, true][j]? = some b → Cls1 ss kn w0 b) ∧ wt.length + 2 * (64 - kn.length) < m)
            ⟨kn, wt', _, _, _, _, _, _, _, _, _, rfl, B7, w0k, hcl7, fun j b h => absurd h (Nat.not_lt_zero _), hm0⟩ (fun _ _ _ _ _ => trivial) ?_ ?_⟩
          · clear hcl7 B7 B6 B5 hm0 w0k hcl
            rintro i x σ H8 H8' hi ⟨kn, wt, v2, v3, v4, v5, v6, v7, v11, v12, v13, rfl, B8, w0k, hcl8, hbits, hm8⟩ ⟨rfl, c, hc, rfl⟩
            have e01 : ("01" : Str) = W [false, true] := by decide +kernel
            rw [e01] at hc
            obtain ⟨bb, hbb, rfl⟩ := W_get hc
            have ew : W w0 ++ (⟨#[bt bb]⟩ : Str) = W (w0 ++ [bb]) := W_cat w0 [bb]
            have el : (W w0).length + (⟨#[bt bb]⟩ : Str).length ≤ sizeLine := by
              have e1 : (W w0).length = w0.length := W_len _
              have e2 : (⟨#[bt bb]⟩ : Str).length = 1 := W_len [bb]
              rw [e1, e2]; exact sl_len (by omega)
            refine ⟨_, rfl, _, rfl, _, _, rfl, rfl, el, ?_⟩
            rw [ew]
            have hll : (w0 ++ [bb]).length ≤ 6 := by rw [List.length_append, List.length_cons, List.length_nil]; omega
            refine ⟨_, rfl, by decide, by decide, for_it walk_range (fun i σ H9 => ∃ (v12 v13 : Option V), σ = [some (.ref t), some (.ref D), v2, some (.str ⟨#[bt bb]⟩), v4, v5, v6, v7, some (.ref d), some (.ref q), some (.str (W w0)), some (.str (W (itP ss i (w0 ++ [bb])))), v12, v13] ∧ Same H8' H9) ⟨_, _, rfl, Same.refl _⟩ (fun _ _ _ _ _ => trivial) ?_ ?_⟩
            · rintro i9 x σ H9 H9' hi9 ⟨v12, v13, rfl, s9⟩ ⟨rfl, rfl⟩
              have hi24 : i9 < 24 := hi9
              have hle := itP_le ss i9 (w0 ++ [bb])
              have e1 : (W (itP ss i9 (w0 ++ [bb]))).length = (itP ss i9 (w0 ++ [bb])).length := W_len _
              refine ⟨_, rfl, _, rfl, _, rfl, t, fl, _, ss, rfl, (htold.same B8.same).same s9, by omega, h2, fun s hs => Nat.le_trans (h3 s hs) (by decide), fun H10 s10 => ⟨_, _, rfl, rfl, ?_, ?_⟩⟩
              · have e2 : (W (putL ss (itP ss i9 (w0 ++ [bb])))).length = (putL ss (itP ss i9 (w0 ++ [bb]))).length := W_len _
                have := putL_len ss (itP ss i9 (w0 ++ [bb]))
                rw [e1, e2]; exact sl_len (by omega)
              · rw [W_cat, ← stP_eq, ← itP_succ]
                exact ⟨_, _, rfl, s9.trans s10⟩
            · rintro σ H9 ⟨v12, v13, rfl, s9⟩
              have hle := itP_le ss 24 (w0 ++ [bb])
              have e24 : (24 : Int).toNat = 24 := rfl
              have B9 := B8.on s9
              have e1 : (W (itP ss 24 (w0 ++ [bb]))).length = (itP ss 24 (w0 ++ [bb])).length := W_len _
              have e2 : (W w0).length = w0.length := W_len _
              have l1 : (W (itP ss 24 (w0 ++ [bb]))).length ≤ sizeLine := by rw [e1]; exact sl_len (by omega)
              refine ⟨_, rfl, _, rfl, l1, _, rfl, _, rfl, by rw [e2]; exact sl_len (by omega), _, _, rfl, rfl, _, _, rfl, rfl, _, rfl, ?_⟩
              by_cases cl : w0.length + 20 < (itP ss 24 (w0 ++ [bb])).length
              · refine iteDT (by rw [e2]; show _ < (((W (itP ss 24 (w0 ++ [bb]))).length : Nat) : Int); rw [e1]; omega) ?_
                exact k false _ B9.same (fun z => by cases z)
              · refine iteDF (by rw [e2]; show ¬ _ < (((W (itP ss 24 (w0 ++ [bb]))).length : Nat) : Int); rw [e1]; omega) ?_
                refine ⟨_, rfl, _, rfl, _, rfl, l1, _, _, rfl, rfl, _, _, rfl, _, rfl, _, rfl, l1, ?_⟩
                show gName 13 (.str (Txt.slice (W (itP ss 24 (w0 ++ [bb]))) (some (if (((W (itP ss 24 (w0 ++ [bb]))).length : Nat) : Int) - 5 > 0 then (((W (itP ss 24 (w0 ++ [bb]))).length : Nat) : Int) - 5 else 0)) none)) _ _ _
                rw [W_tail5]
                refine ⟨_, rfl, _, rfl, d, _, rfl, DGet.k (k := .inr (W (tl 5 (itP ss 24 (w0 ++ [bb]))))) B9.known, _, rfl, ?_⟩
                have few9 := B9.few
                by_cases hin : tl 5 (itP ss 24 (w0 ++ [bb])) ∈ kn
                · refine iteBF (by rw [val_in hin]; rfl) ?_
                  refine ⟨kn, wt, _, _, _, _, _, _, _, _, _, rfl, B9, w0k, hcl8, fun j b hj hb => ?_, hm8⟩
                  by_cases ej : j = i
                  · subst ej
                    rw [hbb] at hb
                    cases hb
                    exact ⟨by omega, hin⟩
                  · exact hbits j b (by omega) hb
                · refine iteBT (by rw [val_out hin]; rfl) ?_
                  refine ⟨_, rfl, _, rfl, d, _, rfl, DPut.k (k := .inr (W (tl 5 (itP ss 24 (w0 ++ [bb]))))) B9.known (by unfold kst; rw [List.length_map]; exact sl_lt (by omega)), ?_⟩
                  rw [put_out hin]
                  have hW : upd H9 d (.dK (kst (kn ++ [tl 5 (itP ss 24 (w0 ++ [bb]))]))) q = some (.lst (wt.map fun w => V.str (W w))) := by rw [upd_ne nqd]; exact B9.wait
                  have wtl : wt.length < 1000 := by have := B9.le; omega
                  refine ⟨_, rfl, .inl ⟨rfl, _, SqL.of hW⟩, _, rfl, q, _, _, rfl, rfl, hW, by rw [List.length_map]; exact sl_lt (by omega), ?_⟩
                  refine ⟨kn ++ [tl 5 (itP ss 24 (w0 ++ [bb]))], wt ++ [tl 5 (itP ss 24 (w0 ++ [bb]))], _, _, _, _, _, _, _, _, _, rfl, ⟨fun c o e => ?_, ?_, ?_, ?_, ?_, ?_, List.mem_append_left _ B9.nil, by have := B9.le; rw [List.length_append, List.length_append]; exact Nat.add_le_add_right this _⟩, List.mem_append_left _ w0k, fun u hu => ?_, fun j b hj hb => ?_, ?_⟩
                  · rw [upd_ne (ne_of_none e nq0), upd_ne (ne_of_none e nd0)]
                    exact B9.same _ _ e
                  · rw [upd_same, List.map_append]; rfl
                  · rw [upd_ne (Ne.symm nqd), upd_same]
                  · rw [List.nodup_append]
                    refine ⟨B9.nodup, by simp, fun u hu v hv e => ?_⟩
                    rw [List.mem_singleton.mp hv] at e
                    exact hin (e ▸ hu)
                  · intro u hu
                    rcases List.mem_append.mp hu with z | z
                    · exact B9.short _ z
                    · rw [List.mem_singleton.mp z]; exact tl_le _ _
                  · intro u hu
                    rcases List.mem_append.mp hu with z | z
                    · exact List.mem_append_left _ (B9.sub _ z)
                    · exact List.mem_append_right _ z
                  · rcases List.mem_append.mp hu with z | z
                    · rcases hcl8 u z with z | z | z
                      · exact .inl (List.mem_append_left _ z)
                      · exact .inr (.inl z)
                      · exact .inr (.inr fun b => (z b).more)
                    · exact .inl (List.mem_append_right _ z)
                  · by_cases ej : j = i
                    · subst ej
                      rw [hbb] at hb
                      cases hb
                      exact ⟨by omega, List.mem_append_right _ List.mem_cons_self⟩
                    · exact (hbits j b (by omega) hb).more
                  · rw [List.length_append, List.length_append, List.length_cons, List.length_nil]; omega
          · rintro σ H8 ⟨kn, wt, v2, v3, v4, v5, v6, v7, v11, v12, v13, rfl, B8, w0k, hcl8, hbits, hm8⟩
            refine ⟨_, hm8, kn, wt, _, _, _, _, _, _, _, _, _, _, rfl, B8, fun u hu => ?_, rfl⟩
            rcases hcl8 u hu with z | z | z
            · exact .inl z
            · rw [z]
              refine .inr fun b => ?_
              have e2 : ("01" : Str).cps.size = 2 := by decide +kernel
              cases b with
              | false => exact hbits 0 false (by rw [e2]; decide) rfl
              | true => exact hbits 1 true (by rw [e2]; decide) rfl
            · exact .inr z
end
end U
set_option maxRecDepth 100000
set_option maxHeartbeats 4000000
namespace U
open PySem PySem.Spec PyProof.Rows
open L2 hiding Fun CX0 E0 pass0 Fun.binds
open C8 Lx SX StX
def spRule : Sp := fun vs H Q _ => ∃ (b : Addr) (wd lo : Nat), vs = [.ref b, .int wd, .int lo] ∧ Box H b ∧ 2 ≤ wd ∧ wd ≤ 100 ∧ 1 ≤ lo ∧ lo ≤ 5 ∧
  ∀ (t : Addr) (f : List Bool) (ss : List Stf) H', Up b H H' → Told H' t f ss → 2 ≤ f.length → f.length ≤ max wd 3 → ss.length ≤ 2 → StOk ss → OkS ss → (∀ s ∈ ss, s.1.length ≤ lo) → Q (.ref t) H'
theorem told_const {H : Hp} {p1 p2 p3 : Addr} {z0 z1 z2 : Str} {f p : List Bool} {b : Bool} (e0 : z0 = W f) (e1 : z1 = W p) (e2 : z2 = W [b]) (n1 : H p1 = none) (n2 : upd H p1 (.tup [.str z1, .str z2]) p2 = none) (n3 : upd (upd H p1 (.tup [.str z1, .str z2])) p2 (.lst [.ref p1]) p3 = none) :
    Same H (upd (upd (upd H p1 (.tup [.str z1, .str z2])) p2 (.lst [.ref p1])) p3 (.tup [.str z0, .ref p2])) ∧ Told (upd (upd (upd H p1 (.tup [.str z1, .str z2])) p2 (.lst [.ref p1])) p3 (.tup [.str z0, .ref p2])) p3 f [(p, b)] := by
  refine ⟨((same_upd n1).trans (same_upd n2)).trans (same_upd n3), p2, [p1], fun _ => (p, b), ?_, ?_, ?_, rfl⟩
  · rw [upd_same, e0]
  · exact same_upd n3 _ _ upd_same
  · intro t ht
    rw [List.mem_singleton.mp ht, ← e1, ← e2]
    exact same_upd n3 _ _ (same_upd n2 _ _ upd_same)
def Good1 (m n : Nat) (H : Hp) (x : Addr) : Prop := ∃ f p b, Told H x f [(p, b)] ∧ 2 ≤ f.length ∧ f.length ≤ m ∧ p ≠ [] ∧ p.length ≤ n ∧ OkS [(p, b)]
theorem Good1.same {m n : Nat} {H H' : Hp} {x : Addr} (h : Good1 m n H x) (e : Same H H') : Good1 m n H' x := by
  obtain ⟨f, p, b, h1, h2⟩ := h
  exact ⟨f, p, b, h1.same e, h2⟩
theorem Good1.up {m n : Nat} {b : Addr} {H H' : Hp} {x : Addr} (hb : Box H b) (h : Good1 m n H x) (e : Up b H H') : Good1 m n H' x := by
  obtain ⟨f, p, b, h1, h2⟩ := h
  exact ⟨f, p, b, h1.up hb e, h2⟩
theorem told1 {H : Hp} {x : Addr} {f p : List Bool} {b : Bool} (h : Told H x f [(p, b)]) : ∃ l q, H x = some (.tup [.str (W f), .ref l]) ∧ H l = some (.lst [.ref q]) ∧ H q = some (.tup [.str (W p), .str (W [b])]) := by
  obtain ⟨l, ps, kb, h1, h2, h3, h4⟩ := h
  cases ps with
  | nil => cases h4
  | cons q r =>
    cases r with
    | cons _ _ => have := congrArg List.length h4; simp at this
    | nil =>
      have e : kb q = (p, b) := (List.cons.inj h4).1.symm
      have := h3 q List.mem_cons_self
      rw [e] at this
      exact ⟨l, q, h1, h2, this⟩
theorem told_dp {K : PySem.W.Frag} {m n : Nat} {H : Hp} {x : Addr} (h : Good1 m n H x) : ∃ d, Dp K H (.ref x) d ∧ DOk 3 d := by
  obtain ⟨f, p, b, h1, _⟩ := h
  obtain ⟨l, q, hx, hl, hq⟩ := told1 h1
  refine ⟨.tuple [.str (W f), .list [.tuple [.str (W p), .str (W [b])]]], .tup (SqT.of hx) (.cons (.str _) (.cons (.lst (SqL.of hl) (.cons (.tup (SqT.of hq) (.cons (.str _) (.cons (.str _) .nil))) .nil)) .nil)), ?_⟩
  have w0 : ∀ {n : Nat} (x : List Bool), DOk n (.str (W x)) := fun x => ⟨strOk_W x, Nat.zero_le _⟩
  refine dok_tup fun d hd => ?_
  rcases List.mem_cons.mp hd with rfl | hd
  · exact w0 _
  · rw [List.mem_singleton.mp hd]
    refine dok_list fun d hd => ?_
    rw [List.mem_singleton.mp hd]
    refine dok_tup fun d hd => ?_
    rcases List.mem_cons.mp hd with rfl | hd
    · exact w0 _
    · rw [List.mem_singleton.mp hd]; exact w0 _
theorem tolds_dp {K : PySem.W.Frag} {m n : Nat} {H : Hp} : ∀ {ts : List Addr}, (∀ x ∈ ts, Good1 m n H x) → ∃ ds, DpAll K H (ts.map V.ref) ds ∧ (∀ d ∈ ds, DOk 3 d) ∧ ds.isEmpty = ts.isEmpty
  | [], _ => ⟨[], .nil, (fun _ h => nomatch h), rfl⟩
  | x :: r, h => by
    obtain ⟨d, h1, h2⟩ := told_dp (K := K) (h x List.mem_cons_self)
    obtain ⟨ds, h3, h4, _⟩ := tolds_dp (K := K) (ts := r) fun y hy => h y (List.mem_cons_of_mem _ hy)
    refine ⟨d :: ds, .cons h1 h3, fun e he => ?_, rfl⟩
    rcases List.mem_cons.mp he with rfl | he
    · exact h2
    · exact h4 e he
theorem stOk1 {p : List Bool} {b : Bool} (h0 : p ≠ []) (h : p.length ≤ 5) : StOk [(p, b)] := by
  refine ⟨by show 1 ≤ 1000; decide, fun s hs => ?_, ?_, List.pairwise_singleton _ _⟩
  · rw [List.mem_singleton.mp hs]; exact h0
  · refine longM_max fun s hs => ?_
    rw [List.mem_singleton.mp hs]
    show p.length ≤ 13
    omega
theorem mem5 {v : V} (h : v ∈ ([.int 0, .int 1, .int 1, .int 1, .int 2] : List V)) : ∃ n : Nat, v = .int n ∧ n ≤ 2 := by
  rcases List.mem_cons.mp h with rfl | h
  · exact ⟨0, rfl, by decide⟩
  · rcases List.mem_cons.mp h with rfl | h
    · exact ⟨1, rfl, by decide⟩
    · rcases List.mem_cons.mp h with rfl | h
      · exact ⟨1, rfl, by decide⟩
      · rcases List.mem_cons.mp h with rfl | h
        · exact ⟨1, rfl, by decide⟩
        · exact ⟨2, List.mem_singleton.mp h, by decide⟩
section
variable {P : Program} {w : World} {K : PySem.W.Frag} {mg : Str → Option Value} {base : Heap}
theorem sc_l_rule : FnScope ["_law_box", "_law_widest", "_law_longest_one", "_law_some", "_law_one", "_law_turn", "_law_stuffs", "_law_more", "_law_told"] ["_law_box", "_law_widest", "_law_longest_one"] (fnScope s_l_rule) := fnScope_by (by decide +kernel)
theorem cal_l_rule {f : Addr} {fd : FuncData} (F : Def K mg "_law_rule" s_l_rule f fd) (b : Binds K fd ["_law_box", "_law_widest", "_law_longest_one"] []) (T : Tx mg) (c_l_choose : Cal P w K mg base 1 "_law_choose" spChoose []) (c_l_one_of : Cal P w K mg base 2 "_law_one_of" spOneOf []) (c_l_word : Cal P w K mg base 3 "_law_word" spWordF [])
    (c_l_is_rule : Cal P w K mg base 2 "_law_is_rule" spIsRule []) : Cal P w K mg base 4 "_law_rule" spRule [] := by
  refine cal0 F b .nil sc_l_rule (fun vs H Q E h => ?_) (fun cdv A outer s H vs Q E hr h => ?_)
  · obtain ⟨_, _, _, rfl, _⟩ := h; rfl
  · obtain ⟨bx, wd, lo, rfl, hb, w2, w100, l1, l5, k⟩ := h
    refine ⟨_, (pss_cons (ps_set (i := 3) sc_l_rule.nd rfl (.inl rfl) (pe_lst (pa_cons (pe_tup (pa_cons pe_str (pa_cons (pe_lst (pa_cons (pe_tup (pa_cons pe_str (pa_cons pe_str pa_nil))) pa_nil)) pa_nil))) (pa_cons (pe_tup (pa_cons pe_str (pa_cons (pe_lst (pa_cons (pe_tup (pa_cons pe_str (pa_cons pe_str pa_nil))) pa_nil)) pa_nil))) (pa_cons (pe_tup (pa_cons pe_str (pa_cons (pe_lst (pa_cons (pe_tup (pa_cons pe_str (pa_cons pe_str pa_nil))) pa_nil)) pa_nil))) (pa_cons (pe_tup (pa_cons pe_str (pa_cons (pe_lst (pa_cons (pe_tup (pa_cons pe_str (pa_cons pe_str pa_nil))) pa_nil)) pa_nil))) pa_nil))))))
    (pss_cons (ps_setLc (i := 3) (own := [("_law_one", 4)]) (g := gName 4) (by rfl) sc_l_rule.nd rfl rfl (sw_true rfl rfl rfl (by decide +kernel)) (pi_list (pv 3)) (blkOk_by (own := [("_law_one", 4)]) (N := ["_law_box", "_law_widest", "_law_longest_one", "_law_some", "_law_one", "_law_turn", "_law_stuffs", "_law_more", "_law_told"]) (sc := fnScope s_l_rule) (by decide +kernel)) (fun _ _ _ _ _ => (pg_name (i := 4) sc_l_rule.nd rfl (.inl rfl))) (fun _ _ _ _ _ => (pts_one (PW.pt (pw_and (pt_cmpR op_le (pe_callB call_len_str (by rfl) T.b_len (by decide +kernel) (pa_cons (pe_ix (show IxR _ (rIxT K) from ix_tup) (pv 4) pe_int (fun _ _ => rfl)) pa_nil)) (pv 1) (nomark _)) (pw_and1 (pt_cmpR op_le (pe_callB call_len_str (by rfl) T.b_len (by decide +kernel) (pa_cons (pe_ix (show IxR _ (rIxT K) from ix_tup) (pe_ix (show IxR _ (rIxL K) from ix_list) (pe_ix (show IxR _ (rIxT K) from ix_tup) (pv 4) pe_int (fun _ _ => rfl)) pe_int (fun _ _ => rfl)) pe_int (fun _ _ => rfl)) pa_nil)) (pv 2) (nomark _))))))) (fun _ _ _ _ _ => (pv 4)))
    (pss_cut (ps_if (PW.pt (pw_and (pt_cmpR (op_neD hr.units) (pv 3) (pe_lst pa_nil) (nomark _)) (pw_and1 (pt_cmpR op_eq (pe_c c_l_choose hr (by decide) rfl (pa_cons (pv 0) (pa_cons pe_int pa_nil))) pe_int (nomark _))))) (pss_one (ps_ret (pe_c c_l_one_of hr (by decide) rfl (pa_cons (pv 0) (pa_cons (pv 3) pa_nil))))) pss_nil)
    (pss_cons (ps_for PassesOwn.never rfl (pi_range1 (by rfl) T.b_range (pa_cons pe_int pa_nil)) (pg_name (i := 5) sc_l_rule.nd rfl (.inl rfl))
    (pss_cons (ps_set (i := 6) sc_l_rule.nd rfl (.inl rfl) (pe_lst pa_nil))
    (pss_cons (ps_for PassesOwn.never rfl (pi_range1 (by rfl) T.b_range (pa_cons (pe_c c_l_one_of hr (by decide) rfl (pa_cons (pv 0) (pa_cons (pe_lst (pa_cons pe_int (pa_cons pe_int (pa_cons pe_int (pa_cons pe_int (pa_cons pe_int pa_nil)))))) pa_nil))) pa_nil)) (pg_name (i := 7) sc_l_rule.nd rfl (.inl rfl))
    (pss_one (ps_expr (pe_bm PySem.F.plainAttrs_list PySem.F.slot_list_append PySem.F.type_list_append mt_append (pv 6) (pa_cons (pe_tup (pa_cons (pe_c c_l_word hr (by decide) rfl (pa_cons (pv 0) (pa_cons pe_int (pa_cons (pv 2) pa_nil)))) (pa_cons (pe_c c_l_one_of hr (by decide) rfl (pa_cons (pv 0) (pa_cons (pe_lst (pa_cons pe_str (pa_cons pe_str pa_nil))) pa_nil))) pa_nil))) pa_nil)))))
    (pss_cons (ps_set (i := 8) sc_l_rule.nd rfl (.inl rfl) (pe_tup (pa_cons (pe_c c_l_word hr (by decide) rfl (pa_cons (pv 0) (pa_cons pe_int (pa_cons (pv 1) pa_nil)))) (pa_cons (pv 6) pa_nil))))
    (pss_one (ps_if (pt_val (pe_c c_l_is_rule hr (by decide) rfl (pa_cons (pv 8) pa_nil))) (pss_one (ps_ret (pv 8))) pss_nil))))))
    (pss_one (ps_ret (pe_tup (pa_cons pe_str (pa_cons (pe_lst pa_nil) pa_nil))))))))), ?_⟩
    have i1 : 1 ≤ sizeLine := by decide
    have i2 : 2 ≤ sizeLine := by decide
    refine ⟨i2, fun a1 na1 => ⟨i1, fun a2 na2 => ⟨i2, fun a3 na3 => ?_⟩⟩⟩
    obtain ⟨sa, ta⟩ := told_const (z0 := "01110") (z1 := "11") (z2 := "0") (f := [false, true, true, true, false]) (p := [true, true]) (b := false) (by decide +kernel) (by decide +kernel) (by decide +kernel) na1 na2 na3
    generalize upd (upd (upd H a1 (.tup [.str "11", .str "0"])) a2 (.lst [.ref a1])) a3 (.tup [.str "01110", .ref a2]) = Ha at sa ta
    refine ⟨i2, fun b1 nb1 => ⟨i1, fun b2 nb2 => ⟨i2, fun b3 nb3 => ?_⟩⟩⟩
    obtain ⟨sb, tb⟩ := told_const (z0 := "0010") (z1 := "001") (z2 := "1") (f := [false, false, true, false]) (p := [false, false, true]) (b := true) (by decide +kernel) (by decide +kernel) (by decide +kernel) nb1 nb2 nb3
    generalize upd (upd (upd Ha b1 (.tup [.str "001", .str "1"])) b2 (.lst [.ref b1])) b3 (.tup [.str "0010", .ref b2]) = Hb at sb tb
    refine ⟨i2, fun c1 nc1 => ⟨i1, fun c2 nc2 => ⟨i2, fun c3 nc3 => ?_⟩⟩⟩
    obtain ⟨sc, tc⟩ := told_const (z0 := "11") (z1 := "1") (z2 := "0") (f := [true, true]) (p := [true]) (b := false) (by decide +kernel) (by decide +kernel) (by decide +kernel) nc1 nc2 nc3
    generalize upd (upd (upd Hb c1 (.tup [.str "1", .str "0"])) c2 (.lst [.ref c1])) c3 (.tup [.str "11", .ref c2]) = Hc at sc tc
    refine ⟨i2, fun d1 nd1 => ⟨i1, fun d2 nd2 => ⟨i2, fun d3 nd3 => ?_⟩⟩⟩
    obtain ⟨sd, td⟩ := told_const (z0 := "10001") (z1 := "00") (z2 := "1") (f := [true, false, false, false, true]) (p := [false, false]) (b := true) (by decide +kernel) (by decide +kernel) (by decide +kernel) nd1 nd2 nd3
    generalize upd (upd (upd Hc d1 (.tup [.str "00", .str "1"])) d2 (.lst [.ref d1])) d3 (.tup [.str "10001", .ref d2]) = Hd at sd td
    refine ⟨by show 4 ≤ sizeLine; decide, fun L nL => ?_⟩
    have sL : Same H (upd Hd L (.lst [.ref a3, .ref b3, .ref c3, .ref d3])) := ((((sa.trans sb).trans sc).trans sd)).trans (same_upd nL)
    have hL : upd Hd L (.lst [.ref a3, .ref b3, .ref c3, .ref d3]) L = some (.lst ([a3, b3, c3, d3].map V.ref)) := upd_same
    have hG : ∀ x ∈ [a3, b3, c3, d3], Good1 5 3 (upd Hd L (.lst [.ref a3, .ref b3, .ref c3, .ref d3])) x := fun x hx => by
      have g : Good1 5 3 Hd x := by
        rcases List.mem_cons.mp hx with rfl | hx
        · exact ⟨_, _, _, ((ta.same sb).same sc).same sd, by decide, by decide, by decide, by decide, okS_11⟩
        · rcases List.mem_cons.mp hx with rfl | hx
          · exact ⟨_, _, _, (tb.same sc).same sd, by decide, by decide, by decide, by decide, okS_001⟩
          · rcases List.mem_cons.mp hx with rfl | hx
            · exact ⟨_, _, _, tc.same sd, by decide, by decide, by decide, by decide, okS_1⟩
            · rw [List.mem_singleton.mp hx]
              exact ⟨_, _, _, td, by decide, by decide, by decide, by decide, okS_00⟩
      exact g.same (same_upd nL)
    generalize upd Hd L (.lst [.ref a3, .ref b3, .ref c3, .ref d3]) = H5 at sL hL hG
    clear td tc tb ta sd sc sb sa
    have las : [a3, b3, c3, d3].length ≤ 900 := by show 4 ≤ 900; decide
    generalize [a3, b3, c3, d3] = as at hL hG las
    refine ⟨_, rfl, L, rfl, ⟨_, SqL.of hL⟩, fun D nD => ?_⟩
    refine lc_it (walk_list (xs := as.map V.ref)) (fun i H2 => Same H5 H2 ∧ ∃ ts : List Addr, H2 D = some (.lst (ts.map V.ref)) ∧ ts.length ≤ i ∧ ∀ x ∈ ts, Good1 wd lo H5 x) ⟨same_upd nD, [], upd_same, Nat.zero_le _, fun _ h => nomatch h⟩ (fun i H2 _ h2 => h2.1.seq (SqL.of hL)) ?_ ?_
    · rintro i x H2 H3 hi ⟨s2, ts, hD, hts, hall⟩ ⟨rfl, hx⟩
      rw [List.getElem?_map] at hx
      obtain ⟨x, hq, rfl⟩ := Option.map_eq_some_iff.mp hx
      have g := hG x (List.mem_of_getElem? hq)
      obtain ⟨f0, p0, b0, tx, f2, f5, p1, p3, okr⟩ := id g
      obtain ⟨l, q, hx5, hl5, hq5⟩ := told1 tx
      rw [List.length_map] at hi
      have ef : (W f0).length = f0.length := W_len _
      have ep : (W p0).length = p0.length := W_len _
      refine ⟨rfl, ?_⟩
      refine ⟨_, rfl, x, _, 0, _, rfl, rfl, SqT.of (s2 _ _ hx5), rfl, _, rfl, by rw [ef]; exact sl_len (by omega), _, rfl, _, _, rfl, rfl, _, rfl, ?_⟩
      by_cases cf : f0.length ≤ wd
      · refine iteDT (by rw [ef]; omega) ?_
        refine ⟨_, rfl, x, _, 1, _, rfl, rfl, SqT.of (s2 _ _ hx5), rfl, l, _, 0, _, rfl, rfl, SqL.of (s2 _ _ hl5), rfl, q, _, 0, _, rfl, rfl, SqT.of (s2 _ _ hq5), rfl, _, rfl, by rw [ep]; exact sl_len (by omega), _, rfl, _, _, rfl, rfl, _, rfl, ?_⟩
        by_cases cp : p0.length ≤ lo
        · refine iteDT (by rw [ep]; omega) ?_
          refine ⟨_, rfl, _, hD, by rw [List.length_map]; exact sl_lt (by omega), ?_, ts ++ [x], ?_, by rw [List.length_append, List.length_cons, List.length_nil]; omega, fun y hy => ?_⟩
          · intro c' o e
            rw [upd_ne (ne_of_none e nD)]
            exact s2 _ _ e
          · rw [upd_same, List.map_append]; rfl
          · rcases List.mem_append.mp hy with m | m
            · exact hall y m
            · rw [List.mem_singleton.mp m]
              exact ⟨f0, p0, b0, tx, f2, cf, p1, cp, okr⟩
        · refine iteDF (by rw [ep]; omega) ?_
          exact ⟨s2, ts, hD, by omega, hall⟩
      · refine iteDF (by rw [ef]; omega) ?_
        exact ⟨s2, ts, hD, by omega, hall⟩
    · rintro H2 ⟨s2, ts, hD, hts, hall⟩
      rw [List.length_map] at hts
      have s02 : Same H H2 := sL.trans s2
      have hall2 : ∀ x ∈ ts, Good1 wd lo H2 x := fun x hx => (hall x hx).same s2
      clear hall hG hL
      have nDb : D ≠ bx := Box.ne (hb.same sL) nD
      have hD0 : H D = none := sL.free nD
      refine ⟨fun σ' H' => σ' = [some (.ref bx), some (.int wd), some (.int lo), some (.ref D), none, none, none, none, none] ∧ Up bx H H', ?_, ?_⟩
      · refine ⟨_, rfl, Nat.zero_le _, fun p hp => ?_⟩
        have s3 : Same H2 (upd H2 p (.lst [])) := same_upd hp
        obtain ⟨ds, hds, hok, hem⟩ := tolds_dp (K := K) fun x hx => (hall2 x hx).same s3
        refine ⟨.list ds, .list [], .lst (SqL.of (s3 _ _ hD)) hds, .lst (SqL.of upd_same) .nil, (dok_list hok).shaped (by decide), shaped_nil, _, rfl, ?_⟩
        rw [eqv_nil, hem]
        have s03 := s02.trans s3
        have hall3 : ∀ x ∈ ts, Good1 wd lo (upd H2 p (.lst [])) x := fun x hx => (hall2 x hx).same s3
        have hD3 := s3 _ _ hD
        generalize upd H2 p (.lst []) = H3 at s03 hall3 hD3
        cases hte : ts.isEmpty with
        | true => exact ⟨rfl, Up.of_same hb s03⟩
        | false =>
          have u3 := Up.of_same hb s03
          refine ⟨_, rfl, bx, 2, rfl, u3.2, by decide, by decide, fun d H4 d0 d1 u4 => ⟨rfl, _, rfl, ?_⟩⟩
          have u34 := u3.trans u4
          have hD4 := u4.1 _ _ hD3 nDb
          refine ite2 (fun _ => ?_) (fun _ => ⟨rfl, u34⟩)
          have hne : ts ≠ [] := fun z => by rw [z] at hte; cases hte
          refine ⟨_, rfl, _, rfl, bx, D, _, rfl, u34.2, hD4, nDb, ?_, ?_, fun v H5' hv u5 => ?_⟩
          · rw [List.length_map]; exact List.length_pos_iff.mpr hne
          · rw [List.length_map]; omega
          · obtain ⟨x, hx, rfl⟩ := List.mem_map.mp hv
            obtain ⟨f0, p0, b0, tx, h2, h5, hp0, hlo, okr⟩ := ((hall3 x hx).up u3.2 u4).up u34.2 u5
            refine k x f0 [(p0, b0)] H5' (u34.trans u5) tx h2 (by omega) (by show 1 ≤ 2; decide) (stOk1 hp0 (by omega)) okr fun s hs => ?_
            rw [List.mem_singleton.mp hs]
            exact hlo
      · clear hall2 hD hts s02 s2 hD0 nDb
        rintro σ' H3 ⟨rfl, u3⟩
        refine ⟨_, rfl, by decide, by decide, for_it walk_range (fun i σ H4 => ∃ v5 v6 v7 v8 : Option V, σ = [some (.ref bx), some (.int wd), some (.int lo), some (.ref D), none, v5, v6, v7, v8] ∧ Up bx H H4) ⟨_, _, _, _, rfl, u3⟩ (fun _ _ _ _ _ => trivial) ?_ ?_⟩
        · rintro i x σ H4 H4' hi ⟨v5, v6, v7, v8, rfl, u4⟩ ⟨rfl, rfl⟩
          refine ⟨Nat.zero_le _, fun S nS => ?_⟩
          have nSb : S ≠ bx := u4.2.ne nS
          have nS0 : H S = none := u4.free nS
          have u5 : Up bx H (upd H4' S (.lst [])) := u4.same (same_upd nS)
          have hS5 : upd H4' S (.lst []) S = some (.lst []) := upd_same
          generalize upd H4' S (.lst []) = H5' at u5 hS5
          refine ⟨_, rfl, by show 5 ≤ sizeLine; decide, fun l0 nl0 => ?_⟩
          have u6 := u5.same (same_upd (o := .lst [.int 0, .int 1, .int 1, .int 1, .int 2]) nl0)
          refine ⟨bx, l0, _, rfl, u6.2, upd_same, u5.2.ne nl0, by decide, by decide, fun v H7 hv u7 => ?_⟩
          obtain ⟨n, rfl, hn⟩ := mem5 hv
          have hS7 := u7.1 _ _ (same_upd nl0 _ _ hS5) nSb
          have u67 := u6.trans u7
          refine ⟨_, rfl, by omega, by omega, for_it walk_range (fun j σ H8 => ∃ (v7 : Option V) (ps : List Addr) (kb : Addr → Stf), σ = [some (.ref bx), some (.int wd), some (.int lo), some (.ref D), none, some (.int (0 + (i : Int))), some (.ref S), v7, v8] ∧ Up bx H H8 ∧ H8 S = some (.lst (ps.map V.ref)) ∧ StV H8 kb ps ∧ ps.length = j ∧ ∀ s ∈ ps.map kb, s.1 ≠ [] ∧ s.1.length ≤ lo) ⟨_, [], fun _ => ([], false), rfl, u67, hS7, (fun _ h => nomatch h), rfl, (fun _ h => nomatch h)⟩ (fun _ _ _ _ _ => trivial) ?_ ?_⟩
          · rintro j x σ H8 H8' hj ⟨v7, ps, kb, rfl, u8, hS8, hst, hps, hpat⟩ ⟨rfl, rfl⟩
            have hj2 : j < 2 := by
              have : j < ((n : Int)).toNat := hj
              omega
            refine ⟨_, rfl, .inl ⟨rfl, _, SqL.of hS8⟩, _, rfl, _, rfl, bx, 1, lo, rfl, u8.2, l1, by omega, fun pw H9 pw1 pwl u9 => ?_⟩
            have u89 := u8.trans u9
            refine ⟨_, rfl, i2, fun l1' nl1 => ?_⟩
            have u10 := u89.same (same_upd (o := .lst [.str "0", .str "1"]) nl1)
            refine ⟨bx, l1', _, rfl, u10.2, upd_same, u89.2.ne nl1, by decide, by decide, fun v H11 hv u11 => ?_⟩
            obtain ⟨bb, rfl⟩ := mem2 hv
            have u1011 := u10.trans u11
            refine ⟨i2, fun q nq => ?_⟩
            have hS11 : H11 S = some (.lst (ps.map V.ref)) := u11.1 _ _ (same_upd nl1 _ _ (u9.1 _ _ hS8 nSb)) nSb
            have hst11 : StV H11 kb ps := fun t ht => u11.1 _ _ (same_upd nl1 _ _ (u9.1 _ _ (hst t ht) (u8.2.neT (hst t ht)))) (u8.2.neT (hst t ht))
            have u12 := u1011.same (same_upd (o := .tup [.str (W pw), .str (W [bb])]) nq)
            have hS12 := same_upd (o := .tup [.str (W pw), .str (W [bb])]) nq _ _ hS11
            have hst12 : StV (upd H11 q (.tup [.str (W pw), .str (W [bb])])) (fun a => if a = q then (pw, bb) else kb a) (ps ++ [q]) := fun t ht => by
              rcases List.mem_append.mp ht with m | m
              · have nt : t ≠ q := ne_of_none (hst11 t m) nq
                rw [upd_ne nt]
                simp only [if_neg nt]
                exact hst11 t m
              · rw [List.mem_singleton.mp m, upd_same]
                simp only [if_pos]
            have hmk : (ps ++ [q]).map (fun a => if a = q then (pw, bb) else kb a) = ps.map kb ++ [(pw, bb)] := by
              rw [List.map_append]
              congr 1
              · refine List.map_congr_left fun t ht => if_neg (ne_of_none (hst11 t ht) nq)
              · show [if q = q then (pw, bb) else kb q] = _
                rw [if_pos rfl]
            generalize upd H11 q (.tup [.str (W pw), .str (W [bb])]) = H12 at u12 hS12 hst12
            refine ⟨S, _, _, rfl, rfl, hS12, by rw [List.length_map]; exact sl_lt (by omega), ?_⟩
            have uS : Up bx H (upd H12 S (.lst (ps.map V.ref ++ [.ref q]))) := u12.mut nS0 nSb
            refine ⟨_, ps ++ [q], fun a => if a = q then (pw, bb) else kb a, rfl, uS, by rw [upd_same, List.map_append]; rfl, fun t ht => ?_, by rw [List.length_append, List.length_cons, List.length_nil]; omega, ?_⟩
            · rw [upd_ne (ne_of (hst12 t ht) hS12 (by intro z; cases z))]
              exact hst12 t ht
            · rw [hmk]
              intro s hs
              rcases List.mem_append.mp hs with m | m
              · exact hpat s m
              · rw [List.mem_singleton.mp m]
                exact ⟨fun z => by rw [show pw = [] from z] at pw1; exact absurd pw1 (by decide), pwl⟩
          · rintro σ H8 ⟨v7, ps, kb, rfl, u8, hS8, hst, hps, hpat⟩
            refine ⟨_, rfl, _, rfl, bx, 2, wd, rfl, u8.2, w2, by omega, fun fw H9 fw2 fwl u9 => ⟨_, rfl, i2, fun t nt => ?_⟩⟩
            have u89 := u8.trans u9
            have hS9 := u9.1 _ _ hS8 nSb
            have hst9 : StV H9 kb ps := fun t ht => u9.1 _ _ (hst t ht) (u8.2.neT (hst t ht))
            have told : Told (upd H9 t (.tup [.str (W fw), .ref S])) t fw (ps.map kb) := ⟨S, ps, kb, upd_same, same_upd nt _ _ hS9, hst9.same (same_upd nt), rfl⟩
            have u10 := u89.same (same_upd (o := .tup [.str (W fw), .ref S]) nt)
            generalize upd H9 t (.tup [.str (W fw), .ref S]) = H10 at told u10
            have hn2 : ps.length ≤ 2 := by
              have : ps.length = ((n : Int)).toNat := hps
              omega
            refine ⟨_, rfl, t, fw, ps.map kb, rfl, told, by rw [List.length_map]; omega, fun s hs => Nat.le_trans (hpat s hs).2 l5, fun r H11 s11 hr11 => ⟨_, rfl, ?_⟩⟩
            cases r with
            | true =>
              obtain ⟨hfree, hokr⟩ := hr11 rfl
              refine ⟨_, rfl, ?_⟩
              refine k t fw (ps.map kb) H11 (u10.same s11) (told.same s11) fw2 (by omega) (by rw [List.length_map]; exact hn2) ⟨by rw [List.length_map]; omega, fun s hs => (hpat s hs).1, longM_max fun s hs => Nat.le_trans (hpat s hs).2 (by omega), hfree⟩ hokr fun s hs => (hpat s hs).2
            | false => exact ⟨_, _, _, _, rfl, u10.same s11⟩
        · rintro σ H4 ⟨v5, v6, v7, v8, rfl, u4⟩
          refine ⟨Nat.zero_le _, fun l nl => ⟨i2, fun t nt => ?_⟩⟩
          have st : Same H4 (upd (upd H4 l (.lst [])) t (.tup [.str "110", .ref l])) := (same_upd nl).trans (same_upd nt)
          refine k t [true, true, false] [] _ (u4.same st) ⟨l, [], fun _ => ([], false), ?_, same_upd nt _ _ upd_same, (fun _ h => nomatch h), rfl⟩ (by decide) (by show 3 ≤ max wd 3; omega) (Nat.zero_le _) ⟨Nat.zero_le _, (fun _ h => nomatch h), Nat.zero_le _, .nil⟩ okS_nil (fun _ h => nomatch h)
          rw [upd_same]
          have e : ("110" : Str) = W [true, true, false] := by decide +kernel
          rw [e]
end
end U
set_option maxRecDepth 100000
set_option maxHeartbeats 4000000
namespace U
open PySem PySem.Spec PyProof.Rows
open L2 hiding Fun CX0 E0 pass0 Fun.binds
open C8 Lx SX StX
def spMade (C : Addr) : Sp := fun vs H Q _ => ∃ (t : Addr) (f : List Bool) (ss : List Stf), vs = [.ref t] ∧ Told H t f ss ∧ StOk ss ∧ OkR ss ∧ 2 ≤ f.length ∧ f.length ≤ 1000 ∧
  ∀ a ss' H', Same H H' → ss'.Perm ss → SortedS ss' → RuAt C H' a f ss' → Q (.ref a) H'
theorem scal_oB (a b : Option Bool) : scal (oB a) (oB b) = true := by cases a <;> cases b <;> rfl
theorem scal_oB2 (a : Option Bool) (b : Bool) : scal (oB a) (.str (W [b])) = true := by cases a <;> rfl
def spLaw (K : PySem.W.Frag) : Sp := fun vs H Q _ => ∃ (a : Addr) (ns : List Int), vs = [.ref a] ∧ SqL K H a (ns.map V.int) ∧ ns.length ≤ 63 ∧ ∀ H', Q (.bl true) H'
theorem one_ends {ss : List Stf} (h : SufFree ss) (l : List Bool) : (ss.filter fun s => s.1.isSuffixOf l).length ≤ 1 := by
  have hp : (ss.filter fun s => s.1.isSuffixOf l).Pairwise fun a b => ¬ a.1 <:+ b.1 ∧ ¬ b.1 <:+ a.1 := List.Pairwise.filter _ h
  have hm : ∀ s ∈ ss.filter fun s => s.1.isSuffixOf l, s.1 <:+ l := fun s hs => List.isSuffixOf_iff_suffix.mp (List.mem_filter.mp hs).2
  generalize ss.filter (fun s => s.1.isSuffixOf l) = fs at hp hm
  match fs, hp, hm with
  | [], _, _ => exact Nat.zero_le _
  | [_], _, _ => exact Nat.le_refl _
  | a :: b :: r, hp, hm =>
    have h1 := (List.pairwise_cons.mp hp).1 b List.mem_cons_self
    rcases List.suffix_or_suffix_of_suffix (hm a List.mem_cons_self) (hm b (List.mem_cons_of_mem _ List.mem_cons_self)) with z | z
    · exact absurd z h1.1
    · exact absurd z h1.2
theorem put_app {ss : List Stf} (h : SufFree ss) {p : List Bool} {b : Bool} (hm : (p, b) ∈ ss) (x : List Bool) : putM ss (x ++ p) = some b := (put_iff h).mpr ⟨p, hm, List.suffix_append _ _⟩
theorem put_tail {ss : List Stf} (h : SufFree ss) {p : List Bool} {b : Bool} (hm : (p, b) ∈ ss) (hp : p ≠ []) : putM ss p.tail = none := by
  cases e : putM ss p.tail with
  | none => rfl
  | some c =>
    obtain ⟨q, hq, hs⟩ := (put_iff h).mp e
    have hl := hs.length_le
    have hpl : 0 < p.length := List.length_pos_iff.mpr hp
    rw [List.length_tail] at hl
    have ne : (q, c) ≠ (p, b) := fun z => by
      have : q = p := congrArg Prod.fst z
      rw [this] at hl
      omega
    exact absurd (hs.trans (List.tail_suffix p)) (h.ne hq hm ne)
def reprO : Option Bool → Str
  | none => "None"
  | some b => reprText (W [b])
theorem reprO_len (b : Bool) : (reprText (W [b])).length ≤ sizeLine := by
  have e : (reprText (W [b])).length ≤ 10 := by cases b <;> decide +kernel
  exact Nat.le_trans e (by decide)
theorem call_repr_oB {X : Cx} : CallR X (.builtin "repr") (fun xs H Q => ∃ o, xs = [oB o] ∧ Q (.str (reprO o)) H) := by
  intro pins s σ H xs us Q I r h
  obtain ⟨o, rfl, q⟩ := h
  obtain ⟨u, rfl, ru⟩ := vals1 r
  cases o with
  | none =>
    obtain rfl : u = Value.none := ru
    exact PySem.P.repr_of_none ⟨.str _, H, I.tok _, ⟨_, rfl⟩, q⟩
  | some b =>
    obtain ⟨t, rfl⟩ := ru
    exact PySem.P.repr_of_str ⟨.str _, H, I.tok _, ⟨_, rfl⟩, q⟩ (reprO_len b)
section
variable {P : Program} {w : World} {K : PySem.W.Frag} {mg : Str → Option Value} {base : Heap}
theorem sc_l_made : FnScope ["_law_rule_here"] ["_law_rule_here"] (fnScope s_l_made) := fnScope_by (by decide +kernel)
theorem cal_l_made {f C : Addr} {fd : FuncData} (F : Def K mg "_law_made" s_l_made f fd) (b : Binds K fd ["_law_rule_here"] []) (T : Tx mg) (m_Rule2 : Mak P w K mg base 5 "Rule" C (spRuInit K C) []) : Cal P w K mg base 7 "_law_made" (spMade C) [] := by
  refine cal0 F b .nil sc_l_made (fun vs H Q E h => ?_) (fun cdv A outer s H vs Q E hr h => ?_)
  · obtain ⟨_, _, _, rfl, _⟩ := h; rfl
  · obtain ⟨t, fl, ss, rfl, ⟨l, ps, kb, ht, hl, hs, rfl⟩, ok, hO, h2, hlen, k⟩ := h
    refine ⟨_, (pss_one (ps_ret (pe_mk m_Rule2 hr (by decide) rfl (pa_cons (pe_ix ix_tup (pv 0) pe_int (fun _ _ => rfl)) (pa_cons (pe_ix ix_tup (pv 0) pe_int (fun _ _ => rfl)) pa_nil))))), ?_⟩
    refine ⟨_, rfl, t, _, 0, _, rfl, rfl, SqT.of ht, rfl, _, rfl, t, _, 1, _, rfl, rfl, SqT.of ht, rfl, fun x dx nx ndx nex => ?_⟩
    have sm : Same H (upd (upd H dx (.own x)) x (.ins C dx [])) := fun c o e => by
      rw [upd_ne (ne_of_none e nx), upd_ne (ne_of_none e ndx)]; exact e
    refine ⟨x, dx, l, fl, ps, kb, rfl, upd_same, .inl (SqL.of (sm _ _ hl)), hs.same sm, ok, hO, h2, hlen, fun H' ss' keep pm srt hR => ⟨rfl, ?_⟩⟩
    exact k x ss' H' (Same.made nx ndx keep) pm srt hR
end
end U
set_option maxRecDepth 100000
set_option maxHeartbeats 4000000
namespace U
open PySem PySem.Spec PyProof.Rows
open L2 hiding Fun CX0 E0 pass0 Fun.binds
open C8 Lx SX StX
def stT (s : Stf) : Str := W s.1 ++ ":" ++ W [s.2]
def ruWs (f : List Bool) (ss : List Stf) : List Str := "flag" :: W f :: (if ss = [] then [] else "put" :: ss.map stT)
def ruT (f : List Bool) (ss : List Stf) : Str := Txt.join " " (ruWs f ss)
theorem lenC (a b : Str) : (a ++ b).length = a.length + b.length := by
  rw [TL.len_tl, TL.len_tl a, TL.len_tl b]
  have := TL.tl_append a b
  show (TL.tl (a ++ b)).length = _
  rw [this, List.length_append]
theorem no_in (c : Nat) (h : ¬ c = 48 ∧ ¬ c = 49) (l : List Bool) : c ∉ TL.tl (W l) := by
  show c ∉ l.map bt
  intro z
  obtain ⟨b, _, e⟩ := List.mem_map.mp z
  cases b
  · exact h.1 e.symm
  · exact h.2 e.symm
theorem sp_tl : TL.tl (" " : Str) = 32 :: [] := by decide +kernel
theorem co_tl : TL.tl (":" : Str) = 58 :: [] := by decide +kernel
theorem sp_st (s : Stf) : (32 : Nat) ∉ TL.tl (stT s) := by
  unfold stT
  rw [TL.tl_append, TL.tl_append, co_tl]
  intro z
  rcases List.mem_append.mp z with z | z
  · rcases List.mem_append.mp z with z | z
    · exact no_in 32 (by decide) _ z
    · exact absurd (List.mem_singleton.mp z) (by decide)
  · exact no_in 32 (by decide) _ z
theorem sp_ws (f : List Bool) (ss : List Stf) : ∀ p ∈ ruWs f ss, (32 : Nat) ∉ TL.tl p := by
  intro p hp
  unfold ruWs at hp
  rcases List.mem_cons.mp hp with rfl | hp
  · decide +kernel
  · rcases List.mem_cons.mp hp with rfl | hp
    · exact no_in 32 (by decide) _
    · split at hp
      · cases hp
      · rcases List.mem_cons.mp hp with rfl | hp
        · decide +kernel
        · obtain ⟨s, _, rfl⟩ := List.mem_map.mp hp
          exact sp_st s
theorem ruT_split (f : List Bool) (ss : List Stf) : Txt.split (ruT f ss) " " = ruWs f ss :=
  TL.split_join sp_tl (by decide +kernel) (by unfold ruWs; exact List.cons_ne_nil _ _) (sp_ws f ss)
theorem stT_part (s : Stf) : Txt.partition (stT s) ":" = (W s.1, (":" : Str), W [s.2]) := TL.partition_app co_tl (no_in 58 (by decide) _)
theorem stT_inj {s t : Stf} (h : stT s = stT t) : s = t := by
  have e := congrArg (fun z => Txt.partition z ":") h
  simp only [stT_part] at e
  have e1 := W_inj (congrArg Prod.fst e)
  have e2 := W_inj (congrArg (fun z => z.2.2) e)
  exact Prod.ext e1 (List.cons.inj e2).1
theorem map_stT_inj : ∀ {ss ts : List Stf}, ss.map stT = ts.map stT → ss = ts
  | [], [], _ => rfl
  | [], _ :: _, h => by simp at h
  | _ :: _, [], h => by simp at h
  | a :: l, b :: m, h => by
    rw [List.map_cons, List.map_cons] at h
    injection h with h1 h2
    rw [stT_inj h1, map_stT_inj h2]
theorem ruT_inj {f f' : List Bool} {ss ss' : List Stf} (h : ruT f ss = ruT f' ss') : f = f' ∧ ss = ss' := by
  have e := congrArg (fun z => Txt.split z " ") h
  simp only [ruT_split] at e
  unfold ruWs at e
  injection e with _ e
  injection e with e1 e2
  refine ⟨W_inj e1, ?_⟩
  by_cases c : ss = []
  · by_cases c' : ss' = []
    · rw [c, c']
    · rw [if_pos c, if_neg c'] at e2; cases e2
  · by_cases c' : ss' = []
    · rw [if_neg c, if_pos c'] at e2; cases e2
    · rw [if_neg c, if_neg c'] at e2
      injection e2 with _ e2
      exact map_stT_inj e2
theorem ruT_eq {f f' : List Bool} {ss ss' : List Stf} : ruT f ss = ruT f' ss' ↔ (f = f' ∧ ss = ss') := ⟨ruT_inj, fun h => by rw [h.1, h.2]⟩
theorem key_inj {s t : Stf} (h : key s = key t) : s = t := by
  have e1 := W_inj (congrArg Prod.fst h)
  have e2 := W_inj (congrArg Prod.snd h)
  exact Prod.ext e1 (List.cons.inj e2).1
theorem lex_anti {s t : Stf} (h1 : SrT.lexT (key s) (key t) = false) (h2 : SrT.lexT (key t) (key s) = false) : s = t := by
  refine key_inj ?_
  rcases SrT.lexT_no.mp h1 with a | ⟨a, b⟩
  · rcases SrT.lexT_no.mp h2 with c | ⟨c, d⟩
    · exact absurd c (List.lt_asymm a)
    · rw [c] at a; exact absurd a (List.lt_irrefl _)
  · rcases SrT.lexT_no.mp h2 with c | ⟨c, d⟩
    · rw [a] at c; exact absurd c (List.lt_irrefl _)
    · refine Prod.ext a ?_
      exact TL.ext_tl (List.le_antisymm (List.not_lt.mp d) (List.not_lt.mp b))
theorem sorted_one : ∀ {ss ts : List Stf}, ss.Perm ts → SortedS ss → SortedS ts → ss = ts
  | [], ts, p, _, _ => (List.Perm.nil_eq p)
  | a :: l, [], p, _, _ => absurd (List.Perm.eq_nil p) (List.cons_ne_nil _ _)
  | a :: l, b :: m, p, h1, h2 => by
    obtain ⟨a1, a2⟩ := List.pairwise_cons.mp h1
    obtain ⟨b1, b2⟩ := List.pairwise_cons.mp h2
    have e : a = b := by
      rcases List.mem_cons.mp (p.mem_iff.mp (List.mem_cons_self (a := a) (l := l))) with z | z
      · exact z
      · rcases List.mem_cons.mp (p.mem_iff.mpr (List.mem_cons_self (a := b) (l := m))) with y | y
        · exact y.symm
        · exact lex_anti (b1 a z) (a1 b y)
    subst e
    rw [sorted_one (List.Perm.cons_inv p) a2 b2]
theorem RuAt.few {C : Addr} {H : Hp} {a : Addr} {f : List Bool} {ss : List Stf} (h : RuAt C H a f ss) : ∃ dx t, H a = some (.ins C dx (ruF f t)) := by
  obtain ⟨dx, t, _, _, h1, _⟩ := h
  exact ⟨dx, t, h1⟩
structure RuSm (f : List Bool) (ss : List Stf) : Prop where
  fl : f.length ≤ 1000
  few : ss.length ≤ 1000
  long : ∀ s ∈ ss, s.1.length ≤ 13
theorem StOk.sm {f : List Bool} {ss : List Stf} (h : StOk ss) (hf : f.length ≤ 1000) : RuSm f ss := ⟨hf, h.few, h.l9⟩
def spRuStr (C : Addr) : Sp := fun vs H Q _ => ∃ (a : Addr) (f : List Bool) (ss : List Stf), vs = [.ref a] ∧ RuAt C H a f ss ∧ RuSm f ss ∧ ∀ H', Same H H' → Q (.str (ruT f ss)) H'
def spRuEq (C : Addr) : Sp := fun vs H Q _ => ∃ (a b : Addr) (f f' : List Bool) (ss ss' : List Stf), vs = [.ref a, .ref b] ∧ RuAt C H a f ss ∧ RuSm f ss ∧ RuAt C H b f' ss' ∧ RuSm f' ss' ∧ ∀ H', Same H H' → Q (.bl (decide (f = f' ∧ ss = ss'))) H'
def spRuLen (C : Addr) : Sp := fun vs H Q _ => ∃ (a : Addr) (f : List Bool) (ss : List Stf), vs = [.ref a] ∧ RuAt C H a f ss ∧ Q (.int (ss.length : Nat)) H
theorem stT_len {s : Stf} (h : s.1.length ≤ 13) : (stT s).length ≤ 15 := by
  unfold stT
  rw [lenC, lenC, W_len, W_len, show (":" : Str).length = 1 by decide +kernel]
  simp only [List.length_cons, List.length_nil]
  omega
theorem sum_st : ∀ {ss : List Stf}, (∀ s ∈ ss, s.1.length ≤ 13) → ((ss.map stT).map (·.length)).sum ≤ 15 * ss.length
  | [], _ => Nat.le_refl _
  | s :: r, h => by
    have h1 := stT_len (h s List.mem_cons_self)
    have h2 := sum_st fun t ht => h t (List.mem_cons_of_mem _ ht)
    rw [List.map_cons, List.map_cons, List.sum_cons, List.length_cons]
    omega
section
variable {P : Program} {w : World} {K : PySem.W.Frag} {mg : Str → Option Value} {base : Heap}
theorem sc_Rule_str : FnScope ["self", "told", "pattern", "bit"] ["self"] (fnScope s_Rule_str) := fnScope_by (by decide +kernel)
theorem met_Rule_str {f C : Addr} {fd : FuncData} (F : C8.Fun K "__str__" "Rule.__str__" s_Rule_str f fd) (me : Meth K C "__str__" f) (b : Binds K fd ["self"] []) (T : Tx mg) (RT : RuT K C) : Met P w K mg base 1 C "__str__" (spRuStr C) [] := by
  refine met0 RT.cl me F b sc_Rule_str (fun vs H Q E h => ?_) (fun cdv A outer s H vs Q E hr h => ?_)
  · obtain ⟨_, _, _, rfl, _⟩ := h; rfl
  · obtain ⟨a, fl, ss, rfl, hR, sm, k⟩ := h
    refine ⟨_, (pss_cons (ps_setLc (i := 1) (own := [("pattern", 2), ("bit", 3)]) (g := gTup K 2 (gCons (gName 2) (gCons (gName 3) gNil))) (by rfl) sc_Rule_str.nd rfl rfl (sw_true rfl rfl rfl (by decide +kernel)) (pi_tup (pe_fld (pv 0) rfl)) (blkOk_by (own := [("pattern", 2), ("bit", 3)]) (N := ["self", "told", "pattern", "bit"]) (sc := fnScope s_Rule_str) (by decide +kernel)) (fun _ _ _ _ _ => (pg_tup rfl (pgs_cons (pg_name (i := 2) sc_Rule_str.nd rfl (.inl rfl)) (pgs_cons (pg_name (i := 3) sc_Rule_str.nd rfl (.inl rfl)) pgs_nil)))) (fun _ _ _ _ _ => pts_nil) (fun _ _ _ _ _ => (pe_jn (.cons (pe_fmt (pv 2)) (.cons pe_str (.cons (pe_fmt (pv 3)) .nil))))))
    (pss_one (ps_ret (pe_join pe_str (pe_lst (pa_cons pe_str (pa_cons (pe_fld (pv 0) rfl) (pa_star (pe_ifExp (pt_cmpR op_gt (pe_callB call_len_seq (by rfl) T.b_len (by decide +kernel) (pa_cons (pv 1) pa_nil)) pe_int (nomark _)) (pe_lst (pa_cons pe_str (pa_star (pv 1) pa_nil))) (pe_lst pa_nil)) pa_nil)))))))), ?_⟩
    obtain ⟨dx, t, ps, kb, ha, ht, hv, rfl⟩ := id hR
    refine ⟨_, rfl, a, C, dx, _, _, rfl, ha, RT.cl, RT.nS, ruF_stuffs _ _, t, rfl, ⟨_, SqT.of ht⟩, fun D nD => ?_⟩
    refine lc_it (walk_tup (xs := ps.map V.ref)) (fun i H2 => Same H H2 ∧ H2 D = some (.lst ((((ps.map kb).take i).map stT).map V.str))) ⟨same_upd nD, upd_same⟩ (fun i H2 _ h2 => SqT.of (h2.1 _ _ ht)) ?_ ?_
    · rintro i x H2 H3 hi ⟨s2, hD⟩ ⟨rfl, hx⟩
      rw [List.getElem?_map] at hx
      obtain ⟨q, hq, rfl⟩ := Option.map_eq_some_iff.mp hx
      have hqm := List.mem_of_getElem? hq
      have hqv := s2 _ _ (hv q hqm)
      have l9 := sm.long (kb q) (List.mem_map.mpr ⟨q, hqm, rfl⟩)
      have e1 : Str.empty ++ W (kb q).1 = W (kb q).1 := by
        have e : Str.empty = W [] := by decide +kernel
        rw [e, W_cat]; rfl
      have l1 : (":" : Str).length = 1 := by decide +kernel
      refine ⟨q, _, rfl, SqT.of hqv, rfl, _, _, rfl, _, _, rfl, rfl, rfl, ?_⟩
      refine ⟨_, rfl, .inl ⟨_, rfl, by rw [W_len]; exact sl_len (by omega), _, rfl, by rw [e1, W_len]; exact sl_len (by omega), ?_⟩⟩
      refine ⟨_, rfl, by rw [e1, lenC, W_len, l1]; exact sl_len (by omega), ?_⟩
      refine ⟨_, rfl, .inl ⟨_, rfl, by rw [W_len]; exact sl_len (by show 1 ≤ 100000; decide), _, rfl, by rw [e1, lenC, lenC, W_len, W_len, l1]; exact sl_len (by simp only [List.length_cons, List.length_nil]; omega), ?_⟩⟩
      refine ⟨_, hD, ?_, ?_, ?_⟩
      · rw [List.length_map, List.length_map, List.length_take]
        have := sm.few
        exact sl_lt (by omega)
      · intro c o e
        rw [upd_ne (ne_of_none e nD)]
        exact s2 _ _ e
      · rw [upd_same, e1, List.take_add_one, List.getElem?_map, hq]
        simp [stT]
    · rintro H2 ⟨s2, hD⟩
      have el : ((ps.map kb).take (ps.map V.ref).length) = ps.map kb := List.take_of_length_le (by simp)
      rw [el] at hD
      have lk : (ps.map kb).length ≤ 1000 := sm.few
      have ls := sum_st sm.long
      refine ⟨⟨_, rfl⟩, ?_⟩
      refine ⟨_, rfl, a, C, dx, _, _, rfl, s2 _ _ ha, RT.cl, RT.nF, ruF_flag _ _, ?_⟩
      refine ⟨_, rfl, D, _, rfl, .inl (SqL.of hD), _, _, rfl, rfl, _, rfl, ?_⟩
      have l4 : ("flag" : Str).length = 4 := by decide +kernel
      have l3 : ("put" : Str).length = 3 := by decide +kernel
      have l1 : (" " : Str).length = 1 := by decide +kernel
      by_cases c : ps.map kb = []
      · refine iteDF (by rw [c]; decide) ?_
        refine ⟨Nat.zero_le _, fun p np => ?_⟩
        refine ⟨p, _, rfl, .inr (SqL.of upd_same), ?_⟩
        refine ⟨by show 2 ≤ sizeLine; decide, fun q nq => ?_⟩
        refine ⟨_, q, ["flag", W fl], rfl, rfl, .inl (SqL.of upd_same), ?_, ?_⟩
        · rw [l1]
          simp only [List.map_cons, List.map_nil, List.sum_cons, List.sum_nil, l4, W_len, List.length_cons, List.length_nil]
          have := sm.fl
          omega
        · have := k _ ((s2.trans (same_upd np)).trans (same_upd (o := .lst [.str "flag", .str (W fl)]) nq))
          unfold ruT ruWs at this
          rw [if_pos c] at this
          exact this
      · have c1 : 0 < (ps.map kb).length := List.length_pos_iff.mpr c
        refine iteDT (by rw [List.length_map, List.length_map]; omega) ?_
        refine ⟨_, rfl, D, _, rfl, .inr (SqL.of hD), by rw [List.length_cons, List.append_nil, List.length_map, List.length_map]; exact sl_len (by omega), fun p np => ?_⟩
        refine ⟨p, _, rfl, .inr (SqL.of upd_same), by rw [List.length_cons, List.length_cons, List.append_nil, List.length_cons, List.append_nil, List.length_map, List.length_map]; exact sl_len (by omega), fun q nq => ?_⟩
        refine ⟨_, q, "flag" :: W fl :: "put" :: (ps.map kb).map stT, rfl, rfl, .inl (SqL.of (by rw [upd_same]; simp)), ?_, ?_⟩
        · rw [l1]
          simp only [List.map_cons, List.sum_cons, l4, l3, W_len, List.length_cons, List.length_map] at ls lk ⊢
          have := sm.fl
          omega
        · have e := (s2.trans (same_upd np)).trans (same_upd (o := .lst ((V.str "flag" :: V.str (W fl) :: ((V.str "put" :: (((ps.map kb).map stT).map V.str ++ [])) ++ [])))) nq)
          have := k _ e
          unfold ruT ruWs at this
          rw [if_neg c] at this
          exact this
theorem sc_Rule_eq : FnScope ["self", "other"] ["self", "other"] (fnScope s_Rule_eq) := fnScope_by (by decide +kernel)
theorem met_Rule_eq {f C : Addr} {fd : FuncData} (F : C8.Fun K "__eq__" "Rule.__eq__" s_Rule_eq f fd) (me : Meth K C "__eq__" f) (b : Binds K fd ["self", "other"] []) (T : Tx mg) (RT : RuT K C) (g_Rule : mg "Rule" = some (.ref C)) (IS_Rule : IsT K C)
    (c_Rule_str : Met P w K mg base 1 C "__str__" (spRuStr C) []) : Met P w K mg base 4 C "__eq__" (spRuEq C) [] := by
  refine met0 RT.cl me F b sc_Rule_eq (fun vs H Q E h => ?_) (fun cdv A outer s H vs Q E hr h => ?_)
  · obtain ⟨_, _, _, _, _, _, rfl, _⟩ := h; rfl
  · obtain ⟨a, b, fl, fl', ss, ss', rfl, ra, h1, rb, h2, k⟩ := h
    refine ⟨_, (pss_one (ps_ret (pe_and (pe_callB call_isi (by rfl) T.b_isinstance (by decide +kernel) (pa_cons (pv 1) (pa_cons (pe_glob (v := .ref C) (by rfl) g_Rule rfl) pa_nil))) (pe_one (pe_cmpR op_eq (pe_callTy (call_str_own c_Rule_str hr (by decide)) (by rfl) T.b_str (by decide +kernel) (pa_cons (pv 0) pa_nil)) (pe_callTy (call_str_own c_Rule_str hr (by decide)) (by rfl) T.b_str (by decide +kernel) (pa_cons (pv 1) pa_nil)) (nomark _)))))), ?_⟩
    obtain ⟨dx, t, ha⟩ := ra.few
    obtain ⟨dy, t', hb⟩ := rb.few
    refine ⟨_, rfl, _, _, _, _, true, rfl, .own C, IS_Rule.ty hb, IS_Rule.one, _, rfl, ?_⟩
    refine ⟨_, rfl, a, dx, _, rfl, ha, a, fl, ss, rfl, ra, h1, fun H1 s1 => ⟨_, rfl, ?_⟩⟩
    refine ⟨_, rfl, b, dy, _, rfl, s1 _ _ hb, b, fl', ss', rfl, rb.same s1, h2, fun H2 s2 => ⟨_, rfl, rfl, ?_⟩⟩
    have e : decide (V.str (ruT fl ss) = V.str (ruT fl' ss')) = decide (fl = fl' ∧ ss = ss') := by
      rw [decide_eq_decide]
      exact ⟨fun z => ruT_inj (V.str.inj z), fun z => by rw [z.1, z.2]⟩
    rw [e]
    exact k H2 (s1.trans s2)
theorem sc_Rule_len : FnScope ["self"] ["self"] (fnScope s_Rule_len) := fnScope_by (by decide +kernel)
theorem met_Rule_len {f C : Addr} {fd : FuncData} (F : C8.Fun K "__len__" "Rule.__len__" s_Rule_len f fd) (me : Meth K C "__len__" f) (b : Binds K fd ["self"] []) (T : Tx mg) (RT : RuT K C) : Met P w K mg base 1 C "__len__" (spRuLen C) [] := by
  refine met0 RT.cl me F b sc_Rule_len (fun vs H Q E h => ?_) (fun cdv A outer s H vs Q E hr h => ?_)
  · obtain ⟨_, _, _, rfl, _⟩ := h; rfl
  · obtain ⟨a, fl, ss, rfl, hR, k⟩ := h
    refine ⟨_, (pss_one (ps_ret (pe_callB call_len_seq (by rfl) T.b_len (by decide +kernel) (pa_cons (pe_fld (pv 0) rfl) pa_nil)))), ?_⟩
    obtain ⟨dx, t, ps, kb, ha, ht, hv, rfl⟩ := id hR
    refine ⟨_, rfl, a, C, dx, _, _, rfl, ha, RT.cl, RT.nS, ruF_stuffs _ _, t, _, rfl, .inr (SqT.of ht), ?_⟩
    rw [List.length_map] at k ⊢
    exact k
end
end U
set_option maxRecDepth 100000
set_option maxHeartbeats 4000000
namespace U
open PySem PySem.Spec PyProof.Rows
open L2 hiding Fun CX0 E0 pass0 Fun.binds
open C8 Lx SX StX
theorem u65 {k : Nat} {A : Around} (r : Room k A) : A.units + 65 < cLine := by have := r.un; omega
def pairD (s : Stf) : PyData := .tuple [.str (W s.1), .str (W [s.2])]
theorem sOk_W (l : List Bool) : PyData.strOk (W l) = true := by
  unfold PyData.strOk
  show ((l.map bt).toArray.all _) = true
  rw [List.all_toArray, List.all_map, List.all_eq_true]
  intro b _
  cases b <;> rfl
theorem canLay_pairs : ∀ ss : List Stf, PyData.canLayAll0 (ss.map pairD) = true
  | [] => by simp [PyData.canLayAll0]
  | s :: r => by
    rw [List.map_cons, PyData.canLayAll0, canLay_pairs r, Bool.and_true]
    unfold pairD
    simp only [PyData.canLay0, PyData.canLayAll0, sOk_W, Bool.and_true]
theorem depth_pairs : ∀ ss : List Stf, PyData.depthAll (ss.map pairD) ≤ 1
  | [] => by simp [PyData.depthAll]
  | s :: r => by
    have := depth_pairs r
    rw [List.map_cons, PyData.depthAll]
    have e : PyData.depth (pairD s) = 1 := by unfold pairD; simp [PyData.depth, PyData.depthAll]
    rw [e]
    omega
theorem shaped_tup (ss : List Stf) : SeqAt.shaped (.tuple (ss.map pairD)) = true := by
  unfold SeqAt.shaped
  rw [PyData.canLay0, canLay_pairs, Bool.true_and]
  refine decide_eq_true ?_
  rw [PyData.depth]
  have := depth_pairs ss
  omega
theorem shaped_lst (ss : List Stf) : SeqAt.shaped (.list (ss.map pairD)) = true := by
  unfold SeqAt.shaped
  rw [PyData.canLay0, canLay_pairs, Bool.true_and]
  refine decide_eq_true ?_
  rw [PyData.depth]
  have := depth_pairs ss
  omega
theorem beq_W (a b : List Bool) : (W a == W b) = decide (a = b) := by
  rw [Bool.eq_iff_iff, beq_iff_eq, decide_eq_true_iff]
  exact W_eq
theorem eqv_pair (s t : Stf) : PyData.eqv (pairD s) (pairD t) = decide (s = t) := by
  unfold pairD
  simp only [PyData.eqv, PyData.eqvAll, beq_W, Bool.and_true]
  obtain ⟨p, b⟩ := s
  obtain ⟨q, c⟩ := t
  rw [Bool.eq_iff_iff]
  simp
theorem eqv_pairs : ∀ ss ts : List Stf, PyData.eqvAll (ss.map pairD) (ts.map pairD) = decide (ss = ts)
  | [], [] => by simp [PyData.eqvAll]
  | [], _ :: _ => by simp [PyData.eqvAll]
  | _ :: _, [] => by simp [PyData.eqvAll]
  | s :: r, t :: q => by
    rw [List.map_cons, List.map_cons, PyData.eqvAll, eqv_pair, eqv_pairs r q, Bool.eq_iff_iff]
    simp
theorem eqv_tup (ss ts : List Stf) : PyData.eqv (.tuple (ss.map pairD)) (.tuple (ts.map pairD)) = decide (ss = ts) := by rw [PyData.eqv, eqv_pairs]
theorem eqv_lst (ss ts : List Stf) : PyData.eqv (.list (ss.map pairD)) (.list (ts.map pairD)) = decide (ss = ts) := by rw [PyData.eqv, eqv_pairs]
theorem dp_all {K : PySem.W.Frag} {H : Hp} {kb : Addr → Stf} : ∀ {ps : List Addr}, StV H kb ps → DpAll K H (ps.map V.ref) ((ps.map kb).map pairD)
  | [], _ => .nil
  | p :: r, h => .cons (.tup (SqT.of (h p List.mem_cons_self)) (.cons (.str _) (.cons (.str _) .nil))) (dp_all fun t ht => h t (List.mem_cons_of_mem _ ht))
theorem no_none (ss : List Stf) : ((ss.map pairD).any fun z => PyData.eqv z .none) = false := by
  rw [List.any_eq_false]
  intro z hz
  obtain ⟨s, _, rfl⟩ := List.mem_map.mp hz
  unfold pairD
  simp [PyData.eqv]
end U
set_option maxRecDepth 100000
set_option maxHeartbeats 4000000
namespace SrtS
open PySem PySem.Spec PyProof.Rows L2
def rSortedSA (K : PySem.W.Frag) : List V → Hp → VK → Prop := fun vs H Q => ∃ (a : Addr) (xs : List Str), vs = [V.ref a] ∧ SqL K H a (xs.map V.str) ∧ xs.length ≤ sizeLine ∧
  ∀ (ys : List Str) (p : Addr), ys.Perm xs → sortedS ys = true → H p = none → Q (.ref p) (upd H p (.lst (ys.map V.str)))
theorem cr_sortedSA {X : Cx} : CallR X (.builtin "sorted") (rSortedSA X.K) := by
  intro pins s σ H vs us Q I r h
  obtain ⟨a, xs, rfl, hs, h64, q⟩ := h
  obtain ⟨its, rv, hl, _⟩ := I.list hs
  rw [Vals.ref1 r]
  have hlen0 := rv.length
  rw [List.length_map] at hlen0
  refine PyProof.Rows.sorted_strsAny hl.isList rv.strs (by rw [← hlen0]; exact h64) fun out ys h1 h2 h3 => ?_
  obtain ⟨ep, he'⟩ := PyProof.Rows.sortedAll_at s.heap its out
  have hlen : (ys.map V.str).length ≤ sizeLine := by rw [List.length_map, h2.length_eq]; exact h64
  exact ⟨.ref _, upd H (s.heap.objs.size + 1) (.lst (ys.map V.str)), I.laid (t' := s.toks) (fun _ _ => PyProof.Rows.sortedAll_old) (Nat.le_succ _) ⟨hlen, out.toList, ep, vals_of_strs h1, he'⟩, rfl, q ys _ h2 h3 (I.hok.fresh (Nat.le_succ _))⟩
end SrtS
set_option maxRecDepth 100000
set_option maxHeartbeats 400000
namespace U
def okB (s : Stf) : Bool := s.1.any fun c => c != s.2
theorem put1 (s : Stf) (l : List Bool) : putM [s] l = if s.1.isSuffixOf l then some s.2 else none := by
  unfold putM
  rw [List.find?_cons]
  cases s.1.isSuffixOf l <;> rfl
theorem all_tail {p l : List Bool} {b : Bool} (h1 : p <:+ l) (h2 : p <:+ l ++ [b]) : ∀ c ∈ p, c = b := by
  obtain ⟨u, rfl⟩ := h1
  obtain ⟨v, hv⟩ := h2
  -- v ++ p = u ++ p ++ [b]
  have key : ∀ (n : Nat) (p v u : List Bool), p.length = n → v ++ p = u ++ p ++ [b] → ∀ c ∈ p, c = b := by
    intro n
    induction n with
    | zero => intro p v u hn _ c hc; rw [List.length_eq_zero_iff.mp hn] at hc; cases hc
    | succ n ih =>
      intro p v u hn e
      rcases List.eq_nil_or_concat p with rfl | ⟨q, x, rfl⟩
      · intro c hc; cases hc
      · rw [List.concat_eq_append] at e hn ⊢
        rw [← List.append_assoc] at e
        have e' := List.append_inj' e rfl
        obtain ⟨e1, e2⟩ := e'
        have hx : x = b := (List.cons.inj e2).1
        subst hx
        rw [← List.append_assoc] at e1
        have := ih q v u (by rw [List.length_append, List.length_cons, List.length_nil] at hn; omega) e1
        intro c hc
        rcases List.mem_append.mp hc with h | h
        · exact this c h
        · exact List.mem_singleton.mp h
  exact key _ p v u rfl hv
theorem okN1 {s : Stf} (h : okB s = true) (l : List Bool) : ∃ x, Ins [s] l x ∧ x.length ≤ 1 := by
  cases e : s.1.isSuffixOf l with
  | false => exact ⟨[], .stop (by rw [put1, e]; rfl), Nat.zero_le _⟩
  | true =>
    refine ⟨[s.2], .more (by rw [put1, e]; rfl) (.stop ?_), Nat.le_refl _⟩
    rw [put1]
    cases e2 : s.1.isSuffixOf (l ++ [s.2]) with
    | false => rfl
    | true =>
      obtain ⟨c, hc, hn⟩ := List.any_eq_true.mp h
      have := all_tail (List.isSuffixOf_iff_suffix.mp e) (List.isSuffixOf_iff_suffix.mp e2) c hc
      rw [this] at hn
      simp at hn
theorem okN_one {s : Stf} (h : okB s = true) : OkN 1 [s] := fun l _ b => okN1 h (l ++ [b])
theorem rep_of {p : List Bool} {b : Bool} (h : ∀ c ∈ p, c = b) : p = List.replicate p.length b := by
  exact List.eq_replicate_iff.mpr ⟨rfl, h⟩
theorem rep_suf {n m : Nat} {b : Bool} : (List.replicate n b).isSuffixOf (List.replicate m b) = decide (n ≤ m) := by
  rw [Bool.eq_iff_iff, List.isSuffixOf_iff_suffix, decide_eq_true_eq]
  constructor
  · intro h; have := h.length_le; rw [List.length_replicate, List.length_replicate] at this; exact this
  · intro h; exact ⟨List.replicate (m - n) b, by rw [List.replicate_append_replicate]; congr 1; omega⟩
theorem not_ok {s : Stf} (hp : s.1 ≠ []) (h : okB s = false) : ¬ OkR [s] := by
  obtain ⟨p, b⟩ := s
  have hall : ∀ c ∈ p, c = b := fun c hc => by
    have : ¬ (p.any fun c => c != b) = true := by rw [show (p.any fun c => c != b) = okB (p, b) from rfl, h]; decide
    rw [List.any_eq_true] at this
    have h2 : ¬ (c != b) = true := fun z => this ⟨c, hc, z⟩
    simpa using h2
  have hr := rep_of hall
  generalize p.length = n at hr
  subst hr
  have hn : 0 < n := by
    cases n with
    | zero => exact absurd rfl hp
    | succ n => exact Nat.succ_pos _
  have reach : ∀ k, k < n → Reach [(List.replicate n b, b)] (List.replicate k b) := by
    intro k
    induction k with
    | zero => exact fun _ => .nil
    | succ k ih =>
      intro hk
      have := Reach.next (b := b) (x := []) (ih (by omega)) (.stop (by
        rw [put1]
        show (if (List.replicate n b).isSuffixOf (List.replicate k b ++ [b]) = true then some b else none) = none
        rw [← List.replicate_succ', rep_suf, decide_eq_false (by omega)]; rfl))
      rw [List.append_nil, ← List.replicate_succ'] at this
      exact this
  intro o
  obtain ⟨x, hx⟩ := o _ (reach (n - 1) (by omega)) b
  rw [← List.replicate_succ', show n - 1 + 1 = n by omega] at hx
  have bad : ∀ (m : Nat) (x : List Bool), n ≤ m → ¬ Ins [(List.replicate n b, b)] (List.replicate m b) x := by
    intro m x
    induction x generalizing m with
    | nil =>
      intro hm hi
      cases hi with
      | stop h =>
        rw [put1] at h
        change (if (List.replicate n b).isSuffixOf (List.replicate m b) = true then some b else none) = none at h
        rw [rep_suf, decide_eq_true hm] at h
        cases h
    | cons c x ih =>
      intro hm hi
      cases hi with
      | more h1 h2 =>
        rw [put1] at h1
        change (if (List.replicate n b).isSuffixOf (List.replicate m b) = true then some b else none) = some c at h1
        rw [rep_suf, decide_eq_true hm] at h1
        cases h1
        rw [← List.replicate_succ'] at h2
        exact ih (m + 1) (by omega) h2
  exact bad n x (Nat.le_refl _) hx
theorem okB_iff {s : Stf} (hp : s.1 ≠ []) : okB s = true ↔ OkR [s] :=
  ⟨fun h => (okN_one h).ok, fun h => by
    cases e : okB s with
    | true => rfl
    | false => exact absurd h (not_ok hp e)⟩
def wdsA : Nat → List (List Bool)
  | 0 => [[]]
  | n + 1 => (wdsA n).flatMap fun w => [w ++ [false], w ++ [true]]
theorem wdsA_len : ∀ n, (wdsA n).length = 2 ^ n
  | 0 => rfl
  | n + 1 => by
    show ((wdsA n).flatMap fun w => [w ++ [false], w ++ [true]]).length = _
    have : ∀ l : List (List Bool), (l.flatMap fun w => [w ++ [false], w ++ [true]]).length = 2 * l.length := fun l => by
      induction l with
      | nil => rfl
      | cons w r ih => rw [List.flatMap_cons, List.length_append, ih]; show 2 + 2 * r.length = 2 * (r.length + 1); omega
    rw [this, wdsA_len n, Nat.pow_succ]
    omega
theorem wdsA_size : ∀ {n : Nat} {w : List Bool}, w ∈ wdsA n → w.length = n
  | 0, w, h => by rw [List.mem_singleton.mp h]; rfl
  | n + 1, w, h => by
    obtain ⟨v, hv, hw⟩ := List.mem_flatMap.mp h
    have := wdsA_size hv
    rcases List.mem_cons.mp hw with rfl | hw
    · rw [List.length_append, this]; rfl
    · rw [List.mem_singleton.mp hw, List.length_append, this]; rfl
def both (w : List Bool) : List Stf := [(w, false), (w, true)]
def sglN (k : Nat) : List Stf := (wdsA k).flatMap both
def sgls (n : Nat) : List Stf := (List.range n).flatMap fun i => sglN (i + 1)
theorem sglN_size {k : Nat} {s : Stf} (h : s ∈ sglN k) : s.1.length = k := by
  obtain ⟨w, hw, hs⟩ := List.mem_flatMap.mp h
  rw [← wdsA_size hw]
  rcases List.mem_cons.mp hs with rfl | hs
  · rfl
  · rw [List.mem_singleton.mp hs]
theorem sgls_size {n : Nat} {s : Stf} (h : s ∈ sgls n) : 1 ≤ s.1.length ∧ s.1.length ≤ n := by
  obtain ⟨i, hi, hs⟩ := List.mem_flatMap.mp h
  have := List.mem_range.mp hi
  have := sglN_size hs
  omega
theorem sgls_succ (n : Nat) : sgls (n + 1) = sgls n ++ sglN (n + 1) := by
  unfold sgls
  rw [List.range_succ, List.flatMap_append]
  simp
theorem both_len (ws : List (List Bool)) : (ws.flatMap both).length = 2 * ws.length := by
  induction ws with
  | nil => rfl
  | cons w r ih => rw [List.flatMap_cons, List.length_append, ih, show (both w).length = 2 from rfl, List.length_cons]; omega
theorem sgls_len : ∀ n, (sgls n).length + 4 = 2 ^ (n + 2)
  | 0 => rfl
  | n + 1 => by
    have := sgls_len n
    rw [sgls_succ, List.length_append]
    unfold sglN
    rw [both_len, wdsA_len, Nat.pow_succ 2 (n + 2)]
    have : 2 ^ (n + 2) = 2 * 2 ^ (n + 1) := by rw [Nat.pow_succ 2 (n + 1)]; omega
    omega
theorem sgls_len9 {n : Nat} (h : n ≤ 9) : (sgls n).length ≤ 2048 := by
  have h1 := sgls_len n
  have h2 : 2 ^ (n + 2) ≤ 2 ^ 11 := Nat.pow_le_pow_right (by decide) (by omega)
  have h3 : (2 : Nat) ^ 11 = 2048 := by decide
  omega
end U
set_option maxRecDepth 100000
set_option maxHeartbeats 400000
namespace U
open PySem PySem.Spec PyProof.Rows
theorem ltCps_iff : ∀ {a b : List Nat}, ltCps a b = true ↔ a < b
  | [], [] => by simp [ltCps]
  | [], _ :: _ => by simp [ltCps]
  | _ :: _, [] => by simp [ltCps]
  | a :: r, b :: t => by
    unfold ltCps
    rw [Bool.or_eq_true, Bool.and_eq_true, decide_eq_true_iff, beq_iff_eq, ltCps_iff (a := r) (b := t), List.cons_lt_cons_iff]
theorem rising_le : ∀ {l : List Str} {p : Str}, risingS p l = true → (p :: l).Pairwise fun a b => a.cps.toList ≤ b.cps.toList
  | [], p, _ => List.pairwise_singleton _ _
  | x :: r, p, h => by
    have h' : (!ltCps x.cps.toList p.cps.toList && risingS x r) = true := h
    rw [Bool.and_eq_true, Bool.not_eq_true'] at h'
    have ih := rising_le h'.2
    have hx : p.cps.toList ≤ x.cps.toList := List.not_lt.mp fun z => by rw [ltCps_iff.mpr z] at h'; cases h'.1
    refine List.pairwise_cons.mpr ⟨fun y hy => ?_, ih⟩
    rcases List.mem_cons.mp hy with rfl | hy
    · exact hx
    · exact List.le_trans hx ((List.pairwise_cons.mp ih).1 y hy)
theorem sorted_le : ∀ {l : List Str}, sortedS l = true → l.Pairwise fun a b => a.cps.toList ≤ b.cps.toList
  | [], _ => List.Pairwise.nil
  | _ :: _, h => rising_le h
theorem le_one : ∀ {ss ts : List Str}, ss.Perm ts → (ss.Pairwise fun a b => a.cps.toList ≤ b.cps.toList) → (ts.Pairwise fun a b => a.cps.toList ≤ b.cps.toList) → ss = ts
  | [], ts, p, _, _ => (List.Perm.nil_eq p)
  | a :: l, [], p, _, _ => absurd (List.Perm.eq_nil p) (List.cons_ne_nil _ _)
  | a :: l, b :: m, p, h1, h2 => by
    obtain ⟨a1, a2⟩ := List.pairwise_cons.mp h1
    obtain ⟨b1, b2⟩ := List.pairwise_cons.mp h2
    have e : a = b := by
      rcases List.mem_cons.mp (p.mem_iff.mp (List.mem_cons_self (a := a) (l := l))) with z | z
      · exact z
      · rcases List.mem_cons.mp (p.mem_iff.mpr (List.mem_cons_self (a := b) (l := m))) with y | y
        · exact y.symm
        · have e := List.le_antisymm (a1 b y) (b1 a z)
          cases a; cases b
          congr 1
          exact Array.ext' e
    subst e
    rw [le_one (List.Perm.cons_inv p) a2 b2]
theorem sortedS_one {ss ts : List Str} (p : ss.Perm ts) (h1 : sortedS ss = true) (h2 : sortedS ts = true) : ss = ts := le_one p (sorted_le h1) (sorted_le h2)
end U
set_option maxRecDepth 100000
set_option maxHeartbeats 4000000
namespace U
open PySem PySem.Spec PyProof.Rows
open L2 hiding Fun CX0 E0 pass0 Fun.binds
open C8 Lx SX StX
def goodZ (a b : Str) : Bool := (isW a && decide (0 < a.length)) && (isW b && decide (b.length = 1))
def stuffZ (z : Str) : Option WW := if (Txt.partition z ":").2.1 = ":" ∧ goodZ (Txt.partition z ":").1 (Txt.partition z ":").2.2 = true then some (unW (Txt.partition z ":").1, unW (Txt.partition z ":").2.2) else none
inductive RdO where
  | text
  | init (f : List Bool) (xs : List WW)
def ruR2 (w1 : Str) (r : List Str) : RdO := match r with
  | [] => .init (unW w1) []
  | w2 :: r2 => if w2 = "put" ∧ r2 ≠ [] then (if (r2.map stuffZ).any Option.isNone = true then .text else .init (unW w1) ((r2.map stuffZ).filterMap id)) else .text
def ruRd (ws : List Str) : RdO := match ws with
  | w0 :: w1 :: r => if w0 = "flag" ∧ isW w1 = true ∧ w1 ≠ "" then ruR2 w1 r else .text
  | _ => .text
structure RdZ (z : Str) : Prop where
  len : z.length ≤ 1000
  few : (Txt.split z " ").length ≤ 1000
  ln : ∀ x ∈ Txt.split z " ", x.length ≤ 1000 ∧ (Txt.partition x ":").1.length ≤ 1000 ∧ (Txt.partition x ":").2.2.length ≤ 1000
def spBitZ : Sp := fun vs H Q _ => ∃ z : Str, vs = [.str z] ∧ z.length ≤ 1000 ∧ ∀ H', Same H H' → Q (.bl (isW z && decide (z.length = 1))) H'
def spStuffT : Sp := fun vs H Q _ => ∃ (t : Addr) (a b : Str), vs = [.ref t] ∧ H t = some (.tup [.str a, .str b]) ∧ a.length ≤ 1000 ∧ b.length ≤ 1000 ∧ ∀ H', Same H H' → Q (.bl (goodZ a b)) H'
def spStuffInZ : Sp := fun vs H Q _ => ∃ z : Str, vs = [.str z] ∧ z.length ≤ 1000 ∧ (Txt.partition z ":").1.length ≤ 1000 ∧ (Txt.partition z ":").2.2.length ≤ 1000 ∧
  (∀ x, stuffZ z = some x → ∀ t H', H t = none → Same H H' → H' t = some (.tup [.str (W x.1), .str (W x.2)]) → Q (.ref t) H') ∧ (stuffZ z = none → ∀ H', Same H H' → Q .non H')
def badU (f : List Bool) (xs : List WW) : Str := if f.length < 2 then ("flag" : Str) else if areB xs = false then ("stuffs" : Str) else ("endless" : Str)
def spRuReadX (K : PySem.W.Frag) (C CTI CRI : Addr) : Sp := fun vs H Q E => ∃ v : V, vs = [.ref C, v] ∧
  ((∃ z : Str, v = .str z ∧ RdZ z ∧
    (ruRd (Txt.split z " ") = .text → ∀ d H', Same H H' → H' d = some (.xd [("at", .int 0)]) → E (.ref CTI) (some d) H') ∧
    ∀ f xs, ruRd (Txt.split z " ") = .init f xs → f.length ≤ 1000 ∧ xs.length ≤ 1000 ∧ (∀ x ∈ xs, x.1.length ≤ 13 ∧ x.2.length ≤ 13) ∧
      ((f.length < 2 ∨ areB xs = false ∨ ¬ OkR (xs.map stO)) → ∀ d H', Same H H' → H' d = some (.xd [("word", .str (badU f xs))]) → E (.ref CRI) (some d) H') ∧
      (2 ≤ f.length → areB xs = true → OkR (xs.map stO) → ∀ m ss H', Same H H' → H m = none → ss.Perm (xs.map stO) → SortedS ss → RuAt C H' m f ss → Q (.ref m) H')) ∨
   ((∀ z, v ≠ .str z) ∧ AnyS K H v ∧ ∀ d H', Same H H' → H' d = some (.xd [("at", .int 0)]) → E (.ref CTI) (some d) H'))
theorem paired_len {α β : Type} {F : α → β → Prop} : ∀ {l : List α} {m : List β}, Paired F l m → l.length = m.length
  | _, _, .nil => rfl
  | _, _, .cons _ t => by rw [List.length_cons, List.length_cons, paired_len t]
def OpZ (H : Hp) (v : V) (o : Option WW) : Prop := match o with
  | none => v = .non
  | some x => ∃ t, v = .ref t ∧ H t = some (.tup [.str (W x.1), .str (W x.2)])
def ozD : Option WW → PyData
  | none => .none
  | some x => .tuple [.str (W x.1), .str (W x.2)]
theorem canLay_oz : ∀ os : List (Option WW), PyData.canLayAll0 (os.map ozD) = true
  | [] => by simp [PyData.canLayAll0]
  | o :: r => by
    rw [List.map_cons, PyData.canLayAll0, canLay_oz r, Bool.and_true]
    cases o with
    | none => rfl
    | some x =>
      unfold ozD
      simp only [PyData.canLay0, PyData.canLayAll0, strOk_W, Bool.and_true]
theorem depth_oz : ∀ os : List (Option WW), PyData.depthAll (os.map ozD) ≤ 1
  | [] => by simp [PyData.depthAll]
  | o :: r => by
    have := depth_oz r
    rw [List.map_cons, PyData.depthAll]
    have e : PyData.depth (ozD o) ≤ 1 := by cases o <;> simp [ozD, PyData.depth, PyData.depthAll]
    omega
theorem shaped_oz (os : List (Option WW)) : SeqAt.shaped (.list (os.map ozD)) = true := by
  unfold SeqAt.shaped
  rw [PyData.canLay0, canLay_oz, Bool.true_and]
  refine decide_eq_true ?_
  rw [PyData.depth]
  have := depth_oz os
  omega
theorem any_oz (os : List (Option WW)) : ((os.map ozD).any fun z => PyData.eqv z .none) = os.any Option.isNone := by
  rw [List.any_map]
  congr 1
  funext o
  cases o with
  | none => simp [ozD, PyData.eqv]
  | some x => simp [ozD, PyData.eqv]
theorem dp_oz {K : PySem.W.Frag} {H : Hp} {vs : List V} {os : List (Option WW)} (h : Paired (OpZ H) vs os) : DpAll K H vs (os.map ozD) := by
  induction h with
  | nil => exact .nil
  | @cons v o vs os h1 _ ih =>
    refine .cons ?_ ih
    cases o with
    | none => rw [show v = .non from h1]; exact .non
    | some x =>
      obtain ⟨t, rfl, ht⟩ := h1
      exact .tup (SqT.of ht) (.cons (.str _) (.cons (.str _) .nil))
open Classical in
noncomputable def kwZ (H : Hp) (t : Addr) : WW := if h : ∃ x : WW, H t = some (.tup [.str (W x.1), .str (W x.2)]) then Classical.choose h else ([], [])
theorem kwZ_of {H : Hp} {t : Addr} {x : WW} (h : H t = some (.tup [.str (W x.1), .str (W x.2)])) : kwZ H t = x := by
  unfold kwZ
  have hx : ∃ x : WW, H t = some (.tup [.str (W x.1), .str (W x.2)]) := ⟨x, h⟩
  rw [dif_pos hx]
  have e := Classical.choose_spec hx
  have e := Option.some.inj (h.symm.trans e)
  injection e with e
  injection e with e1 e2
  injection e2 with e2 _
  have f1 := W_inj (V.str.inj e1)
  have f2 := W_inj (V.str.inj e2)
  exact Prod.ext f1.symm f2.symm
theorem oz_refs {H : Hp} : ∀ {vs : List V} {os : List (Option WW)}, Paired (OpZ H) vs os → os.any Option.isNone = false → ∃ ps : List Addr, vs = ps.map V.ref ∧ StW H (kwZ H) ps ∧ ps.map (kwZ H) = os.filterMap id
  | _, _, .nil, _ => ⟨[], rfl, (fun _ h => nomatch h), rfl⟩
  | _, _, .cons (a := v) (b := o) h1 h2, hn => by
    rw [List.any_cons, Bool.or_eq_false_iff] at hn
    obtain ⟨ps, rfl, hs, he⟩ := oz_refs h2 hn.2
    cases o with
    | none => exact absurd hn.1 (by decide)
    | some x =>
      obtain ⟨t, rfl, ht⟩ := h1
      have ek := kwZ_of ht
      refine ⟨t :: ps, rfl, fun y hy => ?_, ?_⟩
      · rcases List.mem_cons.mp hy with rfl | hy
        · rw [ek]; exact ht
        · exact hs y hy
      · rw [List.map_cons, he, ek]; rfl
section
variable {P : Program} {w : World} {K : PySem.W.Frag} {mg : Str → Option Value} {base : Heap}
theorem cal_is_bitZ {f : Addr} {fd : FuncData} (F : Def K mg "is_bit" s_is_bit f fd) (b : Binds K fd ["value"] []) (T : Tx mg) (c_is_word : Cal P w K mg base 1 "is_word" (spIsWord K) []) : Cal P w K mg base 2 "is_bit" spBitZ [] := by
  refine cal0 F b .nil sc_is_bit (fun vs H Q E h => ?_) (fun cdv A outer s H vs Q E hr h => ?_)
  · obtain ⟨_, rfl, _⟩ := h; rfl
  · obtain ⟨z, rfl, hl, k⟩ := h
    refine ⟨_, (pss_one (ps_ret (pe_and (pe_c c_is_word hr (by decide) rfl (pa_cons (pv 0) pa_nil)) (pe_one (pe_cmpR op_eq (pe_callB call_len_str (by rfl) T.b_len (by decide +kernel) (pa_cons (pv 0) pa_nil)) pe_int (nomark _)))))), ?_⟩
    refine ⟨_, rfl, _, rfl, .inl ⟨_, rfl, by omega, fun H1 s1 => ⟨_, rfl, ?_⟩⟩⟩
    have kk := k H1 s1
    cases c : isW z with
    | false => rw [c] at kk; exact iteBF rfl kk
    | true =>
      rw [c, Bool.true_and] at kk
      refine iteBT rfl ⟨_, rfl, _, rfl, sl_len (by omega), rfl, ?_⟩
      have e : decide (V.int ((z.length : Nat) : Int) = V.int 1) = decide (z.length = 1) := decide_eq_decide.mpr ⟨fun q => by have := V.int.inj q; omega, fun q => by rw [q]; rfl⟩
      rw [← e] at kk
      exact kk
theorem cal_is_stuffZ {f : Addr} {fd : FuncData} (F : Def K mg "is_stuff" s_is_stuff f fd) (b : Binds K fd ["value"] []) (T : Tx mg) (c_is_word : Cal P w K mg base 1 "is_word" (spIsWord K) []) (c_is_bitZ : Cal P w K mg base 2 "is_bit" spBitZ []) : Cal P w K mg base 3 "is_stuff" spStuffT [] := by
  refine cal0 F b .nil sc_is_stuff (fun vs H Q E h => ?_) (fun cdv A outer s H vs Q E hr h => ?_)
  · obtain ⟨_, _, _, rfl, _⟩ := h; rfl
  · obtain ⟨t, za, zb, rfl, ht, hl, hl2, k⟩ := h
    have c_is_bit := c_is_bitZ
    refine ⟨_, (pss_cons (ps_if (PW.pt (pw_or (pt_not (pt_val (pe_callB call_isi (by rfl) T.b_isinstance (by decide +kernel) (pa_cons (pv 0) (pa_cons (pe_bltn (v := .ty "tuple") (u := .type "tuple") (by rfl) T.b_tuple (by decide +kernel) rfl) pa_nil))))) (pw_or1 (pt_cmpR op_ne (pe_callB call_len_seq (by rfl) T.b_len (by decide +kernel) (pa_cons (pv 0) pa_nil)) pe_int (nomark _))))) (pss_one (ps_ret pe_bl)) pss_nil)
    (pss_one (ps_ret (pe_and (pe_c c_is_word hr (by decide) rfl (pa_cons (pe_ix ix_tup (pv 0) pe_int (fun _ _ => rfl)) pa_nil)) (pe_and (pe_cmpR op_gt (pe_callB call_len_str (by rfl) T.b_len (by decide +kernel) (pa_cons (pe_ix ix_tup (pv 0) pe_int (fun _ _ => rfl)) pa_nil)) pe_int (nomark _)) (pe_one (pe_c c_is_bit hr (by decide) rfl (pa_cons (pe_ix ix_tup (pv 0) pe_int (fun _ _ => rfl)) pa_nil)))))))), ?_⟩
    refine ⟨_, rfl, _, _, _, _, true, rfl, .ty _, .base (.tup ht), kit_ty (by decide +kernel), _, rfl, ?_⟩
    refine ⟨_, rfl, t, _, rfl, .inr (SqT.of ht), rfl, _, rfl, iteNS rfl ?_⟩
    refine ⟨_, rfl, t, _, 0, _, rfl, rfl, SqT.of ht, rfl, _, rfl, .inl ⟨_, rfl, by omega, fun H1 s1 => ⟨_, rfl, ?_⟩⟩⟩
    have ht1 := s1 _ _ ht
    cases ca : isW za with
    | false =>
      have kk := k H1 s1
      rw [show goodZ za zb = false by unfold goodZ; rw [ca]; rfl] at kk
      exact iteBF rfl kk
    | true =>
      refine iteBT rfl ?_
      refine ⟨_, rfl, t, _, 0, _, rfl, rfl, SqT.of ht1, rfl, _, rfl, sl_len (by omega), ?_⟩
      by_cases c : 0 < za.length
      · refine ⟨_, _, rfl, rfl, _, rfl, iteDT (by omega) ?_⟩
        refine ⟨_, rfl, t, _, 1, _, rfl, rfl, SqT.of ht1, rfl, zb, rfl, hl2, fun H2 s2 => ?_⟩
        have kk := k H2 (s1.trans s2)
        rw [show goodZ za zb = (isW zb && decide (zb.length = 1)) by unfold goodZ; rw [ca, decide_eq_true c]; rfl] at kk
        exact kk
      · refine ⟨_, _, rfl, rfl, _, rfl, iteDF (by omega) ?_⟩
        have kk := k H1 s1
        rw [show goodZ za zb = false by unfold goodZ; rw [decide_eq_false c, Bool.and_false]; rfl] at kk
        exact kk
theorem sc_stuff_in : FnScope ["word", "pattern", "sign", "bit"] ["word"] (fnScope s_stuff_in) := fnScope_by (by decide +kernel)
theorem cal_stuff_inZ {f : Addr} {fd : FuncData} (F : Def K mg "stuff_in" s_stuff_in f fd) (b : Binds K fd ["word"] []) (T : Tx mg) (c_is_stuffZ : Cal P w K mg base 3 "is_stuff" spStuffT []) : Cal P w K mg base 4 "stuff_in" spStuffInZ [] := by
  refine cal0 F b .nil sc_stuff_in (fun vs H Q E h => ?_) (fun cdv A outer s H vs Q E hr h => ?_)
  · obtain ⟨_, rfl, _⟩ := h; rfl
  · obtain ⟨z, rfl, hz, l1, l2, kS, kN⟩ := h
    have c_is_stuff := c_is_stuffZ
    refine ⟨_, (pss_cons (ps_asg (pe_partition (pv 0) pe_str) (pg_tup rfl (pgs_cons (pg_name (i := 1) sc_stuff_in.nd rfl (.inl rfl)) (pgs_cons (pg_name (i := 2) sc_stuff_in.nd rfl (.inl rfl)) (pgs_cons (pg_name (i := 3) sc_stuff_in.nd rfl (.inl rfl)) pgs_nil)))))
    (pss_one (ps_ret (pe_ifExp (PW.pt (pw_and (pt_cmpR op_eq (pv 2) pe_str (nomark _)) (pw_and1 (pt_val (pe_c c_is_stuff hr (by decide) rfl (pa_cons (pe_tup (pa_cons (pv 1) (pa_cons (pv 3) pa_nil))) pa_nil)))))) (pe_tup (pa_cons (pv 1) (pa_cons (pv 3) pa_nil))) pe_non)))), ?_⟩
    refine ⟨_, rfl, ⟨_, rfl⟩, _, _, rfl, rfl, by decide +kernel, sl_len (by omega), fun t nt => ?_⟩
    have s1 : Same H _ := same_upd (o := .tup [.str (Txt.partition z ":").1, .str (Txt.partition z ":").2.1, .str (Txt.partition z ":").2.2]) nt
    refine ⟨t, _, rfl, SqT.of upd_same, rfl, _, _, rfl, _, _, rfl, _, _, rfl, rfl, ?_⟩
    generalize upd H t _ = H1 at s1 ⊢
    unfold stuffZ at kS kN
    generalize Txt.partition z ":" = PP at l1 l2 kS kN ⊢
    obtain ⟨pa, pm, pb⟩ := PP
    dsimp only at l1 l2 kS kN ⊢
    by_cases c : pm = ":"
    · refine ⟨_, rfl, rfl, _, rfl, iteDT (by rw [c]) ?_⟩
      refine ⟨_, rfl, _, rfl, by show 2 ≤ sizeLine; decide, fun t2 n2 => ?_⟩
      refine ⟨t2, pa, pb, rfl, upd_same, l1, l2, fun H2 s2 => ⟨_, rfl, ?_⟩⟩
      have s3 := (s1.trans (same_upd n2)).trans s2
      cases g : goodZ pa pb with
      | false =>
        refine iteBF rfl ?_
        exact kN (if_neg fun q => by rw [g] at q; exact absurd q.2 (by decide)) H2 s3
      | true =>
        refine iteBT rfl ⟨_, rfl, _, rfl, by show 2 ≤ sizeLine; decide, fun t3 n3 => ?_⟩
        have g2 := g
        unfold goodZ at g2
        simp only [Bool.and_eq_true] at g2
        refine kS (unW pa, unW pb) (if_pos ⟨c, g⟩) t3 _ (s3.free n3) (s3.trans (same_upd n3)) ?_
        rw [upd_same, ← isW_un g2.1.1, ← isW_un g2.2.1]
    · refine ⟨_, rfl, rfl, _, rfl, iteDF (fun q => c (V.str.inj q)) ?_⟩
      exact kN (if_neg fun q => c q.1) H1 s1
theorem sc_Rule_read : FnScope ["cls", "text", "words", "stuffs", "word"] ["cls", "text"] (fnScope s_Rule_read) := fnScope_by (by decide +kernel)
theorem okT_Rule_read {f C CTI CRI : Addr} {fd : FuncData} (F : C8.Fun K "read" "Rule.read" s_Rule_read f fd) (T : Tx mg) (RT : RuT K C) (x_InvalidText : ExS.XMk P w K mg base 1 "InvalidText" CTI "at") (c_is_word : Cal P w K mg base 1 "is_word" (spIsWord K) []) (c_stuff_inZ : Cal P w K mg base 4 "stuff_in" spStuffInZ []) (mX_Rule2 : ExS.MakX P w K mg base 5 "Rule" C (spRuInitY K C CRI) []) : FnOk P w K mg base (L2.CX P w) 7 f fd ["cls", "text"] (spRuReadX K C CTI CRI) := by
  refine ExS.fnR F sc_Rule_read (fun vs H Q E h => ?_) (fun cdv A outer s H vs Q E hr h => ?_)
  · obtain ⟨_, rfl, _⟩ := h; rfl
  · obtain ⟨v, rfl, hv⟩ := h
    have c_stuff_in := c_stuff_inZ
    refine ⟨_, (pss_cons (ps_set (i := 2) sc_Rule_read.nd rfl (.inl rfl) (pe_ifExp (pt_val (pe_callB call_isi (by rfl) T.b_isinstance (by decide +kernel) (pa_cons (pv 1) (pa_cons (pe_bltn (v := .ty "str") (u := .type "str") (by rfl) T.b_str (by decide +kernel) rfl) pa_nil)))) (pe_split (pv 1) pe_str) (pe_lst pa_nil)))
    (pss_cons (ps_if (PW.pt (pw_or (pt_cmpR op_lt (pe_callB call_len_seq (by rfl) T.b_len (by decide +kernel) (pa_cons (pv 2) pa_nil)) pe_int (nomark _)) (pw_or (pt_cmpR op_ne (pe_ix ix_list (pv 2) pe_int (fun _ _ => rfl)) pe_str (nomark _)) (pw_or (pt_not (pt_val (pe_c c_is_word hr (by decide) rfl (pa_cons (pe_ix ix_list (pv 2) pe_int (fun _ _ => rfl)) pa_nil)))) (pw_or1 (pt_cmpR op_eq (pe_ix ix_list (pv 2) pe_int (fun _ _ => rfl)) pe_str (nomark _))))))) (pss_one (ps_raise rfl (takes_of rfl rfl rfl rfl) (ExS.pmk_x x_InvalidText hr (by decide) rfl (pa_cons pe_int pa_nil)))) pss_nil)
    (pss_cut (ps_if (PW.pt (pw_and (pt_cmpR op_gt (pe_callB call_len_seq (by rfl) T.b_len (by decide +kernel) (pa_cons (pv 2) pa_nil)) pe_int (nomark _)) (pw_and1 (PW.pt (pw_or (pt_cmpR op_ne (pe_ix ix_list (pv 2) pe_int (fun _ _ => rfl)) pe_str (nomark _)) (pw_or1 (pt_cmpR op_eq (pe_callB call_len_seq (by rfl) T.b_len (by decide +kernel) (pa_cons (pv 2) pa_nil)) pe_int (nomark _)))))))) (pss_one (ps_raise rfl (takes_of rfl rfl rfl rfl) (ExS.pmk_x x_InvalidText hr (by decide) rfl (pa_cons pe_int pa_nil)))) pss_nil)
    (pss_cons (ps_setLc (i := 3) (own := [("word", 4)]) (g := gName 4) (by rfl) sc_Rule_read.nd rfl rfl (sw_true rfl rfl rfl (by decide +kernel)) (pi_list (pe_slice sl_list (pv 2) (po_some pe_int) po_none)) (blkOk_by (own := [("word", 4)]) (N := ["cls", "text", "words", "stuffs", "word"]) (sc := fnScope s_Rule_read) (by decide +kernel)) (fun _ _ _ _ _ => (pg_name (i := 4) sc_Rule_read.nd rfl (.inl rfl))) (fun _ _ _ _ _ => pts_nil) (fun _ _ _ _ _ => (pe_c c_stuff_in hr (by decide) rfl (pa_cons (pv 4) pa_nil))))
    (pss_cons (ps_if (pt_cmpR (op_inD (u65 hr)) pe_non (pv 3) (by with_unfolding_all rfl)) (pss_one (ps_raise rfl (takes_of rfl rfl rfl rfl) (ExS.pmk_x x_InvalidText hr (by decide) rfl (pa_cons pe_int pa_nil)))) pss_nil)
    (pss_one (ps_ret (ExS.pe_mkLT 0 mX_Rule2 hr (by decide) (takes_of rfl rfl rfl rfl) (pa_cons (pe_ix ix_list (pv 2) pe_int (fun _ _ => rfl)) (pa_cons (pv 3) pa_nil)))))))))), ?_⟩
    rcases hv with ⟨z, rfl, bz, kT, kI⟩ | ⟨nz, hv, kT⟩
    rotate_left
    · rcases hv with ⟨z, e, _⟩ | ⟨_, t, h2, h3⟩
      · exact absurd e (nz z)
      refine ⟨_, rfl, _, _, _, _, false, rfl, .ty _, h3 H (Same.refl _), h2, _, rfl, ?_⟩
      refine ⟨Nat.zero_le _, fun q nq => ?_⟩
      refine ⟨_, rfl, q, _, rfl, .inl (SqL.of (xs := []) upd_same), _, _, rfl, rfl, _, rfl, iteDT (by decide) ?_⟩
      exact ExS.rd_x fun d H' s' _ hd => kT d H' ((same_upd nq).trans s') hd
    have lz := bz.len
    refine ⟨_, rfl, _, _, _, _, true, rfl, .ty _, .base (.str _), kit_ty (by decide +kernel), _, rfl, ?_⟩
    refine ⟨_, rfl, ⟨_, rfl⟩, _, _, rfl, rfl, by decide +kernel, sl_len (by omega), fun q nq => ?_⟩
    have few := bz.few
    have ln := bz.ln
    generalize Txt.split z " " = ws at few ln kT kI ⊢
    have hq0 : upd H q (.lst (ws.map V.str)) q = some (.lst (ws.map V.str)) := upd_same
    have s1 : Same H (upd H q (.lst (ws.map V.str))) := same_upd nq
    generalize upd H q (.lst (ws.map V.str)) = H1 at hq0 s1
    have hq : SqL K H1 q (ws.map V.str) := SqL.of hq0
    have kT : ruRd ws = .text → ∀ H2, Same H1 H2 → ∀ d H', Same H2 H' → H' d = some (.xd [("at", .int 0)]) → E (.ref CTI) (some d) H' := fun e H2 s2 d H' s' hd => kT e d H' ((s1.trans s2).trans s') hd
    rcases ws with _ | ⟨w0, _ | ⟨w1, r⟩⟩
    · refine ⟨_, rfl, q, _, rfl, .inl hq, _, _, rfl, rfl, _, rfl, iteDT (by decide) ?_⟩
      exact ExS.rd_x fun d H' s' _ hd => kT rfl H1 (Same.refl _) d H' s' hd
    · refine ⟨_, rfl, q, _, rfl, .inl hq, _, _, rfl, rfl, _, rfl, iteDT (by show (1 : Int) < 2; decide) ?_⟩
      exact ExS.rd_x fun d H' s' _ hd => kT rfl H1 (Same.refl _) d H' s' hd
    have a0 : atI ((w0 :: w1 :: r).map V.str) 0 = some (.str w0) := atI_nat (j := 0) rfl
    have a1 : atI ((w0 :: w1 :: r).map V.str) 1 = some (.str w1) := atI_nat (j := 1) rfl
    have lr : ((w0 :: w1 :: r).map V.str).length = r.length + 2 := by rw [List.length_map, List.length_cons, List.length_cons]
    refine ⟨_, rfl, q, _, rfl, .inl hq, _, _, rfl, rfl, _, rfl, iteDF (by rw [lr]; omega) ?_⟩
    refine ⟨_, rfl, q, _, _, _, rfl, rfl, hq, a0, rfl, _, rfl, ?_⟩
    have bad : ¬ (w0 = "flag" ∧ isW w1 = true ∧ w1 ≠ "") → ruRd (w0 :: w1 :: r) = .text := fun h => if_neg h
    by_cases c0 : w0 = "flag"
    rotate_left
    · refine iteBT (by rw [decide_eq_false (fun q => c0 (V.str.inj q))]; rfl) ?_
      exact ExS.rd_x fun d H' s' _ hd => kT (bad fun q => c0 q.1) H1 (Same.refl _) d H' s' hd
    refine iteBF (by rw [decide_eq_true (by rw [c0])]; rfl) ?_
    refine ⟨_, rfl, q, _, _, _, rfl, rfl, hq, a1, _, rfl, .inl ⟨_, rfl, Nat.le_trans (ln w1 (List.mem_cons_of_mem _ List.mem_cons_self)).1 (by decide), fun H2 s2 => ⟨_, rfl, ?_⟩⟩⟩
    cases c1 : isW w1 with
    | false =>
      refine iteBT rfl ?_
      exact ExS.rd_x fun d H' s' _ hd => kT (bad fun q => by rw [q.2.1] at c1; cases c1) H2 s2 d H' s' hd
    | true =>
    refine iteBF rfl ?_
    have hq20 := s2 _ _ hq0
    have hq2 : SqL K H2 q ((w0 :: w1 :: r).map V.str) := SqL.of hq20
    refine ⟨_, rfl, q, _, _, _, rfl, rfl, hq2, a1, rfl, _, rfl, ?_⟩
    by_cases c2 : w1 = ""
    · refine iteDT (by rw [c2]) ?_
      exact ExS.rd_x fun d H' s' _ hd => kT (bad fun q => q.2.2 c2) H2 s2 d H' s' hd
    refine iteDF (fun q => c2 (V.str.inj q)) ?_
    have good : ruRd (w0 :: w1 :: r) = ruR2 w1 r := if_pos ⟨c0, c1, c2⟩
    refine ⟨fun σ' H' => σ' = [some (.ref C), some (.str z), some (.ref q), none, none] ∧ H' = H2 ∧ (r = [] ∨ ∃ r2, r = ("put" : Str) :: r2 ∧ r2 ≠ []), ?_, ?_⟩
    · refine ⟨_, rfl, q, _, rfl, .inl hq2, _, _, rfl, rfl, _, rfl, ?_⟩
      rcases r with _ | ⟨w2, r2⟩
      · exact iteDF (by rw [lr]; decide) ⟨rfl, rfl, .inl rfl⟩
      · refine iteDT (by rw [lr, List.length_cons]; omega) ?_
        have a2 : atI ((w0 :: w1 :: w2 :: r2).map V.str) 2 = some (.str w2) := atI_nat (j := 2) rfl
        refine ⟨_, rfl, q, _, _, _, rfl, rfl, hq2, a2, rfl, _, rfl, ?_⟩
        by_cases c3 : w2 = "put"
        rotate_left
        · refine iteBT (by rw [decide_eq_false (fun q => c3 (V.str.inj q))]; rfl) ?_
          exact ExS.rd_x fun d H' s' _ hd => kT (good.trans (if_neg fun q => c3 q.1)) H2 s2 d H' s' hd
        refine iteBF (by rw [decide_eq_true (by rw [c3])]; rfl) ?_
        refine ⟨_, rfl, q, _, rfl, .inl hq2, rfl, _, rfl, ?_⟩
        rcases r2 with _ | ⟨w3, r3⟩
        · refine iteDT (by rw [lr]; rfl) ?_
          exact ExS.rd_x fun d H' s' _ hd => kT (good.trans (if_neg fun q => q.2 rfl)) H2 s2 d H' s' hd
        · exact iteDF (by rw [lr]; intro q; have := V.int.inj q; rw [List.length_cons, List.length_cons] at this; omega) ⟨rfl, rfl, .inr ⟨_, by rw [c3], List.cons_ne_nil _ _⟩⟩
    rintro σ' H' ⟨rfl, rfl, hr2⟩
    have e3 : cutV ((w0 :: w1 :: r).map V.str) (some 3) none = (r.drop 1).map V.str := by
      show cutV ((w0 :: w1 :: r).map V.str) (some ((3 : Nat) : Int)) none = _
      unfold cutV
      rw [HT.sIx_none, HT.sIx_nat]
      rw [List.take_of_length_le (by rw [List.length_drop]; exact Nat.le_refl _)]
      cases r with
      | nil => rfl
      | cons w2 r2 =>
        rw [Nat.min_eq_left (by rw [lr, List.length_cons]; omega)]
        rfl
    have eR : ruRd (w0 :: w1 :: r) = if ((r.drop 1).map stuffZ).any Option.isNone = true then .text else .init (unW w1) (((r.drop 1).map stuffZ).filterMap id) := by
      rcases hr2 with rfl | ⟨r2, rfl, h2⟩
      · exact good
      · exact good.trans (if_pos ⟨rfl, h2⟩)
    have l3 : ∀ x ∈ r.drop 1, x.length ≤ 1000 ∧ (Txt.partition x ":").1.length ≤ 1000 ∧ (Txt.partition x ":").2.2.length ≤ 1000 := fun x hx => ln x (List.mem_cons_of_mem _ (List.mem_cons_of_mem _ (List.mem_of_mem_drop hx)))
    have few3 : (r.drop 1).length ≤ 1000 := by rw [List.length_drop]; rw [List.length_cons, List.length_cons] at few; omega
    generalize r.drop 1 = r3 at e3 eR l3 few3
    refine ⟨_, rfl, _, rfl, q, _, rfl, hq2, fun p np => ?_⟩
    rw [e3]
    have hp : upd H' p (.lst (r3.map V.str)) p = some (.lst (r3.map V.str)) := upd_same
    have s3 : Same H' (upd H' p (.lst (r3.map V.str))) := same_upd np
    generalize upd H' p (.lst (r3.map V.str)) = H3 at hp s3
    refine ⟨p, rfl, ⟨_, SqL.of hp⟩, fun D nD => ?_⟩
    have omut : ∀ {Ha Hb : Hp} {l : List V} {u : HO} {v : V} {o : Option WW}, OpZ Ha v o → Same Ha Hb → Ha D = some (.lst l) → OpZ (upd Hb D u) v o := fun {Ha Hb l u v o} h s hD => by
      cases o with
      | none => exact h
      | some x =>
        obtain ⟨t, e, ht⟩ := h
        exact ⟨t, e, by rw [upd_ne (fun z => by rw [z, hD] at ht; cases ht)]; exact s _ _ ht⟩
    refine lc_it (walk_list (xs := r3.map V.str)) (fun i H4 => Same H3 H4 ∧ ∃ vs : List V, H4 D = some (.lst vs) ∧ Paired (OpZ H4) vs ((r3.map stuffZ).take i)) ⟨same_upd nD, [], upd_same, .nil⟩ (fun i H4 _ h4 => SqL.of (h4.1 _ _ hp)) ?_ ?_
    · rintro i x H4' H4 hi ⟨s4, vs, hD, hP⟩ ⟨rfl, hx⟩
      rw [List.getElem?_map] at hx
      obtain ⟨y, hy, rfl⟩ := Option.map_eq_some_iff.mp hx
      obtain ⟨y0, y1, y2⟩ := l3 y (List.mem_of_getElem? hy)
      have lvs : vs.length ≤ 1000 := by
        have := paired_len hP
        rw [List.length_take, List.length_map] at this
        omega
      have etk : (r3.map stuffZ).take (i + 1) = (r3.map stuffZ).take i ++ [stuffZ y] := by rw [List.take_add_one, List.getElem?_map, hy]; rfl
      refine ⟨rfl, _, rfl, y, rfl, y0, y1, y2, fun x' e t H5 nt s5 ht => ?_, fun e H5 s5 => ?_⟩
      · have hD5 := s5 _ _ hD
        refine ⟨_, hD5, sl_lt (by omega), same_mut' (s4.trans s5) nD, vs ++ [.ref t], upd_same, ?_⟩
        rw [etk, e]
        refine (Paired.mapP hP fun v o h => omut h s5 hD).snoc ⟨t, rfl, ?_⟩
        rw [upd_ne (fun z => by rw [z, hD5] at ht; cases ht)]
        exact ht
      · have hD5 := s5 _ _ hD
        refine ⟨_, hD5, sl_lt (by omega), same_mut' (s4.trans s5) nD, vs ++ [.non], upd_same, ?_⟩
        rw [etk, e]
        exact (Paired.mapP hP fun v o h => omut h s5 hD).snoc rfl
    rintro H4 ⟨s4, vs, hD, hP⟩
    rw [List.length_map, List.take_of_length_le (by rw [List.length_map]; exact Nat.le_refl _)] at hP
    have s24 := s3.trans s4
    refine ⟨_, rfl, _, _, .non, .lst (SqL.of hD) (dp_oz hP), by decide +kernel, shaped_oz _, _, rfl, ?_⟩
    rw [any_oz]
    cases cN : (r3.map stuffZ).any Option.isNone with
    | true =>
      refine iteBT rfl ?_
      exact ExS.rd_x fun d H5 s' _ hd => kT (eR.trans (if_pos cN)) H4 (s2.trans s24) d H5 s' hd
    | false =>
    refine iteBF rfl ?_
    obtain ⟨ps, rfl, hs, he⟩ := oz_refs hP cN
    obtain ⟨i1, i2, i3, i4, i5⟩ := kI _ _ (eR.trans (if_neg (by rw [cN]; decide)))
    rw [← he] at i2 i3 i4 i5
    refine ⟨rfl, _, rfl, q, _, _, _, rfl, rfl, SqL.of (s24 _ _ hq20), a1, _, rfl, fun x dx nx ndx nex => ?_⟩
    have sall := (s1.trans s2).trans s24
    have made : ∀ {H' : Hp} {o u : HO}, (∀ b o', upd (upd H4 dx o) x u b = some o' → b ≠ x → H' b = some o') → Same H H' := fun keep b o' e => by
      have e3 := sall _ _ e
      have n1 := ne_of_none e3 nx
      exact keep b o' (by rw [upd_ne n1, upd_ne (ne_of_none e3 ndx)]; exact e3) n1
    have lps : ps.length ≤ 1000 := by rw [List.length_map] at i2; exact i2
    have nD2 : ∀ {b : Addr} {o : HO}, H4 b = some o → upd (upd H4 dx (.own x)) x (.ins C dx []) b = some o := fun {b o} e => by rw [upd_ne (ne_of_none e nx), upd_ne (ne_of_none e ndx)]; exact e
    refine ⟨x, dx, D, unW w1, ps, kwZ H4, by rw [← isW_un c1]; rfl, upd_same, .inl (SqL.of (nD2 hD)), fun t ht => nD2 (hs t ht), lps, fun t ht => i3 _ (List.mem_map.mpr ⟨t, ht, rfl⟩), i1, fun h d H5 keep hd => ?_, fun h ha d H5 keep hd => ?_, fun h ha ho H5 ss keep pm srt hR => ?_, fun h ha ho d H5 keep hd => ?_⟩
    · exact i4 (.inl h) d H5 (made keep) (by rw [hd]; unfold badU; rw [if_pos h])
    · exact i4 (.inr (.inl ha)) d H5 (made keep) (by rw [hd]; unfold badU; rw [if_neg (by omega), if_pos ha])
    · exact ⟨rfl, i5 h ha (by rw [List.map_map]; exact ho) x ss H5 (made keep) (sall.free nx) (by rw [List.map_map]; exact pm) srt hR⟩
    · exact i4 (.inr (.inr (by rw [List.map_map]; exact ho))) d H5 (made keep) (by rw [hd]; unfold badU; rw [if_neg (by omega), if_neg (by rw [ha]; decide)])
end
end U
set_option maxRecDepth 100000
set_option maxHeartbeats 4000000
namespace U
open PySem PySem.Spec PyProof.Rows
open L2 hiding Fun CX0 E0 pass0 Fun.binds
open C8 Lx SX StX
theorem splc_ne (k : Nat) : ∀ (l acc : List Nat), TL.spl [k] 0 acc l ≠ []
  | [], acc => by rw [TL.spl_nil]; exact List.cons_ne_nil _ _
  | c :: l, acc => by
    cases e : TL.pre [k] (c :: l) with
    | true => rw [TL.spl_hit e]; exact List.cons_ne_nil _ _
    | false => rw [TL.spl_miss e]; exact splc_ne k l _
theorem splc_joinL (k : Nat) : ∀ (l acc : List Nat), TL.joinL [k] (TL.spl [k] 0 acc l) = acc ++ l
  | [], acc => by rw [TL.spl_nil, List.append_nil]; rfl
  | c :: l, acc => by
    cases e : TL.pre [k] (c :: l) with
    | true =>
      have ec : c = k := by unfold TL.pre at e; simpa using e
      rw [TL.spl_hit e]
      have ih := splc_joinL k l []
      have hn := splc_ne k l []
      show TL.joinL [k] (acc :: TL.spl [k] 0 [] l) = _
      cases h : TL.spl [k] 0 [] l with
      | nil => exact absurd h hn
      | cons x r =>
        rw [h] at ih
        show acc ++ ([k] ++ TL.joinL [k] (x :: r)) = _
        rw [ih, ec]
        rfl
    | false =>
      rw [TL.spl_miss e, splc_joinL k l, List.append_assoc]
      rfl
theorem cut_back {k : Nat} {y : Str} (ey : TL.tl y = [k]) (hk : y.cps.all (· < 256) = true) (z : Str) : Txt.split z y ≠ [] ∧ TL.joinL [k] ((Txt.split z y).map TL.tl) = TL.tl z := by
  have h1 := TL.split_spl z y (by rw [ey]; simp) (TL.kind_ok hk)
  rw [ey] at h1
  refine ⟨fun e => ?_, ?_⟩
  · rw [e] at h1
    exact splc_ne k _ _ h1.symm
  · rw [h1, splc_joinL]; rfl
theorem cut_sp (z : Str) : Txt.split z " " ≠ [] ∧ TL.joinL [32] ((Txt.split z " ").map TL.tl) = TL.tl z := cut_back sp_tl (by decide +kernel) z
theorem cut_co (z : Str) : Txt.split z ":" ≠ [] ∧ TL.joinL [58] ((Txt.split z ":").map TL.tl) = TL.tl z := cut_back co_tl (by decide +kernel) z
theorem back_co {z : Str} : Txt.join ":" (Txt.split z ":") = z := by
  refine TL.ext_tl ?_
  rw [TL.join_eq, TL.tl_join, co_tl, (cut_co z).2]
theorem joinL_len {k : Nat} : ∀ {ys : List (List Nat)}, ys ≠ [] → (TL.joinL [k] ys).length + 1 = (ys.map fun y => y.length + 1).sum
  | [], h => absurd rfl h
  | [y], _ => by simp [TL.joinL]
  | y :: u :: r, _ => by
    have ih := joinL_len (k := k) (ys := u :: r) (List.cons_ne_nil _ _)
    show (y ++ ([k] ++ TL.joinL [k] (u :: r))).length + 1 = _
    rw [List.length_append, List.length_append, List.map_cons, List.sum_cons, ← ih]
    simp only [List.length_cons, List.length_nil]
    omega
def sumL (ws : List Str) : Nat := (ws.map fun x => x.length + 1).sum
theorem sumL_tl (ws : List Str) : ((ws.map TL.tl).map fun y => y.length + 1).sum = sumL ws := by
  unfold sumL
  rw [List.map_map]
  congr 1
theorem cut_len (z : Str) : z.length + 1 = sumL (Txt.split z " ") := by
  obtain ⟨h1, h2⟩ := cut_sp z
  rw [← sumL_tl, ← joinL_len (k := 32) (fun e => h1 (List.map_eq_nil_iff.mp e)), h2, ← TL.len_tl]
theorem join_len {ws : List Str} (h : ws ≠ []) : (Txt.join " " ws).length + 1 = sumL ws := by
  rw [TL.len_tl, TL.join_eq, TL.tl_join, sp_tl, ← sumL_tl]
  exact joinL_len (k := 32) (fun e => h (List.map_eq_nil_iff.mp e))
theorem sumL_mem {ws : List Str} {x : Str} (h : x ∈ ws) : x.length + 1 ≤ sumL ws := by
  unfold sumL
  induction ws with
  | nil => cases h
  | cons y r ih =>
    rw [List.map_cons, List.sum_cons]
    rcases List.mem_cons.mp h with rfl | h
    · omega
    · have := ih h; omega
theorem sumL_few (ws : List Str) : ws.length ≤ sumL ws := by
  unfold sumL
  induction ws with
  | nil => exact Nat.zero_le _
  | cons y r ih => rw [List.map_cons, List.sum_cons, List.length_cons]; omega
theorem sumL_app (a b : List Str) : sumL (a ++ b) = sumL a + sumL b := by unfold sumL; rw [List.map_append, List.sum_append]
theorem sumL_cons (a : Str) (b : List Str) : sumL (a :: b) = a.length + 1 + sumL b := by unfold sumL; rw [List.map_cons, List.sum_cons]
theorem par_joinC {S : List Nat} : ∀ {l acc p r : List Nat}, TL.par S acc l = some (p, r) → acc ++ l = p ++ S ++ r
  | [], _, _, _, h => by cases h
  | c :: l, acc, p, r, h => by
    cases e : TL.pre S (c :: l) with
    | true =>
      rw [TL.par_hit e] at h
      have h := Option.some.inj h
      have h1 : acc = p := congrArg Prod.fst h
      have h2 : (c :: l).drop S.length = r := congrArg Prod.snd h
      have e : (c :: l).take S.length = S := by unfold TL.pre at e; simpa using e
      rw [← h1, ← h2, List.append_assoc]
      congr 1
      conv => lhs; rw [← List.take_append_drop S.length (c :: l), e]
    | false =>
      rw [TL.par_miss e] at h
      have := par_joinC h
      rw [← this, List.append_assoc]
      rfl
theorem part_co (z : Str) : ((Txt.partition z ":").2.1 = ":" → z = (Txt.partition z ":").1 ++ ":" ++ (Txt.partition z ":").2.2) ∧ (Txt.partition z ":").1.length ≤ z.length ∧ (Txt.partition z ":").2.2.length ≤ z.length := by
  have hp := TL.partition_par z ":" (by rw [co_tl]; simp)
  rw [hp]
  cases e : TL.par (TL.tl ":") [] (TL.tl z) with
  | none => exact ⟨fun h => absurd (show Str.empty = ":" from h) (by decide +kernel), Nat.le_refl _, Nat.zero_le _⟩
  | some x =>
    obtain ⟨a, b⟩ := x
    have h := par_joinC e
    rw [List.nil_append, co_tl] at h
    have hl := congrArg List.length h
    rw [List.length_append, List.length_append] at hl
    refine ⟨fun _ => TL.ext_tl ?_, ?_, ?_⟩
    · rw [TL.tl_append, TL.tl_append, co_tl]; exact h
    · rw [TL.len_tl, TL.len_tl z]; show a.length ≤ _; omega
    · rw [TL.len_tl, TL.len_tl z]; show b.length ≤ _; omega
theorem no_co (l : List Bool) : (58 : Nat) ∉ TL.tl (W l) := by
  show 58 ∉ l.map bt
  intro h
  obtain ⟨b, _, e⟩ := List.mem_map.mp h
  cases b <;> cases e
theorem stuffZ_some {w : Str} {x : WW} (h : stuffZ w = some x) : w = W x.1 ++ ":" ++ W x.2 ∧ x.1 ≠ [] ∧ x.2.length = 1 := by
  unfold stuffZ at h
  split at h
  · rename_i c
    obtain ⟨c1, c2⟩ := c
    have e := (part_co w).1 c1
    unfold goodZ at c2
    simp only [Bool.and_eq_true, decide_eq_true_iff] at c2
    obtain ⟨⟨c2, c3⟩, c4, c5⟩ := c2
    cases h
    have e1 := isW_un c2
    have e2 := isW_un c4
    refine ⟨by rw [← e1, ← e2]; exact e, fun y => ?_, ?_⟩
    · have y : unW (Txt.partition w ":").1 = [] := y
      rw [e1, W_len, y] at c3
      cases c3
    · rw [e2, W_len] at c5; exact c5
  · cases h
theorem stuffZ_of {p b : List Bool} (hp : p ≠ []) (hb : b.length = 1) : stuffZ (W p ++ ":" ++ W b) = some (p, b) := by
  unfold stuffZ
  rw [TL.partition_app co_tl (no_co p)]
  have up : ∀ l, unW (W l) = l := fun l => (W_inj (isW_un (isW_W l))).symm
  rw [if_pos]
  · rw [up, up]
  · refine ⟨rfl, ?_⟩
    unfold goodZ
    rw [isW_W, isW_W, W_len, W_len, decide_eq_true (List.length_pos_iff.mpr hp), decide_eq_true hb]
    rfl
def rowB (z : Str) : Bool := decide (z ≠ "") && isW z
theorem row_some {z : Str} (h : rowB z = true) : ∃ l, l ≠ [] ∧ z = W l := by
  unfold rowB at h
  rw [Bool.and_eq_true] at h
  have e := isW_un h.2
  refine ⟨unW z, fun y => ?_, e⟩
  have h1 := of_decide_eq_true h.1
  rw [e, y, W_nil] at h1
  exact h1 rfl
theorem row_W (l : List Bool) : rowB (W l) = decide (l ≠ []) := by
  unfold rowB
  rw [isW_W, Bool.and_true, decide_eq_decide]
  exact ⟨fun h e => h (by rw [e, W_nil]), fun h e => h (by rw [W_nil] at e; exact W_inj e)⟩
theorem co_some {w : Str} {x : WW} (h : stuffZ w = some x) : Txt.split w ":" = [W x.1, W x.2] := by
  obtain ⟨e, _, _⟩ := stuffZ_some h
  have ej : w = Txt.join ":" [W x.1, W x.2] := by
    rw [e]
    refine TL.ext_tl ?_
    rw [TL.join_eq, TL.tl_join, TL.tl_append, TL.tl_append, co_tl]
    simp only [List.map_cons, List.map_nil, TL.joinL, List.append_assoc]
  rw [ej]
  refine TL.split_join co_tl (by decide +kernel) (List.cons_ne_nil _ _) fun q hq => ?_
  simp only [List.mem_cons, List.not_mem_nil, or_false] at hq
  rcases hq with rfl | rfl
  · exact no_co _
  · exact no_co _
theorem co_none {w a b : Str} (h : stuffZ w = none) (e : Txt.split w ":" = [a, b]) (ha : rowB a = true) (hb : rowB b = true) : b.length ≠ 1 := fun h1 => by
  obtain ⟨p, hp, rfl⟩ := row_some ha
  obtain ⟨q, hq, rfl⟩ := row_some hb
  rw [W_len] at h1
  have ew : w = W p ++ ":" ++ W q := by
    rw [← back_co (z := w), e]
    refine TL.ext_tl ?_
    rw [TL.join_eq, TL.tl_join, TL.tl_append, TL.tl_append, co_tl]
    simp only [List.map_cons, List.map_nil, TL.joinL, List.append_assoc]
  rw [ew, stuffZ_of hp h1] at h
  cases h
structure TxOk (z : Str) : Prop where
  len : z.length ≤ 26
  ok : PyData.strOk z = true
theorem TxOk.rd {z : Str} (h : TxOk z) : RdZ z := by
  have h1 := cut_len z
  have h2 := sumL_few (Txt.split z " ")
  have h3 := h.len
  refine ⟨by omega, by omega, fun x hx => ?_⟩
  have h4 := sumL_mem hx
  have h5 := part_co x
  omega
theorem all_some : ∀ {os : List (Option WW)}, ¬ os.any Option.isNone = true → os = (os.filterMap id).map some
  | [], _ => rfl
  | o :: r, hn => by
    rw [List.any_cons] at hn
    simp only [Bool.or_eq_true, not_or] at hn
    cases o with
    | none => exact absurd rfl hn.1
    | some x =>
      have := all_some hn.2
      show some x :: r = some x :: _
      rw [← this]
theorem rd2_init {w1 : Str} {f : List Bool} {xs : List WW} : ∀ {r : List Str}, ruR2 w1 r = .init f xs → f = unW w1 ∧ ((r = [] ∧ xs = []) ∨ ∃ r2, r = ("put" : Str) :: r2 ∧ r2 ≠ [] ∧ r2.map stuffZ = xs.map some)
  | [], h => by
    have h : RdO.init (unW w1) [] = RdO.init f xs := h
    injection h with h1 h2
    exact ⟨h1.symm, .inl ⟨rfl, h2.symm⟩⟩
  | w2 :: r2, h => by
    have h : (if w2 = "put" ∧ r2 ≠ [] then (if (r2.map stuffZ).any Option.isNone = true then .text else .init (unW w1) ((r2.map stuffZ).filterMap id)) else .text) = RdO.init f xs := h
    by_cases c : w2 = "put" ∧ r2 ≠ []
    · rw [if_pos c] at h
      by_cases cN : (r2.map stuffZ).any Option.isNone = true
      · rw [if_pos cN] at h; cases h
      · rw [if_neg cN] at h
        injection h with h1 h2
        exact ⟨h1.symm, .inr ⟨r2, by rw [c.1], c.2, by rw [← h2]; exact all_some cN⟩⟩
    · rw [if_neg c] at h; cases h
theorem rd_init : ∀ {ws : List Str} {f : List Bool} {xs : List WW}, ruRd ws = .init f xs → f ≠ [] ∧ ((ws = [("flag" : Str), W f] ∧ xs = []) ∨ ∃ r, r ≠ [] ∧ ws = ("flag" : Str) :: W f :: "put" :: r ∧ r.map stuffZ = xs.map some)
  | [], _, _, h => by cases h
  | [_], _, _, h => by cases h
  | w0 :: w1 :: r, f, xs, h => by
    have g : (if w0 = "flag" ∧ isW w1 = true ∧ w1 ≠ "" then ruR2 w1 r else .text) = RdO.init f xs := h
    by_cases c : w0 = "flag" ∧ isW w1 = true ∧ w1 ≠ ""
    · rw [if_pos c] at g
      obtain ⟨rfl, c1, c2⟩ := c
      have ew := isW_un c1
      obtain ⟨rfl, h2⟩ := rd2_init g
      refine ⟨fun y => c2 (by rw [ew, y, W_nil]), ?_⟩
      rw [← ew]
      rcases h2 with ⟨rfl, rfl⟩ | ⟨r2, rfl, h3, h4⟩
      · exact .inl ⟨rfl, rfl⟩
      · exact .inr ⟨r2, h3, rfl, h4⟩
    · rw [if_neg c] at g; cases g
theorem map_some_mem {r : List Str} {xs : List WW} (h : r.map stuffZ = xs.map some) {x : WW} (hx : x ∈ xs) : ∃ w ∈ r, stuffZ w = some x := by
  have : some x ∈ r.map stuffZ := by rw [h]; exact List.mem_map.mpr ⟨x, hx, rfl⟩
  obtain ⟨w, hw, e⟩ := List.mem_map.mp this
  exact ⟨w, hw, e⟩
theorem TxOk.bnd {z : Str} (h : TxOk z) {f : List Bool} {xs : List WW} (e : ruRd (Txt.split z " ") = .init f xs) : f.length ≤ 1000 ∧ xs.length ≤ 1000 ∧ ∀ x ∈ xs, x.1.length ≤ 13 ∧ x.2.length ≤ 13 := by
  have h1 := cut_len z
  have h3 := h.len
  obtain ⟨fn, hh⟩ := rd_init e
  have lf := List.length_pos_iff.mpr fn
  have l4 : ("flag" : Str).length = 4 := by decide +kernel
  have l3 : ("put" : Str).length = 3 := by decide +kernel
  have l1 : (":" : Str).length = 1 := by decide +kernel
  rcases hh with ⟨e1, rfl⟩ | ⟨r, hr, e1, e2⟩
  · rw [e1, sumL_cons, sumL_cons, W_len] at h1
    exact ⟨by omega, Nat.zero_le _, fun _ h => nomatch h⟩
  · rw [e1, sumL_cons, sumL_cons, sumL_cons, W_len, l4, l3] at h1
    have h2 := sumL_few r
    have el : xs.length = r.length := by have := congrArg List.length e2; rw [List.length_map, List.length_map] at this; exact this.symm
    refine ⟨by omega, by omega, fun x hx => ?_⟩
    obtain ⟨w, hw, ex⟩ := map_some_mem e2 hx
    obtain ⟨ew, _, hx2⟩ := stuffZ_some ex
    have h4 := sumL_mem hw
    rw [ew, lenC, lenC, W_len, W_len, l1] at h4
    omega
theorem rd_words {ws : List Str} {f : List Bool} {xs : List WW} (h : ruRd ws = .init f xs) : ws = ruWs f (xs.map stO) := by
  obtain ⟨_, hh⟩ := rd_init h
  rcases hh with ⟨e1, rfl⟩ | ⟨r, hr, e1, e2⟩
  · rw [e1]; rfl
  · rw [e1]
    unfold ruWs
    have xn : xs.map stO ≠ [] := fun y => by
      rw [List.map_eq_nil_iff] at y
      rw [y] at e2
      exact hr (List.map_eq_nil_iff.mp e2)
    rw [if_neg xn]
    congr 3
    rw [List.map_map]
    have key : ∀ (r : List Str) (xs : List WW), r.map stuffZ = xs.map some → r = xs.map (stT ∘ stO) := by
      intro r
      induction r with
      | nil => intro xs h; cases xs with | nil => rfl | cons _ _ => cases h
      | cons w r ih =>
        intro xs h
        cases xs with
        | nil => cases h
        | cons x xs =>
          rw [List.map_cons, List.map_cons] at h
          injection h with h1 h2
          rw [List.map_cons, ← ih xs h2]
          obtain ⟨ew, _, hx2⟩ := stuffZ_some h1
          congr 1
          rw [ew]
          show _ = W x.1 ++ ":" ++ W [x.2.headD false]
          obtain ⟨b, hb⟩ := List.length_eq_one_iff.mp hx2
          rw [hb]
          rfl
    exact key r xs e2
theorem ruWs_perm {f : List Bool} {ss ts : List Stf} (p : ss.Perm ts) : (ruWs f ss).Perm (ruWs f ts) := by
  unfold ruWs
  refine .cons _ (.cons _ ?_)
  by_cases h : ss = []
  · subst h
    rw [List.nil_perm.mp p]
  · rw [if_neg h, if_neg fun y => h (by rw [y] at p; exact List.perm_nil.mp p)]
    exact .cons _ (p.map _)
theorem piece_ok {z x : Str} (h : PyData.strOk z = true) (hx : x ∈ Txt.split z " ") : PyData.strOk x = true := by
  obtain ⟨_, e⟩ := cut_sp z
  unfold PyData.strOk at h ⊢
  rw [← Array.all_toList, List.all_eq_true] at h ⊢
  intro c hc
  refine h c ?_
  show c ∈ TL.tl z
  rw [← e]
  have key : ∀ ys : List (List Nat), TL.tl x ∈ ys → c ∈ TL.joinL [32] ys := fun ys => by
    induction ys with
    | nil => intro h; cases h
    | cons y r ih =>
      intro h
      cases r with
      | nil =>
        have h := List.mem_singleton.mp h
        show c ∈ y
        rw [← h]
        exact hc
      | cons u r =>
        show c ∈ y ++ ([32] ++ TL.joinL [32] (u :: r))
        rcases List.mem_cons.mp h with h | h
        · exact List.mem_append_left _ (by rw [← h]; exact hc)
        · exact List.mem_append_right _ (List.mem_append_right _ (ih h))
  exact key _ (List.mem_map.mpr ⟨x, hx, rfl⟩)
theorem pieceC_ok {z x : Str} (h : PyData.strOk z = true) (hx : x ∈ Txt.split z ":") : PyData.strOk x = true := by
  obtain ⟨_, e⟩ := cut_co z
  unfold PyData.strOk at h ⊢
  rw [← Array.all_toList, List.all_eq_true] at h ⊢
  intro c hc
  refine h c ?_
  show c ∈ TL.tl z
  rw [← e]
  have key : ∀ ys : List (List Nat), TL.tl x ∈ ys → c ∈ TL.joinL [58] ys := fun ys => by
    induction ys with
    | nil => intro h; cases h
    | cons y r ih =>
      intro h
      cases r with
      | nil =>
        have h := List.mem_singleton.mp h
        show c ∈ y
        rw [← h]
        exact hc
      | cons u r =>
        show c ∈ y ++ ([58] ++ TL.joinL [58] (u :: r))
        rcases List.mem_cons.mp h with h | h
        · exact List.mem_append_left _ (by rw [← h]; exact hc)
        · exact List.mem_append_right _ (List.mem_append_right _ (ih h))
  exact key _ (List.mem_map.mpr ⟨x, hx, rfl⟩)
theorem pieceC_len {z x : Str} (hx : x ∈ Txt.split z ":") : x.length ≤ z.length := by
  obtain ⟨h1, h2⟩ := cut_co z
  have h3 := joinL_len (k := 58) (ys := (Txt.split z ":").map TL.tl) (fun e => h1 (List.map_eq_nil_iff.mp e))
  rw [h2, sumL_tl, ← TL.len_tl] at h3
  have := sumL_mem hx
  omega
theorem join_ok {ws : List Str} (h : ∀ x ∈ ws, PyData.strOk x = true) : PyData.strOk (Txt.join " " ws) = true := by
  unfold PyData.strOk
  rw [← Array.all_toList, List.all_eq_true]
  intro c hc
  have hc : c ∈ TL.tl (Txt.join " " ws) := hc
  rw [TL.join_eq, TL.tl_join, sp_tl] at hc
  have ok : ∀ y ∈ ws.map TL.tl, ∀ c ∈ y, PyData.strOk ⟨#[c]⟩ = true := fun y hy c hc => by
    obtain ⟨x, hx, rfl⟩ := List.mem_map.mp hy
    have := h x hx
    unfold PyData.strOk at this ⊢
    rw [← Array.all_toList, List.all_eq_true] at this
    rw [← Array.all_toList]
    have := this c hc
    simpa using this
  have key : ∀ ys : List (List Nat), (∀ y ∈ ys, ∀ c ∈ y, PyData.strOk ⟨#[c]⟩ = true) → c ∈ TL.joinL [32] ys → PyData.strOk ⟨#[c]⟩ = true := fun ys => by
    induction ys with
    | nil => intro _ h; cases h
    | cons y r ih =>
      intro ok h
      cases r with
      | nil => exact ok y List.mem_cons_self c h
      | cons u r =>
        rcases List.mem_append.mp (show c ∈ y ++ ([32] ++ TL.joinL [32] (u :: r)) from h) with h | h
        · exact ok y List.mem_cons_self c h
        · rcases List.mem_append.mp h with h | h
          · rw [List.mem_singleton.mp h]; decide +kernel
          · exact ih (fun v hv => ok v (List.mem_cons_of_mem _ hv)) h
  have := key _ ok hc
  unfold PyData.strOk at this
  rw [← Array.all_toList] at this
  simpa using this
end U
set_option maxRecDepth 100000
set_option maxHeartbeats 4000000
namespace U
open PySem PySem.Spec PyProof.Rows
open L2 hiding Fun CX0 E0 pass0 Fun.binds
open C8 Lx SX StX
theorem len_cat (a b : Str) : (a ++ b).length = a.length + b.length := lenC a b
def oddL (z : Str) : List Nat := z.cps.toList.filter fun c => !decide (c ∈ ("01" : Str).cps.toList)
theorem oddL_nil {z : Str} : oddL z = [] ↔ isW z = true := by
  unfold oddL isW
  rw [List.filter_eq_nil_iff, List.all_eq_true]
  exact ⟨fun h c hc => by have := h c hc; simpa using this, fun h c hc => by have := h c hc; simpa using this⟩
def sgV (cs : List Nat) : List V := cs.map fun c => V.str ⟨#[c]⟩
theorem dp_sg {K : PySem.W.Frag} {H : Hp} : ∀ cs : List Nat, DpAll K H (sgV cs) (cs.map fun c => PyData.str ⟨#[c]⟩)
  | [] => .nil
  | _ :: r => .cons (.str _) (dp_sg r)
theorem sg_shaped {z : Str} (h : PyData.strOk z = true) (cs : List Nat) (hs : ∀ c ∈ cs, c ∈ z.cps.toList) : SeqAt.shaped (.list (cs.map fun c => PyData.str ⟨#[c]⟩)) = true := by
  unfold PyData.strOk at h
  rw [← Array.all_toList, List.all_eq_true] at h
  have key : ∀ cs : List Nat, (∀ c ∈ cs, c ∈ z.cps.toList) → PyData.canLayAll0 (cs.map fun c => PyData.str ⟨#[c]⟩) = true ∧ PyData.depthAll (cs.map fun c => PyData.str ⟨#[c]⟩) = 0 := fun cs => by
    induction cs with
    | nil => intro _; exact ⟨rfl, rfl⟩
    | cons c r ih =>
      intro hc
      obtain ⟨i1, i2⟩ := ih fun u hu => hc u (List.mem_cons_of_mem _ hu)
      refine ⟨?_, ?_⟩
      · show (PyData.strOk ⟨#[c]⟩ && PyData.canLayAll0 (r.map fun c => PyData.str ⟨#[c]⟩)) = true
        rw [i1, Bool.and_true]
        unfold PyData.strOk
        rw [← Array.all_toList]
        have := h c (hc c List.mem_cons_self)
        simpa using this
      · show max 0 (PyData.depthAll (r.map fun c => PyData.str ⟨#[c]⟩)) = 0
        rw [i2]; rfl
  obtain ⟨k1, k2⟩ := key cs hs
  unfold SeqAt.shaped
  rw [Bool.and_eq_true, decide_eq_true_iff]
  refine ⟨k1, ?_⟩
  show PyData.depthAll _ + 1 ≤ 64
  rw [k2]
  decide
def spIsRowZ : Sp := fun vs H Q _ => ∃ z : Str, vs = [.str z] ∧ z.length ≤ 10000 ∧ PyData.strOk z = true ∧ ∀ H', Same H H' → Q (.bl (rowB z)) H'
theorem slc_len (z : Str) (lo hi : Option Int) : (Txt.slice z lo hi).length ≤ z.length := by
  rw [← cutS_slice, TL.len_tl, TL.len_tl z]
  show (((TL.tl z).drop _).take _).length ≤ _
  rw [List.length_take, List.length_drop]
  omega
theorem slc_ok {z : Str} (h : PyData.strOk z = true) (lo hi : Option Int) : PyData.strOk (Txt.slice z lo hi) = true := by
  rw [← cutS_slice]
  unfold PyData.strOk at h ⊢
  rw [← Array.all_toList, List.all_eq_true] at h ⊢
  intro c hc
  exact h c (List.mem_of_mem_drop (List.mem_of_mem_take (show c ∈ (z.cps.toList.drop _).take _ from hc)))
theorem sOk_catC {a b : Str} (ha : PyData.strOk a = true) (hb : PyData.strOk b = true) : PyData.strOk (a ++ b) = true := by
  unfold PyData.strOk at ha hb ⊢
  rw [show (a ++ b).cps = a.cps ++ b.cps from rfl, Array.all_append, ha, hb]
  rfl
def ThV (K : PySem.W.Frag) (H : Hp) (v : V) : Prop := (∃ z, v = .str z ∧ TxOk z) ∨ ((∀ z, v ≠ .str z) ∧ AnyS K H v)
theorem ThV.same {K : PySem.W.Frag} {H H' : Hp} {v : V} (h : ThV K H v) (s : Same H H') : ThV K H' v := h.imp (fun x => x) fun x => ⟨x.1, x.2.same s⟩
def ThU (K : PySem.W.Frag) (b : Addr) (H : Hp) (v : V) : Prop := ∀ H', Up b H H' → ThV K H' v
theorem ThU.up {K : PySem.W.Frag} {b : Addr} {H H' : Hp} {v : V} (h : ThU K b H v) (u : Up b H H') : ThU K b H' v := fun H2 u2 => h H2 (u.trans u2)
theorem thU_lst {K : PySem.W.Frag} {b : Addr} {H : Hp} {a : Addr} {xs : List V} (e : H a = some (.lst xs)) (n : a ≠ b) : ThU K b H (.ref a) := fun H' u => .inr ⟨(fun _ z => by cases z), anyU_lst e n H' u⟩
theorem thU_tup {K : PySem.W.Frag} {b : Addr} {H : Hp} {a : Addr} {xs : List V} (hb : Box H b) (e : H a = some (.tup xs)) : ThU K b H (.ref a) := fun H' u => .inr ⟨(fun _ z => by cases z), anyU_tup hb e H' u⟩
def txB (z : Str) : Bool := decide (z.length ≤ 26) && PyData.strOk z
theorem txB_ok {z : Str} (h : txB z = true) : TxOk z := by
  unfold txB at h
  rw [Bool.and_eq_true, decide_eq_true_iff] at h
  exact ⟨h.1, h.2⟩
def scalB : V → Bool
  | .non => true
  | .bl _ => true
  | .int _ => true
  | .str z => txB z
  | _ => false
theorem scal_any {K : PySem.W.Frag} {b : Addr} {H : Hp} {v : V} (h : scalB v = true) : ThU K b H v := by
  cases v with
  | non => exact fun _ _ => .inr ⟨(fun _ z => by cases z), anyS_non⟩
  | bl x => exact fun _ _ => .inr ⟨(fun _ z => by cases z), anyS_bl x⟩
  | int i => exact fun _ _ => .inr ⟨(fun _ z => by cases z), anyS_int i⟩
  | str z => exact fun _ _ => .inl ⟨z, rfl, txB_ok h⟩
  | _ => cases h
def spLeaf (K : PySem.W.Frag) : Sp := fun vs H Q _ => ∃ b : Addr, vs = [.ref b] ∧ Box H b ∧ ∀ v H', Up b H H' → ThU K b H' v → Q v H'
def spAnyN (K : PySem.W.Frag) (n : Nat) : Sp := fun vs H Q _ => ∃ b : Addr, vs = [.ref b, .int n] ∧ Box H b ∧ ∀ v H', Up b H H' → ThU K b H' v → Q v H'
def spAny (K : PySem.W.Frag) : Sp := fun vs H Q _ => ∃ (b : Addr) (n : Nat), vs = [.ref b, .int n] ∧ n ≤ 8 ∧ Box H b ∧ ∀ v H', Up b H H' → ThU K b H' v → Q v H'
def spForm (K : PySem.W.Frag) : Sp := fun vs H Q _ => ∃ v : V, vs = [v] ∧ ThV K H v ∧ (∀ z, v = .str z → (ruRd (Txt.split z " ") = .text → ∀ H', Same H H' → Q (.bl false) H') ∧ ∀ f xs, ruRd (Txt.split z " ") = .init f xs → ∀ H', Same H H' → Q (.bl true) H') ∧
  ((∀ z, v ≠ .str z) → ∀ H', Same H H' → Q (.bl false) H')
inductive Hv (v : V) : V → Prop where
  | no (h : ∀ z, v ≠ .str z) : Hv v (.int 0)
  | text (z : Str) (e : v = .str z) (h : ruRd (Txt.split z " ") = .text) : Hv v (.int 0)
  | bad (z : Str) (f : List Bool) (xs : List WW) (e : v = .str z) (h : ruRd (Txt.split z " ") = .init f xs) (hb : f.length < 2 ∨ areB xs = false ∨ ¬ OkR (xs.map stO)) : Hv v (.str (("rule " : Str) ++ badU f xs))
  | good (z : Str) (f : List Bool) (xs : List WW) (ss : List Stf) (e : v = .str z) (h : ruRd (Txt.split z " ") = .init f xs) (h2 : 2 ≤ f.length) (p : ss.Perm (xs.map stO)) : Hv v (.str (ruT f ss))
def spHd04 (K : PySem.W.Frag) : Sp := fun vs H Q _ => ∃ v : V, vs = [v] ∧ ThV K H v ∧ ∀ r H', Same H H' → Hv v r → Q r H'
def spBent : Sp := fun vs H Q _ => ∃ (b : Addr) (z : Str), vs = [.ref b, .str z] ∧ Box H b ∧ z.length ≤ 20 ∧ PyData.strOk z = true ∧ ∀ z' H', Up b H H' → TxOk z' → Q (.str z') H'
def odds : List V := [.str "", .str " ", .str "0", .str "1", .str ":", .str "put", .str "flag", .str "2", .str "\n", .str " 11:0", .str "11:0 ", .str "  "]
theorem odds_ok {v : V} (h : v ∈ odds) : ∃ y : Str, v = .str y ∧ y.length ≤ 5 ∧ PyData.strOk y = true := by
  have hall : ∀ x ∈ odds, (match x with | .str y => decide (y.length ≤ 5) && PyData.strOk y | _ => false) = true := List.all_eq_true.mp (by decide +kernel)
  have h := hall v h
  cases v with
  | str y =>
    have h : (decide (y.length ≤ 5) && PyData.strOk y) = true := h
    rw [Bool.and_eq_true, decide_eq_true_iff] at h
    exact ⟨y, rfl, h.1, h.2⟩
  | _ => cases h
section
variable {P : Program} {w : World} {K : PySem.W.Frag} {mg : Str → Option Value} {base : Heap}
theorem sc_l_leaf : FnScope ["_law_box"] ["_law_box"] (fnScope s_l_leaf) := fnScope_by (by decide +kernel)
theorem cal_l_leaf {f : Addr} {fd : FuncData} (F : Def K mg "_law_leaf" s_l_leaf f fd) (b : Binds K fd ["_law_box"] []) (T : Tx mg) (c_l_one_of : Cal P w K mg base 2 "_law_one_of" spOneOf []) : Cal P w K mg base 3 "_law_leaf" (spLeaf K) [] := by
  refine cal0 F b .nil sc_l_leaf (fun vs H Q E h => ?_) (fun cdv A outer s H vs Q E hr h => ?_)
  · obtain ⟨_, rfl, _⟩ := h; rfl
  · obtain ⟨bx, rfl, hb, k⟩ := h
    refine ⟨_, (pss_one (ps_ret (pe_c c_l_one_of hr (by decide) rfl (pa_cons (pv 0) (pa_cons (pe_lst (pa_cons pe_non (pa_cons pe_bl (pa_cons pe_bl (pa_cons pe_int (pa_cons pe_int (pa_cons (pe_op op_sub pe_int pe_int) (pa_cons pe_int (pa_cons pe_str (pa_cons pe_str (pa_cons pe_str (pa_cons pe_str (pa_cons pe_str (pa_cons pe_str (pa_cons pe_str (pa_cons pe_str pa_nil)))))))))))))))) pa_nil))))), ?_⟩
    refine ⟨_, rfl, _, _, rfl, rfl, by show 15 ≤ sizeLine; decide, fun l1 n1 => ?_⟩
    have s1 := same_upd (o := .lst [.non, .bl true, .bl false, .int 0, .int 1, .int (0 - 1), .int 2, .str "", .str "0", .str "1", .str "01", .str "turn", .str "012", .str " 0", .str "cut"]) n1
    refine ⟨bx, l1, _, rfl, hb.same s1, upd_same, hb.ne n1, by show 0 < 15; decide, by show 15 < 1000; decide, fun v H' hv u => k v H' ((Up.of_same hb s1).trans u) (scal_any ?_)⟩
    have hall : ∀ x ∈ [V.non, .bl true, .bl false, .int 0, .int 1, .int (0 - 1), .int 2, .str "", .str "0", .str "1", .str "01", .str "turn", .str "012", .str " 0", .str "cut"], scalB x = true := List.all_eq_true.mp (by decide +kernel)
    exact hall v hv
theorem sc_l_any : FnScope ["_law_box", "_law_deep", "_law_form", "_law_found", "_law_turn"] ["_law_box", "_law_deep"] (fnScope s_l_any) := fnScope_by (by decide +kernel)
theorem any_fn {f : Addr} {fd : FuncData} (F : Def K mg "_law_any" s_l_any f fd) (b : Binds K fd ["_law_box", "_law_deep"] []) (T : Tx mg) (c_l_choose : Cal P w K mg base 1 "_law_choose" spChoose []) (c_l_leaf : Cal P w K mg base 3 "_law_leaf" (spLeaf K) []) (n : Nat) : FnOk P w K mg base CX0 (4 + n) f fd ["_law_box", "_law_deep"] (spAnyN K n) := by
  induction n with
  | zero =>
    refine fn0 F.fn sc_l_any (fun vs H Q E h => ?_) (fun cdv A outer s H vs Q E hr h => ?_)
    · obtain ⟨_, rfl, _⟩ := h; rfl
    · obtain ⟨bx, rfl, hb, k⟩ := h
      refine ⟨_, (pss_cons (ps_set (i := 2) sc_l_any.nd rfl (.inl rfl) (pe_ifExp (pt_cmpR op_gt (pv 1) pe_int (nomark _)) (pe_c c_l_choose hr (by decide) rfl (pa_cons (pv 0) (pa_cons pe_int pa_nil))) pe_int))
        (pss_cons (ps_if (pt_cmpR op_gt (pv 2) pe_int (nomark _)) (pss_one (ps_ret (pe_c c_l_leaf hr (by decide) rfl (pa_cons (pv 0) pa_nil)))) pss_nil) pss_never)), ?_⟩
      refine ⟨_, rfl, _, _, rfl, rfl, _, rfl, iteDF (by decide) ?_⟩
      refine ⟨_, rfl, _, _, rfl, rfl, _, rfl, iteDT (by decide) ?_⟩
      exact ⟨_, rfl, bx, rfl, hb, k⟩
  | succ n ih =>
    have c_l_any : Cal P w K mg base (4 + n) "_law_any" (spAnyN K n) [] := ⟨f, fd, _, [], ih, F.mgf, F.kp, b, .nil⟩
    refine fn0 F.fn sc_l_any (fun vs H Q E h => ?_) (fun cdv A outer s H vs Q E hr h => ?_)
    · obtain ⟨_, rfl, _⟩ := h; rfl
    · obtain ⟨bx, rfl, hb, k⟩ := h
      refine ⟨_, (pss_cons (ps_set (i := 2) sc_l_any.nd rfl (.inl rfl) (pe_ifExp (pt_cmpR op_gt (pv 1) pe_int (nomark _)) (pe_c c_l_choose hr (by show _ ≤ 4 + n; omega) rfl (pa_cons (pv 0) (pa_cons pe_int pa_nil))) pe_int))
    (pss_cons (ps_if (pt_cmpR op_gt (pv 2) pe_int (nomark _)) (pss_one (ps_ret (pe_c c_l_leaf hr (by show _ ≤ 4 + n; omega) rfl (pa_cons (pv 0) pa_nil)))) pss_nil)
    (pss_cons (ps_setLc (i := 3) (own := [("_law_turn", 4)]) (g := gName 4) (by rfl) sc_l_any.nd rfl rfl (sw_true rfl rfl rfl (by decide +kernel)) (pi_range1 (by rfl) T.b_range (pa_cons (pe_c c_l_choose hr (by show _ ≤ 4 + n; omega) rfl (pa_cons (pv 0) (pa_cons pe_int pa_nil))) pa_nil)) (blkOk_by (own := [("_law_turn", 4)]) (N := ["_law_box", "_law_deep", "_law_form", "_law_found", "_law_turn"]) (sc := fnScope s_l_any) (by decide +kernel)) (fun _ _ _ _ _ => (pg_name (i := 4) sc_l_any.nd rfl (.inl rfl))) (fun _ _ _ _ _ => pts_nil) (fun _ _ _ _ _ => (pe_c c_l_any hr (by show _ ≤ 4 + n; omega) rfl (pa_cons (pv 0) (pa_cons (pe_op op_sub (pv 1) pe_int) pa_nil)))))
    (pss_one (ps_ret (pe_ifExp (pt_cmpR op_eq (pv 2) pe_int (nomark _)) (pe_callTy call_tuple_of (by rfl) T.b_tuple (by decide +kernel) (pa_cons (pv 3) pa_nil)) (pv 3))))))), ?_⟩
      refine ⟨_, rfl, _, _, rfl, rfl, _, rfl, iteDT (by show (0 : Int) < ((n + 1 : Nat) : Int); omega) ?_⟩
      refine ⟨_, rfl, bx, 6, rfl, hb, by decide, by decide, fun d H1 d0 d6 u1 => ?_⟩
      refine ⟨_, rfl, _, _, rfl, rfl, _, rfl, ?_⟩
      by_cases c1 : d > 1
      · refine iteDT c1 ?_
        exact ⟨_, rfl, bx, rfl, u1.2, fun v H' u a => k v H' (u1.trans u) a⟩
      · refine iteDF c1 ?_
        refine ⟨_, rfl, bx, 4, rfl, u1.2, by decide, by decide, fun e H2 e0 e4 u2 => ?_⟩
        refine ⟨_, rfl, by omega, by omega, fun D nD => ?_⟩
        have u12 := u1.trans u2
        have Db : D ≠ bx := u2.2.ne nD
        refine lc_it (walk_range (lo := 0) (n := e.toNat)) (fun i H3 => Up bx H2 H3 ∧ ∃ vs : List V, H3 D = some (.lst vs) ∧ vs.length = i) ⟨(Up.refl u2.2).mut nD Db, [], upd_same, rfl⟩ (fun _ _ _ _ => trivial) ?_ ?_
        · rintro i x H3' H3 hi ⟨u3, vs, hD, lvs⟩ ⟨rfl, rfl⟩
          refine ⟨rfl, _, rfl, _, rfl, _, _, rfl, rfl, bx, by show [V.ref bx, V.int (((n + 1 : Nat) : Int) - 1)] = _; rw [show ((n + 1 : Nat) : Int) - 1 = (n : Int) by omega], u3.2, fun v H4 u4 av => ?_⟩
          exact ⟨_, u4.1 _ _ hD Db, sl_lt (by omega), (u3.trans u4).mut nD Db, vs ++ [v], by rw [upd_same], by rw [List.length_append, lvs]; rfl⟩
        rintro H3 ⟨u3, vs, hD, lvs⟩
        have u13 := u12.trans u3
        refine ⟨_, rfl, rfl, _, rfl, ?_⟩
        by_cases c2 : d = 0
        · refine iteDT (by rw [c2]) ?_
          refine ⟨_, rfl, D, _, rfl, .inl ⟨SqL.of hD, fun t nt => ?_⟩⟩
          have st := same_upd (o := .tup vs) nt
          exact k _ _ (u13.same st) (thU_tup (u13.2.same st) upd_same)
        · refine iteDF (fun z => c2 (V.int.inj z)) ?_
          exact ⟨_, rfl, k _ _ u13 (thU_lst hD Db)⟩
theorem cal_l_any {f : Addr} {fd : FuncData} (F : Def K mg "_law_any" s_l_any f fd) (b : Binds K fd ["_law_box", "_law_deep"] []) (T : Tx mg) (c_l_choose : Cal P w K mg base 1 "_law_choose" spChoose []) (c_l_leaf : Cal P w K mg base 3 "_law_leaf" (spLeaf K) []) : Cal P w K mg base 12 "_law_any" (spAny K) [] := by
  refine ⟨f, fd, _, [], ⟨fun vs H Q E h => ?_, fun A outer s H args us vs Q E hr e0 hb r h => ?_⟩, F.mgf, F.kp, b, .nil⟩
  · obtain ⟨_, _, rfl, _⟩ := h; rfl
  · obtain ⟨bx, n, rfl, hn, hbx, k⟩ := h
    exact (any_fn F b T c_l_choose c_l_leaf n).run A outer s H args us _ Q E (hr.mono (by omega)) e0 hb r ⟨bx, rfl, hbx, k⟩
theorem sc_l_is_bits : FnScope ["_law_word_here", "_law_sign"] ["_law_word_here"] (fnScope s_l_is_bits) := fnScope_by (by decide +kernel)
theorem cal_l_is_bits {f : Addr} {fd : FuncData} (F : Def K mg "_law_is_bits" s_l_is_bits f fd) (b : Binds K fd ["_law_word_here"] []) (T : Tx mg) : Cal P w K mg base 1 "_law_is_bits" spIsRowZ [] := by
  refine cal0 F b .nil sc_l_is_bits (fun vs H Q E h => ?_) (fun cdv A outer s H vs Q E hr h => ?_)
  · obtain ⟨_, rfl, _⟩ := h; rfl
  · obtain ⟨z, rfl, hz, ho, k⟩ := h
    refine ⟨_, (pss_one (ps_ret (pe_and (pe_cmpR op_ne (pv 0) pe_str (nomark _)) (pe_one (pe_cmpR (op_eqD hr.units) (pe_lc (own := [("_law_sign", 1)]) (g := gName 1) (by rfl) sc_l_is_bits.nd (pi_str (pv 0)) (blkOk_by (own := [("_law_sign", 1)]) (N := ["_law_word_here", "_law_sign"]) (sc := fnScope s_l_is_bits) (by decide +kernel)) (fun _ _ _ _ _ => (pg_name (i := 1) sc_l_is_bits.nd rfl (.inl rfl))) (fun _ _ _ _ _ => (pts_one (pt_cmpR op_notIn_sign (pv 1) pe_str (by with_unfolding_all rfl)))) (fun _ _ _ _ _ => (pv 1))) (pe_lst pa_nil) (nomark _)))))), ?_⟩
    unfold rowB at k
    refine ⟨_, rfl, rfl, ?_⟩
    by_cases en : z = ""
    · refine ⟨_, rfl, iteBF (by rw [en]; rfl) ?_⟩
      have := k H (Same.refl _)
      rw [en] at this
      exact this
    · refine ⟨_, rfl, iteBT (by rw [decide_eq_false (fun y : V.str z = V.str "" => en (V.str.inj y))]; rfl) ?_⟩
      rw [decide_eq_true (show z ≠ "" from en), Bool.true_and] at k
      refine ⟨_, rfl, z, rfl, fun D nD => ?_⟩
      refine lc_it walk_str (fun i H2 => Same H H2 ∧ H2 D = some (.lst (sgV ((z.cps.toList.take i).filter fun c => !decide (c ∈ ("01" : Str).cps.toList))))) ⟨same_upd nD, upd_same⟩ (fun _ _ _ _ => trivial) ?_ ?_
      · rintro i y H2' H2 hi ⟨s2, hD⟩ ⟨rfl, c, hc, rfl⟩
        have hc' : z.cps.toList[i]? = some c := by rw [Array.getElem?_toList]; exact hc
        have lz : z.length = z.cps.toList.length := TL.len_tl z
        refine ⟨rfl, _, rfl, c, _, rfl, rfl, _, rfl, ?_⟩
        by_cases hm : c ∈ ("01" : Str).cps.toList
        · refine iteBF (by rw [decide_eq_true hm]; rfl) ?_
          refine ⟨s2, ?_⟩
          rw [hD, List.take_add_one, hc', List.filter_append, show ((some c).toList.filter fun c => !decide (c ∈ ("01" : Str).cps.toList)) = [] by show [c].filter _ = _; rw [List.filter_cons, if_neg (by rw [decide_eq_true hm]; decide)]; rfl, List.append_nil]
        · refine iteBT (by rw [decide_eq_false hm]; rfl) ?_
          refine ⟨_, rfl, _, hD, ?_, same_mut' s2 nD, ?_⟩
          · unfold sgV
            rw [List.length_map]
            refine sl_lt (Nat.lt_of_le_of_lt (List.length_filter_le _ _) ?_)
            rw [List.length_take]
            omega
          · rw [upd_same, List.take_add_one, hc', List.filter_append, show ((some c).toList.filter fun c => !decide (c ∈ ("01" : Str).cps.toList)) = [c] by show [c].filter _ = _; rw [List.filter_cons, if_pos (by rw [decide_eq_false hm]; rfl)]; rfl]
            unfold sgV
            rw [List.map_append]
            rfl
      rintro H2 ⟨s2, hD⟩
      have e : z.cps.toList.take z.cps.size = z.cps.toList := List.take_of_length_le (by simp)
      rw [e] at hD
      refine ⟨by show 0 ≤ sizeLine; decide, fun l nl => ?_⟩
      have sl := same_upd (o := .lst []) nl
      have sh := sg_shaped ho (oddL z) fun c hc => (List.mem_filter.mp hc).1
      refine ⟨.list ((oddL z).map fun c => PyData.str ⟨#[c]⟩), .list [], .lst (SqL.of (sl _ _ hD)) (dp_sg _), .lst (SqL.of upd_same) .nil, sh, by decide, ?_⟩
      have ee : PyData.eqv (.list ((oddL z).map fun c => PyData.str ⟨#[c]⟩)) (.list []) = wordB (.str z) := by
        show _ = isW z
        cases eo : oddL z with
        | nil => rw [oddL_nil.mp eo]; rfl
        | cons c r =>
          cases ew : isW z with
          | false => rfl
          | true =>
            rw [oddL_nil.mpr ew] at eo
            cases eo
      rw [ee]
      exact k _ (s2.trans sl)
theorem sc_l_is_form : FnScope ["_law_value", "_law_words", "_law_word_here", "_law_parts"] ["_law_value"] (fnScope s_l_is_form) := fnScope_by (by decide +kernel)
theorem cal_l_is_form {f : Addr} {fd : FuncData} (F : Def K mg "_law_is_form" s_l_is_form f fd) (b : Binds K fd ["_law_value"] []) (T : Tx mg) (c_l_is_bits : Cal P w K mg base 1 "_law_is_bits" spIsRowZ []) : Cal P w K mg base 2 "_law_is_form" (spForm K) [] := by
  refine cal0 F b .nil sc_l_is_form (fun vs H Q E h => ?_) (fun cdv A outer s H vs Q E hr h => ?_)
  · obtain ⟨_, rfl, _⟩ := h; rfl
  · obtain ⟨v, rfl, hv, kS, kN⟩ := h
    refine ⟨_, (pss_cons (ps_set (i := 1) sc_l_is_form.nd rfl (.inl rfl) (pe_ifExp (pt_val (pe_callB call_isi (by rfl) T.b_isinstance (by decide +kernel) (pa_cons (pv 0) (pa_cons (pe_bltn (v := .ty "str") (u := .type "str") (by rfl) T.b_str (by decide +kernel) rfl) pa_nil)))) (pe_split (pv 0) pe_str) (pe_lst pa_nil)))
    (pss_cons (ps_if (PW.pt (pw_or (pt_cmpR op_lt (pe_callB call_len_seq (by rfl) T.b_len (by decide +kernel) (pa_cons (pv 1) pa_nil)) pe_int (nomark _)) (pw_or (pt_cmpR op_ne (pe_ix ix_list (pv 1) pe_int (fun _ _ => rfl)) pe_str (nomark _)) (pw_or1 (pt_not (pt_val (pe_c c_l_is_bits hr (by decide) rfl (pa_cons (pe_ix ix_list (pv 1) pe_int (fun _ _ => rfl)) pa_nil)))))))) (pss_one (ps_ret pe_bl)) pss_nil)
    (pss_cons (ps_if (pt_cmpR op_eq (pe_callB call_len_seq (by rfl) T.b_len (by decide +kernel) (pa_cons (pv 1) pa_nil)) pe_int (nomark _)) (pss_one (ps_ret pe_bl)) pss_nil)
    (pss_cons (ps_if (PW.pt (pw_or (pt_cmpR op_ne (pe_ix ix_list (pv 1) pe_int (fun _ _ => rfl)) pe_str (nomark _)) (pw_or1 (pt_cmpR op_eq (pe_callB call_len_seq (by rfl) T.b_len (by decide +kernel) (pa_cons (pv 1) pa_nil)) pe_int (nomark _))))) (pss_one (ps_ret pe_bl)) pss_nil)
    (pss_cons (ps_for PassesOwn.never rfl (pi_list (pe_slice sl_list (pv 1) (po_some pe_int) po_none)) (pg_name (i := 2) sc_l_is_form.nd rfl (.inl rfl))
    (pss_cons (ps_set (i := 3) sc_l_is_form.nd rfl (.inl rfl) (pe_split (pv 2) pe_str))
    (pss_cons (ps_if (PW.pt (pw_or (pt_cmpR op_ne (pe_callB call_len_seq (by rfl) T.b_len (by decide +kernel) (pa_cons (pv 3) pa_nil)) pe_int (nomark _)) (pw_or (pt_not (pt_val (pe_c c_l_is_bits hr (by decide) rfl (pa_cons (pe_ix ix_list (pv 3) pe_int (fun _ _ => rfl)) pa_nil)))) (pw_or1 (pt_not (pt_val (pe_c c_l_is_bits hr (by decide) rfl (pa_cons (pe_ix ix_list (pv 3) pe_int (fun _ _ => rfl)) pa_nil)))))))) (pss_one (ps_ret pe_bl)) pss_nil)
    (pss_one (ps_if (pt_cmpR op_ne (pe_callB call_len_str (by rfl) T.b_len (by decide +kernel) (pa_cons (pe_ix ix_list (pv 3) pe_int (fun _ _ => rfl)) pa_nil)) pe_int (nomark _)) (pss_one (ps_ret pe_bl)) pss_nil)))))
    (pss_one (ps_ret pe_bl))))))), ?_⟩
    rcases hv with ⟨z, rfl, tz⟩ | ⟨nz, hv⟩
    rotate_left
    · rcases hv with ⟨z, e, _⟩ | ⟨_, t, h2, h3⟩
      · exact absurd e (nz z)
      refine ⟨_, rfl, _, _, _, _, false, rfl, .ty _, h3 H (Same.refl _), h2, _, rfl, ?_⟩
      refine ⟨Nat.zero_le _, fun q nq => ?_⟩
      refine ⟨_, rfl, q, _, rfl, .inl (SqL.of (xs := []) upd_same), _, _, rfl, rfl, _, rfl, iteDT (by decide) ?_⟩
      exact kN nz _ (same_upd nq)
    obtain ⟨kT, kI⟩ := kS z rfl
    have lz := tz.len
    refine ⟨_, rfl, _, _, _, _, true, rfl, .ty _, .base (.str _), kit_ty (by decide +kernel), _, rfl, ?_⟩
    refine ⟨_, rfl, ⟨_, rfl⟩, _, _, rfl, rfl, by decide +kernel, sl_len (by omega), fun q nq => ?_⟩
    have few : (Txt.split z " ").length ≤ 1000 := tz.rd.few
    have ln := tz.rd.ln
    have oks := fun x hx => piece_ok tz.ok (x := x) hx
    generalize Txt.split z " " = ws at few ln oks kT kI ⊢
    have hq0 : upd H q (.lst (ws.map V.str)) q = some (.lst (ws.map V.str)) := upd_same
    have s1 : Same H (upd H q (.lst (ws.map V.str))) := same_upd nq
    generalize upd H q (.lst (ws.map V.str)) = H1 at hq0 s1
    have hq : SqL K H1 q (ws.map V.str) := SqL.of hq0
    rcases ws with _ | ⟨w0, _ | ⟨w1, r⟩⟩
    · refine ⟨_, rfl, q, _, rfl, .inl hq, _, _, rfl, rfl, _, rfl, iteDT (by decide) ?_⟩
      exact kT rfl H1 s1
    · refine ⟨_, rfl, q, _, rfl, .inl hq, _, _, rfl, rfl, _, rfl, iteDT (by show (1 : Int) < 2; decide) ?_⟩
      exact kT rfl H1 s1
    have a0 : atI ((w0 :: w1 :: r).map V.str) 0 = some (.str w0) := atI_nat (j := 0) rfl
    have a1 : atI ((w0 :: w1 :: r).map V.str) 1 = some (.str w1) := atI_nat (j := 1) rfl
    have lr : ((w0 :: w1 :: r).map V.str).length = r.length + 2 := by rw [List.length_map, List.length_cons, List.length_cons]
    refine ⟨_, rfl, q, _, rfl, .inl hq, _, _, rfl, rfl, _, rfl, iteDF (by rw [lr]; omega) ?_⟩
    refine ⟨_, rfl, q, _, _, _, rfl, rfl, hq, a0, rfl, _, rfl, ?_⟩
    have bad : ¬ (w0 = "flag" ∧ isW w1 = true ∧ w1 ≠ "") → ruRd (w0 :: w1 :: r) = .text := fun h => if_neg h
    by_cases c0 : w0 = "flag"
    rotate_left
    · refine iteBT (by rw [decide_eq_false (fun q => c0 (V.str.inj q))]; rfl) ?_
      exact kT (bad fun q => c0 q.1) H1 s1
    refine iteBF (by rw [decide_eq_true (by rw [c0])]; rfl) ?_
    refine ⟨_, rfl, q, _, _, _, rfl, rfl, hq, a1, w1, rfl, Nat.le_trans (ln w1 (List.mem_cons_of_mem _ List.mem_cons_self)).1 (by decide), oks w1 (List.mem_cons_of_mem _ List.mem_cons_self), fun H2 s2 => ⟨_, rfl, ?_⟩⟩
    have s12 := s1.trans s2
    have row1 : rowB w1 = true ↔ isW w1 = true ∧ w1 ≠ "" := by
      unfold rowB
      rw [Bool.and_eq_true, decide_eq_true_iff]
      exact ⟨fun h => ⟨h.2, h.1⟩, fun h => ⟨h.2, h.1⟩⟩
    cases c1 : rowB w1 with
    | false =>
      refine iteBT rfl ?_
      exact kT (bad fun q => by rw [row1.mpr q.2] at c1; cases c1) H2 s12
    | true =>
    refine iteBF rfl ?_
    have hq20 := s2 _ _ hq0
    have hq2 : SqL K H2 q ((w0 :: w1 :: r).map V.str) := SqL.of hq20
    have good : ruRd (w0 :: w1 :: r) = ruR2 w1 r := if_pos ⟨c0, row1.mp c1⟩
    have len2 : ∀ {n : Nat}, decide (V.int ((((w0 :: w1 :: r).map V.str).length : Nat) : Int) = V.int (n : Nat)) = decide (r.length + 2 = n) := fun {n} => by
      rw [lr]
      exact decide_eq_decide.mpr ⟨fun z => by have := V.int.inj z; omega, fun z => by rw [z]⟩
    refine ⟨_, rfl, q, _, rfl, .inl hq2, rfl, _, rfl, ?_⟩
    rcases r with _ | ⟨w2, r2⟩
    · refine iteBT rfl ?_
      exact kI _ _ good H2 s12
    refine iteBF ((len2 (n := 2)).trans (decide_eq_false (by rw [List.length_cons]; omega))) ?_
    have a2 : atI ((w0 :: w1 :: w2 :: r2).map V.str) 2 = some (.str w2) := atI_nat (j := 2) rfl
    refine ⟨_, rfl, q, _, _, _, rfl, rfl, hq2, a2, rfl, _, rfl, ?_⟩
    have good : ruRd (w0 :: w1 :: w2 :: r2) = if w2 = "put" ∧ r2 ≠ [] then (if (r2.map stuffZ).any Option.isNone = true then .text else .init (unW w1) ((r2.map stuffZ).filterMap id)) else .text := good
    by_cases c2 : w2 = "put"
    rotate_left
    · refine iteBT (by rw [decide_eq_false (fun q => c2 (V.str.inj q))]; rfl) ?_
      exact kT (good.trans (if_neg fun q => c2 q.1)) H2 s12
    refine iteBF (by rw [decide_eq_true (by rw [c2])]; rfl) ?_
    refine ⟨_, rfl, q, _, rfl, .inl hq2, rfl, _, rfl, ?_⟩
    by_cases c3 : r2 = []
    · subst c3
      refine iteBT rfl ?_
      exact kT (good.trans (if_neg fun q => q.2 rfl)) H2 s12
    refine iteBF ((len2 (n := 3)).trans (decide_eq_false (by rw [List.length_cons]; have := List.length_pos_iff.mpr c3; omega))) ?_
    have good := good.trans (if_pos ⟨c2, c3⟩)
    refine ⟨_, rfl, _, rfl, q, _, rfl, hq2, fun p np => ?_⟩
    have e3 : cutV ((w0 :: w1 :: w2 :: r2).map V.str) (some 3) none = r2.map V.str := by
      show cutV ((w0 :: w1 :: w2 :: r2).map V.str) (some ((3 : Nat) : Int)) none = _
      unfold cutV
      rw [HT.sIx_none, HT.sIx_nat]
      rw [List.take_of_length_le (by rw [List.length_drop]; exact Nat.le_refl _)]
      rw [Nat.min_eq_left (by rw [lr, List.length_cons]; omega)]
      rfl
    rw [e3]
    have hp : upd H2 p (.lst (r2.map V.str)) p = some (.lst (r2.map V.str)) := upd_same
    have s3 := same_upd (o := .lst (r2.map V.str)) np
    generalize upd H2 p (.lst (r2.map V.str)) = H3 at hp s3 ⊢
    have sub : ∀ x ∈ r2, x ∈ w0 :: w1 :: w2 :: r2 := fun x hx => List.mem_cons_of_mem _ (List.mem_cons_of_mem _ (List.mem_cons_of_mem _ hx))
    refine ⟨p, rfl, ⟨_, SqL.of hp⟩, ?_⟩
    refine for_it (walk_list (xs := r2.map V.str)) (fun j σ Hx => ∃ v2 v3 : Option V, σ = [some (.str z), some (.ref q), v2, v3] ∧ Same H3 Hx ∧ ((r2.take j).map stuffZ).any Option.isNone = false) ⟨_, _, rfl, Same.refl _, rfl⟩ (fun j σ Hx _ h => by obtain ⟨v2, v3, _, h, _⟩ := h; exact SqL.of (h _ _ hp)) ?_ ?_
    rotate_left
    · rintro σ Hx ⟨v2, v3, rfl, sx, hN⟩
      rw [List.length_map, List.take_of_length_le (Nat.le_refl _)] at hN
      exact kI _ _ (good.trans (if_neg (by rw [hN]; decide))) Hx ((s12.trans s3).trans sx)
    · rintro j v σ Hx' Hx hj ⟨v2, v3, rfl, sx, hN⟩ ⟨rfl, hv⟩
      rw [List.getElem?_map] at hv
      obtain ⟨y, hy, rfl⟩ := Option.map_eq_some_iff.mp hv
      have hm := List.mem_of_getElem? hy
      have ly := (ln y (sub y hm)).1
      have oy := oks y (sub y hm)
      have s0x := (s12.trans s3).trans sx
      have nope : stuffZ y = none → ruRd (w0 :: w1 :: w2 :: r2) = .text := fun e => good.trans (if_pos (List.any_eq_true.mpr ⟨none, List.mem_map.mpr ⟨y, hm, e⟩, rfl⟩))
      refine ⟨_, rfl, ⟨_, rfl⟩, _, _, rfl, rfl, by decide +kernel, sl_len (by omega), fun u nu => ?_⟩
      have hu : upd Hx u (.lst ((Txt.split y ":").map V.str)) u = some (.lst ((Txt.split y ":").map V.str)) := upd_same
      have su := same_upd (o := .lst ((Txt.split y ":").map V.str)) nu
      generalize upd Hx u (.lst ((Txt.split y ":").map V.str)) = Hy at hu su ⊢
      have okp := fun x hx => pieceC_ok oy (x := x) hx
      have lnp := fun x hx => pieceC_len (z := y) (x := x) hx
      have yes := fun x (e : stuffZ y = some x) => co_some e
      have no := fun a b e (eN : stuffZ y = none) ha hb => co_none (a := a) (b := b) eN e ha hb
      generalize Txt.split y ":" = qs at hu okp lnp yes no
      refine ⟨_, rfl, u, _, rfl, .inl (SqL.of hu), rfl, _, rfl, ?_⟩
      by_cases l2 : qs.length = 2
      rotate_left
      · refine iteBT (by rw [List.length_map, decide_eq_false (fun e => l2 (by have := V.int.inj e; omega))]; rfl) ?_
        cases eS : stuffZ y with
        | none => exact kT (nope eS) _ (s0x.trans su)
        | some x => exact absurd (by rw [yes x eS]; rfl) l2
      refine iteBF (by rw [List.length_map, decide_eq_true (by rw [l2]; rfl)]; rfl) ?_
      obtain ⟨a, d, rfl⟩ : ∃ a d, qs = [a, d] := by
        match qs, l2 with
        | [a, d], _ => exact ⟨a, d, rfl⟩
      have la := lnp a List.mem_cons_self
      have ld := lnp d (List.mem_cons_of_mem _ List.mem_cons_self)
      have both : ∀ x, stuffZ y = some x → rowB a = true ∧ rowB d = true ∧ d.length = 1 := fun x e => by
        have e1 := yes x e
        obtain ⟨_, h1, h2⟩ := stuffZ_some e
        injection e1 with e1 e2
        injection e2 with e2 _
        rw [e1, e2, row_W, row_W, W_len]
        exact ⟨decide_eq_true h1, decide_eq_true (fun y => by rw [y] at h2; cases h2), h2⟩
      refine ⟨_, rfl, u, _, _, _, rfl, rfl, SqL.of hu, atI_nat (j := 0) rfl, a, rfl, by omega, okp a List.mem_cons_self, fun Hz sz => ⟨_, rfl, ?_⟩⟩
      cases ca : rowB a with
      | false =>
        refine iteBT rfl ?_
        cases eS : stuffZ y with
        | none => exact kT (nope eS) _ ((s0x.trans su).trans sz)
        | some x => rw [(both x eS).1] at ca; cases ca
      | true =>
      refine iteBF rfl ?_
      have hu1 := sz _ _ hu
      refine ⟨_, rfl, u, _, _, _, rfl, rfl, SqL.of hu1, atI_nat (j := 1) rfl, d, rfl, by omega, okp d (List.mem_cons_of_mem _ List.mem_cons_self), fun Hw sw => ⟨_, rfl, ?_⟩⟩
      have sAll := (su.trans sz).trans sw
      cases cd : rowB d with
      | false =>
        refine iteBT rfl ?_
        cases eS : stuffZ y with
        | none => exact kT (nope eS) _ (s0x.trans sAll)
        | some x => rw [(both x eS).2.1] at cd; cases cd
      | true =>
      refine iteBF rfl ?_
      refine ⟨_, rfl, u, _, _, _, rfl, rfl, SqL.of (sw _ _ hu1), atI_nat (j := 1) rfl, _, rfl, sl_len (by omega), rfl, _, rfl, ?_⟩
      by_cases l1 : d.length = 1
      rotate_left
      · refine iteBT (by rw [decide_eq_false (fun e => l1 (by have := V.int.inj e; omega))]; rfl) ?_
        cases eS : stuffZ y with
        | none => exact kT (nope eS) _ (s0x.trans sAll)
        | some x => exact absurd (both x eS).2.2 l1
      refine iteBF (by rw [decide_eq_true (by rw [l1]; rfl)]; rfl) ?_
      refine ⟨_, _, rfl, sx.trans sAll, ?_⟩
      rw [List.take_add_one, hy, List.map_append, List.any_append, hN, Bool.false_or]
      show (Option.isNone (stuffZ y) || false) = false
      cases eS : stuffZ y with
      | none => exact absurd l1 (no a d rfl eS ca cd)
      | some x => rfl
end
end U
set_option maxRecDepth 100000
set_option maxHeartbeats 4000000
namespace U
open PySem PySem.Spec PyProof.Rows
open L2 hiding Fun CX0 E0 pass0 Fun.binds
open C8 Lx SX StX
theorem cut_takeV {k : Nat} {xs : List V} (h : k ≤ xs.length) : cutV xs none (some (k : Int)) = xs.take k := by
  unfold cutV
  rw [HT.sIx_none, HT.sIx_nat, Nat.min_eq_left h]
  simp
theorem cut_dropV {k : Nat} {xs : List V} (h : k ≤ xs.length) : cutV xs (some (k : Int)) none = xs.drop k := by
  unfold cutV
  rw [HT.sIx_none, HT.sIx_nat, Nat.min_eq_left h]
  exact List.take_of_length_le (by rw [List.length_drop]; exact Nat.le_refl _)
theorem slc_two {z : Str} {k m : Nat} (hk : k ≤ z.length) (hm : k ≤ m) : (Txt.slice z none (some (k : Int))).length + (Txt.slice z (some (m : Int)) none).length ≤ z.length := by
  rw [← cutS_slice, ← cutS_slice, TL.len_tl (cutS z none (some (k : Int))), TL.len_tl (cutS z (some (m : Int)) none)]
  have hz : z.cps.toList.length = z.length := (TL.len_tl z).symm
  show ((z.cps.toList.drop (HT.sIx z.length 0 none)).take (HT.sIx z.length z.length (some (k : Int)) - HT.sIx z.length 0 none)).length + ((z.cps.toList.drop (HT.sIx z.length 0 (some (m : Int)))).take (HT.sIx z.length z.length none - HT.sIx z.length 0 (some (m : Int)))).length ≤ z.length
  rw [HT.sIx_none, HT.sIx_none, HT.sIx_nat, HT.sIx_nat, List.length_take, List.length_drop, List.length_take, List.length_drop]
  omega
theorem sum_fit {ws : List Str} (h : sumL ws ≤ 1000) : (ws.map (·.length)).sum + ws.length * (" " : Str).length ≤ 16777216 := by
  have e : (ws.map (·.length)).sum + ws.length = sumL ws := by
    unfold sumL
    induction ws with
    | nil => rfl
    | cons y r ih =>
      have h2 : sumL r ≤ 1000 := by rw [sumL_cons] at h; omega
      have := ih h2
      rw [List.map_cons, List.map_cons, List.sum_cons, List.sum_cons, List.length_cons]
      omega
  rw [show (" " : Str).length = 1 by decide +kernel]
  omega
section
variable {P : Program} {w : World} {K : PySem.W.Frag} {mg : Str → Option Value} {base : Heap}
theorem sc_l_heard : FnScope ["_law_value", "_law_found", "e"] ["_law_value"] (fnScope s_l_heard) := fnScope_by (by decide +kernel)
theorem cal_l_heard {f C CTI CRI CFE CGR : Addr} {fd : FuncData} (F : Def K mg "_law_heard" s_l_heard f fd) (b : Binds K fd ["_law_value"] []) (T : Tx mg) (g_InvalidText : mg "InvalidText" = some (.ref CTI)) (g_InvalidRule : mg "InvalidRule" = some (.ref CRI)) (ex_InvalidText : PySem.W.exmOne K (.ref CTI) (.ref CTI) = some true) (ex_InvalidRule : PySem.W.exmOne K (.ref CRI) (.ref CRI) = some true) (exn_rule_text : PySem.W.exmOne K (.ref CRI) (.ref CTI) = some false)
    (XF_InvalidText : XfC K CTI) (nw_InvalidText : PySem.W.findIn K (.ref CTI) "at" = some none) (XF_InvalidRule : XfC K CRI) (nw_InvalidRule : PySem.W.findIn K (.ref CRI) "word" = some none)
    (gi_FlipError : mg "FlipError" = some (.ref CFE)) (gi_InvalidRule : mg "InvalidRule" = some (.ref CGR)) (xc_InvalidText : L2.ExcC K CTI) (kon_text_flip : PySem.W.kitOne K (.ref CTI) (.ref CFE) = some true) (kon_text_rule : PySem.W.kitOne K (.ref CTI) (.ref CGR) = some false)
    (cmT_Rule_read : ExS.CMtT P w K mg base 7 "Rule" C "read" (spRuReadX K C CTI CRI)) (c_Rule_str : Met P w K mg base 1 C "__str__" (spRuStr C) []) : Cal P w K mg base 8 "_law_heard" (spHd04 K) [] := by
  refine cal0 F b .nil sc_l_heard (fun vs H Q E h => ?_) (fun cdv A outer s H vs Q E hr h => ?_)
  · obtain ⟨_, rfl, _⟩ := h; rfl
  · obtain ⟨v, rfl, hv, k⟩ := h
    refine ⟨_, (pss_cons (ps_set (i := 1) sc_l_heard.nd rfl (.inl rfl) pe_str)
    (pss_cons (TryA.ps_try_manyA rfl rfl ExS.takes0 (fun W pn xe tk po => (pss_one (ps_set (i := 1) sc_l_heard.nd rfl (.inl rfl) (pe_callTy (call_str_own c_Rule_str hr (by decide)) (by rfl) T.b_str (by decide +kernel) (pa_cons (ExS.pe_cmT (pl := _) cmT_Rule_read hr (by decide) tk rfl (pa_cons (pv 0) pa_nil)) pa_nil))))) (.cons (i := 2) sc_l_heard.nd rfl rfl ⟨rfl, by decide, .inl g_InvalidText⟩ (fun a oe cls d pn zc zf => (pss_one (ps_set (i := 1) sc_l_heard.nd rfl (.inl rfl) (pe_ifExp (PW.pt (pw_and (pt_val (pe_callB (show CallR _ _ (ExS.rIsD K a cls d) from ExS.call_isD zc zf) (by rfl) T.b_isinstance (by decide +kernel) (pa_cons (pv 2) (pa_cons (pe_glob (v := .ref _) (by rfl) gi_FlipError rfl) pa_nil)))) (pw_and1 (pt_not (pt_val (pe_callB (show CallR _ _ (ExS.rIsD K a cls d) from ExS.call_isD zc zf) (by rfl) T.b_isinstance (by decide +kernel) (pa_cons (pv 2) (pa_cons (pe_glob (v := .ref _) (by rfl) gi_InvalidRule rfl) pa_nil)))))))) (pe_xf XF_InvalidText nw_InvalidText zc zf (pv 2)) pe_str)))) (.cons (i := 2) sc_l_heard.nd rfl rfl ⟨rfl, by decide, .inl g_InvalidRule⟩ (fun a oe cls d pn zc zf => (pss_one (ps_set (i := 1) sc_l_heard.nd rfl (.inl rfl) (pe_op op_add_str pe_str (pe_xf XF_InvalidRule nw_InvalidRule zc zf (pv 2)))))) .nil)))
    (pss_one (ps_ret (pv 1))))), ?_⟩
    rcases hv with ⟨z, rfl, tz⟩ | ⟨nz, hv⟩
    · refine ⟨_, rfl, .str z, rfl, .inl ⟨z, rfl, tz.rd, fun hT d H' s' hd => ?_, fun fl xs e => ?_⟩⟩
      · refine ⟨true, ex_InvalidText, fun _ ea hea => ?_, fun z => by cases z⟩
        refine ⟨_, rfl, CTI, d, _, _, _, true, rfl, rfl, rfl, hd, xc_InvalidText, .own _, kon_text_flip, _, rfl, iteT ?_⟩
        refine ⟨_, rfl, CTI, d, _, _, _, false, rfl, rfl, rfl, hd, xc_InvalidText, .own _, kon_text_rule, _, rfl, iteT ?_⟩
        refine ⟨_, rfl, rfl, rfl, d, _, _, rfl, hd, rfl, ?_⟩
        exact ⟨_, rfl, k _ H' s' (.text z rfl hT)⟩
      · obtain ⟨b1, b2, b3⟩ := tz.bnd e
        refine ⟨b1, b2, b3, fun hb d H' s' hd => ?_, fun h ha ho m ss H' s' nm pm srt hR => ?_⟩
        · refine ⟨false, exn_rule_text, (fun z => by cases z), fun _ => ⟨true, ex_InvalidRule, fun _ ea hea => ?_, fun z => by cases z⟩⟩
          refine ⟨_, rfl, rfl, rfl, d, _, _, rfl, hd, rfl, _, _, rfl, rfl, by unfold badU; split <;> (try split) <;> decide +kernel, ?_⟩
          exact ⟨_, rfl, k _ H' s' (.bad z fl xs rfl e hb)⟩
        · obtain ⟨dm, tm, hm⟩ := hR.few
          have sm : RuSm fl ss := ((are_ok ha b2 fun x hx => (b3 x hx).1).perm pm.symm).sm b1
          refine ⟨m, dm, _, rfl, hm, m, fl, ss, rfl, hR, sm, fun H2 s2 => ?_⟩
          exact ⟨_, rfl, _, rfl, k _ H2 (s'.trans s2) (.good z fl xs ss rfl e h pm)⟩
    · refine ⟨_, rfl, v, rfl, .inr ⟨nz, hv, fun d H' s' hd => ?_⟩⟩
      refine ⟨true, ex_InvalidText, fun _ ea hea => ?_, fun z => by cases z⟩
      refine ⟨_, rfl, CTI, d, _, _, _, true, rfl, rfl, rfl, hd, xc_InvalidText, .own _, kon_text_flip, _, rfl, iteT ?_⟩
      refine ⟨_, rfl, CTI, d, _, _, _, false, rfl, rfl, rfl, hd, xc_InvalidText, .own _, kon_text_rule, _, rfl, iteT ?_⟩
      refine ⟨_, rfl, rfl, rfl, d, _, _, rfl, hd, rfl, ?_⟩
      exact ⟨_, rfl, k _ H' s' (.no nz)⟩
theorem sc_l_bent : FnScope ["_law_box", "_law_words", "_law_at", "_law_form", "_law_odd", "_law_parts", "_law_spot"] ["_law_box", "_law_words"] (fnScope s_l_bent) := fnScope_by (by decide +kernel)
theorem cal_l_bent {f : Addr} {fd : FuncData} (F : Def K mg "_law_bent" s_l_bent f fd) (b : Binds K fd ["_law_box", "_law_words"] []) (T : Tx mg) (c_l_choose : Cal P w K mg base 1 "_law_choose" spChoose []) (c_l_one_of : Cal P w K mg base 2 "_law_one_of" spOneOf []) : Cal P w K mg base 3 "_law_bent" spBent [] := by
  refine cal0 F b .nil sc_l_bent (fun vs H Q E h => ?_) (fun cdv A outer s H vs Q E hr h => ?_)
  · obtain ⟨_, _, rfl, _⟩ := h; rfl
  · obtain ⟨bx, z, rfl, hb, hz, ho, k⟩ := h
    refine ⟨_, (pss_cons (ps_par (i := 2) (j := 3) (by rfl) sc_l_bent.nd rfl rfl (by decide) rfl rfl (pa_cons (pe_c c_l_choose hr (by decide) rfl (pa_cons (pv 0) (pa_cons (pe_op op_add (pe_callB call_len_str (by rfl) T.b_len (by decide +kernel) (pa_cons (pv 1) pa_nil)) pe_int) pa_nil))) (pa_cons (pe_c c_l_choose hr (by decide) rfl (pa_cons (pv 0) (pa_cons pe_int pa_nil))) pa_nil)) (by rfl))
    (pss_cons (ps_set (i := 4) sc_l_bent.nd rfl (.inl rfl) (pe_lst (pa_cons pe_str (pa_cons pe_str (pa_cons pe_str (pa_cons pe_str (pa_cons pe_str (pa_cons pe_str (pa_cons pe_str (pa_cons pe_str (pa_cons pe_str (pa_cons pe_str (pa_cons pe_str (pa_cons pe_str pa_nil))))))))))))))
    (pss_cons (ps_if (pt_cmpR op_lt (pv 3) pe_int (nomark _)) (pss_one (ps_ret (pe_op op_add_str (pe_op op_add_str (pe_slice sl_txt (pv 1) po_none (po_some (pv 2))) (pe_c c_l_one_of hr (by decide) rfl (pa_cons (pv 0) (pa_cons (pv 4) pa_nil)))) (pe_slice sl_txt (pv 1) (po_some (pe_op op_add (pv 2) (pv 3))) po_none)))) pss_nil)
    (pss_cons (ps_set (i := 5) sc_l_bent.nd rfl (.inl rfl) (pe_split (pv 1) pe_str))
    (pss_cons (ps_set (i := 6) sc_l_bent.nd rfl (.inl rfl) (pe_c c_l_choose hr (by decide) rfl (pa_cons (pv 0) (pa_cons (pe_callB call_len_seq (by rfl) T.b_len (by decide +kernel) (pa_cons (pv 5) pa_nil)) pa_nil))))
    (pss_cons (ps_if (pt_cmpR op_eq (pv 3) pe_int (nomark _)) (pss_one (ps_ret (pe_join pe_str (pe_op op_cat (pe_slice sl_list (pv 5) po_none (po_some (pv 6))) (pe_slice sl_list (pv 5) (po_some (pe_op op_add (pv 6) pe_int)) po_none))))) pss_nil)
    (pss_one (ps_ret (pe_join pe_str (pe_op op_cat (pe_op op_cat (pe_slice sl_list (pv 5) po_none (po_some (pv 6))) (pe_lst (pa_cons (pe_c c_l_one_of hr (by decide) rfl (pa_cons (pv 0) (pa_cons (pv 4) pa_nil))) pa_nil))) (pe_slice sl_list (pv 5) (po_some (pv 6)) po_none))))))))))), ?_⟩
    have lz : z.length ≤ sizeLine := sl_len (by omega)
    refine ⟨_, rfl, _, rfl, _, rfl, lz, _, _, rfl, rfl, bx, _, rfl, hb, by omega, by omega, fun d H1 d0 d1 u1 => ?_⟩
    refine ⟨_, rfl, bx, 4, rfl, u1.2, by decide, by decide, fun e H2 e0 e1 u2 => ⟨_, _, rfl, ?_⟩⟩
    refine ⟨by show 12 ≤ sizeLine; decide, fun l nl => ?_⟩
    have sl := same_upd (o := .lst odds) nl
    have hl : upd H2 l (.lst odds) l = some (.lst odds) := upd_same
    have u3 := (u1.trans u2).same sl
    have lb := u2.2.ne nl
    have c1 := fun lo hi => slc_len z lo hi
    have o1 := fun lo hi => slc_ok ho lo hi
    refine ⟨_, rfl, _, _, rfl, rfl, _, rfl, ?_⟩
    by_cases c : e < 2
    · refine iteDT c ?_
      refine ⟨_, rfl, _, rfl, _, rfl, _, rfl, lz, ?_⟩
      refine ⟨_, rfl, _, rfl, bx, l, odds, rfl, u3.2, hl, lb, by show 0 < 12; decide, by show 12 < 1000; decide, fun v H4 hv u4 => ?_⟩
      obtain ⟨y, rfl, hy, oy⟩ := odds_ok hv
      have h1 := c1 none (some d)
      refine ⟨_, _, rfl, rfl, sl_len (by omega), ?_⟩
      have h2 := c1 (some (d + e)) none
      refine ⟨_, rfl, _, rfl, _, rfl, _, _, rfl, rfl, _, rfl, _, rfl, lz, _, _, rfl, rfl, by rw [len_cat]; exact sl_len (by omega), ?_⟩
      obtain ⟨dk, rfl⟩ := Int.eq_ofNat_of_zero_le d0
      obtain ⟨ek, rfl⟩ := Int.eq_ofNat_of_zero_le e0
      have h3 := slc_two (z := z) (k := dk) (m := dk + ek) (by omega) (by omega)
      rw [Int.natCast_add] at h3
      exact k _ H4 (u3.trans u4) ⟨by rw [len_cat, len_cat]; omega, sOk_catC (sOk_catC (o1 _ _) oy) (o1 _ _)⟩
    · refine iteDF c ?_
      refine ⟨_, rfl, ⟨_, rfl⟩, _, _, rfl, rfl, by decide +kernel, sl_len (by omega), fun q nq => ?_⟩
      have hsum := cut_len z
      have oks := fun x hx => piece_ok ho (x := x) hx
      have wne := (cut_sp z).1
      generalize Txt.split z " " = ws at hsum oks wne ⊢
      have sq : Same (upd H2 l (.lst odds)) (upd (upd H2 l (.lst odds)) q (.lst (ws.map V.str))) := same_upd nq
      have hq : upd (upd H2 l (.lst odds)) q (.lst (ws.map V.str)) q = some (.lst (ws.map V.str)) := upd_same
      have hl5 : upd (upd H2 l (.lst odds)) q (.lst (ws.map V.str)) l = some (.lst odds) := sq _ _ hl
      have u5 := u3.same sq
      have qb : q ≠ bx := u3.2.ne nq
      have few := sumL_few ws
      have lpos := List.length_pos_iff.mpr wne
      refine ⟨_, rfl, _, rfl, q, _, rfl, .inl (SqL.of upd_same), bx, _, rfl, u5.2, by rw [List.length_map]; omega, by rw [List.length_map]; omega, fun g H6 g0 g1 u6 => ?_⟩
      rw [List.length_map] at g1
      have hq6 := u6.1 _ _ hq qb
      have hl6 := u6.1 _ _ hl5 lb
      have u06 := u5.trans u6
      clear hq hl5 u5 u6 sq hl u3 sl nq nl
      obtain ⟨n, rfl⟩ := Int.eq_ofNat_of_zero_le g0
      have hn : n < ws.length := by omega
      refine ⟨_, rfl, rfl, _, rfl, ?_⟩
      by_cases c2 : e = 2
      · refine iteDT (by rw [c2]) ?_
        refine ⟨⟨_, rfl⟩, _, rfl, _, rfl, _, rfl, q, _, rfl, SqL.of hq6, fun p np => ?_⟩
        have eT : cutV (ws.map V.str) none (some (n : Int)) = (ws.take n).map V.str := by rw [cut_takeV (by rw [List.length_map]; omega), List.map_take]
        rw [eT]
        have sp := same_upd (o := .lst ((ws.take n).map V.str)) np
        have hp : upd H6 p (.lst ((ws.take n).map V.str)) p = some (.lst ((ws.take n).map V.str)) := upd_same
        have hq7 := sp _ _ hq6
        have u7 := u06.same sp
        generalize upd H6 p (.lst ((ws.take n).map V.str)) = H7 at hp hq7 u7 ⊢
        refine ⟨_, rfl, _, rfl, _, _, rfl, rfl, _, rfl, q, _, rfl, SqL.of hq7, fun p2 np2 => ?_⟩
        have eD : cutV (ws.map V.str) (some ((n : Int) + 1)) none = (ws.drop (n + 1)).map V.str := by
          rw [show (n : Int) + 1 = ((n + 1 : Nat) : Int) by omega, cut_dropV (by rw [List.length_map]; omega), List.map_drop]
        rw [eD]
        have sp2 := same_upd (o := .lst ((ws.drop (n + 1)).map V.str)) np2
        have hp2 : upd H7 p2 (.lst ((ws.drop (n + 1)).map V.str)) p2 = some (.lst ((ws.drop (n + 1)).map V.str)) := upd_same
        have hp7 := sp2 _ _ hp
        have u8 := u7.same sp2
        generalize upd H7 p2 (.lst ((ws.drop (n + 1)).map V.str)) = H8 at hp7 hp2 u8 ⊢
        have l1 : (ws.take n).length ≤ 100 := by rw [List.length_take]; omega
        have l2 : (ws.drop (n + 1)).length ≤ 100 := by rw [List.length_drop]; omega
        refine ⟨p, p2, _, _, rfl, rfl, hp7, hp2, by rw [List.length_map, List.length_map]; exact sl_len (by omega), fun p3 np3 => ?_⟩
        rw [← List.map_append]
        have esum : sumL (ws.take n ++ ws.drop (n + 1)) ≤ 20 := by
          have e1 : ws = ws.take n ++ ws[n] :: ws.drop (n + 1) := by rw [← List.drop_eq_getElem_cons hn, List.take_append_drop]
          have e2 : sumL ws = sumL (ws.take n) + (ws[n].length + 1 + sumL (ws.drop (n + 1))) := by
            conv => lhs; rw [e1]
            rw [sumL_app, sumL_cons]
          rw [sumL_app]
          omega
        have okz : ∀ x ∈ ws.take n ++ ws.drop (n + 1), PyData.strOk x = true := fun x hx => oks x ((List.mem_append.mp hx).elim List.mem_of_mem_take List.mem_of_mem_drop)
        generalize ws.take n ++ ws.drop (n + 1) = os at esum okz ⊢
        refine ⟨_, p3, os, rfl, rfl, .inl (SqL.of upd_same), sum_fit (by omega), ?_⟩
        refine k _ _ (u8.same (same_upd np3)) ⟨?_, join_ok okz⟩
        by_cases on : os = []
        · rw [on]; decide +kernel
        · have := join_len on; omega
      · refine iteDF (fun y => c2 (V.int.inj y)) ?_
        refine ⟨⟨_, rfl⟩, _, rfl, _, rfl, _, rfl, q, _, rfl, SqL.of hq6, fun p np => ?_⟩
        have eT : cutV (ws.map V.str) none (some (n : Int)) = (ws.take n).map V.str := by rw [cut_takeV (by rw [List.length_map]; omega), List.map_take]
        rw [eT]
        have sp := same_upd (o := .lst ((ws.take n).map V.str)) np
        have hp : upd H6 p (.lst ((ws.take n).map V.str)) p = some (.lst ((ws.take n).map V.str)) := upd_same
        have hq7 := sp _ _ hq6
        have hl7 := sp _ _ hl6
        have u7 := u06.same sp
        have pb : p ≠ bx := u06.2.ne np
        generalize upd H6 p (.lst ((ws.take n).map V.str)) = H7 at hp hq7 hl7 u7 ⊢
        refine ⟨_, rfl, _, rfl, bx, l, odds, rfl, u7.2, hl7, lb, by show 0 < 12; decide, by show 12 < 1000; decide, fun v H8 hv u8 => ?_⟩
        obtain ⟨y, rfl, hy, oy⟩ := odds_ok hv
        have hp8 := u8.1 _ _ hp pb
        have hq8 := u8.1 _ _ hq7 qb
        have u08 := u7.trans u8
        refine ⟨by show 1 ≤ sizeLine; decide, fun p1 np1 => ?_⟩
        have s1 := same_upd (o := .lst [.str y]) np1
        have hp1 : upd H8 p1 (.lst [.str y]) p1 = some (.lst [.str y]) := upd_same
        have hp9 := s1 _ _ hp8
        have hq9 := s1 _ _ hq8
        have u9 := u08.same s1
        generalize upd H8 p1 (.lst [.str y]) = H9 at hp1 hp9 hq9 u9 ⊢
        have l1 : (ws.take n).length ≤ 100 := by rw [List.length_take]; omega
        have l2 : (ws.drop n).length ≤ 100 := by rw [List.length_drop]; omega
        refine ⟨p, p1, _, _, rfl, rfl, hp9, hp1, by rw [List.length_map]; exact sl_len (by show _ + 1 ≤ 100000; omega), fun p2 np2 => ?_⟩
        rw [show (ws.take n).map V.str ++ [V.str y] = (ws.take n ++ [y]).map V.str by rw [List.map_append]; rfl]
        have s2 := same_upd (o := .lst ((ws.take n ++ [y]).map V.str)) np2
        have hp2 : upd H9 p2 (.lst ((ws.take n ++ [y]).map V.str)) p2 = some (.lst ((ws.take n ++ [y]).map V.str)) := upd_same
        have hqA := s2 _ _ hq9
        have uA := u9.same s2
        generalize upd H9 p2 (.lst ((ws.take n ++ [y]).map V.str)) = HA at hp2 hqA uA ⊢
        refine ⟨_, rfl, _, rfl, _, rfl, q, _, rfl, SqL.of hqA, fun p3 np3 => ?_⟩
        have eD : cutV (ws.map V.str) (some (n : Int)) none = (ws.drop n).map V.str := by rw [cut_dropV (by rw [List.length_map]; omega), List.map_drop]
        rw [eD]
        have s3 := same_upd (o := .lst ((ws.drop n).map V.str)) np3
        have hp3 : upd HA p3 (.lst ((ws.drop n).map V.str)) p3 = some (.lst ((ws.drop n).map V.str)) := upd_same
        have hp2' := s3 _ _ hp2
        have uB := uA.same s3
        generalize upd HA p3 (.lst ((ws.drop n).map V.str)) = HB at hp2' hp3 uB ⊢
        refine ⟨p2, p3, _, _, rfl, rfl, hp2', hp3, by rw [List.length_map, List.length_map, List.length_append]; exact sl_len (by show _ + 1 + _ ≤ 100000; omega), fun p4 np4 => ?_⟩
        rw [← List.map_append]
        have esum : sumL (ws.take n ++ [y] ++ ws.drop n) ≤ 27 := by
          have e2 : sumL ws = sumL (ws.take n) + sumL (ws.drop n) := by rw [← sumL_app, List.take_append_drop]
          rw [sumL_app, sumL_app, sumL_cons]
          have e0 : sumL [] = 0 := rfl
          omega
        have okz : ∀ x ∈ ws.take n ++ [y] ++ ws.drop n, PyData.strOk x = true := fun x hx => by
          rcases List.mem_append.mp hx with h | h
          · rcases List.mem_append.mp h with h | h
            · exact oks x (List.mem_of_mem_take h)
            · rw [List.mem_singleton.mp h]; exact oy
          · exact oks x (List.mem_of_mem_drop h)
        have on : ws.take n ++ [y] ++ ws.drop n ≠ [] := by simp
        generalize ws.take n ++ [y] ++ ws.drop n = os at esum okz on ⊢
        refine ⟨_, p4, os, rfl, rfl, .inl (SqL.of upd_same), sum_fit (by omega), ?_⟩
        refine k _ _ (uB.same (same_upd np4)) ⟨?_, join_ok okz⟩
        have := join_len on
        omega
end
end U
set_option maxRecDepth 100000
set_option maxHeartbeats 4000000
namespace U
open PySem PySem.Spec PyProof.Rows
open L2 hiding Fun CX0 E0 pass0 Fun.binds
open C8 Lx SX StX
theorem fm_no {K : PySem.W.Frag} {H : Hp} {z : Str} {Q : VK} {E : XK} (tz : TxOk z) (h : ruRd (Txt.split z " ") = .text) (k : ∀ H', Same H H' → Q (.bl false) H') : spForm K [.str z] H Q E :=
  ⟨.str z, rfl, .inl ⟨z, rfl, tz⟩, fun z' e => by
    have e := V.str.inj e
    subst e
    exact ⟨fun _ => k, fun f xs e => by rw [h] at e; cases e⟩, fun nz => absurd rfl (nz z)⟩
theorem fm_yes {K : PySem.W.Frag} {H : Hp} {z : Str} {f : List Bool} {xs : List WW} {Q : VK} {E : XK} (tz : TxOk z) (h : ruRd (Txt.split z " ") = .init f xs) (k : ∀ H', Same H H' → Q (.bl true) H') : spForm K [.str z] H Q E :=
  ⟨.str z, rfl, .inl ⟨z, rfl, tz⟩, fun z' e => by
    have e := V.str.inj e
    subst e
    exact ⟨fun e => (by rw [h] at e; cases e), fun _ _ _ => k⟩, fun nz => absurd rfl (nz z)⟩
theorem fm_val {K : PySem.W.Frag} {H : Hp} {v : V} {Q : VK} {E : XK} (nz : ∀ z, v ≠ .str z) (h : AnyS K H v) (k : ∀ H', Same H H' → Q (.bl false) H') : spForm K [v] H Q E :=
  ⟨v, rfl, .inr ⟨nz, h⟩, fun z e => absurd e (nz z), fun _ => k⟩
theorem Hv.val {v r : V} (h : Hv v r) (nz : ∀ z, v ≠ .str z) : r = .int 0 := by
  cases h with
  | no h => rfl
  | text z e _ => exact absurd e (nz z)
  | bad z f xs e _ _ => exact absurd e (nz z)
  | good z f xs ss e _ _ _ => exact absurd e (nz z)
theorem Hv.txt {z : Str} {r : V} (h : Hv (.str z) r) (e : ruRd (Txt.split z " ") = .text) : r = .int 0 := by
  cases h with
  | no h => rfl
  | text _ _ _ => rfl
  | bad z' f xs ez h hb => rw [← V.str.inj ez, e] at h; cases h
  | good z' f xs ss ez h _ p => rw [← V.str.inj ez, e] at h; cases h
theorem Hv.ini {z : Str} {r : V} {f : List Bool} {xs : List WW} (h : Hv (.str z) r) (e : ruRd (Txt.split z " ") = .init f xs) : (r = .str (("rule " : Str) ++ badU f xs) ∧ ¬ (2 ≤ f.length ∧ areB xs = true ∧ OkR (xs.map stO))) ∨ (2 ≤ f.length ∧ ∃ ss : List Stf, ss.Perm (xs.map stO) ∧ r = .str (ruT f ss)) := by
  cases h with
  | no h => exact absurd rfl (h z)
  | text z' ez h => rw [← V.str.inj ez, e] at h; cases h
  | bad z' f' xs' ez h hb =>
    rw [← V.str.inj ez, e] at h
    injection h with h1 h2
    subst h1 h2
    refine .inl ⟨rfl, fun ⟨a, b, c⟩ => ?_⟩
    rcases hb with h | h | h
    · omega
    · rw [b] at h; cases h
    · exact h c
  | good z' f' xs' ss ez h h2 p =>
    rw [← V.str.inj ez, e] at h
    injection h with h1 h3
    subst h1 h3
    exact .inr ⟨h2, ss, p, rfl⟩
theorem badU_in (f : List Bool) (xs : List WW) : inV (.str (("rule " : Str) ++ badU f xs)) [.str "rule flag", .str "rule stuffs", .str "rule endless"] = true := by
  unfold badU
  split
  · decide +kernel
  · split <;> decide +kernel
theorem dp_txts {K : PySem.W.Frag} {H : Hp} : ∀ ys : List Str, DpAll K H (ys.map V.str) (ys.map PyData.str)
  | [] => .nil
  | _ :: r => .cons (.str _) (dp_txts r)
theorem shaped_txts {ys : List Str} (h : ∀ y ∈ ys, PyData.strOk y = true) : SeqAt.shaped (.list (ys.map PyData.str)) = true := (dok_list (n := 0) fun d hd => by
  obtain ⟨y, hy, rfl⟩ := List.mem_map.mp hd
  exact ⟨h y hy, Nat.le_refl _⟩).shaped (by decide)
theorem can_txts {ys : List Str} (h : ∀ y ∈ ys, PyData.strOk y = true) : PyData.canLay0 (.list (ys.map PyData.str)) = true := (dok_list (n := 0) fun d hd => by
  obtain ⟨y, hy, rfl⟩ := List.mem_map.mp hd
  exact ⟨h y hy, Nat.le_refl _⟩).1
theorem ruWs_ok (f : List Bool) (ss : List Stf) : ∀ x ∈ ruWs f ss, PyData.strOk x = true := fun x hx => by
  unfold ruWs at hx
  rcases List.mem_cons.mp hx with rfl | hx
  · decide +kernel
  rcases List.mem_cons.mp hx with rfl | hx
  · exact strOk_W _
  · split at hx
    · cases hx
    · rcases List.mem_cons.mp hx with rfl | hx
      · decide +kernel
      · obtain ⟨s, _, rfl⟩ := List.mem_map.mp hx
        exact sOk_catC (sOk_catC (strOk_W _) (by decide +kernel)) (strOk_W _)
theorem ruT_few {f : List Bool} {ss : List Stf} (hf : f.length ≤ 5) (h1 : ss.length ≤ 1) (hp : ∀ s ∈ ss, s.1.length ≤ 3) : (ruT f ss).length ≤ 20 := by
  have e : (ruT f ss).length + 1 = sumL (ruWs f ss) := join_len (by unfold ruWs; exact List.cons_ne_nil _ _)
  have l4 : ("flag" : Str).length = 4 := by decide +kernel
  have l3 : ("put" : Str).length = 3 := by decide +kernel
  have l1 : (":" : Str).length = 1 := by decide +kernel
  have e0 : sumL [] = 0 := rfl
  unfold ruWs at e
  match ss, h1, hp with
  | [], _, _ =>
    rw [if_pos rfl, sumL_cons, sumL_cons, W_len, l4, e0] at e
    omega
  | [s], _, hp =>
    have := hp s List.mem_cons_self
    have l2 : (stT s).length = s.1.length + 2 := by
      unfold stT
      rw [lenC, lenC, W_len, W_len, l1]
      rfl
    rw [if_neg (List.cons_ne_nil _ _), sumL_cons, sumL_cons, sumL_cons, List.map_cons, List.map_nil, sumL_cons, W_len, l4, l3, e0, l2] at e
    omega
theorem cut_one1 (xs : List V) : cutV xs none (some 1) = xs.take 1 := by
  show cutV xs none (some ((1 : Nat) : Int)) = _
  unfold cutV
  rw [HT.sIx_none, HT.sIx_nat]
  cases xs with
  | nil => rfl
  | cons x r => rw [Nat.min_eq_left (by rw [List.length_cons]; omega)]; rfl
theorem sumL_perm {a b : List Str} (p : a.Perm b) : sumL a = sumL b := by unfold sumL; exact (p.map _).sum_nat
def nine : List Str := ["", "flag", "flag ", "flag 01 put", "flag 01 put ", "flag 01 11:0", "flag 01 put 11:", "put 11:0", "flag 01 put 11:00"]
def txtB (z : Str) : Bool := txB z && (match ruRd (Txt.split z " ") with | .text => true | _ => false)
theorem txtB_ok {z : Str} (h : txtB z = true) : TxOk z ∧ ruRd (Txt.split z " ") = .text := by
  unfold txtB at h
  rw [Bool.and_eq_true] at h
  refine ⟨txB_ok h.1, ?_⟩
  have h2 := h.2
  cases e : ruRd (Txt.split z " ") with
  | text => rfl
  | init f xs => rw [e] at h2; cases h2
theorem nine_ok {z : Str} (h : z ∈ nine) : TxOk z ∧ ruRd (Txt.split z " ") = .text := txtB_ok (List.all_eq_true.mp (by decide +kernel : nine.all txtB = true) z h)
def f0B : Bool := txB "flag 0" && (match ruRd (Txt.split "flag 0" " ") with | .init f xs => decide (f = [false]) && decide (xs = []) | _ => false)
theorem f0_ok : TxOk "flag 0" ∧ ruRd (Txt.split "flag 0" " ") = .init [false] [] := by
  have h : f0B = true := by decide +kernel
  unfold f0B at h
  rw [Bool.and_eq_true] at h
  refine ⟨txB_ok h.1, ?_⟩
  have h2 := h.2
  cases e : ruRd (Txt.split "flag 0" " ") with
  | text => rw [e] at h2; cases h2
  | init f xs =>
    rw [e] at h2
    have h2 : (decide (f = [false]) && decide (xs = [])) = true := h2
    rw [Bool.and_eq_true, decide_eq_true_iff, decide_eq_true_iff] at h2
    rw [h2.1, h2.2]
section
variable {P : Program} {w : World} {K : PySem.W.Frag} {mg : Str → Option Value} {base : Heap}
theorem sc_law : FnScope ["_law_script", "_law_k", "_law_box", "_law_turn", "_law_told", "_law_words", "_law_more", "_law_bent_here", "_law_heard_here", "_law_thing", "_law_some"] ["_law_script"] (fnScope s_law) := fnScope_by (by decide +kernel)
theorem ok_law {f C : Addr} {fd : FuncData} (F : Def K mg "law" s_law f fd) (T : Tx mg) (RT : RuT K C) (IS_Rule : IsT K C) (kon_rule_str : PySem.W.kitOne K (.ref C) (.type "str") = some false)
    (c_l_seed : Cal P w K mg base 1 "_law_seed" (spSeed K) []) (c_l_rule : Cal P w K mg base 4 "_law_rule" spRule []) (c_l_is_rule : Cal P w K mg base 2 "_law_is_rule" spIsRule []) (c_l_made : Cal P w K mg base 7 "_law_made" (spMade C) []) (c_l_one_of : Cal P w K mg base 2 "_law_one_of" spOneOf []) (c_l_any : Cal P w K mg base 12 "_law_any" (spAny K) [])
    (c_l_is_form : Cal P w K mg base 2 "_law_is_form" (spForm K) []) (c_l_heard : Cal P w K mg base 8 "_law_heard" (spHd04 K) []) (c_l_bent : Cal P w K mg base 3 "_law_bent" spBent []) (c_Rule_str : Met P w K mg base 1 C "__str__" (spRuStr C) []) :
    FnOk P w K mg base CX0 13 f fd ["_law_script"] (spLaw K) := by
  refine fn0 F.fn sc_law (fun vs H Q E h => ?_) (fun cdv A outer s H vs Q E hr h => ?_)
  · obtain ⟨_, _, rfl, _⟩ := h; rfl
  · obtain ⟨a, ns, rfl, hS, hlen, k⟩ := h
    refine ⟨_, (pss_cons (ps_for PassesOwn.never rfl (pi_range1 (by rfl) T.b_range (pa_cons (pe_callB (call_max2 rfl) (by rfl) T.b_max (by decide +kernel) (pa_cons pe_int (pa_cons (pe_callB (call_min2 rfl) (by rfl) T.b_min (by decide +kernel) (pa_cons pe_int (pa_cons (pe_callB call_len_seq (by rfl) T.b_len (by decide +kernel) (pa_cons (pv 0) pa_nil)) pa_nil))) pa_nil))) pa_nil)) (pg_name (i := 1) sc_law.nd rfl (.inl rfl))
    (pss_cons (ps_set (i := 2) sc_law.nd rfl (.inl rfl) (pe_c c_l_seed hr (by decide) rfl (pa_cons (pv 0) (pa_cons (pv 1) pa_nil))))
    (pss_one (ps_for PassesOwn.never rfl (pi_range1 (by rfl) T.b_range (pa_cons pe_int pa_nil)) (pg_name (i := 3) sc_law.nd rfl (.inl rfl))
    (pss_cons (ps_set (i := 4) sc_law.nd rfl (.inl rfl) (pe_c c_l_rule hr (by decide) rfl (pa_cons (pv 2) (pa_cons pe_int (pa_cons pe_int pa_nil)))))
    (pss_cons (ps_set (i := 4) sc_law.nd rfl (.inl rfl) (pe_tup (pa_cons (pe_ix ix_tup (pv 4) pe_int (fun _ _ => rfl)) (pa_cons (pe_slice sl_list (pe_ix ix_tup (pv 4) pe_int (fun _ _ => rfl)) po_none (po_some pe_int)) pa_nil))))
    (pss_cons (ps_if (pt_not (pt_val (pe_c c_l_is_rule hr (by decide) rfl (pa_cons (pv 4) pa_nil)))) (pss_one ps_continue) pss_nil)
    (pss_cons (ps_set (i := 5) sc_law.nd rfl (.inl rfl) (pe_callTy (call_str_own c_Rule_str hr (by decide)) (by rfl) T.b_str (by decide +kernel) (pa_cons (pe_c c_l_made hr (by decide) rfl (pa_cons (pv 4) pa_nil)) pa_nil)))
    (pss_cons (ps_for PassesOwn.never rfl (pi_range1 (by rfl) T.b_range (pa_cons pe_int pa_nil)) (pg_name (i := 6) sc_law.nd rfl (.inl rfl))
    (pss_cons (ps_set (i := 7) sc_law.nd rfl (.inl rfl) (pe_c c_l_bent hr (by decide) rfl (pa_cons (pv 2) (pa_cons (pv 5) pa_nil))))
    (pss_cons (ps_set (i := 8) sc_law.nd rfl (.inl rfl) (pe_c c_l_heard hr (by decide) rfl (pa_cons (pv 7) pa_nil)))
    (pss_cons (ps_if (PW.pt (pw_and (pt_not (pt_val (pe_c c_l_is_form hr (by decide) rfl (pa_cons (pv 7) pa_nil)))) (pw_and1 (pt_cmpR op_ne (pv 8) pe_int (nomark _))))) (pss_one (ps_ret pe_bl)) pss_nil)
    (pss_cons (ps_if (PW.pt (pw_and (pt_val (pe_c c_l_is_form hr (by decide) rfl (pa_cons (pv 7) pa_nil))) (pw_and1 (pt_not (pt_val (pe_callB call_isi (by rfl) T.b_isinstance (by decide +kernel) (pa_cons (pv 8) (pa_cons (pe_bltn (v := .ty "str") (u := .type "str") (by rfl) T.b_str (by decide +kernel) rfl) pa_nil)))))))) (pss_one (ps_ret pe_bl)) pss_nil)
    (pss_one (ps_if (PW.pt (pw_and (pt_val (pe_c c_l_is_form hr (by decide) rfl (pa_cons (pv 7) pa_nil))) (pw_and1 (pt_cmpR op_notIn_seq (pv 8) (pe_tup (pa_cons pe_str (pa_cons pe_str (pa_cons pe_str pa_nil)))) (by with_unfolding_all rfl))))) (pss_one (ps_if (pt_cmpR (op_neD hr.units) (pe_callB SrtS.cr_sortedSA (by rfl) T.b_sorted (by decide +kernel) (pa_cons (pe_split (pv 8) pe_str) pa_nil)) (pe_callB SrtS.cr_sortedSA (by rfl) T.b_sorted (by decide +kernel) (pa_cons (pe_split (pv 7) pe_str) pa_nil)) (nomark _)) (pss_one (ps_ret pe_bl)) pss_nil)) pss_nil)))))))
    (pss_cons (ps_set (i := 9) sc_law.nd rfl (.inl rfl) (pe_c c_l_one_of hr (by decide) rfl (pa_cons (pv 2) (pa_cons (pe_lst (pa_cons (pe_c c_l_any hr (by decide) rfl (pa_cons (pv 2) (pa_cons pe_int pa_nil))) (pa_cons (pe_c c_l_made hr (by decide) rfl (pa_cons (pv 4) pa_nil)) (pa_cons (pe_lst (pa_cons (pe_c c_l_made hr (by decide) rfl (pa_cons (pv 4) pa_nil)) pa_nil)) pa_nil)))) pa_nil))))
    (pss_one (ps_if (PW.pt (pw_and (pt_not (pt_val (pe_c c_l_is_form hr (by decide) rfl (pa_cons (pv 9) pa_nil)))) (pw_and1 (pt_cmpR op_ne (pe_callB SkE.call_repr_int (by rfl) T.b_repr (by decide +kernel) (pa_cons (pe_c c_l_heard hr (by decide) rfl (pa_cons (pv 9) pa_nil)) pa_nil)) pe_str (nomark _))))) (pss_one (ps_ret pe_bl)) pss_nil))))))))))))
    (pss_cons (ps_set (i := 10) sc_law.nd rfl (.inl rfl) (pe_lst (pa_cons pe_str (pa_cons pe_str (pa_cons pe_str (pa_cons pe_str pa_nil))))))
    (pss_cons (ps_set (i := 10) sc_law.nd rfl (.inl rfl) (pe_op op_cat (pv 10) (pe_lst (pa_cons pe_str (pa_cons pe_str (pa_cons pe_str (pa_cons pe_str (pa_cons pe_str pa_nil))))))))
    (pss_one (ps_ret (pe_and (pe_cmpR (op_eqD hr.units) (pe_lc (own := [("_law_words", 5)]) (g := gName 5) (by rfl) sc_law.nd (pi_list (pv 10)) (blkOk_by (own := [("_law_words", 5)]) (N := ["_law_script", "_law_k", "_law_box", "_law_turn", "_law_told", "_law_words", "_law_more", "_law_bent_here", "_law_heard_here", "_law_thing", "_law_some"]) (sc := fnScope s_law) (by decide +kernel)) (fun _ _ _ _ _ => (pg_name (i := 5) sc_law.nd rfl (.inl rfl))) (fun _ _ _ _ _ => pts_nil) (fun _ _ _ _ _ => (pe_c c_l_heard hr (by decide) rfl (pa_cons (pv 5) pa_nil)))) (pe_op op_rep (pe_lst (pa_cons pe_int pa_nil)) pe_int) (nomark _)) (pe_one (pe_cmpR op_eq (pe_c c_l_heard hr (by decide) rfl (pa_cons pe_str pa_nil)) pe_str (nomark _))))))))), ?_⟩
    refine ⟨_, rfl, a, _, rfl, .inl hS, _, _, rfl, _, _, rfl, _, rfl, by split <;> split <;> omega, by rw [List.length_map]; split <;> split <;> omega, ?_⟩
    refine for_it walk_range (fun i σ H2 => ∃ v1 v2 v3 v4 v5 v6 v7 v8 v9 v10 : Option V, σ = [some (.ref a), v1, v2, v3, v4, v5, v6, v7, v8, v9, v10] ∧ Same H H2) ⟨_, _, _, _, _, _, _, _, _, _, rfl, Same.refl _⟩ (fun _ _ _ _ _ => trivial) ?_ ?_
    rotate_left
    · rintro σ H2 ⟨v1, v2, v3, v4, v5, v6, v7, v8, v9, v10, rfl, _⟩
      refine ⟨by show 4 ≤ sizeLine; decide, fun l1 n1 => ?_⟩
      have s1 := same_upd (o := .lst [.str "", .str "flag", .str "flag ", .str "flag 01 put"]) n1
      have h1 : upd H2 l1 (.lst [.str "", .str "flag", .str "flag ", .str "flag 01 put"]) l1 = some (.lst [.str "", .str "flag", .str "flag ", .str "flag 01 put"]) := upd_same
      refine ⟨_, rfl, by show 5 ≤ sizeLine; decide, fun l2 n2 => ?_⟩
      have s2 := same_upd (o := .lst [.str "flag 01 put ", .str "flag 01 11:0", .str "flag 01 put 11:", .str "put 11:0", .str "flag 01 put 11:00"]) n2
      refine ⟨l1, l2, _, _, rfl, rfl, s2 _ _ h1, upd_same, by show 9 ≤ sizeLine; decide, fun l3 n3 => ?_⟩
      obtain ⟨HL, eL⟩ : ∃ HL, HL = upd (upd (upd H2 l1 (.lst [.str "", .str "flag", .str "flag ", .str "flag 01 put"])) l2 (.lst [.str "flag 01 put ", .str "flag 01 11:0", .str "flag 01 put 11:", .str "put 11:0", .str "flag 01 put 11:00"])) l3 (.lst (nine.map V.str)) := ⟨_, rfl⟩
      have h3 : HL l3 = some (.lst (nine.map V.str)) := by rw [eL]; exact upd_same
      refine ⟨_, rfl, l3, rfl, ⟨_, SqL.of upd_same⟩, fun D nD => ?_⟩
      have nD : HL D = none := by rw [eL]; exact nD
      have sD : Same HL (upd HL D (.lst [])) := same_upd nD
      refine lc_it (walk_list (xs := nine.map V.str)) (fun i Hx => Same HL Hx ∧ Hx D = some (.lst (List.replicate i (.int 0)))) ?_ (fun i Hx _ h => SqL.of (h.1 _ _ h3)) ?_ ?_
      · refine ⟨?_, upd_same⟩
        rw [eL]
        exact same_upd (by rw [eL] at nD; exact nD)
      · rintro i v Hx' Hx hi ⟨sx, hD⟩ ⟨rfl, hv⟩
        rw [List.getElem?_map] at hv
        obtain ⟨z, hz, rfl⟩ := Option.map_eq_some_iff.mp hv
        obtain ⟨tz, er⟩ := nine_ok (List.mem_of_getElem? hz)
        have i9 : i < 9 := hi
        refine ⟨rfl, _, rfl, .str z, rfl, .inl ⟨z, rfl, tz⟩, fun r H5 s5 hv => ?_⟩
        obtain rfl := hv.txt er
        exact ⟨_, s5 _ _ hD, by rw [List.length_replicate]; exact sl_lt (by omega), same_mut' (sx.trans s5) nD, by rw [upd_same, List.replicate_succ']⟩
      rintro HD ⟨_, hD⟩
      refine ⟨by show 1 ≤ sizeLine; decide, fun q1 nq1 => ?_⟩
      have sq1 := same_upd (o := .lst [.int 0]) nq1
      refine ⟨q1, 9, _, rfl, rfl, upd_same, by decide, by decide, by show 1 * 9 ≤ sizeLine; decide, fun q2 nq2 => ?_⟩
      have s12 := sq1.trans (same_upd (o := .lst (List.replicate (9 : Int).toNat [V.int 0]).flatten) nq2)
      have dp9 : ∀ {Hz : Hp}, DpAll K Hz (List.replicate 9 (.int 0)) (List.replicate 9 (.int 0)) := (.cons (.int _) (.cons (.int _) (.cons (.int _) (.cons (.int _) (.cons (.int _) (.cons (.int _) (.cons (.int _) (.cons (.int _) (.cons (.int _) .nil)))))))))
      refine ⟨.list (List.replicate 9 (.int 0)), .list (List.replicate 9 (.int 0)), .lst (SqL.of (xs := List.replicate 9 (.int 0)) (s12 _ _ hD)) dp9, .lst (SqL.of (xs := List.replicate 9 (.int 0)) upd_same) dp9, by decide +kernel, by decide +kernel, ?_⟩
      refine ⟨_, rfl, iteBT (by decide +kernel) ?_⟩
      obtain ⟨t0, e0⟩ := f0_ok
      refine ⟨.str "flag 0", rfl, .inl ⟨_, rfl, t0⟩, fun r HZ sZ hv => ?_⟩
      rcases hv.ini e0 with ⟨rfl, _⟩ | ⟨h, _⟩
      · refine ⟨rfl, ?_⟩
        have ed : decide (V.str (("rule " : Str) ++ badU [false] []) = V.str "rule flag") = true := by decide +kernel
        rw [ed]
        exact k _
      · exact absurd h (by decide)
    · rintro i x σ H2' H2 hi ⟨v1, v2, v3, v4, v5, v6, v7, v8, v9, v10, rfl, s2⟩ ⟨rfl, rfl⟩
      refine ⟨_, rfl, _, rfl, a, ns, i, (by show [V.ref a, V.int (0 + (i : Int))] = _; rw [Int.zero_add]), s2.seq hS, fun bx H1 nb s1 hb => ?_⟩
      have nbH : H bx = none := s2.free nb
      refine ⟨_, rfl, by decide, by decide, for_it walk_range (fun j σ H3 => ∃ v1 v3 v4 v5 v6 v7 v8 v9 v10 : Option V, σ = [some (.ref a), v1, some (.ref bx), v3, v4, v5, v6, v7, v8, v9, v10] ∧ Up bx H1 H3) ⟨_, _, _, _, _, _, _, _, _, rfl, Up.refl hb⟩ (fun _ _ _ _ _ => trivial) ?_ ?_⟩
      rotate_left
      · rintro σ H3 ⟨v1, v3, v4, v5, v6, v7, v8, v9, v10, rfl, u3⟩
        exact ⟨_, _, _, _, _, _, _, _, _, _, rfl, fun c o e => u3.1 _ _ ((s2.trans s1) _ _ e) (fun z => by rw [z, nbH] at e; cases e)⟩
      · rintro j y σ H3' H3 hj ⟨v1, v3, v4, v5, v6, v7, v8, v9, v10, rfl, u3⟩ ⟨rfl, rfl⟩
        refine ⟨_, rfl, bx, 5, 3, rfl, u3.2, by decide, by decide, by decide, by decide, fun t fl ss H4 u4 told f2 f6 ss2 ok hO hlo => ?_⟩
        have f5 : fl.length ≤ 5 := f6
        have u14 := u3.trans u4
        clear u3 u4
        obtain ⟨l, ps, kb, ht, hl, hs, rfl⟩ := told
        refine ⟨_, rfl, t, _, _, _, rfl, rfl, SqT.of ht, atI_nat (j := 0) rfl, ?_⟩
        refine ⟨_, rfl, t, _, _, _, rfl, rfl, SqT.of ht, atI_nat (j := 1) rfl, ?_⟩
        refine ⟨_, rfl, l, _, rfl, SqL.of hl, fun p np => ⟨by show 2 ≤ sizeLine; decide, fun t2 nt2 => ?_⟩⟩
        rw [cut_one1, ← List.map_take] at nt2 ⊢
        have sp := same_upd (o := .lst ((ps.take 1).map V.ref)) np
        have hp : upd H4 p (.lst ((ps.take 1).map V.ref)) p = some (.lst ((ps.take 1).map V.ref)) := upd_same
        have hs5 : StV (upd H4 p (.lst ((ps.take 1).map V.ref))) kb (ps.take 1) := fun q hq => sp _ _ (hs q (List.mem_of_mem_take hq))
        have u5 := u14.same sp
        generalize upd H4 p (.lst ((ps.take 1).map V.ref)) = H5 at hp hs5 u5 nt2 ⊢
        have st2 := same_upd (o := .tup [.str (W fl), .ref p]) nt2
        have ht2 : upd H5 t2 (.tup [.str (W fl), .ref p]) t2 = some (.tup [.str (W fl), .ref p]) := upd_same
        have told : Told (upd H5 t2 (.tup [.str (W fl), .ref p])) t2 fl ((ps.take 1).map kb) := ⟨p, ps.take 1, kb, ht2, st2 _ _ hp, fun q hq => st2 _ _ (hs5 q hq), rfl⟩
        have u6 := u5.same st2
        generalize upd H5 t2 (.tup [.str (W fl), .ref p]) = H6 at told u6 ⊢
        have few : ((ps.take 1).map kb).length ≤ 1 := by rw [List.length_map, List.length_take]; omega
        have lo3 : ∀ x ∈ (ps.take 1).map kb, x.1.length ≤ 3 := fun x hx => by
          obtain ⟨q, hq, rfl⟩ := List.mem_map.mp hx
          exact hlo _ (List.mem_map.mpr ⟨q, List.mem_of_mem_take hq, rfl⟩)
        have ok1 : StOk ((ps.take 1).map kb) := by
          have e : (ps.take 1).map kb = (ps.map kb).take 1 := List.map_take
          rw [e]
          cases hps : ps.map kb with
          | nil => exact ⟨by decide, (fun _ h => nomatch h), by decide, List.Pairwise.nil⟩
          | cons x r =>
            rw [hps] at ok hlo
            exact stOk1 (ok.pos x List.mem_cons_self) (Nat.le_trans (hlo x List.mem_cons_self) (by decide))
        generalize (ps.take 1).map kb = ss at told few lo3 ok1
        clear hp hs5 st2 ht2 sp np nt2 u5 u14 ht hl hs ok hO hlo
        refine ⟨_, rfl, t2, fl, ss, rfl, told, by omega, fun x hx => Nat.le_trans (lo3 x hx) (by decide), fun r H7 s7 hr => ⟨_, rfl, ?_⟩⟩
        have told7 := told.same s7
        have u7 := u6.same s7
        cases r with
        | false =>
          refine iteBT rfl ?_
          exact ⟨_, _, _, _, _, _, _, _, _, rfl, u7⟩
        | true =>
        refine iteBF rfl ?_
        obtain ⟨_, hO1⟩ := hr rfl
        refine ⟨_, rfl, t2, fl, ss, rfl, told7, ok1, hO1.ok, f2, by omega, fun m ss' H8 s8 pm srt hR => ?_⟩
        have sm := (ok1.perm pm.symm).sm (f := fl) (by omega)
        obtain ⟨dm, tm, hm⟩ := hR.few
        refine ⟨m, dm, _, rfl, hm, m, fl, ss', rfl, hR, sm, fun H9 s9 => ?_⟩
        have lenT := ruT_few (f := fl) (ss := ss') f5 (by rw [pm.length_eq]; exact few) (fun x hx => lo3 x (pm.mem_iff.mp hx))
        have okT : PyData.strOk (ruT fl ss') = true := join_ok (ruWs_ok fl ss')
        have told9 := (told7.same s8).same s9
        have u9 := (u7.same s8).same s9
        generalize ruT fl ss' = zt at lenT okT ⊢
        clear hR hm u6 u7 told told7 s7 s8 s9 srt sm
        refine ⟨_, rfl, _, rfl, by decide, by decide, for_it walk_range (fun i3 σ Hx => ∃ v1 v3 v6 v7 v8 v9 v10 : Option V, σ = [some (.ref a), v1, some (.ref bx), v3, some (.ref t2), some (.str zt), v6, v7, v8, v9, v10] ∧ Up bx H9 Hx) ⟨_, _, _, _, _, _, _, rfl, Up.refl u9.2⟩ (fun _ _ _ _ _ => trivial) ?_ ?_⟩
        · rintro i3 y3 σ Hx' Hx hi3 ⟨v1, v3, v6, v7, v8, v9, v10, rfl, ux⟩ ⟨rfl, rfl⟩
          refine ⟨_, rfl, _, rfl, bx, zt, rfl, ux.2, lenT, okT, fun z Ha ua tz => ?_⟩
          have uxa := ux.trans ua
          refine ⟨_, rfl, .str z, rfl, .inl ⟨z, rfl, tz⟩, fun r Hb sb hv => ?_⟩
          have uxb := uxa.same sb
          cases er : ruRd (Txt.split z " ") with
          | text =>
            obtain rfl := hv.txt er
            refine ⟨_, rfl, ?_⟩
            try dsimp only [tNil, List.append_nil]
            refine fm_no tz er fun Hc sc => ⟨_, rfl, iteBT rfl ?_⟩
            refine ⟨_, rfl, rfl, _, rfl, iteBF rfl ?_⟩
            refine ⟨_, rfl, ?_⟩
            try dsimp only [tNil, List.append_nil]
            refine fm_no tz er fun Hd sd => ⟨_, rfl, iteBF rfl ?_⟩
            refine ⟨_, rfl, ?_⟩
            try dsimp only [tNil, List.append_nil]
            refine fm_no tz er fun He se => ⟨_, rfl, iteBF rfl ?_⟩
            exact ⟨_, _, _, _, _, _, _, rfl, uxb.same ((sc.trans sd).trans se)⟩
          | init f1 xs =>
            have hv := hv.ini er
            obtain ⟨zr, rfl⟩ : ∃ zr, r = .str zr := hv.elim (fun h => ⟨_, h.1⟩) fun h => by obtain ⟨_, ss, _, h⟩ := h; exact ⟨_, h⟩
            refine ⟨_, rfl, ?_⟩
            try dsimp only [tNil, List.append_nil]
            refine fm_yes tz er fun Hc sc => ⟨_, rfl, iteBF rfl ?_⟩
            refine ⟨_, rfl, ?_⟩
            try dsimp only [tNil, List.append_nil]
            refine fm_yes tz er fun Hd sd => ⟨_, rfl, iteBT rfl ?_⟩
            refine ⟨_, rfl, _, _, _, _, true, rfl, .ty _, .base (.str _), kit_ty (by decide +kernel), _, rfl, iteBF rfl ?_⟩
            refine ⟨_, rfl, ?_⟩
            try dsimp only [tNil, List.append_nil]
            refine fm_yes tz er fun He se => ⟨_, rfl, iteBT rfl ?_⟩
            have uxe := uxb.same ((sc.trans sd).trans se)
            refine ⟨_, rfl, by show 3 ≤ sizeLine; decide, fun t3 nt3 => ?_⟩
            have st3 := same_upd (o := .tup [.str "rule flag", .str "rule stuffs", .str "rule endless"]) nt3
            have uxf := uxe.same st3
            refine ⟨t3, _, rfl, .inr (SqT.of upd_same), rfl, rfl, _, rfl, ?_⟩
            by_cases hin : inV (.str zr) [.str "rule flag", .str "rule stuffs", .str "rule endless"] = true
            · refine iteBF (by rw [hin]; rfl) ?_
              exact ⟨_, _, _, _, _, _, _, rfl, uxf⟩
            refine iteBT (by rw [Bool.eq_false_iff.mpr hin]; rfl) ?_
            rcases hv with ⟨ez, _⟩ | ⟨_, ss, pss, ez⟩
            · exact absurd (by rw [V.str.inj ez]; exact badU_in f1 xs) hin
            obtain rfl := V.str.inj ez
            have esp : Txt.split (ruT f1 ss) " " = ruWs f1 ss := ruT_split f1 ss
            have ewz : Txt.split z " " = ruWs f1 (xs.map stO) := rd_words er
            have pw : (ruWs f1 ss).Perm (Txt.split z " ") := by rw [ewz]; exact ruWs_perm pss
            have lT : (ruT f1 ss).length + 1 = sumL (ruWs f1 ss) := join_len (by unfold ruWs; exact List.cons_ne_nil _ _)
            have lz := cut_len z
            have tz26 := tz.len
            have ls := sumL_perm pw
            have fw := sumL_few (ruWs f1 ss)
            have fz := sumL_few (Txt.split z " ")
            clear hin hv
            refine ⟨_, rfl, ⟨_, rfl⟩, _, _, rfl, rfl, by decide +kernel, sl_len (by omega), fun q1 nq1 => ⟨q1, _, rfl, SqL.of upd_same, by rw [esp]; exact sl_len (by omega), fun ys1 p1 hp1 hs1 np1 => ?_⟩⟩
            refine ⟨_, rfl, ⟨_, rfl⟩, _, _, rfl, rfl, by decide +kernel, sl_len (by omega), fun q2 nq2 => ⟨q2, _, rfl, SqL.of upd_same, sl_len (by omega), fun ys2 p2 hp2 hs2 np2 => ?_⟩⟩
            rw [esp] at hp1
            have ey : ys1 = ys2 := sortedS_one ((hp1.trans pw).trans hp2.symm) hs1 hs2
            subst ey
            have oky : ∀ y ∈ ys1, PyData.strOk y = true := fun y hy => ruWs_ok f1 ss y (hp1.mem_iff.mp hy)
            refine ⟨.list (ys1.map PyData.str), .list (ys1.map PyData.str), .lst (SqL.of (((same_upd nq2).trans (same_upd np2)) _ _ upd_same)) (dp_txts ys1), .lst (SqL.of upd_same) (dp_txts ys1), shaped_txts oky, shaped_txts oky, _, rfl, iteBF (by rw [SeqAt.eqv_refl _ (can_txts oky)]; rfl) ?_⟩
            exact ⟨_, _, _, _, _, _, _, rfl, (((uxf.same (same_upd nq1)).same (same_upd np1)).same (same_upd nq2)).same (same_upd np2)⟩
        · rintro σ Hx ⟨v1, v3, v6, v7, v8, v9, v10, rfl, ux⟩
          have u10 := u9.trans ux
          have told10 := told9.up u9.2 ux
          clear told9 u9 ux
          refine ⟨_, rfl, _, rfl, bx, 7, rfl, by decide, u10.2, fun v1 HA uA th => ?_⟩
          have toldA := told10.up u10.2 uA
          have u1A := u10.trans uA
          refine ⟨_, rfl, t2, fl, ss, rfl, toldA, ok1, hO1.ok, f2, by omega, fun m1 sa HB sB pma srta hRa => ?_⟩
          have toldB := toldA.same sB
          refine ⟨_, rfl, t2, fl, ss, rfl, toldB, ok1, hO1.ok, f2, by omega, fun m2 sb HC sC pmb srtb hRb => ?_⟩
          refine ⟨by show 1 ≤ sizeLine; decide, fun q1 nq1 => ⟨by show 3 ≤ sizeLine; decide, fun q2 nq2 => ?_⟩⟩
          have sq1 := same_upd (o := .lst [.ref m2]) nq1
          have hq1 : upd HC q1 (.lst [.ref m2]) q1 = some (.lst [.ref m2]) := upd_same
          generalize upd HC q1 (.lst [.ref m2]) = HD at sq1 hq1 nq2 ⊢
          have sq2 := same_upd (o := .lst [v1, .ref m1, .ref q1]) nq2
          have hq2 : upd HD q2 (.lst [v1, .ref m1, .ref q1]) q2 = some (.lst [v1, .ref m1, .ref q1]) := upd_same
          have hq1' := sq2 _ _ hq1
          have sAE := (sB.trans sC).trans (sq1.trans sq2)
          obtain ⟨dm1, tm1, hm1⟩ := hRa.few
          have hm1' := (sC.trans (sq1.trans sq2)) _ _ hm1
          have uAE := Up.of_same uA.2 sAE
          have q1b : q1 ≠ bx := ((uA.2.same (sB.trans sC))).ne nq1
          have q2b : q2 ≠ bx := ((uA.2.same (sB.trans sC)).same sq1).ne nq2
          generalize upd HD q2 (.lst [v1, .ref m1, .ref q1]) = HE at hq1' hq2 hm1' uAE ⊢
          refine ⟨bx, q2, _, rfl, uAE.2, hq2, q2b, by show 0 < 3; decide, by show 3 < 1000; decide, fun v HF hv uF => ?_⟩
          have u1F := (u1A.trans uAE).trans uF
          have thv : ThV K HF v := by
            simp only [List.mem_cons, List.not_mem_nil, or_false] at hv
            rcases hv with rfl | rfl | rfl
            · exact th HF (uAE.trans uF)
            · exact .inr ⟨(fun _ z => by cases z), .inr ⟨(fun _ z => by cases z), _, kon_rule_str, fun _ s => IS_Rule.ty (s _ _ ((uF.nl uAE.2).ins hm1'))⟩⟩
            · exact .inr ⟨(fun _ z => by cases z), anyS_lst (uF.1 _ _ hq1' q1b)⟩
          clear hq1 hq1' hq2 hm1 hm1' hRa hRb sAE sq1 sq2 sB sC uA u1A uAE uF th toldA toldB told10 u10 hv
          rcases thv with ⟨z, rfl, tz⟩ | ⟨nz, hav⟩
          · cases er : ruRd (Txt.split z " ") with
            | text =>
              refine ⟨_, rfl, ?_⟩
              try dsimp only [tNil, List.append_nil]
              refine fm_no tz er fun Hb sb => ⟨_, rfl, iteBT rfl ?_⟩
              refine ⟨_, rfl, .str z, rfl, .inl ⟨z, rfl, tz⟩, fun r Hc sc hv => ?_⟩
              obtain rfl := hv.txt er
              refine ⟨0, rfl, by decide +kernel, rfl, _, rfl, iteBF (by decide +kernel) ?_⟩
              exact ⟨_, _, _, _, _, _, _, _, _, rfl, u1F.same (sb.trans sc)⟩
            | init f1 xs =>
              refine ⟨_, rfl, ?_⟩
              try dsimp only [tNil, List.append_nil]
              refine fm_yes tz er fun Hb sb => ⟨_, rfl, iteBF rfl ?_⟩
              exact ⟨_, _, _, _, _, _, _, _, _, rfl, u1F.same sb⟩
          · refine ⟨_, rfl, ?_⟩
            try dsimp only [tNil, List.append_nil]
            refine fm_val nz hav fun Hb sb => ⟨_, rfl, iteBT rfl ?_⟩
            refine ⟨_, rfl, v, rfl, .inr ⟨nz, hav.same sb⟩, fun r Hc sc hv => ?_⟩
            obtain rfl := hv.val nz
            refine ⟨0, rfl, by decide +kernel, rfl, _, rfl, iteBF (by decide +kernel) ?_⟩
            exact ⟨_, _, _, _, _, _, _, _, _, rfl, u1F.same (sb.trans sc)⟩
end
end U
set_option maxRecDepth 100000
set_option maxHeartbeats 4000000
namespace U
open PySem PySem.Spec PyProof.Rows
open L2 hiding Fun CX0 E0 pass0 Fun.binds
open C8 Lx
theorem all_mk {l : PySem.W.OpenLaw} {w : World} {K : PySem.W.Frag} {h : Heap} {mg : Str → Option Value} {fa : Addr} (X : K.In h) (G : h.Ns mainGlobals mg) (hfa : mg "law" = some (.ref fa))
    {f_is_sequence : Addr} {od_is_sequence an_is_sequence : Option Addr} {sl_is_sequence : Array (Option Value)} {oc_is_sequence kV_is_sequence dc_is_sequence pm_is_sequence cd_is_sequence ct_is_sequence : Value}
    {f_is_word : Addr} {od_is_word an_is_word : Option Addr} {sl_is_word : Array (Option Value)} {oc_is_word kV_is_word dc_is_word pm_is_word cd_is_word ct_is_word : Value}
    {f_is_bit : Addr} {od_is_bit an_is_bit : Option Addr} {sl_is_bit : Array (Option Value)} {oc_is_bit kV_is_bit dc_is_bit pm_is_bit cd_is_bit ct_is_bit : Value}
    {f_tail : Addr} {od_tail an_tail : Option Addr} {sl_tail : Array (Option Value)} {oc_tail kV_tail dc_tail pm_tail cd_tail ct_tail : Value}
    {f_is_stuff : Addr} {od_is_stuff an_is_stuff : Option Addr} {sl_is_stuff : Array (Option Value)} {oc_is_stuff kV_is_stuff dc_is_stuff pm_is_stuff cd_is_stuff ct_is_stuff : Value}
    {f_are_stuffs : Addr} {od_are_stuffs an_are_stuffs : Option Addr} {sl_are_stuffs : Array (Option Value)} {oc_are_stuffs kV_are_stuffs dc_are_stuffs pm_are_stuffs cd_are_stuffs ct_are_stuffs : Value}
    {f_stuff_in : Addr} {od_stuff_in an_stuff_in : Option Addr} {sl_stuff_in : Array (Option Value)} {oc_stuff_in kV_stuff_in dc_stuff_in pm_stuff_in cd_stuff_in ct_stuff_in : Value}
    {f_l_seed : Addr} {od_l_seed an_l_seed : Option Addr} {sl_l_seed : Array (Option Value)} {oc_l_seed kV_l_seed dc_l_seed pm_l_seed cd_l_seed ct_l_seed : Value}
    {f_l_choose : Addr} {od_l_choose an_l_choose : Option Addr} {sl_l_choose : Array (Option Value)} {oc_l_choose kV_l_choose dc_l_choose pm_l_choose cd_l_choose ct_l_choose : Value}
    {f_l_one_of : Addr} {od_l_one_of an_l_one_of : Option Addr} {sl_l_one_of : Array (Option Value)} {oc_l_one_of kV_l_one_of dc_l_one_of pm_l_one_of cd_l_one_of ct_l_one_of : Value}
    {f_l_word : Addr} {od_l_word an_l_word : Option Addr} {sl_l_word : Array (Option Value)} {oc_l_word kV_l_word dc_l_word pm_l_word cd_l_word ct_l_word : Value}
    {f_l_put : Addr} {od_l_put an_l_put : Option Addr} {sl_l_put : Array (Option Value)} {oc_l_put kV_l_put dc_l_put pm_l_put cd_l_put ct_l_put : Value}
    {f_l_is_rule : Addr} {od_l_is_rule an_l_is_rule : Option Addr} {sl_l_is_rule : Array (Option Value)} {oc_l_is_rule kV_l_is_rule dc_l_is_rule pm_l_is_rule cd_l_is_rule ct_l_is_rule : Value}
    {f_l_rule : Addr} {od_l_rule an_l_rule : Option Addr} {sl_l_rule : Array (Option Value)} {oc_l_rule kV_l_rule dc_l_rule pm_l_rule cd_l_rule ct_l_rule : Value}
    {f_l_made : Addr} {od_l_made an_l_made : Option Addr} {sl_l_made : Array (Option Value)} {oc_l_made kV_l_made dc_l_made pm_l_made cd_l_made ct_l_made : Value}
    {f_l_leaf : Addr} {od_l_leaf an_l_leaf : Option Addr} {sl_l_leaf : Array (Option Value)} {oc_l_leaf kV_l_leaf dc_l_leaf pm_l_leaf cd_l_leaf ct_l_leaf : Value}
    {f_l_any : Addr} {od_l_any an_l_any : Option Addr} {sl_l_any : Array (Option Value)} {oc_l_any kV_l_any dc_l_any pm_l_any cd_l_any ct_l_any : Value}
    {f_l_is_bits : Addr} {od_l_is_bits an_l_is_bits : Option Addr} {sl_l_is_bits : Array (Option Value)} {oc_l_is_bits kV_l_is_bits dc_l_is_bits pm_l_is_bits cd_l_is_bits ct_l_is_bits : Value}
    {f_l_is_form : Addr} {od_l_is_form an_l_is_form : Option Addr} {sl_l_is_form : Array (Option Value)} {oc_l_is_form kV_l_is_form dc_l_is_form pm_l_is_form cd_l_is_form ct_l_is_form : Value}
    {f_l_heard : Addr} {od_l_heard an_l_heard : Option Addr} {sl_l_heard : Array (Option Value)} {oc_l_heard kV_l_heard dc_l_heard pm_l_heard cd_l_heard ct_l_heard : Value}
    {f_l_bent : Addr} {od_l_bent an_l_bent : Option Addr} {sl_l_bent : Array (Option Value)} {oc_l_bent kV_l_bent dc_l_bent pm_l_bent cd_l_bent ct_l_bent : Value}
    {f_law : Addr} {od_law an_law : Option Addr} {sl_law : Array (Option Value)} {oc_law kV_law dc_law pm_law cd_law ct_law : Value}
    {C_Rule : Addr}
    {f_Rule_put : Addr} {od_Rule_put an_Rule_put : Option Addr} {sl_Rule_put : Array (Option Value)} {oc_Rule_put kV_Rule_put dc_Rule_put pm_Rule_put cd_Rule_put ct_Rule_put : Value}
    {f_Rule_longest : Addr} {od_Rule_longest an_Rule_longest : Option Addr} {sl_Rule_longest : Array (Option Value)} {oc_Rule_longest kV_Rule_longest dc_Rule_longest pm_Rule_longest cd_Rule_longest ct_Rule_longest : Value}
    {p_Rule_longest : Addr} {pr_Rule_longest : List Value}
    {f_Rule_put_in : Addr} {od_Rule_put_in an_Rule_put_in : Option Addr} {sl_Rule_put_in : Array (Option Value)} {oc_Rule_put_in kV_Rule_put_in dc_Rule_put_in pm_Rule_put_in cd_Rule_put_in ct_Rule_put_in : Value}
    {f_Rule_is_endless : Addr} {od_Rule_is_endless an_Rule_is_endless : Option Addr} {sl_Rule_is_endless : Array (Option Value)} {oc_Rule_is_endless kV_Rule_is_endless dc_Rule_is_endless pm_Rule_is_endless cd_Rule_is_endless ct_Rule_is_endless : Value}
    {f_Rule_init : Addr} {od_Rule_init an_Rule_init : Option Addr} {sl_Rule_init : Array (Option Value)} {oc_Rule_init kV_Rule_init dc_Rule_init pm_Rule_init cd_Rule_init ct_Rule_init : Value}
    {dT_Rule_init : Addr} {dd_Rule_init : Option Addr} {dn_Rule_init : Nat} {ds_Rule_init : Array (Option Value)} {dE_R : Addr} {dde_R : Option Addr} {dne_R : Nat} {dse_R : Array (Option Value)}
    {f_Rule_read : Addr} {od_Rule_read an_Rule_read : Option Addr} {sl_Rule_read : Array (Option Value)} {oc_Rule_read kV_Rule_read dc_Rule_read pm_Rule_read cd_Rule_read ct_Rule_read : Value}
    {p_Rule_read : Addr} {pr_Rule_read : List Value}
    {f_Rule_str : Addr} {od_Rule_str an_Rule_str : Option Addr} {sl_Rule_str : Array (Option Value)} {oc_Rule_str kV_Rule_str dc_Rule_str pm_Rule_str cd_Rule_str ct_Rule_str : Value}
    {C_InvalidText f_InvalidText cc_InvalidText cda_InvalidText : Addr} {od_InvalidText an_InvalidText : Option Addr} {sl_InvalidText : Array (Option Value)} {oc_InvalidText kV_InvalidText dc_InvalidText pm_InvalidText ct_InvalidText : Value}
    {Enm_InvalidText Eq_InvalidText : Str} {EN_InvalidText : Addr} {Ebs_InvalidText Ebm_InvalidText : List Value} {Esn_InvalidText : List Str} {Esub_InvalidText : List Value} {Eab_InvalidText : Bool} {Ecol_InvalidText : Option Bool} {Edd_InvalidText : Option Addr} {E0_InvalidText E1_InvalidText E2_InvalidText E3_InvalidText E5_InvalidText : Option Value} {cl_InvalidText ccl_InvalidText : Value} {cld_InvalidText cdd_InvalidText : Option Addr} {csl_InvalidText ccs_InvalidText : Array (Option Value)} {cvs_InvalidText : Array Value} {file_InvalidText : Str} {ctf_InvalidText : Tok}
    {C_InvalidRule f_InvalidRule cc_InvalidRule cda_InvalidRule : Addr} {od_InvalidRule an_InvalidRule : Option Addr} {sl_InvalidRule : Array (Option Value)} {oc_InvalidRule kV_InvalidRule dc_InvalidRule pm_InvalidRule ct_InvalidRule : Value}
    {Enm_InvalidRule Eq_InvalidRule : Str} {EN_InvalidRule : Addr} {Ebs_InvalidRule Ebm_InvalidRule : List Value} {Esn_InvalidRule : List Str} {Esub_InvalidRule : List Value} {Eab_InvalidRule : Bool} {Ecol_InvalidRule : Option Bool} {Edd_InvalidRule : Option Addr} {E0_InvalidRule E1_InvalidRule E2_InvalidRule E3_InvalidRule E5_InvalidRule : Option Value} {cl_InvalidRule ccl_InvalidRule : Value} {cld_InvalidRule cdd_InvalidRule : Option Addr} {csl_InvalidRule ccs_InvalidRule : Array (Option Value)} {cvs_InvalidRule : Array Value} {file_InvalidRule : Str} {ctf_InvalidRule : Tok}
    {tB : Tok}
    {CGI_FlipError : Addr}
    {CGI_InvalidRule : Addr}
    (a_is_sequence : PySem.W.nsIn K mainGlobals "is_sequence" = some (some (.ref f_is_sequence)))
    (l_is_sequence : K.lookup f_is_sequence = some ⟨oc_is_sequence, od_is_sequence, .func (PySem.W.fnOf "is_sequence" "is_sequence" (fnArgs s_is_sequence) (fnBody s_is_sequence) (fnScope s_is_sequence) .none kV_is_sequence dc_is_sequence pm_is_sequence an_is_sequence cd_is_sequence ct_is_sequence), sl_is_sequence⟩)
    (c_is_sequence : PySem.W.codeIn K cd_is_sequence "is_sequence" = true)
    (k_is_sequence : PySem.W.keepIn K (.ref f_is_sequence) = true)
    (a_is_word : PySem.W.nsIn K mainGlobals "is_word" = some (some (.ref f_is_word)))
    (l_is_word : K.lookup f_is_word = some ⟨oc_is_word, od_is_word, .func (PySem.W.fnOf "is_word" "is_word" (fnArgs s_is_word) (fnBody s_is_word) (fnScope s_is_word) .none kV_is_word dc_is_word pm_is_word an_is_word cd_is_word ct_is_word), sl_is_word⟩)
    (c_is_word : PySem.W.codeIn K cd_is_word "is_word" = true)
    (k_is_word : PySem.W.keepIn K (.ref f_is_word) = true)
    (a_is_bit : PySem.W.nsIn K mainGlobals "is_bit" = some (some (.ref f_is_bit)))
    (l_is_bit : K.lookup f_is_bit = some ⟨oc_is_bit, od_is_bit, .func (PySem.W.fnOf "is_bit" "is_bit" (fnArgs s_is_bit) (fnBody s_is_bit) (fnScope s_is_bit) .none kV_is_bit dc_is_bit pm_is_bit an_is_bit cd_is_bit ct_is_bit), sl_is_bit⟩)
    (c_is_bit : PySem.W.codeIn K cd_is_bit "is_bit" = true)
    (k_is_bit : PySem.W.keepIn K (.ref f_is_bit) = true)
    (a_tail : PySem.W.nsIn K mainGlobals "tail" = some (some (.ref f_tail)))
    (l_tail : K.lookup f_tail = some ⟨oc_tail, od_tail, .func (PySem.W.fnOf "tail" "tail" (fnArgs s_tail) (fnBody s_tail) (fnScope s_tail) .none kV_tail dc_tail pm_tail an_tail cd_tail ct_tail), sl_tail⟩)
    (c_tail : PySem.W.codeIn K cd_tail "tail" = true)
    (k_tail : PySem.W.keepIn K (.ref f_tail) = true)
    (a_is_stuff : PySem.W.nsIn K mainGlobals "is_stuff" = some (some (.ref f_is_stuff)))
    (l_is_stuff : K.lookup f_is_stuff = some ⟨oc_is_stuff, od_is_stuff, .func (PySem.W.fnOf "is_stuff" "is_stuff" (fnArgs s_is_stuff) (fnBody s_is_stuff) (fnScope s_is_stuff) .none kV_is_stuff dc_is_stuff pm_is_stuff an_is_stuff cd_is_stuff ct_is_stuff), sl_is_stuff⟩)
    (c_is_stuff : PySem.W.codeIn K cd_is_stuff "is_stuff" = true)
    (k_is_stuff : PySem.W.keepIn K (.ref f_is_stuff) = true)
    (a_are_stuffs : PySem.W.nsIn K mainGlobals "are_stuffs" = some (some (.ref f_are_stuffs)))
    (l_are_stuffs : K.lookup f_are_stuffs = some ⟨oc_are_stuffs, od_are_stuffs, .func (PySem.W.fnOf "are_stuffs" "are_stuffs" (fnArgs s_are_stuffs) (fnBody s_are_stuffs) (fnScope s_are_stuffs) .none kV_are_stuffs dc_are_stuffs pm_are_stuffs an_are_stuffs cd_are_stuffs ct_are_stuffs), sl_are_stuffs⟩)
    (c_are_stuffs : PySem.W.codeIn K cd_are_stuffs "are_stuffs" = true)
    (k_are_stuffs : PySem.W.keepIn K (.ref f_are_stuffs) = true)
    (a_stuff_in : PySem.W.nsIn K mainGlobals "stuff_in" = some (some (.ref f_stuff_in)))
    (l_stuff_in : K.lookup f_stuff_in = some ⟨oc_stuff_in, od_stuff_in, .func (PySem.W.fnOf "stuff_in" "stuff_in" (fnArgs s_stuff_in) (fnBody s_stuff_in) (fnScope s_stuff_in) .none kV_stuff_in dc_stuff_in pm_stuff_in an_stuff_in cd_stuff_in ct_stuff_in), sl_stuff_in⟩)
    (c_stuff_in : PySem.W.codeIn K cd_stuff_in "stuff_in" = true)
    (k_stuff_in : PySem.W.keepIn K (.ref f_stuff_in) = true)
    (a_l_seed : PySem.W.nsIn K mainGlobals "_law_seed" = some (some (.ref f_l_seed)))
    (l_l_seed : K.lookup f_l_seed = some ⟨oc_l_seed, od_l_seed, .func (PySem.W.fnOf "_law_seed" "_law_seed" (fnArgs s_l_seed) (fnBody s_l_seed) (fnScope s_l_seed) .none kV_l_seed dc_l_seed pm_l_seed an_l_seed cd_l_seed ct_l_seed), sl_l_seed⟩)
    (c_l_seed : PySem.W.codeIn K cd_l_seed "_law_seed" = true)
    (k_l_seed : PySem.W.keepIn K (.ref f_l_seed) = true)
    (a_l_choose : PySem.W.nsIn K mainGlobals "_law_choose" = some (some (.ref f_l_choose)))
    (l_l_choose : K.lookup f_l_choose = some ⟨oc_l_choose, od_l_choose, .func (PySem.W.fnOf "_law_choose" "_law_choose" (fnArgs s_l_choose) (fnBody s_l_choose) (fnScope s_l_choose) .none kV_l_choose dc_l_choose pm_l_choose an_l_choose cd_l_choose ct_l_choose), sl_l_choose⟩)
    (c_l_choose : PySem.W.codeIn K cd_l_choose "_law_choose" = true)
    (k_l_choose : PySem.W.keepIn K (.ref f_l_choose) = true)
    (a_l_one_of : PySem.W.nsIn K mainGlobals "_law_one_of" = some (some (.ref f_l_one_of)))
    (l_l_one_of : K.lookup f_l_one_of = some ⟨oc_l_one_of, od_l_one_of, .func (PySem.W.fnOf "_law_one_of" "_law_one_of" (fnArgs s_l_one_of) (fnBody s_l_one_of) (fnScope s_l_one_of) .none kV_l_one_of dc_l_one_of pm_l_one_of an_l_one_of cd_l_one_of ct_l_one_of), sl_l_one_of⟩)
    (c_l_one_of : PySem.W.codeIn K cd_l_one_of "_law_one_of" = true)
    (k_l_one_of : PySem.W.keepIn K (.ref f_l_one_of) = true)
    (a_l_word : PySem.W.nsIn K mainGlobals "_law_word" = some (some (.ref f_l_word)))
    (l_l_word : K.lookup f_l_word = some ⟨oc_l_word, od_l_word, .func (PySem.W.fnOf "_law_word" "_law_word" (fnArgs s_l_word) (fnBody s_l_word) (fnScope s_l_word) .none kV_l_word dc_l_word pm_l_word an_l_word cd_l_word ct_l_word), sl_l_word⟩)
    (c_l_word : PySem.W.codeIn K cd_l_word "_law_word" = true)
    (k_l_word : PySem.W.keepIn K (.ref f_l_word) = true)
    (a_l_put : PySem.W.nsIn K mainGlobals "_law_put" = some (some (.ref f_l_put)))
    (l_l_put : K.lookup f_l_put = some ⟨oc_l_put, od_l_put, .func (PySem.W.fnOf "_law_put" "_law_put" (fnArgs s_l_put) (fnBody s_l_put) (fnScope s_l_put) .none kV_l_put dc_l_put pm_l_put an_l_put cd_l_put ct_l_put), sl_l_put⟩)
    (c_l_put : PySem.W.codeIn K cd_l_put "_law_put" = true)
    (k_l_put : PySem.W.keepIn K (.ref f_l_put) = true)
    (a_l_is_rule : PySem.W.nsIn K mainGlobals "_law_is_rule" = some (some (.ref f_l_is_rule)))
    (l_l_is_rule : K.lookup f_l_is_rule = some ⟨oc_l_is_rule, od_l_is_rule, .func (PySem.W.fnOf "_law_is_rule" "_law_is_rule" (fnArgs s_l_is_rule) (fnBody s_l_is_rule) (fnScope s_l_is_rule) .none kV_l_is_rule dc_l_is_rule pm_l_is_rule an_l_is_rule cd_l_is_rule ct_l_is_rule), sl_l_is_rule⟩)
    (c_l_is_rule : PySem.W.codeIn K cd_l_is_rule "_law_is_rule" = true)
    (k_l_is_rule : PySem.W.keepIn K (.ref f_l_is_rule) = true)
    (a_l_rule : PySem.W.nsIn K mainGlobals "_law_rule" = some (some (.ref f_l_rule)))
    (l_l_rule : K.lookup f_l_rule = some ⟨oc_l_rule, od_l_rule, .func (PySem.W.fnOf "_law_rule" "_law_rule" (fnArgs s_l_rule) (fnBody s_l_rule) (fnScope s_l_rule) .none kV_l_rule dc_l_rule pm_l_rule an_l_rule cd_l_rule ct_l_rule), sl_l_rule⟩)
    (c_l_rule : PySem.W.codeIn K cd_l_rule "_law_rule" = true)
    (k_l_rule : PySem.W.keepIn K (.ref f_l_rule) = true)
    (a_l_made : PySem.W.nsIn K mainGlobals "_law_made" = some (some (.ref f_l_made)))
    (l_l_made : K.lookup f_l_made = some ⟨oc_l_made, od_l_made, .func (PySem.W.fnOf "_law_made" "_law_made" (fnArgs s_l_made) (fnBody s_l_made) (fnScope s_l_made) .none kV_l_made dc_l_made pm_l_made an_l_made cd_l_made ct_l_made), sl_l_made⟩)
    (c_l_made : PySem.W.codeIn K cd_l_made "_law_made" = true)
    (k_l_made : PySem.W.keepIn K (.ref f_l_made) = true)
    (a_l_leaf : PySem.W.nsIn K mainGlobals "_law_leaf" = some (some (.ref f_l_leaf)))
    (l_l_leaf : K.lookup f_l_leaf = some ⟨oc_l_leaf, od_l_leaf, .func (PySem.W.fnOf "_law_leaf" "_law_leaf" (fnArgs s_l_leaf) (fnBody s_l_leaf) (fnScope s_l_leaf) .none kV_l_leaf dc_l_leaf pm_l_leaf an_l_leaf cd_l_leaf ct_l_leaf), sl_l_leaf⟩)
    (c_l_leaf : PySem.W.codeIn K cd_l_leaf "_law_leaf" = true)
    (k_l_leaf : PySem.W.keepIn K (.ref f_l_leaf) = true)
    (a_l_any : PySem.W.nsIn K mainGlobals "_law_any" = some (some (.ref f_l_any)))
    (l_l_any : K.lookup f_l_any = some ⟨oc_l_any, od_l_any, .func (PySem.W.fnOf "_law_any" "_law_any" (fnArgs s_l_any) (fnBody s_l_any) (fnScope s_l_any) .none kV_l_any dc_l_any pm_l_any an_l_any cd_l_any ct_l_any), sl_l_any⟩)
    (c_l_any : PySem.W.codeIn K cd_l_any "_law_any" = true)
    (k_l_any : PySem.W.keepIn K (.ref f_l_any) = true)
    (a_l_is_bits : PySem.W.nsIn K mainGlobals "_law_is_bits" = some (some (.ref f_l_is_bits)))
    (l_l_is_bits : K.lookup f_l_is_bits = some ⟨oc_l_is_bits, od_l_is_bits, .func (PySem.W.fnOf "_law_is_bits" "_law_is_bits" (fnArgs s_l_is_bits) (fnBody s_l_is_bits) (fnScope s_l_is_bits) .none kV_l_is_bits dc_l_is_bits pm_l_is_bits an_l_is_bits cd_l_is_bits ct_l_is_bits), sl_l_is_bits⟩)
    (c_l_is_bits : PySem.W.codeIn K cd_l_is_bits "_law_is_bits" = true)
    (k_l_is_bits : PySem.W.keepIn K (.ref f_l_is_bits) = true)
    (a_l_is_form : PySem.W.nsIn K mainGlobals "_law_is_form" = some (some (.ref f_l_is_form)))
    (l_l_is_form : K.lookup f_l_is_form = some ⟨oc_l_is_form, od_l_is_form, .func (PySem.W.fnOf "_law_is_form" "_law_is_form" (fnArgs s_l_is_form) (fnBody s_l_is_form) (fnScope s_l_is_form) .none kV_l_is_form dc_l_is_form pm_l_is_form an_l_is_form cd_l_is_form ct_l_is_form), sl_l_is_form⟩)
    (c_l_is_form : PySem.W.codeIn K cd_l_is_form "_law_is_form" = true)
    (k_l_is_form : PySem.W.keepIn K (.ref f_l_is_form) = true)
    (a_l_heard : PySem.W.nsIn K mainGlobals "_law_heard" = some (some (.ref f_l_heard)))
    (l_l_heard : K.lookup f_l_heard = some ⟨oc_l_heard, od_l_heard, .func (PySem.W.fnOf "_law_heard" "_law_heard" (fnArgs s_l_heard) (fnBody s_l_heard) (fnScope s_l_heard) .none kV_l_heard dc_l_heard pm_l_heard an_l_heard cd_l_heard ct_l_heard), sl_l_heard⟩)
    (c_l_heard : PySem.W.codeIn K cd_l_heard "_law_heard" = true)
    (k_l_heard : PySem.W.keepIn K (.ref f_l_heard) = true)
    (a_l_bent : PySem.W.nsIn K mainGlobals "_law_bent" = some (some (.ref f_l_bent)))
    (l_l_bent : K.lookup f_l_bent = some ⟨oc_l_bent, od_l_bent, .func (PySem.W.fnOf "_law_bent" "_law_bent" (fnArgs s_l_bent) (fnBody s_l_bent) (fnScope s_l_bent) .none kV_l_bent dc_l_bent pm_l_bent an_l_bent cd_l_bent ct_l_bent), sl_l_bent⟩)
    (c_l_bent : PySem.W.codeIn K cd_l_bent "_law_bent" = true)
    (k_l_bent : PySem.W.keepIn K (.ref f_l_bent) = true)
    (a_law : PySem.W.nsIn K mainGlobals "law" = some (some (.ref f_law)))
    (l_law : K.lookup f_law = some ⟨oc_law, od_law, .func (PySem.W.fnOf "law" "law" (fnArgs s_law) (fnBody s_law) (fnScope s_law) .none kV_law dc_law pm_law an_law cd_law ct_law), sl_law⟩)
    (c_law : PySem.W.codeIn K cd_law "law" = true)
    (k_law : PySem.W.keepIn K (.ref f_law) = true)
    (aC_Rule : PySem.W.nsIn K mainGlobals "Rule" = some (some (.ref C_Rule)))
    (pg_Rule : PySem.W.plainGet K C_Rule Str.empty = true)
    (hd_Rule : PySem.W.hasDictIn K C_Rule = true)
    (po_Rule : PySem.W.plainOver K C_Rule = true)
    (sa_Rule : PySem.W.findIn K (.ref C_Rule) "__setattr__" = some (some (.builtin "object.__setattr__")))
    (mk_Rule : PySem.W.makesIn K C_Rule = true)
    (kc_Rule : PySem.W.keepIn K (.ref C_Rule) = true)
    (n_Rule_flag : PySem.W.findIn K (.ref C_Rule) "flag" = some none)
    (n_Rule_stuffs : PySem.W.findIn K (.ref C_Rule) "stuffs" = some none)
    (a_Rule_put : PySem.W.findIn K (.ref C_Rule) "put" = some (some (.ref f_Rule_put)))
    (i_Rule_put : PySem.W.isFn K (.ref f_Rule_put) = true)
    (l_Rule_put : K.lookup f_Rule_put = some ⟨oc_Rule_put, od_Rule_put, .func (PySem.W.fnOf "put" "Rule.put" (fnArgs s_Rule_put) (fnBody s_Rule_put) (fnScope s_Rule_put) .none kV_Rule_put dc_Rule_put pm_Rule_put an_Rule_put cd_Rule_put ct_Rule_put), sl_Rule_put⟩)
    (c_Rule_put : PySem.W.codeIn K cd_Rule_put "Rule.put" = true)
    (k_Rule_put : PySem.W.keepIn K (.ref f_Rule_put) = true)
    (a_Rule_longest : PySem.W.findIn K (.ref C_Rule) "longest" = some (some (.ref p_Rule_longest)))
    (g_Rule_longest : PySem.W.specialIn K (.ref p_Rule_longest) "__get__" = some (some (.builtin "property.__get__")))
    (t_Rule_longest : PySem.W.takesIn K (.ref p_Rule_longest) = some true)
    (r_Rule_longest : PySem.W.recIn K p_Rule_longest "property" = some (.ref f_Rule_longest :: pr_Rule_longest))
    (l_Rule_longest : K.lookup f_Rule_longest = some ⟨oc_Rule_longest, od_Rule_longest, .func (PySem.W.fnOf "longest" "Rule.longest" (fnArgs s_Rule_longest) (fnBody s_Rule_longest) (fnScope s_Rule_longest) .none kV_Rule_longest dc_Rule_longest pm_Rule_longest an_Rule_longest cd_Rule_longest ct_Rule_longest), sl_Rule_longest⟩)
    (c_Rule_longest : PySem.W.codeIn K cd_Rule_longest "Rule.longest" = true)
    (a_Rule_put_in : PySem.W.findIn K (.ref C_Rule) "put_in" = some (some (.ref f_Rule_put_in)))
    (i_Rule_put_in : PySem.W.isFn K (.ref f_Rule_put_in) = true)
    (l_Rule_put_in : K.lookup f_Rule_put_in = some ⟨oc_Rule_put_in, od_Rule_put_in, .func (PySem.W.fnOf "put_in" "Rule.put_in" (fnArgs s_Rule_put_in) (fnBody s_Rule_put_in) (fnScope s_Rule_put_in) .none kV_Rule_put_in dc_Rule_put_in pm_Rule_put_in an_Rule_put_in cd_Rule_put_in ct_Rule_put_in), sl_Rule_put_in⟩)
    (c_Rule_put_in : PySem.W.codeIn K cd_Rule_put_in "Rule.put_in" = true)
    (k_Rule_put_in : PySem.W.keepIn K (.ref f_Rule_put_in) = true)
    (a_Rule_is_endless : PySem.W.findIn K (.ref C_Rule) "is_endless" = some (some (.ref f_Rule_is_endless)))
    (i_Rule_is_endless : PySem.W.isFn K (.ref f_Rule_is_endless) = true)
    (l_Rule_is_endless : K.lookup f_Rule_is_endless = some ⟨oc_Rule_is_endless, od_Rule_is_endless, .func (PySem.W.fnOf "is_endless" "Rule.is_endless" (fnArgs s_Rule_is_endless) (fnBody s_Rule_is_endless) (fnScope s_Rule_is_endless) .none kV_Rule_is_endless dc_Rule_is_endless pm_Rule_is_endless an_Rule_is_endless cd_Rule_is_endless ct_Rule_is_endless), sl_Rule_is_endless⟩)
    (c_Rule_is_endless : PySem.W.codeIn K cd_Rule_is_endless "Rule.is_endless" = true)
    (k_Rule_is_endless : PySem.W.keepIn K (.ref f_Rule_is_endless) = true)
    (a_Rule_init : PySem.W.findIn K (.ref C_Rule) "__init__" = some (some (.ref f_Rule_init)))
    (i_Rule_init : PySem.W.isFn K (.ref f_Rule_init) = true)
    (l_Rule_init : K.lookup f_Rule_init = some ⟨oc_Rule_init, od_Rule_init, .func (PySem.W.fnOf "__init__" "Rule.__init__" (fnArgs s_Rule_init) (fnBody s_Rule_init) (fnScope s_Rule_init) (.ref dT_Rule_init) kV_Rule_init dc_Rule_init pm_Rule_init an_Rule_init cd_Rule_init ct_Rule_init), sl_Rule_init⟩)
    (c_Rule_init : PySem.W.codeIn K cd_Rule_init "Rule.__init__" = true)
    (k_Rule_init : PySem.W.keepIn K (.ref f_Rule_init) = true)
    (dl_Rule_init : K.lookup dT_Rule_init = some ⟨.type "tuple", dd_Rule_init, .seq #[.ref dE_R] dn_Rule_init, ds_Rule_init⟩)
    (dlE_Rule : K.lookup dE_R = some ⟨.type "tuple", dde_R, .seq #[] dne_R, dse_R⟩)
    (a_Rule_read : PySem.W.findCls K (.ref C_Rule) (.type "type") "read" = some (.get (.builtin "classmethod.__get__") (.ref p_Rule_read) .none (.ref C_Rule)))
    (r_Rule_read : PySem.W.recIn K p_Rule_read "classmethod" = some (.ref f_Rule_read :: pr_Rule_read))
    (fi_Rule_read : PySem.W.fnIn K f_Rule_read = true)
    (l_Rule_read : K.lookup f_Rule_read = some ⟨oc_Rule_read, od_Rule_read, .func (PySem.W.fnOf "read" "Rule.read" (fnArgs s_Rule_read) (fnBody s_Rule_read) (fnScope s_Rule_read) .none kV_Rule_read dc_Rule_read pm_Rule_read an_Rule_read cd_Rule_read ct_Rule_read), sl_Rule_read⟩)
    (c_Rule_read : PySem.W.codeIn K cd_Rule_read "Rule.read" = true)
    (rd_Rule : PySem.W.readsIn K C_Rule (.type "type") = true)
    (ga_Rule : PySem.W.specialIn K (.ref C_Rule) "__getattribute__" = some (some (.builtin "type.__getattribute__")))
    (a_Rule_str : PySem.W.findIn K (.ref C_Rule) "__str__" = some (some (.ref f_Rule_str)))
    (i_Rule_str : PySem.W.isFn K (.ref f_Rule_str) = true)
    (l_Rule_str : K.lookup f_Rule_str = some ⟨oc_Rule_str, od_Rule_str, .func (PySem.W.fnOf "__str__" "Rule.__str__" (fnArgs s_Rule_str) (fnBody s_Rule_str) (fnScope s_Rule_str) .none kV_Rule_str dc_Rule_str pm_Rule_str an_Rule_str cd_Rule_str ct_Rule_str), sl_Rule_str⟩)
    (c_Rule_str : PySem.W.codeIn K cd_Rule_str "Rule.__str__" = true)
    (k_Rule_str : PySem.W.keepIn K (.ref f_Rule_str) = true)
    (aC_InvalidText : PySem.W.nsIn K mainGlobals "InvalidText" = some (some (.ref C_InvalidText)))
    (elk_InvalidText : K.lookup C_InvalidText = some (excClassObj Enm_InvalidText Eq_InvalidText C_InvalidText EN_InvalidText Ebs_InvalidText Ebm_InvalidText true Esn_InvalidText Esub_InvalidText Eab_InvalidText Ecol_InvalidText Edd_InvalidText E0_InvalidText E1_InvalidText E2_InvalidText E3_InvalidText E5_InvalidText "ValueError.__new__"))
    (erf_InvalidText : PySem.HandSPX.refsVE Ebm_InvalidText = true)
    (sa_InvalidText : PySem.W.findIn K (.ref C_InvalidText) "__setattr__" = some (some (.builtin "object.__setattr__")))
    (exC_InvalidText : PySem.W.subIn K (.ref C_InvalidText) (.type "BaseException") = some true)
    (tyC_InvalidText : PySem.W.typeIn K (.ref C_InvalidText) = some (.type "type"))
    (kC_InvalidText : PySem.W.keepIn K (.ref C_InvalidText) = true)
    (no_InvalidText : PySem.W.findIn K (.ref C_InvalidText) "at" = some none)
    (a_InvalidText : PySem.W.findIn K (.ref C_InvalidText) "__init__" = some (some (.ref f_InvalidText)))
    (t_InvalidText : PySem.W.typeIn K (.ref f_InvalidText) = some (.type "function"))
    (lk_InvalidText : K.lookup f_InvalidText = some ⟨oc_InvalidText, od_InvalidText, .func (PySem.W.fnX "__init__" "InvalidText.__init__" (fnArgs s_InvalidText_init) (fnBody s_InvalidText_init) (fnScope s_InvalidText_init) [("__class__", cc_InvalidText)] .none kV_InvalidText dc_InvalidText pm_InvalidText an_InvalidText (.ref cda_InvalidText) ct_InvalidText), sl_InvalidText⟩)
    (cd_InvalidText : PySem.W.codeIn K (.ref cda_InvalidText) "InvalidText.__init__" = true)
    (cell_InvalidText : K.lookup cc_InvalidText = some ⟨cl_InvalidText, cld_InvalidText, .cell (some (.ref C_InvalidText)), csl_InvalidText⟩)
    (code_InvalidText : K.lookup cda_InvalidText = some ⟨ccl_InvalidText, cdd_InvalidText, .fields cvs_InvalidText, ccs_InvalidText⟩)
    (cfl_InvalidText : cvs_InvalidText[2]? = some (.str file_InvalidText ctf_InvalidText))
    (fl_InvalidText : ((l.prog.main.file : Str) == file_InvalidText) = true)
    (tp_InvalidText : (l.prog.main.scope.names.lookup ("super" : Str)).isSome = false)
    (sub_InvalidText : PySem.W.mroIn K C_InvalidText (.ref C_InvalidText) = some true)
    (sup_InvalidText : PySem.W.nsIn K mainGlobals "super" = some none)
    (opq_InvalidText : PySem.W.nsIn K cStatics "thirdparty.any" = some none)
    (ini_InvalidText : PySem.W.ks_superIn K C_InvalidText C_InvalidText "__init__" = some (some (.builtin "ValueError.__init__")))
    (ve_InvalidText : PySem.W.subIn K (.ref C_InvalidText) (.type "ValueError") = some true)
    (ehd_InvalidText : PySem.W.hasDictIn K C_InvalidText = true)
    (esb_InvalidText : PySem.W.subIn K (.ref C_InvalidText) (.ref C_InvalidText) = some true)
    (aC_InvalidRule : PySem.W.nsIn K mainGlobals "InvalidRule" = some (some (.ref C_InvalidRule)))
    (elk_InvalidRule : K.lookup C_InvalidRule = some (excClassObj Enm_InvalidRule Eq_InvalidRule C_InvalidRule EN_InvalidRule Ebs_InvalidRule Ebm_InvalidRule true Esn_InvalidRule Esub_InvalidRule Eab_InvalidRule Ecol_InvalidRule Edd_InvalidRule E0_InvalidRule E1_InvalidRule E2_InvalidRule E3_InvalidRule E5_InvalidRule "ValueError.__new__"))
    (erf_InvalidRule : PySem.HandSPX.refsVE Ebm_InvalidRule = true)
    (sa_InvalidRule : PySem.W.findIn K (.ref C_InvalidRule) "__setattr__" = some (some (.builtin "object.__setattr__")))
    (exC_InvalidRule : PySem.W.subIn K (.ref C_InvalidRule) (.type "BaseException") = some true)
    (tyC_InvalidRule : PySem.W.typeIn K (.ref C_InvalidRule) = some (.type "type"))
    (kC_InvalidRule : PySem.W.keepIn K (.ref C_InvalidRule) = true)
    (no_InvalidRule : PySem.W.findIn K (.ref C_InvalidRule) "word" = some none)
    (a_InvalidRule : PySem.W.findIn K (.ref C_InvalidRule) "__init__" = some (some (.ref f_InvalidRule)))
    (t_InvalidRule : PySem.W.typeIn K (.ref f_InvalidRule) = some (.type "function"))
    (lk_InvalidRule : K.lookup f_InvalidRule = some ⟨oc_InvalidRule, od_InvalidRule, .func (PySem.W.fnX "__init__" "InvalidRule.__init__" (fnArgs s_InvalidRule_init) (fnBody s_InvalidRule_init) (fnScope s_InvalidRule_init) [("__class__", cc_InvalidRule)] .none kV_InvalidRule dc_InvalidRule pm_InvalidRule an_InvalidRule (.ref cda_InvalidRule) ct_InvalidRule), sl_InvalidRule⟩)
    (cd_InvalidRule : PySem.W.codeIn K (.ref cda_InvalidRule) "InvalidRule.__init__" = true)
    (cell_InvalidRule : K.lookup cc_InvalidRule = some ⟨cl_InvalidRule, cld_InvalidRule, .cell (some (.ref C_InvalidRule)), csl_InvalidRule⟩)
    (code_InvalidRule : K.lookup cda_InvalidRule = some ⟨ccl_InvalidRule, cdd_InvalidRule, .fields cvs_InvalidRule, ccs_InvalidRule⟩)
    (cfl_InvalidRule : cvs_InvalidRule[2]? = some (.str file_InvalidRule ctf_InvalidRule))
    (fl_InvalidRule : ((l.prog.main.file : Str) == file_InvalidRule) = true)
    (tp_InvalidRule : (l.prog.main.scope.names.lookup ("super" : Str)).isSome = false)
    (sub_InvalidRule : PySem.W.mroIn K C_InvalidRule (.ref C_InvalidRule) = some true)
    (sup_InvalidRule : PySem.W.nsIn K mainGlobals "super" = some none)
    (opq_InvalidRule : PySem.W.nsIn K cStatics "thirdparty.any" = some none)
    (ini_InvalidRule : PySem.W.ks_superIn K C_InvalidRule C_InvalidRule "__init__" = some (some (.builtin "ValueError.__init__")))
    (ve_InvalidRule : PySem.W.subIn K (.ref C_InvalidRule) (.type "ValueError") = some true)
    (ehd_InvalidRule : PySem.W.hasDictIn K C_InvalidRule = true)
    (esb_InvalidRule : PySem.W.subIn K (.ref C_InvalidRule) (.ref C_InvalidRule) = some true)
    (ega_InvalidText : PySem.W.findIn K (.ref C_InvalidText) "__getattribute__" = some (some (.builtin "BaseException.__getattribute__")))
    (egg_InvalidText : PySem.W.findIn K (.ref C_InvalidText) "__getattr__" = some none)
    (ega_InvalidRule : PySem.W.findIn K (.ref C_InvalidRule) "__getattribute__" = some (some (.builtin "BaseException.__getattribute__")))
    (egg_InvalidRule : PySem.W.findIn K (.ref C_InvalidRule) "__getattr__" = some none)
    (mro_Rule : PySem.W.mroIn K C_Rule (.type "object") = some true)
    (cls_Rule : PySem.W.findIn K (.ref C_Rule) "__class__" = some (some (.builtin "object.__class__")))
    (clg_X : PySem.W.specialIn K (.builtin "object.__class__") "__get__" = some (some (.builtin "getset_descriptor.__get__")))
    (clt_X : PySem.W.takesIn K (.builtin "object.__class__") = some true)
    (kon_rs : PySem.W.kitOne K (.ref C_Rule) (.type "str") = some false)
    (gBITS : PySem.W.nsIn K mainGlobals "BITS" = some (some (.str "01" tB)))
    (esb_rt : PySem.W.subIn K (.ref C_InvalidRule) (.ref C_InvalidText) = some false)
    (aGI_FlipError : PySem.W.nsIn K mainGlobals "FlipError" = some (some (.ref CGI_FlipError)))
    (aGI_InvalidRule : PySem.W.nsIn K mainGlobals "InvalidRule" = some (some (.ref CGI_InvalidRule)))
    (xg_InvalidText : PySem.W.findIn K (.ref C_InvalidText) "__getattribute__" = some (some (.builtin "BaseException.__getattribute__")))
    (xk_InvalidText : PySem.W.findIn K (.ref C_InvalidText) "__getattr__" = some none)
    (xs_InvalidText : PySem.W.subIn K (.ref C_InvalidText) (.type "BaseException") = some true)
    (xd_InvalidText : PySem.W.hasDictIn K C_InvalidText = true)
    (xa_InvalidText : PySem.W.findIn K (.ref C_InvalidText) "__class__" = some (some (.builtin "object.__class__")))
    (xm_InvalidText : PySem.W.mroIn K C_InvalidText (.type "object") = some true)
    (kon_tf : PySem.W.kitOne K (.ref C_InvalidText) (.ref CGI_FlipError) = some true)
    (kon_tr : PySem.W.kitOne K (.ref C_InvalidText) (.ref CGI_InvalidRule) = some false)
    (z_len : PySem.W.nsIn K mainGlobals "len" = some none)
    (z_abs : PySem.W.nsIn K mainGlobals "abs" = some none)
    (z_int : PySem.W.nsIn K mainGlobals "int" = some none)
    (z_range : PySem.W.nsIn K mainGlobals "range" = some none)
    (z_max : PySem.W.nsIn K mainGlobals "max" = some none)
    (z_min : PySem.W.nsIn K mainGlobals "min" = some none)
    (z_enumerate : PySem.W.nsIn K mainGlobals "enumerate" = some none)
    (z_zip : PySem.W.nsIn K mainGlobals "zip" = some none)
    (z_dict : PySem.W.nsIn K mainGlobals "dict" = some none)
    (z_list : PySem.W.nsIn K mainGlobals "list" = some none)
    (z_tuple : PySem.W.nsIn K mainGlobals "tuple" = some none)
    (z_isinstance : PySem.W.nsIn K mainGlobals "isinstance" = some none)
    (z_bool : PySem.W.nsIn K mainGlobals "bool" = some none)
    (z_str : PySem.W.nsIn K mainGlobals "str" = some none)
    (z_all : PySem.W.nsIn K mainGlobals "all" = some none)
    (z_any : PySem.W.nsIn K mainGlobals "any" = some none)
    (z_sum : PySem.W.nsIn K mainGlobals "sum" = some none)
    (z_sorted : PySem.W.nsIn K mainGlobals "sorted" = some none)
    (z_repr : PySem.W.nsIn K mainGlobals "repr" = some none) :
    ∃ fd : FuncData, (∀ (s : Shared) (v : Value), BindsTo s fd ⟨[v], []⟩ [("_law_script", v)]) ∧ ∀ base : Heap, K.In base → base.Ns mainGlobals mg → FnOk l.prog w K mg base CX0 13 fa fd ["_law_script"] (spLaw K) := by
  have e : f_law = fa := Value.ref.inj (Option.some.inj ((PySem.W.mg_of X G a_law).symm.trans hfa))
  subst e
  have T : Tx mg := ⟨PySem.W.mg_none_of X G z_len, PySem.W.mg_none_of X G z_abs, PySem.W.mg_none_of X G z_int, PySem.W.mg_none_of X G z_range, PySem.W.mg_none_of X G z_max, PySem.W.mg_none_of X G z_min, PySem.W.mg_none_of X G z_enumerate, PySem.W.mg_none_of X G z_zip, PySem.W.mg_none_of X G z_dict, PySem.W.mg_none_of X G z_list, PySem.W.mg_none_of X G z_tuple, PySem.W.mg_none_of X G z_isinstance, PySem.W.mg_none_of X G z_bool, PySem.W.mg_none_of X G z_str, PySem.W.mg_none_of X G z_all, PySem.W.mg_none_of X G z_any, PySem.W.mg_none_of X G z_sum, PySem.W.mg_none_of X G z_sorted, PySem.W.mg_none_of X G z_repr⟩
  have F_is_sequence : Def K mg "is_sequence" s_is_sequence f_is_sequence (PySem.W.fnOf "is_sequence" "is_sequence" (fnArgs s_is_sequence) (fnBody s_is_sequence) (fnScope s_is_sequence) .none kV_is_sequence dc_is_sequence pm_is_sequence an_is_sequence cd_is_sequence ct_is_sequence) := ⟨⟨_, _, _, _, _, _, _, _, _, _, rfl, l_is_sequence, c_is_sequence⟩, PySem.W.mg_of X G a_is_sequence, k_is_sequence⟩
  have b_is_sequence := C8.Fun.binds (ps := ["value"]) F_is_sequence.fn rfl fun _ _ _ _ _ _ us hl => match us, hl with | [_], _ => rfl
  have F_is_word : Def K mg "is_word" s_is_word f_is_word (PySem.W.fnOf "is_word" "is_word" (fnArgs s_is_word) (fnBody s_is_word) (fnScope s_is_word) .none kV_is_word dc_is_word pm_is_word an_is_word cd_is_word ct_is_word) := ⟨⟨_, _, _, _, _, _, _, _, _, _, rfl, l_is_word, c_is_word⟩, PySem.W.mg_of X G a_is_word, k_is_word⟩
  have b_is_word := C8.Fun.binds (ps := ["value"]) F_is_word.fn rfl fun _ _ _ _ _ _ us hl => match us, hl with | [_], _ => rfl
  have F_is_bit : Def K mg "is_bit" s_is_bit f_is_bit (PySem.W.fnOf "is_bit" "is_bit" (fnArgs s_is_bit) (fnBody s_is_bit) (fnScope s_is_bit) .none kV_is_bit dc_is_bit pm_is_bit an_is_bit cd_is_bit ct_is_bit) := ⟨⟨_, _, _, _, _, _, _, _, _, _, rfl, l_is_bit, c_is_bit⟩, PySem.W.mg_of X G a_is_bit, k_is_bit⟩
  have b_is_bit := C8.Fun.binds (ps := ["value"]) F_is_bit.fn rfl fun _ _ _ _ _ _ us hl => match us, hl with | [_], _ => rfl
  have F_tail : Def K mg "tail" s_tail f_tail (PySem.W.fnOf "tail" "tail" (fnArgs s_tail) (fnBody s_tail) (fnScope s_tail) .none kV_tail dc_tail pm_tail an_tail cd_tail ct_tail) := ⟨⟨_, _, _, _, _, _, _, _, _, _, rfl, l_tail, c_tail⟩, PySem.W.mg_of X G a_tail, k_tail⟩
  have b_tail := C8.Fun.binds (ps := ["line", "size"]) F_tail.fn rfl fun _ _ _ _ _ _ us hl => match us, hl with | [_, _], _ => rfl
  have F_is_stuff : Def K mg "is_stuff" s_is_stuff f_is_stuff (PySem.W.fnOf "is_stuff" "is_stuff" (fnArgs s_is_stuff) (fnBody s_is_stuff) (fnScope s_is_stuff) .none kV_is_stuff dc_is_stuff pm_is_stuff an_is_stuff cd_is_stuff ct_is_stuff) := ⟨⟨_, _, _, _, _, _, _, _, _, _, rfl, l_is_stuff, c_is_stuff⟩, PySem.W.mg_of X G a_is_stuff, k_is_stuff⟩
  have b_is_stuff := C8.Fun.binds (ps := ["value"]) F_is_stuff.fn rfl fun _ _ _ _ _ _ us hl => match us, hl with | [_], _ => rfl
  have F_are_stuffs : Def K mg "are_stuffs" s_are_stuffs f_are_stuffs (PySem.W.fnOf "are_stuffs" "are_stuffs" (fnArgs s_are_stuffs) (fnBody s_are_stuffs) (fnScope s_are_stuffs) .none kV_are_stuffs dc_are_stuffs pm_are_stuffs an_are_stuffs cd_are_stuffs ct_are_stuffs) := ⟨⟨_, _, _, _, _, _, _, _, _, _, rfl, l_are_stuffs, c_are_stuffs⟩, PySem.W.mg_of X G a_are_stuffs, k_are_stuffs⟩
  have b_are_stuffs := C8.Fun.binds (ps := ["value"]) F_are_stuffs.fn rfl fun _ _ _ _ _ _ us hl => match us, hl with | [_], _ => rfl
  have F_stuff_in : Def K mg "stuff_in" s_stuff_in f_stuff_in (PySem.W.fnOf "stuff_in" "stuff_in" (fnArgs s_stuff_in) (fnBody s_stuff_in) (fnScope s_stuff_in) .none kV_stuff_in dc_stuff_in pm_stuff_in an_stuff_in cd_stuff_in ct_stuff_in) := ⟨⟨_, _, _, _, _, _, _, _, _, _, rfl, l_stuff_in, c_stuff_in⟩, PySem.W.mg_of X G a_stuff_in, k_stuff_in⟩
  have b_stuff_in := C8.Fun.binds (ps := ["word"]) F_stuff_in.fn rfl fun _ _ _ _ _ _ us hl => match us, hl with | [_], _ => rfl
  have F_l_seed : Def K mg "_law_seed" s_l_seed f_l_seed (PySem.W.fnOf "_law_seed" "_law_seed" (fnArgs s_l_seed) (fnBody s_l_seed) (fnScope s_l_seed) .none kV_l_seed dc_l_seed pm_l_seed an_l_seed cd_l_seed ct_l_seed) := ⟨⟨_, _, _, _, _, _, _, _, _, _, rfl, l_l_seed, c_l_seed⟩, PySem.W.mg_of X G a_l_seed, k_l_seed⟩
  have b_l_seed := C8.Fun.binds (ps := ["_law_script", "_law_k"]) F_l_seed.fn rfl fun _ _ _ _ _ _ us hl => match us, hl with | [_, _], _ => rfl
  have F_l_choose : Def K mg "_law_choose" s_l_choose f_l_choose (PySem.W.fnOf "_law_choose" "_law_choose" (fnArgs s_l_choose) (fnBody s_l_choose) (fnScope s_l_choose) .none kV_l_choose dc_l_choose pm_l_choose an_l_choose cd_l_choose ct_l_choose) := ⟨⟨_, _, _, _, _, _, _, _, _, _, rfl, l_l_choose, c_l_choose⟩, PySem.W.mg_of X G a_l_choose, k_l_choose⟩
  have b_l_choose := C8.Fun.binds (ps := ["_law_box", "_law_many"]) F_l_choose.fn rfl fun _ _ _ _ _ _ us hl => match us, hl with | [_, _], _ => rfl
  have F_l_one_of : Def K mg "_law_one_of" s_l_one_of f_l_one_of (PySem.W.fnOf "_law_one_of" "_law_one_of" (fnArgs s_l_one_of) (fnBody s_l_one_of) (fnScope s_l_one_of) .none kV_l_one_of dc_l_one_of pm_l_one_of an_l_one_of cd_l_one_of ct_l_one_of) := ⟨⟨_, _, _, _, _, _, _, _, _, _, rfl, l_l_one_of, c_l_one_of⟩, PySem.W.mg_of X G a_l_one_of, k_l_one_of⟩
  have b_l_one_of := C8.Fun.binds (ps := ["_law_box", "_law_some"]) F_l_one_of.fn rfl fun _ _ _ _ _ _ us hl => match us, hl with | [_, _], _ => rfl
  have F_l_word : Def K mg "_law_word" s_l_word f_l_word (PySem.W.fnOf "_law_word" "_law_word" (fnArgs s_l_word) (fnBody s_l_word) (fnScope s_l_word) .none kV_l_word dc_l_word pm_l_word an_l_word cd_l_word ct_l_word) := ⟨⟨_, _, _, _, _, _, _, _, _, _, rfl, l_l_word, c_l_word⟩, PySem.W.mg_of X G a_l_word, k_l_word⟩
  have b_l_word := C8.Fun.binds (ps := ["_law_box", "_law_few", "_law_many"]) F_l_word.fn rfl fun _ _ _ _ _ _ us hl => match us, hl with | [_, _, _], _ => rfl
  have F_l_put : Def K mg "_law_put" s_l_put f_l_put (PySem.W.fnOf "_law_put" "_law_put" (fnArgs s_l_put) (fnBody s_l_put) (fnScope s_l_put) .none kV_l_put dc_l_put pm_l_put an_l_put cd_l_put ct_l_put) := ⟨⟨_, _, _, _, _, _, _, _, _, _, rfl, l_l_put, c_l_put⟩, PySem.W.mg_of X G a_l_put, k_l_put⟩
  have b_l_put := C8.Fun.binds (ps := ["_law_rule_here", "_law_line"]) F_l_put.fn rfl fun _ _ _ _ _ _ us hl => match us, hl with | [_, _], _ => rfl
  have F_l_is_rule : Def K mg "_law_is_rule" s_l_is_rule f_l_is_rule (PySem.W.fnOf "_law_is_rule" "_law_is_rule" (fnArgs s_l_is_rule) (fnBody s_l_is_rule) (fnScope s_l_is_rule) .none kV_l_is_rule dc_l_is_rule pm_l_is_rule an_l_is_rule cd_l_is_rule ct_l_is_rule) := ⟨⟨_, _, _, _, _, _, _, _, _, _, rfl, l_l_is_rule, c_l_is_rule⟩, PySem.W.mg_of X G a_l_is_rule, k_l_is_rule⟩
  have b_l_is_rule := C8.Fun.binds (ps := ["_law_rule_here"]) F_l_is_rule.fn rfl fun _ _ _ _ _ _ us hl => match us, hl with | [_], _ => rfl
  have F_l_rule : Def K mg "_law_rule" s_l_rule f_l_rule (PySem.W.fnOf "_law_rule" "_law_rule" (fnArgs s_l_rule) (fnBody s_l_rule) (fnScope s_l_rule) .none kV_l_rule dc_l_rule pm_l_rule an_l_rule cd_l_rule ct_l_rule) := ⟨⟨_, _, _, _, _, _, _, _, _, _, rfl, l_l_rule, c_l_rule⟩, PySem.W.mg_of X G a_l_rule, k_l_rule⟩
  have b_l_rule := C8.Fun.binds (ps := ["_law_box", "_law_widest", "_law_longest_one"]) F_l_rule.fn rfl fun _ _ _ _ _ _ us hl => match us, hl with | [_, _, _], _ => rfl
  have F_l_made : Def K mg "_law_made" s_l_made f_l_made (PySem.W.fnOf "_law_made" "_law_made" (fnArgs s_l_made) (fnBody s_l_made) (fnScope s_l_made) .none kV_l_made dc_l_made pm_l_made an_l_made cd_l_made ct_l_made) := ⟨⟨_, _, _, _, _, _, _, _, _, _, rfl, l_l_made, c_l_made⟩, PySem.W.mg_of X G a_l_made, k_l_made⟩
  have b_l_made := C8.Fun.binds (ps := ["_law_rule_here"]) F_l_made.fn rfl fun _ _ _ _ _ _ us hl => match us, hl with | [_], _ => rfl
  have F_l_leaf : Def K mg "_law_leaf" s_l_leaf f_l_leaf (PySem.W.fnOf "_law_leaf" "_law_leaf" (fnArgs s_l_leaf) (fnBody s_l_leaf) (fnScope s_l_leaf) .none kV_l_leaf dc_l_leaf pm_l_leaf an_l_leaf cd_l_leaf ct_l_leaf) := ⟨⟨_, _, _, _, _, _, _, _, _, _, rfl, l_l_leaf, c_l_leaf⟩, PySem.W.mg_of X G a_l_leaf, k_l_leaf⟩
  have b_l_leaf := C8.Fun.binds (ps := ["_law_box"]) F_l_leaf.fn rfl fun _ _ _ _ _ _ us hl => match us, hl with | [_], _ => rfl
  have F_l_any : Def K mg "_law_any" s_l_any f_l_any (PySem.W.fnOf "_law_any" "_law_any" (fnArgs s_l_any) (fnBody s_l_any) (fnScope s_l_any) .none kV_l_any dc_l_any pm_l_any an_l_any cd_l_any ct_l_any) := ⟨⟨_, _, _, _, _, _, _, _, _, _, rfl, l_l_any, c_l_any⟩, PySem.W.mg_of X G a_l_any, k_l_any⟩
  have b_l_any := C8.Fun.binds (ps := ["_law_box", "_law_deep"]) F_l_any.fn rfl fun _ _ _ _ _ _ us hl => match us, hl with | [_, _], _ => rfl
  have F_l_is_bits : Def K mg "_law_is_bits" s_l_is_bits f_l_is_bits (PySem.W.fnOf "_law_is_bits" "_law_is_bits" (fnArgs s_l_is_bits) (fnBody s_l_is_bits) (fnScope s_l_is_bits) .none kV_l_is_bits dc_l_is_bits pm_l_is_bits an_l_is_bits cd_l_is_bits ct_l_is_bits) := ⟨⟨_, _, _, _, _, _, _, _, _, _, rfl, l_l_is_bits, c_l_is_bits⟩, PySem.W.mg_of X G a_l_is_bits, k_l_is_bits⟩
  have b_l_is_bits := C8.Fun.binds (ps := ["_law_word_here"]) F_l_is_bits.fn rfl fun _ _ _ _ _ _ us hl => match us, hl with | [_], _ => rfl
  have F_l_is_form : Def K mg "_law_is_form" s_l_is_form f_l_is_form (PySem.W.fnOf "_law_is_form" "_law_is_form" (fnArgs s_l_is_form) (fnBody s_l_is_form) (fnScope s_l_is_form) .none kV_l_is_form dc_l_is_form pm_l_is_form an_l_is_form cd_l_is_form ct_l_is_form) := ⟨⟨_, _, _, _, _, _, _, _, _, _, rfl, l_l_is_form, c_l_is_form⟩, PySem.W.mg_of X G a_l_is_form, k_l_is_form⟩
  have b_l_is_form := C8.Fun.binds (ps := ["_law_value"]) F_l_is_form.fn rfl fun _ _ _ _ _ _ us hl => match us, hl with | [_], _ => rfl
  have F_l_heard : Def K mg "_law_heard" s_l_heard f_l_heard (PySem.W.fnOf "_law_heard" "_law_heard" (fnArgs s_l_heard) (fnBody s_l_heard) (fnScope s_l_heard) .none kV_l_heard dc_l_heard pm_l_heard an_l_heard cd_l_heard ct_l_heard) := ⟨⟨_, _, _, _, _, _, _, _, _, _, rfl, l_l_heard, c_l_heard⟩, PySem.W.mg_of X G a_l_heard, k_l_heard⟩
  have b_l_heard := C8.Fun.binds (ps := ["_law_value"]) F_l_heard.fn rfl fun _ _ _ _ _ _ us hl => match us, hl with | [_], _ => rfl
  have F_l_bent : Def K mg "_law_bent" s_l_bent f_l_bent (PySem.W.fnOf "_law_bent" "_law_bent" (fnArgs s_l_bent) (fnBody s_l_bent) (fnScope s_l_bent) .none kV_l_bent dc_l_bent pm_l_bent an_l_bent cd_l_bent ct_l_bent) := ⟨⟨_, _, _, _, _, _, _, _, _, _, rfl, l_l_bent, c_l_bent⟩, PySem.W.mg_of X G a_l_bent, k_l_bent⟩
  have b_l_bent := C8.Fun.binds (ps := ["_law_box", "_law_words"]) F_l_bent.fn rfl fun _ _ _ _ _ _ us hl => match us, hl with | [_, _], _ => rfl
  have F_law : Def K mg "law" s_law f_law (PySem.W.fnOf "law" "law" (fnArgs s_law) (fnBody s_law) (fnScope s_law) .none kV_law dc_law pm_law an_law cd_law ct_law) := ⟨⟨_, _, _, _, _, _, _, _, _, _, rfl, l_law, c_law⟩, PySem.W.mg_of X G a_law, k_law⟩
  have b_law := C8.Fun.binds (ps := ["_law_script"]) F_law.fn rfl fun _ _ _ _ _ _ us hl => match us, hl with | [_], _ => rfl
  have TX_InvalidText : L2.OexC K C_InvalidText := ⟨⟨_, _, _, _, _, _, _, _, _, _, _, _, _, _, _, elk_InvalidText, erf_InvalidText⟩, sa_InvalidText, exC_InvalidText, tyC_InvalidText, kC_InvalidText⟩
  have EF_InvalidText : ExS.ExF l.prog K mg C_InvalidText "at" f_InvalidText cc_InvalidText cda_InvalidText file_InvalidText := ⟨TX_InvalidText, no_InvalidText, ⟨_, _, _, cell_InvalidText⟩, ⟨_, _, _, _, _, code_InvalidText, cfl_InvalidText⟩, fl_InvalidText, tp_InvalidText, sub_InvalidText, PySem.W.mg_none_of X G sup_InvalidText, opq_InvalidText, ini_InvalidText, ve_InvalidText⟩
  have XF_InvalidText : XfC K C_InvalidText := ⟨ega_InvalidText, egg_InvalidText, exC_InvalidText, ehd_InvalidText⟩
  have nw_InvalidText := no_InvalidText
  have g_InvalidText := PySem.W.mg_of X G aC_InvalidText
  have ex_InvalidText := PySem.W.exm_ref exC_InvalidText ehd_InvalidText tyC_InvalidText esb_InvalidText
  have TX_InvalidRule : L2.OexC K C_InvalidRule := ⟨⟨_, _, _, _, _, _, _, _, _, _, _, _, _, _, _, elk_InvalidRule, erf_InvalidRule⟩, sa_InvalidRule, exC_InvalidRule, tyC_InvalidRule, kC_InvalidRule⟩
  have EF_InvalidRule : ExS.ExF l.prog K mg C_InvalidRule "word" f_InvalidRule cc_InvalidRule cda_InvalidRule file_InvalidRule := ⟨TX_InvalidRule, no_InvalidRule, ⟨_, _, _, cell_InvalidRule⟩, ⟨_, _, _, _, _, code_InvalidRule, cfl_InvalidRule⟩, fl_InvalidRule, tp_InvalidRule, sub_InvalidRule, PySem.W.mg_none_of X G sup_InvalidRule, opq_InvalidRule, ini_InvalidRule, ve_InvalidRule⟩
  have XF_InvalidRule : XfC K C_InvalidRule := ⟨ega_InvalidRule, egg_InvalidRule, exC_InvalidRule, ehd_InvalidRule⟩
  have nw_InvalidRule := no_InvalidRule
  have g_InvalidRule := PySem.W.mg_of X G aC_InvalidRule
  have ex_InvalidRule := PySem.W.exm_ref exC_InvalidRule ehd_InvalidRule tyC_InvalidRule esb_InvalidRule
  have CL_Rule : Cls K C_Rule := ⟨pg_Rule, hd_Rule, po_Rule, sa_Rule⟩
  have F_Rule_put : C8.Fun K "put" "Rule.put" s_Rule_put f_Rule_put (PySem.W.fnOf "put" "Rule.put" (fnArgs s_Rule_put) (fnBody s_Rule_put) (fnScope s_Rule_put) .none kV_Rule_put dc_Rule_put pm_Rule_put an_Rule_put cd_Rule_put ct_Rule_put) := ⟨_, _, _, _, _, _, _, _, _, _, rfl, l_Rule_put, c_Rule_put⟩
  have b_Rule_put := C8.Fun.binds (ps := ["self", "line"]) F_Rule_put rfl fun _ _ _ _ _ _ us hl => match us, hl with | [_, _], _ => rfl
  have F_Rule_longest : C8.Fun K "longest" "Rule.longest" s_Rule_longest f_Rule_longest (PySem.W.fnOf "longest" "Rule.longest" (fnArgs s_Rule_longest) (fnBody s_Rule_longest) (fnScope s_Rule_longest) .none kV_Rule_longest dc_Rule_longest pm_Rule_longest an_Rule_longest cd_Rule_longest ct_Rule_longest) := ⟨_, _, _, _, _, _, _, _, _, _, rfl, l_Rule_longest, c_Rule_longest⟩
  have b_Rule_longest := C8.Fun.binds (ps := ["self"]) F_Rule_longest rfl fun _ _ _ _ _ _ us hl => match us, hl with | [_], _ => rfl
  have F_Rule_put_in : C8.Fun K "put_in" "Rule.put_in" s_Rule_put_in f_Rule_put_in (PySem.W.fnOf "put_in" "Rule.put_in" (fnArgs s_Rule_put_in) (fnBody s_Rule_put_in) (fnScope s_Rule_put_in) .none kV_Rule_put_in dc_Rule_put_in pm_Rule_put_in an_Rule_put_in cd_Rule_put_in ct_Rule_put_in) := ⟨_, _, _, _, _, _, _, _, _, _, rfl, l_Rule_put_in, c_Rule_put_in⟩
  have b_Rule_put_in := C8.Fun.binds (ps := ["self", "line"]) F_Rule_put_in rfl fun _ _ _ _ _ _ us hl => match us, hl with | [_, _], _ => rfl
  have F_Rule_is_endless : C8.Fun K "is_endless" "Rule.is_endless" s_Rule_is_endless f_Rule_is_endless (PySem.W.fnOf "is_endless" "Rule.is_endless" (fnArgs s_Rule_is_endless) (fnBody s_Rule_is_endless) (fnScope s_Rule_is_endless) .none kV_Rule_is_endless dc_Rule_is_endless pm_Rule_is_endless an_Rule_is_endless cd_Rule_is_endless ct_Rule_is_endless) := ⟨_, _, _, _, _, _, _, _, _, _, rfl, l_Rule_is_endless, c_Rule_is_endless⟩
  have b_Rule_is_endless := C8.Fun.binds (ps := ["self"]) F_Rule_is_endless rfl fun _ _ _ _ _ _ us hl => match us, hl with | [_], _ => rfl
  have F_Rule_init : C8.Fun K "__init__" "Rule.__init__" s_Rule_init f_Rule_init (PySem.W.fnOf "__init__" "Rule.__init__" (fnArgs s_Rule_init) (fnBody s_Rule_init) (fnScope s_Rule_init) (.ref dT_Rule_init) kV_Rule_init dc_Rule_init pm_Rule_init an_Rule_init cd_Rule_init ct_Rule_init) := ⟨_, _, _, _, _, _, _, _, _, _, rfl, l_Rule_init, c_Rule_init⟩
  have FD_Rule_init : FunD K "__init__" "Rule.__init__" (fnArgs s_Rule_init) (fnBody s_Rule_init) (fnScope s_Rule_init) [.ref dE_R] [] f_Rule_init (PySem.W.fnOf "__init__" "Rule.__init__" (fnArgs s_Rule_init) (fnBody s_Rule_init) (fnScope s_Rule_init) (.ref dT_Rule_init) kV_Rule_init dc_Rule_init pm_Rule_init an_Rule_init cd_Rule_init ct_Rule_init) := ⟨⟨_, _, _, _, _, _, _, _, _, _, rfl, l_Rule_init, c_Rule_init, .inr ⟨List.cons_ne_nil _ _, _, _, _, _, rfl, dl_Rule_init, rfl, .cons rfl .nil⟩, .inl rfl⟩, k_Rule_init⟩
  obtain ⟨ds0_Rule_init, vd0_Rule_init, bd0_Rule_init⟩ := FD_Rule_init.binds1 (ps := ["self", "flag", "stuffs"]) 2 0 (List.cons_ne_nil _ _) rfl fun _ _ _ _ _ _ _ us its h1 h2 => match us, its, h1, h2 with | [_, _], [_], _, _ => ⟨_, rfl, rfl⟩
  obtain ⟨ds1_Rule_init, vd1_Rule_init, bd1_Rule_init⟩ := FD_Rule_init.binds1 (ps := ["self", "flag", "stuffs"]) 3 1 (List.cons_ne_nil _ _) rfl fun _ _ _ _ _ _ _ us its h1 h2 => match us, its, h1, h2 with | [_, _, _], [_], _, _ => ⟨_, rfl, rfl⟩
  have F_Rule_read : C8.Fun K "read" "Rule.read" s_Rule_read f_Rule_read (PySem.W.fnOf "read" "Rule.read" (fnArgs s_Rule_read) (fnBody s_Rule_read) (fnScope s_Rule_read) .none kV_Rule_read dc_Rule_read pm_Rule_read an_Rule_read cd_Rule_read ct_Rule_read) := ⟨_, _, _, _, _, _, _, _, _, _, rfl, l_Rule_read, c_Rule_read⟩
  have b_Rule_read := C8.Fun.binds (ps := ["cls", "text"]) F_Rule_read rfl fun _ _ _ _ _ _ us hl => match us, hl with | [_, _], _ => rfl
  have F_Rule_str : C8.Fun K "__str__" "Rule.__str__" s_Rule_str f_Rule_str (PySem.W.fnOf "__str__" "Rule.__str__" (fnArgs s_Rule_str) (fnBody s_Rule_str) (fnScope s_Rule_str) .none kV_Rule_str dc_Rule_str pm_Rule_str an_Rule_str cd_Rule_str ct_Rule_str) := ⟨_, _, _, _, _, _, _, _, _, _, rfl, l_Rule_str, c_Rule_str⟩
  have b_Rule_str := C8.Fun.binds (ps := ["self"]) F_Rule_str rfl fun _ _ _ _ _ _ us hl => match us, hl with | [_], _ => rfl
  refine ⟨PySem.W.fnOf "law" "law" (fnArgs s_law) (fnBody s_law) (fnScope s_law) .none kV_law dc_law pm_law an_law cd_law ct_law, fun s v => .of_eq rfl, fun base _ _ => ?_⟩
  have RT : RuT K C_Rule := ⟨CL_Rule, n_Rule_flag, n_Rule_stuffs⟩
  have IS_Rule : IsT K C_Rule := ⟨CL_Rule, cls_Rule, clg_X, clt_X, mro_Rule⟩
  have kon_rule_str := kon_rs
  have c_l_seed := cal_l_seed (P := l.prog) (w := w) (base := base) F_l_seed b_l_seed T
  have c_l_choose := cal_l_choose (P := l.prog) (w := w) (base := base) F_l_choose b_l_choose T
  have c_l_one_of := cal_l_one_of (P := l.prog) (w := w) (base := base) F_l_one_of b_l_one_of T c_l_choose
  have c_l_word := cal_l_word (P := l.prog) (w := w) (base := base) F_l_word b_l_word T c_l_choose c_l_one_of
  have c_l_put := cal_l_put (P := l.prog) (w := w) (base := base) F_l_put b_l_put T
  have c_l_is_rule := cal_l_is_rule (P := l.prog) (w := w) (base := base) F_l_is_rule b_l_is_rule T c_l_put
  have c_l_rule := cal_l_rule (P := l.prog) (w := w) (base := base) F_l_rule b_l_rule T c_l_choose c_l_one_of c_l_word c_l_is_rule
  have g_BITS := PySem.W.mg_of X G gBITS
  have c_is_word := cal_is_word (P := l.prog) (w := w) (base := base) F_is_word b_is_word T g_BITS
  have c_is_sequence := cal_is_sequence (P := l.prog) (w := w) (base := base) F_is_sequence b_is_sequence T
  have c_is_bit := cal_is_bit (P := l.prog) (w := w) (base := base) F_is_bit b_is_bit T c_is_word
  have c_is_stuff := cal_is_stuff (P := l.prog) (w := w) (base := base) F_is_stuff b_is_stuff T c_is_word c_is_bit
  have c_are_stuffs := cal_are_stuffs (P := l.prog) (w := w) (base := base) F_are_stuffs b_are_stuffs T c_is_sequence c_is_stuff
  have c_put := met_put (P := l.prog) (w := w) (base := base) F_Rule_put ⟨a_Rule_put, i_Rule_put, k_Rule_put⟩ b_Rule_put T RT
  have p_longest : Prp l.prog w K mg base 1 C_Rule "longest" (spLongest C_Rule) := ⟨_, _, _, _, CL_Rule, ⟨a_Rule_longest, g_Rule_longest, t_Rule_longest, ⟨_, r_Rule_longest⟩⟩, ok_longest F_Rule_longest T RT, b_Rule_longest⟩
  have c_tail := cal_tail (P := l.prog) (w := w) (base := base) F_tail b_tail T
  have c_put_in := met_put_in (P := l.prog) (w := w) (base := base) F_Rule_put_in ⟨a_Rule_put_in, i_Rule_put_in, k_Rule_put_in⟩ b_Rule_put_in T RT c_put p_longest c_tail
  have c_is_endless := met_is_endless (P := l.prog) (w := w) (base := base) F_Rule_is_endless ⟨a_Rule_is_endless, i_Rule_is_endless, k_Rule_is_endless⟩ b_Rule_is_endless T RT g_BITS c_put_in p_longest c_tail
  have M_Rule : Mk K C_Rule f_Rule_init := ⟨mk_Rule, a_Rule_init, i_Rule_init, kc_Rule⟩
  have i_ok_Rule := ok_Rule_init (P := l.prog) (w := w) (base := base) F_Rule_init T RT c_is_word c_are_stuffs c_is_endless
  have m_Rule2 : Mak l.prog w K mg base 5 "Rule" C_Rule (spRuInit K C_Rule) [] := ⟨_, _, _, _, M_Rule, i_ok_Rule, PySem.W.mg_of X G aC_Rule, bd1_Rule_init, vd1_Rule_init⟩
  have c_l_made := cal_l_made (P := l.prog) (w := w) (base := base) F_l_made b_l_made T m_Rule2
  have c_l_leaf := cal_l_leaf (P := l.prog) (w := w) (base := base) F_l_leaf b_l_leaf T c_l_one_of
  have c_l_any := cal_l_any (P := l.prog) (w := w) (base := base) F_l_any b_l_any T c_l_choose c_l_leaf
  have c_l_is_bits := cal_l_is_bits (P := l.prog) (w := w) (base := base) F_l_is_bits b_l_is_bits T
  have c_l_is_form := cal_l_is_form (P := l.prog) (w := w) (base := base) F_l_is_form b_l_is_form T c_l_is_bits
  have exn_rule_text := PySem.W.exm_ref exC_InvalidText ehd_InvalidText tyC_InvalidText esb_rt
  have gi_FlipError := PySem.W.mg_of X G aGI_FlipError
  have gi_InvalidRule := PySem.W.mg_of X G aGI_InvalidRule
  have xc_InvalidText : L2.ExcC K C_InvalidText := ⟨xg_InvalidText, xk_InvalidText, xs_InvalidText, xd_InvalidText, xa_InvalidText, clg_X, clt_X, xm_InvalidText⟩
  have kon_text_flip := kon_tf
  have kon_text_rule := kon_tr
  have x_InvalidText : ExS.XMk l.prog w K mg base 1 "InvalidText" C_InvalidText "at" := ⟨f_InvalidText, _, ["self", "at"], TX_InvalidText, a_InvalidText, t_InvalidText, ExS.fn_exc (self := "self") (word := "at") (text := "the text cannot be read") (k := 0) EF_InvalidText lk_InvalidText cd_InvalidText (NdefX.nscope_by (by decide +kernel)) (by decide +kernel) rfl rfl ⟨_, _, _, _, _, _, _, _, _, _, _, _, rfl, rfl⟩ (by decide) (by decide) (by decide) (by decide), .all (fun us hl => match us, hl with | [_, _], _ => rfl), g_InvalidText⟩
  have c_is_bitZ := cal_is_bitZ (P := l.prog) (w := w) (base := base) F_is_bit b_is_bit T c_is_word
  have c_is_stuffZ := cal_is_stuffZ (P := l.prog) (w := w) (base := base) F_is_stuff b_is_stuff T c_is_word c_is_bitZ
  have c_stuff_inZ := cal_stuff_inZ (P := l.prog) (w := w) (base := base) F_stuff_in b_stuff_in T c_is_stuffZ
  have x_InvalidRule : ExS.XMk l.prog w K mg base 1 "InvalidRule" C_InvalidRule "word" := ⟨f_InvalidRule, _, ["self", "word"], TX_InvalidRule, a_InvalidRule, t_InvalidRule, ExS.fn_exc (self := "self") (word := "word") (text := "wrong argument of a rule") (k := 0) EF_InvalidRule lk_InvalidRule cd_InvalidRule (NdefX.nscope_by (by decide +kernel)) (by decide +kernel) rfl rfl ⟨_, _, _, _, _, _, _, _, _, _, _, _, rfl, rfl⟩ (by decide) (by decide) (by decide) (by decide), .all (fun us hl => match us, hl with | [_, _], _ => rfl), g_InvalidRule⟩
  have c_is_bitX := cal_is_bitX (P := l.prog) (w := w) (base := base) F_is_bit b_is_bit T c_is_word
  have c_is_stuffX := cal_is_stuffX (P := l.prog) (w := w) (base := base) F_is_stuff b_is_stuff T c_is_word c_is_bitX
  have c_are_stuffsX := cal_are_stuffsX (P := l.prog) (w := w) (base := base) F_are_stuffs b_are_stuffs T c_is_sequence c_is_stuffX
  have c_put_inX := met_put_inX (P := l.prog) (w := w) (base := base) F_Rule_put_in ⟨a_Rule_put_in, i_Rule_put_in, k_Rule_put_in⟩ b_Rule_put_in T RT c_put p_longest c_tail
  have c_is_endlessX := met_is_endlessX (P := l.prog) (w := w) (base := base) F_Rule_is_endless ⟨a_Rule_is_endless, i_Rule_is_endless, k_Rule_is_endless⟩ b_Rule_is_endless T RT g_BITS c_put_inX p_longest c_tail
  have i_okX_Rule := ok_Rule_initY (P := l.prog) (w := w) (base := base) F_Rule_init T RT x_InvalidRule c_is_word c_are_stuffsX c_is_endlessX
  have mX_Rule2 : ExS.MakX l.prog w K mg base 5 "Rule" C_Rule (spRuInitY K C_Rule C_InvalidRule) [] := ⟨_, _, _, _, M_Rule, i_okX_Rule, PySem.W.mg_of X G aC_Rule, bd1_Rule_init, vd1_Rule_init⟩
  have cmT_Rule_read : ExS.CMtT l.prog w K mg base 7 "Rule" C_Rule "read" (spRuReadX K C_Rule C_InvalidText C_InvalidRule) := ⟨_, _, _, _, _, PySem.W.mg_of X G aC_Rule, ⟨rd_Rule, ga_Rule⟩, ⟨a_Rule_read, ⟨_, r_Rule_read⟩, fi_Rule_read⟩, okT_Rule_read (P := l.prog) (w := w) (base := base) F_Rule_read T RT x_InvalidText c_is_word c_stuff_inZ mX_Rule2, b_Rule_read⟩
  have c_Rule_str := met_Rule_str (P := l.prog) (w := w) (base := base) F_Rule_str ⟨a_Rule_str, i_Rule_str, k_Rule_str⟩ b_Rule_str T RT
  have c_l_heard := cal_l_heard (P := l.prog) (w := w) (base := base) F_l_heard b_l_heard T g_InvalidText g_InvalidRule ex_InvalidText ex_InvalidRule exn_rule_text XF_InvalidText nw_InvalidText XF_InvalidRule nw_InvalidRule gi_FlipError gi_InvalidRule xc_InvalidText kon_text_flip kon_text_rule cmT_Rule_read c_Rule_str
  have c_l_bent := cal_l_bent (P := l.prog) (w := w) (base := base) F_l_bent b_l_bent T c_l_choose c_l_one_of
  exact ok_law F_law T RT IS_Rule kon_rule_str c_l_seed c_l_rule c_l_is_rule c_l_made c_l_one_of c_l_any c_l_is_form c_l_heard c_l_bent c_Rule_str
theorem walk {l : PySem.W.OpenLaw} {q : Program} {loose : List Str} {XP : (Str → Option Value) → Heap → Prop} {YP : World → Heap → Prop} {d : DefRec} {K : Params → PySem.W.Frag} (hn : l.most = some 63) (hdf : d.params.defaults = [])
    (hY : ∀ (w : World) (h : Heap), YP w h → (K w.params).In h)
    (F : ∀ (w : World) (mg : Str → Option Value) (fa : Addr) (h : Heap), (K w.params).In h → h.Ns mainGlobals mg → mg d.name = some (.ref fa) →
      ∃ fd : FuncData, (∀ (s : Shared) (u : Value), BindsTo s fd ⟨[u], []⟩ [("_law_script", u)]) ∧ ∀ base : Heap, (K w.params).In base → base.Ns mainGlobals mg → FnOk l.prog w (K w.params) mg base CX0 13 fa fd ["_law_script"] (spLaw (K w.params))) :
    PySem.W.WalkO q loose XP YP l.row.toRowW d [] (fun f vs => PySem.call f vs) :=
  L2.walk_of (n := 63) (k := 13) (x := "_law_script") (CX := fun _ => CX0) (sp := fun w => spLaw (K w.params)) hn (by decide) hdf ⟨rfl, by decide, by decide⟩ hY F (fun _ _ a ns hl _ hS => ⟨a, ns, rfl, hS, hl, fun _ => rfl⟩) fun _ _ _ _ _ z => z
end U
open PySem PySem.W PyProof.Rows
def PySem.W.Fast.tw3231692358803503994 : Unit := ()
def PySem.W.Fast.tw14532606596674488117 : Unit := ()
def PySem.W.Fast.tw16983914427867129567 : Unit := ()
def PySem.W.Fast.tw15515909995915341568 : Unit := ()
def PySem.W.Fast.tw15812735449231517796 : Unit := ()
def PySem.W.Fast.tw12987841808135681580 : Unit := ()
def PySem.W.Fast.tw6604952772590617808 : Unit := ()
def PySem.W.Fast.tw5414646943359406768 : Unit := ()
def PySem.W.Fast.tw6012638283366806701 : Unit := ()
def PySem.W.Fast.tw3353790655831899690 : Unit := ()
def PySem.W.Fast.tw12108245752621844361 : Unit := ()
def PySem.W.Fast.tw9420966495234587555 : Unit := ()
def PySem.W.Fast.tw10191805229467473389 : Unit := ()
def PySem.W.Fast.tw4286747330543841592 : Unit := ()
def PySem.W.Fast.tw18362043732554387864 : Unit := ()
def PySem.W.Fast.tw16151210574144145054 : Unit := ()
def PySem.W.Fast.tw8174329979760745551 : Unit := ()
def PySem.W.Fast.tw15054899877673136627 : Unit := ()
def PySem.W.Fast.tw16394218856548777643 : Unit := ()
def PySem.W.Fast.tw7872747499697492907 : Unit := ()
def PySem.W.Fast.tw13738604965138496353 : Unit := ()
def PySem.W.Fast.tw13355139126531377244 : Unit := ()
def PySem.W.Fast.tw10873176517330173972 : Unit := ()
def PySem.W.Fast.tw17953160982701450938 : Unit := ()
def PySem.W.Fast.tw2221102117194511603 : Unit := ()
def PySem.W.Fast.tw3117969232757001973 : Unit := ()
def PySem.W.Fast.tw17000174621771385562 : Unit := ()
def PySem.W.Fast.tw18207591411744991775 : Unit := ()
def PySem.W.Fast.tw15084210202020763864 : Unit := ()
def PySem.W.Fast.tw5471286991664657965 : Unit := ()
def PySem.W.Fast.tw4039078875671280147 : Unit := ()
def PySem.W.Fast.tw10739501978938075004 : Unit := ()
def PySem.W.Fast.tw16543210503942956609 : Unit := ()
def PySem.W.Fast.tw7788218286647170422 : Unit := ()
def PySem.W.Fast.tw12161826865296335888 : Unit := ()
def PySem.W.Fast.tw6803248785869054313 : Unit := ()
def PySem.W.Fast.tw16118036138235236076 : Unit := ()
def PySem.W.Fast.tw7711214532767871325 : Unit := ()
def PySem.W.Fast.tw4302701548175266142 : Unit := ()
def PySem.W.Fast.tw10782383833605636459 : Unit := ()
def PySem.W.Fast.tw13659078503506770458 : Unit := ()
def PySem.W.Fast.tw12445538525944787999 : Unit := ()
def PySem.W.Fast.tw16451030315290970729 : Unit := ()
def PySem.W.Fast.tw9286888991322399690 : Unit := ()
def PySem.W.Fast.tw11134046856393258139 : Unit := ()
def PySem.W.Fast.tw9586084022836479472 : Unit := ()
def PySem.W.Fast.tw10275486513135162536 : Unit := ()
def PySem.W.Fast.tw5394512395673520259 : Unit := ()
def PySem.W.Fast.tw16509837668462072861 : Unit := ()
def PySem.W.Fast.tw11675089492070806132 : Unit := ()
def PySem.W.Fast.tw13921796677110112789 : Unit := ()
def PySem.W.Fast.tw9542445563594688901 : Unit := ()
def PySem.W.Fast.tw15540365435970327150 : Unit := ()
def PySem.W.Fast.tw2814136100863383986 : Unit := ()
def PySem.W.Fast.tw11032288601520905113 : Unit := ()
def PySem.W.Fast.tw9503376755829355673 : Unit := ()
def PySem.W.Fast.tw17781569459198330826 : Unit := ()
def PySem.W.Fast.tw4333604778590395571 : Unit := ()
def PySem.W.Fast.tw4166725778598198935 : Unit := ()
def PySem.W.Fast.tw13798444656185353231 : Unit := ()
def PySem.W.Fast.tw228357083528703548 : Unit := ()
def PySem.W.Fast.tw16476523943455357610 : Unit := ()
def PySem.W.Fast.tw16295707947465452260 : Unit := ()
def PySem.W.Fast.tw7302842365248360000 : Unit := ()
def PySem.W.Fast.tw5796899484786970988 : Unit := ()
def PySem.W.Fast.tw5661745771137936505 : Unit := ()
def PySem.W.Fast.tw12543782575058056525 : Unit := ()
def PySem.W.Fast.tw6627030297459993120 : Unit := ()
def PySem.W.Fast.tw3453067635838870896 : Unit := ()
def PySem.W.Fast.tw5923982953249554785 : Unit := ()
def PySem.W.Fast.tw8258990052105924965 : Unit := ()
def PySem.W.Fast.tw12445099149806491065 : Unit := ()
def PySem.W.Fast.tw15131923079254457107 : Unit := ()
def PySem.W.Fast.tw10159728662471631883 : Unit := ()
def PySem.W.Fast.tw7478041219476536628 : Unit := ()
def PySem.W.Fast.tw3338740159048333257 : Unit := ()
def PySem.W.Fast.tw16339658788375575401 : Unit := ()
def PySem.W.Fast.tw17710219042199928858 : Unit := ()
def PySem.W.Fast.tw5197967280499643981 : Unit := ()
def PySem.W.Fast.tw3270207037802273505 : Unit := ()
def PySem.W.Fast.tw732789004374329844 : Unit := ()
def PySem.W.Fast.tw340943318083787115 : Unit := ()
def PySem.W.Fast.tw6743487644343414881 : Unit := ()
def PySem.W.Fast.tw15925098083779396000 : Unit := ()
def PySem.W.Fast.tw17075261621117544688 : Unit := ()
def PySem.W.Fast.tw10765643081705666634 : Unit := ()
def PySem.W.Fast.tw7863711825767369309 : Unit := ()
def PySem.W.Fast.tw11572706454452497092 : Unit := ()
def PySem.W.Fast.tw11072343058226845823 : Unit := ()
def PySem.W.Fast.tw3012069880039156982 : Unit := ()
def PySem.W.Fast.tw15350387232458960426 : Unit := ()
def PySem.W.Fast.tw6310016338052276361 : Unit := ()
def PySem.W.Fast.tw2576085443700770803 : Unit := ()
def PySem.W.Fast.tw6765418677432533033 : Unit := ()
def PySem.W.Fast.tw5295202942770105435 : Unit := ()
def PySem.W.Fast.tw365957570594217994 : Unit := ()
def PySem.W.Fast.tw3612505079129764971 : Unit := ()
def PySem.W.Fast.tw3739901326469294249 : Unit := ()
def PySem.W.Fast.tw10725815493612335505 : Unit := ()
def PySem.W.Fast.tw8771816588909899463 : Unit := ()
def PySem.W.Fast.tw15020575264754100789 : Unit := ()
def PySem.W.Fast.tw227510272168859308 : Unit := ()
def PySem.W.Fast.tw17432666071887737792 : Unit := ()
def PySem.W.Fast.tw7613546154899867638 : Unit := ()
def PySem.W.Fast.tw16191009142015884837 : Unit := ()
def PySem.W.Fast.tw397793779031844308 : Unit := ()
def PySem.W.Fast.tw13356437262819006715 : Unit := ()
def PySem.W.Fast.tw18226055781941968898 : Unit := ()
def PySem.W.Fast.tw844924091677499514 : Unit := ()
def PySem.W.Fast.tw548614111865640022 : Unit := ()
def PySem.W.Fast.tw4736464133554197940 : Unit := ()
def PySem.W.Fast.tw11389969873520245158 : Unit := ()
def PySem.W.Fast.tw4756281924317172434 : Unit := ()
def PySem.W.Fast.tw5157997641937454675 : Unit := ()
def PySem.W.Fast.tw17102440018169681572 : Unit := ()
def PySem.W.Fast.tw4791942153971410671 : Unit := ()
def PySem.W.Fast.tw12447993491983331219 : Unit := ()
def PySem.W.Fast.tw12875555758368416888 : Unit := ()
def PySem.W.Fast.tw17390200228990559027 : Unit := ()
def PySem.W.Fast.tw10584346281539890242 : Unit := ()
def PySem.W.Fast.tw4526567985154796984 : Unit := ()
def PySem.W.Fast.tw6961796118030539830 : Unit := ()
def PySem.W.Fast.tw18185325589929337245 : Unit := ()
def PySem.W.Fast.tw6749436284481737046 : Unit := ()
def PySem.W.Fast.tw18360377952943114635 : Unit := ()
def PySem.W.Fast.tw12084184111778614113 : Unit := ()
def PySem.W.Fast.tw10967833099873395397 : Unit := ()
def PySem.W.Fast.tw12249972107154257458 : Unit := ()
def PySem.W.Fast.tw14235627383844844598 : Unit := ()
def PySem.W.Fast.tw5271666412987412148 : Unit := ()
def PySem.W.Fast.tw890400396457744395 : Unit := ()
def PySem.W.Fast.tw14876660287340390002 : Unit := ()
def PySem.W.Fast.tw9522854864870089314 : Unit := ()
def PySem.W.Fast.tw3543644777541655232 : Unit := ()
def PySem.W.Fast.tw9370714428879520102 : Unit := ()
def PySem.W.Fast.tw9603903063366086683 : Unit := ()
def PySem.W.Fast.tw8934452416233168873 : Unit := ()
def PySem.W.Fast.tw15346209525438969313 : Unit := ()
def PySem.W.Fast.tw6371143755106459047 : Unit := ()
def PySem.W.Fast.tw2484608029955540552 : Unit := ()
def PySem.W.Fast.tw15977741126943640113 : Unit := ()
def PySem.W.Fast.tw14088539879473456896 : Unit := ()
def PySem.W.Fast.tw9286027858740182573 : Unit := ()
def PySem.W.Fast.tw969870783608099234 : Unit := ()
def PySem.W.Fast.tw46379967653209883 : Unit := ()
def PySem.W.Fast.tw13979177327302936546 : Unit := ()
def PySem.W.Fast.tw9341171744314090998 : Unit := ()
def PySem.W.Fast.tw9474118141671414248 : Unit := ()
def PySem.W.Fast.tw7132274582745934902 : Unit := ()
def PySem.W.Fast.tw16729577186936989533 : Unit := ()
def PySem.W.Fast.tw16905072652897498343 : Unit := ()
def PySem.W.Fast.tw3436814518888272697 : Unit := ()
def PySem.W.Fast.tw1221952238672789230 : Unit := ()
def PySem.W.Fast.tw5530581375598639037 : Unit := ()
def PySem.W.Fast.tw3364316895625953679 : Unit := ()
def PySem.W.Fast.tw18229351777099638976 : Unit := ()
def PySem.W.Fast.tw13734275760907710471 : Unit := ()
def PySem.W.Fast.tw7597262924515373338 : Unit := ()
def PySem.W.Fast.tw7341630443609507384 : Unit := ()
def PySem.W.Fast.tw5949514080737285046 : Unit := ()
def PySem.W.Fast.tw17557225530081837101 : Unit := ()
def PySem.W.Fast.tw6089403915463864120 : Unit := ()
def PySem.W.Fast.tw7649500254538566664 : Unit := ()
def PySem.W.Fast.tw17851143680714669118 : Unit := ()
def PySem.W.Fast.tw5997021462513412220 : Unit := ()
def PySem.W.Fast.tw5233862351901987713 : Unit := ()
def PySem.W.Fast.tw15614019943661317094 : Unit := ()
def PySem.W.Fast.tw7823289479494765687 : Unit := ()
def PySem.W.Fast.tw16359768805367725353 : Unit := ()
def PySem.W.Fast.tw14111847186692553164 : Unit := ()
def PySem.W.Fast.tw2128836098829118867 : Unit := ()
def PySem.W.Fast.tw10876212858212689807 : Unit := ()
def PySem.W.Fast.tw13229140391763652920 : Unit := ()
def PySem.W.Fast.tw14373498178934341209 : Unit := ()
def PySem.W.Fast.tw7824799883677030313 : Unit := ()
def PySem.W.Fast.tw15373270876758558914 : Unit := ()
def PySem.W.Fast.tw16162745905684134656 : Unit := ()
def PySem.W.Fast.tw7191934470482980696 : Unit := ()
def PySem.W.Fast.tw9135600511126583445 : Unit := ()
def PySem.W.Fast.tw6605032462284643192 : Unit := ()
def PySem.W.Fast.tw16448060099794868306 : Unit := ()
def PySem.W.Fast.tw2485123053088760413 : Unit := ()
def PySem.W.Fast.tw17771868839931495813 : Unit := ()
def PySem.W.Fast.tw16807067943410354000 : Unit := ()
def PySem.W.Fast.tw1962046719635180665 : Unit := ()
def PySem.W.Fast.tw2387387026291009767 : Unit := ()
def PySem.W.Fast.tw3873530141550515779 : Unit := ()
def PySem.W.Fast.tw2976025893629154756 : Unit := ()
def PySem.W.Fast.tw5683793431646871026 : Unit := ()
def PySem.W.Fast.tw15332991301572851617 : Unit := ()
def PySem.W.Fast.tw1853583239205463904 : Unit := ()
def PySem.W.Fast.tw3120851197729943187 : Unit := ()
def PySem.W.Fast.tw5618044259395739873 : Unit := ()
def PySem.W.Fast.tw6365552572215245315 : Unit := ()
def PySem.W.Fast.tw11312462479861206693 : Unit := ()
def PySem.W.Fast.tw15227991569086958664 : Unit := ()
def PySem.W.Fast.tw3459308940404723046 : Unit := ()
def PySem.W.Fast.tw1527601267665479250 : Unit := ()
def PySem.W.Fast.tw11219281625858505059 : Unit := ()
def PySem.W.Fast.tw3548532787184154300 : Unit := ()
def PySem.W.Fast.tw8150979658791306069 : Unit := ()
def PySem.W.Fast.tw2409400539167701874 : Unit := ()
def PySem.W.Fast.tw9571883907961083899 : Unit := ()
def PySem.W.Fast.tw13996632850911710286 : Unit := ()
def PySem.W.Fast.tw362841327926790956 : Unit := ()
def PySem.W.Fast.tw14518930862320592592 : Unit := ()
def PySem.W.Fast.tw15733477028360944222 : Unit := ()
def PySem.W.Fast.tw10359093002061696090 : Unit := ()
def PySem.W.Fast.tw16843836249736053357 : Unit := ()
def PySem.W.Fast.tw4972758360216446438 : Unit := ()
def PySem.W.Fast.tw8318686412352297491 : Unit := ()
def PySem.W.Fast.tw17922125198375255666 : Unit := ()
def PySem.W.Fast.tw12883797340766857213 : Unit := ()
def PySem.W.Fast.tw6029873447596234147 : Unit := ()
def PySem.W.Fast.tw9765235716095225907 : Unit := ()
def PySem.W.Fast.tw18007423822554263695 : Unit := ()
def PySem.W.Fast.tw925798823533178014 : Unit := ()
def PySem.W.Fast.tw4878292308069292107 : Unit := ()
def PySem.W.Fast.tw12300351960157575529 : Unit := ()
def PySem.W.Fast.tw1905087590276731739 : Unit := ()
def PySem.W.Fast.tw12535391206255849480 : Unit := ()
def PySem.W.Fast.tw12645980805657968898 : Unit := ()
def PySem.W.Fast.tw15103669049822920463 : Unit := ()
def PySem.W.Fast.tw13091102962104072343 : Unit := ()
def PySem.W.Fast.tw13862817616140064927 : Unit := ()
def PySem.W.Fast.tw16180874602689797611 : Unit := ()
def PySem.W.Fast.tw10243001736293798343 : Unit := ()
def PySem.W.Fast.tw12699921817900361707 : Unit := ()
def PySem.W.Fast.tw16946469975699761078 : Unit := ()
def PySem.W.Fast.tw13416425086447977524 : Unit := ()
def PySem.W.Fast.tw8600300883140896952 : Unit := ()
def PySem.W.Fast.tw433076426631764714 : Unit := ()
def PySem.W.Fast.tw17706058064682233536 : Unit := ()
def PySem.W.Fast.tw10883302098789511571 : Unit := ()
def PySem.W.Fast.tw17089137044449803707 : Unit := ()
def PySem.W.Fast.tw3128007257645276547 : Unit := ()
def PySem.W.Fast.tw7914777405395371695 : Unit := ()
def PySem.W.Fast.tw2986733558301833233 : Unit := ()
def PySem.W.Fast.tw15400907524872617509 : Unit := ()
def PySem.W.Fast.tw485354052600673935 : Unit := ()
def PySem.W.Fast.tw7795148168822256599 : Unit := ()
def PySem.W.Fast.tw10455777030974806560 : Unit := ()
def PySem.W.Fast.tw6726143857179884049 : Unit := ()
def PySem.W.Fast.tw211568478972001832 : Unit := ()
def PySem.W.Fast.tw5093563596341462976 : Unit := ()
def PySem.W.Fast.tw5625003143638932987 : Unit := ()
def PySem.W.Fast.tw16699639684765287428 : Unit := ()
def PySem.W.Fast.tw1008969763270871596 : Unit := ()
def PySem.W.Fast.tw14564735785989642421 : Unit := ()
def PySem.W.Fast.tw8941303598417919202 : Unit := ()
def PySem.W.Fast.tw12512208737321776374 : Unit := ()
def PySem.W.Fast.tw8304690641273665430 : Unit := ()
def PySem.W.Fast.tw16585979684038186975 : Unit := ()
def PySem.W.Fast.tw9047804197009727838 : Unit := ()
def PySem.W.Fast.tw8837414401844205987 : Unit := ()
def PySem.W.Fast.tw9712950838493854032 : Unit := ()
def PySem.W.Fast.tw11680068661690175606 : Unit := ()
def PySem.W.Fast.tw2574059294567037264 : Unit := ()
def PySem.W.Fast.tw15513590083975737307 : Unit := ()
def PySem.W.Fast.tw15043541187194812207 : Unit := ()
def PySem.W.Fast.tw15722279705397680386 : Unit := ()
def PySem.W.Fast.tw1157460327868922693 : Unit := ()
def PySem.W.Fast.tw13549774580510841809 : Unit := ()
def PySem.W.Fast.tw2289776056733160681 : Unit := ()
def PySem.W.Fast.tw13336384439757711032 : Unit := ()
def PySem.W.Fast.tw10746951059785253244 : Unit := ()
def PySem.W.Fast.tw7681219722079141833 : Unit := ()
def PySem.W.Fast.tw5043185586770995125 : Unit := ()
def PySem.W.Fast.tw6297656972018496528 : Unit := ()
def PySem.W.Fast.tw17039101507545213832 : Unit := ()
def PySem.W.Fast.tw53455087002888380 : Unit := ()
def PySem.W.Fast.tw12879985651442938255 : Unit := ()
def PySem.W.Fast.tw3975826095786666592 : Unit := ()
def PySem.W.Fast.tw1545246731211840024 : Unit := ()
def PySem.W.Fast.tw6692338651036044080 : Unit := ()
def PySem.W.Fast.tw7294663561565130612 : Unit := ()
def PySem.W.Fast.tw11762072083159424257 : Unit := ()
def PySem.W.Fast.tw13208597692386913819 : Unit := ()
def PySem.W.Fast.tw8729133266990034759 : Unit := ()
def PySem.W.Fast.tw1855494984357046021 : Unit := ()
def PySem.W.Fast.tw16310976746935839250 : Unit := ()
def PySem.W.Fast.tw13353129240128729370 : Unit := ()
def PySem.W.Fast.tw4941146555007496453 : Unit := ()
def PySem.W.Fast.tw13465846544128996478 : Unit := ()
def PySem.W.Fast.tw10882297683714713317 : Unit := ()
def PySem.W.Fast.tw12264085634997677962 : Unit := ()
def PySem.W.Fast.tw11208416647289361987 : Unit := ()
def PySem.W.Fast.tw15333406449948530968 : Unit := ()
def PySem.W.Fast.tw8788250459971366811 : Unit := ()
def PySem.W.Fast.tw12173613039844847688 : Unit := ()
def PySem.W.Fast.tw7942756682887358986 : Unit := ()
def PySem.W.Fast.tw9298532509018033360 : Unit := ()
def PySem.W.Fast.tw14261623951203448972 : Unit := ()
def PySem.W.Fast.tw12462764799359814720 : Unit := ()
def PySem.W.Fast.tw10200591030746592333 : Unit := ()
def PySem.W.Fast.tw15124278077989620949 : Unit := ()
def PySem.W.Fast.tw1210711352033209586 : Unit := ()
def PySem.W.Fast.tw6330126230211221336 : Unit := ()
def PySem.W.Fast.tw11696729387348315766 : Unit := ()
def PySem.W.Fast.tw8783046960345633567 : Unit := ()
def PySem.W.Fast.tw15783988892129090615 : Unit := ()
def PySem.W.Fast.tw6028753670111796074 : Unit := ()
def PySem.W.Fast.tw8463717007914338017 : Unit := ()
def PySem.W.Fast.tw5684825887311618867 : Unit := ()
def PySem.W.Fast.tw17683089046518467870 : Unit := ()
def PySem.W.Fast.tw11817401835592018261 : Unit := ()
def PySem.W.Fast.tw9071334588411443652 : Unit := ()
def PySem.W.Fast.tw4088938742075006030 : Unit := ()
def PySem.W.Fast.tw7583774525545932183 : Unit := ()
def PySem.W.Fast.tw10038249324730559709 : Unit := ()
def PySem.W.Fast.tw1609816880307266074 : Unit := ()
def PySem.W.Fast.tw9638707339771456916 : Unit := ()
def PySem.W.Fast.tw15951690711323640497 : Unit := ()
def PySem.W.Fast.tw14566206029760281690 : Unit := ()
def PySem.W.Fast.tw845893931853082132 : Unit := ()
def PySem.W.Fast.tw7188815523295534169 : Unit := ()
def PySem.W.Fast.tw192506575632152751 : Unit := ()
def PySem.W.Fast.tw2008767817224889499 : Unit := ()
def PySem.W.Fast.tw5673129096276073925 : Unit := ()
def PySem.W.Fast.tw15627470092104260335 : Unit := ()
def PySem.W.Fast.tw2020806018665092921 : Unit := ()
def PySem.W.Fast.tw17624336379943785676 : Unit := ()
def PySem.W.Fast.tw2559279581068622248 : Unit := ()
def PySem.W.Fast.tw11905856607038529051 : Unit := ()
def PySem.W.Fast.tw16877196406127587904 : Unit := ()
def PySem.W.Fast.tw4731731084494740286 : Unit := ()
def PySem.W.Fast.tw13419003311959951480 : Unit := ()
def PySem.W.Fast.tw14187664948021836819 : Unit := ()
def PySem.W.Fast.tw544014727297732622 : Unit := ()
def PySem.W.Fast.tw6792762716233655740 : Unit := ()
def PySem.W.Fast.tw3737529646761149322 : Unit := ()
def PySem.W.Fast.tw1249958681440508101 : Unit := ()
def PySem.W.Fast.tw8171306311846734783 : Unit := ()
def PySem.W.Fast.tw4262445227418797305 : Unit := ()
def PySem.W.Fast.tw15153261126439595097 : Unit := ()
def PySem.W.Fast.tw1644014379500074561 : Unit := ()
def PySem.W.Fast.tw5018656306861682947 : Unit := ()
def PySem.W.Fast.tw8481941320070657670 : Unit := ()
def PySem.W.Fast.tw17649672919710901643 : Unit := ()
def PySem.W.Fast.tw1747329436703625919 : Unit := ()
def PySem.W.Fast.tw2441117000118008174 : Unit := ()
def PySem.W.Fast.tw18419076921768575797 : Unit := ()
def PySem.W.Fast.tw12546218159266584313 : Unit := ()
def PySem.W.Fast.tw16339125874774820294 : Unit := ()
def PySem.W.Fast.tw11460307507535161062 : Unit := ()
def PySem.W.Fast.tw4881430501708322134 : Unit := ()
def PySem.W.Fast.tw11879336849350980182 : Unit := ()
def PySem.W.Fast.tw4261912443987976786 : Unit := ()
def PySem.W.Fast.tw6014697114111277624 : Unit := ()
def PySem.W.Fast.tw502286776543257566 : Unit := ()
def PySem.W.Fast.tw10751671257425735911 : Unit := ()
def PySem.W.Fast.tw2232580762824724324 : Unit := ()
def PySem.W.Fast.tw3648193452506661743 : Unit := ()
def PySem.W.Fast.tw3141210348576075171 : Unit := ()
def PySem.W.Fast.tw17781974297135068830 : Unit := ()
def PySem.W.Fast.tw10004767788172183431 : Unit := ()
def PySem.W.Fast.tw10271519946400450005 : Unit := ()
def PySem.W.Fast.tw10871597531445463814 : Unit := ()
def PySem.W.Fast.tw8993525000115411410 : Unit := ()
def PySem.W.Fast.tw12633463565870072179 : Unit := ()
def PySem.W.Fast.tw15118986141068455748 : Unit := ()
def PySem.W.Fast.tw17562019416719852130 : Unit := ()
def PySem.W.Fast.tw2346111993144827215 : Unit := ()
def PySem.W.Fast.tw8932594004362504581 : Unit := ()
def PySem.W.Fast.tw12378045636125873483 : Unit := ()
def PySem.W.Fast.tw1821111899248902146 : Unit := ()
def PySem.W.Fast.tw6471171318264978252 : Unit := ()
def PySem.W.Fast.tw6659922483969757922 : Unit := ()
def PySem.W.Fast.tw14675087742875240858 : Unit := ()
def PySem.W.Fast.tw3805883138645099332 : Unit := ()
def PySem.W.Fast.tw17736216076832123270 : Unit := ()
def PySem.W.Fast.tw5791736900465547063 : Unit := ()
def PySem.W.Fast.tw15539440671461230869 : Unit := ()
def PySem.W.Fast.tw4039926103026415135 : Unit := ()
def PySem.W.Fast.tw17458577512680934750 : Unit := ()
def PySem.W.Fast.tw2662607707923105522 : Unit := ()
def PySem.W.Fast.tw6917288126286406821 : Unit := ()
def PySem.W.Fast.tw15453053509114096972 : Unit := ()
def PySem.W.Fast.tw2294890483960486843 : Unit := ()
def PySem.W.Fast.tw11418576061531604721 : Unit := ()
def PySem.W.Fast.tw16135908696312311930 : Unit := ()
def PySem.W.Fast.tw7823872062318319511 : Unit := ()
def PySem.W.Fast.tw10798770428678035349 : Unit := ()
def PySem.W.Fast.tw4815497949579521813 : Unit := ()
def PySem.W.Fast.tw4446604935626295388 : Unit := ()
def PySem.W.Fast.tw17770892649764570218 : Unit := ()
def PySem.W.Fast.tw9446034468746013487 : Unit := ()
def PySem.W.Fast.tw17108451495735834147 : Unit := ()
def PySem.W.Fast.tw10612659895964013255 : Unit := ()
def PySem.W.Fast.tw4283682050880453391 : Unit := ()
def PySem.W.Fast.tw7552969755525047907 : Unit := ()
def PySem.W.Fast.tw8225229075653403548 : Unit := ()
def PySem.W.Fast.tw10886920260672984926 : Unit := ()
def PySem.W.Fast.tw9692598263573574597 : Unit := ()
def PySem.W.Fast.tw17748934630269931537 : Unit := ()
def PySem.W.Fast.tw4865722913062745380 : Unit := ()
def PySem.W.Fast.tw5172640199314917133 : Unit := ()
def PySem.W.Fast.tw1005075110345291852 : Unit := ()
def PySem.W.Fast.tw14858312398779497915 : Unit := ()
def PySem.W.Fast.tw6379145653311818828 : Unit := ()
def PySem.W.Fast.tw9592710074034520727 : Unit := ()
def PySem.W.Fast.tw15163295558484744817 : Unit := ()
def PySem.W.Fast.tw17747849730471078227 : Unit := ()
def PySem.W.Fast.tw13299984419057241833 : Unit := ()
def PySem.W.Fast.tw5523104500160343395 : Unit := ()
def PySem.W.Fast.tw3290543595070732077 : Unit := ()
def PySem.W.Fast.tw15323491266465211487 : Unit := ()
def PySem.W.Fast.tw2086081773256985922 : Unit := ()
def PySem.W.Fast.tw3164424928742569928 : Unit := ()
def PySem.W.Fast.tw2712026247521286685 : Unit := ()
def PySem.W.Fast.tw15807636506092892532 : Unit := ()
def PySem.W.Fast.tw18278684346716627521 : Unit := ()
def PySem.W.Fast.tw7624504894388292221 : Unit := ()
def PySem.W.Fast.tw6151650733068801175 : Unit := ()
def PySem.W.Fast.tw15089343644059095014 : Unit := ()
def PySem.W.Fast.tw16364470930197768918 : Unit := ()
def PySem.W.Fast.tw9452028449511269055 : Unit := ()
def PySem.W.Fast.tw9132536424240247216 : Unit := ()
def PySem.W.Fast.tw17997404128386539467 : Unit := ()
def PySem.W.Fast.tw18316296874044366121 : Unit := ()
def PySem.W.Fast.tw9023287092120080058 : Unit := ()
def PySem.W.Fast.tw14102075893268076526 : Unit := ()
def PySem.W.Fast.tw826841203649772157 : Unit := ()
def PySem.W.Fast.tw3062375541604413708 : Unit := ()
def PySem.W.Fast.tw16110822501732708734 : Unit := ()
def PySem.W.Fast.tw83098108973882904 : Unit := ()
def PySem.W.Fast.tw4806440267119105943 : Unit := ()
def PySem.W.Fast.tw1343539209543844354 : Unit := ()
def PySem.W.Fast.tw10542044287656588881 : Unit := ()
def PySem.W.Fast.tw687031494372647715 : Unit := ()
def PySem.W.Fast.tw18220534857237297362 : Unit := ()
def PySem.W.Fast.tw10858974211803244715 : Unit := ()
def PySem.W.Fast.tw12043960630059208443 : Unit := ()
def PySem.W.Fast.tw13451903572173044627 : Unit := ()
def PySem.W.Fast.tw14569551429456086655 : Unit := ()
def PySem.W.Fast.tw12284639291993621573 : Unit := ()
def PySem.W.Fast.tw7722883699664014662 : Unit := ()
def PySem.W.Fast.tw16693088312592446489 : Unit := ()
def PySem.W.Fast.tw1001628975302270604 : Unit := ()
def PySem.W.Fast.tw177496731432553897 : Unit := ()
def PySem.W.Fast.tw6773135282151197251 : Unit := ()
def PySem.W.Fast.tw1506663962622519640 : Unit := ()
def PySem.W.Fast.tw1392635167421381793 : Unit := ()
def PySem.W.Fast.tw1978372641467297956 : Unit := ()
def PySem.W.Fast.tw14337036894028801161 : Unit := ()
def PySem.W.Fast.tw17660342644708535306 : Unit := ()
def PySem.W.Fast.tw7876751759080470849 : Unit := ()
def PySem.W.Fast.tw17437007165080550846 : Unit := ()
def PySem.W.Fast.tw15066560525960554657 : Unit := ()
def PySem.W.Fast.tw10239291472970954863 : Unit := ()
def PySem.W.Fast.tw5909344944513073130 : Unit := ()
def PySem.W.Fast.tw5076829762628360674 : Unit := ()
def PySem.W.Fast.tw17408011128779141944 : Unit := ()
def PySem.W.Fast.tw3541333491156372580 : Unit := ()
def PySem.W.Fast.tw1530129429216405518 : Unit := ()
def PySem.W.Fast.tw7328109966460239868 : Unit := ()
def PySem.W.Fast.tw1984128167816119353 : Unit := ()
def PySem.W.Fast.tw11216602885960124782 : Unit := ()
def PySem.W.Fast.tw5339432329513355299 : Unit := ()
def PySem.W.Fast.tw282510521585298442 : Unit := ()
def PySem.W.Fast.tw15399176140647517536 : Unit := ()
def PySem.W.Fast.tw17793174375436663610 : Unit := ()
def PySem.W.Fast.tw806721016371189906 : Unit := ()
def PySem.W.Fast.tw16136394913569046759 : Unit := ()
def PySem.W.Fast.tw12951351394173955162 : Unit := ()
def PySem.W.Fast.tw17790790593596494014 : Unit := ()
def PySem.W.Fast.tw17583679426523086179 : Unit := ()
def PySem.W.Fast.tw9214082600626753473 : Unit := ()
def PySem.W.Fast.tw1916144363334467728 : Unit := ()
def PySem.W.Fast.tw3624869114380684355 : Unit := ()
def PySem.W.Fast.tw3823742670781759576 : Unit := ()
def PySem.W.Fast.tw5489378963385334718 : Unit := ()
def PySem.W.Fast.tw5214214805189876488 : Unit := ()
def PySem.W.Fast.tw2255014232895832028 : Unit := ()
def PySem.W.Fast.tw11346343592368565807 : Unit := ()
def PySem.W.Fast.tw1883512350405647525 : Unit := ()
def PySem.W.Fast.tw4355377199907330962 : Unit := ()
def PySem.W.Fast.tw2175274675032170007 : Unit := ()
def PySem.W.Fast.tw17459572233082863706 : Unit := ()
def PySem.W.Fast.tw15951445921868793340 : Unit := ()
def PySem.W.Fast.tw7986091973646336952 : Unit := ()
def PySem.W.Fast.tw6770454621326867366 : Unit := ()
def PySem.W.Fast.tw11692583631513561804 : Unit := ()
def PySem.W.Fast.tw2439210081547037349 : Unit := ()
def PySem.W.Fast.tw10773085585831654310 : Unit := ()
def PySem.W.Fast.tw14463199597408522069 : Unit := ()
def PySem.W.Fast.tw4169105546822708065 : Unit := ()
def PySem.W.Fast.tw12749178105828087843 : Unit := ()
def PySem.W.Fast.tw2869535321453539030 : Unit := ()
def PySem.W.Fast.tw4018780929735145343 : Unit := ()
def PySem.W.Fast.tw10102083715752107845 : Unit := ()
def PySem.W.Fast.tw9218341346184856657 : Unit := ()
def PySem.W.Fast.tw4887837319179115973 : Unit := ()
def PySem.W.Fast.tw2068641670344067975 : Unit := ()
def PySem.W.Fast.tw6944176002299300033 : Unit := ()
def PySem.W.Fast.tw14348369104727314231 : Unit := ()
def PySem.W.Fast.tw10373920917748152790 : Unit := ()
def PySem.W.Fast.tw9594401988418582183 : Unit := ()
def PySem.W.Fast.tw16810154549021442928 : Unit := ()
def PySem.W.Fast.tw14582142992689779163 : Unit := ()
def PySem.W.Fast.tw14575177894666122716 : Unit := ()
def PySem.W.Fast.tw603374050013869951 : Unit := ()
def PySem.W.Fast.tw10829915107047919562 : Unit := ()
def PySem.W.Fast.tw3186207102846609833 : Unit := ()
def PySem.W.Fast.tw16636255179740302238 : Unit := ()
def PySem.W.Fast.tw10058725551597491800 : Unit := ()
def PySem.W.Fast.tw8810258424369102857 : Unit := ()
def PySem.W.Fast.tw12999019389890481215 : Unit := ()
def PySem.W.Fast.tw3210271927409277075 : Unit := ()
def PySem.W.Fast.tw3800731207824384825 : Unit := ()
def PySem.W.Fast.tw16903363418448524979 : Unit := ()
def PySem.W.Fast.tw9683681188226793262 : Unit := ()
def PySem.W.Fast.tw16960513422938305837 : Unit := ()
def PySem.W.Fast.tw1243723931891274277 : Unit := ()
def PySem.W.Fast.tw2811329717880577419 : Unit := ()
def PySem.W.Fast.tw1095692968828528781 : Unit := ()
def PySem.W.Fast.tw17559314163624954567 : Unit := ()
def PySem.W.Fast.tw3527130020638824861 : Unit := ()
def PySem.W.Fast.tw14877869529518290820 : Unit := ()
def PySem.W.Fast.tw6551716074589902281 : Unit := ()
def PySem.W.Fast.tw4802052998505506667 : Unit := ()
def PySem.W.Fast.tw15283812022913510974 : Unit := ()
def PySem.W.Fast.tw7711217674619445482 : Unit := ()
def PySem.W.Fast.tw4053364939350017948 : Unit := ()
def PySem.W.Fast.tw14057223581803295986 : Unit := ()
def PySem.W.Fast.tw15014895531624200254 : Unit := ()
def PySem.W.Fast.tw6985201963319784926 : Unit := ()
def PySem.W.Fast.tw13560675419420223946 : Unit := ()
def PySem.W.Fast.tw1422992948282504171 : Unit := ()
def PySem.W.Fast.tw10205162643217366580 : Unit := ()
def PySem.W.Fast.tw16289038735641344778 : Unit := ()
def PySem.W.Fast.tw4641818256708318829 : Unit := ()
def PySem.W.Fast.tw1044239252759680202 : Unit := ()
def PySem.W.Fast.tw15161995119063907939 : Unit := ()
def PySem.W.Fast.tw7966507507684262542 : Unit := ()
def PySem.W.Fast.tw12978846504065321015 : Unit := ()
def PySem.W.Fast.tw1369329378378536034 : Unit := ()
def PySem.W.Fast.tw16311489114460757444 : Unit := ()
def PySem.W.Fast.tw2821211291357394988 : Unit := ()
def PySem.W.Fast.tw14030976877299822731 : Unit := ()
def PySem.W.Fast.tw5895234790920887546 : Unit := ()
def PySem.W.Fast.tw3184009662614821285 : Unit := ()
def PySem.W.Fast.tw12656373862455523592 : Unit := ()
def PySem.W.Fast.tw7452658921298070042 : Unit := ()
def PySem.W.Fast.tw4718684017696224471 : Unit := ()
def PySem.W.Fast.tw9427652466726159154 : Unit := ()
def PySem.W.Fast.tw2669040984003658469 : Unit := ()
def PySem.W.Fast.tw15285436977221212890 : Unit := ()
def PySem.W.Fast.tw11944550170036759417 : Unit := ()
def PySem.W.Fast.tw3833779147491612373 : Unit := ()
def PySem.W.Fast.tw5646143622930164266 : Unit := ()
def PySem.W.Fast.tw16284130566447216835 : Unit := ()
def PySem.W.Fast.tw4648800624726023126 : Unit := ()
def PySem.W.Fast.tw12462907672495771548 : Unit := ()
def PySem.W.Fast.tw5671591507212866046 : Unit := ()
def PySem.W.Fast.tw4372894793686391771 : Unit := ()
def PySem.W.Fast.tw12978078352668531879 : Unit := ()
def PySem.W.Fast.tw16240266308282745757 : Unit := ()
def PySem.W.Fast.tw7253464533451352620 : Unit := ()
def PySem.W.Fast.tw2975546426780453324 : Unit := ()
def PySem.W.Fast.tw9674564471247399274 : Unit := ()
def PySem.W.Fast.tw7010961835432410195 : Unit := ()
def PySem.W.Fast.tw15001152405263875154 : Unit := ()
def PySem.W.Fast.tw2462822744540820469 : Unit := ()
def PySem.W.Fast.tw9865223991246537971 : Unit := ()
def PySem.W.Fast.tw8754887094527315190 : Unit := ()
def PySem.W.Fast.tw9351550127829411392 : Unit := ()
def PySem.W.Fast.tw15728816128382265222 : Unit := ()
def PySem.W.Fast.tw18441601206406932592 : Unit := ()
def PySem.W.Fast.tw4543142417721920648 : Unit := ()
def PySem.W.Fast.tw8053386352610554499 : Unit := ()
def PySem.W.Fast.tw6683846655398208751 : Unit := ()
def PySem.W.Fast.tw12691985825100125634 : Unit := ()
def PySem.W.Fast.tw15900193849506072797 : Unit := ()
def PySem.W.Fast.tw8661465720995293104 : Unit := ()
def PySem.W.Fast.tw3831718855596696310 : Unit := ()
def PySem.W.Fast.tw7961562057403968579 : Unit := ()
def PySem.W.Fast.tw5611406246578637469 : Unit := ()
def PySem.W.Fast.tw2489215494338188004 : Unit := ()
def PySem.W.Fast.tw544930560946707216 : Unit := ()
def PySem.W.Fast.tw11384893360297933576 : Unit := ()
def PySem.W.Fast.tw15205609753301722674 : Unit := ()
def PySem.W.Fast.tw10967312889219310175 : Unit := ()
def PySem.W.Fast.tw13171908369853367374 : Unit := ()
def PySem.W.Fast.tw16935443179372199129 : Unit := ()
def PySem.W.Fast.tw8938182640915397542 : Unit := ()
def PySem.W.Fast.tw2599219858060126171 : Unit := ()
def PySem.W.Fast.tw14042949362613456828 : Unit := ()
def PySem.W.Fast.tw5192522018011123763 : Unit := ()
def PySem.W.Fast.tw13247353118090145713 : Unit := ()
def PySem.W.Fast.tw18195091207852850758 : Unit := ()
def PySem.W.Fast.tw5270851309562797111 : Unit := ()
def PySem.W.Fast.tw16501183725323917876 : Unit := ()
def PySem.W.Fast.tw16841609932060400751 : Unit := ()
def PySem.W.Fast.tw3263165487747047510 : Unit := ()
def PySem.W.Fast.tw10583815444838030823 : Unit := ()
def PySem.W.Fast.tw12329300797793913957 : Unit := ()
def PySem.W.Fast.tw15016154996992428304 : Unit := ()
def PySem.W.Fast.tw1300890733753791765 : Unit := ()
def PySem.W.Fast.tw11046804509397471189 : Unit := ()
def PySem.W.Fast.tw15869031801292492859 : Unit := ()
def PySem.W.Fast.tw14350052639731742668 : Unit := ()
def PySem.W.Fast.tw6661516868088900821 : Unit := ()
def PySem.W.Fast.tw426825846209937957 : Unit := ()
def PySem.W.Fast.tw14401328300317455636 : Unit := ()
def PySem.W.Fast.tw15942427923816204182 : Unit := ()
def PySem.W.Fast.tw12650128718778969936 : Unit := ()
def PySem.W.Fast.tw16855445522576967199 : Unit := ()
def PySem.W.Fast.tw2062288915169088318 : Unit := ()
def PySem.W.Fast.tw796750843456868662 : Unit := ()
def PySem.W.Fast.tw13926504717513804205 : Unit := ()
def PySem.W.Fast.tw10238855800643902444 : Unit := ()
def PySem.W.Fast.tw13135577008577920885 : Unit := ()
def PySem.W.Fast.tw15345664553092895180 : Unit := ()
def PySem.W.Fast.tw7465573656897678300 : Unit := ()
def PySem.W.Fast.tw12214810120106108161 : Unit := ()
def PySem.W.Fast.tw14969082366764648899 : Unit := ()
def PySem.W.Fast.tw7401812822617981191 : Unit := ()
def PySem.W.Fast.tw1772269462260423063 : Unit := ()
def PySem.W.Fast.tw11848948650601031299 : Unit := ()
def PySem.W.Fast.tw1158035400664005305 : Unit := ()
def PySem.W.Fast.tw9127543399814125749 : Unit := ()
def PySem.W.Fast.tw4642157475723145253 : Unit := ()
def PySem.W.Fast.tw16699508919119536400 : Unit := ()
def PySem.W.Fast.tw9759558257239198490 : Unit := ()
def PySem.W.Fast.tw14639921352873310125 : Unit := ()
def PySem.W.Fast.tw1098159823154955170 : Unit := ()
def PySem.W.Fast.tw3199685931136620495 : Unit := ()
def PySem.W.Fast.tw4885856552087687415 : Unit := ()
def PySem.W.Fast.tw13368417831496909876 : Unit := ()
def PySem.W.Fast.tw9246061129724037618 : Unit := ()
def PySem.W.Fast.tw14860662174532332338 : Unit := ()
def PySem.W.Fast.tw10821432837188065888 : Unit := ()
def PySem.W.Fast.tw4638842309757520115 : Unit := ()
def PySem.W.Fast.tw3451312530987384117 : Unit := ()
def PySem.W.Fast.tw4703722824695893425 : Unit := ()
def PySem.W.Fast.tw16298527576168656609 : Unit := ()
def PySem.W.Fast.tw8379410537250884145 : Unit := ()
def PySem.W.Fast.tw3519594348690015896 : Unit := ()
def PySem.W.Fast.tw1115908873232329620 : Unit := ()
def PySem.W.Fast.tw9091430816725011552 : Unit := ()
def PySem.W.Fast.tw9958183022792353983 : Unit := ()
def PySem.W.Fast.tw11055821322564484141 : Unit := ()
def PySem.W.Fast.tw4284527364036007561 : Unit := ()
def PySem.W.Fast.tw13271031377115102212 : Unit := ()
def PySem.W.Fast.tw9863674856569405921 : Unit := ()
def PySem.W.Fast.tw3257375154658974579 : Unit := ()
def PySem.W.Fast.tw3147365137397645935 : Unit := ()
def PySem.W.Fast.tw11381925983938853865 : Unit := ()
def PySem.W.Fast.tw6682616274839878516 : Unit := ()
def PySem.W.Fast.tw10622811986340373912 : Unit := ()
def PySem.W.Fast.tw6054565900192507895 : Unit := ()
def PySem.W.Fast.tw2843940917424538694 : Unit := ()
def PySem.W.Fast.tw4566366151831544421 : Unit := ()
def PySem.W.Fast.tw5733660281690741509 : Unit := ()
def PySem.W.Fast.tw8093585585480105767 : Unit := ()
def PySem.W.Fast.tw15308563295003746169 : Unit := ()
def PySem.W.Fast.tw1323640567986685178 : Unit := ()
def PySem.W.Fast.tw17605720067861555502 : Unit := ()
def PySem.W.Fast.tw15662441098899790269 : Unit := ()
def PySem.W.Fast.tw17346635323205785920 : Unit := ()
def PySem.W.Fast.tw11968500878857806027 : Unit := ()
def PySem.W.Fast.tw5101910021382668059 : Unit := ()
def PySem.W.Fast.tw12348714361021514447 : Unit := ()
def PySem.W.Fast.tw10672854105038103291 : Unit := ()
def PySem.W.Fast.tw2229628257411971079 : Unit := ()
def PySem.W.Fast.tw7214468993535757941 : Unit := ()
def PySem.W.Fast.tw5279424926360871019 : Unit := ()
def PySem.W.Fast.tw13027351800627131862 : Unit := ()
def PySem.W.Fast.tw12479185308948664262 : Unit := ()
def PySem.W.Fast.tw9865046289478192707 : Unit := ()
def PySem.W.Fast.tw15664616821667730154 : Unit := ()
def PySem.W.Fast.tw10756480907049758751 : Unit := ()
def PySem.W.Fast.tw13663490242004061192 : Unit := ()
def PySem.W.Fast.tw8734945125011520421 : Unit := ()
def PySem.W.Fast.tw7299821098031917222 : Unit := ()
def PySem.W.Fast.tw12009862348593642371 : Unit := ()
def PySem.W.Fast.tw15997257720889642984 : Unit := ()
def PySem.W.Fast.tw184277521966054576 : Unit := ()
def PySem.W.Fast.tw997952430353724048 : Unit := ()
def PySem.W.Fast.tw10049008178655422466 : Unit := ()
def PySem.W.Fast.tw7388044117243415450 : Unit := ()
def PySem.W.Fast.tw6975049456521442786 : Unit := ()
def PySem.W.Fast.tw1522295079390013534 : Unit := ()
def PySem.W.Fast.tw12766965313986795261 : Unit := ()
def PySem.W.Fast.tw3333393717095542297 : Unit := ()
def PySem.W.Fast.tw16506382211404135440 : Unit := ()
def PySem.W.Fast.tw12691271343339732112 : Unit := ()
def PySem.W.Fast.tw10877606123157061964 : Unit := ()
def PySem.W.Fast.tw547800321270456378 : Unit := ()
def PySem.W.Fast.tw11697643728868299621 : Unit := ()
def PySem.W.Fast.tw5639016827586247423 : Unit := ()
def PySem.W.Fast.tw7427033779806435787 : Unit := ()
def PySem.W.Fast.tw15074582191552019659 : Unit := ()
def PySem.W.Fast.tw4953547833297104619 : Unit := ()
def PySem.W.Fast.tw4226892913518210901 : Unit := ()
def PySem.W.Fast.tw2580548234536624137 : Unit := ()
def PySem.W.Fast.tw1646490160395320583 : Unit := ()
def PySem.W.Fast.tw8423382427476504539 : Unit := ()
def PySem.W.Fast.tw15867741805017692110 : Unit := ()
def PySem.W.Fast.tw9836332406177104702 : Unit := ()
def PySem.W.Fast.tw4576768429573326115 : Unit := ()
def PySem.W.Fast.tw12161992290324235641 : Unit := ()
def PySem.W.Fast.tw4704370543869924742 : Unit := ()
def PySem.W.Fast.tw3895546090875766084 : Unit := ()
def PySem.W.Fast.tw11621680967425725614 : Unit := ()
def PySem.W.Fast.tw11274596701635146544 : Unit := ()
def PySem.W.Fast.tw2739933818538725523 : Unit := ()
def PySem.W.Fast.tw15204937016814588508 : Unit := ()
def PySem.W.Fast.tw9408620146973026329 : Unit := ()
def PySem.W.Fast.tw8054156147919963158 : Unit := ()
def PySem.W.Fast.tw6107981277208571016 : Unit := ()
def PySem.W.Fast.tw1159848838854387333 : Unit := ()
def PySem.W.Fast.tw16856390190774049775 : Unit := ()
def PySem.W.Fast.tw16091392785997377258 : Unit := ()
def PySem.W.Fast.tw17679285419240895794 : Unit := ()
def PySem.W.Fast.tw773036545787482178 : Unit := ()
def PySem.W.Fast.tw14388871677359759542 : Unit := ()
def PySem.W.Fast.tw18416177667903053503 : Unit := ()
def PySem.W.Fast.tw15560658675408429400 : Unit := ()
def PySem.W.Fast.tw16345581905496951513 : Unit := ()
def PySem.W.Fast.tw3467985902474513569 : Unit := ()
def PySem.W.Fast.tw15616699616981158929 : Unit := ()
def PySem.W.Fast.tw6623558837193049184 : Unit := ()
def PySem.W.Fast.tw6141745319617413670 : Unit := ()
def PySem.W.Fast.tw1438809979339413050 : Unit := ()
def PySem.W.Fast.tw3199303429177175572 : Unit := ()
def PySem.W.Fast.tw17726528759041618712 : Unit := ()
def PySem.W.Fast.tw11874244772087952733 : Unit := ()
def PySem.W.Fast.tw5183267133281753661 : Unit := ()
def PySem.W.Fast.tw8037561961723960142 : Unit := ()
def PySem.W.Fast.tw5014051511492345100 : Unit := ()
def PySem.W.Fast.tw3600006276273377998 : Unit := ()
def PySem.W.Fast.tw13999768491231347859 : Unit := ()
def PySem.W.Fast.tw17676234835888999977 : Unit := ()
def PySem.W.Fast.tw4216822408553705455 : Unit := ()
def PySem.W.Fast.tw12694261715698169950 : Unit := ()
def PySem.W.Fast.tw5142533457813745019 : Unit := ()
def PySem.W.Fast.tw16100559402724462820 : Unit := ()
def PySem.W.Fast.tw456408738037191927 : Unit := ()
def PySem.W.Fast.tw3749576571701750485 : Unit := ()
def PySem.W.Fast.tw6561294147452847112 : Unit := ()
def PySem.W.Fast.tw13493857393770253178 : Unit := ()
def PySem.W.Fast.tw10070880259673715201 : Unit := ()
def PySem.W.Fast.tw14899256206642627257 : Unit := ()
def PySem.W.Fast.tw8992654957367309405 : Unit := ()
def PySem.W.Fast.tw10973923673340489201 : Unit := ()
def PySem.W.Fast.tw17701636898635496783 : Unit := ()
def PySem.W.Fast.tw2140730385176644881 : Unit := ()
def PySem.W.Fast.tw13515102099141465973 : Unit := ()
def PySem.W.Fast.tw10790292104824718045 : Unit := ()
def PySem.W.Fast.tw17640065159583597734 : Unit := ()
def PySem.W.Fast.tw9348778607128043938 : Unit := ()
def PySem.W.Fast.tw16823967113603941781 : Unit := ()
def PySem.W.Fast.tw739453199640524780 : Unit := ()
def PySem.W.Fast.tw8046885240703787475 : Unit := ()
def PySem.W.Fast.tw8422612867726476152 : Unit := ()
def PySem.W.Fast.tw14656781190520809866 : Unit := ()
def PySem.W.Fast.tw12448489426591884501 : Unit := ()
def PySem.W.Fast.tw11432888481294893488 : Unit := ()
def PySem.W.Fast.tw3216218572597837169 : Unit := ()
def PySem.W.Fast.tw8322513530268517920 : Unit := ()
def PySem.W.Fast.tw8861620223776293181 : Unit := ()
def PySem.W.Fast.tw4143981043637170600 : Unit := ()
def PySem.W.Fast.tw8418675313979475997 : Unit := ()
def PySem.W.Fast.tw6359080332778996511 : Unit := ()
def PySem.W.Fast.tw7262080942399508348 : Unit := ()
def PySem.W.Fast.tw14787714945856290496 : Unit := ()
def PySem.W.Fast.tw3691445378986431896 : Unit := ()
def PySem.W.Fast.tw8337329612245210937 : Unit := ()
def PySem.W.Fast.tw519512039243408652 : Unit := ()
def PySem.W.Fast.tw10025165246783960903 : Unit := ()
def PySem.W.Fast.tw8321090314857615630 : Unit := ()
def PySem.W.Fast.tw15389469040309274509 : Unit := ()
def PySem.W.Fast.tw15941899204928842480 : Unit := ()
def PySem.W.Fast.tw16630685428406276249 : Unit := ()
def PySem.W.Fast.tw14223254806033861485 : Unit := ()
def PySem.W.Fast.tw16906297758792652817 : Unit := ()
def PySem.W.Fast.tw10877740135320691994 : Unit := ()
def PySem.W.Fast.tw2085775894385982505 : Unit := ()
def PySem.W.Fast.tw18369399860478879183 : Unit := ()
def PySem.W.Fast.tw14674635615313194944 : Unit := ()
def PySem.W.Fast.tw8502106217693671066 : Unit := ()
def PySem.W.Fast.tw5422931680214328191 : Unit := ()
def PySem.W.Fast.tw13801364234445918811 : Unit := ()
def PySem.W.Fast.tw15012290783201445838 : Unit := ()
def PySem.W.Fast.tw3014856104089570092 : Unit := ()
def PySem.W.Fast.tw12275929908064275605 : Unit := ()
def PySem.W.Fast.tw1425769297902893824 : Unit := ()
def PySem.W.Fast.tw17409038199816712342 : Unit := ()
def PySem.W.Fast.tw16830483636869443174 : Unit := ()
def PySem.W.Fast.tw10118078667716833481 : Unit := ()
def PySem.W.Fast.tw7466211071886153477 : Unit := ()
def PySem.W.Fast.tw4741408948994186298 : Unit := ()
def PySem.W.Fast.tw1130397498661848144 : Unit := ()
def PySem.W.Fast.tw11726225133387691450 : Unit := ()
def PySem.W.Fast.tw1627075896358492365 : Unit := ()
def PySem.W.Fast.tw7102956629464770492 : Unit := ()
def PySem.W.Fast.tw8917538753648698062 : Unit := ()
def PySem.W.Fast.tw17822052118801923366 : Unit := ()
def PySem.W.Fast.tw13694180010816773437 : Unit := ()
def PySem.W.Fast.tw8352960942560010407 : Unit := ()
def PySem.W.Fast.tw13510210067642919652 : Unit := ()
def PySem.W.Fast.tw1770190680591196551 : Unit := ()
def PySem.W.Fast.tw8820853416593182877 : Unit := ()
def PySem.W.Fast.tw4049497915608949597 : Unit := ()
def PySem.W.Fast.tw3359167273262713662 : Unit := ()
def PySem.W.Fast.tw10036901090140621359 : Unit := ()
def PySem.W.Fast.tw10824581455451255463 : Unit := ()
def PySem.W.Fast.tw6871700882560627721 : Unit := ()
def PySem.W.Fast.tw8291091410425877720 : Unit := ()
def PySem.W.Fast.tw8340081316362142829 : Unit := ()
def PySem.W.Fast.tw11446009483577983221 : Unit := ()
def PySem.W.Fast.tw14276109248990353165 : Unit := ()
def PySem.W.Fast.tw3978514106961272914 : Unit := ()
def PySem.W.Fast.tw6170446097862094333 : Unit := ()
def PySem.W.Fast.tw7732562794260097788 : Unit := ()
def PySem.W.Fast.tw7110301458834587327 : Unit := ()
def PySem.W.Fast.tw7035388177571318360 : Unit := ()
def PySem.W.Fast.tw14634288378360731974 : Unit := ()
def PySem.W.Fast.tw3545865700538274956 : Unit := ()
def PySem.W.Fast.tw16009932447521100303 : Unit := ()
def PySem.W.Fast.tw12685909430224149420 : Unit := ()
def PySem.W.Fast.tw6174094762391424729 : Unit := ()
def PySem.W.Fast.tw16664385927373393101 : Unit := ()
def PySem.W.Fast.tw7465968850289801912 : Unit := ()
def PySem.W.Fast.tw9811820163933769247 : Unit := ()
def PySem.W.Fast.tw14310932417910360480 : Unit := ()
def PySem.W.Fast.tw8441162966076740306 : Unit := ()
def PySem.W.Fast.tw16773600464396476073 : Unit := ()
def PySem.W.Fast.tw18202824944196075629 : Unit := ()
def PySem.W.Fast.tw9777798134328798273 : Unit := ()
def PySem.W.Fast.tw14901470065920378046 : Unit := ()
def PySem.W.Fast.tw8659117164868219002 : Unit := ()
def PySem.W.Fast.tw11453162016195180567 : Unit := ()
def PySem.W.Fast.tw802072949320547165 : Unit := ()
def PySem.W.Fast.tw3465079668400143162 : Unit := ()
def PySem.W.Fast.tw3904776993474294810 : Unit := ()
def PySem.W.Fast.tw16606958272409885884 : Unit := ()
def PySem.W.Fast.tw6526253146428564751 : Unit := ()
def PySem.W.Fast.tw1441438886484190084 : Unit := ()
def PySem.W.Fast.tw2983311957091220949 : Unit := ()
def PySem.W.Fast.tw17338459690654627002 : Unit := ()
def PySem.W.Fast.tw8783336296678148201 : Unit := ()
def PySem.W.Fast.tw2933608900361466156 : Unit := ()
def PySem.W.Fast.tw6443333411536812329 : Unit := ()
def PySem.W.Fast.tw18005521515297564293 : Unit := ()
def PySem.W.Fast.tw17256481125855626566 : Unit := ()
def PySem.W.Fast.tw15520434951619247349 : Unit := ()
def PySem.W.Fast.tw10809823120828112215 : Unit := ()
def PySem.W.Fast.tw16334683764515333800 : Unit := ()
def PySem.W.Fast.tw10467271625487099738 : Unit := ()
def PySem.W.Fast.tw17798182793303219607 : Unit := ()
def PySem.W.Fast.tw10273767909035654177 : Unit := ()
def PySem.W.Fast.tw8833429623607370422 : Unit := ()
def PySem.W.Fast.tw15627640517578070824 : Unit := ()
def PySem.W.Fast.tw12949003407275435549 : Unit := ()
def PySem.W.Fast.tw3236740491553855015 : Unit := ()
def PySem.W.Fast.tw11470694569573003984 : Unit := ()
def PySem.W.Fast.tw9223880908763643978 : Unit := ()
def PySem.W.Fast.tw10360839817651852082 : Unit := ()
def PySem.W.Fast.tw13143949394476109262 : Unit := ()
def PySem.W.Fast.tw10606564496643807909 : Unit := ()
def PySem.W.Fast.tw8722429877353451767 : Unit := ()
def PySem.W.Fast.tw4166674832651258007 : Unit := ()
def PySem.W.Fast.tw3047793886107902562 : Unit := ()
def PySem.W.Fast.tw5169949195262795003 : Unit := ()
def PySem.W.Fast.tw6250575150592298835 : Unit := ()
def PySem.W.Fast.tw9583044100538982803 : Unit := ()
def PySem.W.Fast.tw12277552943543508822 : Unit := ()
def PySem.W.Fast.tw2732914165202392406 : Unit := ()
def PySem.W.Fast.tw12686169951664105553 : Unit := ()
def PySem.W.Fast.tw572549270410869606 : Unit := ()
def PySem.W.Fast.tw1092896163216983522 : Unit := ()
def PySem.W.Fast.tw13245584653630196297 : Unit := ()
def PySem.W.Fast.tw7028041719967008397 : Unit := ()
def PySem.W.Fast.tw1993391816975853815 : Unit := ()
def PySem.W.Fast.tw3108371685842563808 : Unit := ()
def PySem.W.Fast.tw5673809527175458325 : Unit := ()
def PySem.W.Fast.tw14422111028673748166 : Unit := ()
def PySem.W.Fast.tw10901645624099612495 : Unit := ()
def PySem.W.Fast.tw4760515840135357111 : Unit := ()
def PySem.W.Fast.tw2594860129492470623 : Unit := ()
def PySem.W.Fast.tw13745499422129543343 : Unit := ()
def PySem.W.Fast.tw9140763324196773614 : Unit := ()
def PySem.W.Fast.tw14283648100536035513 : Unit := ()
def PySem.W.Fast.tw639495698230717099 : Unit := ()
def PySem.W.Fast.tw14199640117005836300 : Unit := ()
def PySem.W.Fast.tw9163006143251882180 : Unit := ()
def PySem.W.Fast.tw4458151716693683917 : Unit := ()
def PySem.W.Fast.tw16384837964210250162 : Unit := ()
def PySem.W.Fast.tw4024822484246900459 : Unit := ()
def PySem.W.Fast.tw7058897576866994067 : Unit := ()
def PySem.W.Fast.tw7219835131177493906 : Unit := ()
def PySem.W.Fast.tw12846134083866490017 : Unit := ()
def PySem.W.Fast.tw425114137962093478 : Unit := ()
def PySem.W.Fast.tw9014380924074381816 : Unit := ()
def PySem.W.Fast.tw7323962770260445004 : Unit := ()
def PySem.W.Fast.tw955374126476664226 : Unit := ()
def PySem.W.Fast.tw9649911124051091209 : Unit := ()
def PySem.W.Fast.tw11734536645255364213 : Unit := ()
def PySem.W.Fast.tw6058449253367719329 : Unit := ()
def PySem.W.Fast.tw182176522152953435 : Unit := ()
def PySem.W.Fast.tw6971129268383594290 : Unit := ()
def PySem.W.Fast.tw1442722181168251384 : Unit := ()
def PySem.W.Fast.tw7105482608897868341 : Unit := ()
def PySem.W.Fast.tw13879887361706693855 : Unit := ()
def PySem.W.Fast.tw13610037773716293022 : Unit := ()
def PySem.W.Fast.tw17969553687035752268 : Unit := ()
def PySem.W.Fast.tw13910623229937521761 : Unit := ()
def PySem.W.Fast.tw1983124916812462016 : Unit := ()
def PySem.W.Fast.tw7009214526630254094 : Unit := ()
def PySem.W.Fast.tw7835721243812075062 : Unit := ()
def PySem.W.Fast.tw13700730437495712688 : Unit := ()
def PySem.W.Fast.tw3383264697428488411 : Unit := ()
def PySem.W.Fast.tw14448744411269949599 : Unit := ()
def PySem.W.Fast.tw2036792000990603836 : Unit := ()
def PySem.W.Fast.tw6052413957772266131 : Unit := ()
def PySem.W.Fast.tw5206442434182624237 : Unit := ()
def PySem.W.Fast.tw2693117291907775414 : Unit := ()
def PySem.W.Fast.tw11304774776827996797 : Unit := ()
def PySem.W.Fast.tw12902997351518735423 : Unit := ()
def PySem.W.Fast.tw9177703409765601527 : Unit := ()
def PySem.W.Fast.tw17664335282157948748 : Unit := ()
def PySem.W.Fast.tw17033516138378676941 : Unit := ()
def PySem.W.Fast.tw6930000706077230750 : Unit := ()
def PySem.W.Fast.tw6072281553736853703 : Unit := ()
def PySem.W.Fast.tw1640234809758293100 : Unit := ()
def PySem.W.Fast.tw3754891771378515703 : Unit := ()
def PySem.W.Fast.tw3831386145180711976 : Unit := ()
def PySem.W.Fast.tw18004751351371079736 : Unit := ()
def PySem.W.Fast.tw17273810559611971990 : Unit := ()
def PySem.W.Fast.tw2734937428923243541 : Unit := ()
def PySem.W.Fast.tw1927511014549082732 : Unit := ()
def PySem.W.Fast.tw3024877448494629981 : Unit := ()
def PySem.W.Fast.tw3611381332504168182 : Unit := ()
def PySem.W.Fast.tw3449645979769327235 : Unit := ()
def PySem.W.Fast.tw4408191152636722964 : Unit := ()
def PySem.W.Fast.tw16128044212412195922 : Unit := ()
def PySem.W.Fast.tw10914218633265297181 : Unit := ()
def PySem.W.Fast.tw3120808415847828902 : Unit := ()
def PySem.W.Fast.tw2387066372655389862 : Unit := ()
def PySem.W.Fast.tw17980825538036802991 : Unit := ()
def PySem.W.Fast.tw10381702122039657661 : Unit := ()
def PySem.W.Fast.tw14167931669244655750 : Unit := ()
def PySem.W.Fast.tw15251595363502714985 : Unit := ()
def PySem.W.Fast.tw14703847910498607654 : Unit := ()
def PySem.W.Fast.tw15281129806509981608 : Unit := ()
def PySem.W.Fast.tw267921908299889868 : Unit := ()
def PySem.W.Fast.tw10132869663661378702 : Unit := ()
def PySem.W.Fast.tw13916579042979949158 : Unit := ()
def PySem.W.Fast.tw9601735249140967424 : Unit := ()
def PySem.W.Fast.tw9845845334425783072 : Unit := ()
def PySem.W.Fast.tw4629193841590424067 : Unit := ()
def PySem.W.Fast.tw2835513398480051152 : Unit := ()
def PySem.W.Fast.tw3119430539376114155 : Unit := ()
def PySem.W.Fast.tw3013059660901993641 : Unit := ()
def PySem.W.Fast.tw3680587856631137797 : Unit := ()
def PySem.W.Fast.tw7928052759329469563 : Unit := ()
def PySem.W.Fast.tw16926990544754612282 : Unit := ()
def PySem.W.Fast.tw14477395973864857380 : Unit := ()
def PySem.W.Fast.tw10254607684393801492 : Unit := ()
def PySem.W.Fast.tw2540865683485981154 : Unit := ()
def PySem.W.Fast.tw9747105782553248117 : Unit := ()
def PySem.W.Fast.tw14649197913784100647 : Unit := ()
def PySem.W.Fast.tw113892455126434932 : Unit := ()
def PySem.W.Fast.tw3369475346531293709 : Unit := ()
def PySem.W.Fast.tw12122578309449640146 : Unit := ()
def PySem.W.Fast.tw12161448206077682499 : Unit := ()
def PySem.W.Fast.tw6023221368865990552 : Unit := ()
def PySem.W.Fast.tw1837510728124016820 : Unit := ()
def PySem.W.Fast.tw12713956949375405982 : Unit := ()
def PySem.W.Fast.tw10077310641818982895 : Unit := ()
def PySem.W.Fast.tw8028311237319914246 : Unit := ()
def PySem.W.Fast.tw9856795940700396225 : Unit := ()
def PySem.W.Fast.tw11651306528544642547 : Unit := ()
def PySem.W.Fast.tw6147010402374151224 : Unit := ()
def PySem.W.Fast.tw11955446595844809335 : Unit := ()
def PySem.W.Fast.tw10518935063204184360 : Unit := ()
def PySem.W.Fast.tw11303732476091776600 : Unit := ()
def PySem.W.Fast.tw4355669326503809388 : Unit := ()
def PySem.W.Fast.tw14606354555326556447 : Unit := ()
def PySem.W.Fast.tw13231820779105402997 : Unit := ()
def PySem.W.Fast.tw1170881235090441449 : Unit := ()
def PySem.W.Fast.tw14953600233275325876 : Unit := ()
def PySem.W.Fast.tw4697237449931456387 : Unit := ()
def PySem.W.Fast.tw12714334858664228137 : Unit := ()
def PySem.W.Fast.tw6782985575977573477 : Unit := ()
def PySem.W.Fast.tw5024184226868522345 : Unit := ()
def PySem.W.Fast.tw4294131865303918975 : Unit := ()
def PySem.W.Fast.tw9270126843576818571 : Unit := ()
def PySem.W.Fast.tw14041472812326231909 : Unit := ()
def PySem.W.Fast.tw6389603444741701248 : Unit := ()
def PySem.W.Fast.tw516745977067271642 : Unit := ()
def PySem.W.Fast.tw385985926431107286 : Unit := ()
def PySem.W.Fast.tw15571061128290571998 : Unit := ()
def PySem.W.Fast.tw3389305342604856134 : Unit := ()
def PySem.W.Fast.tw843495924596405248 : Unit := ()
def PySem.W.Fast.tw17158050914354009633 : Unit := ()
def PySem.W.Fast.tw11654934137511950277 : Unit := ()
def PySem.W.Fast.tw8774848233731304039 : Unit := ()
def PySem.W.Fast.tw1834960745493264698 : Unit := ()
def PySem.W.Fast.tw13654372171431971769 : Unit := ()
def PySem.W.Fast.tw4721776751754795032 : Unit := ()
def PySem.W.Fast.tw9933787142703346486 : Unit := ()
def PySem.W.Fast.tw7122956228623328726 : Unit := ()
def PySem.W.Fast.tw9779680547882139947 : Unit := ()
def PySem.W.Fast.tw7026680153773813874 : Unit := ()
def PySem.W.Fast.tw16355529554200149186 : Unit := ()
def PySem.W.Fast.tw14097831974706912801 : Unit := ()
def PySem.W.Fast.tw13110572181511982169 : Unit := ()
def PySem.W.Fast.tw967179197856770727 : Unit := ()
def PySem.W.Fast.tw641766109411075749 : Unit := ()
def PySem.W.Fast.tw15717303487778659879 : Unit := ()
def PySem.W.Fast.tw8422189545397735111 : Unit := ()
def PySem.W.Fast.tw16461168197092468947 : Unit := ()
def PySem.W.Fast.tw2848090038870887592 : Unit := ()
def PySem.W.Fast.tw2617788515823076497 : Unit := ()
def PySem.W.Fast.tw11446242384137766897 : Unit := ()
def PySem.W.Fast.tw16577799106322346535 : Unit := ()
def PySem.W.Fast.tw11169050842842812119 : Unit := ()
def PySem.W.Fast.tw18232453802668875392 : Unit := ()
def PySem.W.Fast.tw16041921626127808108 : Unit := ()
def PySem.W.Fast.tw2025231699037061734 : Unit := ()
def PySem.W.Fast.tw11447058762371107389 : Unit := ()
def PySem.W.Fast.tw7348236403543067181 : Unit := ()
def PySem.W.Fast.tw1834667876062956665 : Unit := ()
def PySem.W.Fast.tw13015771068623881126 : Unit := ()
def PySem.W.Fast.tw7912043410956685637 : Unit := ()
def PySem.W.Fast.tw8078243083506464096 : Unit := ()
def PySem.W.Fast.tw10622411134305561236 : Unit := ()
def PySem.W.Fast.tw17760673996555431657 : Unit := ()
def PySem.W.Fast.tw6648279665492330668 : Unit := ()
def PySem.W.Fast.tw11847920001624568765 : Unit := ()
def PySem.W.Fast.tw5877797024574054311 : Unit := ()
def PySem.W.Fast.tw8972424246268167515 : Unit := ()
def PySem.W.Fast.tw752395439088357730 : Unit := ()
def PySem.W.Fast.tw6645034400567890466 : Unit := ()
def PySem.W.Fast.tw4067913147217289380 : Unit := ()
def PySem.W.Fast.tw5831014293248666035 : Unit := ()
def PySem.W.Fast.tw16983606515246056253 : Unit := ()
def PySem.W.Fast.tw2666008671669037002 : Unit := ()
def PySem.W.Fast.tw14829459064554258123 : Unit := ()
def PySem.W.Fast.tw9836169675135232661 : Unit := ()
def PySem.W.Fast.tw4609198702867504917 : Unit := ()
def PySem.W.Fast.tw17606801821121488825 : Unit := ()
def PySem.W.Fast.tw291065959761827553 : Unit := ()
def PySem.W.Fast.tw7153508331945879747 : Unit := ()
def PySem.W.Fast.tw11985960107737584952 : Unit := ()
def PySem.W.Fast.tw16645375424055022726 : Unit := ()
def PySem.W.Fast.tw15146112342408716393 : Unit := ()
def PySem.W.Fast.tw4767181349269694780 : Unit := ()
def PySem.W.Fast.tw10130720039206092544 : Unit := ()
def PySem.W.Fast.tw9992829372734329649 : Unit := ()
def PySem.W.Fast.tw6176668690735252374 : Unit := ()
def PySem.W.Fast.tw10215358061223843267 : Unit := ()
def PySem.W.Fast.tw4330080933358570111 : Unit := ()
def PySem.W.Fast.tw1684272085748788176 : Unit := ()
def PySem.W.Fast.tw12087947321802071644 : Unit := ()
def PySem.W.Fast.tw13310676115140342520 : Unit := ()
def PySem.W.Fast.tw12295428483622805293 : Unit := ()
def PySem.W.Fast.tw16966280023573317328 : Unit := ()
def PySem.W.Fast.tw13017025740153155686 : Unit := ()
def PySem.W.Fast.tw9627468974702572173 : Unit := ()
def PySem.W.Fast.tw222334132879269543 : Unit := ()
def PySem.W.Fast.tw14530349547623814228 : Unit := ()
def PySem.W.Fast.tw3482178084657442928 : Unit := ()
def PySem.W.Fast.tw8809040919985284164 : Unit := ()
def PySem.W.Fast.tw16749146587076791031 : Unit := ()
def PySem.W.Fast.tw12208284076349296540 : Unit := ()
def PySem.W.Fast.tw1551870924908255256 : Unit := ()
def PySem.W.Fast.tw7005165238932247538 : Unit := ()
def PySem.W.Fast.tw16829535768662125920 : Unit := ()
def PySem.W.Fast.tw2513943257272519962 : Unit := ()
def PySem.W.Fast.tw6442910142050821024 : Unit := ()
def PySem.W.Fast.tw3685425951841473107 : Unit := ()
def PySem.W.Fast.tw5240544400431120514 : Unit := ()
def PySem.W.Fast.tw15398511146478066718 : Unit := ()
def PySem.W.Fast.tw14671426997064065124 : Unit := ()
def PySem.W.Fast.tw14452753632016839395 : Unit := ()
def PySem.W.Fast.tw12057588426848182999 : Unit := ()
def PySem.W.Fast.tw14693697545658663196 : Unit := ()
def PySem.W.Fast.tw7202525799380640620 : Unit := ()
def PySem.W.Fast.tw6563220316276717325 : Unit := ()
def PySem.W.Fast.tw13843689852983221143 : Unit := ()
def PySem.W.Fast.tw6556300545491305099 : Unit := ()
def PySem.W.Fast.tw1331317916460709108 : Unit := ()
def PySem.W.Fast.tw6363472740773875725 : Unit := ()
def PySem.W.Fast.tw11034514550688543274 : Unit := ()
def PySem.W.Fast.tw3803485440823054962 : Unit := ()
def PySem.W.Fast.tw16016587570701417639 : Unit := ()
def PySem.W.Fast.tw2017850922713689186 : Unit := ()
def PySem.W.Fast.tw9158189521995306677 : Unit := ()
def PySem.W.Fast.tw6626988487449668897 : Unit := ()
def PySem.W.Fast.tw13636697475123586591 : Unit := ()
def PySem.W.Fast.tw12245915290654767140 : Unit := ()
def PySem.W.Fast.tw4940008469657361133 : Unit := ()
def PySem.W.Fast.tw18326703669219132841 : Unit := ()
def PySem.W.Fast.tw17932082391210609286 : Unit := ()
def PySem.W.Fast.tw7719292676205809195 : Unit := ()
def PySem.W.Fast.tw3192818604603315941 : Unit := ()
def PySem.W.Fast.tw10965096523527906166 : Unit := ()
def PySem.W.Fast.tw6746031771609650555 : Unit := ()
def PySem.W.Fast.tw15872879005126861574 : Unit := ()
def PySem.W.Fast.tw2153037651481551868 : Unit := ()
def PySem.W.Fast.tw7565190971305843270 : Unit := ()
def PySem.W.Fast.tw10291546861445011370 : Unit := ()
def PySem.W.Fast.tw2516263054260411778 : Unit := ()
def PySem.W.Fast.tw12939003213797051829 : Unit := ()
def PySem.W.Fast.tw11457814186542158560 : Unit := ()
def PySem.W.Fast.tw1208889178024082666 : Unit := ()
def PySem.W.Fast.tw11369639970400025426 : Unit := ()
def PySem.W.Fast.tw16707169512744198207 : Unit := ()
def PySem.W.Fast.tw16445293719979501085 : Unit := ()
def PySem.W.Fast.tw7045989934885098372 : Unit := ()
def PySem.W.Fast.tw10589338055757203571 : Unit := ()
def PySem.W.Fast.tw16683992963394797870 : Unit := ()
def PySem.W.Fast.tw7955019484225996923 : Unit := ()
def PySem.W.Fast.tw11095806556029118519 : Unit := ()
def PySem.W.Fast.tw4037100054085527571 : Unit := ()
def PySem.W.Fast.tw3788437160240400464 : Unit := ()
def PySem.W.Fast.tw4445984803422222674 : Unit := ()
def PySem.W.Fast.tw17072866948692233646 : Unit := ()
def PySem.W.Fast.tw15613706765766574545 : Unit := ()
def PySem.W.Fast.tw4931716152858191733 : Unit := ()
def PySem.W.Fast.tw5881266928989788744 : Unit := ()
def PySem.W.Fast.tw9106475263739997941 : Unit := ()
def PySem.W.Fast.tw1570348118526610238 : Unit := ()
def PySem.W.Fast.tw15690148429078013459 : Unit := ()
def PySem.W.Fast.tw4860983024550707461 : Unit := ()
def PySem.W.Fast.tw4947538022303295536 : Unit := ()
def PySem.W.Fast.tw8690691870592029620 : Unit := ()
def PySem.W.Fast.tw15304766024908491636 : Unit := ()
def PySem.W.Fast.tw7313914252360649910 : Unit := ()
def PySem.W.Fast.tw18063915967530813908 : Unit := ()
def PySem.W.Fast.tw520426629599300371 : Unit := ()
def PySem.W.Fast.tw16407076937639721293 : Unit := ()
def PySem.W.Fast.tw13935516362877329772 : Unit := ()
def PySem.W.Fast.tw7775298335205863180 : Unit := ()
def PySem.W.Fast.tw8538808479501535659 : Unit := ()
def PySem.W.Fast.tw8825759888443542404 : Unit := ()
def PySem.W.Fast.tw8470527327328081432 : Unit := ()
def PySem.W.Fast.tw874905951385679261 : Unit := ()
def PySem.W.Fast.tw18005032207001398762 : Unit := ()
def PySem.W.Fast.tw1774228600245408049 : Unit := ()
def PySem.W.Fast.tw4083640313610189285 : Unit := ()
def PySem.W.Fast.tw13286817608468595962 : Unit := ()
def PySem.W.Fast.tw4049470673847107335 : Unit := ()
def PySem.W.Fast.tw679589964575768086 : Unit := ()
def PySem.W.Fast.tw14407752506443895635 : Unit := ()
def PySem.W.Fast.tw13239124379845944783 : Unit := ()
def PySem.W.Fast.tw9248969497976092858 : Unit := ()
def PySem.W.Fast.tw2258895800485448901 : Unit := ()
def PySem.W.Fast.tw14804610359952012412 : Unit := ()
def PySem.W.Fast.tw1752891731345868566 : Unit := ()
def PySem.W.Fast.tw18267335548235940781 : Unit := ()
def PySem.W.Fast.tw2714555933739364417 : Unit := ()
def PySem.W.Fast.tw10886260685795556577 : Unit := ()
def PySem.W.Fast.tw14928840533879004634 : Unit := ()
def PySem.W.Fast.tw9416177842162065965 : Unit := ()
def PySem.W.Fast.tw10485529480899340866 : Unit := ()
def PySem.W.Fast.tw6071910452846586198 : Unit := ()
def PySem.W.Fast.tw14206447756663706396 : Unit := ()
def PySem.W.Fast.tw3905355702587051252 : Unit := ()
def PySem.W.Fast.tw11147322554731652483 : Unit := ()
def PySem.W.Fast.tw17740449191515184115 : Unit := ()
def PySem.W.Fast.tw14726255649311548973 : Unit := ()
def PySem.W.Fast.tw14159934380960409037 : Unit := ()
def PySem.W.Fast.tw13744204650838101330 : Unit := ()
def PySem.W.Fast.tw15554390342204830093 : Unit := ()
def PySem.W.Fast.tw11749804613169553462 : Unit := ()
def PySem.W.Fast.tw13292708898253084699 : Unit := ()
def PySem.W.Fast.tw12496133616142377159 : Unit := ()
def PySem.W.Fast.tw14095971828620285462 : Unit := ()
def PySem.W.Fast.tw2785294448924023801 : Unit := ()
def PySem.W.Fast.tw17217289633636247943 : Unit := ()
def PySem.W.Fast.tw9961573051752027708 : Unit := ()
def PySem.W.Fast.tw1440697835355687232 : Unit := ()
def PySem.W.Fast.tw165830938875022130 : Unit := ()
def PySem.W.Fast.tw17948471539774186321 : Unit := ()
def PySem.W.Fast.tw13233086818749724350 : Unit := ()
def PySem.W.Fast.tw3151039352533229776 : Unit := ()
def PySem.W.Fast.tw210919791577555415 : Unit := ()
def PySem.W.Fast.tw4707492313863751396 : Unit := ()
def PySem.W.Fast.tw17590387945261237535 : Unit := ()
def PySem.W.Fast.tw13577890902209867943 : Unit := ()
def PySem.W.Fast.tw17627622021768277518 : Unit := ()
def PySem.W.Fast.tw18087500404066446646 : Unit := ()
def PySem.W.Fast.tw1010067433683121928 : Unit := ()
def PySem.W.Fast.tw4543211599530908886 : Unit := ()
def PySem.W.Fast.tw9661664218686882367 : Unit := ()
def PySem.W.Fast.tw8312437031959293523 : Unit := ()
def PySem.W.Fast.tw11647204095358640873 : Unit := ()
def PySem.W.Fast.tw14138578702214047714 : Unit := ()
def PySem.W.Fast.tw4020141262132597434 : Unit := ()
def PySem.W.Fast.tw16150294955464246574 : Unit := ()
def PySem.W.Fast.tw8822823676060545043 : Unit := ()
def PySem.W.Fast.tw1467332578909504194 : Unit := ()
def PySem.W.Fast.tw8324367957324352986 : Unit := ()
def PySem.W.Fast.tw314269047415203578 : Unit := ()
def PySem.W.Fast.tw15643994658870728391 : Unit := ()
def PySem.W.Fast.tw13026906979294045351 : Unit := ()
def PySem.W.Fast.tw2776545286564127790 : Unit := ()
def PySem.W.Fast.tw3975241036355812938 : Unit := ()
def PySem.W.Fast.tw1921702426198679702 : Unit := ()
def PySem.W.Fast.tw1393599122865361970 : Unit := ()
def PySem.W.Fast.tw11269821603223781891 : Unit := ()
def PySem.W.Fast.tw8258663368952422108 : Unit := ()
def PySem.W.Fast.tw15418104455780704770 : Unit := ()
def PySem.W.Fast.tw12130405553978063432 : Unit := ()
def PySem.W.Fast.tw8420375376367485317 : Unit := ()
def PySem.W.Fast.tw14680186359482809692 : Unit := ()
def PySem.W.Fast.tw5142473930122974750 : Unit := ()
def PySem.W.Fast.tw13540804548225646085 : Unit := ()
def PySem.W.Fast.tw1773702222973393842 : Unit := ()
def PySem.W.Fast.tw7642096871928758945 : Unit := ()
def PySem.W.Fast.tw7920781079861467299 : Unit := ()
def PySem.W.Fast.tw13386638787997694384 : Unit := ()
def PySem.W.Fast.tw13474471823778917197 : Unit := ()
def PySem.W.Fast.tw1341625885547961239 : Unit := ()
def PySem.W.Fast.tw5219907731322460669 : Unit := ()
def PySem.W.Fast.tw8724412586846916399 : Unit := ()
def PySem.W.Fast.tw4722815596207926843 : Unit := ()
def PySem.W.Fast.tw9742020687349885670 : Unit := ()
def PySem.W.Fast.tw925616329345355214 : Unit := ()
def PySem.W.Fast.tw2123959549254195632 : Unit := ()
def PySem.W.Fast.tw12421531163529677410 : Unit := ()
def PySem.W.Fast.tw5573394301771255758 : Unit := ()
def PySem.W.Fast.tw11715104084953925297 : Unit := ()
def PySem.W.Fast.tw13941667541392256544 : Unit := ()
def PySem.W.Fast.tw15913819804591957021 : Unit := ()
def PySem.W.Fast.tw16661051876753884745 : Unit := ()
def PySem.W.Fast.tw8762267257394938559 : Unit := ()
def PySem.W.Fast.tw8773365348255963420 : Unit := ()
def PySem.W.Fast.tw4684267725938200636 : Unit := ()
def PySem.W.Fast.tw3138853336903122020 : Unit := ()
def PySem.W.Fast.tw9085953048092686008 : Unit := ()
def PySem.W.Fast.tw16919463472415251063 : Unit := ()
def PySem.W.Fast.tw7293247579799638672 : Unit := ()
def PySem.W.Fast.tw17451488071577660458 : Unit := ()
def PySem.W.Fast.tw5197809225814092090 : Unit := ()
def PySem.W.Fast.tw10254856250442628075 : Unit := ()
def PySem.W.Fast.tw9113362120909033795 : Unit := ()
def PySem.W.Fast.tw14376786372899395987 : Unit := ()
def PySem.W.Fast.tw11168153647937339467 : Unit := ()
def PySem.W.Fast.tw8519677926449603784 : Unit := ()
def PySem.W.Fast.tw4230433971698963565 : Unit := ()
def PySem.W.Fast.tw9871077217135963881 : Unit := ()
def PySem.W.Fast.tw10552645914678845707 : Unit := ()
def PySem.W.Fast.tw2516728368922264101 : Unit := ()
def PySem.W.Fast.tw407552794478791975 : Unit := ()
def PySem.W.Fast.tw12588522588133962652 : Unit := ()
def PySem.W.Fast.tw14644539085457801249 : Unit := ()
def PySem.W.Fast.tw13936922072624753936 : Unit := ()
def PySem.W.Fast.tw13903620332995759848 : Unit := ()
def PySem.W.Fast.tw12292825516967928359 : Unit := ()
def PySem.W.Fast.tw956754448905840591 : Unit := ()
def PySem.W.Fast.tw8536527684694155890 : Unit := ()
def PySem.W.Fast.tw14892822933601088389 : Unit := ()
def PySem.W.Fast.tw11848632906517048948 : Unit := ()
def PySem.W.Fast.tw7881873560556561222 : Unit := ()
def PySem.W.Fast.tw16165843884238992788 : Unit := ()
def PySem.W.Fast.tw13247619445751523581 : Unit := ()
def PySem.W.Fast.tw12556774656435166514 : Unit := ()
def PySem.W.Fast.tw10484059528801798024 : Unit := ()
def PySem.W.Fast.tw2527953521738326875 : Unit := ()
def PySem.W.Fast.tw3580844193655044410 : Unit := ()
def PySem.W.Fast.tw5795467224294563919 : Unit := ()
def PySem.W.Fast.tw2893533063593370804 : Unit := ()
def PySem.W.Fast.tw5589386946269657509 : Unit := ()
def PySem.W.Fast.tw13434123397480718192 : Unit := ()
def PySem.W.Fast.tw9742341698137264045 : Unit := ()
def PySem.W.Fast.tw9969447085759122137 : Unit := ()
def PySem.W.Fast.tw12346831053255871544 : Unit := ()
def PySem.W.Fast.tw11733048917480177240 : Unit := ()
def PySem.W.Fast.tw16551448617219948029 : Unit := ()
def PySem.W.Fast.tw4068930194229355870 : Unit := ()
def PySem.W.Fast.tw1774127043812284836 : Unit := ()
def PySem.W.Fast.tw4236563001423972211 : Unit := ()
def PySem.W.Fast.tw7673816058624568766 : Unit := ()
def PySem.W.Fast.tw7134542380936176106 : Unit := ()
def PySem.W.Fast.tw9916913688902056613 : Unit := ()
def PySem.W.Fast.tw10953619134989456894 : Unit := ()
def PySem.W.Fast.tw9291305672680628357 : Unit := ()
def PySem.W.Fast.tw6888880252735966401 : Unit := ()
def PySem.W.Fast.tw5525308017793788319 : Unit := ()
def PySem.W.Fast.tw16076326612711901687 : Unit := ()
def PySem.W.Fast.tw5168125007988164759 : Unit := ()
def PySem.W.Fast.tw7894981985628399212 : Unit := ()
def PySem.W.Fast.tw5342107884607506972 : Unit := ()
def PySem.W.Fast.tw13542709818938967404 : Unit := ()
def PySem.W.Fast.tw9665851373108876576 : Unit := ()
def PySem.W.Fast.tw5037860986742693434 : Unit := ()
def PySem.W.Fast.tw1720041935577200585 : Unit := ()
def PySem.W.Fast.tw15916216426892253643 : Unit := ()
def PySem.W.Fast.tw7156628766544262681 : Unit := ()
def PySem.W.Fast.tw11652479396408111114 : Unit := ()
def PySem.W.Fast.tw15406120380188563314 : Unit := ()
def PySem.W.Fast.tw6888476611979455646 : Unit := ()
def PySem.W.Fast.tw9343800113951118301 : Unit := ()
def PySem.W.Fast.tw13232290178893404655 : Unit := ()
def PySem.W.Fast.tw666404511029402107 : Unit := ()
def PySem.W.Fast.tw3060364671972600037 : Unit := ()
def PySem.W.Fast.tw12174026646571542477 : Unit := ()
def PySem.W.Fast.tw13081526019599347138 : Unit := ()
def PySem.W.Fast.tw16804255551121859815 : Unit := ()
def PySem.W.Fast.tw2378628230035668618 : Unit := ()
def PySem.W.Fast.tw8664259002982333976 : Unit := ()
def PySem.W.Fast.tw6776784852602805192 : Unit := ()
def PySem.W.Fast.tw18079515968326713250 : Unit := ()
def PySem.W.Fast.tw9179909309223543240 : Unit := ()
def PySem.W.Fast.tw16876397990568790410 : Unit := ()
def PySem.W.Fast.tw12252163934424033466 : Unit := ()
def PySem.W.Fast.tw1536645554202366142 : Unit := ()
def PySem.W.Fast.tw2838720750264433912 : Unit := ()
def PySem.W.Fast.tw11964995228420686027 : Unit := ()
def PySem.W.Fast.tw15018883117481736945 : Unit := ()
def PySem.W.Fast.tw4892367228001134142 : Unit := ()
def PySem.W.Fast.tw1460408855424219286 : Unit := ()
def PySem.W.Fast.tw11903385786900459021 : Unit := ()
def PySem.W.Fast.tw15332689318359322349 : Unit := ()
def PySem.W.Fast.tw2168914352151542699 : Unit := ()
def PySem.W.Fast.tw5612835498118291625 : Unit := ()
def PySem.W.Fast.tw16492523994973924885 : Unit := ()
def PySem.W.Fast.tw7553309646611293645 : Unit := ()
def PySem.W.Fast.tw5688521633054389814 : Unit := ()
def PySem.W.Fast.tw6788327572114450790 : Unit := ()
def PySem.W.Fast.tw11980747755116926324 : Unit := ()
def PySem.W.Fast.tw17130308509452858105 : Unit := ()
def PySem.W.Fast.tw18423509928231661491 : Unit := ()
def PySem.W.Fast.tw10833255256183691426 : Unit := ()
def PySem.W.Fast.tw5019591829790620988 : Unit := ()
def PySem.W.Fast.tw6525560878462024353 : Unit := ()
def PySem.W.Fast.tw16187709363882491633 : Unit := ()
def PySem.W.Fast.tw16096051312991030103 : Unit := ()
def PySem.W.Fast.tw7050404487748726208 : Unit := ()
def PySem.W.Fast.tw2264364927726938358 : Unit := ()
def PySem.W.Fast.tw11710980671859378333 : Unit := ()
def PySem.W.Fast.tw10831354609506921260 : Unit := ()
def PySem.W.Fast.tw2876454118712651632 : Unit := ()
def PySem.W.Fast.tw11826511864651644903 : Unit := ()
def PySem.W.Fast.tw17936447474056885125 : Unit := ()
def PySem.W.Fast.tw14422835962667896586 : Unit := ()
def PySem.W.Fast.tw3505079450544497965 : Unit := ()
def PySem.W.Fast.tw8650984096751784774 : Unit := ()
def PySem.W.Fast.tw5098759425298545960 : Unit := ()
def PySem.W.Fast.tw2770144445926985306 : Unit := ()
def PySem.W.Fast.tw2452181062067568829 : Unit := ()
def PySem.W.Fast.tw1347612665287359593 : Unit := ()
def PySem.W.Fast.tw14164629455348995970 : Unit := ()
def PySem.W.Fast.tw18204494966068202467 : Unit := ()
def PySem.W.Fast.tw11073581632537785544 : Unit := ()
def PySem.W.Fast.tw854852700813237638 : Unit := ()
def PySem.W.Fast.tw7165315708823002068 : Unit := ()
def PySem.W.Fast.tw11593050326969249599 : Unit := ()
def PySem.W.Fast.tw3136571242820850328 : Unit := ()
def PySem.W.Fast.tw7875869394037735605 : Unit := ()
def PySem.W.Fast.tw15294456284959922807 : Unit := ()
def PySem.W.Fast.tw13080211765641718651 : Unit := ()
def PySem.W.Fast.tw11073748465449647475 : Unit := ()
def PySem.W.Fast.tw5575657576030417690 : Unit := ()
def PySem.W.Fast.tw16335558006505832402 : Unit := ()
def PySem.W.Fast.tw2514661616618739378 : Unit := ()
def PySem.W.Fast.tw9943511734466053483 : Unit := ()
def PySem.W.Fast.tw11438268422677048308 : Unit := ()
def PySem.W.Fast.tw4859470664108767934 : Unit := ()
def PySem.W.Fast.tw16142867096829236679 : Unit := ()
def PySem.W.Fast.tw15225382787282140572 : Unit := ()
def PySem.W.Fast.tw4811987711644494166 : Unit := ()
def PySem.W.Fast.tw11842361818427699589 : Unit := ()
def PySem.W.Fast.tw13327739251431609969 : Unit := ()
def PySem.W.Fast.tw12455427302803070852 : Unit := ()
def PySem.W.Fast.tw12509337876488526266 : Unit := ()
def PySem.W.Fast.tw15326258271580934066 : Unit := ()
def PySem.W.Fast.tw16291262010062323921 : Unit := ()
def PySem.W.Fast.tw16419485057564276101 : Unit := ()
def PySem.W.Fast.tw4247097799198038478 : Unit := ()
def PySem.W.Fast.tw1693482185060290299 : Unit := ()
def PySem.W.Fast.tw2550908089933764207 : Unit := ()
def PySem.W.Fast.tw1916698336218187796 : Unit := ()
def PySem.W.Fast.tw8369853864937352385 : Unit := ()
def PySem.W.Fast.tw9667997116096565621 : Unit := ()
def PySem.W.Fast.tw392229815924770364 : Unit := ()
def PySem.W.Fast.tw16654632789239753053 : Unit := ()
def PySem.W.Fast.tw1877925469407727721 : Unit := ()
def PySem.W.Fast.tw6316410963471156090 : Unit := ()
def PySem.W.Fast.tw7698853734560595404 : Unit := ()
def PySem.W.Fast.tw18423955099570803315 : Unit := ()
def PySem.W.Fast.tw13223388211887865056 : Unit := ()
def PySem.W.Fast.tw18064521486755224917 : Unit := ()
def PySem.W.Fast.tw5339446310925293076 : Unit := ()
def PySem.W.Fast.tw2230729279984592087 : Unit := ()
def PySem.W.Fast.tw1832861159333232501 : Unit := ()
def PySem.W.Fast.tw13643941834648362600 : Unit := ()
def PySem.W.Fast.tw5176460358124761858 : Unit := ()
def PySem.W.Fast.tw4835329390471384508 : Unit := ()
def PySem.W.Fast.tw13902346070201790336 : Unit := ()
def PySem.W.Fast.tw958095859657035291 : Unit := ()
def PySem.W.Fast.tw16114870386140274849 : Unit := ()
def PySem.W.Fast.tw17361471382033035913 : Unit := ()
def PySem.W.Fast.tw13349668260930835748 : Unit := ()
def PySem.W.Fast.tw1919244580840682188 : Unit := ()
def PySem.W.Fast.tw17728846927555339698 : Unit := ()
def PySem.W.Fast.tw6072015487752188866 : Unit := ()
def PySem.W.Fast.tw10521721590653089681 : Unit := ()
def PySem.W.Fast.tw5658114751001853391 : Unit := ()
def PySem.W.Fast.tw4630050956544547115 : Unit := ()
def PySem.W.Fast.tw5876889481393120998 : Unit := ()
def PySem.W.Fast.tw1000950243438440620 : Unit := ()
def PySem.W.Fast.tw10101098240646167764 : Unit := ()
def PySem.W.Fast.tw219952296867054201 : Unit := ()
def PySem.W.Fast.tw12899535084764460228 : Unit := ()
def PySem.W.Fast.tw3575115295258018351 : Unit := ()
def PySem.W.Fast.tw12475290911346665186 : Unit := ()
def PySem.W.Fast.tw445378036594102350 : Unit := ()
def PySem.W.Fast.tw397410802977120364 : Unit := ()
def PySem.W.Fast.tw7743998057100676322 : Unit := ()
def PySem.W.Fast.tw2149092919101358204 : Unit := ()
def PySem.W.Fast.tw10142150940992597107 : Unit := ()
def PySem.W.Fast.tw17441964429785789636 : Unit := ()
def PySem.W.Fast.tw7357422017913757202 : Unit := ()
def PySem.W.Fast.tw13172027691101341100 : Unit := ()
def PySem.W.Fast.tw17101222644461253568 : Unit := ()
def PySem.W.Fast.tw10904154842422162736 : Unit := ()
def PySem.W.Fast.tw15546595917414496381 : Unit := ()
def PySem.W.Fast.tw4748895760278559012 : Unit := ()
def PySem.W.Fast.tw1056071790268975646 : Unit := ()
def PySem.W.Fast.tw2585581970595551449 : Unit := ()
def PySem.W.Fast.tw11751724543869245347 : Unit := ()
def PySem.W.Fast.tw14761859297479765390 : Unit := ()
def PySem.W.Fast.tw7883675878521013213 : Unit := ()
def PySem.W.Fast.tw11885415928964407315 : Unit := ()
def PySem.W.Fast.tw4805641972750362718 : Unit := ()
def PySem.W.Fast.tw9998288028521027690 : Unit := ()
def PySem.W.Fast.tw8906469811263668804 : Unit := ()
def PySem.W.Fast.tw2141113918063089221 : Unit := ()
def PySem.W.Fast.tw633980774440283860 : Unit := ()
def PySem.W.Fast.tw9726878045565277199 : Unit := ()
def PySem.W.Fast.tw5636688758140069034 : Unit := ()
def PySem.W.Fast.tw4298591883848550546 : Unit := ()
def PySem.W.Fast.tw5219513554882779409 : Unit := ()
def PySem.W.Fast.tw16153297700219817022 : Unit := ()
def PySem.W.Fast.tw5932935497414531061 : Unit := ()
def PySem.W.Fast.tw16024341574237372999 : Unit := ()
def PySem.W.Fast.tw173956023466936808 : Unit := ()
def PySem.W.Fast.tw14061483683544756897 : Unit := ()
def PySem.W.Fast.tw5692338562288344385 : Unit := ()
def PySem.W.Fast.tw7088418563974224329 : Unit := ()
def PySem.W.Fast.tw13802543304014334561 : Unit := ()
def PySem.W.Fast.tw4165427940662826590 : Unit := ()
def PySem.W.Fast.tw403920206549531693 : Unit := ()
def PySem.W.Fast.tw5649789830024088982 : Unit := ()
def PySem.W.Fast.tw5915163631073920199 : Unit := ()
def PySem.W.Fast.tw14276310306609711798 : Unit := ()
def PySem.W.Fast.tw8535627562279900589 : Unit := ()
def PySem.W.Fast.tw4467561197692340690 : Unit := ()
def PySem.W.Fast.tw4096447245376420231 : Unit := ()
def PySem.W.Fast.tw6446401999704437218 : Unit := ()
def PySem.W.Fast.tw1189648742458817949 : Unit := ()
def PySem.W.Fast.tw12301576577755789541 : Unit := ()
def PySem.W.Fast.tw12683294051635278072 : Unit := ()
def PySem.W.Fast.tw8392115117105295734 : Unit := ()
def PySem.W.Fast.tw5604218451539878141 : Unit := ()
def PySem.W.Fast.tw11861765610910357716 : Unit := ()
def PySem.W.Fast.tw7655658403971608630 : Unit := ()
def PySem.W.Fast.tw14975062951033421328 : Unit := ()
def PySem.W.Fast.tw17222790085373662405 : Unit := ()
def PySem.W.Fast.tw14280000465158797176 : Unit := ()
def PySem.W.Fast.tw12535925973572170132 : Unit := ()
def PySem.W.Fast.tw3052306095989073440 : Unit := ()
def PySem.W.Fast.tw7678568498404256499 : Unit := ()
def PySem.W.Fast.tw18194518170890425382 : Unit := ()
def PySem.W.Fast.tw3336017521087792194 : Unit := ()
def PySem.W.Fast.tw17568424956082792863 : Unit := ()
def PySem.W.Fast.tw3713138470821018757 : Unit := ()
def PySem.W.Fast.tw18413250234221363024 : Unit := ()
def PySem.W.Fast.tw3208754259237293981 : Unit := ()
def PySem.W.Fast.tw16513764374676291183 : Unit := ()
def PySem.W.Fast.tw11844188059105163648 : Unit := ()
def PySem.W.Fast.tw7022587421800943686 : Unit := ()
def PySem.W.Fast.tw10285660504221347979 : Unit := ()
def PySem.W.Fast.tw5554744988426251948 : Unit := ()
def PySem.W.Fast.tw8702541231585193754 : Unit := ()
def PySem.W.Fast.tw5588704816270551943 : Unit := ()
def PySem.W.Fast.tw6173479068586155410 : Unit := ()
def PySem.W.Fast.tw15178893498221789852 : Unit := ()
def PySem.W.Fast.tw16936717872804289165 : Unit := ()
def PySem.W.Fast.tw394342150435717349 : Unit := ()
def PySem.W.Fast.tw11012410938772762796 : Unit := ()
def PySem.W.Fast.tw6454087344337234111 : Unit := ()
def PySem.W.Fast.tw10887586816847026594 : Unit := ()
def PySem.W.Fast.tw4632602298670085211 : Unit := ()
def PySem.W.Fast.tw6872701090401749667 : Unit := ()
def PySem.W.Fast.tw17185087167307124215 : Unit := ()
def PySem.W.Fast.tw15679489476630337521 : Unit := ()
def PySem.W.Fast.tw11250463405616820096 : Unit := ()
def PySem.W.Fast.tw11567321470782240893 : Unit := ()
def PySem.W.Fast.tw11851379035900988297 : Unit := ()
def PySem.W.Fast.tw2474601116012445271 : Unit := ()
def PySem.W.Fast.tw5507002696840878732 : Unit := ()
def PySem.W.Fast.tw10381375737543937356 : Unit := ()
def PySem.W.Fast.tw3951508911085953646 : Unit := ()
def PySem.W.Fast.tw10707815250962330299 : Unit := ()
def PySem.W.Fast.tw9279255439224824557 : Unit := ()
def PySem.W.Fast.tw1827293071588725073 : Unit := ()
def PySem.W.Fast.tw2261593767820546209 : Unit := ()
def PySem.W.Fast.tw6307221971562876382 : Unit := ()
def PySem.W.Fast.tw16691952925675562227 : Unit := ()
def PySem.W.Fast.tw16468778012175160915 : Unit := ()
def PySem.W.Fast.tw6162237021634128527 : Unit := ()
def PySem.W.Fast.tw137296277368957953 : Unit := ()
def PySem.W.Fast.tw14264076279564939903 : Unit := ()
def PySem.W.Fast.tw17530144562965537284 : Unit := ()
def PySem.W.Fast.tw16548769555928208399 : Unit := ()
def PySem.W.Fast.tw4569334971484273346 : Unit := ()
def PySem.W.Fast.tw11409505834471729294 : Unit := ()
def PySem.W.Fast.tw3159021296571094620 : Unit := ()
def PySem.W.Fast.tw8600857538213068641 : Unit := ()
def PySem.W.Fast.tw8745871246778102801 : Unit := ()
def PySem.W.Fast.tw15878165511920949694 : Unit := ()
def PySem.W.Fast.tw16026650367840974602 : Unit := ()
def PySem.W.Fast.tw11874676864212156164 : Unit := ()
def PySem.W.Fast.tw13858349358545991190 : Unit := ()
def PySem.W.Fast.tw17369829015839262083 : Unit := ()
def PySem.W.Fast.tw14757221923428913854 : Unit := ()
def PySem.W.Fast.tw3991354439933619224 : Unit := ()
def PySem.W.Fast.tw2006406523709140394 : Unit := ()
def PySem.W.Fast.tw15670728595313385847 : Unit := ()
def PySem.W.Fast.tw11143037625223764103 : Unit := ()
def PySem.W.Fast.tw1593339049558779495 : Unit := ()
def PySem.W.Fast.tw14434589795816216043 : Unit := ()
def PySem.W.Fast.tw5620741931492095416 : Unit := ()
def PySem.W.Fast.tw16467006442452194199 : Unit := ()
def PySem.W.Fast.tw12162506108117909745 : Unit := ()
def PySem.W.Fast.tw6153381734390054711 : Unit := ()
def PySem.W.Fast.tw5189816695376803021 : Unit := ()
def PySem.W.Fast.tw9338576818957317512 : Unit := ()
def PySem.W.Fast.tw10655094141114513620 : Unit := ()
def PySem.W.Fast.tw753481072860867585 : Unit := ()
def PySem.W.Fast.tw543434695877479562 : Unit := ()
def PySem.W.Fast.tw3772370998381764646 : Unit := ()
def PySem.W.Fast.tw13698697761018808283 : Unit := ()
def PySem.W.Fast.tw329674971985583250 : Unit := ()
def PySem.W.Fast.tw16243943052961501920 : Unit := ()
def PySem.W.Fast.tw11740254952852232422 : Unit := ()
def PySem.W.Fast.tw598254103283614942 : Unit := ()
def PySem.W.Fast.tw16315503244669959276 : Unit := ()
def PySem.W.Fast.tw15085128299810951312 : Unit := ()
def PySem.W.Fast.tw6636475546162837358 : Unit := ()
def PySem.W.Fast.tw4580029211326723141 : Unit := ()
def PySem.W.Fast.tw3870507983318413815 : Unit := ()
def PySem.W.Fast.tw9744239635541558394 : Unit := ()
def PySem.W.Fast.tw14704247742943377327 : Unit := ()
def PySem.W.Fast.tw3589986610791280637 : Unit := ()
def PySem.W.Fast.tw11612846424234824072 : Unit := ()
def PySem.W.Fast.tw10487271457344182140 : Unit := ()
def PySem.W.Fast.tw3301385033117332365 : Unit := ()
def PySem.W.Fast.tw9589204693950732152 : Unit := ()
def PySem.W.Fast.tw16417749153537122163 : Unit := ()
def PySem.W.Fast.tw15929542288684007807 : Unit := ()
def PySem.W.Fast.tw14152108673457790326 : Unit := ()
def PySem.W.Fast.tw6219393867316681816 : Unit := ()
def PySem.W.Fast.tw7397079508313713207 : Unit := ()
def PySem.W.Fast.tw8316961918403092633 : Unit := ()
def PySem.W.Fast.tw18339834186545026592 : Unit := ()
def PySem.W.Fast.tw17293612058039323598 : Unit := ()
def PySem.W.Fast.tw4634086095702099565 : Unit := ()
def PySem.W.Fast.tw1349337043407616808 : Unit := ()
def PySem.W.Fast.tw12881132480771316329 : Unit := ()
def PySem.W.Fast.tw3590839627946207518 : Unit := ()
def PySem.W.Fast.tw5121949031965991435 : Unit := ()
def PySem.W.Fast.tw17451801309905829025 : Unit := ()
def PySem.W.Fast.tw12895868168842096323 : Unit := ()
def PySem.W.Fast.tw2538205530686196010 : Unit := ()
def PySem.W.Fast.tw3623311644061771847 : Unit := ()
def PySem.W.Fast.tw18390689800625230458 : Unit := ()
def PySem.W.Fast.tw6200286774017541441 : Unit := ()
def PySem.W.Fast.tw12814003397057610608 : Unit := ()
def PySem.W.Fast.tw1260140506226633973 : Unit := ()
def PySem.W.Fast.tw2689351288355853713 : Unit := ()
def PySem.W.Fast.tw5262911214402386599 : Unit := ()
def PySem.W.Fast.tw3348936356399547445 : Unit := ()
def PySem.W.Fast.tw17034429500042417060 : Unit := ()
def PySem.W.Fast.tw3799630039510385664 : Unit := ()
def PySem.W.Fast.tw14268438730482846388 : Unit := ()
def PySem.W.Fast.tw8443472905835052367 : Unit := ()
def PySem.W.Fast.tw855625193297463070 : Unit := ()
def PySem.W.Fast.tw13852186775224300428 : Unit := ()
def PySem.W.Fast.tw17944565699661680968 : Unit := ()
def PySem.W.Fast.tw11862526723168008795 : Unit := ()
def PySem.W.Fast.tw3048368442454791385 : Unit := ()
def PySem.W.Fast.tw6529474228016290239 : Unit := ()
def PySem.W.Fast.tw10730493719849727338 : Unit := ()
def PySem.W.Fast.tw14617796257374976294 : Unit := ()
def PySem.W.Fast.tw7195664315013129715 : Unit := ()
def PySem.W.Fast.tw10933623381588490530 : Unit := ()
def PySem.W.Fast.tw18185589857574400166 : Unit := ()
def PySem.W.Fast.tw2946789746721705806 : Unit := ()
def PySem.W.Fast.tw15976803016675778465 : Unit := ()
def PySem.W.Fast.tw10384577710696477983 : Unit := ()
def PySem.W.Fast.tw7813633441469716769 : Unit := ()
def PySem.W.Fast.tw4804713259004448964 : Unit := ()
def PySem.W.Fast.tw6932603305532036597 : Unit := ()
def PySem.W.Fast.tw2870922375552328590 : Unit := ()
def PySem.W.Fast.tw12167949192076525132 : Unit := ()
def PySem.W.Fast.tw15483816973686347851 : Unit := ()
def PySem.W.Fast.tw15365839199158451525 : Unit := ()
def PySem.W.Fast.tw6714260158186374995 : Unit := ()
def PySem.W.Fast.tw16758159998244612646 : Unit := ()
def PySem.W.Fast.tw4410558057820722940 : Unit := ()
def PySem.W.Fast.tw12308138486681552906 : Unit := ()
def PySem.W.Fast.tw8056103752558132562 : Unit := ()
def PySem.W.Fast.tw7571117511768160520 : Unit := ()
def PySem.W.Fast.tw8582277308456889550 : Unit := ()
def PySem.W.Fast.tw12301792727096505225 : Unit := ()
def PySem.W.Fast.tw6247975631717382707 : Unit := ()
def PySem.W.Fast.tw6256172155399799625 : Unit := ()
def PySem.W.Fast.tw14020462508434514245 : Unit := ()
def PySem.W.Fast.tw2399758677550291827 : Unit := ()
def PySem.W.Fast.tw12984129048107568725 : Unit := ()
def PySem.W.Fast.tw10525996320405143912 : Unit := ()
def PySem.W.Fast.tw5514815337214642811 : Unit := ()
def PySem.W.Fast.tw10366298546853091618 : Unit := ()
def PySem.W.Fast.tw4634527631630018306 : Unit := ()
def PySem.W.Fast.tw7746523575948542838 : Unit := ()
def PySem.W.Fast.tw7704157540289321442 : Unit := ()
def PySem.W.Fast.tw15681235602613605796 : Unit := ()
def PySem.W.Fast.tw10093207169219118673 : Unit := ()
def PySem.W.Fast.tw4941488508225734393 : Unit := ()
def PySem.W.Fast.tw14458123740184372575 : Unit := ()
def PySem.W.Fast.tw1649053512691421593 : Unit := ()
def PySem.W.Fast.tw11554663386853483630 : Unit := ()
def PySem.W.Fast.tw5822862295811718227 : Unit := ()
def PySem.W.Fast.tw17533933272634005470 : Unit := ()
def PySem.W.Fast.tw9340613424999376656 : Unit := ()
def PySem.W.Fast.tw14950582311358342180 : Unit := ()
def PySem.W.Fast.tw415576926163004345 : Unit := ()
def PySem.W.Fast.tw7371492893828116580 : Unit := ()
def PySem.W.Fast.tw6415287074793603911 : Unit := ()
def PySem.W.Fast.tw16857524495867149269 : Unit := ()
def PySem.W.Fast.tw5766394038566181381 : Unit := ()
def PySem.W.Fast.tw6647142142298350364 : Unit := ()
def PySem.W.Fast.tw17318430695539899444 : Unit := ()
def PySem.W.Fast.tw12165422913943014373 : Unit := ()
def PySem.W.Fast.tw13443568876009715867 : Unit := ()
def PySem.W.Fast.tw3305590889371964472 : Unit := ()
def PySem.W.Fast.tw1774684679074215389 : Unit := ()
def PySem.W.Fast.tw5785814982719695713 : Unit := ()
def PySem.W.Fast.tw998015958062342003 : Unit := ()
def PySem.W.Fast.tw6611523127732224576 : Unit := ()
def PySem.W.Fast.tw16617571585374303093 : Unit := ()
def PySem.W.Fast.tw9938698512890161206 : Unit := ()
def PySem.W.Fast.tw4260541439445158130 : Unit := ()
def PySem.W.Fast.tw18120377628845300737 : Unit := ()
def PySem.W.Fast.tw14507017542962371248 : Unit := ()
def PySem.W.Fast.tw14746449882669602368 : Unit := ()
def PySem.W.Fast.tw5978501251417400498 : Unit := ()
def PySem.W.Fast.tw17253684891128042696 : Unit := ()
def PySem.W.Fast.tw4770383074055385561 : Unit := ()
def PySem.W.Fast.tw17058101067935381895 : Unit := ()
def PySem.W.Fast.tw13300954059313584655 : Unit := ()
def PySem.W.Fast.tw12262480061655182203 : Unit := ()
def PySem.W.Fast.tw17265337138693389090 : Unit := ()
def PySem.W.Fast.tw6741908760199097867 : Unit := ()
def PySem.W.Fast.tw6013899510653648432 : Unit := ()
def PySem.W.Fast.tw7251821180082104499 : Unit := ()
def PySem.W.Fast.tw8813072543128427909 : Unit := ()
def PySem.W.Fast.tw10387012290480616926 : Unit := ()
def PySem.W.Fast.tw3850639499914925 : Unit := ()
def PySem.W.Fast.tw7396750903894737469 : Unit := ()
def PySem.W.Fast.tw14421570176555759420 : Unit := ()
def PySem.W.Fast.tw10250045363278221643 : Unit := ()
def PySem.W.Fast.tw9566738084665653346 : Unit := ()
def PySem.W.Fast.tw8826779866316548455 : Unit := ()
def PySem.W.Fast.tw4593190329613522709 : Unit := ()
def PySem.W.Fast.tw10961897618967668287 : Unit := ()
def PySem.W.Fast.tw16274056749970760965 : Unit := ()
def PySem.W.Fast.tw10292341543862174518 : Unit := ()
def PySem.W.Fast.tw17836210507613258362 : Unit := ()
def PySem.W.Fast.tw5995054183071269245 : Unit := ()
def PySem.W.Fast.tw8478676768594513640 : Unit := ()
def PySem.W.Fast.tw12979360357622719620 : Unit := ()
def PySem.W.Fast.tw6708661455364537994 : Unit := ()
def PySem.W.Fast.tw9965643408191627777 : Unit := ()
def PySem.W.Fast.tw12283413036512436418 : Unit := ()
def PySem.W.Fast.tw13649550034721574654 : Unit := ()
def PySem.W.Fast.tw13713350453174659728 : Unit := ()
def PySem.W.Fast.tw15140247043698228970 : Unit := ()
def PySem.W.Fast.tw11762216510647881553 : Unit := ()
def PySem.W.Fast.tw17886550303259391521 : Unit := ()
def PySem.W.Fast.tw4511380125272984341 : Unit := ()
def PySem.W.Fast.tw10439522835805718883 : Unit := ()
def PySem.W.Fast.tw5620701569132778338 : Unit := ()
def PySem.W.Fast.tw11179025653107556014 : Unit := ()
def PySem.W.Fast.tw11147215748567543745 : Unit := ()
def PySem.W.Fast.tw17033241010795766032 : Unit := ()
def PySem.W.Fast.tw3012755051049951961 : Unit := ()
def PySem.W.Fast.tw15689589071402155485 : Unit := ()
def PySem.W.Fast.tw2143763680426451918 : Unit := ()
def PySem.W.Fast.tw10641568826277511365 : Unit := ()
def PySem.W.Fast.tw10549850593595826744 : Unit := ()
def PySem.W.Fast.tw13335687642649601555 : Unit := ()
def PySem.W.Fast.tw17175913914136597736 : Unit := ()
def PySem.W.Fast.tw1937530386017183017 : Unit := ()
def PySem.W.Fast.tw17950997386740953848 : Unit := ()
def PySem.W.Fast.tw6244691631962064308 : Unit := ()
def PySem.W.Fast.tw9734251682537567306 : Unit := ()
def PySem.W.Fast.tw1373794400913323451 : Unit := ()
def PySem.W.Fast.tw9094960943224396205 : Unit := ()
def PySem.W.Fast.tw3285335910447965583 : Unit := ()
def PySem.W.Fast.tw10514252092296497496 : Unit := ()
def PySem.W.Fast.tw7464687208645692968 : Unit := ()
def PySem.W.Fast.tw4952569187447566494 : Unit := ()
def PySem.W.Fast.tw7480993313128604818 : Unit := ()
def PySem.W.Fast.tw17955476268694981482 : Unit := ()
def PySem.W.Fast.tw15353269319661370855 : Unit := ()
def PySem.W.Fast.tw11461858196941194041 : Unit := ()
def PySem.W.Fast.tw1992913539407598318 : Unit := ()
def PySem.W.Fast.tw16921534209407234152 : Unit := ()
def PySem.W.Fast.tw2066432015944277589 : Unit := ()
def PySem.W.Fast.tw15724333780723425318 : Unit := ()
def PySem.W.Fast.tw6015013128511774035 : Unit := ()
def PySem.W.Fast.tw9753745879617724811 : Unit := ()
def PySem.W.Fast.tw7045968169595857294 : Unit := ()
def PySem.W.Fast.tw14573577029333537881 : Unit := ()
def PySem.W.Fast.tw5011296876202711850 : Unit := ()
def PySem.W.Fast.tw5601960913412876112 : Unit := ()
def PySem.W.Fast.tw6988393501166797618 : Unit := ()
def PySem.W.Fast.tw3276288586074888993 : Unit := ()
def PySem.W.Fast.tw15113049869748773912 : Unit := ()
def PySem.W.Fast.tw9155985099779256218 : Unit := ()
def PySem.W.Fast.tw15954223026346507379 : Unit := ()
def PySem.W.Fast.tw10743553941102721105 : Unit := ()
def PySem.W.Fast.tw14637380598034065108 : Unit := ()
def PySem.W.Fast.tw9328125100735192618 : Unit := ()
def PySem.W.Fast.tw488087798905923005 : Unit := ()
def PySem.W.Fast.tw6301599279672035933 : Unit := ()
def PySem.W.Fast.tw4593971447278341046 : Unit := ()
def PySem.W.Fast.tw2617092339259529200 : Unit := ()
def PySem.W.Fast.tw13860172591018958025 : Unit := ()
def PySem.W.Fast.tw17961079747693369515 : Unit := ()
def PySem.W.Fast.tw13989899655858734085 : Unit := ()
def PySem.W.Fast.tw11432387237903517481 : Unit := ()
def PySem.W.Fast.tw16421493462955023958 : Unit := ()
def PySem.W.Fast.tw14877806375556830337 : Unit := ()
def PySem.W.Fast.tw6127727527886013271 : Unit := ()
def PySem.W.Fast.tw5716877229850956812 : Unit := ()
def PySem.W.Fast.tw2138086816451615498 : Unit := ()
def PySem.W.Fast.tw3280473039980670600 : Unit := ()
def PySem.W.Fast.tw16380273285403563031 : Unit := ()
def PySem.W.Fast.tw11678683480470971422 : Unit := ()
def PySem.W.Fast.tw11784068953083407538 : Unit := ()
def PySem.W.Fast.tw1454786002123996482 : Unit := ()
def PySem.W.Fast.tw9508398577452918866 : Unit := ()
def PySem.W.Fast.tw15409037675446081426 : Unit := ()
def PySem.W.Fast.tw29042888659975734 : Unit := ()
def PySem.W.Fast.tw7320783006230524923 : Unit := ()
def PySem.W.Fast.tw6716357246231370313 : Unit := ()
def PySem.W.Fast.tw14101677586395282381 : Unit := ()
def PySem.W.Fast.tw15257409543566605876 : Unit := ()
def PySem.W.Fast.tw17621531677839163408 : Unit := ()
def PySem.W.Fast.tw7601503693528445279 : Unit := ()
def PySem.W.Fast.tw10528836464725338122 : Unit := ()
def PySem.W.Fast.tw108376275611111131 : Unit := ()
def PySem.W.Fast.tw774791465310775194 : Unit := ()
def PySem.W.Fast.tw12798715970576377071 : Unit := ()
def PySem.W.Fast.tw16043402401600085461 : Unit := ()
def PySem.W.Fast.tw5938093808518606591 : Unit := ()
def PySem.W.Fast.tw11860740640179707224 : Unit := ()
def PySem.W.Fast.tw10156408420413564554 : Unit := ()
def PySem.W.Fast.tw2073996776571177346 : Unit := ()
def PySem.W.Fast.tw625448969319892380 : Unit := ()
def PySem.W.Fast.tw7536807670146595726 : Unit := ()
def PySem.W.Fast.tw305616243441998292 : Unit := ()
def PySem.W.Fast.tw11655661259542570050 : Unit := ()
def PySem.W.Fast.tw9920025515388804283 : Unit := ()
def PySem.W.Fast.tw6062857287881308100 : Unit := ()
def PySem.W.Fast.tw5055785725478662684 : Unit := ()
def PySem.W.Fast.tw62455519058977459 : Unit := ()
def PySem.W.Fast.tw8656638064569965176 : Unit := ()
def PySem.W.Fast.tw8561556839020171804 : Unit := ()
def PySem.W.Fast.tw13566870998001624846 : Unit := ()
def PySem.W.Fast.tw13092248494625970662 : Unit := ()
def PySem.W.Fast.tw9848625236707502670 : Unit := ()
def PySem.W.Fast.tw6682896799211021463 : Unit := ()
def PySem.W.Fast.tw3669608661450360590 : Unit := ()
def PySem.W.Fast.tw13702257508631243764 : Unit := ()
def PySem.W.Fast.tw9614987055513460365 : Unit := ()
def PySem.W.Fast.tw375064801695709834 : Unit := ()
def PySem.W.Fast.tw2891482891332654370 : Unit := ()
def PySem.W.Fast.tw17572175243124437696 : Unit := ()
def PySem.W.Fast.tw15450160666407596904 : Unit := ()
def PySem.W.Fast.tw17019545526501455802 : Unit := ()
def PySem.W.Fast.tw14013277193657050631 : Unit := ()
def PySem.W.Fast.tw7520628624439553796 : Unit := ()
def PySem.W.Fast.tw7975891678273235030 : Unit := ()
def PySem.W.Fast.tw8172137922381043755 : Unit := ()
def PySem.W.Fast.tw11228536371825867160 : Unit := ()
def PySem.W.Fast.tw10041613305765676964 : Unit := ()
def PySem.W.Fast.tw7194394652561441365 : Unit := ()
def PySem.W.Fast.tw5340119403661633099 : Unit := ()
def PySem.W.Fast.tw6250200988740328904 : Unit := ()
def PySem.W.Fast.tw10518230324338740022 : Unit := ()
def PySem.W.Fast.tw5949372059597019456 : Unit := ()
def PySem.W.Fast.tw3604634917563054491 : Unit := ()
def PySem.W.Fast.tw13812670743561874756 : Unit := ()
def PySem.W.Fast.tw4141825533881318132 : Unit := ()
def PySem.W.Fast.tw2051813470804559163 : Unit := ()
def PySem.W.Fast.tw14645231342515044487 : Unit := ()
def PySem.W.Fast.tw17911499264737375872 : Unit := ()
def PySem.W.Fast.tw8992490849361262221 : Unit := ()
def PySem.W.Fast.tw1543292147722084598 : Unit := ()
def PySem.W.Fast.tw1854655017040737963 : Unit := ()
def PySem.W.Fast.tw18427121230077302632 : Unit := ()
def PySem.W.Fast.tw17826063865940253971 : Unit := ()
def PySem.W.Fast.tw15489876843627495076 : Unit := ()
def PySem.W.Fast.tw15195558377955331627 : Unit := ()
def PySem.W.Fast.tw9050135534962313019 : Unit := ()
def PySem.W.Fast.tw268376533744885976 : Unit := ()
def PySem.W.Fast.tw11682273094318228779 : Unit := ()
def PySem.W.Fast.tw16643450984118164730 : Unit := ()
def PySem.W.Fast.tw10761802852824402046 : Unit := ()
def PySem.W.Fast.tw14494436059765722832 : Unit := ()
def PySem.W.Fast.tw14883406013354069426 : Unit := ()
def PySem.W.Fast.tw2008876314187260161 : Unit := ()
def PySem.W.Fast.tw518190560572662121 : Unit := ()
def PySem.W.Fast.tw17286370331586375874 : Unit := ()
def PySem.W.Fast.tw4329901175232163588 : Unit := ()
def PySem.W.Fast.tw6353061896713883191 : Unit := ()
def PySem.W.Fast.tw631846200266057368 : Unit := ()
def PySem.W.Fast.tw1515192082089443663 : Unit := ()
def PySem.W.Fast.tw9228350828820969164 : Unit := ()
def PySem.W.Fast.tw5269071558137253185 : Unit := ()
def PySem.W.Fast.tw13716856090045645563 : Unit := ()
def PySem.W.Fast.tw12582165757019050366 : Unit := ()
def PySem.W.Fast.tw11563958409897870025 : Unit := ()
def PySem.W.Fast.tw12342364366261624885 : Unit := ()
def PySem.W.Fast.tw9433280957419459867 : Unit := ()
def PySem.W.Fast.tw13487955637496526390 : Unit := ()
def PySem.W.Fast.tw3617792545125379075 : Unit := ()
def PySem.W.Fast.tw651223248675533645 : Unit := ()
def PySem.W.Fast.tw470649455160188780 : Unit := ()
def PySem.W.Fast.tw9273457083251709679 : Unit := ()
def PySem.W.Fast.tw4445706019785862803 : Unit := ()
def PySem.W.Fast.tw4261323041906828826 : Unit := ()
def PySem.W.Fast.tw17739021794073489540 : Unit := ()
def PySem.W.Fast.tw10998098127570506058 : Unit := ()
def PySem.W.Fast.tw14931776779191383023 : Unit := ()
def PySem.W.Fast.tw9593433222514212681 : Unit := ()
def PySem.W.Fast.tw17856869980398810765 : Unit := ()
def PySem.W.Fast.tw6359870333587160076 : Unit := ()
def PySem.W.Fast.tw16835424299988871455 : Unit := ()
def PySem.W.Fast.tw11367206001635537490 : Unit := ()
def PySem.W.Fast.tw9515151488709794070 : Unit := ()
def PySem.W.Fast.tw17322902617756056062 : Unit := ()
def PySem.W.Fast.tw15739366158263603217 : Unit := ()
def PySem.W.Fast.tw2997347556353925189 : Unit := ()
def PySem.W.Fast.tw2345296374701992808 : Unit := ()
def PySem.W.Fast.tw8072898039786507590 : Unit := ()
def PySem.W.Fast.tw11269271683945703162 : Unit := ()
def PySem.W.Fast.tw11775633269641476071 : Unit := ()
def PySem.W.Fast.tw3239380256526016654 : Unit := ()
def PySem.W.Fast.tw8140341325454927104 : Unit := ()
def PySem.W.Fast.tw5201718193574774474 : Unit := ()
def PySem.W.Fast.tw8673468628683636211 : Unit := ()
def PySem.W.Fast.tw3141977145115247752 : Unit := ()
def PySem.W.Fast.tw5256420839545047220 : Unit := ()
def PySem.W.Fast.tw12765935870887842406 : Unit := ()
def PySem.W.Fast.tw18164632870451570451 : Unit := ()
def PySem.W.Fast.tw16093130158580390536 : Unit := ()
def PySem.W.Fast.tw4177814320836725339 : Unit := ()
def PySem.W.Fast.tw3766431147202761988 : Unit := ()
def PySem.W.Fast.tw12444477738374891883 : Unit := ()
def PySem.W.Fast.tw13875229601067987153 : Unit := ()
def PySem.W.Fast.tw7643921707344135968 : Unit := ()
def PySem.W.Fast.tw5529925879068866196 : Unit := ()
def PySem.W.Fast.tw12412122988090651770 : Unit := ()
def PySem.W.Fast.tw13696174983956582189 : Unit := ()
def PySem.W.Fast.tw15045622966787529092 : Unit := ()
def PySem.W.Fast.tw14779126287707363463 : Unit := ()
def PySem.W.Fast.tw7700937277130660335 : Unit := ()
def PySem.W.Fast.tw11908238533841104598 : Unit := ()
def PySem.W.Fast.tw4014008602686279137 : Unit := ()
def PySem.W.Fast.tw8042307177682325180 : Unit := ()
def PySem.W.Fast.tw13376046872979821204 : Unit := ()
def PySem.W.Fast.tw12524535532407924929 : Unit := ()
def PySem.W.Fast.tw16170960018247842105 : Unit := ()
def PySem.W.Fast.tw12187938765899681980 : Unit := ()
def PySem.W.Fast.tw8949746319245580680 : Unit := ()
def PySem.W.Fast.tw11119371150619200325 : Unit := ()
def PySem.W.Fast.tw11018962371905598723 : Unit := ()
def PySem.W.Fast.tw11556049018190723193 : Unit := ()
def PySem.W.Fast.tw13867978832532655143 : Unit := ()
def PySem.W.Fast.tw8429788838611190227 : Unit := ()
def PySem.W.Fast.tw2100978888041892986 : Unit := ()
def PySem.W.Fast.tw7003356195951970289 : Unit := ()
def PySem.W.Fast.tw13028836257353216918 : Unit := ()
def PySem.W.Fast.tw12823568956543634190 : Unit := ()
def PySem.W.Fast.tw17692749300315451497 : Unit := ()
def PySem.W.Fast.tw15535822153676895700 : Unit := ()
def PySem.W.Fast.tw4958975929279886284 : Unit := ()
def PySem.W.Fast.tw17970934127874677380 : Unit := ()
def PySem.W.Fast.tw6411551436422211646 : Unit := ()
def PySem.W.Fast.tw15160351022492675382 : Unit := ()
def PySem.W.Fast.tw8434184940152570559 : Unit := ()
def PySem.W.Fast.tw4176103235058558150 : Unit := ()
def PySem.W.Fast.tw14402668457855709969 : Unit := ()
def PySem.W.Fast.tw2503588139598905558 : Unit := ()
def PySem.W.Fast.tw16651339891125180812 : Unit := ()
def PySem.W.Fast.tw826483190853298982 : Unit := ()
def PySem.W.Fast.tw14492622114222442673 : Unit := ()
def PySem.W.Fast.tw11029775405516605011 : Unit := ()
def PySem.W.Fast.tw2278212457644825612 : Unit := ()
def PySem.W.Fast.tw15644916039916761893 : Unit := ()
def PySem.W.Fast.tw297770337107616551 : Unit := ()
def PySem.W.Fast.tw13443383612627713313 : Unit := ()
def PySem.W.Fast.tw641205421942135388 : Unit := ()
def PySem.W.Fast.tw14086357972581701098 : Unit := ()
def PySem.W.Fast.tw15287006520478163231 : Unit := ()
def PySem.W.Fast.tw14852710745013570327 : Unit := ()
def PySem.W.Fast.tw14298743035715687668 : Unit := ()
def PySem.W.Fast.tw5177895216780507249 : Unit := ()
def PySem.W.Fast.tw12451313799753747122 : Unit := ()
def PySem.W.Fast.tw2826167173474089294 : Unit := ()
def PySem.W.Fast.tw4765596108898395387 : Unit := ()
def PySem.W.Fast.tw17282585803352007744 : Unit := ()
def PySem.W.Fast.tw14378427768967681890 : Unit := ()
def PySem.W.Fast.tw14672563579914769194 : Unit := ()
def PySem.W.Fast.tw3309555931523948193 : Unit := ()
def PySem.W.Fast.tw6370946214788552358 : Unit := ()
def PySem.W.Fast.tw16334714303311833286 : Unit := ()
def PySem.W.Fast.tw11182001546276644620 : Unit := ()
def PySem.W.Fast.tw4298591192731663325 : Unit := ()
def PySem.W.Fast.tw18035856406247774995 : Unit := ()
def PySem.W.Fast.tw10658732097852860320 : Unit := ()
def PySem.W.Fast.tw13053491361951076498 : Unit := ()
def PySem.W.Fast.tw6446714177513832601 : Unit := ()
def PySem.W.Fast.tw1279186768532810741 : Unit := ()
def PySem.W.Fast.tw15266637697503529467 : Unit := ()
def PySem.W.Fast.tw12723376488877092889 : Unit := ()
def PySem.W.Fast.tw174010053471971812 : Unit := ()
def PySem.W.Fast.tw9832756257596993186 : Unit := ()
def PySem.W.Fast.tw6986835487152287416 : Unit := ()
def PySem.W.Fast.tw9163938961788118706 : Unit := ()
def PySem.W.Fast.tw3995098441084306507 : Unit := ()
def PySem.W.Fast.tw10160629327139334437 : Unit := ()
def PySem.W.Fast.tw8368581057106343660 : Unit := ()
def PySem.W.Fast.tw14071360170939514163 : Unit := ()
def PySem.W.Fast.tw11477151601354866190 : Unit := ()
def PySem.W.Fast.tw16201425446156996067 : Unit := ()
def PySem.W.Fast.tw18013388177967037876 : Unit := ()
def PySem.W.Fast.tw4823418809554536375 : Unit := ()
def PySem.W.Fast.tw11796316955810532867 : Unit := ()
def PySem.W.Fast.tw17291571982257427047 : Unit := ()
def PySem.W.Fast.tw12016844228604662983 : Unit := ()
def PySem.W.Fast.tw7187755727451198474 : Unit := ()
def PySem.W.Fast.tw5603489771535009108 : Unit := ()
def PySem.W.Fast.tw10674343052581123223 : Unit := ()
def PySem.W.Fast.tw15881855793731684719 : Unit := ()
def PySem.W.Fast.tw15259520827685939018 : Unit := ()
def PySem.W.Fast.tw11088841545640343425 : Unit := ()
def PySem.W.Fast.tw14293055251040910926 : Unit := ()
def PySem.W.Fast.tw10811367576407620707 : Unit := ()
def PySem.W.Fast.tw2707497349162978245 : Unit := ()
def PySem.W.Fast.tw9743617273978369968 : Unit := ()
def PySem.W.Fast.tw16968314129786156492 : Unit := ()
def PySem.W.Fast.tw13820690039006581854 : Unit := ()
def PySem.W.Fast.tw8473944213606869716 : Unit := ()
def PySem.W.Fast.tw74514552254121246 : Unit := ()
def PySem.W.Fast.tw16847900580033493693 : Unit := ()
def PySem.W.Fast.tw16574487741842495312 : Unit := ()
def PySem.W.Fast.tw9556831783441113884 : Unit := ()
def PySem.W.Fast.tw11709301737981212391 : Unit := ()
def PySem.W.Fast.tw1898616035825011139 : Unit := ()
def PySem.W.Fast.tw7632341639059428526 : Unit := ()
def PySem.W.Fast.tw3825951902921589754 : Unit := ()
def PySem.W.Fast.tw17858030623640222322 : Unit := ()
def PySem.W.Fast.tw13245109460260664358 : Unit := ()
def PySem.W.Fast.tw11323128348361788269 : Unit := ()
def PySem.W.Fast.tw10111450132766546232 : Unit := ()
def PySem.W.Fast.tw14886519492952104511 : Unit := ()
def PySem.W.Fast.tw6011590370412231632 : Unit := ()
def PySem.W.Fast.tw6599170885659714429 : Unit := ()
def PySem.W.Fast.tw10219739833795544755 : Unit := ()
def PySem.W.Fast.tw10842473235004859871 : Unit := ()
def PySem.W.Fast.tw16073760617451469015 : Unit := ()
def PySem.W.Fast.tw6290482212972989764 : Unit := ()
def PySem.W.Fast.tw623161716198470317 : Unit := ()
def PySem.W.Fast.tw16557600992494551415 : Unit := ()
def PySem.W.Fast.tw1949805524992543044 : Unit := ()
def PySem.W.Fast.tw2561765859338832360 : Unit := ()
def PySem.W.Fast.tw8570284354014309368 : Unit := ()
def PySem.W.Fast.tw8884517354397839071 : Unit := ()
def PySem.W.Fast.tw9347378570247291806 : Unit := ()
def PySem.W.Fast.tw4375164926186617051 : Unit := ()
def PySem.W.Fast.tw14942791850710076012 : Unit := ()
def PySem.W.Fast.tw5999892666132976730 : Unit := ()
def PySem.W.Fast.tw14124301933004412443 : Unit := ()
def PySem.W.Fast.tw10239525838847108515 : Unit := ()
def PySem.W.Fast.tw3967726250749707535 : Unit := ()
def PySem.W.Fast.tw18274533807432510592 : Unit := ()
def PySem.W.Fast.tw18059081611121960732 : Unit := ()
def PySem.W.Fast.tw15014426562525825280 : Unit := ()
def PySem.W.Fast.tw12887680620688034794 : Unit := ()
def PySem.W.Fast.tw2124799442436561755 : Unit := ()
def PySem.W.Fast.tw18268199455077501233 : Unit := ()
def PySem.W.Fast.tw5907078645062338252 : Unit := ()
def PySem.W.Fast.tw11037228593747961915 : Unit := ()
def PySem.W.Fast.tw18129673593254642825 : Unit := ()
def PySem.W.Fast.tw5521667219193722408 : Unit := ()
def PySem.W.Fast.tw17511255048109636579 : Unit := ()
def PySem.W.Fast.tw3445419330934728437 : Unit := ()
def PySem.W.Fast.tw6010572942889561731 : Unit := ()
def PySem.W.Fast.tw5110831457934529449 : Unit := ()
def PySem.W.Fast.tw11454019375230670152 : Unit := ()
def PySem.W.Fast.tw5876139008389551664 : Unit := ()
def PySem.W.Fast.tw5897582853331267578 : Unit := ()
def PySem.W.Fast.tw1908865218249397548 : Unit := ()
def PySem.W.Fast.tw5844421948606390699 : Unit := ()
def PySem.W.Fast.tw3144090516370113208 : Unit := ()
def PySem.W.Fast.tw12924316805358162231 : Unit := ()
def PySem.W.Fast.tw16182910937760920437 : Unit := ()
def PySem.W.Fast.tw15329897168395705150 : Unit := ()
def PySem.W.Fast.tw2347259747598914818 : Unit := ()
def PySem.W.Fast.tw16221488526234898262 : Unit := ()
def PySem.W.Fast.tw1397192178731641012 : Unit := ()
def PySem.W.Fast.tw18436988404119961433 : Unit := ()
def PySem.W.Fast.tw11834982571838790291 : Unit := ()
def PySem.W.Fast.tw13044823068513393745 : Unit := ()
def PySem.W.Fast.tw2823314158225039305 : Unit := ()
def PySem.W.Fast.tw18128507300435912838 : Unit := ()
def PySem.W.Fast.tw1729665515430476980 : Unit := ()
def PySem.W.Fast.tw4138453966208239603 : Unit := ()
def PySem.W.Fast.tw1628929215405249591 : Unit := ()
def PySem.W.Fast.tw951117090750123320 : Unit := ()
def PySem.W.Fast.tw5813213038639004790 : Unit := ()
def PySem.W.Fast.tw8608513408037797285 : Unit := ()
def PySem.W.Fast.tw7539132393382055166 : Unit := ()
def PySem.W.Fast.tw8926041119684643634 : Unit := ()
def PySem.W.Fast.tw13608675635520532066 : Unit := ()
def PySem.W.Fast.tw5380242107895954998 : Unit := ()
def PySem.W.Fast.tw10581006245274848865 : Unit := ()
def PySem.W.Fast.tw14990901287128248486 : Unit := ()
def PySem.W.Fast.tw12876022353210111059 : Unit := ()
def PySem.W.Fast.tw17194762090049792128 : Unit := ()
def PySem.W.Fast.tw15269368882873324014 : Unit := ()
def PySem.W.Fast.tw8348449333703895344 : Unit := ()
def PySem.W.Fast.tw16764006096700166282 : Unit := ()
def PySem.W.Fast.tw16114885092583861187 : Unit := ()
def PySem.W.Fast.tw10108579820679239464 : Unit := ()
def PySem.W.Fast.tw8190217997938426900 : Unit := ()
def PySem.W.Fast.tw11669465104015725964 : Unit := ()
def PySem.W.Fast.tw12361837216428699348 : Unit := ()
def PySem.W.Fast.tw3754375594439754084 : Unit := ()
def PySem.W.Fast.tw2699531090494548160 : Unit := ()
def PySem.W.Fast.tw2377808901919914670 : Unit := ()
def PySem.W.Fast.tw8862831661558276121 : Unit := ()
def PySem.W.Fast.tw2853798581975414726 : Unit := ()
def PySem.W.Fast.tw8589702467139581325 : Unit := ()
def PySem.W.Fast.tw15959334507616797642 : Unit := ()
def PySem.W.Fast.tw2881816156978751703 : Unit := ()
def PySem.W.Fast.tw10277772884691001136 : Unit := ()
def PySem.W.Fast.tw3458574971533836666 : Unit := ()
def PySem.W.Fast.tw6998169859813316336 : Unit := ()
def PySem.W.Fast.tw10577433090020306472 : Unit := ()
def PySem.W.Fast.tw11583896424299177931 : Unit := ()
def PySem.W.Fast.tw13006045157381475770 : Unit := ()
def PySem.W.Fast.tw7492712222419460949 : Unit := ()
def PySem.W.Fast.tw8707845184628272638 : Unit := ()
def PySem.W.Fast.tw1816483304321839311 : Unit := ()
def PySem.W.Fast.tw8133581956497150967 : Unit := ()
def PySem.W.Fast.tw7322983947110698342 : Unit := ()
def PySem.W.Fast.tw18299177703433600984 : Unit := ()
def PySem.W.Fast.tw8357310154126878891 : Unit := ()
def PySem.W.Fast.tw2273167795769536137 : Unit := ()
def PySem.W.Fast.tw9661680196910959740 : Unit := ()
def PySem.W.Fast.tw14288123468598494253 : Unit := ()
def PySem.W.Fast.tw16795488211909753030 : Unit := ()
def PySem.W.Fast.tw2160637575652537628 : Unit := ()
def PySem.W.Fast.tw7450670500491542076 : Unit := ()
def PySem.W.Fast.tw9952242218786175852 : Unit := ()
def PySem.W.Fast.tw209872517043178210 : Unit := ()
def PySem.W.Fast.tw1610609568000024766 : Unit := ()
def PySem.W.Fast.tw3455703765012595554 : Unit := ()
def PySem.W.Fast.tw13349988496063213 : Unit := ()
def PySem.W.Fast.tw11751458653956375266 : Unit := ()
def PySem.W.Fast.tw3881135260652787641 : Unit := ()
def PySem.W.Fast.tw2833029613489073311 : Unit := ()
def PySem.W.Fast.tw1748980203678006454 : Unit := ()
def PySem.W.Fast.tw15364155591569569062 : Unit := ()
def PySem.W.Fast.tw7602631481129898013 : Unit := ()
def PySem.W.Fast.tw15071283347785682299 : Unit := ()
def PySem.W.Fast.tw4642153571475620384 : Unit := ()
def PySem.W.Fast.tw13211560972262556345 : Unit := ()
def PySem.W.Fast.tw5119849278125626791 : Unit := ()
def PySem.W.Fast.tw17958045296855101115 : Unit := ()
def PySem.W.Fast.tw1334408531921620841 : Unit := ()
def PySem.W.Fast.tw3179292174854038113 : Unit := ()
def PySem.W.Fast.tw2190629419250295471 : Unit := ()
def PySem.W.Fast.tw12314635793917672529 : Unit := ()
def PySem.W.Fast.tw2351292677207710948 : Unit := ()
def PySem.W.Fast.tw9665849771784707109 : Unit := ()
def PySem.W.Fast.tw6007721561151492636 : Unit := ()
def PySem.W.Fast.tw11541130724793314144 : Unit := ()
def PySem.W.Fast.tw3658930404446688521 : Unit := ()
def PySem.W.Fast.tw16155616488726222325 : Unit := ()
def PySem.W.Fast.tw5798472914061575234 : Unit := ()
def PySem.W.Fast.tw7824223403591001544 : Unit := ()
def PySem.W.Fast.tw17601408061442746621 : Unit := ()
def PySem.W.Fast.tw4418847633069144049 : Unit := ()
def PySem.W.Fast.tw16522944919556755982 : Unit := ()
def PySem.W.Fast.tw842570861107522509 : Unit := ()
def PySem.W.Fast.tw11006514968573216019 : Unit := ()
def PySem.W.Fast.tw6193266083905880332 : Unit := ()
def PySem.W.Fast.tw2686421908474520647 : Unit := ()
def PySem.W.Fast.tw2769650438559277402 : Unit := ()
def PySem.W.Fast.tw9765400398302932014 : Unit := ()
def PySem.W.Fast.tw3361185764652527961 : Unit := ()
def PySem.W.Fast.tw4005918702383490149 : Unit := ()
def PySem.W.Fast.tw7635096607446011029 : Unit := ()
def PySem.W.Fast.tw10588893750269164020 : Unit := ()
def PySem.W.Fast.tw11590359993616659235 : Unit := ()
def PySem.W.Fast.tw16633803377334174669 : Unit := ()
def PySem.W.Fast.tw9294097557407193154 : Unit := ()
def PySem.W.Fast.tw1994602570515426766 : Unit := ()
def PySem.W.Fast.tw11969301426245109363 : Unit := ()
def PySem.W.Fast.tw10835798514743121966 : Unit := ()
def PySem.W.Fast.tw1622684697089317194 : Unit := ()
def PySem.W.Fast.tw16820270625819895812 : Unit := ()
def PySem.W.Fast.tw16449163500170305231 : Unit := ()
def PySem.W.Fast.tw1216419679668565938 : Unit := ()
def PySem.W.Fast.tw584114790474429279 : Unit := ()
def PySem.W.Fast.tw10511670608238571052 : Unit := ()
def PySem.W.Fast.tw4998916997172050877 : Unit := ()
def PySem.W.Fast.tw11751370296300707245 : Unit := ()
def PySem.W.Fast.tw13897381863824362805 : Unit := ()
def PySem.W.Fast.tw4131131158304944611 : Unit := ()
def PySem.W.Fast.tw4940662820516700952 : Unit := ()
def PySem.W.Fast.tw7785649468329933886 : Unit := ()
def PySem.W.Fast.tw606344181531124071 : Unit := ()
def PySem.W.Fast.tw3298082932197278218 : Unit := ()
def PySem.W.Fast.tw5029409519143328850 : Unit := ()
def PySem.W.Fast.tw7893769464437509054 : Unit := ()
def PySem.W.Fast.tw9931481377235309118 : Unit := ()
def PySem.W.Fast.tw6897089666770598968 : Unit := ()
def PySem.W.Fast.tw7961398526643424966 : Unit := ()
def PySem.W.Fast.tw8641618279543182422 : Unit := ()
def PySem.W.Fast.tw16909147895549994709 : Unit := ()
def PySem.W.Fast.tw12283013117084953374 : Unit := ()
def PySem.W.Fast.tw16859558254099709740 : Unit := ()
def PySem.W.Fast.tw15878110263621006946 : Unit := ()
def PySem.W.Fast.tw11757973741189745079 : Unit := ()
def PySem.W.Fast.tw5530390319244098816 : Unit := ()
def PySem.W.Fast.tw14971143132336765904 : Unit := ()
def PySem.W.Fast.tw8369734633043251344 : Unit := ()
def PySem.W.Fast.tw14355352426163778709 : Unit := ()
def PySem.W.Fast.tw7525890899632431674 : Unit := ()
def PySem.W.Fast.tw11317490397483538302 : Unit := ()
def PySem.W.Fast.tw4357142139408949986 : Unit := ()
def PySem.W.Fast.tw10571017054547702971 : Unit := ()
def PySem.W.Fast.tw2486019940120898972 : Unit := ()
def PySem.W.Fast.tw1613031347840702616 : Unit := ()
def PySem.W.Fast.tw14430821464787205897 : Unit := ()
def PySem.W.Fast.tw12402042067084344215 : Unit := ()
def PySem.W.Fast.tw2412303328607894828 : Unit := ()
def PySem.W.Fast.tw13955557199854878536 : Unit := ()
def PySem.W.Fast.tw14048927907880885747 : Unit := ()
def PySem.W.Fast.tw14345135398929674721 : Unit := ()
def PySem.W.Fast.tw10243753642824391885 : Unit := ()
def PySem.W.Fast.tw1241695688167160644 : Unit := ()
def PySem.W.Fast.tw12852299625699789124 : Unit := ()
def PySem.W.Fast.tw10851267125031681420 : Unit := ()
def PySem.W.Fast.tw13088912527109273317 : Unit := ()
def PySem.W.Fast.tw16244889725642382926 : Unit := ()
def PySem.W.Fast.tw3616800413499313921 : Unit := ()
def PySem.W.Fast.tw13462382224713463110 : Unit := ()
def PySem.W.Fast.tw5097774201903160031 : Unit := ()
def PySem.W.Fast.tw15559092715990882178 : Unit := ()
def PySem.W.Fast.tw12560335273692888243 : Unit := ()
def PySem.W.Fast.tw6467576531251852202 : Unit := ()
def PySem.W.Fast.tw6125651014104001779 : Unit := ()
def PySem.W.Fast.tw14719252148666636937 : Unit := ()
def PySem.W.Fast.tw8478591979726872916 : Unit := ()
def PySem.W.Fast.tw17277023200969913170 : Unit := ()
def PySem.W.Fast.tw16237001207636083708 : Unit := ()
def PySem.W.Fast.tw8266223626240496163 : Unit := ()
def PySem.W.Fast.tw15553527476719013516 : Unit := ()
def PySem.W.Fast.tw13641105279988800330 : Unit := ()
def PySem.W.Fast.tw9778692751402838691 : Unit := ()
def PySem.W.Fast.tw2432287770277853529 : Unit := ()
def PySem.W.Fast.tw14411108028992773386 : Unit := ()
def PySem.W.Fast.tw18172365577270853863 : Unit := ()
def PySem.W.Fast.tw11575653397586794621 : Unit := ()
def PySem.W.Fast.tw7112505515799826746 : Unit := ()
def PySem.W.Fast.tw14417856992076313363 : Unit := ()
def PySem.W.Fast.tw4535718624996322855 : Unit := ()
def PySem.W.Fast.tw6662797330646121699 : Unit := ()
def PySem.W.Fast.tw8453596608624108972 : Unit := ()
def PySem.W.Fast.tw4002096932770988042 : Unit := ()
def PySem.W.Fast.tw4282335756758177161 : Unit := ()
def PySem.W.Fast.tw10640191566543531594 : Unit := ()
def PySem.W.Fast.tw17417101667669698360 : Unit := ()
def PySem.W.Fast.tw6937245504819493959 : Unit := ()
def PySem.W.Fast.tw2257713052310032848 : Unit := ()
def PySem.W.Fast.tw11292911466894286237 : Unit := ()
def PySem.W.Fast.tw5960780727556665205 : Unit := ()
def PySem.W.Fast.tw1385323159539906259 : Unit := ()
def PySem.W.Fast.tw14970990738220770045 : Unit := ()
def PySem.W.Fast.tw7314537933581369631 : Unit := ()
def PySem.W.Fast.tw6182711671963405574 : Unit := ()
def PySem.W.Fast.tw17024878439098971350 : Unit := ()
def PySem.W.Fast.tw4305236170367598822 : Unit := ()
def PySem.W.Fast.tw11332354714142341770 : Unit := ()
def PySem.W.Fast.tw8580295079538576389 : Unit := ()
def PySem.W.Fast.tw3848150248670948062 : Unit := ()
def PySem.W.Fast.tw5709837031827791876 : Unit := ()
def PySem.W.Fast.tw3180644488475905789 : Unit := ()
def PySem.W.Fast.tw12859267452599475186 : Unit := ()
def PySem.W.Fast.tw8661117944970755811 : Unit := ()
def PySem.W.Fast.tw799062860357200438 : Unit := ()
def PySem.W.Fast.tw15797560040736898069 : Unit := ()
def PySem.W.Fast.tw17744021416788047900 : Unit := ()
def PySem.W.Fast.tw8415207622027072328 : Unit := ()
def PySem.W.Fast.tw17879964728721896828 : Unit := ()
def PySem.W.Fast.tw5059180453258788399 : Unit := ()
def PySem.W.Fast.tw11139701747588715188 : Unit := ()
def PySem.W.Fast.tw7940042421488710407 : Unit := ()
def PySem.W.Fast.tw492335701503612688 : Unit := ()
def PySem.W.Fast.tw16461751324143147531 : Unit := ()
def PySem.W.Fast.tw16191481866673511833 : Unit := ()
def PySem.W.Fast.tw1045368904264487468 : Unit := ()
def PySem.W.Fast.tw12874635352711489446 : Unit := ()
def PySem.W.Fast.tw9915297041466144923 : Unit := ()
def PySem.W.Fast.tw6930648297285654542 : Unit := ()
def PySem.W.Fast.tw7684404119946445620 : Unit := ()
def PySem.W.Fast.tw3539710143758726903 : Unit := ()
def PySem.W.Fast.tw17660096093124880257 : Unit := ()
def PySem.W.Fast.tw15821315251602448172 : Unit := ()
def PySem.W.Fast.tw4711287394367127873 : Unit := ()
def PySem.W.Fast.tw556370257240008951 : Unit := ()
def PySem.W.Fast.tw856576687170608694 : Unit := ()
def PySem.W.Fast.tw7540797763186352741 : Unit := ()
def PySem.W.Fast.tw9566053490770610561 : Unit := ()
def PySem.W.Fast.tw9085400641659893260 : Unit := ()
def PySem.W.Fast.tw1085907411738614461 : Unit := ()
def PySem.W.Fast.tw1242616446737883493 : Unit := ()
def PySem.W.Fast.tw11729874357130089395 : Unit := ()
def PySem.W.Fast.tw10932013471937031371 : Unit := ()
def PySem.W.Fast.tw5565311038590351347 : Unit := ()
def PySem.W.Fast.tw2585372305012308799 : Unit := ()
def PySem.W.Fast.tw12253936481202072852 : Unit := ()
def PySem.W.Fast.tw15130639955006003008 : Unit := ()
def PySem.W.Fast.tw18042465064430710724 : Unit := ()
def PySem.W.Fast.tw10800111508694065248 : Unit := ()
def PySem.W.Fast.tw4861054471902082668 : Unit := ()
def PySem.W.Fast.tw15313479479096194918 : Unit := ()
def PySem.W.Fast.tw15736993639379937644 : Unit := ()
def PySem.W.Fast.tw6806991823437287226 : Unit := ()
def PySem.W.Fast.tw11987104125109136835 : Unit := ()
def PySem.W.Fast.tw47145268335110495 : Unit := ()
def PySem.W.Fast.tw8647432783245846753 : Unit := ()
def PySem.W.Fast.tw5913438984632391231 : Unit := ()
def PySem.W.Fast.tw2555763326989741835 : Unit := ()
def PySem.W.Fast.tw15665084007938785857 : Unit := ()
def PySem.W.Fast.tw15702372089333375497 : Unit := ()
def PySem.W.Fast.tw3561350083967754543 : Unit := ()
def PySem.W.Fast.tw14795352624275394988 : Unit := ()
def PySem.W.Fast.tw13362548700988705375 : Unit := ()
def PySem.W.Fast.tw9437818039207063412 : Unit := ()
def PySem.W.Fast.tw7759772473191111744 : Unit := ()
def PySem.W.Fast.tw14167843080866396003 : Unit := ()
def PySem.W.Fast.tw5095238522513227350 : Unit := ()
def PySem.W.Fast.tw6332802956645837891 : Unit := ()
def PySem.W.Fast.tw14327720574028207335 : Unit := ()
def PySem.W.Fast.tw7574553993179058857 : Unit := ()
def PySem.W.Fast.tw8050384191314806665 : Unit := ()
def PySem.W.Fast.tw3109898130729022228 : Unit := ()
def PySem.W.Fast.tw12888911390298413829 : Unit := ()
def PySem.W.Fast.tw12356057283942140982 : Unit := ()
def PySem.W.Fast.tw1946995759387944122 : Unit := ()
def PySem.W.Fast.tw9659237058382142602 : Unit := ()
def PySem.W.Fast.tw12847118448758315563 : Unit := ()
def PySem.W.Fast.tw14053964754537411200 : Unit := ()
def PySem.W.Fast.tw8350462866069403817 : Unit := ()
def PySem.W.Fast.tw542342714717914054 : Unit := ()
def PySem.W.Fast.tw951531244534626003 : Unit := ()
def PySem.W.Fast.tw14769136729698961375 : Unit := ()
def PySem.W.Fast.tw5491236180924349376 : Unit := ()
def PySem.W.Fast.tw7401355897584654811 : Unit := ()
def PySem.W.Fast.tw5731151688108133887 : Unit := ()
def PySem.W.Fast.tw11543868877062076665 : Unit := ()
def PySem.W.Fast.tw1994105001238192802 : Unit := ()
def PySem.W.Fast.tw731771571996739410 : Unit := ()
def PySem.W.Fast.tw18157718140852536619 : Unit := ()
def PySem.W.Fast.tw6077937282784554287 : Unit := ()
def PySem.W.Fast.tw18379059042594351605 : Unit := ()
def PySem.W.Fast.tw2415550273310671598 : Unit := ()
def PySem.W.Fast.tw16136769485771954413 : Unit := ()
def PySem.W.Fast.tw6403997658257750360 : Unit := ()
def PySem.W.Fast.tw8412597879508063178 : Unit := ()
def PySem.W.Fast.tw3036780656755849812 : Unit := ()
def PySem.W.Fast.tw5022342565233558607 : Unit := ()
def PySem.W.Fast.tw13954239094015822637 : Unit := ()
def PySem.W.Fast.tw16153927663104602496 : Unit := ()
def PySem.W.Fast.tw12119286045359061532 : Unit := ()
def PySem.W.Fast.tw5951081722367851164 : Unit := ()
def PySem.W.Fast.tw13963959019607530588 : Unit := ()
def PySem.W.Fast.tw856999927261133295 : Unit := ()
def PySem.W.Fast.tw5969371470943063655 : Unit := ()
def PySem.W.Fast.tw11433978514313499484 : Unit := ()
def PySem.W.Fast.tw14620136099277046004 : Unit := ()
def PySem.W.Fast.tw11770317812124231465 : Unit := ()
def PySem.W.Fast.tw8146188708509499533 : Unit := ()
def PySem.W.Fast.tw10076242975998145928 : Unit := ()
def PySem.W.Fast.tw3979250332826406622 : Unit := ()
def PySem.W.Fast.tw9581478984979674142 : Unit := ()
def PySem.W.Fast.tw8991091512987401333 : Unit := ()
def PySem.W.Fast.tw9134546649175834975 : Unit := ()
def PySem.W.Fast.tw17753391379901630574 : Unit := ()
def PySem.W.Fast.tw5895318897965051958 : Unit := ()
def PySem.W.Fast.tw18259831326303329293 : Unit := ()
def PySem.W.Fast.tw12850942712017220689 : Unit := ()
def PySem.W.Fast.tw8993395029019349106 : Unit := ()
def PySem.W.Fast.tw12872088387857565188 : Unit := ()
def PySem.W.Fast.tw13822513541001910853 : Unit := ()
def PySem.W.Fast.tw12691909852688825286 : Unit := ()
def PySem.W.Fast.tw11418682028014288759 : Unit := ()
def PySem.W.Fast.tw14170832638027521081 : Unit := ()
def PySem.W.Fast.tw6805318948691407770 : Unit := ()
def PySem.W.Fast.tw9085594396363393801 : Unit := ()
def PySem.W.Fast.tw9464613974801429761 : Unit := ()
def PySem.W.Fast.tw3131427640182541894 : Unit := ()
def PySem.W.Fast.tw12276226883538021134 : Unit := ()
def PySem.W.Fast.tw5889564186088723312 : Unit := ()
def PySem.W.Fast.tw1816747996860505327 : Unit := ()
def PySem.W.Fast.tw3707206125694450382 : Unit := ()
def PySem.W.Fast.tw15228880360497071392 : Unit := ()
def PySem.W.Fast.tw15575107886706721917 : Unit := ()
def PySem.W.Fast.tw12981157039457070864 : Unit := ()
def PySem.W.Fast.tw11676512916828491717 : Unit := ()
def PySem.W.Fast.tw4757466888453903575 : Unit := ()
def PySem.W.Fast.tw5344166826838836650 : Unit := ()
def PySem.W.Fast.tw10264470120776113628 : Unit := ()
def PySem.W.Fast.tw4168071999435271768 : Unit := ()
def PySem.W.Fast.tw7804516646622949994 : Unit := ()
def PySem.W.Fast.tw245892082849752754 : Unit := ()
def PySem.W.Fast.tw12972336663486201136 : Unit := ()
def PySem.W.Fast.tw12539360301746703388 : Unit := ()
def PySem.W.Fast.tw8801176209939975636 : Unit := ()
def PySem.W.Fast.tw359242842107705176 : Unit := ()
def PySem.W.Fast.tw11684959844867050844 : Unit := ()
def PySem.W.Fast.tw9151317830843273178 : Unit := ()
def PySem.W.Fast.tw7318075996996908132 : Unit := ()
def PySem.W.Fast.tw10545730488084867291 : Unit := ()
def PySem.W.Fast.tw815892922263722678 : Unit := ()
def PySem.W.Fast.tw15461885809907786974 : Unit := ()
def PySem.W.Fast.tw7166229560092945495 : Unit := ()
def PySem.W.Fast.tw11740757096300269981 : Unit := ()
def PySem.W.Fast.tw6985612264896264648 : Unit := ()
def PySem.W.Fast.tw13951947716131814148 : Unit := ()
def PySem.W.Fast.tw9428928051166221616 : Unit := ()
def PySem.W.Fast.tw18085433013858385562 : Unit := ()
def PySem.W.Fast.tw6417461005730700285 : Unit := ()
def PySem.W.Fast.tw6774640071144426972 : Unit := ()
def PySem.W.Fast.tw16223938318070067123 : Unit := ()
def PySem.W.Fast.tw14709107680656596507 : Unit := ()
def PySem.W.Fast.tw14760683806964575132 : Unit := ()
def PySem.W.Fast.tw11673931271426633399 : Unit := ()
def PySem.W.Fast.tw9187958778925993476 : Unit := ()
def PySem.W.Fast.tw5496655923669465959 : Unit := ()
def PySem.W.Fast.tw14724762697183371097 : Unit := ()
def PySem.W.Fast.tw17839594356979628272 : Unit := ()
def PySem.W.Fast.tw14901379081368451761 : Unit := ()
def PySem.W.Fast.tw14142960064162695724 : Unit := ()
def PySem.W.Fast.tw12501637798079649555 : Unit := ()
def PySem.W.Fast.tw15734813957298782733 : Unit := ()
def PySem.W.Fast.tw14982516526070173684 : Unit := ()
def PySem.W.Fast.tw17692431781864884683 : Unit := ()
def PySem.W.Fast.tw12555719073840488890 : Unit := ()
def PySem.W.Fast.tw6471638286551226446 : Unit := ()
def PySem.W.Fast.tw14512797840352522199 : Unit := ()
def PySem.W.Fast.tw8100170729017149881 : Unit := ()
def PySem.W.Fast.tw7164452370213879900 : Unit := ()
def PySem.W.Fast.tw15499434282452313869 : Unit := ()
def PySem.W.Fast.tw11440048529096590672 : Unit := ()
def PySem.W.Fast.tw14839120489971718716 : Unit := ()
def PySem.W.Fast.tw16662427269859898853 : Unit := ()
def PySem.W.Fast.tw2758903141255585952 : Unit := ()
def PySem.W.Fast.tw14253612361993974037 : Unit := ()
def PySem.W.Fast.tw6967686808872936780 : Unit := ()
def PySem.W.Fast.tw16805625541388787185 : Unit := ()
def PySem.W.Fast.tw6582569105412250222 : Unit := ()
def PySem.W.Fast.tw10510763666181431311 : Unit := ()
def PySem.W.Fast.tw918013923980513739 : Unit := ()
def PySem.W.Fast.tw4587053927113031161 : Unit := ()
def PySem.W.Fast.tw17491019868613965263 : Unit := ()
def PySem.W.Fast.tw12301571465911824860 : Unit := ()
def PySem.W.Fast.tw17030931114610336570 : Unit := ()
def PySem.W.Fast.tw4982727310109072843 : Unit := ()
def PySem.W.Fast.tw9872685832230980089 : Unit := ()
def PySem.W.Fast.tw1753396402866543780 : Unit := ()
def PySem.W.Fast.tw12024996760633257715 : Unit := ()
def PySem.W.Fast.tw14028469486776524893 : Unit := ()
def PySem.W.Fast.tw5565538849525110715 : Unit := ()
def PySem.W.Fast.tw7200146212623606785 : Unit := ()
def PySem.W.Fast.tw2305847784647079827 : Unit := ()
def PySem.W.Fast.tw17007667380369290936 : Unit := ()
def PySem.W.Fast.tw13554370518492685221 : Unit := ()
def PySem.W.Fast.tw958151453765411657 : Unit := ()
def PySem.W.Fast.tw15519871610733809490 : Unit := ()
def PySem.W.Fast.tw9769285303085769876 : Unit := ()
def PySem.W.Fast.tw13146344328063860158 : Unit := ()
def PySem.W.Fast.tw13723456556838537398 : Unit := ()
def PySem.W.Fast.tw5753080880373461063 : Unit := ()
def PySem.W.Fast.tw12090388060673692790 : Unit := ()
def PySem.W.Fast.tw12200361787453079983 : Unit := ()
def PySem.W.Fast.tw4610429606346593725 : Unit := ()
def PySem.W.Fast.tw1608296621494837388 : Unit := ()
def PySem.W.Fast.tw16511013791042086256 : Unit := ()
def PySem.W.Fast.tw11262744511185791197 : Unit := ()
def PySem.W.Fast.tw11787332973725095319 : Unit := ()
def PySem.W.Fast.tw17239575632827943769 : Unit := ()
def PySem.W.Fast.tw9152877882692346079 : Unit := ()
def PySem.W.Fast.tw11736717203363806029 : Unit := ()
def PySem.W.Fast.tw11277225657565573267 : Unit := ()
def PySem.W.Fast.tw8186545945499301566 : Unit := ()
def PySem.W.Fast.tw10920527044996615609 : Unit := ()
def PySem.W.Fast.tw1372918845365990962 : Unit := ()
def PySem.W.Fast.tw4382685787435128519 : Unit := ()
def PySem.W.Fast.tw8973612030196443299 : Unit := ()
def PySem.W.Fast.tw4649030095313643980 : Unit := ()
def PySem.W.Fast.tw16202171161043220776 : Unit := ()
def PySem.W.Fast.tw16575036437554513429 : Unit := ()
def PySem.W.Fast.tw10907688670501958225 : Unit := ()
def PySem.W.Fast.tw18132178292916037482 : Unit := ()
def PySem.W.Fast.tw3619459422005621518 : Unit := ()
def PySem.W.Fast.tw2435309662082203303 : Unit := ()
def PySem.W.Fast.tw3650342129405565449 : Unit := ()
def PySem.W.Fast.tw1103960620142236058 : Unit := ()
def PySem.W.Fast.tw9628535542529309020 : Unit := ()
def PySem.W.Fast.tw18322504122924029184 : Unit := ()
def PySem.W.Fast.tw5092273776787505420 : Unit := ()
def PySem.W.Fast.tw16008020557800598426 : Unit := ()
def PySem.W.Fast.tw8464775712216408828 : Unit := ()
def PySem.W.Fast.tw14491739322819824643 : Unit := ()
def PySem.W.Fast.tw4971501227753103931 : Unit := ()
def PySem.W.Fast.tw2504344621036162419 : Unit := ()
def PySem.W.Fast.tw17092508039371308002 : Unit := ()
def PySem.W.Fast.tw8803161843616151204 : Unit := ()
def PySem.W.Fast.tw11990307332802971161 : Unit := ()
def PySem.W.Fast.tw10311702500503318667 : Unit := ()
def PySem.W.Fast.tw1543650543500266219 : Unit := ()
def PySem.W.Fast.tw4048747988647557805 : Unit := ()
def PySem.W.Fast.tw9537278078377886818 : Unit := ()
def PySem.W.Fast.tw4082185449566330388 : Unit := ()
def PySem.W.Fast.tw14602398980184641053 : Unit := ()
def PySem.W.Fast.tw8473762449310809317 : Unit := ()
def PySem.W.Fast.tw16602261424094263184 : Unit := ()
def PySem.W.Fast.tw1533074819448858121 : Unit := ()
def PySem.W.Fast.tw10913734941556702427 : Unit := ()
def PySem.W.Fast.tw8321343045280972419 : Unit := ()
def PySem.W.Fast.tw3948035625768009681 : Unit := ()
def PySem.W.Fast.tw17958159362443031369 : Unit := ()
def PySem.W.Fast.tw9493692152482785721 : Unit := ()
def PySem.W.Fast.tw10091344185131609974 : Unit := ()
def PySem.W.Fast.tw3964218741453559745 : Unit := ()
def PySem.W.Fast.tw8300964025110804740 : Unit := ()
def PySem.W.Fast.tw13391338879559290827 : Unit := ()
def PySem.W.Fast.tw15233328250296565453 : Unit := ()
def PySem.W.Fast.tw6880324509071594418 : Unit := ()
def PySem.W.Fast.tw13393726938135880360 : Unit := ()
def PySem.W.Fast.tw5603609240639771528 : Unit := ()
def PySem.W.Fast.tw7274878819571084375 : Unit := ()
def PySem.W.Fast.tw279717701001988318 : Unit := ()
def PySem.W.Fast.tw2904254039402131054 : Unit := ()
def PySem.W.Fast.tw16225876914277062244 : Unit := ()
def PySem.W.Fast.tw6168325212700883358 : Unit := ()
def PySem.W.Fast.tw9262100794814183353 : Unit := ()
def PySem.W.Fast.tw10608678866806615572 : Unit := ()
def PySem.W.Fast.tw17216612696236234964 : Unit := ()
def PySem.W.Fast.tw12402131162677604824 : Unit := ()
def PySem.W.Fast.tw7504072208895745593 : Unit := ()
def PySem.W.Fast.tw14346620779007828348 : Unit := ()
def PySem.W.Fast.tw7681707241860261501 : Unit := ()
def PySem.W.Fast.tw14966083612030391731 : Unit := ()
def PySem.W.Fast.tw7449532820127599031 : Unit := ()
def PySem.W.Fast.tw10988798079846427181 : Unit := ()
def PySem.W.Fast.tw16892162674720824000 : Unit := ()
def PySem.W.Fast.tw2999417653999374172 : Unit := ()
def PySem.W.Fast.tw5961532089125039699 : Unit := ()
def PySem.W.Fast.tw9913911723285482482 : Unit := ()
def PySem.W.Fast.tw12149788888502189764 : Unit := ()
def PySem.W.Fast.tw2874342724801006460 : Unit := ()
def PySem.W.Fast.tw5832840605825677719 : Unit := ()
def PySem.W.Fast.tw8803177684697555709 : Unit := ()
def PySem.W.Fast.tw10521232353617498320 : Unit := ()
def PySem.W.Fast.tw518541329854887956 : Unit := ()
def PySem.W.Fast.tw10156449106273088505 : Unit := ()
def PySem.W.Fast.tw7688604238072595864 : Unit := ()
def PySem.W.Fast.tw12023801073971045658 : Unit := ()
def PySem.W.Fast.tw14116050974496685558 : Unit := ()
def PySem.W.Fast.tw11820162673188886971 : Unit := ()
def PySem.W.Fast.tw15332117247550881350 : Unit := ()
def PySem.W.Fast.tw15001934622230662751 : Unit := ()
def PySem.W.Fast.tw8254837652311330911 : Unit := ()
def PySem.W.Fast.tw12131738150686576018 : Unit := ()
def PySem.W.Fast.tw3288111645648759533 : Unit := ()
def PySem.W.Fast.tw8988384612077299865 : Unit := ()
def PySem.W.Fast.tw8445196229087280980 : Unit := ()
def PySem.W.Fast.tw3846260731595760120 : Unit := ()
def PySem.W.Fast.tw522716707045947010 : Unit := ()
def PySem.W.Fast.tw11387480104971419355 : Unit := ()
def PySem.W.Fast.tw15299904179243119783 : Unit := ()
def PySem.W.Fast.tw7307350966320312496 : Unit := ()
def PySem.W.Fast.tw835543612867370031 : Unit := ()
def PySem.W.Fast.tw7970201667584678704 : Unit := ()
def PySem.W.Fast.tw3234884097697974311 : Unit := ()
def PySem.W.Fast.tw17913412993726041671 : Unit := ()
def PySem.W.Fast.tw10266827052442047521 : Unit := ()
def PySem.W.Fast.tw3745383250807299331 : Unit := ()
def PySem.W.Fast.tw7269351852154918654 : Unit := ()
def PySem.W.Fast.tw9186000073885920086 : Unit := ()
def PySem.W.Fast.tw8668505040119799675 : Unit := ()
def PySem.W.Fast.tw14168552686484316220 : Unit := ()
def PySem.W.Fast.tw500445916353311745 : Unit := ()
def PySem.W.Fast.tw15990378947114574298 : Unit := ()
def PySem.W.Fast.tw5207432978599350258 : Unit := ()
def PySem.W.Fast.tw4408494294497470755 : Unit := ()
def PySem.W.Fast.tw4013195687415244048 : Unit := ()
def PySem.W.Fast.tw13351454300884844639 : Unit := ()
def PySem.W.Fast.tw2964656501542560105 : Unit := ()
def PySem.W.Fast.tw3485098856867065479 : Unit := ()
def PySem.W.Fast.tw10495891237819622422 : Unit := ()
def PySem.W.Fast.tw15125790562747415367 : Unit := ()
def PySem.W.Fast.tw10401255301153760761 : Unit := ()
def PySem.W.Fast.tw14693336873949250034 : Unit := ()
def PySem.W.Fast.tw16273535463417350607 : Unit := ()
def PySem.W.Fast.tw17825977274783576719 : Unit := ()
def PySem.W.Fast.tw10818480361635418348 : Unit := ()
def PySem.W.Fast.tw15740944337245563505 : Unit := ()
def PySem.W.Fast.tw16914114957477731705 : Unit := ()
def PySem.W.Fast.tw11647698567660628672 : Unit := ()
def PySem.W.Fast.tw10238876791594586645 : Unit := ()
def PySem.W.Fast.tw14690294680658703833 : Unit := ()
def PySem.W.Fast.tw2434608595007008504 : Unit := ()
def PySem.W.Fast.tw13622120890036630965 : Unit := ()
def PySem.W.Fast.tw1418259329599169891 : Unit := ()
def PySem.W.Fast.tw14147585676264050159 : Unit := ()
def PySem.W.Fast.tw16674138821299490287 : Unit := ()
def PySem.W.Fast.tw11693696735347316078 : Unit := ()
def PySem.W.Fast.tw4769370665053291514 : Unit := ()
def PySem.W.Fast.tw1271941607283148438 : Unit := ()
def PySem.W.Fast.tw5547001872311414602 : Unit := ()
def PySem.W.Fast.tw8923685311500945412 : Unit := ()
def PySem.W.Fast.tw11767537790334459381 : Unit := ()
def PySem.W.Fast.tw7506483659954630816 : Unit := ()
def PySem.W.Fast.tw4231450985214075231 : Unit := ()
def PySem.W.Fast.tw8502901332705998059 : Unit := ()
def PySem.W.Fast.tw10838229859815550658 : Unit := ()
def PySem.W.Fast.tw6519113477397068823 : Unit := ()
def PySem.W.Fast.tw556565483542885137 : Unit := ()
def PySem.W.Fast.tw11368597258186775454 : Unit := ()
def PySem.W.Fast.tw2473419103201748627 : Unit := ()
def PySem.W.Fast.tw10702618953885998722 : Unit := ()
def PySem.W.Fast.tw7279679467011767563 : Unit := ()
def PySem.W.Fast.tw4175795141003119805 : Unit := ()
def PySem.W.Fast.tw16976798207648887708 : Unit := ()
def PySem.W.Fast.tw8531972311567218636 : Unit := ()
def PySem.W.Fast.tw17163633568068130887 : Unit := ()
def PySem.W.Fast.tw11426798498270709093 : Unit := ()
def PySem.W.Fast.tw4928574294968241477 : Unit := ()
def PySem.W.Fast.tw268206287550702679 : Unit := ()
def PySem.W.Fast.tw789440962410915003 : Unit := ()
def PySem.W.Fast.tw8454030140213334434 : Unit := ()
def PySem.W.Fast.tw6855588398083566298 : Unit := ()
def PySem.W.Fast.tw11303964372530146691 : Unit := ()
def PySem.W.Fast.tw15917595775059064341 : Unit := ()
def PySem.W.Fast.tw17867505952029223929 : Unit := ()
def PySem.W.Fast.tw8079720089580548394 : Unit := ()
def PySem.W.Fast.tw13113570765008384518 : Unit := ()
def PySem.W.Fast.tw6998509879106071662 : Unit := ()
def PySem.W.Fast.tw7089381457016318042 : Unit := ()
def PySem.W.Fast.tw6737495307959372162 : Unit := ()
def PySem.W.Fast.tw3356426341058869861 : Unit := ()
def PySem.W.Fast.tw1592492042859646081 : Unit := ()
def PySem.W.Fast.tw3891561252742237240 : Unit := ()
def PySem.W.Fast.tw2265643135067533842 : Unit := ()
def PySem.W.Fast.tw16646091253656951426 : Unit := ()
def PySem.W.Fast.tw7737354027907259259 : Unit := ()
def PySem.W.Fast.tw3000624449713372959 : Unit := ()
def PySem.W.Fast.tw15143999713739315843 : Unit := ()
def PySem.W.Fast.tw3275957529558103468 : Unit := ()
def PySem.W.Fast.tw10352187648225273624 : Unit := ()
def PySem.W.Fast.tw1161322402882519634 : Unit := ()
def PySem.W.Fast.tw15741270117144064789 : Unit := ()
def PySem.W.Fast.tw9146066557147040471 : Unit := ()
def PySem.W.Fast.tw8383195337058604001 : Unit := ()
def PySem.W.Fast.tw10133038739949655469 : Unit := ()
def PySem.W.Fast.tw17070094481966757549 : Unit := ()
def PySem.W.Fast.tw540105720629952963 : Unit := ()
def PySem.W.Fast.tw16317428870254789755 : Unit := ()
def PySem.W.Fast.tw9436140443778368460 : Unit := ()
def PySem.W.Fast.tw937069234831637721 : Unit := ()
def PySem.W.Fast.tw946322489654216223 : Unit := ()
def PySem.W.Fast.tw10531398474513619961 : Unit := ()
def PySem.W.Fast.tw10679150327355705822 : Unit := ()
def PySem.W.Fast.tw14283811079375104020 : Unit := ()
def PySem.W.Fast.tw11741013388080005263 : Unit := ()
def PySem.W.Fast.tw17985477945633010392 : Unit := ()
def PySem.W.Fast.tw11211495741204488082 : Unit := ()
def PySem.W.Fast.tw3511632216913720993 : Unit := ()
def PySem.W.Fast.tw3482525429023013461 : Unit := ()
def PySem.W.Fast.tw18023752645379271911 : Unit := ()
def PySem.W.Fast.tw4010751269011265783 : Unit := ()
def PySem.W.Fast.tw15115115955045040552 : Unit := ()
def PySem.W.Fast.tw12007117107370202126 : Unit := ()
def PySem.W.Fast.tw14451479161527050025 : Unit := ()
def PySem.W.Fast.tw12720373296023295264 : Unit := ()
def PySem.W.Fast.tw11582956241601003843 : Unit := ()
def PySem.W.Fast.tw7837501719108975786 : Unit := ()
def PySem.W.Fast.tw12966745448549667746 : Unit := ()
def PySem.W.Fast.tw372156582079746902 : Unit := ()
def PySem.W.Fast.tw368420407936627877 : Unit := ()
def PySem.W.Fast.tw11422213869987485232 : Unit := ()
def PySem.W.Fast.tw4607879847187278395 : Unit := ()
def PySem.W.Fast.tw4511624801444072250 : Unit := ()
def PySem.W.Fast.tw14318147914190499367 : Unit := ()
def PySem.W.Fast.tw10238104556988479089 : Unit := ()
def PySem.W.Fast.tw13211564800146167186 : Unit := ()
def PySem.W.Fast.tw18009750652226966339 : Unit := ()
def PySem.W.Fast.tw8101336990807113395 : Unit := ()
def PySem.W.Fast.tw1717620262093820016 : Unit := ()
def PySem.W.Fast.tw18057811017031590628 : Unit := ()
def PySem.W.Fast.tw9723163520460611598 : Unit := ()
def PySem.W.Fast.tw11780577455591900861 : Unit := ()
def PySem.W.Fast.tw4760821155657897162 : Unit := ()
def PySem.W.Fast.tw14681256313844993344 : Unit := ()
def PySem.W.Fast.tw11451545337051256849 : Unit := ()
def PySem.W.Fast.tw18283981589234152604 : Unit := ()
def PySem.W.Fast.tw16460639978243987450 : Unit := ()
def PySem.W.Fast.tw11028681921224737031 : Unit := ()
def PySem.W.Fast.tw7604787348706531538 : Unit := ()
def PySem.W.Fast.tw17486406135557319984 : Unit := ()
def PySem.W.Fast.tw17086044043685914325 : Unit := ()
def PySem.W.Fast.tw12820624335110407076 : Unit := ()
def PySem.W.Fast.tw12634157184005404368 : Unit := ()
def PySem.W.Fast.tw9534654184511337184 : Unit := ()
def PySem.W.Fast.tw4010583696634801140 : Unit := ()
def PySem.W.Fast.tw13401110758979678993 : Unit := ()
def PySem.W.Fast.tw14141040118593438387 : Unit := ()
def PySem.W.Fast.tw12566728563641296035 : Unit := ()
def PySem.W.Fast.tw114684321714100233 : Unit := ()
def PySem.W.Fast.tw7849556501742992854 : Unit := ()
def PySem.W.Fast.tw7968540941542864437 : Unit := ()
def PySem.W.Fast.tw5055030776793135226 : Unit := ()
def PySem.W.Fast.tw17332517471489871851 : Unit := ()
def PySem.W.Fast.tw6732153776965788145 : Unit := ()
def PySem.W.Fast.tw9942205818453350330 : Unit := ()
def PySem.W.Fast.tw12674992525053133304 : Unit := ()
def PySem.W.Fast.tw1556489976423785123 : Unit := ()
def PySem.W.Fast.tw15326591309111605722 : Unit := ()
def PySem.W.Fast.tw303200198492993845 : Unit := ()
def PySem.W.Fast.tw2730648211798789037 : Unit := ()
def PySem.W.Fast.tw6761714491258984759 : Unit := ()
def PySem.W.Fast.tw9873780858233868562 : Unit := ()
def PySem.W.Fast.tw1306726867206396382 : Unit := ()
def PySem.W.Fast.tw18314883394707894918 : Unit := ()
def PySem.W.Fast.tw126607594354563353 : Unit := ()
def PySem.W.Fast.tw2599288910839102816 : Unit := ()
def PySem.W.Fast.tw15993538247976504306 : Unit := ()
def PySem.W.Fast.tw16357302312684966737 : Unit := ()
def PySem.W.Fast.tw1158351901841037901 : Unit := ()
def PySem.W.Fast.tw13983091684976377342 : Unit := ()
def PySem.W.Fast.tw12766213481093020501 : Unit := ()
def PySem.W.Fast.tw5590757924421077642 : Unit := ()
def PySem.W.Fast.tw12694928517334840751 : Unit := ()
def PySem.W.Fast.tw4036386127885682567 : Unit := ()
def PySem.W.Fast.tw16985917451141418051 : Unit := ()
def PySem.W.Fast.tw15904453494646659700 : Unit := ()
def PySem.W.Fast.tw116693337660641630 : Unit := ()
def PySem.W.Fast.tw964109977737828900 : Unit := ()
def PySem.W.Fast.tw2688536172269429573 : Unit := ()
def PySem.W.Fast.tw8548988138774026741 : Unit := ()
def PySem.W.Fast.tw8070946730614651914 : Unit := ()
def PySem.W.Fast.tw13797058837960888348 : Unit := ()
def PySem.W.Fast.tw6150952448628266877 : Unit := ()
def PySem.W.Fast.tw15386267642160387790 : Unit := ()
def PySem.W.Fast.tw13953577631680142925 : Unit := ()
def PySem.W.Fast.tw18283096971717591087 : Unit := ()
def PySem.W.Fast.tw3626886625240473596 : Unit := ()
def PySem.W.Fast.tw3299996617546432225 : Unit := ()
def PySem.W.Fast.tw15670941728147730658 : Unit := ()
def PySem.W.Fast.tw15471381454125051062 : Unit := ()
def PySem.W.Fast.tw3600141617005665676 : Unit := ()
def PySem.W.Fast.tw13344016413103821209 : Unit := ()
def PySem.W.Fast.tw8865333758645689333 : Unit := ()
def PySem.W.Fast.tw8122074038412316012 : Unit := ()
def PySem.W.Fast.tw6925415357927742106 : Unit := ()
def PySem.W.Fast.tw13478595519380821437 : Unit := ()
def PySem.W.Fast.tw4928561908826895363 : Unit := ()
def PySem.W.Fast.tw16152490461050897053 : Unit := ()
def PySem.W.Fast.tw3966782459256279024 : Unit := ()
def PySem.W.Fast.tw4364545149020625239 : Unit := ()
def PySem.W.Fast.tw17379734343564165352 : Unit := ()
def PySem.W.Fast.tw16293286809380448509 : Unit := ()
def PySem.W.Fast.tw10149066331637993795 : Unit := ()
def PySem.W.Fast.tw12823866705381357777 : Unit := ()
def PySem.W.Fast.tw3968790912251428288 : Unit := ()
def PySem.W.Fast.tw3088245066539541363 : Unit := ()
def PySem.W.Fast.tw669437690283020244 : Unit := ()
def PySem.W.Fast.tw3265000944828139841 : Unit := ()
def PySem.W.Fast.tw2376524311536651034 : Unit := ()
def PySem.W.Fast.tw12330700631333771498 : Unit := ()
def PySem.W.Fast.tw16886976044047531930 : Unit := ()
def PySem.W.Fast.tw3227873148552406968 : Unit := ()
def PySem.W.Fast.tw18340803608757631346 : Unit := ()
def PySem.W.Fast.tw13398126265388350868 : Unit := ()
def PySem.W.Fast.tw12663273103129003316 : Unit := ()
def PySem.W.Fast.tw12458135189619591282 : Unit := ()
def PySem.W.Fast.tw15868412027408466654 : Unit := ()
def PySem.W.Fast.tw17781054121471224677 : Unit := ()
def PySem.W.Fast.tw16006575907691981640 : Unit := ()
def PySem.W.Fast.tw17076998065422302062 : Unit := ()
def PySem.W.Fast.tw4630123212223979550 : Unit := ()
def PySem.W.Fast.tw5854143273405318899 : Unit := ()
def PySem.W.Fast.tw2695690389707469901 : Unit := ()
def PySem.W.Fast.tw5659920204111421052 : Unit := ()
def PySem.W.Fast.tw6566214482668292756 : Unit := ()
def PySem.W.Fast.tw17205757844672143355 : Unit := ()
def PySem.W.Fast.tw2681496030345242550 : Unit := ()
def PySem.W.Fast.tw2170711470729864388 : Unit := ()
def PySem.W.Fast.tw12775881776665350151 : Unit := ()
def PySem.W.Fast.tw13750758377304275280 : Unit := ()
def PySem.W.Fast.tw9130876867898664909 : Unit := ()
def PySem.W.Fast.tw17708800283123247628 : Unit := ()
def PySem.W.Fast.tw15652292235452548585 : Unit := ()
def PySem.W.Fast.tw8069994658669345133 : Unit := ()
def PySem.W.Fast.tw892464130666091900 : Unit := ()
def PySem.W.Fast.tw5789045038221058119 : Unit := ()
def PySem.W.Fast.tw4019599456484395349 : Unit := ()
def PySem.W.Fast.tw5684564937366401633 : Unit := ()
def PySem.W.Fast.tw5076575689955585415 : Unit := ()
def PySem.W.Fast.tw879113854821697320 : Unit := ()
def PySem.W.Fast.tw15089171179299997090 : Unit := ()
def PySem.W.Fast.tw8749817331984827338 : Unit := ()
def PySem.W.Fast.tw3508995434032224528 : Unit := ()
def PySem.W.Fast.tw5438752958719299712 : Unit := ()
def PySem.W.Fast.tw13840024104128040217 : Unit := ()
def PySem.W.Fast.tw10276838368397759682 : Unit := ()
def PySem.W.Fast.tw7257273408117631818 : Unit := ()
def PySem.W.Fast.tw18330842346556333073 : Unit := ()
def PySem.W.Fast.tw14762426159821258185 : Unit := ()
def PySem.W.Fast.tw3786137075224009207 : Unit := ()
def PySem.W.Fast.tw17464981479510068373 : Unit := ()
def PySem.W.Fast.tw13848942309954976513 : Unit := ()
def PySem.W.Fast.tw5852838257135696042 : Unit := ()
def PySem.W.Fast.tw5147417733392607009 : Unit := ()
def PySem.W.Fast.tw9460714045929929312 : Unit := ()
def PySem.W.Fast.tw16120104024768821062 : Unit := ()
def PySem.W.Fast.tw2070353836580564477 : Unit := ()
def PySem.W.Fast.tw11379849038899977581 : Unit := ()
def PySem.W.Fast.tw14459163857824552937 : Unit := ()
def PySem.W.Fast.tw5326985083801046166 : Unit := ()
def PySem.W.Fast.tw7918238725370707285 : Unit := ()
def PySem.W.Fast.tw9079610672359157535 : Unit := ()
def PySem.W.Fast.tw12184804919760388222 : Unit := ()
def PySem.W.Fast.tw6321217545652101700 : Unit := ()
def PySem.W.Fast.tw18198180544101469506 : Unit := ()
def PySem.W.Fast.tw7584602167362179884 : Unit := ()
def PySem.W.Fast.tw12335404892149281979 : Unit := ()
def PySem.W.Fast.tw17772536125526926400 : Unit := ()
def PySem.W.Fast.tw13694733025292288333 : Unit := ()
def PySem.W.Fast.tw10685611167317134978 : Unit := ()
def PySem.W.Fast.tw13266557277451280295 : Unit := ()
def PySem.W.Fast.tw12769547878335247958 : Unit := ()
def PySem.W.Fast.tw6607894261306608451 : Unit := ()
def PySem.W.Fast.tw1244683636245344702 : Unit := ()
def PySem.W.Fast.tw14413961248930286378 : Unit := ()
def PySem.W.Fast.tw17003991640457559357 : Unit := ()
def PySem.W.Fast.tw7241135427365444971 : Unit := ()
def PySem.W.Fast.tw14134192481773113584 : Unit := ()
def PySem.W.Fast.tw5874641518187596707 : Unit := ()
def PySem.W.Fast.tw10435937819707333600 : Unit := ()
def PySem.W.Fast.tw15719803962228088184 : Unit := ()
def PySem.W.Fast.tw2144647326903627234 : Unit := ()
def PySem.W.Fast.tw7963990793914402801 : Unit := ()
def PySem.W.Fast.tw11973250253479600978 : Unit := ()
def PySem.W.Fast.tw13170234361969581850 : Unit := ()
def PySem.W.Fast.tw4621038609107242610 : Unit := ()
def PySem.W.Fast.tw1775766759035649870 : Unit := ()
def PySem.W.Fast.tw9098501185232153415 : Unit := ()
def PySem.W.Fast.tw16806119599252961069 : Unit := ()
def PySem.W.Fast.tw11299433660125202889 : Unit := ()
def PySem.W.Fast.tw15573732043124485510 : Unit := ()
def PySem.W.Fast.tw4060400453299994290 : Unit := ()
def PySem.W.Fast.tw7016861907442756256 : Unit := ()
def PySem.W.Fast.tw3259354868793572638 : Unit := ()
def PySem.W.Fast.tw4853507407340624315 : Unit := ()
def PySem.W.Fast.tw11601528627702769089 : Unit := ()
def PySem.W.Fast.tw11363648012988529314 : Unit := ()
def PySem.W.Fast.tw1697161303840677685 : Unit := ()
def PySem.W.Fast.tw14326392972134407893 : Unit := ()
def PySem.W.Fast.tw6625782527328996712 : Unit := ()
def PySem.W.Fast.tw8238756791583433183 : Unit := ()
def PySem.W.Fast.tw3261646469435039381 : Unit := ()
def PySem.W.Fast.tw14595308182169407217 : Unit := ()
def PySem.W.Fast.tw13351335403261508207 : Unit := ()
def PySem.W.Fast.tw4071329571747239543 : Unit := ()
def PySem.W.Fast.tw9087344618695412286 : Unit := ()
def PySem.W.Fast.tw9288479591128905864 : Unit := ()
def PySem.W.Fast.tw6741836263329619291 : Unit := ()
def PySem.W.Fast.tw1864308900476831632 : Unit := ()
def PySem.W.Fast.tw8434122932341826768 : Unit := ()
def PySem.W.Fast.tw16823274891455783411 : Unit := ()
def PySem.W.Fast.tw16150062757690438121 : Unit := ()
def PySem.W.Fast.tw4045459883739132588 : Unit := ()
def PySem.W.Fast.tw3972649105832176418 : Unit := ()
def PySem.W.Fast.tw14350635214243480033 : Unit := ()
def PySem.W.Fast.tw10199788512909176025 : Unit := ()
def PySem.W.Fast.tw3218802316394999332 : Unit := ()
def PySem.W.Fast.tw2109928935845401777 : Unit := ()
def PySem.W.Fast.tw14809149663925940310 : Unit := ()
def PySem.W.Fast.tw3794182155892010108 : Unit := ()
def PySem.W.Fast.tw14836738547900208159 : Unit := ()
def PySem.W.Fast.tw2295250803514084598 : Unit := ()
def PySem.W.Fast.tw14464844397120044177 : Unit := ()
def PySem.W.Fast.tw8132128273967333351 : Unit := ()
def PySem.W.Fast.tw9583681700123055122 : Unit := ()
def PySem.W.Fast.tw1126311788121614956 : Unit := ()
def PySem.W.Fast.tw16523495890944176319 : Unit := ()
def PySem.W.Fast.tw13727185183153133776 : Unit := ()
def PySem.W.Fast.tw11595605197224828810 : Unit := ()
def PySem.W.Fast.tw13642139641984465591 : Unit := ()
def PySem.W.Fast.tw12221996478554515499 : Unit := ()
def PySem.W.Fast.tw15757338580877659626 : Unit := ()
def PySem.W.Fast.tw9672081792580640234 : Unit := ()
def PySem.W.Fast.tw9705623400752445702 : Unit := ()
def PySem.W.Fast.tw6268071343748211045 : Unit := ()
def PySem.W.Fast.tw11352420401086473566 : Unit := ()
def PySem.W.Fast.tw1076793078196010808 : Unit := ()
def PySem.W.Fast.tw12737515032860478089 : Unit := ()
def PySem.W.Fast.tw564296317386657759 : Unit := ()
def PySem.W.Fast.tw3542841376023529831 : Unit := ()
def PySem.W.Fast.tw12683472532623963674 : Unit := ()
def PySem.W.Fast.tw934180705797752212 : Unit := ()
def PySem.W.Fast.tw15264639165525757501 : Unit := ()
def PySem.W.Fast.tw2068633974599162261 : Unit := ()
def PySem.W.Fast.tw9255117237212981716 : Unit := ()
def PySem.W.Fast.tw680971533506401243 : Unit := ()
def PySem.W.Fast.tw4780480738048448700 : Unit := ()
def PySem.W.Fast.tw8939151832983229504 : Unit := ()
def PySem.W.Fast.tw2897524388348685682 : Unit := ()
def PySem.W.Fast.tw9330845068745849923 : Unit := ()
def PySem.W.Fast.tw4187502772382224941 : Unit := ()
def PySem.W.Fast.tw16715954765532044763 : Unit := ()
def PySem.W.Fast.tw2003593125398986141 : Unit := ()
def PySem.W.Fast.tw7632777034592495931 : Unit := ()
def PySem.W.Fast.tw8170413639808944419 : Unit := ()
def PySem.W.Fast.tw15050637750037403530 : Unit := ()
def PySem.W.Fast.tw287295704321497806 : Unit := ()
def PySem.W.Fast.tw5096847499523681966 : Unit := ()
def PySem.W.Fast.tw13320136211067580174 : Unit := ()
def PySem.W.Fast.tw6873271973208277144 : Unit := ()
def PySem.W.Fast.tw10619751602512172321 : Unit := ()
def PySem.W.Fast.tw1859368040959802415 : Unit := ()
def PySem.W.Fast.tw17147701570756830252 : Unit := ()
def PySem.W.Fast.tw14860491446893178024 : Unit := ()
def PySem.W.Fast.tw10353826005864291172 : Unit := ()
def PySem.W.Fast.tw11279610310461233946 : Unit := ()
def PySem.W.Fast.tw14028304520911647485 : Unit := ()
def PySem.W.Fast.tw2763547468647495069 : Unit := ()
def PySem.W.Fast.tw11694352989920755222 : Unit := ()
def PySem.W.Fast.tw13976829824967227089 : Unit := ()
def PySem.W.Fast.tw7136837976009261339 : Unit := ()
def PySem.W.Fast.tw10759235787299150242 : Unit := ()
def PySem.W.Fast.tw9404681983360273588 : Unit := ()
def PySem.W.Fast.tw5221108264158951533 : Unit := ()
def PySem.W.Fast.tw2755395549658982973 : Unit := ()
def PySem.W.Fast.tw15172025492987959610 : Unit := ()
def PySem.W.Fast.tw15801267146354113822 : Unit := ()
def PySem.W.Fast.tw2892273949042799267 : Unit := ()
def PySem.W.Fast.tw15111236080379567141 : Unit := ()
def PySem.W.Fast.tw2385675815628581845 : Unit := ()
def PySem.W.Fast.tw458017587543595556 : Unit := ()
def PySem.W.Fast.tw272128310139715392 : Unit := ()
def PySem.W.Fast.tw12884972916857218326 : Unit := ()
def PySem.W.Fast.tw13810666600520988274 : Unit := ()
def PySem.W.Fast.tw10394140497911954942 : Unit := ()
def PySem.W.Fast.tw14945658019056598567 : Unit := ()
def PySem.W.Fast.tw13026998609018184765 : Unit := ()
def PySem.W.Fast.tw14591235065886164539 : Unit := ()
def PySem.W.Fast.tw167616533747636591 : Unit := ()
def PySem.W.Fast.tw599857946529054906 : Unit := ()
def PySem.W.Fast.tw3348190825183981152 : Unit := ()
def PySem.W.Fast.tw15404281820867762809 : Unit := ()
def PySem.W.Fast.tw8034802427936220665 : Unit := ()
def PySem.W.Fast.tw7941404744338719523 : Unit := ()
def PySem.W.Fast.tw3496781624453790626 : Unit := ()
def PySem.W.Fast.tw9365959761061153653 : Unit := ()
def PySem.W.Fast.tw17745546177623760144 : Unit := ()
def PySem.W.Fast.tw13728968205096682789 : Unit := ()
def PySem.W.Fast.tw565614914439206740 : Unit := ()
def PySem.W.Fast.tw7791920074937149094 : Unit := ()
def PySem.W.Fast.tw13367743458284642669 : Unit := ()
def PySem.W.Fast.tw8087873536032492103 : Unit := ()
def PySem.W.Fast.tw18241176820737874100 : Unit := ()
def PySem.W.Fast.tw5582769070597793903 : Unit := ()
def PySem.W.Fast.tw6061405340316256819 : Unit := ()
def PySem.W.Fast.tw17945085815028853406 : Unit := ()
def PySem.W.Fast.tw1349405196691528026 : Unit := ()
def PySem.W.Fast.tw1811659764735996390 : Unit := ()
def PySem.W.Fast.tw8684310047990569009 : Unit := ()
def PySem.W.Fast.tw7028510489068978819 : Unit := ()
def PySem.W.Fast.tw7367044248203531825 : Unit := ()
def PySem.W.Fast.tw894943188354237772 : Unit := ()
def PySem.W.Fast.tw7162307341695681576 : Unit := ()
def PySem.W.Fast.tw7333829604395299398 : Unit := ()
def PySem.W.Fast.tw10361226731827400171 : Unit := ()
def PySem.W.Fast.tw10085228875909590744 : Unit := ()
def PySem.W.Fast.tw9825894407739406553 : Unit := ()
def PySem.W.Fast.tw17959856886456340948 : Unit := ()
def PySem.W.Fast.tw5888118776612929270 : Unit := ()
def PySem.W.Fast.tw6649418085783157845 : Unit := ()
def PySem.W.Fast.tw17757391180517884925 : Unit := ()
def PySem.W.Fast.tw17326632162667641761 : Unit := ()
def PySem.W.Fast.tw17780957816956351074 : Unit := ()
def PySem.W.Fast.tw18087358150612920412 : Unit := ()
def PySem.W.Fast.tw15673208721909978771 : Unit := ()
def PySem.W.Fast.tw3824636966231749348 : Unit := ()
def PySem.W.Fast.tw6203751434160101964 : Unit := ()
def PySem.W.Fast.tw1351873802586195437 : Unit := ()
def PySem.W.Fast.tw11461687788928037839 : Unit := ()
def PySem.W.Fast.tw16397254755383546563 : Unit := ()
def PySem.W.Fast.tw2492687553171785319 : Unit := ()
def PySem.W.Fast.tw9477849627474908107 : Unit := ()
def PySem.W.Fast.tw11323566183599262702 : Unit := ()
def PySem.W.Fast.tw16647080783892821470 : Unit := ()
def PySem.W.Fast.tw1283042223876307996 : Unit := ()
def PySem.W.Fast.tw5732714309460567708 : Unit := ()
def PySem.W.Fast.tw5762755611458668735 : Unit := ()
def PySem.W.Fast.tw8468834255530354833 : Unit := ()
def PySem.W.Fast.tw10716806184853436415 : Unit := ()
def PySem.W.Fast.tw12094724402793857089 : Unit := ()
def PySem.W.Fast.tw1748814171536960109 : Unit := ()
def PySem.W.Fast.tw16552764081841667626 : Unit := ()
def PySem.W.Fast.tw10502929207092519358 : Unit := ()
def PySem.W.Fast.tw5290317525756884754 : Unit := ()
def PySem.W.Fast.tw4609857895643921672 : Unit := ()
def PySem.W.Fast.tw6420641310753058840 : Unit := ()
def PySem.W.Fast.tw430364077259081639 : Unit := ()
def PySem.W.Fast.tw6051453484870281309 : Unit := ()
def PySem.W.Fast.tw14818130098544781014 : Unit := ()
def PySem.W.Fast.tw399923722240963575 : Unit := ()
def PySem.W.Fast.tw7110646771532889140 : Unit := ()
def PySem.W.Fast.tw6300829068545427037 : Unit := ()
def PySem.W.Fast.tw14563546882092242218 : Unit := ()
def PySem.W.Fast.tw6269096577259975667 : Unit := ()
def PySem.W.Fast.tw3145025661494509398 : Unit := ()
def PySem.W.Fast.tw10941167640237582731 : Unit := ()
def PySem.W.Fast.tw14911010623453771053 : Unit := ()
def PySem.W.Fast.tw5062987975114108891 : Unit := ()
def PySem.W.Fast.tw8418271887371568627 : Unit := ()
def PySem.W.Fast.tw14474801229143794858 : Unit := ()
def PySem.W.Fast.tw863243253262800077 : Unit := ()
def PySem.W.Fast.tw18000581172495276535 : Unit := ()
def PySem.W.Fast.tw4915204618549546598 : Unit := ()
def PySem.W.Fast.tw4476171693443974857 : Unit := ()
def PySem.W.Fast.tw4993088663809314504 : Unit := ()
def PySem.W.Fast.tw9486434232022294885 : Unit := ()
def PySem.W.Fast.tw1293327289236166069 : Unit := ()
def PySem.W.Fast.tw4963685133036272069 : Unit := ()
def PySem.W.Fast.tw5898326937044841538 : Unit := ()
def PySem.W.Fast.tw9235620521005892645 : Unit := ()
def PySem.W.Fast.tw3421044069812242676 : Unit := ()
def PySem.W.Fast.tw3496869511627099419 : Unit := ()
def PySem.W.Fast.tw17173328923581063737 : Unit := ()
def PySem.W.Fast.tw12428808775985228070 : Unit := ()
def PySem.W.Fast.tw9519632876787379166 : Unit := ()
def PySem.W.Fast.tw12137689138618824897 : Unit := ()
def PySem.W.Fast.tw8913516135108028087 : Unit := ()
def PySem.W.Fast.tw4820685698475537535 : Unit := ()
def PySem.W.Fast.tw8943477101008524043 : Unit := ()
def PySem.W.Fast.tw5437632130265709389 : Unit := ()
def PySem.W.Fast.tw13880224084977520265 : Unit := ()
def PySem.W.Fast.tw16301368814513225843 : Unit := ()
def PySem.W.Fast.tw10058270311184975305 : Unit := ()
def PySem.W.Fast.tw16378861882193428634 : Unit := ()
def PySem.W.Fast.tw5892471318998158258 : Unit := ()
def PySem.W.Fast.tw720369148053138210 : Unit := ()
def PySem.W.Fast.tw6616503255548932632 : Unit := ()
def PySem.W.Fast.tw1820914616912261408 : Unit := ()
def PySem.W.Fast.tw15842576209303062733 : Unit := ()
def PySem.W.Fast.tw10847051563142746399 : Unit := ()
def PySem.W.Fast.tw8568066130346245136 : Unit := ()
def PySem.W.Fast.tw15393232139062703128 : Unit := ()
def PySem.W.Fast.tw15819390668169139941 : Unit := ()
def PySem.W.Fast.tw8279318949490723092 : Unit := ()
def PySem.W.Fast.tw17393826578321074597 : Unit := ()
def PySem.W.Fast.tw14046707897740611602 : Unit := ()
def PySem.W.Fast.tw17100539253782189814 : Unit := ()
def PySem.W.Fast.tw16221303351267216458 : Unit := ()
def PySem.W.Fast.tw5988243114451787998 : Unit := ()
def PySem.W.Fast.tw3849276219209019950 : Unit := ()
def PySem.W.Fast.tw11173779061062317735 : Unit := ()
def PySem.W.Fast.tw8067371551645598997 : Unit := ()
def PySem.W.Fast.tw15933208547240383106 : Unit := ()
def PySem.W.Fast.tw7859772044259880157 : Unit := ()
def PySem.W.Fast.tw3972091846938678474 : Unit := ()
def PySem.W.Fast.tw8577067821736605674 : Unit := ()
def PySem.W.Fast.tw12800706694314929310 : Unit := ()
def PySem.W.Fast.tw11345225781179618854 : Unit := ()
def PySem.W.Fast.tw3300848508776472292 : Unit := ()
def PySem.W.Fast.tw7351452219327002933 : Unit := ()
def PySem.W.Fast.tw8696069559828558401 : Unit := ()
def PySem.W.Fast.tw14338681275585734474 : Unit := ()
def PySem.W.Fast.tw10376800107062806238 : Unit := ()
def PySem.W.Fast.tw15869255008105653679 : Unit := ()
def PySem.W.Fast.tw5142599101361220804 : Unit := ()
def PySem.W.Fast.tw10308830184960181959 : Unit := ()
def PySem.W.Fast.tw13221139086197217770 : Unit := ()
def PySem.W.Fast.tw7312993166030031063 : Unit := ()
def PySem.W.Fast.tw11569557065498365952 : Unit := ()
def PySem.W.Fast.tw14455448402750122768 : Unit := ()
def PySem.W.Fast.tw16219212952620434268 : Unit := ()
def PySem.W.Fast.tw347273141972537220 : Unit := ()
def PySem.W.Fast.tw7800507000689113133 : Unit := ()
def PySem.W.Fast.tw11598401006854739720 : Unit := ()
def PySem.W.Fast.tw17437290797530476759 : Unit := ()
def PySem.W.Fast.tw467207111131352740 : Unit := ()
def PySem.W.Fast.tw13168185235927292652 : Unit := ()
def PySem.W.Fast.tw14783968207197720620 : Unit := ()
def PySem.W.Fast.tw9080570917175171619 : Unit := ()
def PySem.W.Fast.tw16219478541311327034 : Unit := ()
def PySem.W.Fast.tw6677000758528443786 : Unit := ()
def PySem.W.Fast.tw13671106866557282364 : Unit := ()
def PySem.W.Fast.tw8193958223089981474 : Unit := ()
def PySem.W.Fast.tw5755089710534888072 : Unit := ()
def PySem.W.Fast.tw9052706744671795982 : Unit := ()
def PySem.W.Fast.tw10149176248124086410 : Unit := ()
def PySem.W.Fast.tw14229059193063383155 : Unit := ()
def PySem.W.Fast.tw658384933965475314 : Unit := ()
def PySem.W.Fast.tw7275921704891521436 : Unit := ()
def PySem.W.Fast.tw5258176445477500332 : Unit := ()
def PySem.W.Fast.tw16095315957252010372 : Unit := ()
def PySem.W.Fast.tw3441508981735088542 : Unit := ()
def PySem.W.Fast.tw11918071224768263292 : Unit := ()
def PySem.W.Fast.tw16126676262450694045 : Unit := ()
def PySem.W.Fast.tw1317234916404804967 : Unit := ()
def PySem.W.Fast.tw17892766401873059016 : Unit := ()
def PySem.W.Fast.tw18151756224870771487 : Unit := ()
def PySem.W.Fast.tw16777324278976475540 : Unit := ()
def PySem.W.Fast.tw2177268725106658749 : Unit := ()
def PySem.W.Fast.tw14325851148373053051 : Unit := ()
def PySem.W.Fast.tw17903014902805231202 : Unit := ()
def PySem.W.Fast.tw9173806512364129082 : Unit := ()
def PySem.W.Fast.tw7379386427393805404 : Unit := ()
def PySem.W.Fast.tw10137372118192075791 : Unit := ()
def PySem.W.Fast.tw4015981207691411192 : Unit := ()
def PySem.W.Fast.tw13532154285965150460 : Unit := ()
def PySem.W.Fast.tw5170628318165332302 : Unit := ()
def PySem.W.Fast.tw9033114364406532884 : Unit := ()
def PySem.W.Fast.tw6540761292307024550 : Unit := ()
def PySem.W.Fast.tw11293815852391315678 : Unit := ()
def PySem.W.Fast.tw1196697461520617065 : Unit := ()
def PySem.W.Fast.tw3088645232933943787 : Unit := ()
def PySem.W.Fast.tw549040007424186004 : Unit := ()
def PySem.W.Fast.tw8894119244128086252 : Unit := ()
def PySem.W.Fast.tw9223717389742544551 : Unit := ()
def PySem.W.Fast.tw1690018206224425593 : Unit := ()
def PySem.W.Fast.tw2488323069675413461 : Unit := ()
def PySem.W.Fast.tw10250158501478236227 : Unit := ()
def PySem.W.Fast.tw13496313747054292200 : Unit := ()
def PySem.W.Fast.tw17629130463322291863 : Unit := ()
def PySem.W.Fast.tw15617312165195446423 : Unit := ()
def PySem.W.Fast.tw17747078205818022156 : Unit := ()
def PySem.W.Fast.tw4237704393662031238 : Unit := ()
def PySem.W.Fast.tw14357002752144873216 : Unit := ()
def PySem.W.Fast.tw4646158226901418063 : Unit := ()
def PySem.W.Fast.tw9795612806162772020 : Unit := ()
def PySem.W.Fast.tw1249688911041477673 : Unit := ()
def PySem.W.Fast.tw18317367065266362872 : Unit := ()
def PySem.W.Fast.tw3890335710577739204 : Unit := ()
def PySem.W.Fast.tw4121455359476864529 : Unit := ()
def PySem.W.Fast.tw3640048825050564976 : Unit := ()
def PySem.W.Fast.tw4837883694264503093 : Unit := ()
def PySem.W.Fast.tw4321126942849543205 : Unit := ()
def PySem.W.Fast.tw13912117376528872177 : Unit := ()
def PySem.W.Fast.tw10984019298977510844 : Unit := ()
def PySem.W.Fast.tw7268368005650252847 : Unit := ()
def PySem.W.Fast.tw6442408608780892547 : Unit := ()
def PySem.W.Fast.tw16477027023938208858 : Unit := ()
def PySem.W.Fast.tw10484858983645744226 : Unit := ()
def PySem.W.Fast.tw5804999658159632353 : Unit := ()
def PySem.W.Fast.tw17980637818172244267 : Unit := ()
def PySem.W.Fast.tw6778508669304059404 : Unit := ()
def PySem.W.Fast.tw16227479403175207873 : Unit := ()
def PySem.W.Fast.tw2534627319466520614 : Unit := ()
def PySem.W.Fast.tw15701701027078168154 : Unit := ()
def PySem.W.Fast.tw12922411328163509220 : Unit := ()
def PySem.W.Fast.tw3203050945719283125 : Unit := ()
def PySem.W.Fast.tw3950555100664719802 : Unit := ()
def PySem.W.Fast.tw213417820761270973 : Unit := ()
def PySem.W.Fast.tw16688234098703028024 : Unit := ()
def PySem.W.Fast.tw7268203278735986087 : Unit := ()
def PySem.W.Fast.tw13578116857627397392 : Unit := ()
def PySem.W.Fast.tw12615846873912097594 : Unit := ()
def PySem.W.Fast.tw1127905087278596903 : Unit := ()
def PySem.W.Fast.tw12496291631186605991 : Unit := ()
def PySem.W.Fast.tw16955296795907185291 : Unit := ()
def PySem.W.Fast.tw7865633626439555391 : Unit := ()
def PySem.W.Fast.tw9996168389785489145 : Unit := ()
def PySem.W.Fast.tw3612417731783278872 : Unit := ()
def PySem.W.Fast.tw7095433468229787940 : Unit := ()
def PySem.W.Fast.tw2194173768518719141 : Unit := ()
def PySem.W.Fast.tw9364963044345683462 : Unit := ()
def PySem.W.Fast.tw9718687432226448662 : Unit := ()
def PySem.W.Fast.tw5323600062036836642 : Unit := ()
def PySem.W.Fast.tw2260016646655914494 : Unit := ()
def PySem.W.Fast.tw5800900241856308292 : Unit := ()
def PySem.W.Fast.tw15418763179664205203 : Unit := ()
def PySem.W.Fast.tw12073008006068874342 : Unit := ()
def PySem.W.Fast.tw16842546073906001593 : Unit := ()
def PySem.W.Fast.tw2780733513052107027 : Unit := ()
def PySem.W.Fast.tw13503014078590640660 : Unit := ()
def PySem.W.Fast.tw8870710886799724208 : Unit := ()
def PySem.W.Fast.tw4490435791267145609 : Unit := ()
def PySem.W.Fast.tw16294494911304889409 : Unit := ()
def PySem.W.Fast.tw9781424479982815271 : Unit := ()
def PySem.W.Fast.tw17121770544145342255 : Unit := ()
def PySem.W.Fast.tw5306516392439987444 : Unit := ()
def PySem.W.Fast.tw1534014922890761194 : Unit := ()
def PySem.W.Fast.tw8985453969792548261 : Unit := ()
def PySem.W.Fast.tw6339574929045022642 : Unit := ()
def PySem.W.Fast.tw15126233397822883586 : Unit := ()
def PySem.W.Fast.tw481852758021176646 : Unit := ()
def PySem.W.Fast.tw9458817731945766470 : Unit := ()
def PySem.W.Fast.tw10981017575181522525 : Unit := ()
def PySem.W.Fast.tw1049004315503798723 : Unit := ()
def PySem.W.Fast.tw3350316215745699992 : Unit := ()
def PySem.W.Fast.tw17759606268415461366 : Unit := ()
def PySem.W.Fast.tw12244357088527548675 : Unit := ()
def PySem.W.Fast.tw3937553673408786916 : Unit := ()
def PySem.W.Fast.tw10239075139688969855 : Unit := ()
def PySem.W.Fast.tw14095652582797718144 : Unit := ()
def PySem.W.Fast.tw9509846430875854364 : Unit := ()
def PySem.W.Fast.tw8377169455625860042 : Unit := ()
def PySem.W.Fast.tw9134980781266152179 : Unit := ()
def PySem.W.Fast.tw3120652396835192459 : Unit := ()
def PySem.W.Fast.tw10228198367327964592 : Unit := ()
def PySem.W.Fast.tw16542118933433657122 : Unit := ()
def PySem.W.Fast.tw17149026670018803361 : Unit := ()
def PySem.W.Fast.tw13669099538220989117 : Unit := ()
def PySem.W.Fast.tw16769653049313187253 : Unit := ()
def PySem.W.Fast.tw16843406016870726850 : Unit := ()
def PySem.W.Fast.tw8004350306375507703 : Unit := ()
def PySem.W.Fast.tw17875829712901572620 : Unit := ()
def PySem.W.Fast.tw16838095365772460721 : Unit := ()
def PySem.W.Fast.tw12221402075568293607 : Unit := ()
def PySem.W.Fast.tw17455611872689318549 : Unit := ()
def PySem.W.Fast.tw3886003701651485329 : Unit := ()
def PySem.W.Fast.tw17980130650092593845 : Unit := ()
def PySem.W.Fast.tw16396026221533387080 : Unit := ()
def PySem.W.Fast.tw5559389708867116930 : Unit := ()
def PySem.W.Fast.tw5934050180714730659 : Unit := ()
def PySem.W.Fast.tw17632717802547042442 : Unit := ()
def PySem.W.Fast.tw17764292706168229088 : Unit := ()
def PySem.W.Fast.tw7072325606219682898 : Unit := ()
def PySem.W.Fast.tw18433734724163324991 : Unit := ()
def PySem.W.Fast.tw9859284559456439128 : Unit := ()
def PySem.W.Fast.tw6351917905442958179 : Unit := ()
def PySem.W.Fast.tw16316004908980217774 : Unit := ()
def PySem.W.Fast.tw12748327664927119893 : Unit := ()
def PySem.W.Fast.tw2794889886830442458 : Unit := ()
def PySem.W.Fast.tw8091036172088359067 : Unit := ()
def PySem.W.Fast.tw11442347676754444165 : Unit := ()
def PySem.W.Fast.tw16823188755801573048 : Unit := ()
def PySem.W.Fast.tw13870639644166698727 : Unit := ()
def PySem.W.Fast.tw5024371086046095057 : Unit := ()
def PySem.W.Fast.tw2898495642468959015 : Unit := ()
def PySem.W.Fast.tw16288958534209785447 : Unit := ()
def PySem.W.Fast.tw1561934634107945915 : Unit := ()
def PySem.W.Fast.tw10217591947705601772 : Unit := ()
def PySem.W.Fast.tw16464286400985249513 : Unit := ()
def PySem.W.Fast.tw11149203563224957581 : Unit := ()
def PySem.W.Fast.tw777776824117294172 : Unit := ()
def PySem.W.Fast.tw901837849799696748 : Unit := ()
def PySem.W.Fast.tw13168017077106463965 : Unit := ()
def PySem.W.Fast.tw8321101762302463959 : Unit := ()
def PySem.W.Fast.tw11440677066068381146 : Unit := ()
def PySem.W.Fast.tw13690858158072518986 : Unit := ()
def PySem.W.Fast.tw9169233748517016220 : Unit := ()
def PySem.W.Fast.tw4268538496266786263 : Unit := ()
def PySem.W.Fast.tw14849400849470706367 : Unit := ()
def PySem.W.Fast.tw3423884236402881488 : Unit := ()
def PySem.W.Fast.tw942143209987623242 : Unit := ()
def PySem.W.Fast.tw17874100462648530339 : Unit := ()
def PySem.W.Fast.tw13457212054957520967 : Unit := ()
def PySem.W.Fast.tw986527044754936824 : Unit := ()
def PySem.W.Fast.tw18429776771504086938 : Unit := ()
def PySem.W.Fast.tw8820295793879045703 : Unit := ()
def PySem.W.Fast.tw3459483863923368366 : Unit := ()
def PySem.W.Fast.tw14461316127072155278 : Unit := ()
def PySem.W.Fast.tw1172276594863670386 : Unit := ()
def PySem.W.Fast.tw216366797470538217 : Unit := ()
def PySem.W.Fast.tw12467596898551225011 : Unit := ()
def PySem.W.Fast.tw7541597028549171059 : Unit := ()
def PySem.W.Fast.tw7295326472278879455 : Unit := ()
def PySem.W.Fast.tw11168135526138764242 : Unit := ()
def PySem.W.Fast.tw9106440127491070636 : Unit := ()
def PySem.W.Fast.tw18039420556509925710 : Unit := ()
def PySem.W.Fast.tw459566735685327887 : Unit := ()
def PySem.W.Fast.tw7264208168382180844 : Unit := ()
def PySem.W.Fast.tw8193591594192442629 : Unit := ()
def PySem.W.Fast.tw8495057555770668332 : Unit := ()
def PySem.W.Fast.tw4759766672305768155 : Unit := ()
def PySem.W.Fast.tw7752672569386848830 : Unit := ()
def PySem.W.Fast.tw11688243333483632563 : Unit := ()
def PySem.W.Fast.tw495565499620338194 : Unit := ()
def PySem.W.Fast.tw13121554147930726219 : Unit := ()
def PySem.W.Fast.tw1698000973466877971 : Unit := ()
def PySem.W.Fast.tw210734747200584507 : Unit := ()
def PySem.W.Fast.tw2373071349701155565 : Unit := ()
def PySem.W.Fast.tw4338507944804832868 : Unit := ()
def PySem.W.Fast.tw10199640268198320242 : Unit := ()
def PySem.W.Fast.tw3792267945070651461 : Unit := ()
def PySem.W.Fast.tw1686824492564161093 : Unit := ()
def PySem.W.Fast.tw15270567166026047397 : Unit := ()
def PySem.W.Fast.tw14293284581288445971 : Unit := ()
def PySem.W.Fast.tw5098969750786735343 : Unit := ()
def PySem.W.Fast.tw10537688141913366951 : Unit := ()
def PySem.W.Fast.tw7419587996025420004 : Unit := ()
def PySem.W.Fast.tw17480571813958555678 : Unit := ()
def PySem.W.Fast.tw3639727778799346149 : Unit := ()
def PySem.W.Fast.tw15944062143688792810 : Unit := ()
def PySem.W.Fast.tw14009661775642062208 : Unit := ()
def PySem.W.Fast.tw7046306311188186753 : Unit := ()
def PySem.W.Fast.tw14862113964426922211 : Unit := ()
def PySem.W.Fast.tw1863166205035223879 : Unit := ()
def PySem.W.Fast.tw5141945983760197104 : Unit := ()
def PySem.W.Fast.tw7652308830997150847 : Unit := ()
def PySem.W.Fast.tw9902718411788424092 : Unit := ()
def PySem.W.Fast.tw2930047100060581023 : Unit := ()
def PySem.W.Fast.tw15062100816644224318 : Unit := ()
def PySem.W.Fast.tw9795689427030099053 : Unit := ()
def PySem.W.Fast.tw15561271613064047674 : Unit := ()
def PySem.W.Fast.tw10673344728525235814 : Unit := ()
def PySem.W.Fast.tw9137925978321515592 : Unit := ()
def PySem.W.Fast.tw5028758027923971796 : Unit := ()
def PySem.W.Fast.tw5330545072788166711 : Unit := ()
def PySem.W.Fast.tw14904108942532640208 : Unit := ()
def PySem.W.Fast.tw16541843028237091477 : Unit := ()
def PySem.W.Fast.tw17144272281350707318 : Unit := ()
def PySem.W.Fast.tw8830111940216827772 : Unit := ()
def PySem.W.Fast.tw6034804114509435685 : Unit := ()
def PySem.W.Fast.tw87743085855679327 : Unit := ()
def PySem.W.Fast.tw5674073230512293113 : Unit := ()
def PySem.W.Fast.tw4954181267223392127 : Unit := ()
def PySem.W.Fast.tw866390234006524791 : Unit := ()
def PySem.W.Fast.tw4457691554106913254 : Unit := ()
def PySem.W.Fast.tw13032371608976563764 : Unit := ()
def PySem.W.Fast.tw12831720315400167989 : Unit := ()
def PySem.W.Fast.tw2333848845203387920 : Unit := ()
def PySem.W.Fast.tw2162440318343602750 : Unit := ()
def PySem.W.Fast.tw8544578327771832127 : Unit := ()
def PySem.W.Fast.tw6893613232161516581 : Unit := ()
def PySem.W.Fast.tw14408017304287221008 : Unit := ()
def PySem.W.Fast.tw2415049763264844237 : Unit := ()
def PySem.W.Fast.tw14106307076735123887 : Unit := ()
def PySem.W.Fast.tw18146170575289184649 : Unit := ()
def PySem.W.Fast.tw11636010513607346231 : Unit := ()
def PySem.W.Fast.tw4684427374260283484 : Unit := ()
def PySem.W.Fast.tw12782712230479062601 : Unit := ()
def PySem.W.Fast.tw13459956928462349750 : Unit := ()
def PySem.W.Fast.tw1663071366771376446 : Unit := ()
def PySem.W.Fast.tw13601616901928459369 : Unit := ()
def PySem.W.Fast.tw4380239242120333815 : Unit := ()
def PySem.W.Fast.tw11292888818407733854 : Unit := ()
def PySem.W.Fast.tw11634818559041778522 : Unit := ()
def PySem.W.Fast.tw13553207697817438557 : Unit := ()
def PySem.W.Fast.tw15482563675853967306 : Unit := ()
def PySem.W.Fast.tw576832867268593914 : Unit := ()
def PySem.W.Fast.tw11388864459751679805 : Unit := ()
def PySem.W.Fast.tw4723764834834383479 : Unit := ()
def PySem.W.Fast.tw4170995893156392104 : Unit := ()
def PySem.W.Fast.tw3858958614666883625 : Unit := ()
def PySem.W.Fast.tw1090985385857111766 : Unit := ()
def PySem.W.Fast.tw14670568527754834583 : Unit := ()
def PySem.W.Fast.tw15595812580387440565 : Unit := ()
def PySem.W.Fast.tw14186894702015278675 : Unit := ()
def PySem.W.Fast.tw14642998796047376414 : Unit := ()
def PySem.W.Fast.tw10647401864861703125 : Unit := ()
def PySem.W.Fast.tw2626511432838939975 : Unit := ()
def PySem.W.Fast.tw14741376055311810657 : Unit := ()
def PySem.W.Fast.tw14708312600431625565 : Unit := ()
def PySem.W.Fast.tw10736075256436438464 : Unit := ()
def PySem.W.Fast.tw10934159924843114491 : Unit := ()
def PySem.W.Fast.tw17535830893317597382 : Unit := ()
def PySem.W.Fast.tw12685860456182997005 : Unit := ()
def PySem.W.Fast.tw9239358742150291707 : Unit := ()
def PySem.W.Fast.tw9171968421065543899 : Unit := ()
def PySem.W.Fast.tw16657725370514100890 : Unit := ()
def PySem.W.Fast.tw15648354319667962225 : Unit := ()
def PySem.W.Fast.tw5416628442560821400 : Unit := ()
def PySem.W.Fast.tw17714391178333654866 : Unit := ()
def PySem.W.Fast.tw11256950765890646388 : Unit := ()
def PySem.W.Fast.tw9430268705064638871 : Unit := ()
def PySem.W.Fast.tw2286438396731660297 : Unit := ()
def PySem.W.Fast.tw12451563514805789829 : Unit := ()
def PySem.W.Fast.tw17573966362989334688 : Unit := ()
def PySem.W.Fast.tw14147439648696648007 : Unit := ()
def PySem.W.Fast.tw8244014887639211399 : Unit := ()
def PySem.W.Fast.tw13728654660262425924 : Unit := ()
def PySem.W.Fast.tw4034956854290414314 : Unit := ()
def PySem.W.Fast.tw4551892976368340136 : Unit := ()
def PySem.W.Fast.tw4437061348925076788 : Unit := ()
def PySem.W.Fast.tw5308870829421135989 : Unit := ()
def PySem.W.Fast.tw3795157634002666344 : Unit := ()
def PySem.W.Fast.tw10392186518732970990 : Unit := ()
def PySem.W.Fast.tw17445298595821316239 : Unit := ()
def PySem.W.Fast.tw8226638940103321929 : Unit := ()
def PySem.W.Fast.tw1005481726064922365 : Unit := ()
def PySem.W.Fast.tw1971526752163903787 : Unit := ()
def PySem.W.Fast.tw17379206918756428223 : Unit := ()
def PySem.W.Fast.tw8971708667974144425 : Unit := ()
def PySem.W.Fast.tw2823385483073938299 : Unit := ()
def PySem.W.Fast.tw11723120178975406587 : Unit := ()
def PySem.W.Fast.tw1871634875334194595 : Unit := ()
def PySem.W.Fast.tw4895444467155465797 : Unit := ()
def PySem.W.Fast.tw14070292856397800915 : Unit := ()
def PySem.W.Fast.tw2639471483159486094 : Unit := ()
def PySem.W.Fast.tw2682585198246938554 : Unit := ()
def PySem.W.Fast.tw8483734731721479257 : Unit := ()
def PySem.W.Fast.tw17599931205669983501 : Unit := ()
def PySem.W.Fast.tw6453327914555384788 : Unit := ()
def PySem.W.Fast.tw2766447192724436794 : Unit := ()
def PySem.W.Fast.tw14942668941027241436 : Unit := ()
def PySem.W.Fast.tw7799684614969251620 : Unit := ()
def PySem.W.Fast.tw5930179690562941243 : Unit := ()
def PySem.W.Fast.tw13601796504546175759 : Unit := ()
def PySem.W.Fast.tw1224158217920592831 : Unit := ()
def PySem.W.Fast.tw15661912902772387030 : Unit := ()
def PySem.W.Fast.tw12998275090203373238 : Unit := ()
def PySem.W.Fast.tw8544580583029997143 : Unit := ()
def PySem.W.Fast.tw8795606187284250517 : Unit := ()
def PySem.W.Fast.tw10038732116507335384 : Unit := ()
def PySem.W.Fast.tw16989766318240845632 : Unit := ()
def PySem.W.Fast.tw8209369597350307842 : Unit := ()
def PySem.W.Fast.tw15571303014807872078 : Unit := ()
def PySem.W.Fast.tw170353980091005205 : Unit := ()
def PySem.W.Fast.tw17230630253049301774 : Unit := ()
def PySem.W.Fast.tw12044842560573018355 : Unit := ()
def PySem.W.Fast.tw1446597358597932794 : Unit := ()
def PySem.W.Fast.tw17262112904878044985 : Unit := ()
def PySem.W.Fast.tw16198092113315529559 : Unit := ()
def PySem.W.Fast.tw319466535250993509 : Unit := ()
def PySem.W.Fast.tw2437521552577896886 : Unit := ()
def PySem.W.Fast.tw12105023453124045817 : Unit := ()
def PySem.W.Fast.tw14086558271721943605 : Unit := ()
def PySem.W.Fast.tw9432486100110488271 : Unit := ()
def PySem.W.Fast.tw594077159038084118 : Unit := ()
def PySem.W.Fast.tw17888809377521223710 : Unit := ()
def PySem.W.Fast.tw514127194244706092 : Unit := ()
def PySem.W.Fast.tw12810077558046354561 : Unit := ()
def PySem.W.Fast.tw6616021968498385909 : Unit := ()
def PySem.W.Fast.tw11160699175347690050 : Unit := ()
def PySem.W.Fast.tw7460458300461552062 : Unit := ()
def PySem.W.Fast.tw12957665428210827040 : Unit := ()
def PySem.W.Fast.tw4550840579839463533 : Unit := ()
def PySem.W.Fast.tw9951011260071299551 : Unit := ()
def PySem.W.Fast.tw16795859372624905223 : Unit := ()
def PySem.W.Fast.tw13263925518852351053 : Unit := ()
def PySem.W.Fast.tw15278079563118764720 : Unit := ()
def PySem.W.Fast.tw7924702815940297516 : Unit := ()
def PySem.W.Fast.tw15842313061684983614 : Unit := ()
def PySem.W.Fast.tw9446531406196514032 : Unit := ()
def PySem.W.Fast.tw7661580541998882726 : Unit := ()
def PySem.W.Fast.tw2604855603320491528 : Unit := ()
def PySem.W.Fast.tw4946657042087281769 : Unit := ()
def PySem.W.Fast.tw2509535865824561342 : Unit := ()
def PySem.W.Fast.tw16276671766179976176 : Unit := ()
def PySem.W.Fast.tw2549965980408794390 : Unit := ()
def PySem.W.Fast.tw15123129415803331814 : Unit := ()
def PySem.W.Fast.tw3576330952413159096 : Unit := ()
def PySem.W.Fast.tw9414684857729468841 : Unit := ()
def PySem.W.Fast.tw12065653307554368125 : Unit := ()
def PySem.W.Fast.tw14003078513697909360 : Unit := ()
def PySem.W.Fast.tw4781230271405410955 : Unit := ()
def PySem.W.Fast.tw224229573745044288 : Unit := ()
def PySem.W.Fast.tw3024693189285095696 : Unit := ()
def PySem.W.Fast.tw16098678180643369570 : Unit := ()
def PySem.W.Fast.tw2286637639386076660 : Unit := ()
def PySem.W.Fast.tw10073776047475609768 : Unit := ()
def PySem.W.Fast.tw3657815063931462169 : Unit := ()
def PySem.W.Fast.tw2713797413077525759 : Unit := ()
def PySem.W.Fast.tw15308698078523364092 : Unit := ()
def PySem.W.Fast.tw8761660735185741813 : Unit := ()
def PySem.W.Fast.tw12637491208384999477 : Unit := ()
def PySem.W.Fast.tw5266320083089810842 : Unit := ()
def PySem.W.Fast.tw3987061682779254445 : Unit := ()
def PySem.W.Fast.tw11135838141204420910 : Unit := ()
def PySem.W.Fast.tw16250916290600870686 : Unit := ()
namespace U
open PySem PySem.W
def hkLive (x : Obj) : Option Obj := match x with
  | ⟨_, _, .freed, _⟩ => none
  | o => some o
theorem hkLive_get {h : Heap} {a : Addr} {x : Obj} (q : h.objs[a]? = some x) : h.get? a = hkLive x := by
  unfold Heap.get?
  rw [q]
  obtain ⟨c, d, dt, sl⟩ := x
  cases dt <;> rfl
noncomputable def hkScan (l : List Obj) : Nat → List Nat → List (Option Obj) :=
  @List.rec Obj (fun _ => Nat → List Nat → List (Option Obj)) (fun _ as => as.map fun _ => none)
    (fun x _ ih k as => @List.rec Nat (fun _ => List (Option Obj)) [] (fun a t _ => @Bool.rec (fun _ => List (Option Obj)) (ih (k + 1) (a :: t)) (hkLive x :: ih (k + 1) t) (Nat.beq a k)) as) l
theorem hkScan_nil (k : Nat) (as : List Nat) : hkScan [] k as = as.map fun _ => none := rfl
theorem hkScan_cons0 (x : Obj) (l : List Obj) (k : Nat) : hkScan (x :: l) k [] = [] := rfl
theorem hkScan_cons (x : Obj) (l : List Obj) (k a : Nat) (t : List Nat) : hkScan (x :: l) k (a :: t) = if a = k then hkLive x :: hkScan l (k + 1) t else hkScan l (k + 1) (a :: t) := by
  show @Bool.rec (fun _ => List (Option Obj)) (hkScan l (k + 1) (a :: t)) (hkLive x :: hkScan l (k + 1) t) (Nat.beq a k) = _
  cases h : Nat.beq a k with
  | true => rw [if_pos (Nat.eq_of_beq_eq_true h)]
  | false => rw [if_neg (Nat.ne_of_beq_eq_false h)]
theorem hkScan_at : ∀ (l : List Obj) (k : Nat) (as : List Nat) (i a : Nat) (o : Obj), as[i]? = some a → (hkScan l k as)[i]? = some (some o) → k ≤ a ∧ ∃ y, l[a - k]? = some y ∧ hkLive y = some o
  | [], k, as, i, a, o, h1, h2 => by
    rw [hkScan_nil, List.getElem?_map, h1] at h2
    cases h2
  | x :: l, k, [], i, a, o, h1, h2 => by simp at h1
  | x :: l, k, b :: t, i, a, o, h1, h2 => by
    rw [hkScan_cons] at h2
    have up : ∀ {as : List Nat} {j : Nat}, as[j]? = some a → (hkScan l (k + 1) as)[j]? = some (some o) → k ≤ a ∧ ∃ y, (x :: l)[a - k]? = some y ∧ hkLive y = some o := fun g1 g2 => by
      obtain ⟨q1, y, q2, q3⟩ := hkScan_at l (k + 1) _ _ a o g1 g2
      refine ⟨by omega, y, ?_, q3⟩
      rw [show a - k = (a - (k + 1)) + 1 by omega, List.getElem?_cons_succ]
      exact q2
    split at h2
    · rename_i hb
      cases i with
      | zero =>
        rw [List.getElem?_cons_zero] at h1 h2
        cases h1
        subst hb
        exact ⟨Nat.le_refl _, x, by rw [Nat.sub_self]; rfl, Option.some.inj h2⟩
      | succ j =>
        rw [List.getElem?_cons_succ] at h1 h2
        exact up h1 h2
    · exact up h1 h2
theorem hk_of {K : Params → Frag} {as : List Addr} (e : ∀ P, as = (K P).map (·.1)) (w : World) (s : Shared) (x : hkScan s.heap.objs.toList 0 as = (K w.params).map fun p => some p.2) : InK K w s.heap := by
  refine InK.of e w s ?_
  refine List.ext_getElem? fun i => ?_
  have ei : as[i]? = ((K w.params)[i]?).map (·.1) := by rw [e w.params, List.getElem?_map]
  have xi : (hkScan s.heap.objs.toList 0 as)[i]? = ((K w.params)[i]?).map (fun p => some p.2) := by rw [x, List.getElem?_map]
  rw [List.getElem?_map, List.getElem?_map]
  cases hp : (K w.params)[i]? with
  | none => rw [hp] at ei; rw [ei]; rfl
  | some p =>
    rw [hp] at ei xi
    rw [ei]
    obtain ⟨_, y, q, hy⟩ := hkScan_at _ 0 as i p.1 p.2 ei xi
    rw [Nat.sub_zero, Array.getElem?_toList] at q
    show some (s.heap.get? p.1) = some (some p.2)
    rw [hkLive_get q, hy]
noncomputable def hkHook (K : Params → Frag) (as : List Addr) (e : ∀ P, as = (K P).map (·.1)) : Hook :=
  ⟨List (Option Obj), fun s => hkScan s.heap.objs.toList 0 as, fun w => (K w.params).map fun p => some p.2, InK K, hk_of e, InK.keeps⟩
theorem hkIn_of {K : Params → Frag} {as : List Addr} {e : ∀ P, as = (K P).map (·.1)} {w : World} {h : Heap} (Y : (hkHook K as e).says w h) : (K w.params).In h := Y
end U
local macro_rules | `(tactic| o_head ($_:ident $k $a $e)) => `(tactic| o_head (@U.hkHook $k $a (by as_aux_lemma => exact $e)))
set_option maxRecDepth 100000 in
set_option maxHeartbeats 0 in
theorem PySem.Challenge.cw_unseenflips_k04_texts_of_no_rule_holds : PySem.Challenge.rw_unseenflips_k04_texts_of_no_rule.Holds := by
  w_on; o_law; k_head; (case hw => w_witness2)
  k_fill
  refine U.walk (l := PySem.Challenge.rw_unseenflips_k04_texts_of_no_rule) rfl rfl (fun w h Y => U.hkIn_of Y) ?F
  case F =>
    intro w mg fa h KX G hmg
    refine' U.all_mk KX G hmg ?a_is_sequence ?l_is_sequence ?c_is_sequence ?k_is_sequence ?a_is_word ?l_is_word ?c_is_word ?k_is_word ?a_is_bit ?l_is_bit ?c_is_bit ?k_is_bit ?a_tail ?l_tail ?c_tail ?k_tail ?a_is_stuff ?l_is_stuff ?c_is_stuff ?k_is_stuff ?a_are_stuffs ?l_are_stuffs ?c_are_stuffs ?k_are_stuffs ?a_stuff_in ?l_stuff_in ?c_stuff_in ?k_stuff_in ?a_l_seed ?l_l_seed ?c_l_seed ?k_l_seed ?a_l_choose ?l_l_choose ?c_l_choose ?k_l_choose ?a_l_one_of ?l_l_one_of ?c_l_one_of ?k_l_one_of ?a_l_word ?l_l_word ?c_l_word ?k_l_word ?a_l_put ?l_l_put ?c_l_put ?k_l_put ?a_l_is_rule ?l_l_is_rule ?c_l_is_rule ?k_l_is_rule ?a_l_rule ?l_l_rule ?c_l_rule ?k_l_rule ?a_l_made ?l_l_made ?c_l_made ?k_l_made ?a_l_leaf ?l_l_leaf ?c_l_leaf ?k_l_leaf ?a_l_any ?l_l_any ?c_l_any ?k_l_any ?a_l_is_bits ?l_l_is_bits ?c_l_is_bits ?k_l_is_bits ?a_l_is_form ?l_l_is_form ?c_l_is_form ?k_l_is_form ?a_l_heard ?l_l_heard ?c_l_heard ?k_l_heard ?a_l_bent ?l_l_bent ?c_l_bent ?k_l_bent ?a_law ?l_law ?c_law ?k_law ?aC_Rule ?pg_Rule ?hd_Rule ?po_Rule ?sa_Rule ?mk_Rule ?kc_Rule ?n_Rule_flag ?n_Rule_stuffs ?a_Rule_put ?i_Rule_put ?l_Rule_put ?c_Rule_put ?k_Rule_put ?a_Rule_longest ?g_Rule_longest ?t_Rule_longest ?r_Rule_longest ?l_Rule_longest ?c_Rule_longest ?a_Rule_put_in ?i_Rule_put_in ?l_Rule_put_in ?c_Rule_put_in ?k_Rule_put_in ?a_Rule_is_endless ?i_Rule_is_endless ?l_Rule_is_endless ?c_Rule_is_endless ?k_Rule_is_endless ?a_Rule_init ?i_Rule_init ?l_Rule_init ?c_Rule_init ?k_Rule_init ?dl_Rule_init ?dlE_Rule ?a_Rule_read ?r_Rule_read ?fi_Rule_read ?l_Rule_read ?c_Rule_read ?rd_Rule ?ga_Rule ?a_Rule_str ?i_Rule_str ?l_Rule_str ?c_Rule_str ?k_Rule_str ?aC_InvalidText ?elk_InvalidText ?erf_InvalidText ?sa_InvalidText ?exC_InvalidText ?tyC_InvalidText ?kC_InvalidText ?no_InvalidText ?a_InvalidText ?t_InvalidText ?lk_InvalidText ?cd_InvalidText ?cell_InvalidText ?code_InvalidText ?cfl_InvalidText ?fl_InvalidText ?tp_InvalidText ?sub_InvalidText ?sup_InvalidText ?opq_InvalidText ?ini_InvalidText ?ve_InvalidText ?ehd_InvalidText ?esb_InvalidText ?aC_InvalidRule ?elk_InvalidRule ?erf_InvalidRule ?sa_InvalidRule ?exC_InvalidRule ?tyC_InvalidRule ?kC_InvalidRule ?no_InvalidRule ?a_InvalidRule ?t_InvalidRule ?lk_InvalidRule ?cd_InvalidRule ?cell_InvalidRule ?code_InvalidRule ?cfl_InvalidRule ?fl_InvalidRule ?tp_InvalidRule ?sub_InvalidRule ?sup_InvalidRule ?opq_InvalidRule ?ini_InvalidRule ?ve_InvalidRule ?ehd_InvalidRule ?esb_InvalidRule ?ega_InvalidText ?egg_InvalidText ?ega_InvalidRule ?egg_InvalidRule ?mro_Rule ?cls_Rule ?clg_X ?clt_X ?kon_rs ?gBITS ?esb_rt ?aGI_FlipError ?aGI_InvalidRule ?xg_InvalidText ?xk_InvalidText ?xs_InvalidText ?xd_InvalidText ?xa_InvalidText ?xm_InvalidText ?kon_tf ?kon_tr ?z_len ?z_abs ?z_int ?z_range ?z_max ?z_min ?z_enumerate ?z_zip ?z_dict ?z_list ?z_tuple ?z_isinstance ?z_bool ?z_str ?z_all ?z_any ?z_sum ?z_sorted ?z_repr
    (case a_is_sequence => k_is)
    (case l_is_sequence => k_is)
    (case c_is_sequence => k_is)
    (case k_is_sequence => k_is)
    (case a_is_word => k_is)
    (case l_is_word => k_is)
    (case c_is_word => k_is)
    (case k_is_word => k_is)
    (case a_is_bit => k_is)
    (case l_is_bit => k_is)
    (case c_is_bit => k_is)
    (case k_is_bit => k_is)
    (case a_tail => k_is)
    (case l_tail => k_is)
    (case c_tail => k_is)
    (case k_tail => k_is)
    (case a_is_stuff => k_is)
    (case l_is_stuff => k_is)
    (case c_is_stuff => k_is)
    (case k_is_stuff => k_is)
    (case a_are_stuffs => k_is)
    (case l_are_stuffs => k_is)
    (case c_are_stuffs => k_is)
    (case k_are_stuffs => k_is)
    (case a_stuff_in => k_is)
    (case l_stuff_in => k_is)
    (case c_stuff_in => k_is)
    (case k_stuff_in => k_is)
    (case a_l_seed => k_is)
    (case l_l_seed => k_is)
    (case c_l_seed => k_is)
    (case k_l_seed => k_is)
    (case a_l_choose => k_is)
    (case l_l_choose => k_is)
    (case c_l_choose => k_is)
    (case k_l_choose => k_is)
    (case a_l_one_of => k_is)
    (case l_l_one_of => k_is)
    (case c_l_one_of => k_is)
    (case k_l_one_of => k_is)
    (case a_l_word => k_is)
    (case l_l_word => k_is)
    (case c_l_word => k_is)
    (case k_l_word => k_is)
    (case a_l_put => k_is)
    (case l_l_put => k_is)
    (case c_l_put => k_is)
    (case k_l_put => k_is)
    (case a_l_is_rule => k_is)
    (case l_l_is_rule => k_is)
    (case c_l_is_rule => k_is)
    (case k_l_is_rule => k_is)
    (case a_l_rule => k_is)
    (case l_l_rule => k_is)
    (case c_l_rule => k_is)
    (case k_l_rule => k_is)
    (case a_l_made => k_is)
    (case l_l_made => k_is)
    (case c_l_made => k_is)
    (case k_l_made => k_is)
    (case a_l_leaf => k_is)
    (case l_l_leaf => k_is)
    (case c_l_leaf => k_is)
    (case k_l_leaf => k_is)
    (case a_l_any => k_is)
    (case l_l_any => k_is)
    (case c_l_any => k_is)
    (case k_l_any => k_is)
    (case a_l_is_bits => k_is)
    (case l_l_is_bits => k_is)
    (case c_l_is_bits => k_is)
    (case k_l_is_bits => k_is)
    (case a_l_is_form => k_is)
    (case l_l_is_form => k_is)
    (case c_l_is_form => k_is)
    (case k_l_is_form => k_is)
    (case a_l_heard => k_is)
    (case l_l_heard => k_is)
    (case c_l_heard => k_is)
    (case k_l_heard => k_is)
    (case a_l_bent => k_is)
    (case l_l_bent => k_is)
    (case c_l_bent => k_is)
    (case k_l_bent => k_is)
    (case a_law => k_is)
    (case l_law => k_is)
    (case c_law => k_is)
    (case k_law => k_is)
    (case aC_Rule => k_is)
    (case pg_Rule => k_is)
    (case hd_Rule => k_is)
    (case po_Rule => k_is)
    (case sa_Rule => k_is)
    (case mk_Rule => k_is)
    (case kc_Rule => k_is)
    (case n_Rule_flag => k_is)
    (case n_Rule_stuffs => k_is)
    (case a_Rule_put => k_is)
    (case i_Rule_put => k_is)
    (case l_Rule_put => k_is)
    (case c_Rule_put => k_is)
    (case k_Rule_put => k_is)
    (case a_Rule_longest => k_is)
    (case g_Rule_longest => k_is)
    (case t_Rule_longest => k_is)
    (case r_Rule_longest => k_is)
    (case l_Rule_longest => k_is)
    (case c_Rule_longest => k_is)
    (case a_Rule_put_in => k_is)
    (case i_Rule_put_in => k_is)
    (case l_Rule_put_in => k_is)
    (case c_Rule_put_in => k_is)
    (case k_Rule_put_in => k_is)
    (case a_Rule_is_endless => k_is)
    (case i_Rule_is_endless => k_is)
    (case l_Rule_is_endless => k_is)
    (case c_Rule_is_endless => k_is)
    (case k_Rule_is_endless => k_is)
    (case a_Rule_init => k_is)
    (case i_Rule_init => k_is)
    (case l_Rule_init => k_is)
    (case c_Rule_init => k_is)
    (case k_Rule_init => k_is)
    (case dl_Rule_init => k_is)
    (case dlE_Rule => k_is)
    (case a_Rule_read => k_is)
    (case r_Rule_read => k_is)
    (case fi_Rule_read => k_is)
    (case l_Rule_read => k_is)
    (case c_Rule_read => k_is)
    (case rd_Rule => k_is)
    (case ga_Rule => k_is)
    (case a_Rule_str => k_is)
    (case i_Rule_str => k_is)
    (case l_Rule_str => k_is)
    (case c_Rule_str => k_is)
    (case k_Rule_str => k_is)
    (case aC_InvalidText => k_is)
    (case elk_InvalidText => k_is)
    (case erf_InvalidText => decide +kernel)
    (case sa_InvalidText => k_is)
    (case exC_InvalidText => k_is)
    (case tyC_InvalidText => k_is)
    (case kC_InvalidText => k_is)
    (case no_InvalidText => k_is)
    (case a_InvalidText => k_is)
    (case t_InvalidText => k_is)
    (case lk_InvalidText => k_is)
    (case cd_InvalidText => k_is)
    (case cell_InvalidText => k_is)
    (case code_InvalidText => k_is)
    (case cfl_InvalidText => exact rfl)
    (case fl_InvalidText => decide +kernel)
    (case tp_InvalidText => decide +kernel)
    (case sub_InvalidText => k_is)
    (case sup_InvalidText => k_is)
    (case opq_InvalidText => k_is)
    (case ini_InvalidText => kernel_rfl)
    (case ve_InvalidText => k_is)
    (case ehd_InvalidText => k_is)
    (case esb_InvalidText => k_is)
    (case aC_InvalidRule => k_is)
    (case elk_InvalidRule => k_is)
    (case erf_InvalidRule => decide +kernel)
    (case sa_InvalidRule => k_is)
    (case exC_InvalidRule => k_is)
    (case tyC_InvalidRule => k_is)
    (case kC_InvalidRule => k_is)
    (case no_InvalidRule => k_is)
    (case a_InvalidRule => k_is)
    (case t_InvalidRule => k_is)
    (case lk_InvalidRule => k_is)
    (case cd_InvalidRule => k_is)
    (case cell_InvalidRule => k_is)
    (case code_InvalidRule => k_is)
    (case cfl_InvalidRule => exact rfl)
    (case fl_InvalidRule => decide +kernel)
    (case tp_InvalidRule => decide +kernel)
    (case sub_InvalidRule => k_is)
    (case sup_InvalidRule => k_is)
    (case opq_InvalidRule => k_is)
    (case ini_InvalidRule => kernel_rfl)
    (case ve_InvalidRule => k_is)
    (case ehd_InvalidRule => k_is)
    (case esb_InvalidRule => k_is)
    (case ega_InvalidText => k_is)
    (case egg_InvalidText => k_is)
    (case ega_InvalidRule => k_is)
    (case egg_InvalidRule => k_is)
    (case mro_Rule => k_is)
    (case cls_Rule => k_is)
    (case clg_X => k_is)
    (case clt_X => k_is)
    (case kon_rs => kernel_rfl)
    (case gBITS => k_is)
    (case esb_rt => k_is)
    (case aGI_FlipError => k_is)
    (case aGI_InvalidRule => k_is)
    (case xg_InvalidText => k_is)
    (case xk_InvalidText => k_is)
    (case xs_InvalidText => k_is)
    (case xd_InvalidText => k_is)
    (case xa_InvalidText => k_is)
    (case xm_InvalidText => k_is)
    (case kon_tf => kernel_rfl)
    (case kon_tr => kernel_rfl)
    (case z_len => k_is)
    (case z_abs => k_is)
    (case z_int => k_is)
    (case z_range => k_is)
    (case z_max => k_is)
    (case z_min => k_is)
    (case z_enumerate => k_is)
    (case z_zip => k_is)
    (case z_dict => k_is)
    (case z_list => k_is)
    (case z_tuple => k_is)
    (case z_isinstance => k_is)
    (case z_bool => k_is)
    (case z_str => k_is)
    (case z_all => k_is)
    (case z_any => k_is)
    (case z_sum => k_is)
    (case z_sorted => k_is)
    (case z_repr => k_is)
#print axioms PySem.Challenge.cw_unseenflips_k04_texts_of_no_rule_holds